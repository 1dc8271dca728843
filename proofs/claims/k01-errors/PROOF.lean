import PyProof.Rows.All
import Wide.All
import OpenK.AllK
import Wide.FinOn
import KE.KStateDown
import Lean
import HandS.ForMost
import HandS.ForExc
import HandS.Defaults
import HandS.Property
import HandS.IsInst
import HandS.Head0
import HandS.Head1
import HandS.Head2
import HandS.HeadEnd
import HandS.HeadHook1
import HandS.HeadHook2
import HandS.FStr
import HandS.Flow
import HandS.MakeKw
import HandS.MakeKwOnly
import HandS.ExcField
import HandS.ExcInit
import HandS.Star
import HandS.Evl
import HandS.TupAny
import HandS.TupMul
import HandS.Style
import HandS.Wide
import HandS.WideBits
import HandS.Strs
import HandS.StrMore
import HandS.CallSlots
import KE.KCallOwn
import PyProof.InstNe
import KE.KExcSuper
import HandS.TryOnly
import HandS.Steps
import HandS.ClsMeth
import HandS.Words
import KE.KExcIs
import HandS.ExcValue
import HandS.ExcIs
import PyProof.ReprLen
import PySem.Challenge.RW_strayjoins_k01_errors_and_numbers
set_option Elab.async false
set_option linter.all false
set_option maxRecDepth 100000
set_option maxHeartbeats 4000000
/-! SJHead: facts of the top's end, read by one observation: a list of tests over the written part, and the defs by any path. -/
namespace SJ
open PySem PySem.Spec PyProof.Rows L2 He
/-- a def and the path to it -/
structure DD where
  ad : PySem.W.Frag → Addr
  name : Str
  qual : Str
  params : Arguments
  body : List Stmt
  scope : Scope
  dfl : List Dv := []
def fnA (K : PySem.W.Frag) (a : Addr) : FnW := match K.lookup a with
  | some ⟨_, _, .func fd, _⟩ => some (fd.name, fd.qualname, fd.params, fd.body, fd.scope, fd.globals, fd.closure, fd.builtins)
  | _ => none
def DD.val (d : DD) : FnW := some (d.name, d.qual, d.params, .stmts d.body, d.scope, mainGlobals, [], builtinsNs)
def DD.dvs (K : PySem.W.Frag) (d : DD) : List V := d.dfl.map (Dv.v K)
def DD.ok (K : PySem.W.Frag) (d : DD) : Bool := PySem.W.keepIn K (.ref (d.ad K)) && (match K.lookup (d.ad K) with
  | some ⟨_, _, .func fd, _⟩ => PySem.W.codeIn K fd.code d.qual && dflB K fd.defaults (d.dvs K)
  | _ => false)
theorem DD.funD {K : PySem.W.Frag} {d : DD} (e : fnA K (d.ad K) = d.val) (c : d.ok K = true) : ∃ fd, FunD K d.name d.qual d.params d.body d.scope (d.dvs K) [] (d.ad K) fd := by
  obtain ⟨kp, c2⟩ := ba c
  unfold fnA at e
  cases q : K.lookup (d.ad K) with
  | none => rw [q] at c2; cases c2
  | some o =>
    obtain ⟨oc, od, dt, osl⟩ := o
    rw [q] at c2 e
    cases dt with
    | func fd =>
      obtain ⟨m1, m2, m3, m4, m5, m6, m7, m8, m9, m10, m11, m12, m13, m14, m15⟩ := fd
      have e2 : (some (m1, m2, m3, m4, m5, m6, m7, m15) : FnW) = some (d.name, d.qual, d.params, .stmts d.body, d.scope, mainGlobals, [], builtinsNs) := e
      simp only [Option.some.injEq, Prod.mk.injEq] at e2
      obtain ⟨g1, g2, g3, g4, g5, g6, g7, g8⟩ := e2
      subst g1 g2 g3 g4 g5 g6 g7 g8
      obtain ⟨k1, k3⟩ := ba (show (PySem.W.codeIn K m13 d.qual && dflB K m8 (d.dvs K)) = true from c2)
      exact ⟨_, ⟨oc, od, m8, m9, m10, m11, m12, m13, m14, osl, rfl, q, k1, dflB_ok k3, .inl rfl⟩, kp⟩
    | _ => cases c2
abbrev Tst := PySem.W.Frag → Bool
abbrev AlS : Type := Bool × List FnW
def obsS (fa : List Tst) (fn : List DD) (K : PySem.W.Frag) : AlS := ((fa.all fun f => f K) && fn.all fun d => d.ok K, fn.map fun d => fnA K (d.ad K))
def valS (fn : List DD) : AlS := (true, fn.map DD.val)
def SaysS (fa : List Tst) (fn : List DD) (K : PySem.W.Frag) : Prop := obsS fa fn K = valS fn
def obsSG (n : Nat) (fa : List Tst) (fn : List DD) (g : Addr → Option Obj) : AlS := obsS fa fn (frG g (asD g n))
def hookS (n : Nat) (fa : List Tst) (fn : List DD) : PySem.W.Hook where
  α := AlS
  obs := fun s => obsSG n fa fn s.heap.get?
  val := fun _ => valS fn
  says := fun _ h => ∃ K : PySem.W.Frag, K.In h ∧ SaysS fa fn K
  of := fun _ _ e => ⟨_, frG_in, e⟩
  keeps := fun _ _ _ ⟨K, hK, c⟩ k => ⟨K, PySem.W.Frag.In.keeps hK k, c⟩
theorem obsSG_eq {n : Nat} {fa : List Tst} {fn : List DD} {g : Addr → Option Obj} {s : Shared} (h : ∀ a, g a = s.heap.get? a) : obsSG n fa fn g = (hookS n fa fn).obs s := by
  have e : g = s.heap.get? := funext h
  rw [e] <;> rfl
section
variable {fa : List Tst} {fn : List DD} {K : PySem.W.Frag}
theorem SaysS.fact (c : SaysS fa fn K) (i : Nat) {f : Tst} (h : fa[i]? = some f := by rfl) : f K = true := by
  have c1 := (ba (show ((fa.all fun f => f K) && fn.all fun d => d.ok K) = true from congrArg (fun z : AlS => z.1) c)).1
  exact List.all_eq_true.mp c1 f (List.mem_of_getElem? h)
theorem SaysS.def_ (c : SaysS fa fn K) (i : Nat) {d : DD} (h : fn[i]? = some d := by rfl) : ∃ fd, FunD K d.name d.qual d.params d.body d.scope (d.dvs K) [] (d.ad K) fd := by
  have c2 := (ba (show ((fa.all fun f => f K) && fn.all fun d => d.ok K) = true from congrArg (fun z : AlS => z.1) c)).2
  have e : fn.map (fun d => fnA K (d.ad K)) = fn.map DD.val := congrArg (fun z : AlS => z.2) c
  have e2 : (fn.map fun d => fnA K (d.ad K))[i]? = (fn.map DD.val)[i]? := by rw [e]
  rw [List.getElem?_map, List.getElem?_map, h] at e2
  exact DD.funD (Option.some.inj e2) (List.all_eq_true.mp c2 d (List.mem_of_getElem? h))
end
/-- a property's own address, its getter -/
def pgA (x f : Str) (K : PySem.W.Frag) : Addr := match PySem.W.recIn K (ma K (ga K x) f) "property" with
  | some (.ref g :: _) => g
  | _ => 0
def propB (x f : Str) : Tst := fun K => eqO (PySem.W.findIn K (.ref (ga K x)) f) (some (some (.ref (ma K (ga K x) f)))) && (eqO (PySem.W.specialIn K (.ref (ma K (ga K x) f)) "__get__") (some (some (.builtin "property.__get__"))) &&
  (decide (PySem.W.takesIn K (.ref (ma K (ga K x) f)) = some true) && (match PySem.W.recIn K (ma K (ga K x) f) "property" with
    | some (.ref _ :: _) => true
    | _ => false)))
theorem prop_ok {K : PySem.W.Frag} {x f : Str} (c : propB x f K = true) : PropOf K (ga K x) f (ma K (ga K x) f) (pgA x f K) := by
  obtain ⟨c1, c⟩ := ba c
  obtain ⟨c2, c⟩ := ba c
  obtain ⟨c3, c4⟩ := ba c
  refine ⟨eqO_ok c1, eqO_ok c2, of_decide_eq_true c3, ?_⟩
  unfold pgA
  cases q : PySem.W.recIn K (ma K (ga K x) f) "property" with
  | none => rw [q] at c4; cases c4
  | some l =>
    rw [q] at c4
    cases l with
    | nil => cases c4
    | cons v r =>
      cases v with
      | ref g => exact ⟨r, rfl⟩
      | _ => cases c4
end SJ

/-! SJX: readings, one step each. -/
namespace SJ
open PySem PySem.Spec PyProof.Rows L2 He
section
variable {K : PySem.W.Frag} {σ : L2.St} {H : Hp} {Q : VK} {QT : Bool → Hp → Prop} {QA : List V → Hp → Prop} {ta tb tc te : TE} {t u : TT} {D : Ends} {ts tu tz : TS} {r r' : R2} {x y v : V} {i j : Int} {n : Nat} {p : Addr} {tA : TA} {b c : Bool}
theorem x_var (h : σ[n]? = some (some v)) (k : Q v H) : tVar n σ H Q := ⟨v, h, k⟩
theorem x_c (k : Q v H) : tC v σ H Q := k
theorem x_op (k : ta σ H fun x H1 => tb σ H1 fun y H2 => r x y H2 Q) : tOp r ta tb σ H Q := k
theorem x_un {r : V → Hp → VK → Prop} (k : ta σ H fun x H1 => r x H1 Q) : tUn r ta σ H Q := k
theorem x_I0 {g : Int → Int → V} (k : Q (g i j) H) : rI0 g (.int i) (.int j) H Q := ⟨i, j, rfl, rfl, k⟩
theorem x_I {C : Int → Int → Prop} {g : Int → Int → V} (c : C i j) (k : Q (g i j) H) : rI C g (.int i) (.int j) H Q := ⟨i, j, rfl, rfl, c, k⟩
theorem x_U {g : Int → V} (k : Q (g i) H) : rU g (.int i) H Q := ⟨i, rfl, k⟩
theorem x_eq (h : scal x y = true) (k : Q (.bl (decide (x = y))) H) : rEq x y H Q := ⟨h, k⟩
theorem x_ne (h : scal x y = true) (k : Q (.bl (!decide (x = y))) H) : rNe x y H Q := ⟨h, k⟩
theorem x_nil (k : QA [] H) : tNil σ H QA := k
theorem x_cons (k : ta σ H fun x H1 => tA σ H1 fun xs H2 => QA (x :: xs) H2) : tCons ta tA σ H QA := k
theorem x_cb {r : List V → Hp → VK → Prop} (k : tA σ H fun vs H1 => r vs H1 Q) : tCB r tA σ H Q := k
theorem x_call {sp : Sp} {dvs : List V} {E : XK} (k : tA σ H fun vs H1 => sp (vs ++ dvs) H1 Q E) : tCall sp dvs E tA σ H Q := k
theorem x_seq (k : ts { D with nx := tz D } σ H) : tSeq ts tz D σ H := k
theorem x_next (k : D.nx σ H) : tNext D σ H := k
theorem x_asg (k : te σ H fun x H1 => D.nx (σ.set n (some x)) H1) : tAsg te (gName n) D σ H := k
theorem x_asgG {g : TG} (k : te σ H fun x H1 => g x σ H1 D.nx) : tAsg te g D σ H := k
theorem x_ret (k : te σ H D.rt) : tRet te D σ H := k
theorem x_retN (k : D.rt .non H) : tRetN D σ H := k
theorem x_drop (k : te σ H fun _ H1 => D.nx σ H1) : tDrop te D σ H := k
theorem x_if (k : t σ H fun b H1 => if b = true then ts D σ H1 else tu D σ H1) : tIfS t ts tu D σ H := k
theorem x_ife (k : t σ H fun b H1 => if b = true then ta σ H1 Q else tb σ H1 Q) : tIf t ta tb σ H Q := k
theorem x_test (k : te σ H fun x H' => ∃ b, x = .bl b ∧ QT b H') : tTest te σ H QT := k
theorem x_B (k : te σ H fun x H' => ∃ b, x = .bl b ∧ QT b H') : tB te σ H QT := k
theorem x_bl (k : QT b H) : ∃ c, V.bl b = .bl c ∧ QT c H := ⟨b, rfl, k⟩
theorem x_and (k : t σ H fun c H1 => if c = true then u σ H1 QT else QT false H1) : tAnd t u σ H QT := k
theorem x_or (k : t σ H fun c H1 => if c = true then QT true H1 else u σ H1 QT) : tOr t u σ H QT := k
theorem x_not (k : t σ H fun c H1 => QT (!c) H1) : tNot t σ H QT := k
theorem x_andV (k : ta σ H fun x H1 => ∃ c, x = .bl c ∧ if c = true then tb σ H1 Q else Q (.bl false) H1) : tAndV ta tb σ H Q := k
theorem x_orV (k : ta σ H fun x H1 => ∃ c, x = .bl c ∧ if c = true then Q (.bl true) H1 else tb σ H1 Q) : tOrV ta tb σ H Q := k
theorem x_notV (k : ta σ H fun x H1 => ∃ c, x = .bl c ∧ Q (.bl (!c)) H1) : tNotV ta σ H Q := k
theorem x_tup (k : tA σ H fun xs H1 => xs.length ≤ sizeLine ∧ ∀ p, H1 p = none → Q (.ref p) (upd H1 p (.tup xs))) : tTup tA σ H Q := k
theorem x_lst (k : tA σ H fun xs H1 => xs.length ≤ sizeLine ∧ ∀ p, H1 p = none → Q (.ref p) (upd H1 p (.lst xs))) : tLst tA σ H Q := k
theorem x_new {q : Prop} (h : n ≤ 1000) (k : q) : n ≤ sizeLine ∧ q := ⟨Nat.le_trans h (by decide), k⟩
theorem x_ixL {xs : List V} (h : SqL K H p xs) (e : atI xs i = some v) (k : Q v H) : rIx K (.ref p) (.int i) H Q := .inl ⟨p, xs, i, v, rfl, rfl, h, e, k⟩
theorem x_ixT {xs : List V} (h : SqT K H p xs) (e : atI xs i = some v) (k : Q v H) : rIx K (.ref p) (.int i) H Q := .inr (.inl ⟨p, xs, i, v, rfl, rfl, h, e, k⟩)
theorem x_sub {to ti : TE} {s : TSet} {Qs : L2.St → Hp → Prop} (k : to σ H fun o H1 => ti σ H1 fun i H2 => s o i v H2 fun H3 => Qs σ H3) : gSub to ti s v σ H Qs := k
theorem x_setL {xs : List V} {k : Nat} {Qh : Hp → Prop} (h : H p = some (.lst xs)) (e : ixN xs.length i = some k) (q : Qh (upd H p (.lst (xs.set k v)))) : rSetL (.ref p) (.int i) v H Qh := ⟨p, xs, i, k, rfl, rfl, h, e, q⟩
theorem x_int {i : Int} (k : Q (.int i) H) : (∃ j, [V.int i] = [.int j] ∧ Q (.int j) H) ∨ ∃ c, [V.int i] = [.bl c] ∧ Q (.int (if c then 1 else 0)) H := .inl ⟨i, rfl, k⟩
theorem x_intB (k : Q (.int (if b then 1 else 0)) H) : (∃ j, [V.bl b] = [.int j] ∧ Q (.int j) H) ∨ ∃ c, [V.bl b] = [.bl c] ∧ Q (.int (if c then 1 else 0)) H := .inr ⟨b, rfl, k⟩
theorem x_len {xs : List V} (h : SqL K H p xs) (k : Q (.int (xs.length : Int)) H) : ∃ x n, [V.ref p] = [x] ∧ LenV K x H n ∧ Q (.int (n : Int)) H := ⟨_, _, rfl, .inl ⟨_, h, rfl⟩, k⟩
theorem x_lenT {xs : List V} (h : SqT K H p xs) (k : Q (.int (xs.length : Int)) H) : ∃ x n, [V.ref p] = [x] ∧ LenV K x H n ∧ Q (.int (n : Int)) H := ⟨_, _, rfl, .inr ⟨_, h, rfl⟩, k⟩
theorem x_abs (k : Q (.int (if i < 0 then -i else i)) H) : ∃ j, [V.int i] = [.int j] ∧ Q (.int (if j < 0 then -j else j)) H := ⟨i, rfl, k⟩
theorem x_neD {d e : PyData} (h1 : Dp K H x d) (h2 : Dp K H y e) (s1 : SeqAt.shaped d = true) (s2 : SeqAt.shaped e = true) (k : Q (.bl (!PyData.eqv d e)) H) : rNeD K x y H Q := ⟨d, e, h1, h2, s1, s2, k⟩
theorem x_eqD {d e : PyData} (h1 : Dp K H x d) (h2 : Dp K H y e) (s1 : SeqAt.shaped d = true) (s2 : SeqAt.shaped e = true) (k : Q (.bl (PyData.eqv d e)) H) : rEqD K x y H Q := ⟨d, e, h1, h2, s1, s2, k⟩
end
/-! ### heaps -/
theorem del_sub {H : Hp} {p a : Addr} {o : HO} (h : del H p a = some o) : H a = some o := by
  by_cases e : a = p
  · rw [e, del_same] at h; cases h
  · rw [del_ne e] at h; exact h
theorem del_some {H : Hp} {p a : Addr} {o : HO} (h : del H p a = some o) : a ≠ p := fun e => by rw [e, del_same] at h; cases h
theorem del_none {H : Hp} {p a : Addr} (h : H a = none) : del H p a = none := by
  by_cases e : a = p
  · rw [e, del_same]
  · rw [del_ne e]; exact h
theorem del_upd {H : Hp} {p : Addr} {o : HO} : del (upd H p o) p = del H p := by
  funext a
  by_cases e : a = p
  · rw [e, del_same, del_same]
  · rw [del_ne e, del_ne e, upd_ne e]
theorem del_upd_ne {H : Hp} {p q : Addr} {o : HO} (n : q ≠ p) : del (upd H q o) p = upd (del H p) q o := by
  funext a
  by_cases e : a = p
  · rw [e, del_same, upd_ne (Ne.symm n), del_same]
  · rw [del_ne e]
    by_cases f : a = q
    · rw [f, upd_same, upd_same]
    · rw [upd_ne f, upd_ne f, del_ne e]
theorem Same.upd {H H' : Hp} {p : Addr} {o : HO} (e : Same H H') (h : H' p = none) : Same H (L2.upd H' p o) := fun b u q => by
  rw [upd_ne (ne_of_none (e b u q) h)]; exact e b u q
theorem Same.mut {H H' : Hp} {p : Addr} {o : HO} (e : Same H H') (h : H p = none) : Same H (L2.upd H' p o) := fun b u q => by
  rw [upd_ne (ne_of_none q h)]; exact e b u q
theorem Same.del {H H' : Hp} {p : Addr} (e : Same H H') : Same (L2.del H p) (L2.del H' p) := fun b u q => by
  rw [del_ne (del_some q)]; exact e b u (del_sub q)
end SJ

/-! SJR: one rule a construct, its ways by values joined by or; and the step of each way. -/
namespace SJ
open PySem PySem.Spec PyProof.Rows L2 He
def rStr2 (g : Str → Str → V) : R2 := fun x y H Q => ∃ i j, x = .str i ∧ y = .str j ∧ Q (g i j) H
def rAddS' : R2 := fun x y H Q => ∃ i j, x = .str i ∧ y = .str j ∧ i.length + j.length ≤ sizeLine ∧ Q (.str (i ++ j)) H
def rAdd (K : PySem.W.Frag) : R2 := fun x y H Q => rI0 (fun i j => .int (i + j)) x y H Q ∨ (rAddS' x y H Q ∨ (rCat x y H Q ∨ rCatA K x y H Q))
def rSub : R2 := rI0 fun i j => .int (i - j)
def rMul (K : PySem.W.Frag) : R2 := fun x y H Q => rI CMul (fun i j => .int (i * j)) x y H Q ∨ (rI CMulX (fun i j => .int (i * j)) x y H Q ∨ (rRep x y H Q ∨ rRepT K x y H Q))
def rMod : R2 := rI (fun _ j => j ≠ 0) fun i j => .int (i.fmod j)
def rFdv : R2 := fun x y H Q => rI CDivN (fun i j => .int (i.fdiv j)) x y H Q ∨ rI CDivW (fun i j => .int (i / j)) x y H Q
def rPow : R2 := rI CPow fun i j => .int (i ^ j.toNat)
def rEqU (K : PySem.W.Frag) : R2 := fun x y H Q => rEq x y H Q ∨ rEqD K x y H Q
def rNeU (K : PySem.W.Frag) : R2 := fun x y H Q => rNe x y H Q ∨ rNeD K x y H Q
def rLtU : R2 := fun x y H Q => rI0 (fun i j => .bl (decide (i < j))) x y H Q ∨ rStr2 (fun i j => .bl (decide (i.cps.toList < j.cps.toList))) x y H Q
def rLeU : R2 := fun x y H Q => rI0 (fun i j => .bl (decide (i ≤ j))) x y H Q ∨ rStr2 (fun i j => .bl (!decide (j.cps.toList < i.cps.toList))) x y H Q
def rGtU : R2 := rI0 fun i j => .bl (decide (j < i))
def rGeU : R2 := rI0 fun i j => .bl (decide (j ≤ i))
def rInU (K : PySem.W.Frag) (neg : Bool) : R2 := fun x y H Q => rIn K neg x y H Q ∨ rStr2 (fun i j => .bl (if neg then !(!(Builtin.Str.occurrences j i 0 j.length 1).isEmpty) else !(Builtin.Str.occurrences j i 0 j.length 1).isEmpty)) x y H Q
def rIsU (neg : Bool) : R2 := fun x y H Q => (y = .non ∧ Q (.bl (if neg then !decide (x = .non) else decide (x = .non))) H) ∨ ∃ a b : Bool, x = .bl a ∧ y = .bl b ∧ Q (.bl (if neg then !decide (a = b) else decide (a = b))) H
section
variable {X : Cx}
theorem o_add : OpR X (binaryOp .Add) (rAdd X.K) := op_add.or (op_add_str.or (op_cat.or op_catA))
theorem o_sub : OpR X (binaryOp .Sub) rSub := op_sub
theorem o_mul : OpR X (binaryOp .Mult) (rMul X.K) := op_mul.or (op_mulX.or (op_rep.or op_repT))
theorem o_mod : OpR X (binaryOp .Mod) rMod := op_modN
theorem o_fdv : OpR X (binaryOp .FloorDiv) rFdv := op_fdivN.or op_fdivW
theorem o_pow : OpR X (binaryOp .Pow) rPow := op_pow
theorem o_eq (hu : X.A.units + 64 < cLine) : OpR X (compareOp .Eq) (rEqU X.K) := op_eq.or (op_eqD hu)
theorem o_ne (hu : X.A.units + 64 < cLine) : OpR X (compareOp .NotEq) (rNeU X.K) := op_ne.or (op_neD hu)
theorem o_lt : OpR X (compareOp .Lt) rLtU := op_lt.or op_lt_str
theorem o_le : OpR X (compareOp .LtE) rLeU := op_le.or op_le_str
theorem o_gt : OpR X (compareOp .Gt) rGtU := op_gt
theorem o_ge : OpR X (compareOp .GtE) rGeU := op_ge
theorem o_in : OpR X (compareOp .In) (rInU X.K false) := op_in_seq.or op_in_str
theorem o_nin : OpR X (compareOp .NotIn) (rInU X.K true) := op_notIn_seq.or op_notin_str
theorem o_is : OpR X (compareOp .Is) (rIsU false) := OpR.or (op_isN) (op_isBl)
theorem o_isn : OpR X (compareOp .IsNot) (rIsU true) := OpR.or (op_notN) (op_notBl)
end
def rLenU (K : PySem.W.Frag) : List V → Hp → VK → Prop := fun xs H Q => (∃ x n, xs = [x] ∧ LenV K x H n ∧ Q (.int n) H) ∨ ∃ a kvs, xs = [V.ref a] ∧ H a = some (.dK kvs) ∧ Q (.int kvs.length) H
def rAbs : List V → Hp → VK → Prop := fun xs H Q => ∃ i, xs = [.int i] ∧ Q (.int (if i < 0 then -i else i)) H
def rInt : List V → Hp → VK → Prop := fun xs H Q => (∃ i, xs = [.int i] ∧ Q (.int i) H) ∨ ∃ k, xs = [.bl k] ∧ Q (.int (if k then 1 else 0)) H
def rListU (K : PySem.W.Frag) : List V → Hp → VK → Prop := fun xs H Q => ∃ p ys, xs = [.ref p] ∧ (SqL K H p ys ∨ SqT K H p ys) ∧ ∀ l, H l = none → Q (.ref l) (upd H l (.lst ys))
def rTupU (K : PySem.W.Frag) : List V → Hp → VK → Prop := fun xs H Q => ∃ p ys, xs = [.ref p] ∧ ((SqL K H p ys ∧ ∀ l, H l = none → Q (.ref l) (upd H l (.tup ys))) ∨ (SqT K H p ys ∧ Q (.ref p) H))
def rSlU (K : PySem.W.Frag) : V → Option Int → Option Int → Hp → VK → Prop := fun x lo hi H Q => rSlL K x lo hi H Q ∨ rSlT K x lo hi H Q
section
variable {X : Cx}
theorem c_len : CallR X (.builtin "len") (rLenU X.K) := call_len.or call_lenD
theorem c_abs : CallR X (.builtin "abs") rAbs := call_abs
theorem c_int : CallR X (.type "int") rInt := call_int1
theorem c_list : CallR X (.type "list") (rListU X.K) := call_list_of
theorem c_tuple : CallR X (.type "tuple") (rTupU X.K) := call_tuple_of
theorem c_isi : CallR X (.builtin "isinstance") (rIsi X.K) := call_isi
theorem c_all (hc : X.calm = true) : CallR X (.builtin "all") (rAll X.K) := cr_all hc
theorem c_any (hc : X.calm = true) : CallR X (.builtin "any") (rAny X.K) := cr_any hc
theorem c_sum (hc : X.calm = true) : CallR X (.builtin "sum") (rSum X.K) := cr_sum hc
theorem sl_u : SlR X (rSlU X.K) := sl_list.or sl_tup
end
section
variable {K : PySem.W.Frag} {H : Hp} {Q : VK} {x y v : V} {i j : Int} {n : Nat} {p q : Addr} {b c : Bool} {s t : Str} {xs ys : List V}
theorem x_addI (k : Q (.int (i + j)) H) : rAdd K (.int i) (.int j) H Q := .inl ⟨i, j, rfl, rfl, k⟩
theorem x_addS (h : s.length + t.length ≤ 1000) (k : Q (.str (s ++ t)) H) : rAdd K (.str s) (.str t) H Q := .inr (.inl ⟨s, t, rfl, rfl, Nat.le_trans h (by decide), k⟩)
theorem x_addL (h1 : H p = some (.lst xs)) (h2 : H q = some (.lst ys)) (h : xs.length + ys.length ≤ 10000) (k : ∀ l, H l = none → Q (.ref l) (upd H l (.lst (xs ++ ys)))) : rAdd K (.ref p) (.ref q) H Q :=
  .inr (.inr (.inl ⟨p, q, xs, ys, rfl, rfl, h1, h2, Nat.le_trans h (by decide), k⟩))
theorem x_sub' (k : Q (.int (i - j)) H) : rSub (.int i) (.int j) H Q := ⟨i, j, rfl, rfl, k⟩
theorem x_mulI (h : CMul i j) (k : Q (.int (i * j)) H) : rMul K (.int i) (.int j) H Q := .inl ⟨i, j, rfl, rfl, h, k⟩
theorem x_mulX (h : CMulX i j) (k : Q (.int (i * j)) H) : rMul K (.int i) (.int j) H Q := .inr (.inl ⟨i, j, rfl, rfl, h, k⟩)
theorem x_mod (h : 0 < j) (k : Q (.int (i % j)) H) : rMod (.int i) (.int j) H Q := ⟨i, j, rfl, rfl, by omega, by show Q (.int (i.fmod j)) H; rw [Int.fmod_eq_emod_of_nonneg _ (by omega)]; exact k⟩
theorem x_fdv (h : 0 < j) (h2 : j < 1073741824) (k : Q (.int (i / j)) H) : rFdv (.int i) (.int j) H Q := .inl ⟨i, j, rfl, rfl, ⟨by omega, by omega⟩, by show Q (.int (i.fdiv j)) H; rw [Int.fdiv_eq_ediv_of_nonneg _ (by omega)]; exact k⟩
theorem x_pow (h : 0 ≤ j ∧ j ≤ 1000000 ∧ i.natAbs < 2 ^ 64) (k : Q (.int (i ^ j.toNat)) H) : rPow (.int i) (.int j) H Q := ⟨i, j, rfl, rfl, h, k⟩
theorem x_eqS (h : scal x y = true) (k : Q (.bl (decide (x = y))) H) : rEqU K x y H Q := .inl ⟨h, k⟩
theorem x_neS (h : scal x y = true) (k : Q (.bl (!decide (x = y))) H) : rNeU K x y H Q := .inl ⟨h, k⟩
theorem x_eqI (k : Q (.bl (decide (i = j))) H) : rEqU K (.int i) (.int j) H Q := .inl ⟨rfl, by rw [show decide (V.int i = V.int j) = decide (i = j) from by simp only [V.int.injEq]]; exact k⟩
theorem x_neI (k : Q (.bl (!decide (i = j))) H) : rNeU K (.int i) (.int j) H Q := .inl ⟨rfl, by rw [show decide (V.int i = V.int j) = decide (i = j) from by simp only [V.int.injEq]]; exact k⟩
theorem x_eqT (k : Q (.bl (decide (s = t))) H) : rEqU K (.str s) (.str t) H Q := .inl ⟨rfl, by rw [show decide (V.str s = V.str t) = decide (s = t) from by simp only [V.str.injEq]]; exact k⟩
theorem x_neT (k : Q (.bl (!decide (s = t))) H) : rNeU K (.str s) (.str t) H Q := .inl ⟨rfl, by rw [show decide (V.str s = V.str t) = decide (s = t) from by simp only [V.str.injEq]]; exact k⟩
theorem x_eqDD {d e : PyData} (h1 : Dp K H x d) (h2 : Dp K H y e) (s1 : SeqAt.shaped d = true) (s2 : SeqAt.shaped e = true) (k : Q (.bl (PyData.eqv d e)) H) : rEqU K x y H Q := .inr ⟨d, e, h1, h2, s1, s2, k⟩
theorem x_neDD {d e : PyData} (h1 : Dp K H x d) (h2 : Dp K H y e) (s1 : SeqAt.shaped d = true) (s2 : SeqAt.shaped e = true) (k : Q (.bl (!PyData.eqv d e)) H) : rNeU K x y H Q := .inr ⟨d, e, h1, h2, s1, s2, k⟩
theorem x_ltI (k : Q (.bl (decide (i < j))) H) : rLtU (.int i) (.int j) H Q := .inl ⟨i, j, rfl, rfl, k⟩
theorem x_leI (k : Q (.bl (decide (i ≤ j))) H) : rLeU (.int i) (.int j) H Q := .inl ⟨i, j, rfl, rfl, k⟩
theorem x_gtI (k : Q (.bl (decide (j < i))) H) : rGtU (.int i) (.int j) H Q := ⟨i, j, rfl, rfl, k⟩
theorem x_geI (k : Q (.bl (decide (j ≤ i))) H) : rGeU (.int i) (.int j) H Q := ⟨i, j, rfl, rfl, k⟩
theorem x_inT (h : SqT K H p xs) (hx : flatV x = true) (ha : xs.all flatV = true) (k : Q (.bl (inV x xs)) H) : rInU K false x (.ref p) H Q := .inl ⟨p, xs, rfl, .inr h, hx, ha, k⟩
theorem x_ninT (h : SqT K H p xs) (hx : flatV x = true) (ha : xs.all flatV = true) (k : Q (.bl (!inV x xs)) H) : rInU K true x (.ref p) H Q := .inl ⟨p, xs, rfl, .inr h, hx, ha, k⟩
theorem x_inL (h : SqL K H p xs) (hx : flatV x = true) (ha : xs.all flatV = true) (k : Q (.bl (inV x xs)) H) : rInU K false x (.ref p) H Q := .inl ⟨p, xs, rfl, .inl h, hx, ha, k⟩
theorem x_ninL (h : SqL K H p xs) (hx : flatV x = true) (ha : xs.all flatV = true) (k : Q (.bl (!inV x xs)) H) : rInU K true x (.ref p) H Q := .inl ⟨p, xs, rfl, .inl h, hx, ha, k⟩
theorem x_inS (k : Q (.bl (!(Builtin.Str.occurrences t s 0 t.length 1).isEmpty)) H) : rInU K false (.str s) (.str t) H Q := .inr ⟨s, t, rfl, rfl, k⟩
theorem x_isN (k : Q (.bl (decide (x = .non))) H) : rIsU false x .non H Q := .inl ⟨rfl, k⟩
theorem x_isnN (k : Q (.bl (!decide (x = .non))) H) : rIsU true x .non H Q := .inl ⟨rfl, k⟩
theorem x_isB (k : Q (.bl (decide (b = c))) H) : rIsU false (.bl b) (.bl c) H Q := .inr ⟨b, c, rfl, rfl, k⟩
theorem x_lenL (h : SqL K H p xs) (k : Q (.int (xs.length : Int)) H) : rLenU K [.ref p] H Q := .inl ⟨_, _, rfl, .inl ⟨_, h, rfl⟩, k⟩
theorem x_lenT' (h : SqT K H p xs) (k : Q (.int (xs.length : Int)) H) : rLenU K [.ref p] H Q := .inl ⟨_, _, rfl, .inr ⟨_, h, rfl⟩, k⟩
theorem x_lenS (h : s.length ≤ 10000) (k : Q (.int (s.length : Int)) H) : rLenU K [.str s] H Q := .inl ⟨_, _, rfl, ⟨Nat.le_trans h (by decide), rfl⟩, k⟩
theorem x_absI (k : Q (.int (if i < 0 then -i else i)) H) : rAbs [.int i] H Q := ⟨i, rfl, k⟩
theorem x_intI (k : Q (.int i) H) : rInt [.int i] H Q := .inl ⟨i, rfl, k⟩
theorem x_intBl (k : Q (.int (if b then 1 else 0)) H) : rInt [.bl b] H Q := .inr ⟨b, rfl, k⟩
theorem x_listL (h : SqL K H p xs) (k : ∀ l, H l = none → Q (.ref l) (upd H l (.lst xs))) : rListU K [.ref p] H Q := ⟨p, xs, rfl, .inl h, k⟩
theorem x_listT (h : SqT K H p xs) (k : ∀ l, H l = none → Q (.ref l) (upd H l (.lst xs))) : rListU K [.ref p] H Q := ⟨p, xs, rfl, .inr h, k⟩
end
end SJ

/-! SJF: defs whose calls run under no guard (repr of containers asks for that), and the law's end over them. -/
namespace SJ
open PySem PySem.Spec PyProof.Rows L2 He
/-- room, and no guard around -/
structure Rm (k : Nat) (A : Around) : Prop where
  r : Room k A
  g : A.guards = some []
theorem Rm.mono {j k : Nat} {A : Around} (h : Rm k A) (l : j ≤ k) : Rm j A := ⟨h.r.mono l, h.g⟩
theorem Rm.in1 {k : Nat} {A : Around} (h : Rm (k + 1) A) : Rm k A.in1 := ⟨h.r.in1, h.g⟩
theorem Rm.deeper {k : Nat} {A : Around} (h : Rm (k + 1) A) (env : Env) : Rm k (A.deeper env) := ⟨h.r.deeper env, h.g⟩
theorem Rm.make {k : Nat} {A : Around} (h : Rm (k + 1) A) (C : Addr) (us : List Value) (kw : List (Str × Value)) : Rm k (A.under (.builtin "type.__call__" ⟨.ref C :: us, kw⟩)) := by
  refine ⟨h.r.make C us kw, ?_⟩
  first | exact h.g | (simp [Around.under, Code.isGuard, guardIds]; exact h.g)
theorem Rm.units {k : Nat} {A : Around} (h : Rm k A) : A.units + 64 < cLine := h.r.units
theorem Rm.units0 {k : Nat} {A : Around} (h : Rm k A) : A.units < cLine := h.r.units0
theorem Rm.hu {k : Nat} {A : Around} (h : Rm k A) : A.units + 1 < cLine := hu_of h.r
structure Fk (P : Program) (w : World) (K : PySem.W.Frag) (mg : Str → Option Value) (base : Heap) (k : Nat) (f : Addr) (fd : FuncData) (ps : List Str) (sp : Sp) : Prop where
  len : ∀ vs H Q E, sp vs H Q E → vs.length = ps.length
  run : ∀ (A : Around) (outer : List Env) (s : Shared) (H : Hp) (args : Args) (us : List Value) (vs : List V) (Q : VK) (E : XK), Rm k A → Env0 P w K mg base A outer s H → BindsTo s fd args (ps.zip us) → Vals vs us → sp vs H Q E →
    codeAny (model P w) A (.call (.ref f) args) (CR (L2.CX P w) outer P w H s Q E) s
theorem Fk.mono {P : Program} {w : World} {K : PySem.W.Frag} {mg : Str → Option Value} {base : Heap} {j k : Nat} {f : Addr} {fd : FuncData} {ps : List Str} {sp : Sp} (F : Fk P w K mg base j f fd ps sp) (h : j ≤ k) : Fk P w K mg base k f fd ps sp :=
  ⟨F.len, fun A outer s H args us vs Q E hr => F.run A outer s H args us vs Q E (hr.mono h)⟩
theorem fk_of {P : Program} {w : World} {K : PySem.W.Frag} {mg : Str → Option Value} {base : Heap} {x qual : Str} {pa : Arguments} {bo : List Stmt} {sc : Scope} {dvs : List V} {kws : List (Str × V)} {f : Addr} {fd : FuncData} {N ps : List Str} {k : Nat} {sp : Sp}
    (F : FunD K x qual pa bo sc dvs kws f fd) (S : FnScope N ps sc) (len : ∀ vs H Q E, sp vs H Q E → vs.length = ps.length)
    (hb : ∀ (cdv : Value) (A : Around) (outer : List Env) (s : Shared) (H : Hp) (vs : List V) (Q : VK) (E : XK), Rm k (A.deeper (envOfC qual sc s.heap.objs.size f cdv)) → sp vs H Q E →
      ∃ t, PSs (cxOf (L2.CX P w) P w K mg base N qual sc f cdv A outer s H E) bo t ∧ t { nx := fun _ H2 => Q .non H2, rt := Q } (start N vs) H) : Fk P w K mg base (k + 1) f fd ps sp := by
  obtain ⟨oc, od, dV, kV, doc, pm, an, cdv, ct, osl, rfl, lk, hcd, _, _⟩ := F.ex
  refine ⟨len, fun A outer s H args us vs Q E hr e0 hbi rv hsp => ?_⟩
  have hl := len _ _ _ _ hsp
  have KX : K.In s.heap := e0.mod.kin.keeps fun b o z => (e0.bs b o z).1
  have lim : s.heap.NoLimit := e0.mod.nolimit.keeps fun b o z => (e0.bs b o z).1
  have kinds : ∀ y ∈ ps.zip us, sc.names.lookup y.1 = some .local ∨ (sc.names.lookup y.1 = some .cell ∧ ((cellsFrom (s.heap.objs.size + 1) sc.names []).lookup y.1).isSome = true) := fun ⟨n, v⟩ hy => by
    rcases S.par n (List.of_mem_zip hy).1 with z | z
    · exact .inl z
    · exact .inr ⟨z, PySem.W.cellsFrom_some _ _ _ (.inl z)⟩
  refine codeAny_call_function hr.r.depth (KX _ _ lk) rfl S.co S.gen rfl (PySem.W.codeRec_of KX hcd) (hbi _ _ _ _ (wpAny_newFunctionEnv_cells S.kind kinds fun env he s1 x1 => ?_))
  subst he
  refine ⟨lim.keeps x1.toInCall.keep, codeAny_func ?_⟩
  obtain ⟨t, ht, hq⟩ := hb cdv A outer s H vs Q E (hr.deeper _) hsp
  have I : Inv (cxOf (L2.CX P w) P w K mg base N qual sc f cdv A outer s H E) [] (start N vs) H s1 := inv_start S hr.r.hd e0 hl rv x1
  refine wpAny_mono (ht.run [] s1 (start N vs) H _ I hq) (fun fl s2 hs => ?_) fun _ _ z => z
  cases fl with
  | ret u => obtain ⟨v, σ2, H2, J, r2, q⟩ := hs; exact ⟨v, H2, J.os, J.bare, J.base, J.hok, r2, q⟩
  | next => obtain ⟨σ2, H2, J, q⟩ := hs; exact ⟨.non, H2, J.os, J.bare, J.base, J.hok, rfl, q⟩
  | brk => obtain ⟨_, _, _, q⟩ := hs; exact q.elim
  | cont => obtain ⟨_, _, _, q⟩ := hs; exact q.elim
/-- the law called behind the top -/
theorem law_at {P : Program} {w : World} {K : PySem.W.Frag} {mg mb : Str → Option Value} {k : Nat} {fa a : Addr} {fd : FuncData} {x : Str} {sp : Sp} {s1 : Shared} {us : List Value} {ns : List Int}
    (KX : K.In s1.heap) (hns : s1.heap.Ns mainGlobals mg) (hbn : s1.heap.Ns builtinsNs mb) (hbb : ∀ x : Str, x ≠ "__name__" → mb x = bootBuiltins x) (hlim : s1.heap.NoLimit) (hg : s1.gens = #[])
    (ha : s1.heap.get? a = some { cls := .type "list", data := .seq us.toArray }) (hi : IntsAre us ns) (hl : ns.length ≤ sizeLine) (hr : Rm k callerA)
    (F : ∀ base : Heap, K.In base → base.Ns mainGlobals mg → Fk P w K mg base k fa fd [x] sp) (hbind : ∀ (s : Shared) (u : Value), BindsTo s fd ⟨[u], []⟩ [(x, u)])
    (hsp : ∀ H : Hp, SqL K H a (ns.map V.int) → sp [.ref a] H (fun v _ => v = .bl true) fun _ _ _ => False) :
    codeAny (model P w) callerA (.call (.ref fa) ⟨[.ref a], []⟩) (fun rr s2 => rr = .ok (.ret (.bool true)) ∧ OldK s1.heap s2.heap ∧ s2.os = s1.os ∧ AllBare s2.gens) s1 := by
  have rv := vals_ints hi
  have go : ∀ H : Hp, Only H → SqL K H a (ns.map V.int) → HOk P w H s1.heap → (∀ b, H b ≠ none → b = a) → (H a ≠ none → K.lookup a = none) →
      codeAny (model P w) callerA (.call (.ref fa) ⟨[.ref a], []⟩) (fun rr s2 => rr = .ok (.ret (.bool true)) ∧ OldK s1.heap s2.heap ∧ s2.os = s1.os ∧ AllBare s2.gens) s1 := by
    intro H hO hS hok only noK
    have free : ∀ {b : Addr} {o : Obj} {es : Array DictEntry} {ep : Nat}, s1.heap.get? b = some o → o.data = .dict es ep → H b = none := fun {b o es ep} eo ed => by
      cases q : H b with
      | none => rfl
      | some u =>
        have eb : b = a := only b (by rw [q]; simp)
        rw [eb, ha] at eo
        cases eo
        exact nomatch (show Data.seq us.toArray _ = Data.dict es ep from ed)
    have nsK : ∀ {b : Addr} {m : Str → Option Value}, s1.heap.Ns b m → (hidT s1.heap H).Ns b m := fun {b m} ⟨o, es, ep, eo, ed, rr⟩ => ⟨o, es, ep, hidT_get eo (free eo ed), ed, rr⟩
    have Kb : K.In (hidT s1.heap H) := fun b o e => hidT_get (KX b o e) (by
      cases q : H b with
      | none => rfl
      | some u =>
        have eb : b = a := only b (by rw [q]; simp)
        rw [eb] at e q
        rw [noK (by rw [q]; simp)] at e
        cases e)
    have M : Mod K mg (hidT s1.heap H) := ⟨Kb, nsK hns, ⟨mb, nsK hbn, hbb⟩, let ⟨mc, z1, z2⟩ := hlim; ⟨mc, nsK z1, z2⟩⟩
    have e0 : Env0 P w K mg (hidT s1.heap H) callerA [] s1 H := ⟨rfl, M, fun b o e => of_hidT e, Nat.le_of_eq (hidT_size _ _), trivial, fun b z => absurd (show b ∈ ([] : List Addr) from z) (by simp), hok, .of_eq hg⟩
    refine codeAny_mono ((F _ Kb (nsK hns)).run callerA [] s1 H ⟨[.ref a], []⟩ [.ref a] [.ref a] _ _ hr e0 (hbind s1 (.ref a)) (.cons rfl .nil) (hsp H hS)) fun rr s2 h => ?_
    cases rr with
    | error e => obtain ⟨_, _, _, _, _, _, _, _, _, _, _, _, z⟩ := h; exact z.elim
    | ok fl =>
      cases fl with
      | next => exact h.elim
      | brk => exact h.elim
      | cont => exact h.elim
      | ret u =>
        obtain ⟨v, H2, os, bare, un, hok2, r2, q⟩ := h
        obtain rfl : v = .bl true := q
        obtain rfl : u = Value.bool true := r2
        refine ⟨rfl, OldK.of_keep fun b o e => ?_, os, bare⟩
        cases q : H b with
        | none => exact un.keep b o e q (fun z => absurd (show b ∈ ([] : List Addr) from z) (by simp)) (by simp)
        | some u =>
          rcases hO b with z | ⟨ob, xs, z⟩
          · rw [q] at z; cases z
          · obtain ⟨z1, _⟩ := hok b _ z
            obtain ⟨z2, _⟩ := hok2 b _ (un.frzs b ob _ z)
            rw [e] at z1; cases z1
            exact z2
  by_cases hk : K.lookup a = none
  · refine go (fun b => if b = a then some (.frz { cls := .type "list", data := .seq us.toArray } (.lst (ns.map V.int))) else none) (fun b => ?_) (.inl (.inr ⟨_, if_pos rfl⟩)) (fun b o e => ?_) (fun b hb => ?_) fun _ => hk
    · by_cases e : b = a
      · exact .inr ⟨_, _, if_pos e⟩
      · exact .inl (if_neg e)
    · by_cases eb : b = a
      · have e2 := (if_pos eb).symm.trans e
        subst eb
        cases e2
        exact ⟨ha, by rw [List.length_map]; exact hl, us, _, rv, ha⟩
      · exact nomatch ((if_neg eb).symm.trans e)
    · by_cases eb : b = a
      · exact eb
      · exact absurd (if_neg eb) hb
  · obtain ⟨o, ho⟩ : ∃ o, K.lookup a = some o := by
      cases q : K.lookup a with
      | none => exact absurd q hk
      | some o => exact ⟨o, rfl⟩
    have eo := KX _ _ ho
    rw [ha] at eo
    cases eo
    refine go (fun _ => none) (fun b => .inl rfl) (.inr ⟨_, us.toArray, _, ho, rfl, rfl, rfl, by rw [List.size_toArray, ← rv.length, List.length_map]; exact hl, rv⟩) (fun b o e => nomatch (show (none : Option HO) = some o from e)) (fun b hb => absurd rfl hb) fun z => absurd rfl z
theorem walk_law {l : PySem.W.OpenLaw} {n k : Nat} {q : Program} {loose : List Str} {XP : (Str → Option Value) → Heap → Prop} {YP : World → Heap → Prop} {d : DefRec} {x : Str}
    (hn : l.most = some n) (hn2 : n ≤ sizeLine) (hdf : d.params.defaults = []) (hr : Rm k callerA)
    (F : ∀ (w : World) (mg : Str → Option Value) (fa : Addr) (h : Heap), YP w h → h.Ns mainGlobals mg → mg d.name = some (.ref fa) →
      ∃ (K : PySem.W.Frag) (fd : FuncData) (sp : Sp), K.In h ∧ (∀ (s : Shared) (u : Value), BindsTo s fd ⟨[u], []⟩ [(x, u)]) ∧
        (∀ (H : Hp) (a : Addr) (ns : List Int), ns.length ≤ n → SqL K H a (ns.map V.int) → sp [.ref a] H (fun v _ => v = .bl true) fun _ _ _ => False) ∧
        ∀ base : Heap, K.In base → base.Ns mainGlobals mg → Fk l.prog w K mg base k fa fd [x] sp) :
    PySem.W.WalkO q loose XP YP l.row.toRowW d [] (fun f vs => PySem.call f vs) := by
  refine Att.attach_call hn hdf fun w s0 s1 mg mb fa o pm cd doc a vs ns G Y ho hd hcd hmg hobj hints hlen hg => ?_
  obtain ⟨K, fd, sp, KX, hb, hsp, hF⟩ := F w mg fa _ Y G.T.g hmg
  exact law_at KX G.T.g G.T.b G.T.builtins G.T.nolimit hg hobj hints (Nat.le_trans hlen hn2) hr hF hb fun H hS => hsp H a ns hlen hS
end SJ

/-! SJC: calls of defs, classes, methods, properties, with what may be raised at the slots. -/
namespace SJ
open PySem PySem.Spec PyProof.Rows L2 He
abbrev W0 : WX := fun _ _ _ _ => False
/-- f(a ..) -/
def tFn (sp : Sp) (dv : List V) (W : WX) (ta : TA) : TE := fun σ H Q => ta σ H fun vs H1 => sp (vs ++ dv) H1 Q (WE W σ)
/-- f(a .., k = b ..) -/
def tFnK (n m : Nat) (sp : Sp) (gV : List V → List V → List V) (W : WX) (ta tk : TA) : TE := fun σ H Q => ta σ H fun vs H1 => tk σ H1 fun zs H2 => vs.length = n ∧ zs.length = m ∧ sp (gV vs zs) H2 Q (WE W σ)
/-- C(a ..) -/
def tNw (C : Addr) (sp : Sp) (dv : List V) (W : WX) (ta : TA) : TE := fun σ H Q => ta σ H fun vs H1 => ∀ x dx, H1 x = none → H1 dx = none → dx ≠ x →
  sp (.ref x :: (vs ++ dv)) (upd (upd H1 dx (.own x)) x (.ins C dx [])) (fun v H2 => v = .non ∧ Q (.ref x) H2) (WE W σ)
def tNwK (C : Addr) (n m : Nat) (sp : Sp) (gV : List V → List V → List V) (W : WX) (ta tk : TA) : TE := fun σ H Q => ta σ H fun vs H1 => tk σ H1 fun zs H2 => vs.length = n ∧ zs.length = m ∧ ∀ x dx, H2 x = none → H2 dx = none → dx ≠ x →
  sp (gV (.ref x :: vs) zs) (upd (upd H2 dx (.own x)) x (.ins C dx [])) (fun v H3 => v = .non ∧ Q (.ref x) H3) (WE W σ)
/-- o.m(a ..): of any class that has the def at g as m -/
def tMt (K : PySem.W.Frag) (m : Str) (g : Addr) (sp : Sp) (dv : List V) (W : WX) (to : TE) (ta : TA) : TE := fun σ H Q => to σ H fun x H1 => ∃ a C dx fs, x = .ref a ∧ H1 a = some (.ins C dx fs) ∧ Cls K C ∧ Meth K C m g ∧ fs.lookup m = none ∧
  ta σ H1 fun vs H2 => sp (x :: (vs ++ dv)) H2 Q (WE W σ)
def tMtK (K : PySem.W.Frag) (m : Str) (g : Addr) (n l : Nat) (sp : Sp) (gV : List V → List V → List V) (W : WX) (to : TE) (ta tk : TA) : TE := fun σ H Q => to σ H fun x H1 => ∃ a C dx fs, x = .ref a ∧ H1 a = some (.ins C dx fs) ∧ Cls K C ∧ Meth K C m g ∧ fs.lookup m = none ∧
  ta σ H1 fun vs H2 => tk σ H2 fun zs H3 => vs.length = n ∧ zs.length = l ∧ sp (gV (x :: vs) zs) H3 Q (WE W σ)
/-- o.f, a property -/
def tPr (K : PySem.W.Frag) (f : Str) (g : Addr) (sp : Sp) (to : TE) : TE := fun σ H Q => to σ H fun x H1 => ∃ a C dx fs pp, x = .ref a ∧ H1 a = some (.ins C dx fs) ∧ Cls K C ∧ PropOf K C f pp g ∧ sp [x] H1 Q E0
/-- how a method's call is read -/
abbrev mcl (X : Cx) (o : Expr) (m : Str) (ap : Pos) (pl : Sem Bool) (pos : Pos) (es : List Expr) (kws : List Keyword) : Sem Value := do
  let w0 ← eval o X.env
  standAt ap.atName
  let (g0, a0) ← holding [w0] (getMethod w0 m pl); callWith pos g0 a0 (backTo pos (starEach es X.env)) (backToKw pos (keywordEach kws X.env))
section
variable {X : Cx} {k n : Nat} {f C : Addr} {fd : FuncData} {ps ks : List Str} {sp : Sp} {dv : List V} {ds : List Value} {W : WX} {x m : Str} {p pos apos : Pos} {e o : Expr} {es : List Expr} {kws : List Keyword} {to : TE} {ta tk : TA} {mm : Nat} {g : List Value → List Value → List Value} {gV : List V → List V → List V}
/-- the callee runs, arguments and keywords bound -/
theorem run_g {pins : List (Addr × Obj)} {σ : L2.St} {H : Hp} {s : Shared} {Q : VK} {args : Args} {us : List Value} {vs : List V} (F : Fk X.prog X.w X.K X.mg X.base k f fd ps sp) (hr : Rm k X.A) (tk : Takes X W)
    (I : Inv X pins σ H s) (hb : BindsTo s fd args (ps.zip us)) (rv : Vals vs us) (h : sp vs H Q (WE W σ)) : wpAny (model X.prog X.w) X.A (call (.ref f) args.pos args.kw) (EP X pins σ Q) X.xe s := by
  refine wpAny_call (codeAny_mono (F.run X.A X.stack s H args us vs Q (WE W σ) hr I.env0 hb rv h) fun rr s2 hq => ?_)
  cases rr with
  | error er => exact passAt tk σ pins H s er s2 I hq
  | ok fl =>
    cases fl with
    | ret u => exact I.after hq
    | next => exact hq.elim
    | brk => exact hq.elim
    | cont => exact hq.elim
/-- .. with the defaults behind -/
theorem run_d {pins : List (Addr × Obj)} {σ : L2.St} {H : Hp} {s : Shared} {Q : VK} {us : List Value} {vs : List V} (F : Fk X.prog X.w X.K X.mg X.base k f fd ps sp) (hr : Rm k X.A) (hb : Binds X.K fd ps ds) (hd : Vals dv ds) (tk : Takes X W)
    (I : Inv X pins σ H s) (rv : Vals vs us) (h : sp (vs ++ dv) H Q (WE W σ)) : wpAny (model X.prog X.w) X.A (call (.ref f) us) (EP X pins σ Q) X.xe s := by
  have r2 : Vals (vs ++ dv) (us ++ ds) := rv.append hd
  exact run_g (args := ⟨us, []⟩) F hr tk I (hb s us I.kIn (by rw [← r2.length]; exact F.len _ _ _ _ h)) r2 h
theorem pe_fn (F : Fk X.prog X.w X.K X.mg X.base k f fd ps sp) (hr : Rm k X.A) (hg : Gl X x) (hm : X.mg x = some (.ref f)) (hk : PySem.W.keepIn X.K (.ref f) = true) (hb : Binds X.K fd ps ds) (hd : Vals dv ds) (tk : Takes X W)
    (ha : PA X (e :: es) ta) (hdb : (x == ("__debug__" : Str)) = false := by decide) (he : starEach (e :: es) X.env = (false, eval e X.env) :: starEach es X.env := by rfl) (hpl : (backTo pos (starEach es X.env)).any (·.1) = false := by rfl) :
    PE X (.Call (.Name x p) (e :: es) [] pos) (tFn sp dv W ta) := by
  refine ⟨fun pins s σ H Q I h => wpAny_Call_Name_kw (ld_glob I hg hm ?_ hdb)⟩
  refine PySem.W.callWith_K (h₀ := X.base) I.ok.mod.kin hk (thn (ha.run pos pins s σ H _ I h) fun us s1 ⟨vs, H1, I1, r1, q1⟩ => ⟨I1.kIn, ?_⟩) he hpl
  exact run_d F hr hb hd tk I1 r1 q1
theorem pe_fn0 (F : Fk X.prog X.w X.K X.mg X.base k f fd ps sp) (hr : Rm k X.A) (hg : Gl X x) (hm : X.mg x = some (.ref f)) (hk : PySem.W.keepIn X.K (.ref f) = true) (hb : Binds X.K fd ps ds) (hd : Vals dv ds) (tk : Takes X W)
    (hdb : (x == ("__debug__" : Str)) = false := by decide) : PE X (.Call (.Name x p) [] [] pos) (tFn sp dv W tNil) := by
  refine ⟨fun pins s σ H Q I h => wpAny_Call_Name_kw (ld_glob I hg hm ?_ hdb)⟩
  exact PySem.W.callWith_K0 I.kIn hk (run_d (us := []) (vs := []) F hr hb hd tk I .nil h)
theorem pe_fnK (F : Fk X.prog X.w X.K X.mg X.base k f fd ps sp) (hr : Rm k X.A) (hg : Gl X x) (hm : X.mg x = some (.ref f)) (hk : PySem.W.keepIn X.K (.ref f) = true) (hb : KBn X.K fd ps n ks g gV) (tks : Takes X W)
    (ha : PA X (e :: es) ta) (hkw : PK X kws tk) (hall : (backToKw pos (keywordEach kws X.env)).all (·.1.isSome) = true := by rfl) (hks : (backToKw pos (keywordEach kws X.env)).filterMap (·.1) = ks := by rfl) (hmm : ks.length = mm := by rfl)
    (hdb : (x == ("__debug__" : Str)) = false := by decide) (he : starEach (e :: es) X.env = (false, eval e X.env) :: starEach es X.env := by rfl)
    (hpl : ((backTo pos (starEach (e :: es) X.env)).any (·.1) || (backToKw pos (keywordEach kws X.env)).any (·.1.isNone)) = false := by rfl) :
    PE X (.Call (.Name x p) (e :: es) kws pos) (tFnK n mm sp gV W ta tk) := by
  refine ⟨fun pins s σ H Q I h => wpAny_Call_Name_kw (ld_glob I hg hm ?_ hdb)⟩
  refine PySem.W.callWith_KW (h₀ := X.base) I.ok.mod.kin hk hall (thn (ha.run pos pins s σ H _ I h) fun us s1 ⟨vs, H1, I1, r1, q1⟩ => ?_) hpl he
  refine thn (hkw.run pos pins s1 σ H1 _ I1 q1) fun ws s2 ⟨zs, H2, I2, rz, l1, l2, q2⟩ => ⟨I2.kIn, ?_⟩
  rw [hks]
  subst hmm
  exact run_g (args := ⟨us, ks.zip ws⟩) F hr tks I2 (hb.to s2 us ws I2.kIn (r1.length.symm.trans l1) (rz.length.symm.trans l2)) (hb.rel r1 rz) q2
theorem pe_fnK0 (F : Fk X.prog X.w X.K X.mg X.base k f fd ps sp) (hr : Rm k X.A) (hg : Gl X x) (hm : X.mg x = some (.ref f)) (hk : PySem.W.keepIn X.K (.ref f) = true) (hb : KBn X.K fd ps 0 ks g gV) (tks : Takes X W)
    (hkw : PK X kws tk) (hall : (backToKw pos (keywordEach kws X.env)).all (·.1.isSome) = true := by rfl) (hks : (backToKw pos (keywordEach kws X.env)).filterMap (·.1) = ks := by rfl) (hmm : ks.length = mm := by rfl)
    (hdb : (x == ("__debug__" : Str)) = false := by decide) (hpl : ((backTo pos (starEach [] X.env)).any (·.1) || (backToKw pos (keywordEach kws X.env)).any (·.1.isNone)) = false := by rfl) :
    PE X (.Call (.Name x p) [] kws pos) (tFnK 0 mm sp gV W tNil tk) := by
  refine ⟨fun pins s σ H Q I h => wpAny_Call_Name_kw (ld_glob I hg hm ?_ hdb)⟩
  refine PySem.W.callWith_KW0 (h₀ := X.base) I.ok.mod.kin hk hall ?_ hpl
  refine thn (hkw.run pos pins s σ H _ I h) fun ws s2 ⟨zs, H2, I2, rz, l1, l2, q2⟩ => ⟨I2.kIn, ?_⟩
  rw [hks]
  subst hmm
  exact run_g (args := ⟨[], ks.zip ws⟩) F hr tks I2 (hb.to s2 [] ws I2.kIn rfl (rz.length.symm.trans l2)) (hb.rel .nil rz) q2
/-- a new instance -/
theorem run_nw {pins : List (Addr × Obj)} {σ : L2.St} {H : Hp} {s : Shared} {Q : VK} {us : List Value} {kw : List (Str × Value)} {bs : Value → List Value} {bv : V → List V} (M : Mk X.K C f) (F : Fk X.prog X.w X.K X.mg X.base k f fd ps sp) (hr : Rm (k + 1) X.A) (tk : Takes X W)
    (I : Inv X pins σ H s) (hb : ∀ (a : Addr) (s2 : Shared), X.K.In s2.heap → BindsTo s2 fd ⟨.ref a :: us, kw⟩ (ps.zip (bs (.ref a)))) (rv : ∀ a : Addr, Vals (bv (.ref a)) (bs (.ref a)))
    (h : ∀ x dx, H x = none → H dx = none → dx ≠ x → sp (bv (.ref x)) (upd (upd H dx (.own x)) x (.ins C dx [])) (fun v H2 => v = .non ∧ Q (.ref x) H2) (WE W σ)) :
    wpAny (model X.prog X.w) X.A (call (.ref C) us kw) (EP X pins σ Q) X.xe s := by
  have hq := h (s.heap.objs.size + 1) s.heap.objs.size (I.hok.fresh (Nat.le_succ _)) (I.hok.fresh (Nat.le_refl _)) (Nat.ne_of_lt (Nat.lt_succ_self _))
  have J := Inv.made (C := C) I
  refine wpAny_call (make_map (f := f) I.kIn M.makes M.init (beq_iff_eq.mp M.fn) (codeAny_mono (F.run _ X.stack _ _ ⟨Value.ref (s.heap.objs.size + 1) :: us, kw⟩ _ _ _ (WE W σ) (hr.make C us kw)
    (J.env0.make C us kw) (hb _ _ J.kIn) (rv _) hq) fun rr s2 hq2 => ?_))
  cases rr with
  | error er => exact passAt tk σ pins _ _ er s2 J hq2
  | ok fl =>
    cases fl with
    | ret u =>
      obtain ⟨v, H3, I3, r3, ev, q3⟩ := J.after hq2
      subst ev
      exact ⟨r3, ⟨V.ref (s.heap.objs.size + 1), H3, I3, rfl, q3⟩⟩
    | next => exact hq2.elim
    | brk => exact hq2.elim
    | cont => exact hq2.elim
theorem pe_nw (M : Mk X.K C f) (F : Fk X.prog X.w X.K X.mg X.base k f fd ps sp) (hr : Rm (k + 1) X.A) (hg : Gl X x) (hm : X.mg x = some (.ref C)) (hb : Binds X.K fd ps ds) (hd : Vals dv ds) (tk : Takes X W)
    (ha : PA X (e :: es) ta) (hdb : (x == ("__debug__" : Str)) = false := by decide) (he : starEach (e :: es) X.env = (false, eval e X.env) :: starEach es X.env := by rfl) (hpl : (backTo pos (starEach es X.env)).any (·.1) = false := by rfl) :
    PE X (.Call (.Name x p) (e :: es) [] pos) (tNw C sp dv W ta) := by
  refine ⟨fun pins s σ H Q I h => wpAny_Call_Name_kw (ld_glob I hg hm ?_ hdb)⟩
  refine PySem.W.callWith_K (h₀ := X.base) I.ok.mod.kin M.kp (thn (ha.run pos pins s σ H _ I h) fun us s1 ⟨vs, H1, I1, r1, q1⟩ => ⟨I1.kIn, ?_⟩) he hpl
  have hz := q1 (s1.heap.objs.size + 1) s1.heap.objs.size (I1.hok.fresh (Nat.le_succ _)) (I1.hok.fresh (Nat.le_refl _)) (Nat.ne_of_lt (Nat.lt_succ_self _))
  have hn := F.len _ _ _ _ hz
  have hu : ∀ a : Addr, (Value.ref a :: us ++ ds).length = ps.length := fun a => by
    rw [← hn]
    show (us ++ ds).length + 1 = (vs ++ dv).length + 1
    rw [List.length_append, List.length_append, r1.length, hd.length]
  exact run_nw (kw := []) (bs := fun z => z :: us ++ ds) (bv := fun z => z :: (vs ++ dv)) M F hr tk I1 (fun a s2 kin => hb s2 (.ref a :: us) kin (hu a)) (fun a => .cons rfl (r1.append hd)) q1
theorem pe_nwK0 (M : Mk X.K C f) (F : Fk X.prog X.w X.K X.mg X.base k f fd ps sp) (hr : Rm (k + 1) X.A) (hg : Gl X x) (hm : X.mg x = some (.ref C)) (hb : KBn X.K fd ps 1 ks g gV) (tks : Takes X W) (hkw : PK X kws tk)
    (hall : (backToKw pos (keywordEach kws X.env)).all (·.1.isSome) = true := by rfl) (hks : (backToKw pos (keywordEach kws X.env)).filterMap (·.1) = ks := by rfl) (hmm : ks.length = mm := by rfl) (hdb : (x == ("__debug__" : Str)) = false := by decide)
    (hpl : ((backTo pos (starEach [] X.env)).any (·.1) || (backToKw pos (keywordEach kws X.env)).any (·.1.isNone)) = false := by rfl) :
    PE X (.Call (.Name x p) [] kws pos) (tNwK C 0 mm sp gV W tNil tk) := by
  refine ⟨fun pins s σ H Q I h => wpAny_Call_Name_kw (ld_glob I hg hm ?_ hdb)⟩
  refine PySem.W.callWith_KW0 (h₀ := X.base) I.ok.mod.kin M.kp hall ?_ hpl
  refine thn (hkw.run pos pins s σ H _ I h) fun ws s2 ⟨zs, H2, I2, rz, l1, l2, q2⟩ => ⟨I2.kIn, ?_⟩
  rw [hks]
  subst hmm
  exact run_nw (us := []) (kw := ks.zip ws) (bs := fun z => g [z] ws) (bv := fun z => gV [z] zs) M F hr tks I2 (fun a s3 kin => hb.to s3 [.ref a] ws kin rfl (rz.length.symm.trans l2)) (fun a => hb.rel (.cons rfl .nil) rz) q2
theorem pe_nwK (M : Mk X.K C f) (F : Fk X.prog X.w X.K X.mg X.base k f fd ps sp) (hr : Rm (k + 1) X.A) (hg : Gl X x) (hm : X.mg x = some (.ref C)) (hb : KBn X.K fd ps (n + 1) ks g gV) (tks : Takes X W) (ha : PA X (e :: es) ta) (hkw : PK X kws tk)
    (hall : (backToKw pos (keywordEach kws X.env)).all (·.1.isSome) = true := by rfl) (hks : (backToKw pos (keywordEach kws X.env)).filterMap (·.1) = ks := by rfl) (hmm : ks.length = mm := by rfl) (hdb : (x == ("__debug__" : Str)) = false := by decide)
    (he : starEach (e :: es) X.env = (false, eval e X.env) :: starEach es X.env := by rfl) (hpl : ((backTo pos (starEach (e :: es) X.env)).any (·.1) || (backToKw pos (keywordEach kws X.env)).any (·.1.isNone)) = false := by rfl) :
    PE X (.Call (.Name x p) (e :: es) kws pos) (tNwK C n mm sp gV W ta tk) := by
  refine ⟨fun pins s σ H Q I h => wpAny_Call_Name_kw (ld_glob I hg hm ?_ hdb)⟩
  refine PySem.W.callWith_KW (h₀ := X.base) I.ok.mod.kin M.kp hall (thn (ha.run pos pins s σ H _ I h) fun us s1 ⟨vs, H1, I1, r1, q1⟩ => ?_) hpl he
  refine thn (hkw.run pos pins s1 σ H1 _ I1 q1) fun ws s2 ⟨zs, H2, I2, rz, l1, l2, q2⟩ => ⟨I2.kIn, ?_⟩
  rw [hks]
  subst hmm
  exact run_nw (us := us) (kw := ks.zip ws) (bs := fun z => g (z :: us) ws) (bv := fun z => gV (z :: vs) zs) M F hr tks I2 (fun a s3 kin => hb.to s3 (.ref a :: us) ws kin (by rw [List.length_cons, ← r1.length, l1]) (rz.length.symm.trans l2)) (fun a => hb.rel (.cons rfl r1) rz) q2
theorem pe_mt {pl : Sem Bool} (ho : PE X o to) (F : Fk X.prog X.w X.K X.mg X.base k f fd ps sp) (hr : Rm k X.A) (hb : Binds X.K fd ps ds) (hd : Vals dv ds) (tk : Takes X W) (ha : PA X (e :: es) ta)
    (hst : starEach (e :: es) X.env = (false, eval e X.env) :: starEach es X.env := by rfl) (hpl : (backTo pos (starEach es X.env)).any (·.1) = false := by rfl)
    (ht : eval (.Call (.Attribute o m apos) (e :: es) [] pos) X.env = mcl X o m apos pl pos (e :: es) [] := by rfl) :
    PE X (.Call (.Attribute o m apos) (e :: es) [] pos) (tMt X.K m f sp dv W to ta) := by
  refine ⟨fun pins s σ H Q I h => ?_⟩
  refine PySem.W.methodCall_KW (pl := pl) (thn (ho.run pins s σ H _ I h) fun u s1 ⟨y, H1, I1, ry, a, C, dx, fs, ey, ea, c, hm, l, q⟩ => ?_) ht
  subst ey
  obtain rfl : u = Value.ref a := ry
  refine getmeth_ok I1 ea c hm l ?_
  refine PySem.W.callWith_K (first := [.ref a]) (h₀ := X.base) I.ok.mod.kin hm.kp (thn (ha.run pos pins s1 σ H1 _ I1 q) fun us s2 ⟨vs, H2, I2, r2, q2⟩ => ⟨I2.kIn, ?_⟩) hst hpl
  exact run_d (us := .ref a :: us) (vs := .ref a :: vs) F hr hb hd tk I2 (.cons rfl r2) q2
theorem pe_mt0 {pl : Sem Bool} (ho : PE X o to) (F : Fk X.prog X.w X.K X.mg X.base k f fd ps sp) (hr : Rm k X.A) (hb : Binds X.K fd ps ds) (hd : Vals dv ds) (tk : Takes X W)
    (ht : eval (.Call (.Attribute o m apos) [] [] pos) X.env = mcl X o m apos pl pos [] [] := by rfl) :
    PE X (.Call (.Attribute o m apos) [] [] pos) (tMt X.K m f sp dv W to tNil) := by
  refine ⟨fun pins s σ H Q I h => ?_⟩
  refine PySem.W.methodCall_KW (pl := pl) (thn (ho.run pins s σ H _ I h) fun u s1 ⟨y, H1, I1, ry, a, C, dx, fs, ey, ea, c, hm, l, q⟩ => ?_) ht
  subst ey
  obtain rfl : u = Value.ref a := ry
  refine getmeth_ok I1 ea c hm l ?_
  exact PySem.W.callWith_K0 (first := [.ref a]) I1.kIn hm.kp (run_d (us := [.ref a]) (vs := [.ref a]) F hr hb hd tk I1 (.cons rfl .nil) q)
theorem pe_mtK {pl : Sem Bool} (ho : PE X o to) (F : Fk X.prog X.w X.K X.mg X.base k f fd ps sp) (hr : Rm k X.A) (hb : KBn X.K fd ps (n + 1) ks g gV) (tks : Takes X W) (ha : PA X (e :: es) ta) (hkw : PK X kws tk)
    (hall : (backToKw pos (keywordEach kws X.env)).all (·.1.isSome) = true := by rfl) (hks : (backToKw pos (keywordEach kws X.env)).filterMap (·.1) = ks := by rfl) (hmm : ks.length = mm := by rfl)
    (hst : starEach (e :: es) X.env = (false, eval e X.env) :: starEach es X.env := by rfl) (hpl : ((backTo pos (starEach (e :: es) X.env)).any (·.1) || (backToKw pos (keywordEach kws X.env)).any (·.1.isNone)) = false := by rfl)
    (ht : eval (.Call (.Attribute o m apos) (e :: es) kws pos) X.env = mcl X o m apos pl pos (e :: es) kws := by rfl) :
    PE X (.Call (.Attribute o m apos) (e :: es) kws pos) (tMtK X.K m f n mm sp gV W to ta tk) := by
  refine ⟨fun pins s σ H Q I h => ?_⟩
  refine PySem.W.methodCall_KW (pl := pl) (thn (ho.run pins s σ H _ I h) fun u s1 ⟨y, H1, I1, ry, a, C, dx, fs, ey, ea, c, hm, l, q⟩ => ?_) ht
  subst ey
  obtain rfl : u = Value.ref a := ry
  refine getmeth_ok I1 ea c hm l ?_
  refine PySem.W.callWith_KW (first := [.ref a]) (h₀ := X.base) I.ok.mod.kin hm.kp hall (thn (ha.run pos pins s1 σ H1 _ I1 q) fun us s2 ⟨vs, H2, I2, r2, q2⟩ => ?_) hpl hst
  refine thn (hkw.run pos pins s2 σ H2 _ I2 q2) fun ws s3 ⟨zs, H3, I3, rz, l1, l2, q3⟩ => ⟨I3.kIn, ?_⟩
  rw [hks]
  subst hmm
  exact run_g (args := ⟨.ref a :: us, ks.zip ws⟩) F hr tks I3 (hb.to s3 (.ref a :: us) ws I3.kIn (by rw [List.length_cons, ← r2.length, l1]) (rz.length.symm.trans l2)) (hb.rel (.cons (show RelV (.ref a) (.ref a) from rfl) r2) rz) q3
theorem pe_mtK0 {pl : Sem Bool} (ho : PE X o to) (F : Fk X.prog X.w X.K X.mg X.base k f fd ps sp) (hr : Rm k X.A) (hb : KBn X.K fd ps 1 ks g gV) (tks : Takes X W) (hkw : PK X kws tk)
    (hall : (backToKw pos (keywordEach kws X.env)).all (·.1.isSome) = true := by rfl) (hks : (backToKw pos (keywordEach kws X.env)).filterMap (·.1) = ks := by rfl) (hmm : ks.length = mm := by rfl)
    (hpl : ((backTo pos (starEach [] X.env)).any (·.1) || (backToKw pos (keywordEach kws X.env)).any (·.1.isNone)) = false := by rfl)
    (ht : eval (.Call (.Attribute o m apos) [] kws pos) X.env = mcl X o m apos pl pos [] kws := by rfl) :
    PE X (.Call (.Attribute o m apos) [] kws pos) (tMtK X.K m f 0 mm sp gV W to tNil tk) := by
  refine ⟨fun pins s σ H Q I h => ?_⟩
  refine PySem.W.methodCall_KW (pl := pl) (thn (ho.run pins s σ H _ I h) fun u s1 ⟨y, H1, I1, ry, a, C, dx, fs, ey, ea, c, hm, l, q⟩ => ?_) ht
  subst ey
  obtain rfl : u = Value.ref a := ry
  refine getmeth_ok I1 ea c hm l ?_
  refine PySem.W.callWith_KW0 (first := [.ref a]) (h₀ := X.base) I.ok.mod.kin hm.kp hall ?_ hpl
  refine thn (hkw.run pos pins s1 σ H1 _ I1 q) fun ws s3 ⟨zs, H3, I3, rz, l1, l2, q3⟩ => ⟨I3.kIn, ?_⟩
  rw [hks]
  subst hmm
  exact run_g (args := ⟨[.ref a], ks.zip ws⟩) F hr tks I3 (hb.to s3 [.ref a] ws I3.kIn rfl (rz.length.symm.trans l2)) (hb.rel (.cons (show RelV (.ref a) (.ref a) from rfl) .nil) rz) q3
/-- a property, nothing raised -/
theorem pe_pr (ho : PE X o to) (F : Fk X.prog X.w X.K X.mg X.base k f fd ps sp) (hr : Rm (k + 1) X.A) (hb : Binds X.K fd ps []) (hab : attributeBase o m X.env (eval o X.env) = eval o X.env) : PE X (.Attribute o m pos) (tPr X.K m f sp to) := by
  refine ⟨fun pins s σ H Q I h => attr_of hab (thn (ho.run pins s σ H _ I h) fun u s1 ⟨y, H1, I1, ry, a, C, dx, fs, pp, ey, ea, c, hp, q⟩ => ?_)⟩
  subst ey
  obtain rfl : u = Value.ref a := ry
  obtain ⟨mA, O, _, _, _, _⟩ := ins_get I1.hok ea
  obtain ⟨od, J, _⟩ := O.look
  obtain ⟨rest, hrec⟩ := hp.rec_
  have I2 := I1.tok (s1.toks + 1)
  have hc : (PySem.W.clsIn X.K C).isSome = true := by
    obtain ⟨cd, hc, _⟩ := PySem.W.any_some c.hd
    rw [hc] <;> rfl
  have hl : [Value.ref a].length = ps.length := (F.len _ _ _ _ q).symm ▸ rfl
  have b := hb { s1 with toks := s1.toks + 1 } [Value.ref a] I2.kIn (by rw [List.append_nil]; exact hl)
  rw [List.append_nil] at b
  have e0 := I2.env0.in1
  refine PySem.W.get_bind I1.kIn J (PySem.W.plainGet_of (c.get m)).1 (PySem.W.findObj_data hc hp.at_ hp.get hp.tak) (PySem.W.plainGet_of (c.get m)).2 (wpAny_call (PySem.W.prop_get (s := { s1 with toks := s1.toks + 1 }) I1.kIn hrec ?_))
  refine codeAny_mono (F.run X.A.in1 X.stack { s1 with toks := s1.toks + 1 } H1 ⟨[.ref a], []⟩ [.ref a] [.ref a] Q E0 hr.in1 e0 b (.cons rfl .nil) q) fun rr s2 hq => ?_
  cases rr with
  | error er => obtain ⟨_, _, _, _, _, _, _, _, _, _, _, _, z⟩ := hq; exact z.elim
  | ok fl =>
    cases fl with
    | ret u2 =>
      obtain ⟨v, H3, I3, rv, q3⟩ := I2.after hq
      show wpAny _ _ (handedOut u2) _ _ _
      rw [PySem.W.handedOut_of (handed_of rv)]
      exact wpAny_pure ⟨v, H3, I3, rv, q3⟩
    | next => exact hq.elim
    | brk => exact hq.elim
    | cont => exact hq.elim
end
end SJ

/-! SJO: the special methods of the text's own classes: ==, !=, str, repr, len. -/
namespace SJ
open PySem PySem.Spec PyProof.Rows L2 He
section
variable {prog : Program} {w : World} {A : Around} {E : Value → Shared → Prop} {s : Shared} {K : PySem.W.Frag} {x y C C2 L f : Addr} {h0 : Heap} {m : Str → Option Value} {ox oy : Obj} {od od2 : Option Obj}
/-- the right operand's class lies below the left one's: it is asked first -/
theorem cmp_below {op : CmpOp} {Q : Value → Shared → Prop} (hu : A.units < cLine) (X : K.In s.heap) (I : PySem.W.InstAt s.heap x ox C od) (J : PySem.W.InstAt s.heap y oy C2 od2) (hne : C2 ≠ C) (hsub : PySem.W.subIn K (.ref C2) (.ref C) = some true)
    (hs : PySem.W.findIn K (.ref C2) (cmpInfo op).2.2 = some (some (.ref f))) (hf : PySem.W.isFn K (.ref f) = true)
    (h : wpAny (model prog w) A (call (.ref f) [.ref y, .ref x]) (PySem.W.CmpBack Q) E s) : wpAny (model prog w) A (richCompare op (.ref x) (.ref y)) Q E s := by
  have one : wpAny (model prog w) A (tryCompare (.ref y) (cmpInfo op).2.2 (.ref x)) (fun rr s2 => ∃ v, rr = some v ∧ Q v s2) E s := by
    unfold tryCompare
    refine wpAny_bind (PySem.W.ifBound_K X J hs hf (wpAny_mono h (fun v s2 hv => ?_) fun _ _ z => z))
    cases v <;> first | exact hv.elim | exact wpAny_pure ⟨_, rfl, hv⟩
  unfold richCompare
  simp only [oneThing_ref]
  refine wpAny_holding (wpAny_bind (wpAny_cRoomFor hu ?_))
  refine wpAny_bind (I.type.here (wpAny_bind (J.type.here ?_)))
  have nb : (Value.ref C != Value.ref C2) = true := by simpa using (Ne.symm hne)
  rw [nb]
  refine wpAny_bind ((PySem.W.looks_subIn X hsub).here ?_)
  refine wpAny_bind (wpAny_mono one (fun rr s2 z => ?_) fun _ _ z => z)
  obtain ⟨v, rfl, hq⟩ := z
  show wpAny _ _ (rule "compare.subclass-reflected-first" >>= fun _ => pure v) _ _ _
  repeat (first | exact wpAny_pure hq | wp_step)
/-- an own class without __ne__: what __eq__ says, turned -/
theorem ifBound_ne {args : List Value} {Q : Option Value → Shared → Prop} (X : K.In s.heap) (I : PySem.W.InstAt s.heap x ox C od) (hs : PySem.W.findIn K (.ref C) "__ne__" = some (some (.builtin "object.__ne__")))
    (h : wpAny (model prog w) A (call (.builtin "object.__ne__") (.ref x :: args)) (fun v => Q (some v)) E s) : wpAny (model prog w) A (callSpecialIfBound? (.ref x) "__ne__" args) Q E s := by
  simp only [callSpecialIfBound?, bindSpecialIfBound?]
  refine wpAny_holding (wpAny_bind (wpAny_bind (wpAny_bind (I.type.here ((PySem.W.looks_findIn X hs).here ?_)))))
  refine wpAny_bind (wpAny_askSetting (wpAny_ite ?_))
  have fin : wpAny (model prog w) A (call (.builtin "object.__ne__") ([.ref x] ++ args) >>= fun v => pure (some v)) Q E s := wpAny_bind (wpAny_mono h (fun v s2 z => wpAny_pure z) fun _ _ z => z)
  have hb : bindSpecial (.builtin "object.__ne__") (.ref x) = pure (.builtin "object.__ne__", [.ref x]) := PySem.F.slot_object_ne.bind _
  split
  · exact wpAny_bind (wpAny_of_eq hb (wpAny_pure (by exact fin)))
  · exact wpAny_tryCatch (wpAny_bind (wpAny_of_eq hb (wpAny_pure (by exact fin))))
theorem call_ne {b : Value} {Q : Value → Shared → Prop} (hu : A.in1.units < cLine) (X : K.In s.heap) (I : PySem.W.InstAt s.heap x ox C od) (hm : PySem.W.mroIn K C (.type "object") = some true)
    (hs : PySem.W.findIn K (.ref C) "__eq__" = some (some (.ref f))) (hf : PySem.W.isFn K (.ref f) = true)
    (h : wpAny (model prog w) A.in1 (call (.ref f) [.ref x, b]) (fun v s2 => ∃ c, v = .bool c ∧ Q (.bool (!c)) s2) E s) : wpAny (model prog w) A (call (.builtin "object.__ne__") [.ref x, b]) Q E s := by
  refine wpAny_call (codeAny_call_builtin PySem.F.slot_object_ne.plain PySem.F.cmpEntry_ne (PySem.W.check_slot (i := "object.__ne__") (owner := "object") (n := "__ne__") PySem.F.cmpKind_ne PySem.F.cmpSplit_ne (I.type.andThen (PySem.W.looks_mroIn X hm)) (PySem.F.cmpArgs_ne _ _) ?_))
  unfold Builtin.«object.__ne__»
  repeat (first
    | with_reducible refine wpAny_cRoomFor hu ?_
    | (refine wpAny_bind (m := callSpecialIfBound? (.ref x) (Str.ofString "__eq__") [b]) (PySem.W.ifBound_K X I hs hf (wpAny_mono h (fun rr s2 hr => by
          obtain ⟨c, rfl, hq⟩ := hr
          repeat (first | exact hq | exact wpAny_pure hq | exact wpAny_truthy_bool hq | (refine wpAny_bind (m := truthy (.bool _)) (wpAny_truthy_bool ?_)) | exact ⟨_, rfl, hq⟩ | wp_step)) fun _ _ z => z)))
    | wp_step)
end

/-! ### over the layer -/
section
variable {X : Cx} {k : Nat} {f : Addr} {fd : FuncData} {ps : List Str} {sp : Sp}
/-- a def run at a deeper place, nothing raised -/
theorem run_at {A : Around} {pins : List (Addr × Obj)} {σ : L2.St} {H : Hp} {s : Shared} {Q : VK} {E : Value → Shared → Prop} {us : List Value} {vs : List V} (F : Fk X.prog X.w X.K X.mg X.base k f fd ps sp) (hr : Rm k A) (fr : A.frames = X.A.frames) (hb : Binds X.K fd ps [])
    (I : Inv X pins σ H s) (rv : Vals vs us) (h : sp vs H Q E0) : wpAny (model X.prog X.w) A (call (.ref f) us) (EP X pins σ Q) E s := by
  have hl : us.length = ps.length := by rw [← rv.length]; exact F.len _ _ _ _ h
  have b := hb s us I.kIn (by rw [List.append_nil]; exact hl)
  rw [List.append_nil] at b
  have e := I.env0
  refine wpAny_call (codeAny_mono (F.run A X.stack s H ⟨us, []⟩ us vs Q E0 hr ⟨by rw [fr]; exact e.frames, e.mod, e.bs, e.bsz, e.funs, e.frf, e.hok, e.bare⟩ b rv h) fun rr s2 hq => ?_)
  cases rr with
  | error er => obtain ⟨_, _, _, _, _, _, _, _, _, _, _, _, z⟩ := hq; exact z.elim
  | ok fl =>
    cases fl with
    | ret u => exact I.after hq
    | next => exact hq.elim
    | brk => exact hq.elim
    | cont => exact hq.elim
def rOwnEq (K : PySem.W.Frag) (g : Addr) (sp : Sp) : R2 := fun x y H Q => ∃ a C dx fs, x = .ref a ∧ H a = some (.ins C dx fs) ∧ PySem.W.findIn K (.ref C) "__eq__" = some (some (.ref g)) ∧
  ((∃ tb, TyX K H y tb ∧ PySem.W.notFirst K C tb = true ∧ sp [x, y] H Q E0) ∨
    ∃ b C2 d2 f2, y = .ref b ∧ H b = some (.ins C2 d2 f2) ∧ C2 ≠ C ∧ PySem.W.subIn K (.ref C2) (.ref C) = some true ∧ PySem.W.findIn K (.ref C2) "__eq__" = some (some (.ref g)) ∧ sp [y, x] H Q E0)
def rOwnNe (K : PySem.W.Frag) (g : Addr) (sp : Sp) : R2 := fun x y H Q => ∃ a C dx fs, x = .ref a ∧ H a = some (.ins C dx fs) ∧ PySem.W.findIn K (.ref C) "__eq__" = some (some (.ref g)) ∧ PySem.W.findIn K (.ref C) "__ne__" = some (some (.builtin "object.__ne__")) ∧ PySem.W.mroIn K C (.type "object") = some true ∧
  ((∃ tb, TyX K H y tb ∧ PySem.W.notFirst K C tb = true ∧ sp [x, y] H (fun v H2 => ∃ c, v = .bl c ∧ Q (.bl (!c)) H2) E0) ∨
    ∃ b C2 d2 f2, y = .ref b ∧ H b = some (.ins C2 d2 f2) ∧ C2 ≠ C ∧ PySem.W.subIn K (.ref C2) (.ref C) = some true ∧ PySem.W.findIn K (.ref C2) "__eq__" = some (some (.ref g)) ∧ PySem.W.findIn K (.ref C2) "__ne__" = some (some (.builtin "object.__ne__")) ∧
      PySem.W.mroIn K C2 (.type "object") = some true ∧ sp [y, x] H (fun v H2 => ∃ c, v = .bl c ∧ Q (.bl (!c)) H2) E0)
theorem back_of {pins : List (Addr × Obj)} {σ : L2.St} {Q : VK} {v : Value} {s : Shared} (h : EP X pins σ Q v s) : PySem.W.CmpBack (EP X pins σ Q) v s := by
  obtain ⟨z, H, I, r, q⟩ := h
  have hh : EP X pins σ Q v s := ⟨z, H, I, r, q⟩
  cases v with
  | notImplemented => cases z <;> first | (cases r; done) | (obtain ⟨_, e⟩ := r; cases e)
  | _ => exact hh
theorem o_ownEq (F : Fk X.prog X.w X.K X.mg X.base k f fd ps sp) (hr : Rm k X.A) (hf : PySem.W.isFn X.K (.ref f) = true) (hb : Binds X.K fd ps []) : OpR X (compareOp .Eq) (rOwnEq X.K f sp) := by
  intro pins s σ H x y v u Q I rx ry h
  obtain ⟨a, C, dx, fs, rfl, ha, he, h⟩ := h
  obtain rfl : v = Value.ref a := rx
  obtain ⟨mA, J, _⟩ := ins_get I.hok ha
  obtain ⟨od, J, _⟩ := J.look
  obtain ⟨m, hF⟩ := I.fr
  show wpAny (model X.prog X.w) X.A (richCompare .Eq (.ref a) u) (EP X pins σ Q) X.xe s
  rcases h with ⟨tb, ty, nf, hs⟩ | ⟨b, C2, d2, f2, rfl, hb2, ne, sub, he2, hs⟩
  · obtain ⟨P, Z, p, _⟩ := kit_of I ry ty
    exact PySem.W.cmp_K (op := .Eq) hr.units0 hF I.ok.mod.kin J (Z.ty _ _ I.kIn p) nf he hf (wpAny_mono (run_at F hr rfl hb I (.cons (show RelV (.ref a) (.ref a) from rfl) (.cons ry .nil)) hs) (fun v s2 q => back_of q) fun _ _ z => z)
  · obtain rfl : u = Value.ref b := ry
    obtain ⟨mB, J2, _⟩ := ins_get I.hok hb2
    obtain ⟨od2, J2, _⟩ := J2.look
    exact cmp_below (op := .Eq) hr.units0 I.kIn J J2 ne sub he2 hf (wpAny_mono (run_at F hr rfl hb I (.cons (show RelV (.ref b) (.ref b) from rfl) (.cons (show RelV (.ref a) (.ref a) from rfl) .nil)) hs) (fun v s2 q => back_of q) fun _ _ z => z)
theorem bool_of {pins : List (Addr × Obj)} {σ : L2.St} {Q : VK} {v : Value} {s : Shared} (h : EP X pins σ (fun v H2 => ∃ c, v = .bl c ∧ Q (.bl (!c)) H2) v s) : ∃ c, v = .bool c ∧ EP X pins σ Q (.bool (!c)) s := by
  obtain ⟨z, H, I, r, c, rfl, q⟩ := h
  exact ⟨c, r, .bl (!c), H, I, rfl, q⟩
theorem o_ownNe (F : Fk X.prog X.w X.K X.mg X.base k f fd ps sp) (hr : Rm (k + 1) X.A) (hf : PySem.W.isFn X.K (.ref f) = true) (hb : Binds X.K fd ps []) : OpR X (compareOp .NotEq) (rOwnNe X.K f sp) := by
  intro pins s σ H x y v u Q I rx ry h
  obtain ⟨a, C, dx, fs, rfl, ha, he, hne, hm, h⟩ := h
  obtain rfl : v = Value.ref a := rx
  obtain ⟨mA, J, _⟩ := ins_get I.hok ha
  obtain ⟨od, J, _⟩ := J.look
  have hu1 : X.A.in1.units < cLine := hr.in1.units0
  have cb : ∀ {c : Bool} {s2 : Shared}, EP X pins σ Q (.bool c) s2 → PySem.W.CmpBack (EP X pins σ Q) (.bool c) s2 := fun z => z
  show wpAny (model X.prog X.w) X.A (richCompare .NotEq (.ref a) u) (EP X pins σ Q) X.xe s
  unfold richCompare
  simp only [oneThing_ref]
  refine wpAny_holding (wpAny_bind (wpAny_cRoomFor hr.units0 ?_))
  rcases h with ⟨tb, ty, nf, hs⟩ | ⟨b, C2, d2, f2, rfl, hb2, ne, sub, he2, hne2, hm2, hs⟩
  · obtain ⟨P, Z, p, _⟩ := kit_of I ry ty
    have one : wpAny (model X.prog X.w) X.A (tryCompare (.ref a) "__ne__" u) (fun rr s2 => ∃ v, rr = some v ∧ EP X pins σ Q v s2) X.xe s := by
      unfold tryCompare
      refine wpAny_bind (ifBound_ne I.kIn J hne (call_ne hu1 I.kIn J hm he hf (wpAny_mono (run_at F hr.in1 rfl hb I (.cons (show RelV (.ref a) (.ref a) from rfl) (.cons ry .nil)) hs) (fun v s2 q => ?_) fun _ _ z => z)))
      obtain ⟨c, rfl, q2⟩ := bool_of q
      exact ⟨c, rfl, wpAny_pure ⟨_, rfl, q2⟩⟩
    refine wpAny_bind (J.type.here (wpAny_bind ((Z.ty _ _ I.kIn p).here ?_)))
    split
    · rename_i q
      have e : PySem.W.subIn X.K tb (.ref C) = some false := by
        rcases Bool.or_eq_true_iff.mp nf with e | e
        · rw [beq_iff_eq.mp e] at q; simp at q
        · exact beq_iff_eq.mp e
      refine wpAny_bind ((PySem.W.looks_subIn I.kIn e).here ?_)
      simp only [Bool.false_eq_true, if_false]
      refine wpAny_bind (wpAny_mono one (fun rr s2 z => ?_) fun _ _ z => z)
      obtain ⟨v, rfl, hq⟩ := z
      exact wpAny_pure hq
    · refine wpAny_bind (wpAny_pure ?_)
      simp only [Bool.false_eq_true, if_false]
      refine wpAny_bind (wpAny_mono one (fun rr s2 z => ?_) fun _ _ z => z)
      obtain ⟨v, rfl, hq⟩ := z
      exact wpAny_pure hq
  · obtain rfl : u = Value.ref b := ry
    obtain ⟨mB, J2, _⟩ := ins_get I.hok hb2
    obtain ⟨od2, J2, _⟩ := J2.look
    have one : wpAny (model X.prog X.w) X.A (tryCompare (.ref b) "__ne__" (.ref a)) (fun rr s2 => ∃ v, rr = some v ∧ EP X pins σ Q v s2) X.xe s := by
      unfold tryCompare
      refine wpAny_bind (ifBound_ne I.kIn J2 hne2 (call_ne hu1 I.kIn J2 hm2 he2 hf (wpAny_mono (run_at F hr.in1 rfl hb I (.cons (show RelV (.ref b) (.ref b) from rfl) (.cons (show RelV (.ref a) (.ref a) from rfl) .nil)) hs) (fun v s2 q => ?_) fun _ _ z => z)))
      obtain ⟨c, rfl, q2⟩ := bool_of q
      exact ⟨c, rfl, wpAny_pure ⟨_, rfl, q2⟩⟩
    refine wpAny_bind (J.type.here (wpAny_bind (J2.type.here ?_)))
    have nb : (Value.ref C != Value.ref C2) = true := by simpa using (Ne.symm ne)
    rw [nb]
    refine wpAny_bind ((PySem.W.looks_subIn I.kIn sub).here ?_)
    refine wpAny_bind (wpAny_mono one (fun rr s2 z => ?_) fun _ _ z => z)
    obtain ⟨v, rfl, hq⟩ := z
    show wpAny _ _ (rule "compare.subclass-reflected-first" >>= fun _ => pure v) _ _ _
    repeat (first | exact wpAny_pure hq | wp_step)
/-! ### str, repr, len of an own instance -/
def rOwn1 (K : PySem.W.Frag) (m : Str) (g : Addr) (sp : Sp) : List V → Hp → VK → Prop := fun xs H Q => ∃ a C dx fs, xs = [.ref a] ∧ H a = some (.ins C dx fs) ∧ PySem.W.findIn K (.ref C) m = some (some (.ref g)) ∧ sp [.ref a] H (fun v H2 => ∃ z, v = .str z ∧ Q v H2) E0
def rOwnLen (K : PySem.W.Frag) (g : Addr) (sp : Sp) : List V → Hp → VK → Prop := fun xs H Q => ∃ a C dx fs, xs = [.ref a] ∧ H a = some (.ins C dx fs) ∧ PySem.W.findIn K (.ref C) "__len__" = some (some (.ref g)) ∧ sp [.ref a] H (fun v H2 => ∃ z : Int, v = .int z ∧ 0 ≤ z ∧ z < 2 ^ 63 ∧ Q v H2) E0
theorem str_back {pins : List (Addr × Obj)} {σ : L2.St} {Q : VK} {v : Value} {s : Shared} (h : EP X pins σ (fun v H2 => ∃ z, v = .str z ∧ Q v H2) v s) : PySem.W.StrBack (EP X pins σ Q) v s := by
  obtain ⟨z, H, I, r, y, rfl, q⟩ := h
  obtain ⟨t, rfl⟩ := r
  exact ⟨.str y, H, I, ⟨t, rfl⟩, q⟩
theorem c_reprOwn (F : Fk X.prog X.w X.K X.mg X.base k f fd ps sp) (hr : Rm (k + 1) X.A) (hf : PySem.W.isFn X.K (.ref f) = true) (hb : Binds X.K fd ps []) : CallR X (.builtin "repr") (rOwn1 X.K "__repr__" f sp) := by
  intro pins s σ H xs us Q I r h
  obtain ⟨a, C, dx, fs, rfl, ha, he, hs⟩ := h
  obtain ⟨u1, rfl, r1⟩ := vals1 r
  obtain rfl : u1 = Value.ref a := r1
  obtain ⟨mA, J, _⟩ := ins_get I.hok ha
  obtain ⟨od, J, _⟩ := J.look
  obtain ⟨m, hF⟩ := I.fr
  exact PySem.W.repr_K hr.in1.units0 hF I.ok.mod.kin J he hf (wpAny_mono (run_at F hr.in1 rfl hb I (.cons (show RelV (.ref a) (.ref a) from rfl) .nil) hs) (fun v s2 q => str_back q) fun _ _ z => z)
theorem c_strOwn (F : Fk X.prog X.w X.K X.mg X.base k f fd ps sp) (hr : Rm (k + 2) X.A) (hf : PySem.W.isFn X.K (.ref f) = true) (hb : Binds X.K fd ps []) : CallR X (.type "str") (rOwn1 X.K "__str__" f sp) := by
  intro pins s σ H xs us Q I r h
  obtain ⟨a, C, dx, fs, rfl, ha, he, hs⟩ := h
  obtain ⟨u1, rfl, r1⟩ := vals1 r
  obtain rfl : u1 = Value.ref a := r1
  obtain ⟨mA, J, _⟩ := ins_get I.hok ha
  obtain ⟨od, J, _⟩ := J.look
  exact PySem.W.kso_call hr.in1.in1.units0 I.kIn J he hf (wpAny_mono (run_at F hr.in1.in1 rfl hb I (.cons (show RelV (.ref a) (.ref a) from rfl) .nil) hs) (fun v s2 q => str_back q) fun _ _ z => z)
theorem c_lenOwn (F : Fk X.prog X.w X.K X.mg X.base k f fd ps sp) (hr : Rm (k + 1) X.A) (hf : PySem.W.isFn X.K (.ref f) = true) (hb : Binds X.K fd ps []) : CallR X (.builtin "len") (rOwnLen X.K f sp) := by
  intro pins s σ H xs us Q I r h
  obtain ⟨a, C, dx, fs, rfl, ha, he, hs⟩ := h
  obtain ⟨u1, rfl, r1⟩ := vals1 r
  obtain rfl : u1 = Value.ref a := r1
  obtain ⟨mA, J, _⟩ := ins_get I.hok ha
  obtain ⟨od, J, _⟩ := J.look
  obtain ⟨m, hF⟩ := I.fr
  refine PySem.W.len_K hF I.ok.mod.kin J he hf (wpAny_mono (run_at F hr.in1 rfl hb I (.cons (show RelV (.ref a) (.ref a) from rfl) .nil) hs) (fun v s2 q => ?_) fun _ _ z => z)
  obtain ⟨z, H2, I2, rz, n, rfl, n0, n1, q2⟩ := q
  obtain ⟨t, rfl⟩ := rz
  exact ⟨⟨n0, n1⟩, .int n, H2, I2.tok _, ⟨_, rfl⟩, q2⟩
end
end SJ

/-! SJP: repr of data (None, bools, ints, texts, lists and tuples of them, nested). -/
namespace SJ
open PySem PySem.Spec PyProof.Rows L2 He
def rRepr (K : PySem.W.Frag) : List V → Hp → VK → Prop := fun xs H Q => ∃ (x : V) (d : PyData), xs = [x] ∧ Dp K H x d ∧ d.showable = true ∧ d.depth ≤ 100 ∧ d.shown.length ≤ sizeLine ∧ Q (.str d.shown) H
mutual
theorem Dp.noDict {K : PySem.W.Frag} {H : Hp} : ∀ (d : PyData) (x : V), Dp K H x d → d.hasDict = false
  | .none, _, _ => by simp only [PyData.hasDict]
  | .bool _, _, _ => by simp only [PyData.hasDict]
  | .int _, _, _ => by simp only [PyData.hasDict]
  | .str _, _, _ => by simp only [PyData.hasDict]
  | .list ds, _, h => by
    cases h with
    | lst _ ha => simp only [PyData.hasDict]; exact DpAll.noDict ds _ ha
  | .tuple ds, _, h => by
    cases h with
    | tup _ ha => simp only [PyData.hasDict]; exact DpAll.noDict ds _ ha
  | .dict _, _, h => by cases h
theorem DpAll.noDict {K : PySem.W.Frag} {H : Hp} : ∀ (ds : List PyData) (xs : List V), DpAll K H xs ds → PyData.hasDictAll ds = false
  | [], _, _ => by simp only [PyData.hasDictAll]
  | d :: ds, _, h => by
    cases h with
    | cons h1 h2 => simp only [PyData.hasDictAll, Dp.noDict d _ h1, DpAll.noDict ds _ h2, Bool.or_false]
end
section
variable {X : Cx} {k : Nat}
theorem c_repr (hr : Rm k X.A) : CallR X (.builtin "repr") (rRepr X.K) := by
  intro pins s σ H xs us Q I r h
  obtain ⟨x, d, rfl, hd, sh, dp, sz, q⟩ := h
  obtain ⟨u1, rfl, r1⟩ := vals1 r
  obtain ⟨as, rd⟩ := Dp.reads I d x u1 hd r1
  have hu : X.A.units + (d.depth + 1) < cLine := by have := hr.r.un; omega
  have fin : ∀ (h2 : Heap) (u : Tok) (tk : Nat), (∀ b o, s.heap.get? b = some o → h2.get? b = some o) → EP X pins σ Q (.str d.shown u) { s with heap := h2, toks := tk } := fun h2 u tk kp => ⟨.str d.shown, H, I.kept kp, ⟨u, rfl⟩, q⟩
  cases hd with
  | non => obtain rfl : u1 = Value.none := r1; exact P.repr_of_none (fin _ _ _ fun _ _ z => z)
  | bl b => obtain rfl : u1 = Value.bool b := r1; exact P.repr_of_bool (fin _ _ _ fun _ _ z => z)
  | int i => obtain ⟨t, rfl⟩ := r1; exact P.repr_of_int (of_decide_eq_true sh) (fin _ _ _ fun _ _ z => z)
  | str z => obtain ⟨t, rfl⟩ := r1; exact P.repr_of_str (fin _ _ _ fun _ _ z => z) (by simpa only [PyData.shown] using sz)
  | @lst a ys ds hs ha => obtain rfl : u1 = Value.ref a := r1; exact repr_of_reads' rd sh (PyData.noDict_hsm (Dp.noDict _ _ (.lst hs ha))) hr.g hu (fun _ _ z => z) fin sz
  | @tup a ys ds hs ha => obtain rfl : u1 = Value.ref a := r1; exact repr_of_reads' rd sh (PyData.noDict_hsm (Dp.noDict _ _ (.tup hs ha))) hr.g hu (fun _ _ z => z) fin sz
end
end SJ

/-! SJE: own exceptions over any of the built-in bases, whose __init__ says super().__init__(..) and stores fields. -/
namespace SJ
open PySem PySem.Spec PyProof.Rows L2 He
/-- of the built-in base -/
structure ExB (B newId initId : String) (bmB : List Value) : Prop where
  fb : ExcBaseFacts B newId initId bmB
  sf : StoreFacts B bmB "object.__setattr__" "object"
  kf : PySem.W.KxsFacts B initId
theorem exb_value : ExB "ValueError" "ValueError.__new__" "ValueError.__init__" [.type "ValueError", .type "Exception", .type "BaseException", .type "object"] := ⟨PySem.F.excBase_ValueError, PySem.F.store_ValueError, PySem.W.kxs_ValueError⟩
theorem exb_lookup : ExB "LookupError" "LookupError.__new__" "LookupError.__init__" [.type "LookupError", .type "Exception", .type "BaseException", .type "object"] := ⟨PySem.F.excBase_LookupError, PySem.F.store_LookupError, PySem.W.kxs_LookupError⟩
theorem exb_over : ExB "OverflowError" "OverflowError.__new__" "OverflowError.__init__" [.type "OverflowError", .type "ArithmeticError", .type "Exception", .type "BaseException", .type "object"] := ⟨PySem.F.excBase_OverflowError, PySem.F.store_OverflowError, PySem.W.kxs_OverflowError⟩
/-- of the own class -/
structure ExG (K : PySem.W.Frag) (C : Addr) (newId : String) (bmB : List Value) : Prop where
  q : PySem.W.excInitIn K C bmB newId = true
  hd : PySem.W.hasDictIn K C = true
  ov : PySem.W.excOver K C bmB = true
  sa : PySem.W.findIn K (.ref C) "__setattr__" = some (some (.builtin "object.__setattr__"))
  exC : PySem.W.subIn K (.ref C) (.type "BaseException") = some true
  tyC : PySem.W.typeIn K (.ref C) = some (.type "type")
  kC : PySem.W.keepIn K (.ref C) = true
section
open Builtin Builtin.ObjectAttr
variable {prog : Program} {w : World} {A : Around} {E : Value → Shared → Prop} {R : Result → Shared → Prop} {hp : Heap} {g : Array GenState} {d : Drawn} {t : Nat} {os : OsState} {K : PySem.W.Frag} {x C : Addr} {B newId initId : String} {bmB : List Value}
theorem ex_first {name : Str} {tk : Tok} {v : Value} {fv : Array Value} (SF : StoreFacts B bmB "object.__setattr__" "object") (T : ExG K C newId bmB) (X : K.In hp) (hx : hp.get? x = some { cls := .ref C, data := .fields fv }) (ha : PySem.W.findIn K (.ref C) name = some none)
    (hq : ∀ h2 tk2 dx, (∀ b o, b ≠ x → hp.get? b = some o → h2.get? b = some o) → hp.objs.size ≤ dx → dx ≠ x → h2.get? x = some { cls := .ref C, dict := some dx, data := .fields fv } →
      h2.Ns1 dx (fun y => if y = name then some v else none) → R (.ok (.ret .none)) ⟨h2, g, d, tk2, os⟩) :
    codeAny (model prog w) A (.call (.builtin "object.__setattr__") ⟨[.ref x, .str name tk, v], []⟩) R ⟨hp, g, d, t, os⟩ := by
  have I : PySem.W.InstAt hp x { cls := .ref C, data := .fields fv } C none := ⟨hx, rfl, rfl, trivial⟩
  have hxs : x ≠ hp.objs.size := Nat.ne_of_lt (Heap.lt_size hx)
  obtain ⟨cd, hcd, hh⟩ := PySem.W.any_some T.hd
  have hcls : PySem.W.Looks (model prog w) hp (classData C) cd := PySem.W.looks_clsIn X hcd
  refine PySem.W.osa_openX (s := ⟨hp, g, d, t, os⟩) SF X I T.ov (NoAttr.taker ha) fun bb => ?_
  show wpAny _ _ (storeInOwnDict (.ref x) (.ref C) (.str name tk) name v bb) _ _ _
  obtain ⟨c1, c2, c3, c4, c5, c6, c7, c8, c9, c10, c11⟩ := cd
  dsimp only at hh
  subst hh
  unfold storeInOwnDict ownDictForStores
  repeat (first | with_reducible refine PySem.HandSPX.store_in_new ?_ ?_ | with_reducible refine wpAny_loadPart_at hx ?_ | with_reducible refine hcls.at ?_ | wp_step)
  · exact ⟨_, #[], _, (Heap.get?_update_ne _ _ _ _ hxs.symm).trans (Heap.get?_push_at rfl rfl), rfl, fun e he => absurd he (by simp), fun _ => rfl⟩
  · intro h2 tk2 hn hs
    have hx1 : (hp.push { cls := .type "dict", data := .dict #[] }).get? x = some { cls := .ref C, data := .fields fv } := Heap.get?_push_of_some _ hx
    refine hq h2 tk2 hp.objs.size (fun b o hb ho => ?_) (Nat.le_refl _) hxs.symm ((hs.2 x hxs).trans (Heap.get?_update_self _ hx1 rfl)) hn
    exact (hs.2 b (Nat.ne_of_lt (Heap.lt_size ho))).trans ((Heap.get?_update_ne _ _ _ _ hb).trans (Heap.get?_push_of_some _ ho))
theorem ex_more {name : Str} {tk : Tok} {v : Value} {dx : Addr} {fv : Array Value} {m0 : Str → Option Value} {nl : List Str} (SF : StoreFacts B bmB "object.__setattr__" "object") (T : ExG K C newId bmB) (X : K.In hp)
    (hx : hp.get? x = some { cls := .ref C, dict := some dx, data := .fields fv }) (hns : hp.Ns1 dx m0) (hw : Within m0 nl) (hz : nl.length ≤ 1000) (ha : PySem.W.findIn K (.ref C) name = some none)
    (hq : ∀ h2 tk2, (∀ b o, b ≠ dx → hp.get? b = some o → h2.get? b = some o) → h2.Ns1 dx (fun y => if y = name then some v else m0 y) → R (.ok (.ret .none)) ⟨h2, g, d, tk2, os⟩) :
    codeAny (model prog w) A (.call (.builtin "object.__setattr__") ⟨[.ref x, .str name tk, v], []⟩) R ⟨hp, g, d, t, os⟩ := by
  obtain ⟨oD, _, _, hoD, _, _⟩ := hns.count hw
  have I : PySem.W.InstAt hp x { cls := .ref C, dict := some dx, data := .fields fv } C (some oD) := ⟨hx, rfl, rfl, hoD⟩
  obtain ⟨cd, hcd, hh⟩ := PySem.W.any_some T.hd
  have hcls : PySem.W.Looks (model prog w) hp (classData C) cd := PySem.W.looks_clsIn X hcd
  refine PySem.W.osa_openX (s := ⟨hp, g, d, t, os⟩) SF X I T.ov (NoAttr.taker ha) fun bb => ?_
  show wpAny _ _ (storeInOwnDict (.ref x) (.ref C) (.str name tk) name v bb) _ _ _
  obtain ⟨c1, c2, c3, c4, c5, c6, c7, c8, c9, c10, c11⟩ := cd
  dsimp only at hh
  subst hh
  unfold storeInOwnDict ownDictForStores
  repeat (first | with_reducible refine PySem.OEX.store_in_old hns hw hz ?_ | with_reducible refine wpAny_loadPart_at hx ?_ | with_reducible refine hcls.at ?_ | wp_step)
  intro h2 tk2 hn hs
  exact hq h2 tk2 (fun b o hb ho => (hs.2 b hb).trans ho) hn
end
section
variable {X : Cx} {pins : List (Addr × Obj)} {σ : L2.St} {H : Hp} {s : Shared} {a C dx : Addr} {f : Str} {y : V} {u : Value} {fs : List (Str × V)} {Q : Unit → Shared → Prop} {E : Value → Shared → Prop} {A : Around} {B newId initId : String} {bmB : List Value}
theorem st_first (SF : StoreFacts B bmB "object.__setattr__" "object") (T : ExG X.K C newId bmB) (I : Inv X pins σ H s) (e : H a = some (exo a C none)) (hno : PySem.W.findIn X.K (.ref C) f = some none) (ry : RelV y u)
    (h : ∀ dx s2, H dx = none → dx ≠ a → Inv X pins σ (upd (upd H dx (exd dx [(f, y)])) a (exo a C (some dx))) s2 → Q () s2) : wpAny (model X.prog X.w) A (setAttr (.ref a) f u) Q E s := by
  obtain ⟨t1, ho⟩ := exo_at I.hok e
  obtain ⟨hp, g, d, t, os⟩ := s
  refine PySem.W.set_plain I.kIn (ox := { cls := .ref C, dict := none, data := .fields #[.ref t1, .none, .none, .none, .bool false, .none] }) (od := none) ⟨ho, rfl, rfl, trivial⟩ T.sa ?_
  refine ex_first SF T I.kIn ho hno (fun h2 tk2 dx k dn dne hx hn => ?_)
  have hnd : H dx = none := I.hok.fresh dn
  have nd : ∀ {b : Addr} {o : Obj}, hp.get? b = some o → b ≠ dx := fun {b o} q => Nat.ne_of_lt (Nat.lt_of_lt_of_le (Heap.lt_size q) dn)
  have na : ∀ {b : Addr}, H b = none → b ≠ a := fun {b} n z => by rw [z, e] at n; cases n
  have U : Un X.fs [] H (upd (upd H dx (exd dx [(f, y)])) a (exo a C (some dx))) hp h2 := {
    keep := fun b o q n _ _ => k b o (na n) q
    slot := fun b o q n _ _ => ⟨o.slots, k b o (na n) q⟩
    free := fun b o q n _ => by rw [upd_ne (na n), upd_ne (nd q)]; exact n
    there := fun b o q _ => by
      by_cases z : b = a
      · subst z; exact ⟨_, hx⟩
      · exact ⟨o, k b o z q⟩
    tups := fun b xs q => by rw [upd_ne (at_ne e q exo_tup), upd_ne (ne_of_none q hnd)]; exact q
    frzs := fun b o v q => by rw [upd_ne (at_ne e q exo_frz), upd_ne (ne_of_none q hnd)]; exact q
    tbls := fun b ps q => ⟨#[], by rw [upd_ne (at_ne e q exo_tbl), upd_ne (ne_of_none q hnd), q]; simp⟩ }
  refine h dx _ hnd dne (I.un (t' := tk2) U fun b o q => ?_)
  by_cases hb : b = a
  · subst hb
    rw [upd_same] at q; cases q
    exact exo_ok hx
  · rw [upd_ne hb] at q
    by_cases hd : b = dx
    · subst hd
      rw [upd_same] at q; cases q
      exact exd_ok hn (relO_put (fs := []) ry fun _ => True.intro)
    · rw [upd_ne hd] at q
      refine (I.hok b o q).stay (fun c v hc z => k c v ?_ z) (fun c hc => by rw [upd_ne (at_ne e hc exo_own), upd_ne (ne_of_none hc hnd)]; exact hc) (fun c xs hc => by rw [upd_ne (at_ne e hc exo_tup), upd_ne (ne_of_none hc hnd)]; exact hc)
      rcases hc with hc | hc
      · rw [hc]; exact hb
      · exact at_ne e hc exo_own
theorem st_more (SF : StoreFacts B bmB "object.__setattr__" "object") (T : ExG X.K C newId bmB) (I : Inv X pins σ H s) (e : H a = some (exo a C (some dx))) (ed : H dx = some (exd dx fs)) (hl : fs.length ≤ 900) (hno : PySem.W.findIn X.K (.ref C) f = some none) (ry : RelV y u)
    (h : ∀ s2, Inv X pins σ (upd H dx (exd dx ((f, y) :: fs))) s2 → Q () s2) : wpAny (model X.prog X.w) A (setAttr (.ref a) f u) Q E s := by
  obtain ⟨t1, ho⟩ := exo_at I.hok e
  obtain ⟨mA, hns, rel⟩ := exd_at I.hok ed
  have hw := within_of rel
  obtain ⟨hp, g, d, t, os⟩ := s
  obtain ⟨oD, _, _, hoD, _, _⟩ := hns.count hw
  refine PySem.W.set_plain I.kIn (ox := { cls := .ref C, dict := some dx, data := .fields #[.ref t1, .none, .none, .none, .bool false, .none] }) (od := some oD) ⟨ho, rfl, rfl, hoD⟩ T.sa ?_
  refine ex_more SF T I.kIn ho hns hw (by rw [List.length_map]; omega) hno (fun h2 tk2 k hn => ?_)
  obtain ⟨o2, _, _, e2, _⟩ := id hn
  exact h _ (I.write (t' := tk2) (x := dx) (e := dx) (o := exd dx ((f, y) :: fs)) (by rw [ed]; exact True.intro) (.inl rfl) k ⟨o2, e2⟩ (exd_ok hn (relO_put ry rel)))
end

theorem lookup_nodup {α : Type} {y : Str} {u : α} : ∀ {l : List (Str × α)}, (l.map (·.1)).Nodup → (y, u) ∈ l → l.lookup y = some u
  | [], _, h => nomatch h
  | (z, v) :: r, nd, h => by
    show (match y == z with | true => some v | false => r.lookup y) = some u
    obtain ⟨n1, n2⟩ := List.nodup_cons.mp nd
    rcases List.mem_cons.mp h with e | e
    · cases e; rw [beq_self_eq_true]
    · have ne : (y == z) = false := beq_eq_false_iff_ne.mpr fun q => n1 (q ▸ List.mem_map_of_mem (f := (·.1)) e)
      rw [ne]; exact lookup_nodup n2 e
/-! ### super().__init__(..), called -/
section
variable {prog : Program} {w : World} {A : Around} {E : Value → Shared → Prop} {h : Heap} {g : Array GenState} {d : Drawn} {tk : Nat} {os : OsState} {K : PySem.W.Frag} {x C u t0 : Addr} {B newId initId : String} {bmB : List Value}
theorem sup_call {rest : List Value} {Q : Value → Shared → Prop} (T : ExB B newId initId bmB) (G : ExG K C newId bmB) (X : K.In h) (hu : h.get? u = some (PySem.W.kxs_mw initId x)) (he : h.get? x = some (PySem.W.excObj C t0 none .none)) (hz : rest.length ≤ sizeLine)
    (hq : ∀ h2 t2, (∀ b o, b ≠ x → h.get? b = some o → h2.get? b = some o) → h2.get? x = some (PySem.W.excObj C t2 none .none) → Q .none ⟨h2, g, d, tk, os⟩) :
    wpAny (model prog w) A (call (.ref u) rest) Q E ⟨h, g, d, tk, os⟩ := by
  obtain ⟨n1, n2, n3, n4, n5, n6, n7, n8, n9, n10, n11, k0, k1, k2, k3, k5, hC, hT⟩ := PySem.W.excInit_of X G.q
  refine wpAny_call (codeAny_of_tree ?_)
  show wpAny _ A.in1 (callAny (.ref u) ⟨rest, []⟩) _ _ _
  simp only [callAny]
  refine wpAny_bind (wpAny_load hu ?_)
  simp only [PySem.W.kxs_mw, show (Value.type "method-wrapper" == Value.type "method" || Value.type "method-wrapper" == Value.type "builtin_function_or_method" || Value.type "method-wrapper" == Value.type "method-wrapper") = true by decide, if_true]
  refine PySem.W.KFB.if_so (by decide) ?_
  refine wpAny_bind (PySem.W.check_bound_init T.fb.toExcCallFacts hC he rfl ?_)
  refine wpAny_bind (wpAny_pure (wpAny_pure ?_))
  refine ⟨plainId_quiet T.fb.init.plain _, codeAny_builtin T.fb.initEntry ?_⟩
  exact PySem.W.exc_init_tree (cls := .ref C) (t0 := t0) (dv := none) (c2 := .none) (c3 := .none) (b4 := .bool false) he hz fun h2 z1 z2 _ => hq h2 _ z1 z2
end
/-! ### a def that closes over __class__ -/
def cxS (P : Program) (w : World) (K : PySem.W.Frag) (mg : Str → Option Value) (base : Heap) (N : List Str) (qual : Str) (sc : Scope) (f : Addr) (cdv : Value) (cc : Addr) (A : Around) (outer : List Env) (s : Shared) (H : Hp) : Cx where
  prog := P
  w := w
  K := K
  mg := mg
  base := base
  A := A.deeper (PySem.W.ksEnv qual sc s.heap.objs.size f cdv cc)
  N := N
  s_0 := s
  H_0 := H
  env := PySem.W.ksEnv qual sc s.heap.objs.size f cdv cc
  outer := outer
  stack := PySem.W.ksEnv qual sc s.heap.objs.size f cdv cc :: outer
  ex := []
  calm := true
  fn := fun _ => false
  pn := []
  xe := fun _ _ => False
/-- what is known of the def: its scope's names, its code, the class that it closes over -/
structure SupFn (K : PySem.W.Frag) (P : Program) (N ps : List Str) (qual : Str) (pa : Arguments) (bo : List Stmt) (sc : Scope) (f cc cda D : Addr) : Prop where
  ex : ∃ (oc : Value) (od : Option Addr) (kV doc pm : Value) (an : Option Addr) (ct : Value) (osl : Array (Option Value)), K.lookup f = some ⟨oc, od, .func (PySem.W.ksFn "__init__" qual pa bo sc .none kV doc pm an (.ref cda) ct cc), osl⟩
  cd : PySem.W.codeIn K (.ref cda) qual = true
  file : ∃ (ccl : Value) (cdd : Option Addr) (vs : Array Value) (ccs : Array (Option Value)) (fi : Str) (tf : Tok), K.lookup cda = some ⟨ccl, cdd, .fields vs, ccs⟩ ∧ vs[2]? = some (.str fi tf) ∧ ((P.main.file : Str) == fi) = true
  cell : ∃ (cl : Value) (cld : Option Addr) (csl : Array (Option Value)), K.lookup cc = some ⟨cl, cld, .cell (some (.ref D)), csl⟩
  top : (P.main.scope.names.lookup ("super" : Str)).isSome = false
  kind : sc.kind = .function
  co : sc.isCoroutine = false
  gen : sc.isGenerator = false
  nd : N.Nodup
  pre : N.take ps.length = ps
  par : ∀ x ∈ ps, sc.names.lookup x = some .local
  nocell : ∀ x ∈ sc.names, x.2 ≠ .cell
  nofree : ∀ x, sc.names.lookup x = some .free → x = "__class__"
  cls : sc.names.lookup ("__class__" : Str) = some .free
  sup : sc.names.lookup ("super" : Str) = some .globalImplicit
  hd : ∃ ar : Arg, (pa.posonlyargs ++ pa.args).head? = some ar ∧ ps[0]? = some ar.arg
theorem inv_sup {P : Program} {w : World} {K : PySem.W.Frag} {mg : Str → Option Value} {base : Heap} {N ps : List Str} {qual : Str} {pa : Arguments} {bo : List Stmt} {sc : Scope} {f cc cda D : Addr} {A : Around} {outer : List Env} {s : Shared} {H : Hp} {us : List Value} {vs : List V} {h1 : Heap} {tk : Nat}
    (S : SupFn K P N ps qual pa bo sc f cc cda D) (hd : A.handled = none) (e0 : Env0 P w K mg base A outer s H) (hl : vs.length = ps.length) (rv : Vals vs us) (hns : h1.Ns s.heap.objs.size (fun x => (ps.zip us).reverse.lookup x)) (hk : ∀ b o, s.heap.get? b = some o → h1.get? b = some o) :
    Inv (cxS P w K mg base N qual sc f (.ref cda) cc A outer s H) [] (start N vs) H { s with heap := h1, toks := tk } := by
  obtain ⟨cl, cld, csl, lc⟩ := S.cell
  have hpl : ps.length ≤ N.length := by have := congrArg List.length S.pre; rw [List.length_take] at this; omega
  have KB : base.get? cc = some ⟨cl, cld, .cell (some (.ref D)), csl⟩ := e0.mod.kin _ _ lc
  have ksz : s.heap.get? cc = some ⟨cl, cld, .cell (some (.ref D)), csl⟩ := (e0.bs _ _ KB).1
  have one : ∀ y c, (PySem.W.ksEnv qual sc s.heap.objs.size f (.ref cda) cc).cells.lookup y = some c → y = "__class__" ∧ c = cc := fun y c z => by
    have z2 : (match y == ("__class__" : Str) with | true => some cc | false => none) = some c := z
    cases q : (y == ("__class__" : Str)) with
    | true => rw [q] at z2; exact ⟨beq_iff_eq.mp q, (Option.some.inj z2).symm⟩
    | false => rw [q] at z2; cases z2
  have noA : ∀ b : Addr, b ∉ (cxS P w K mg base N qual sc f (.ref cda) cc A outer s H).ex := fun b z => absurd (show b ∈ ([] : List Addr) from z) (by simp)
  refine ⟨⟨e0.mod, S.kind, rfl, rfl, Nat.le_refl _, fun y z c q1 q2 => (one y c q1).1.trans (one z c q2).1.symm, fun y hy => ?_, fun y c q _ => (nomatch q), fun _ => hd, Around.frames_deeper e0.frames, .inr ⟨rfl, rfl⟩, fun b z => absurd z (noA b), e0.bs, e0.bsz, fun b _ _ => noA b, fun b z => absurd z (noA b), e0.funs, e0.frf⟩,
    rfl, e0.bare, Un.kept hk, ⟨_, hns, fun i y v q1 q2 q3 => ?_⟩, fun y c q => ?_, e0.hok.fresh (Nat.le_refl _), fun y c q => ?_, fun p hp => absurd (show p ∈ ([] : List (Addr × Obj)) from hp) (by simp), e0.hok.kept hk, ?_⟩
  · have hy : sc.names.lookup y = some .cell ∨ sc.names.lookup y = some .free := hy
    rcases hy with hy | hy
    · exact absurd rfl (S.nocell _ (PySem.mem_of_lookup hy))
    · exact ⟨cc, by rw [S.nofree y hy]; rfl⟩
  · have hi : i < vs.length := by
      unfold L2.start at q2
      by_cases hi : i < vs.length
      · exact hi
      · rw [List.getElem?_append_right (by simpa using hi), List.getElem?_replicate] at q2
        split at q2 <;> cases q2
    have ha : vs[i]? = some v := by
      unfold L2.start at q2
      rw [List.getElem?_append_left (by simpa using hi), List.getElem?_map] at q2
      cases z : vs[i]? with
      | none => rw [z] at q2; cases q2
      | some a => rw [z] at q2; cases q2; rfl
    obtain ⟨u, hu, rr⟩ := rv.get ha
    have hp : ps[i]? = some y := by rw [← S.pre, List.getElem?_take_of_lt (by omega)]; exact q1
    have ndP : ps.Nodup := by rw [← S.pre]; exact S.nd.sublist (List.take_sublist _ _)
    refine ⟨u, rr, .inl ⟨S.par y (List.mem_of_getElem? hp), ?_⟩⟩
    have hz : (y, u) ∈ (ps.zip us).reverse := List.mem_reverse.mpr (List.mem_of_getElem? (i := i) (by rw [List.getElem?_zip_eq_some]; exact ⟨hp, hu⟩))
    have ndz : ((ps.zip us).reverse.map (·.1)).Nodup := by
      rw [List.map_reverse, List.nodup_iff_pairwise_ne, List.pairwise_reverse, List.map_fst_zip (by rw [← rv.length, hl]; exact Nat.le_refl _)]
      exact ndP.imp fun z => Ne.symm z
    exact lookup_nodup ndz hz
  · obtain ⟨_, rfl⟩ := one y c q
    exact ⟨_, _, hk _ _ ksz, rfl⟩
  · obtain ⟨_, rfl⟩ := one y c q
    exact (e0.bs _ _ KB).2
  · unfold L2.start
    rw [List.length_append, List.length_map, List.length_replicate]
    show vs.length + (N.length - vs.length) = N.length
    omega

/-- how super().__init__(..) is read -/
abbrev supEv (p0 p1 p2 p4 : Pos) (es : List Expr) (env : Env) (pl : Sem Bool) : Sem Value := do
  let w0 ← attributeBase (.Call (.Name "super" p0) [] [] p1) "__init__" env (eval (.Call (.Name "super" p0) [] [] p1) env)
  standAt p2.atName
  let (g0, a0) ← holding [w0] (getMethod w0 "__init__" pl); callWith p4 g0 a0 (backTo p4 (starEach es env)) []
/-- such a def keeps its promise: super().__init__(..) ahead, then the rest by the layer's rules -/
theorem fk_sup {P : Program} {w : World} {K : PySem.W.Frag} {mg : Str → Option Value} {base : Heap} {N ps : List Str} {qual : Str} {pa : Arguments} {bo rest : List Stmt} {sc : Scope} {f cc cda C : Addr} {B newId initId : String} {bmB : List Value} {k : Nat} {sp : Sp} {p0 p1 p2 p4 p5 : Pos} {e : Expr} {es : List Expr} {ta : TA} {tr : TS} {pl : Env → Sem Bool}
    (S : SupFn K P N ps qual pa bo sc f cc cda C) (T : ExB B newId initId bmB) (G : ExG K C newId bmB) (hbo : bo = .Expr (.Call (.Attribute (.Call (.Name "super" p0) [] [] p1) "__init__" p2) (e :: es) [] p4) p5 :: rest)
    (hm : PySem.W.ks_superIn K C C "__init__" = some (some (.builtin initId))) (hB : PySem.W.subIn K (.ref C) (.type B) = some true) (hst : PySem.W.nsIn K cStatics "thirdparty.any" = some none) (hsub : PySem.W.mroIn K C (.ref C) = some true) (hsu : mg "super" = none)
    (len : ∀ vs H Q E, sp vs H Q E → vs.length = ps.length)
    (ha : ∀ (A : Around) (outer : List Env) (s : Shared) (H : Hp), PA (cxS P w K mg base N qual sc f (.ref cda) cc A outer s H) (e :: es) ta) (hr : ∀ (A : Around) (outer : List Env) (s : Shared) (H : Hp), PSs (cxS P w K mg base N qual sc f (.ref cda) cc A outer s H) rest tr)
    (hsp : ∀ vs H Q E, sp vs H Q E → ∃ a, vs[0]? = some (.ref a) ∧ H a = some (exo a C none) ∧ ta (start N vs) H (fun ws H1 => ws.length ≤ 1000 ∧ H1 = H ∧ tr { nx := fun _ H2 => Q .non H2, rt := Q } (start N vs) H))
    (hev : ∀ env : Env, eval (.Call (.Attribute (.Call (.Name "super" p0) [] [] p1) "__init__" p2) (e :: es) [] p4) env = supEv p0 p1 p2 p4 (e :: es) env (pl env) := by intro _; rfl)
    (hst1 : ∀ A outer s H, starEach (e :: es) (cxS P w K mg base N qual sc f (.ref cda) cc A outer s H).env = (false, eval e (cxS P w K mg base N qual sc f (.ref cda) cc A outer s H).env) :: starEach es (cxS P w K mg base N qual sc f (.ref cda) cc A outer s H).env := by intros; rfl)
    (hst2 : ∀ A outer s H, (backTo p4 (starEach es (cxS P w K mg base N qual sc f (.ref cda) cc A outer s H).env)).any (·.1) = false := by intros; rfl)
    (hsw : ∀ A outer s H, swapsWith (.Call (.Attribute (.Call (.Name "super" p0) [] [] p1) "__init__" p2) (e :: es) [] p4) none p5.line (cxS P w K mg base N qual sc f (.ref cda) cc A outer s H).env = pure false := by intros; rfl) :
    ∃ fd : FuncData, (∃ (kV doc pm : Value) (an : Option Addr) (ct : Value), fd = PySem.W.ksFn "__init__" qual pa bo sc .none kV doc pm an (.ref cda) ct cc) ∧ Fk P w K mg base (k + 1) f fd ps sp := by
  obtain ⟨oc, od, kV, doc, pm, an, ct, osl, lk⟩ := S.ex
  obtain ⟨ccl, cdd, fvs, ccs, fi, tf, lcd, hvs, hfi⟩ := S.file
  obtain ⟨cl, cld, csl, lc⟩ := S.cell
  obtain ⟨ar, har, hp0⟩ := S.hd
  refine ⟨_, ⟨kV, doc, pm, an, ct, rfl⟩, len, fun A outer s H args us vs Q E rm e0 hb rv hsp0 => ?_⟩
  have hl := len _ _ _ _ hsp0
  have KX : K.In s.heap := e0.mod.kin.keeps fun b o z => (e0.bs b o z).1
  have lim : s.heap.NoLimit := e0.mod.nolimit.keeps fun b o z => (e0.bs b o z).1
  have arl : sc.names.lookup ar.arg = some .local := S.par _ (List.mem_of_getElem? hp0)
  refine PySem.ks_codeAny_call_defAt (fd := PySem.W.ksFn "__init__" qual pa bo sc .none kV doc pm an (.ref cda) ct cc) (body := bo) (binds := ps.zip us) rm.r.depth (KX _ _ lk) rfl lim (PySem.W.codeRec_of KX S.cd) rfl hb S.nocell (fun y hy => S.par _ (List.of_mem_zip hy).1) (fun h1 hns hk1 => ?_) S.co S.gen S.kind
  have I : Inv (cxS P w K mg base N qual sc f (.ref cda) cc A outer s H) [] (start N vs) H { s with heap := h1, toks := s.toks + (ps.zip us).length } := inv_sup S rm.r.hd e0 hl rv hns hk1
  obtain ⟨a, ea, eH, hta⟩ := hsp vs H Q E hsp0
  subst hbo
  have fin : ∀ {σ2 : L2.St} {H2 : Hp} {v : V} {u : Value} {s2 : Shared}, Inv (cxS P w K mg base N qual sc f (.ref cda) cc A outer s H) [] σ2 H2 s2 → RelV v u → Q v H2 → CR (L2.CX P w) outer P w H s Q E (.ok (.ret u)) s2 := fun {σ2 H2 v u s2} J r q => ⟨v, H2, J.os, J.bare, J.base, J.hok, r, q⟩
  obtain ⟨t1, hx⟩ := exo_at I.hok eH
  obtain ⟨mb, hb1, hb2⟩ := I.mod.blt
  have hvx : (ps.zip us).reverse.lookup ar.arg = some (.ref a) := by
    obtain ⟨u, hu, ru⟩ := rv.get ea
    obtain rfl : u = Value.ref a := ru
    have ndP : ps.Nodup := by rw [← S.pre]; exact S.nd.sublist (List.take_sublist _ _)
    refine lookup_nodup ?_ (List.mem_reverse.mpr (List.mem_of_getElem? (i := 0) (by rw [List.getElem?_zip_eq_some]; exact ⟨hp0, hu⟩)))
    rw [List.map_reverse, List.nodup_iff_pairwise_ne, List.pairwise_reverse, List.map_fst_zip (by rw [← rv.length, hl]; exact Nat.le_refl _)]
    exact ndP.imp fun z => Ne.symm z
  obtain ⟨cdC, hcC, _⟩ := PySem.W.any_some G.hd
  have KX1 : K.In h1 := KX.keeps hk1
  obtain ⟨oD, hD1, hD2⟩ : ∃ oD, h1.get? C = some oD ∧ oD.data = .cls cdC := by
    unfold PySem.W.clsIn at hcC
    split at hcC
    · rename_i c d cd2 sl ho
      cases hcC
      exact ⟨_, KX1 _ _ ho, rfl⟩
    · cases hcC
  refine PySem.ks_wpAt_execs_cons (PySem.ks_wpAt_Expr_any (PySem.ks_wpAt_MethodCall (PySem.ks_wpAt_super_base (ar := ar) S.sup S.cls (by decide) rfl (hk1 _ _ (KX _ _ lk)) rfl har rfl (hk1 _ _ (KX _ _ lcd)) rfl hvs hfi S.top ?_) (hev _)) I.quiet (hsw A outer s H))
  refine PySem.W.ks_loadName_global S.kind S.sup (PySem.Calls.loadGlobal_builtin (env := PySem.W.ksEnv qual sc s.heap.objs.size f (.ref cda) cc) (I.mod.glob.keeps I.bk) hsu (hb1.keeps I.bk) ((hb2 _ (by decide +kernel)).trans (by decide +kernel)) ⟨rfl, ?_⟩)
  refine wpAny_loadName_free S.kind S.cls rfl ⟨_, KX1 _ _ lc, rfl⟩ ?_
  refine wpAny_loadName_local S.kind arl hns hvx ?_
  refine PySem.ks_wpAny_isType_cls hD1 hD2 ⟨rfl, ?_⟩
  refine PySem.ks_wpAny_call_super hD1 hD2 hx rfl (fun c z => nomatch z) (PySem.W.looks_mroIn KX1 hsub) (fun h2 hso k2 => ?_)
  have J2 := I.kept (h' := h2) (t' := s.toks + (ps.zip us).length) k2
  have IA : PySem.W.InstAt h2 a { cls := .ref C, dict := none, data := .fields #[.ref t1, .none, .none, .none, .bool false, .none] } C none := ⟨k2 _ _ hx, rfl, rfl, trivial⟩
  have KX2 : K.In h2 := KX1.keeps k2
  have hm2 := hm
  unfold PySem.W.ks_superIn at hm2
  rw [hcC] at hm2
  refine PySem.W.kxs_getMethod T.kf hso (PySem.W.looks_opaque KX2 hst) (l₀ := cdC.mro) (fun A Q E s k q => wpAny_bind ((PySem.W.looks_clsIn KX2 hcC) A _ E s k (wpAny_pure q))) rfl KX2 hm2 (IA.type.andThen (PySem.W.looks_subIn KX2 hB)) (PySem.W.ks_ne KX2 IA hcC) (by decide) ?_
  have fr2 : H h2.objs.size = none := J2.hok.fresh (Nat.le_refl _)
  have k3 : ∀ b o, h2.get? b = some o → (h2.push (PySem.W.kxs_mw initId a)).get? b = some o := fun b o z => Heap.get?_push_of_some _ z
  have J3 := J2.kept (h' := h2.push (PySem.W.kxs_mw initId a)) (t' := s.toks + (ps.zip us).length + 1) k3
  have J4 := J3.pins_of (pins' := [(h2.objs.size, PySem.W.kxs_mw initId a)]) fun p hp => by
    obtain rfl : p = (h2.objs.size, PySem.W.kxs_mw initId a) := by simpa using hp
    exact ⟨Heap.get?_push_at rfl rfl, fr2, Ne.symm (Nat.ne_of_lt J2.lt), J2.nofs (Nat.le_refl _), fun v z => nomatch z⟩
  show wpAny _ _ (callWith p4 (.ref h2.objs.size) [] (backTo p4 (starEach (e :: es) (cxS P w K mg base N qual sc f (.ref cda) cc A outer s H).env)) []) _ _ _
  rw [hst1 A outer s H]
  refine PySem.W.kxs_callWith (i := initId) (x := a) (by show (false || (backTo p4 (starEach es (cxS P w K mg base N qual sc f (.ref cda) cc A outer s H).env)).any (·.1)) = false; rw [hst2 A outer s H]; rfl) ?_
  refine PySem.Calls.evalArgs_plain ?_
  have run := (ha A outer s H).run p4 _ _ _ H _ J4 hta
  rw [hst1 A outer s H] at run
  refine wpAny_mono run (fun ws s4 hw => ?_) fun _ _ z => (z : False).elim
  obtain ⟨zs, H4, J5, r5, hz, eH4, htr⟩ := hw
  subst eH4
  have hu5 := (J5.pin (h2.objs.size, PySem.W.kxs_mw initId a) (by simp)).1
  refine ⟨hu5, ?_⟩
  obtain ⟨t5, hx5⟩ := exo_at J5.hok eH
  obtain ⟨h5, g5, d5, tk5, os5⟩ := s4
  refine sup_call T G J5.kIn hu5 hx5 (by show ws.length ≤ sizeLine; rw [← Paired.length r5, sizeLine_eq]; omega) fun h6 t6 k6 hx6 => ?_
  have J6 := (J5.write (h' := h6) (t' := tk5) (x := a) (e := a) (o := exo a C none) (by rw [eH]; exact True.intro) (.inl rfl) k6 ⟨_, hx6⟩ (exo_ok hx6)).pins_of (pins' := []) fun p hp => absurd hp (by simp)
  have eu : upd H4 a (exo a C none) = H4 := by
    funext b
    by_cases hb : b = a
    · rw [hb, upd_same, eH]
    · rw [upd_ne hb]
  rw [eu] at J6
  refine wpAt_of_wpAny (wpAny_mono ((hr A outer s _).run [] _ _ _ _ J6 htr) (fun fl s7 h7 => ?_) fun _ _ z => (z : False).elim)
  cases fl with
  | ret u => obtain ⟨v, σ7, H7, J7, r7, q7⟩ := h7; exact fin J7 r7 q7
  | next => obtain ⟨σ7, H7, J7, q7⟩ := h7; exact fin (v := .non) (u := .none) J7 rfl q7
  | brk => obtain ⟨_, _, _, q⟩ := h7; exact q.elim
  | cont => obtain ⟨_, _, _, q⟩ := h7; exact q.elim

/-! ### X(e, ..) raised -/
/-- the promise of such an __init__: the fields' names in order -/
def spX (C : Addr) (fs : List Str) : Sp := fun vs H Q _ => ∃ (a : Addr) (ws : List V), vs = .ref a :: ws ∧ ws.length = fs.length ∧ H a = some (exo a C none) ∧
  ∀ (d : Addr) (H2 : Hp), H d = none → d ≠ a → H2 a = some (exo a C (some d)) → H2 d = some (exd d (fs.zip ws).reverse) → (∀ b, b ≠ a → b ≠ d → H2 b = H b) → Q .non H2
/-- an exception is made: its dict is new -/
def tX (C : Addr) (fs : List Str) (ta : TA) : L2.St → Hp → XK → Prop := fun σ H Q => ta σ H fun vs H1 => vs.length = fs.length ∧ ∀ d, H1 d = none → Q (.ref C) (some d) (upd H1 d (.xd (fs.zip vs).reverse))
section
variable {X : Cx} {e : Expr} {es : List Expr} {ta : TA} {p pos : Pos} {x : Str} {C fI : Addr} {k : Nat} {fd : FuncData} {ps fs : List Str} {B newId initId : String} {bmB : List Value}
theorem pmk_x (T : ExB B newId initId bmB) (G : ExG X.K C newId bmB) (iC : PySem.W.findIn X.K (.ref C) "__init__" = some (some (.ref fI))) (tI : PySem.W.typeIn X.K (.ref fI) = some (.type "function"))
    (F1 : Fk X.prog X.w X.K X.mg X.base k fI fd ps (spX C fs)) (hr : Rm (k + 1) X.A) (hb : Binds X.K fd ps []) (hfs : fs.length ≤ 100) (hg : Gl X x) (hm : X.mg x = some (.ref C)) (ha : PA X (e :: es) ta)
    (hdb : (x == ("__debug__" : Str)) = false := by decide) (he : starEach (e :: es) X.env = (false, eval e X.env) :: starEach es X.env := by rfl) (hpl : (backTo pos (starEach es X.env)).any (·.1) = false := by rfl) :
    PMk X (.Call (.Name x p) (e :: es) [] pos) (tX C fs ta) := by
  intro pins s σ H Q I h
  refine wpAny_Call_Name_kw (ld_glob I hg hm ?_ hdb)
  refine PySem.W.callWith_K (h₀ := X.base) I.ok.mod.kin G.kC (thn (ha.run pos pins s σ H _ I h) fun us s1 ⟨vs, H1, I1, r1, hz, q1⟩ => ⟨I1.kIn, ?_⟩) he hpl
  show wpAny _ _ (call (.ref C) us) _ _ _
  obtain ⟨n1, n2, n3, n4, n5, n6, n7, n8, n9, n10, n11, k0, k1, k2, k3, k5, hC, hT⟩ := PySem.W.excInit_of I1.kIn G.q
  obtain ⟨hp, g, dr, tk, os⟩ := s1
  have hn : H1 (hp.objs.size + 1) = none := I1.hok.fresh (Nat.le_succ _)
  have kk : ∀ b o, hp.get? b = some o → ((hp.push (PySem.W.kdv_tup us)).push (PySem.HandSPX.excO C hp.objs.size)).get? b = some o := fun b o z => Heap.get?_push_of_some _ (Heap.get?_push_of_some _ z)
  have hget : ((hp.push (PySem.W.kdv_tup us)).push (PySem.HandSPX.excO C hp.objs.size)).get? (hp.objs.size + 1) = some (PySem.HandSPX.excO C hp.objs.size) := by heap_get
  have I2 := I1.laid (t' := tk) (a := hp.objs.size + 1) (o := exo (hp.objs.size + 1) C none) kk (Nat.le_succ _) (exo_ok hget)
  have r2 : Vals (V.ref (hp.objs.size + 1) :: vs) (Value.ref (hp.objs.size + 1) :: us) := .cons rfl r1
  have hsp : spX C fs (V.ref (hp.objs.size + 1) :: vs) (upd H1 (hp.objs.size + 1) (exo (hp.objs.size + 1) C none)) (fun v H2 => v = .non ∧ ∃ d, H2 (hp.objs.size + 1) = some (exo (hp.objs.size + 1) C (some d)) ∧ H2 d = some (exd d (fs.zip vs).reverse) ∧ H1 d = none ∧ Q (.ref C) (some d) (upd (del H2 (hp.objs.size + 1)) d (.xd (fs.zip vs).reverse))) (fun _ _ _ => False) := by
    refine ⟨_, vs, rfl, hz, upd_same, fun d H2 nd ne e1 e2 e3 => ⟨rfl, d, e1, e2, ?_, ?_⟩⟩
    · rw [upd_ne ne] at nd; exact nd
    · rw [upd_ne ne] at nd
      have eq : upd (del H2 (hp.objs.size + 1)) d (.xd (fs.zip vs).reverse) = upd H1 d (.xd (fs.zip vs).reverse) := by
        funext b
        by_cases hd : b = d
        · rw [hd, upd_same, upd_same]
        · rw [upd_ne hd, upd_ne hd]
          by_cases ha : b = hp.objs.size + 1
          · rw [ha, del_same, hn]
          · rw [del_ne ha, e3 b ha hd, upd_ne ha]
      rw [eq]
      exact q1 d nd
  have hl : (Value.ref (hp.objs.size + 1) :: us).length = ps.length := by
    have z := r2.length
    rw [F1.len _ _ _ _ hsp] at z
    exact z.symm
  have bb := hb ⟨(hp.push (PySem.W.kdv_tup us)).push (PySem.HandSPX.excO C hp.objs.size), g, dr, tk, os⟩ (Value.ref (hp.objs.size + 1) :: us) I2.kIn (by rw [List.append_nil]; exact hl)
  rw [List.append_nil] at bb
  refine wpAny_call (PySem.HandSPX.call_own T.fb hT hC (PySem.W.looks_findIn I1.kIn iC) (fun self => PySem.W.bind_fn I1.kIn self tI) (by rw [← Paired.length r1, hz, sizeLine_eq]; omega)
    (codeAny_mono (F1.run _ X.stack _ _ ⟨Value.ref (hp.objs.size + 1) :: us, []⟩ _ _ _ _ (hr.make C us []) (I2.env0.make C us []) bb r2 hsp) fun rr s2 hq => ?_))
  cases rr with
  | error er => obtain ⟨_, _, _, _, _, _, _, _, _, _, _, _, z⟩ := hq; exact z.elim
  | ok fl =>
    cases fl with
    | ret u =>
      obtain ⟨v, H2, os2, bare2, un2, hok2, r3, ev, d, ea, ed, hd1, q2⟩ := hq
      subst ev
      obtain ⟨h2, g2, d2, t2, os3⟩ := s2
      exact ⟨r3, mk_end (raises_own G.exC G.tyC) I1 (Nat.le_succ _) kk un2 hok2 os2 bare2 ea ed hd1 q2⟩
    | next => exact hq.elim
    | brk => exact hq.elim
    | cont => exact hq.elim
/-- self.f = e in such an __init__ -/
def tSt (K : PySem.W.Frag) (newId : String) (bmB : List Value) (f : Str) (to te : TE) : TS := fun D σ H => te σ H fun y H1 => to σ H1 fun z H2 => ∃ a C : Addr, z = .ref a ∧ ExG K C newId bmB ∧ PySem.W.findIn K (.ref C) f = some none ∧
  ((H2 a = some (exo a C none) ∧ ∀ dx, H2 dx = none → dx ≠ a → D.nx σ (upd (upd H2 dx (exd dx [(f, y)])) a (exo a C (some dx)))) ∨
    ∃ (dx : Addr) (fs : List (Str × V)), H2 a = some (exo a C (some dx)) ∧ H2 dx = some (exd dx fs) ∧ fs.length ≤ 900 ∧ D.nx σ (upd H2 dx (exd dx ((f, y) :: fs))))
theorem ps_xst {o : Expr} {to te : TE} {f : Str} {q : Pos} (SF : StoreFacts B bmB "object.__setattr__" "object") (ho : PE X o to) (he : PE X e te) (hs : swapsWith e (some (.Attribute o f q)) pos.line X.env = pure false := by rfl) : PS X (.Assign [.Attribute o f q] e pos) (tSt X.K newId bmB f to te) := by
  refine ⟨fun pins s σ H D I h => plainObj_wpAny_Assign_Attribute (thn (he.run pins s σ H _ I h) fun v s1 ⟨y, H1, I1, r1, q1⟩ => thn (ho.run pins s1 σ H1 _ I1 q1) fun u s2 ⟨z, H2, I2, r2, a, C, ex, T, hno, qq⟩ => ?_) hs⟩
  subst ex
  obtain rfl : u = Value.ref a := r2
  rcases qq with ⟨ea, qq⟩ | ⟨dx, fs, ea, ed, hl, qq⟩
  · exact st_first SF T I2 ea hno r1 fun dx s3 n ne J => ⟨σ, _, J, qq dx n ne⟩
  · exact st_more SF T I2 ea ed hl hno r1 fun s3 J => ⟨σ, _, J, qq⟩
end
end SJ

/-! SJH: what the top has left, read by one observation: tests over the written part, plain defs, __init__s that close over their class. -/
namespace SJ
open PySem PySem.Spec PyProof.Rows L2 He
/-- an __init__ with super(): its class's name, qualified name, parameters, body, scope -/
structure XD where
  cls : Str
  qual : Str
  params : Arguments
  body : List Stmt
  scope : Scope
abbrev FnX : Type := Option (Str × Str × Arguments × FuncBody × Scope × Addr × List Str × Addr)
def XD.ad (d : XD) (K : PySem.W.Frag) : Addr := ma K (ga K d.cls) "__init__"
def fnXA (K : PySem.W.Frag) (a : Addr) : FnX := match K.lookup a with
  | some ⟨_, _, .func fd, _⟩ => some (fd.name, fd.qualname, fd.params, fd.body, fd.scope, fd.globals, fd.closure.map (·.1), fd.builtins)
  | _ => none
def XD.val (d : XD) : FnX := some ("__init__", d.qual, d.params, .stmts d.body, d.scope, mainGlobals, ["__class__"], builtinsNs)
def isNoneV : Value → Bool
  | .none => true
  | _ => false
def ccA (K : PySem.W.Frag) (a : Addr) : Addr := match K.lookup a with
  | some ⟨_, _, .func fd, _⟩ => (match fd.closure with
    | [(_, c)] => c
    | _ => 0)
  | _ => 0
def cdaA (K : PySem.W.Frag) (a : Addr) : Addr := match K.lookup a with
  | some ⟨_, _, .func fd, _⟩ => (match fd.code with
    | .ref c => c
    | _ => 0)
  | _ => 0
def XD.ok (file : Str) (K : PySem.W.Frag) (d : XD) : Bool := match K.lookup (d.ad K) with
  | some ⟨_, _, .func fd, _⟩ => isNoneV fd.defaults && (decide (fd.code = .ref (cdaA K (d.ad K))) && (PySem.W.codeIn K fd.code d.qual && ((match K.lookup (cdaA K (d.ad K)) with
    | some ⟨_, _, .fields vs, _⟩ => (match (vs[2]? : Option Value) with
      | some (.str fi _) => file == fi
      | _ => false)
    | _ => false) && (match fd.closure with
      | [(_, c)] => (match K.lookup c with
        | some ⟨_, _, .cell (some (.ref D)), _⟩ => D == ga K d.cls
        | _ => false)
      | _ => false))))
  | _ => false
theorem XD.facts {K : PySem.W.Frag} {d : XD} {file : Str} (e : fnXA K (d.ad K) = d.val) (c : d.ok file K = true) :
    (∃ (oc : Value) (od : Option Addr) (kV doc pm : Value) (an : Option Addr) (ct : Value) (osl : Array (Option Value)), K.lookup (d.ad K) = some ⟨oc, od, .func (PySem.W.ksFn "__init__" d.qual d.params d.body d.scope .none kV doc pm an (.ref (cdaA K (d.ad K))) ct (ccA K (d.ad K))), osl⟩) ∧
    PySem.W.codeIn K (.ref (cdaA K (d.ad K))) d.qual = true ∧
    (∃ (ccl : Value) (cdd : Option Addr) (vs : Array Value) (ccs : Array (Option Value)) (fi : Str) (tf : Tok), K.lookup (cdaA K (d.ad K)) = some ⟨ccl, cdd, .fields vs, ccs⟩ ∧ vs[2]? = some (.str fi tf) ∧ (file == fi) = true) ∧
    ∃ (cl : Value) (cld : Option Addr) (csl : Array (Option Value)), K.lookup (ccA K (d.ad K)) = some ⟨cl, cld, .cell (some (.ref (ga K d.cls))), csl⟩ := by
  unfold fnXA at e
  unfold XD.ok at c
  have ecc : ccA K (d.ad K) = ccA K (d.ad K) := rfl
  cases q : K.lookup (d.ad K) with
  | none => rw [q] at c; cases c
  | some o =>
    obtain ⟨oc, od, dt, osl⟩ := o
    rw [q] at c e
    cases dt with
    | func fd =>
      obtain ⟨m1, m2, m3, m4, m5, m6, m7, m8, m9, m10, m11, m12, m13, m14, m15⟩ := fd
      have e2 : (some (m1, m2, m3, m4, m5, m6, m7.map (·.1), m15) : FnX) = d.val := e
      unfold XD.val at e2
      simp only [Option.some.injEq, Prod.mk.injEq] at e2
      obtain ⟨g1, g2, g3, g4, g5, g6, g7, g8⟩ := e2
      subst g1 g2 g3 g4 g5 g6 g8
      obtain ⟨c1, c⟩ := ba c
      obtain ⟨c2, c⟩ := ba c
      obtain ⟨c3, c⟩ := ba c
      obtain ⟨c4, c5⟩ := ba c
      have e13 : m13 = .ref (cdaA K (d.ad K)) := of_decide_eq_true c2
      have e8 : m8 = .none := by cases m8 <;> first | rfl | cases c1
      obtain ⟨q0, rfl⟩ : ∃ q0 : Addr, m7 = [(("__class__" : Str), q0)] := by
        cases m7 with
        | nil => cases g7
        | cons p r =>
          cases r with
          | nil => obtain ⟨a, b⟩ := p; exact ⟨b, by rw [show a = "__class__" from (List.cons.inj g7).1]⟩
          | cons p2 r2 => exact nomatch (List.cons.inj g7).2
      have ec : ccA K (d.ad K) = q0 := by unfold ccA; rw [q]
      refine ⟨⟨oc, od, m9, m10, m11, m12, m14, osl, ?_⟩, by rw [← e13]; exact c3, ?_, ?_⟩
      · rw [← e13, ec, e8]
      · cases q2 : K.lookup (cdaA K (d.ad K)) with
        | none => rw [q2] at c4; cases c4
        | some o2 =>
          obtain ⟨a1, a2, a3, a4⟩ := o2
          rw [q2] at c4
          cases a3 with
          | fields vs =>
            have c6 : (match (vs[2]? : Option Value) with | some (.str fi _) => file == fi | _ => false) = true := c4
            cases q3 : vs[2]? with
            | none => rw [q3] at c6; cases c6
            | some v =>
              rw [q3] at c6
              cases v with
              | str fi tf => exact ⟨a1, a2, vs, a4, fi, tf, rfl, q3, c6⟩
              | _ => cases c6
          | _ => cases c4
      · rw [ec]
        have c6 : (match K.lookup q0 with | some ⟨_, _, .cell (some (.ref D)), _⟩ => D == ga K d.cls | _ => false) = true := c5
        cases q2 : K.lookup q0 with
        | none => rw [q2] at c6; cases c6
        | some o2 =>
          obtain ⟨a1, a2, a3, a4⟩ := o2
          rw [q2] at c6
          cases a3 with
          | cell z =>
            cases z with
            | none => cases c6
            | some v =>
              cases v with
              | ref D => exact ⟨a1, a2, a4, by rw [show D = ga K d.cls from beq_iff_eq.mp c6]⟩
              | _ => cases c6
          | _ => cases c6
    | _ => cases c
/-! ### the observation -/
def asS (g : Addr → Option Obj) : Nat → List Addr
  | 0 => [mainGlobals, cStatics]
  | n + 1 => growD g (asS g n)
abbrev AlZ : Type := Bool × List FnW × List FnX
def obsZ (file : Str) (fa : List Tst) (fn : List DD) (fx : List XD) (K : PySem.W.Frag) : AlZ := ((fa.all fun f => f K) && ((fn.all fun d => d.ok K) && fx.all fun d => d.ok file K), fn.map (fun d => fnA K (d.ad K)), fx.map fun d => fnXA K (d.ad K))
def valZ (fn : List DD) (fx : List XD) : AlZ := (true, fn.map DD.val, fx.map XD.val)
def SaysZ (file : Str) (fa : List Tst) (fn : List DD) (fx : List XD) (K : PySem.W.Frag) : Prop := obsZ file fa fn fx K = valZ fn fx
def obsZG (n : Nat) (file : Str) (fa : List Tst) (fn : List DD) (fx : List XD) (g : Addr → Option Obj) : AlZ := obsZ file fa fn fx (frG g (sysModules :: asS g n))
def hookZ (n : Nat) (file : Str) (fa : List Tst) (fn : List DD) (fx : List XD) : PySem.W.Hook where
  α := AlZ
  obs := fun s => obsZG n file fa fn fx s.heap.get?
  val := fun _ => valZ fn fx
  says := fun _ h => ∃ K : PySem.W.Frag, K.In h ∧ SaysZ file fa fn fx K
  of := fun _ _ e => ⟨_, frG_in, e⟩
  keeps := fun _ _ _ ⟨K, hK, c⟩ k => ⟨K, PySem.W.Frag.In.keeps hK k, c⟩
theorem obsZG_eq {n : Nat} {file : Str} {fa : List Tst} {fn : List DD} {fx : List XD} {g : Addr → Option Obj} {s : Shared} (h : ∀ a, g a = s.heap.get? a) : obsZG n file fa fn fx g = (hookZ n file fa fn fx).obs s := by
  have e : g = s.heap.get? := funext h
  rw [e] <;> rfl
section
variable {file : Str} {fa : List Tst} {fn : List DD} {fx : List XD} {K : PySem.W.Frag}
theorem SaysZ.b (c : SaysZ file fa fn fx K) : (fa.all fun f => f K) = true ∧ (fn.all fun d => d.ok K) = true ∧ (fx.all fun d => d.ok file K) = true := by
  obtain ⟨h1, h2⟩ := ba (show ((fa.all fun f => f K) && ((fn.all fun d => d.ok K) && fx.all fun d => d.ok file K)) = true from congrArg (fun z : AlZ => z.1) c)
  obtain ⟨h3, h4⟩ := ba h2
  exact ⟨h1, h3, h4⟩
theorem SaysZ.fact (c : SaysZ file fa fn fx K) (i : Nat) {f : Tst} (h : fa[i]? = some f := by rfl) : f K = true := List.all_eq_true.mp c.b.1 f (List.mem_of_getElem? h)
theorem SaysZ.def_ (c : SaysZ file fa fn fx K) (i : Nat) {d : DD} (h : fn[i]? = some d := by rfl) : ∃ fd, FunD K d.name d.qual d.params d.body d.scope (d.dvs K) [] (d.ad K) fd := by
  have e : fn.map (fun d => fnA K (d.ad K)) = fn.map DD.val := congrArg (fun z : AlZ => z.2.1) c
  have e2 : (fn.map fun d => fnA K (d.ad K))[i]? = (fn.map DD.val)[i]? := by rw [e]
  rw [List.getElem?_map, List.getElem?_map, h] at e2
  exact DD.funD (Option.some.inj e2) (List.all_eq_true.mp c.b.2.1 d (List.mem_of_getElem? h))
theorem SaysZ.exc (c : SaysZ file fa fn fx K) (i : Nat) {d : XD} (h : fx[i]? = some d := by rfl) : fnXA K (d.ad K) = d.val ∧ d.ok file K = true := by
  have e : fx.map (fun d => fnXA K (d.ad K)) = fx.map XD.val := congrArg (fun z : AlZ => z.2.2) c
  have e2 : (fx.map fun d => fnXA K (d.ad K))[i]? = (fx.map XD.val)[i]? := by rw [e]
  rw [List.getElem?_map, List.getElem?_map, h] at e2
  exact ⟨Option.some.inj e2, List.all_eq_true.mp c.b.2.2 d (List.mem_of_getElem? h)⟩
end
/-! ### tests of classes -/
/-- an own exception class over the built-in B -/
structure ExT (K : PySem.W.Frag) (x : Str) (B newId initId : String) (bmB : List Value) (fs : List Str) : Prop where
  g : ExG K (ga K x) newId bmB
  iC : PySem.W.findIn K (.ref (ga K x)) "__init__" = some (some (.ref (ma K (ga K x) "__init__")))
  tI : PySem.W.typeIn K (.ref (ma K (ga K x) "__init__")) = some (.type "function")
  sup : PySem.W.ks_superIn K (ga K x) (ga K x) "__init__" = some (some (.builtin initId))
  sB : PySem.W.subIn K (.ref (ga K x)) (.type B) = some true
  stat : PySem.W.nsIn K cStatics "thirdparty.any" = some none
  mro : PySem.W.mroIn K (ga K x) (.ref (ga K x)) = some true
  xf : XfC K (ga K x)
  nof : ∀ f ∈ fs, PySem.W.findIn K (.ref (ga K x)) f = some none
def exT (x : Str) (B newId initId : String) (bmB : List Value) (fs : List Str) : Tst := fun K => PySem.W.excInitIn K (ga K x) bmB newId && (PySem.W.hasDictIn K (ga K x) && (PySem.W.excOver K (ga K x) bmB && (eqO (PySem.W.findIn K (.ref (ga K x)) "__setattr__") (some (some (.builtin "object.__setattr__"))) &&
  (decide (PySem.W.subIn K (.ref (ga K x)) (.type "BaseException") = some true) && (decide (PySem.W.typeIn K (.ref (ga K x)) = some (.type "type")) && (PySem.W.keepIn K (.ref (ga K x)) &&
  (eqO (PySem.W.findIn K (.ref (ga K x)) "__init__") (some (some (.ref (ma K (ga K x) "__init__")))) && (decide (PySem.W.typeIn K (.ref (ma K (ga K x) "__init__")) = some (.type "function")) && (eqO (PySem.W.ks_superIn K (ga K x) (ga K x) "__init__") (some (some (.builtin initId))) &&
  (decide (PySem.W.subIn K (.ref (ga K x)) (.type B) = some true) && (eqO (PySem.W.nsIn K cStatics "thirdparty.any") (some none) && (decide (PySem.W.mroIn K (ga K x) (.ref (ga K x)) = some true) && (xfB K (ga K x) && fs.all fun f => eqO (PySem.W.findIn K (.ref (ga K x)) f) (some none))))))))))))))
theorem exT_ok {K : PySem.W.Frag} {x : Str} {B newId initId : String} {bmB : List Value} {fs : List Str} (c : exT x B newId initId bmB fs K = true) : ExT K x B newId initId bmB fs := by
  obtain ⟨c1, c⟩ := ba c
  obtain ⟨c2, c⟩ := ba c
  obtain ⟨c3, c⟩ := ba c
  obtain ⟨c4, c⟩ := ba c
  obtain ⟨c5, c⟩ := ba c
  obtain ⟨c6, c⟩ := ba c
  obtain ⟨c7, c⟩ := ba c
  obtain ⟨c8, c⟩ := ba c
  obtain ⟨c9, c⟩ := ba c
  obtain ⟨c10, c⟩ := ba c
  obtain ⟨c11, c⟩ := ba c
  obtain ⟨c12, c⟩ := ba c
  obtain ⟨c13, c⟩ := ba c
  obtain ⟨c14, c15⟩ := ba c
  exact ⟨⟨c1, c2, c3, eqO_ok c4, of_decide_eq_true c5, of_decide_eq_true c6, c7⟩, eqO_ok c8, of_decide_eq_true c9, eqO_ok c10, of_decide_eq_true c11, eqO_ok c12, of_decide_eq_true c13, xfB_ok c14, fun f hf => eqO_ok (List.all_eq_true.mp c15 f hf)⟩
/-- the class of an own instance for isinstance -/
structure InT (K : PySem.W.Frag) (C : Addr) : Prop where
  cl : Cls K C
  ha : PySem.W.findIn K (.ref C) "__class__" = some (some (.builtin "object.__class__"))
  hn : PySem.W.specialIn K (.builtin "object.__class__") "__get__" = some (some (.builtin "getset_descriptor.__get__"))
  htk : PySem.W.takesIn K (.builtin "object.__class__") = some true
  hm : PySem.W.mroIn K C (.type "object") = some true
  kp : PySem.W.keepIn K (.ref C) = true
def inT (x : Str) : Tst := fun K => (Fa.cls x).ok K && (eqO (PySem.W.findIn K (.ref (ga K x)) "__class__") (some (some (.builtin "object.__class__"))) && (eqO (PySem.W.specialIn K (.builtin "object.__class__") "__get__") (some (some (.builtin "getset_descriptor.__get__"))) &&
  (decide (PySem.W.takesIn K (.builtin "object.__class__") = some true) && (decide (PySem.W.mroIn K (ga K x) (.type "object") = some true) && PySem.W.keepIn K (.ref (ga K x))))))
theorem inT_ok {K : PySem.W.Frag} {x : Str} (c : inT x K = true) : InT K (ga K x) := by
  obtain ⟨c1, c⟩ := ba c
  obtain ⟨c2, c⟩ := ba c
  obtain ⟨c3, c⟩ := ba c
  obtain ⟨c4, c⟩ := ba c
  obtain ⟨c5, c6⟩ := ba c
  exact ⟨cls_ok c1, eqO_ok c2, eqO_ok c3, of_decide_eq_true c4, of_decide_eq_true c5, c6⟩
theorem InT.ty {K : PySem.W.Frag} {C : Addr} (T : InT K C) {H : Hp} {a dx : Addr} {fs : List (Str × V)} (e : H a = some (.ins C dx fs)) : TyX K H (.ref a) (.ref C) := .base (.ins e T.cl T.ha T.hn T.htk T.hm)
/-- a text constant of a class -/
def conT (x f z : Str) : Tst := fun K => (match PySem.W.findIn K (.ref (ga K x)) f with
  | some (some (.str y t)) => decide (y = z) && eqO (PySem.W.specialIn K (.str y t) "__get__") (some none)
  | _ => false) && !PySem.W.copiedNames.contains f
theorem conT_ok {K : PySem.W.Frag} {x f z : Str} (c : conT x f z K = true) : ∃ t, Con K (ga K x) f (.str z) (.str z t) := by
  obtain ⟨c1, c2⟩ := ba c
  cases q : PySem.W.findIn K (.ref (ga K x)) f with
  | none => rw [q] at c1; cases c1
  | some o =>
    rw [q] at c1
    cases o with
    | none => cases c1
    | some v =>
      cases v with
      | str y t =>
        obtain ⟨c3, c4⟩ := ba c1
        obtain rfl : y = z := of_decide_eq_true c3
        exact ⟨t, q, ⟨t, rfl⟩, eqO_ok c4, by simpa using c2⟩
      | _ => cases c1
/-- x's method m is the def at a -/
def methT (x m : Str) (a : PySem.W.Frag → Addr) : Tst := fun K => eqO (PySem.W.findIn K (.ref (ga K x)) m) (some (some (.ref (a K)))) && (PySem.W.isFn K (.ref (a K)) && PySem.W.keepIn K (.ref (a K)))
theorem methT_ok {K : PySem.W.Frag} {x m : Str} {a : PySem.W.Frag → Addr} (c : methT x m a K = true) : Meth K (ga K x) m (a K) := by
  obtain ⟨c1, c⟩ := ba c
  obtain ⟨c2, c3⟩ := ba c
  exact ⟨eqO_ok c1, c2, c3⟩
/-- C(..) by the __init__ at a -/
def mkT (x : Str) (a : PySem.W.Frag → Addr) : Tst := fun K => PySem.W.makesIn K (ga K x) && (eqO (PySem.W.findIn K (.ref (ga K x)) "__init__") (some (some (.ref (a K)))) && (PySem.W.isFn K (.ref (a K)) && PySem.W.keepIn K (.ref (ga K x))))
theorem mkT_ok {K : PySem.W.Frag} {x : Str} {a : PySem.W.Frag → Addr} (c : mkT x a K = true) : Mk K (ga K x) (a K) := by
  obtain ⟨c1, c⟩ := ba c
  obtain ⟨c2, c⟩ := ba c
  obtain ⟨c3, c4⟩ := ba c
  exact ⟨c1, eqO_ok c2, c3, c4⟩
/-- x's f is the property whose getter stands at a -/
def prT (x f : Str) (a : PySem.W.Frag → Addr) : Tst := fun K => propB x f K && decide (pgA x f K = a K)
theorem prT_ok {K : PySem.W.Frag} {x f : Str} {a : PySem.W.Frag → Addr} (c : prT x f a K = true) : PropOf K (ga K x) f (ma K (ga K x) f) (a K) := by
  obtain ⟨c1, c2⟩ := ba c
  have h := prop_ok c1
  rw [of_decide_eq_true c2] at h
  exact h
/-- an answer of isinstance, of a subclass, of an except clause -/
def kitT (t c : PySem.W.Frag → Value) (b : Bool) : Tst := fun K => decide (PySem.W.kitOne K (t K) (c K) = some b)
theorem kitT_ok {K : PySem.W.Frag} {t c : PySem.W.Frag → Value} {b : Bool} (h : kitT t c b K = true) : PySem.W.kitOne K (t K) (c K) = some b := of_decide_eq_true h
def subT (t c : PySem.W.Frag → Value) (b : Bool) : Tst := fun K => decide (PySem.W.subIn K (t K) (c K) = some b)
theorem subT_ok {K : PySem.W.Frag} {t c : PySem.W.Frag → Value} {b : Bool} (h : subT t c b K = true) : PySem.W.subIn K (t K) (c K) = some b := of_decide_eq_true h
def exmT (t c : PySem.W.Frag → Value) (b : Bool) : Tst := fun K => decide (PySem.W.exmOne K (t K) (c K) = some b)
theorem exmT_ok {K : PySem.W.Frag} {t c : PySem.W.Frag → Value} {b : Bool} (h : exmT t c b K = true) : PySem.W.exmOne K (t K) (c K) = some b := of_decide_eq_true h
def finT (x f : Str) (v : PySem.W.Frag → Option Value) : Tst := fun K => eqO (PySem.W.findIn K (.ref (ga K x)) f) (some (v K))
theorem finT_ok {K : PySem.W.Frag} {x f : Str} {v : PySem.W.Frag → Option Value} (h : finT x f v K = true) : PySem.W.findIn K (.ref (ga K x)) f = some (v K) := eqO_ok h
def neT (x y : Str) : Tst := fun K => decide (ga K x ≠ ga K y)
theorem neT_ok {K : PySem.W.Frag} {x y : Str} (h : neT x y K = true) : ga K x ≠ ga K y := of_decide_eq_true h
def nfT (x : Str) (t : PySem.W.Frag → Value) : Tst := fun K => PySem.W.notFirst K (ga K x) (t K)
/-! ### keywords at a def without defaults -/
theorem kw_of {K : PySem.W.Frag} {x qual : Str} {pa : Arguments} {bo : List Stmt} {sc : Scope} {f : Addr} {fd : FuncData} {ps ks : List Str} {n : Nat} {g : List Value → List Value → List Value} {gV : List V → List V → List V} (F : FunD K x qual pa bo sc [] [] f fd)
    (h : ∀ (kV doc pm : Value) (an : Option Addr) (cdv ct : Value) (us ws : List Value), us.length = n → ws.length = ks.length → bindArgs (PySem.W.fnOf x qual pa bo sc .none kV doc pm an cdv ct) ⟨us, ks.zip ws⟩ = pure (ps.zip (g us ws)))
    (rel : ∀ {vs : List V} {us : List Value} {zs : List V} {ws : List Value}, Vals vs us → Vals zs ws → Vals (gV vs zs) (g us ws)) : KBn K fd ps n ks g gV := by
  obtain ⟨oc, od, dV, kV, doc, pm, an, cdv, ct, osl, rfl, lk, hcd, hD, hK⟩ := F.ex
  rcases hD with ⟨_, rfl⟩ | ⟨e, _⟩
  · exact ⟨fun s us ws _ l1 l2 => .of_eq (h kV doc pm an cdv ct us ws l1 l2), rel⟩
  · exact absurd rfl e
end SJ

/-! SJK: readings of raise, try, f-strings, keywords; steps of them; loops. -/
namespace SJ
open PySem PySem.Spec PyProof.Rows L2 He
abbrev WO (E : XK) : WX := fun cls d _ H => E cls d H
def tRz (C : Addr) (fs : List Str) (W : WX) (ta : TA) : TS := fun _ σ H => tX C fs ta σ H fun cls d H2 => W cls d σ H2
def tTryAs (K : PySem.W.Frag) (c : Addr) (i : Nat) (tb : WX → TS) (ts : Addr → Value → Option Addr → TS) (Wout : WX) : TS := fun D σ H => tb (wAs K (.ref c) i ts Wout D) D σ H
def tTryOnly (K : PySem.W.Frag) (c : Addr) (tb : WX → TS) (ts : Addr → Value → Option Addr → TS) (Wout : WX) : TS := fun D σ H => tb (wOnly K (.ref c) ts Wout D) D σ H
section
variable {X : Cx} {x n : Str} {c : Addr} {i : Nat} {body suite : List Stmt} {b0 : Stmt} {np pos pos2 : Pos} {tb : WX → TS} {ts : Addr → Value → Option Addr → TS} {Wo : WX}
theorem ps_tryAs (hs : X.stack = X.env :: X.outer) (hf : X.env.frame = some X.env.locals) (hN : X.N.Nodup) (hi : X.N[i]? = some n) (hln : X.env.kindOf n = some .local) (hg : Gl X x) (hm : X.mg x = some (.ref c)) (tk : Takes X Wo)
    (hb : ∀ (W : WX) (pn : List (Addr × Obj)) (xe : Value → Shared → Prop), Takes (X.tr pn xe) W → PassesOwn (model X.prog X.w) X.A X.env xe → PSs (X.tr pn xe) body (tb W))
    (hsu : ∀ (a : Addr) (oe : Obj) (cls : Value) (d : Option Addr) (pn : List (Addr × Obj)), Zc cls d oe → (∃ vs, oe.data = .fields vs) → PSs (X.suite a ((a, oe) :: pn)) (b0 :: suite) (ts a cls d)) (hd : (x == ("__debug__" : Str)) = false := by decide) :
    PS X (.Try body [.ExceptHandler (some (.Name x np)) (some n) (b0 :: suite) pos2] [] [] pos) (tTryAs X.K c i tb ts Wo) := ps_try_as hs hf hN hi hln ⟨hg, hd, .inl hm⟩ tk hb hsu
theorem ps_tryOnly (hs : X.stack = X.env :: X.outer) (hf : X.env.frame = some X.env.locals) (hg : Gl X x) (hm : X.mg x = some (.ref c)) (tk : Takes X Wo)
    (hb : ∀ (W : WX) (pn : List (Addr × Obj)) (xe : Value → Shared → Prop), Takes (X.tr pn xe) W → PassesOwn (model X.prog X.w) X.A X.env xe → PSs (X.tr pn xe) body (tb W))
    (hsu : ∀ (a : Addr) (oe : Obj) (cls : Value) (d : Option Addr) (pn : List (Addr × Obj)), Zc cls d oe → (∃ vs, oe.data = .fields vs) → PSs (X.suite a ((a, oe) :: pn)) (b0 :: suite) (ts a cls d)) (hd : (x == ("__debug__" : Str)) = false := by decide) :
    PS X (.Try body [.ExceptHandler (some (.Name x np)) none (b0 :: suite) pos2] [] [] pos) (tTryOnly X.K c tb ts Wo) := ps_try_only hs hf ⟨hg, hd, .inl hm⟩ tk hb hsu
end
def tFS (ts : List TE) : TE := fun σ H Q => tJs ts Str.empty σ H fun out H1 => Q (.str out) H1
def rCap : V → List V → Hp → VK → Prop := fun x xs H Q => ∃ a, x = .str a ∧ xs = [] ∧ PySem.Builtin.Str.tooLong (Txt.capitalized a).length = false ∧ Q (.str (Txt.capitalize a)) H
theorem mt_cap {X : Cx} : MtR X "str.capitalize" rCap := mt0 (C := fun a => PySem.Builtin.Str.tooLong (Txt.capitalized a).length = false) (g := fun a => .str (Txt.capitalize a)) fun _ _ _ _ hc h => PySem.SC.capitalize hc fun t2 k => h _ k ⟨t2, rfl⟩
/-! ### keywords: the parameters' values by places -/
def kwV (ix : List Nat) : List V → List V → List V := fun vs zs => ix.map fun i => (vs ++ zs).getD i .non
def kwW (ix : List Nat) : List Value → List Value → List Value := fun us ws => ix.map fun i => (us ++ ws).getD i .none
theorem kw_rel {ix : List Nat} {vs : List V} {us : List Value} {zs : List V} {ws : List Value} (r1 : Vals vs us) (r2 : Vals zs ws) : Vals (kwV ix vs zs) (kwW ix us ws) := by
  have r := r1.append r2
  unfold kwV kwW
  induction ix with
  | nil => exact .nil
  | cons i ix ih =>
    refine .cons ?_ ih
    show RelV ((vs ++ zs).getD i .non) ((us ++ ws).getD i .none)
    rw [List.getD_eq_getElem?_getD, List.getD_eq_getElem?_getD]
    cases q : (vs ++ zs)[i]? with
    | none => rw [r.none_of q]; rfl
    | some v => obtain ⟨u, e, rv⟩ := r.get q; rw [e]; exact rv
/-! ### own exceptions' __init__ -/
theorem nofree_of {l : List (Str × NameKind)} {x : Str} (h : (l.all fun y => (y.2 != .free) || (y.1 == ("__class__" : Str))) = true) (e : l.lookup x = some .free) : x = "__class__" := by
  have z := List.all_eq_true.mp h _ (PySem.mem_of_lookup e)
  rcases Bool.or_eq_true_iff.mp z with z | z
  · exact nomatch (show (NameKind.free != NameKind.free) = true from z)
  · exact beq_iff_eq.mp z
theorem spX_len {C : Addr} {fs : List Str} {vs : List V} {H : Hp} {Q : VK} {E : XK} (h : spX C fs vs H Q E) : vs.length = fs.length + 1 := by
  obtain ⟨a, ws, rfl, hl, _⟩ := h
  rw [List.length_cons, hl]
theorem exd_ne {a C d : Addr} {o : Option Addr} {fs : List (Str × V)} : exo a C o ≠ exd d fs → True := fun _ => trivial
theorem spX_1 {K : PySem.W.Frag} {C : Addr} {f : Str} {newId : String} {bmB : List Value} {vs : List V} {H : Hp} {Q : VK} {E : XK} {n1 n2 : Str} (G : ExG K C newId bmB) (nf : PySem.W.findIn K (.ref C) f = some none) (h : spX C [f] vs H Q E) :
    ∃ a, vs[0]? = some (.ref a) ∧ H a = some (exo a C none) ∧ tCons (tVar 1) tNil (start [n1, n2] vs) H (fun ws H1 => ws.length ≤ 1000 ∧ H1 = H ∧ tSt K newId bmB f (tVar 0) (tVar 1) { nx := fun _ H2 => Q .non H2, rt := Q } (start [n1, n2] vs) H) := by
  obtain ⟨a, ws, rfl, hl, ha, k⟩ := h
  match ws, hl with
  | [v], _ =>
    refine ⟨a, rfl, ha, v, rfl, by show 1 ≤ 1000; decide, rfl, v, rfl, .ref a, rfl, a, C, rfl, G, nf, .inl ⟨ha, fun dx hd hne => ?_⟩⟩
    exact k dx _ hd hne upd_same (by rw [upd_ne hne, upd_same]; rfl) fun b b1 b2 => by rw [upd_ne b1, upd_ne b2]
theorem spX_2 {K : PySem.W.Frag} {C : Addr} {f g : Str} {newId : String} {bmB : List Value} {vs : List V} {H : Hp} {Q : VK} {E : XK} {n1 n2 n3 : Str} (G : ExG K C newId bmB) (nf : PySem.W.findIn K (.ref C) f = some none) (ng : PySem.W.findIn K (.ref C) g = some none) (h : spX C [f, g] vs H Q E) :
    ∃ a, vs[0]? = some (.ref a) ∧ H a = some (exo a C none) ∧ tCons (tVar 1) (tCons (tVar 2) tNil) (start [n1, n2, n3] vs) H (fun ws H1 => ws.length ≤ 1000 ∧ H1 = H ∧
      tSeq (tSt K newId bmB f (tVar 0) (tVar 1)) (tSt K newId bmB g (tVar 0) (tVar 2)) { nx := fun _ H2 => Q .non H2, rt := Q } (start [n1, n2, n3] vs) H) := by
  obtain ⟨a, ws, rfl, hl, ha, k⟩ := h
  match ws, hl with
  | [v, u], _ =>
    refine ⟨a, rfl, ha, v, rfl, u, rfl, by show 2 ≤ 1000; decide, rfl, v, rfl, .ref a, rfl, a, C, rfl, G, nf, .inl ⟨ha, fun dx hd hne => ?_⟩⟩
    refine ⟨u, rfl, .ref a, rfl, a, C, rfl, G, ng, .inr ⟨dx, _, upd_same, by rw [upd_ne hne, upd_same], by show 1 ≤ 900; decide, ?_⟩⟩
    exact k dx _ hd hne (by rw [upd_ne (Ne.symm hne), upd_same]) upd_same fun b b1 b2 => by rw [upd_ne b2, upd_ne b1, upd_ne b2]
/-! ### steps -/
section
variable {K : PySem.W.Frag} {σ : L2.St} {H : Hp} {Q : VK} {QT : Bool → Hp → Prop} {ta tk : TA} {te to : TE} {D : Ends} {ts tu : TS} {sp : Sp} {dv : List V} {W : WX} {v : V} {a C dx p g : Addr} {fs : List (Str × V)} {f m : Str} {n : Nat} {b : Bool}
theorem x_fn (k : ta σ H fun vs H1 => sp (vs ++ dv) H1 Q (WE W σ)) : tFn sp dv W ta σ H Q := k
theorem x_nw (k : ta σ H fun vs H1 => ∀ x dx, H1 x = none → H1 dx = none → dx ≠ x → sp (.ref x :: (vs ++ dv)) (upd (upd H1 dx (.own x)) x (.ins C dx [])) (fun v H2 => v = .non ∧ Q (.ref x) H2) (WE W σ)) : tNw C sp dv W ta σ H Q := k
theorem x_fld (h : H a = some (.ins C dx fs)) (cl : Cls K C) (na : NoAttr K C f) (l : fs.lookup f = some v) (k : Q v H) (e : te σ H = fun Q => Q (.ref a) H) : tFld K te f σ H Q := by
  show te σ H _
  rw [e]
  exact ⟨a, C, dx, fs, v, rfl, h, cl, na, l, k⟩
theorem x_rz {C : Addr} {fs : List Str} (k : ta σ H fun vs H1 => vs.length = fs.length ∧ ∀ d, H1 d = none → W (.ref C) (some d) σ (upd H1 d (.xd (fs.zip vs).reverse))) : tRz C fs W ta D σ H := k
theorem x_bm {T : String} {r : V → List V → Hp → VK → Prop} (k : to σ H fun x H1 => tyV K T x H1 ∧ ta σ H1 fun xs H2 => r x xs H2 Q) : tBM K T r to ta σ H Q := k
theorem x_par {i j : Nat} (k : ta σ H fun vs H1 => ∃ v w, vs = [v, w] ∧ D.nx ((σ.set i (some v)).set j (some w)) H1) : tPar i j ta D σ H := k
theorem x_par2 {i j : Nat} {v w : V} (k : D.nx ((σ.set i (some v)).set j (some w)) H) : ∃ v1 w1, [v, w] = [v1, w1] ∧ D.nx ((σ.set i (some v1)).set j (some w1)) H := ⟨v, w, rfl, k⟩
/-- for k in range(n) -/
theorem x_forR {j : Nat} {n : Int} {tb : TS} (h0 : 0 ≤ n ∧ n ≤ 1000000) (Pv : Nat → L2.St → Hp → Prop) (hi : Pv 0 σ H)
    (hs : ∀ (i : Nat) s2 H2, (i : Int) < n → Pv i s2 H2 → tb { D with nx := Pv (i + 1), ct := Pv (i + 1), bk := D.nx } (s2.set j (some (.int (i : Int)))) H2) (hd : ∀ s2 H2, Pv n.toNat s2 H2 → D.nx s2 H2) : tFor (iRng1 (tCons (tC (.int n)) tNil)) (gName j) tb D σ H :=
  ⟨n, rfl, by omega, by omega, for_range (lo := 0) (n := n.toNat) Pv hi (fun i s2 H2 hi2 p => by
    have e : (0 : Int) + (i : Int) = (i : Int) := Int.zero_add _
    show tb _ (s2.set j (some (.int ((0 : Int) + (i : Int))))) H2
    rw [e]
    exact hs i s2 H2 (by omega) p) hd⟩
theorem x_forL {xs : List V} {tl : TE} {tg : TG} {tb : TS} {a : Addr} (he : ∀ Q : VK, Q (.ref a) H → tl σ H Q) (hx : SqL K H a xs) (Pv : Nat → L2.St → Hp → Prop) (hi : Pv 0 σ H) (hl : ∀ i s2 H2, i ≤ xs.length → Pv i s2 H2 → SqL K H2 a xs)
    (hs : ∀ i x s2 H2, xs[i]? = some x → Pv i s2 H2 → tg x s2 H2 fun s3 H3 => tb { D with nx := Pv (i + 1), ct := Pv (i + 1), bk := D.nx } s3 H3) (hd : ∀ s2 H2, Pv xs.length s2 H2 → D.nx s2 H2) : tFor (iList K tl) tg tb D σ H := by
  show tl σ H _
  refine he _ ?_
  exact ⟨a, rfl, ⟨xs, hx⟩, for_list (K := K) (a := a) (xs := xs) Pv hi hl hs hd⟩
end

/-! ### C.NAME -/
def cvT (x f z : Str) : Tst := fun K => PySem.W.readsIn K (ga K x) (.type "type") && (eqO (PySem.W.specialIn K (.ref (ga K x)) "__getattribute__") (some (some (.builtin "type.__getattribute__"))) && (match PySem.W.findCls K (.ref (ga K x)) (.type "type") f with
  | some (.val (.str y _)) => decide (y = z)
  | _ => false))
theorem cvT_ok {K : PySem.W.Frag} {x f z : Str} (c : cvT x f z K = true) : ∃ mc v, ClX.CRead K (ga K x) mc ∧ ClX.CVal K (ga K x) mc f (.str z) v := by
  obtain ⟨c1, c⟩ := ba c
  obtain ⟨c2, c3⟩ := ba c
  refine ⟨.type "type", ?_⟩
  cases q : PySem.W.findCls K (.ref (ga K x)) (.type "type") f with
  | none => rw [q] at c3; cases c3
  | some o =>
    rw [q] at c3
    cases o with
    | val v =>
      cases v with
      | str y t => exact ⟨_, ⟨c1, eqO_ok c2⟩, q, t, by rw [show y = z from of_decide_eq_true c3]⟩
      | _ => cases c3
    | _ => cases c3
end SJ

/-! SJS: further steps of readings. -/
namespace SJ
open PySem PySem.Spec PyProof.Rows L2 He
def gFld (K : PySem.W.Frag) (f : Str) (x : V) (H : Hp) (Q : VK) : Prop := ∃ a C dx fs v, x = .ref a ∧ H a = some (.ins C dx fs) ∧ Cls K C ∧ NoAttr K C f ∧ fs.lookup f = some v ∧ Q v H
def gCon (K : PySem.W.Frag) (f : Str) (x : V) (H : Hp) (Q : VK) : Prop := ∃ a C dx fs v u, x = .ref a ∧ H a = some (.ins C dx fs) ∧ Cls K C ∧ Con K C f v u ∧ fs.lookup f = none ∧ Q v H
def gPr (K : PySem.W.Frag) (f : Str) (g : Addr) (sp : Sp) (x : V) (H : Hp) (Q : VK) : Prop := ∃ a C dx fs pp, x = .ref a ∧ H a = some (.ins C dx fs) ∧ Cls K C ∧ PropOf K C f pp g ∧ sp [x] H Q E0
def gSt (K : PySem.W.Frag) (f : Str) (y x : V) (H : Hp) (N : Hp → Prop) : Prop := ∃ a C dx fs, x = .ref a ∧ H a = some (.ins C dx fs) ∧ Cls K C ∧ NoAttr K C f ∧ fs.length < 1000 ∧ N (upd H a (.ins C dx (putF f y fs)))
def gMt (K : PySem.W.Frag) (m : Str) (g : Addr) (x : V) (H : Hp) (R : Hp → Prop) : Prop := ∃ a C dx fs, x = .ref a ∧ H a = some (.ins C dx fs) ∧ Cls K C ∧ Meth K C m g ∧ fs.lookup m = none ∧ R H
section
variable {K : PySem.W.Frag} {σ : L2.St} {H : Hp} {Q : VK} {QT : Bool → Hp → Prop} {QA : List V → Hp → Prop} {ta tk : TA} {te to tb tc : TE} {D : Ends} {ts tu : TS} {sp : Sp} {dv : List V} {W : WX} {v x y c : V} {a C dx p g : Addr} {fs : List (Str × V)} {f m : Str} {n : Nat} {b : Bool} {r r2 : R2} {t u : Value}
theorem x_fld0 (k : te σ H fun x H1 => gFld K f x H1 Q) : tFld K te f σ H Q := k
theorem x_con0 (k : te σ H fun x H1 => gCon K f x H1 Q) : tCon K te f σ H Q := k
theorem x_pr0 (k : te σ H fun x H1 => gPr K f g sp x H1 Q) : tPr K f g sp te σ H Q := k
theorem x_sfld (k : te σ H fun y H1 => to σ H1 fun x H2 => gSt K f y x H2 (D.nx σ)) : sFld K to te f D σ H := k
theorem x_mt0 (k : to σ H fun x H1 => ∃ a C dx fs, x = .ref a ∧ H1 a = some (.ins C dx fs) ∧ Cls K C ∧ Meth K C m g ∧ fs.lookup m = none ∧ ta σ H1 fun vs H2 => sp (x :: (vs ++ dv)) H2 Q (WE W σ)) : tMt K m g sp dv W to ta σ H Q := k
theorem x_chain (k : te σ H fun x H1 => tb σ H1 fun y H2 => r x y H2 fun z H3 => ∃ k, z = .bl k ∧ (if k = true then tc σ H3 fun w H4 => r2 y w H4 Q else Q (.bl false) H3)) : tChain r r2 te tb tc σ H Q := k
theorem x_isi {b : Bool} (hc : ClsV c u) (ht : TyX K H x t) (hk : PySem.W.kitOne K t u = some b) (k : Q (.bl b) H) : rIsi K [x, c] H Q := ⟨x, c, t, u, b, rfl, hc, ht, hk, k⟩
theorem x_all {bs : List Bool} (h : SqL K H a (bs.map V.bl)) (k : Q (.bl (bs.all id)) H) : rAll K [.ref a] H Q := ⟨a, bs, rfl, h, k⟩
theorem x_inSg {c : Nat} {z : Str} (k : Q (.bl (decide (c ∈ z.cps.toList))) H) : rInS (.str ⟨#[c]⟩) (.str z) H Q := ⟨c, z, rfl, rfl, k⟩
theorem x_yes (k : QT true H) : tYes σ H QT := k
theorem x_fs {l : List TE} (k : tJs l Str.empty σ H fun out H1 => Q (.str out) H1) : tFS l σ H Q := k
theorem x_js {l : List TE} {acc : Str} {R : Str → Hp → Prop} (k : te σ H fun x H1 => ∃ y : Str, x = .str y ∧ (acc ++ y).length ≤ sizeLine ∧ tJs l (acc ++ y) σ H1 R) : tJs (te :: l) acc σ H R := k
theorem x_js0 {acc : Str} {R : Str → Hp → Prop} (k : R acc H) : tJs [] acc σ H R := k
theorem x_fmt {z : Str} (hl : z.length ≤ 10000) (k : Q (.str z) H) : (∃ y : Str, V.str z = .str y ∧ y.length ≤ sizeLine ∧ Q (.str y) H) ∨ ∃ i : Int, V.str z = .int i ∧ i.natAbs.log2 < 1920 ∧ Q (.str (toString i)) H := .inl ⟨z, rfl, Nat.le_trans hl (by decide), k⟩
theorem x_fmt0 (k : te σ H fun x H1 => (∃ y : Str, x = .str y ∧ y.length ≤ sizeLine ∧ Q (.str y) H1) ∨ ∃ i : Int, x = .int i ∧ i.natAbs.log2 < 1920 ∧ Q (.str (toString i)) H1) : tFmt te σ H Q := k
theorem x_tup0 {xs : List V} (h : xs.length ≤ 1000) (k : ∀ p, H p = none → Q (.ref p) (upd H p (.tup xs))) : xs.length ≤ sizeLine ∧ ∀ p, H p = none → Q (.ref p) (upd H p (.tup xs)) := ⟨Nat.le_trans h (by decide), k⟩
theorem x_lst0 {xs : List V} (h : xs.length ≤ 1000) (k : ∀ p, H p = none → Q (.ref p) (upd H p (.lst xs))) : xs.length ≤ sizeLine ∧ ∀ p, H p = none → Q (.ref p) (upd H p (.lst xs)) := ⟨Nat.le_trans h (by decide), k⟩
/-- a comprehension over a text, each element told at once -/
theorem x_lcS {z : Str} {j : Nat} {F : Nat → V} (he : ∀ Q : VK, Q (.str z) H → te σ H Q) (hz : z.length ≤ 10000) (hw : ∀ x, wipe ((wipe σ [j]).set j (some x)) [j] = wipe σ [j]) (hel : ∀ c H2 (Q2 : VK), Q2 (F c) H2 → tb ((wipe σ [j]).set j (some (.str ⟨#[c]⟩))) H2 Q2)
    (k : ∀ l, H l = none → Q (.ref l) (upd H l (.lst (z.cps.toList.map F)))) : tLc (iStr te) (gName j) tYes tb [j] σ H Q := by
  show te σ H _
  refine he _ ?_
  refine ⟨z, rfl, fun l hl => ?_⟩
  have hsz : z.cps.size ≤ 10000 := hz
  refine ⟨fun i m H2 => m = z.cps.size - i ∧ i ≤ z.cps.size ∧ H2 = upd H l (.lst ((z.cps.toList.take i).map F)), ⟨z.cps.size, rfl, Nat.zero_le _, by rw [List.take_zero, List.map_nil]⟩, ?_⟩
  rintro i m H2 ⟨rfl, hi, rfl⟩
  by_cases hlt : i < z.cps.size
  · refine .inr ⟨hlt, fun H3 => H3 = upd H l (.lst ((z.cps.toList.take (i + 1)).map F)), fun H3 e => ⟨z.cps.size - (i + 1), by omega, rfl, hlt, e⟩, fun x H3 yy => ?_⟩
    obtain ⟨rfl, c, hc, rfl⟩ := yy
    refine ⟨hw _, ?_⟩
    show tb _ _ _
    refine hel c _ _ ⟨_, upd_same, ?_, ?_⟩
    · rw [List.length_map, List.length_take]
      exact Nat.lt_of_le_of_lt (Nat.le_trans (Nat.min_le_left _ _) (by omega : i ≤ 10000)) (by decide)
    · have hc2 : z.cps.toList[i]? = some c := by rw [Array.getElem?_toList]; exact hc
      rw [upd_upd, List.take_add_one, hc2, List.map_append]
      rfl
  · have e : i = z.cps.size := by omega
    subst e
    refine .inl ⟨Nat.le_refl _, ?_⟩
    have ht : z.cps.toList.take z.cps.size = z.cps.toList := List.take_of_length_le (by rw [Array.length_toList]; exact Nat.le_refl _)
    rw [ht]
    exact k l hl
/-- a comprehension over a list that stays, by an invariant -/
theorem x_lcL {xs : List V} {tg : TG} {tt : TT} {vs : List Nat} (he : ∀ Q : VK, Q (.ref a) H → te σ H Q) (hx : SqL K H a xs) (Pv : Addr → Nat → Hp → Prop) (h0 : ∀ l, H l = none → Pv l 0 (upd H l (.lst []))) (hl : ∀ l i H2, i ≤ xs.length → Pv l i H2 → SqL K H2 a xs)
    (hs : ∀ l i x H2, H l = none → xs[i]? = some x → Pv l i H2 → tg x (wipe σ vs) H2 fun s3 H3 => wipe s3 vs = wipe σ vs ∧ tt s3 H3 fun b H4 => if b = true then tb s3 H4 fun y H5 => ∃ acc, H5 l = some (.lst acc) ∧ acc.length < sizeLine ∧ Pv l (i + 1) (upd H5 l (.lst (acc ++ [y]))) else Pv l (i + 1) H4)
    (hd : ∀ l H2, H l = none → Pv l xs.length H2 → Q (.ref l) H2) : tLc (iList K te) tg tt tb vs σ H Q := by
  show te σ H _
  refine he _ ?_
  exact ⟨a, rfl, ⟨xs, hx⟩, fun l hl0 => lc_list (K := K) (a := a) (xs := xs) (Pv l) (h0 l hl0) (hl l) (fun i x H2 hx2 p => hs l i x H2 hl0 hx2 p) fun H2 p => hd l H2 hl0 p⟩
/-- .. over range(n) -/
theorem x_lcR {n : Int} {tg : TG} {tt : TT} {vs : List Nat} (he : ∀ Q : VK, Q (.int n) H → te σ H Q) (h0 : 0 ≤ n ∧ n ≤ 1000000) (Pv : Addr → Nat → Hp → Prop) (hi : ∀ l, H l = none → Pv l 0 (upd H l (.lst [])))
    (hs : ∀ l i H2, H l = none → i < n.toNat → Pv l i H2 → tg (.int i) (wipe σ vs) H2 fun s3 H3 => wipe s3 vs = wipe σ vs ∧ tt s3 H3 fun b H4 => if b = true then tb s3 H4 fun y H5 => ∃ acc, H5 l = some (.lst acc) ∧ acc.length < sizeLine ∧ Pv l (i + 1) (upd H5 l (.lst (acc ++ [y]))) else Pv l (i + 1) H4)
    (hd : ∀ l H2, H l = none → Pv l n.toNat H2 → Q (.ref l) H2) : tLc (iRng1 (tCons te tNil)) tg tt tb vs σ H Q := by
  show te σ H _
  refine he _ ?_
  refine ⟨n, rfl, by omega, by omega, fun l hl0 => lc_range (lo := 0) (n := n.toNat) (Pv l) (hi l hl0) (fun i H2 hi2 p => ?_) fun H2 p => hd l H2 hl0 p⟩
  have e : (0 : Int) + (i : Int) = (i : Int) := Int.zero_add _
  rw [e]
  exact hs l i H2 hl0 hi2 p
/-- .. over a tuple that stays -/
theorem x_lcT {xs : List V} {tg : TG} {tt : TT} {vs : List Nat} {Q0 : VK} (hx : SqT K H a xs) (Pv : Addr → Nat → Hp → Prop) (h0 : ∀ l, H l = none → Pv l 0 (upd H l (.lst []))) (hl : ∀ l i H2, i ≤ xs.length → Pv l i H2 → SqT K H2 a xs)
    (hs : ∀ l i x H2, H l = none → xs[i]? = some x → Pv l i H2 → tg x (wipe σ vs) H2 fun s3 H3 => wipe s3 vs = wipe σ vs ∧ tt s3 H3 fun b H4 => if b = true then tb s3 H4 fun y H5 => ∃ acc, H5 l = some (.lst acc) ∧ acc.length < sizeLine ∧ Pv l (i + 1) (upd H5 l (.lst (acc ++ [y]))) else Pv l (i + 1) H4)
    (hd : ∀ l H2, H l = none → Pv l xs.length H2 → Q (.ref l) H2) : (fun x H1 => ∃ a2, x = V.ref a2 ∧ (∃ ys, SqT K H1 a2 ys) ∧ ∀ l, H1 l = none → ∃ Wn : Nat → Nat → Hp → Prop, (∃ m, Wn 0 m (upd H1 l (.lst []))) ∧ ∀ i m H2, Wn i m H2 →
      ((Itt K a2).stop i H2 ∧ Q (.ref l) H2) ∨ ((Itt K a2).go i H2 ∧ ∃ Nx : Hp → Prop, (∀ H3, Nx H3 → ∃ m2, m2 < m ∧ Wn (i + 1) m2 H3) ∧ ∀ x H3, (Itt K a2).yld i H2 x H3 → tg x (wipe σ vs) H3 fun s2 H4 => wipe s2 vs = wipe σ vs ∧ tt s2 H4 fun b H5 =>
        if b = true then tb s2 H5 fun y H6 => ∃ acc, H6 l = some (.lst acc) ∧ acc.length < sizeLine ∧ Nx (upd H6 l (.lst (acc ++ [y]))) else Nx H5)) (V.ref a) H :=
  ⟨a, rfl, ⟨xs, hx⟩, fun l hl0 => lc_tup (K := K) (a := a) (xs := xs) (Pv l) (h0 l hl0) (hl l) (fun i x H2 hx2 p => hs l i x H2 hl0 hx2 p) fun H2 p => hd l H2 hl0 p⟩
end
end SJ

/-! SJT: choices in readings. -/
namespace SJ
open PySem PySem.Spec PyProof.Rows L2 He
theorem ite_t {A B : Prop} (h : A) : if (true : Bool) = true then A else B := by rw [if_pos rfl]; exact h
theorem ite_f {A B : Prop} (h : B) : if (false : Bool) = true then A else B := by rw [if_neg Bool.false_ne_true]; exact h
theorem ite_n {A B : Prop} {b : Bool} (h : if b = true then B else A) : if (!b) = true then A else B := by cases b <;> exact h
theorem ite_e {A B : Prop} {b c : Bool} (e : b = c) (h : if c = true then A else B) : if b = true then A else B := by rw [e]; exact h
theorem x_bl2 {P : Bool → Prop} {b : Bool} (k : P b) : ∃ c, V.bl b = .bl c ∧ P c := ⟨b, rfl, k⟩
theorem x_st2 {P : Str → Prop} {b : Str} (k : P b) : ∃ c, V.str b = .str c ∧ P c := ⟨b, rfl, k⟩
theorem Same.tr {A B C : Hp} (h : Same A B) (k : Same B C) : Same A C := fun b u q => k b u (h b u q)
def gFmt (x : V) (H1 : Hp) (Q : VK) : Prop := (∃ y : Str, x = .str y ∧ y.length ≤ sizeLine ∧ Q (.str y) H1) ∨ ∃ i : Int, x = .int i ∧ i.natAbs.log2 < 1920 ∧ Q (.str (toString i)) H1
section
variable {K : PySem.W.Frag} {σ : L2.St} {H : Hp} {Q : VK} {te : TE}
theorem x_fmtE (k : te σ H fun x H1 => gFmt x H1 Q) : tFmt te σ H Q := k
theorem x_fmtS {z : Str} (hl : z.length ≤ 10000) (k : Q (.str z) H) : gFmt (.str z) H Q := .inl ⟨z, rfl, Nat.le_trans hl (by decide), k⟩
def gM0 (r : V → List V → Hp → VK → Prop) (x : V) (H : Hp) (Q : VK) : Prop := (∃ a, x = .str a) ∧ r x [] H Q
theorem x_m0 {r : V → List V → Hp → VK → Prop} (k : te σ H fun x H1 => gM0 r x H1 Q) : tM0 r te σ H Q := k
theorem x_ap {a b : Str} {P : Prop} (h : a.length + b.length ≤ 10000) (k : P) : (a ++ b).length ≤ sizeLine ∧ P := ⟨by rw [PySem.Str.length_append]; exact Nat.le_trans h (by decide), k⟩
end
end SJ

/-! SJD: the laws' own pen: drawing numbers. -/
namespace SJ
open PySem PySem.Spec PyProof.Rows L2 He
local macro_rules | `(tactic| walk_at "go") => `(tactic| (repeat (first
  | with_reducible apply x_seq | with_reducible apply x_asg | with_reducible apply x_ret | with_reducible apply x_if | with_reducible apply x_test | with_reducible apply x_B | with_reducible apply x_op | (with_reducible apply x_var rfl) | with_reducible apply x_c
  | with_reducible apply x_cb | with_reducible apply x_cons | with_reducible apply x_nil | with_reducible apply x_bl2 | with_reducible apply x_st2 | with_reducible apply ite_t | with_reducible apply ite_f | with_reducible apply ite_n | with_reducible apply x_and | with_reducible apply x_or | with_reducible apply x_not | with_reducible apply x_andV | with_reducible apply x_orV | with_reducible apply x_notV
  | with_reducible apply x_addI | with_reducible apply x_sub' | with_reducible apply x_eqI | with_reducible apply x_neI | with_reducible apply x_eqT | with_reducible apply x_neT | with_reducible apply x_ltI | with_reducible apply x_leI | with_reducible apply x_gtI | with_reducible apply x_geI
  | with_reducible apply x_intI | with_reducible apply x_intBl | with_reducible apply x_absI | with_reducible apply x_asgG | with_reducible apply x_sub | with_reducible apply x_lst | with_reducible apply x_tup | with_reducible apply x_next | with_reducible apply x_drop
  | with_reducible apply x_ife | with_reducible apply x_chain | with_reducible apply x_inSg | with_reducible apply x_yes | with_reducible apply x_fs | with_reducible apply x_js | with_reducible apply x_js0 | with_reducible apply x_fmtE | with_reducible apply x_m0 | with_reducible apply x_fld0 | with_reducible apply x_con0 | with_reducible apply x_pr0 | with_reducible apply x_sfld
  | (with_reducible refine x_new ?_ ?_; · exact Nat.le_of_ble_eq_true rfl)
  | with_reducible apply x_fn | with_reducible apply x_nw | with_reducible apply x_bm | with_reducible apply x_par | with_reducible apply x_rz | with_reducible apply x_retN | with_reducible apply x_un | with_reducible apply x_U)))

/-! ### data -/
theorem dp_ints {K : PySem.W.Frag} {H : Hp} : ∀ ns : List Int, DpAll K H (ns.map V.int) (ns.map PyData.int)
  | [] => .nil
  | n :: ns => .cons (.int n) (dp_ints ns)
theorem dp_strs {K : PySem.W.Frag} {H : Hp} : ∀ ns : List Str, DpAll K H (ns.map V.str) (ns.map PyData.str)
  | [] => .nil
  | n :: ns => .cons (.str n) (dp_strs ns)
theorem lay_all : ∀ ds : List PyData, (∀ d ∈ ds, d.canLay0 = true) → PyData.canLayAll0 ds = true
  | [], _ => by simp only [PyData.canLayAll0]
  | d :: ds, h => by
    simp only [PyData.canLayAll0]
    rw [h d (List.mem_cons_self ..), lay_all ds fun e q => h e (List.mem_cons_of_mem _ q)]
    rfl
theorem dep_all {n : Nat} : ∀ ds : List PyData, (∀ d ∈ ds, d.depth ≤ n) → PyData.depthAll ds ≤ n
  | [], _ => by simp only [PyData.depthAll]; exact Nat.zero_le _
  | d :: ds, h => by
    simp only [PyData.depthAll]
    exact Nat.max_le.mpr ⟨h d (List.mem_cons_self ..), dep_all ds fun e q => h e (List.mem_cons_of_mem _ q)⟩
/-- may lie in an equation -/
def Lay (n : Nat) (d : PyData) : Prop := d.canLay0 = true ∧ d.depth ≤ n
theorem Lay.sh {n : Nat} {d : PyData} (h : Lay n d) (l : n ≤ 64) : SeqAt.shaped d = true := by
  unfold SeqAt.shaped
  rw [h.1, decide_eq_true (Nat.le_trans h.2 l)]
  rfl
theorem Lay.int {n : Nat} {i : Int} : Lay n (.int i) := ⟨by simp only [PyData.canLay0], by simp only [PyData.depth]; exact Nat.zero_le _⟩
theorem Lay.bl {n : Nat} {i : Bool} : Lay n (.bool i) := ⟨by simp only [PyData.canLay0], by simp only [PyData.depth]; exact Nat.zero_le _⟩
theorem Lay.non {n : Nat} : Lay n .none := ⟨by simp only [PyData.canLay0], by simp only [PyData.depth]; exact Nat.zero_le _⟩
theorem Lay.str {n : Nat} {z : Str} (h : PyData.strOk z = true) : Lay n (.str z) := ⟨by simp only [PyData.canLay0]; exact h, by simp only [PyData.depth]; exact Nat.zero_le _⟩
theorem Lay.lst {n : Nat} {ds : List PyData} (h : ∀ d ∈ ds, Lay n d) : Lay (n + 1) (.list ds) := ⟨by simp only [PyData.canLay0]; exact lay_all ds fun d q => (h d q).1, by simp only [PyData.depth]; exact Nat.succ_le_succ (dep_all ds fun d q => (h d q).2)⟩
theorem Lay.tup {n : Nat} {ds : List PyData} (h : ∀ d ∈ ds, Lay n d) : Lay (n + 1) (.tuple ds) := ⟨by simp only [PyData.canLay0]; exact lay_all ds fun d q => (h d q).1, by simp only [PyData.depth]; exact Nat.succ_le_succ (dep_all ds fun d q => (h d q).2)⟩
theorem lay_ints {n : Nat} {ns : List Int} : Lay (n + 1) (.list (ns.map PyData.int)) := .lst fun d q => by
  obtain ⟨i, _, rfl⟩ := List.mem_map.mp q
  exact .int
/-- xs != [] -/
theorem x_sl {K : PySem.W.Frag} {σ : L2.St} {H : Hp} {Q : VK} {te : TE} {tl th : TO} {r : V → Option Int → Option Int → Hp → VK → Prop} (k : te σ H fun x H1 => tl σ H1 fun l H2 => th σ H2 fun u H3 => r x l u H3 Q) : tSl r te tl th σ H Q := k
theorem x_noPart {σ : L2.St} {H : Hp} {P : Option Int → Hp → Prop} (k : P none H) : tNoPart σ H P := k
theorem x_part {σ : L2.St} {H : Hp} {te : TE} {P : Option Int → Hp → Prop} (k : te σ H fun x H1 => ∃ i, x = .int i ∧ P (some i) H1) : tPart te σ H P := k
theorem x_in2 {P : Int → Prop} {b : Int} (k : P b) : ∃ c, V.int b = .int c ∧ P c := ⟨b, rfl, k⟩
theorem x_neNil {K : PySem.W.Frag} {H : Hp} {a b : Addr} {xs : List V} {ds : List PyData} {Q : VK} (h : SqL K H a xs) (hd : DpAll K H xs ds) (hl : Lay 64 (.list ds)) (hb : H b = some (.lst [])) (k : Q (.bl (!decide (ds = []))) H) : rNeU K (.ref a) (.ref b) H Q := by
  refine x_neDD (.lst h hd) (.lst (SqL.of hb) .nil) (hl.sh (Nat.le_refl _)) rfl ?_
  have e : PyData.eqv (.list ds) (.list []) = decide (ds = []) := by
    cases ds with
    | nil => rfl
    | cons d ds => rfl
  rw [e]
  exact k
theorem del_le {H : Hp} {p : Addr} : Same (L2.del H p) H := fun b u q => del_sub q
theorem del_ne_of {H : Hp} {p a : Addr} {o : HO} (h : L2.del H p a = some o) : a ≠ p := del_some h
theorem atI_in {α : Type} {xs : List α} {i : Int} (h0 : 0 ≤ i) (h1 : i < xs.length) : ∃ v, xs[i.toNat]? = some v ∧ atI xs i = some v := by
  have h2 : i.toNat < xs.length := by omega
  refine ⟨xs[i.toNat], List.getElem?_eq_getElem h2, ?_⟩
  unfold atI ixN
  rw [if_pos h0, if_pos h1]
  exact List.getElem?_eq_getElem h2
/-! ### the pen -/
structure Pen where
  p : Addr
  c : Addr
  ns : List Int
/-- the pen P: at most n draws so far -/
def PenAt (H : Hp) (P : Pen) (n : Nat) : Prop := ∃ (a r : Int), H P.p = some (.lst [.ref P.c, .int a, .int r]) ∧ L2.del H P.p P.c = some (.lst (P.ns.map V.int)) ∧ 0 ≤ a ∧ a ≤ n ∧ 0 ≤ r ∧ P.ns.length ≤ 1000
def spPen (K : PySem.W.Frag) : Sp := fun vs H Q _ => ∃ (a : Addr) (ns : List Int), vs = [.ref a] ∧ SqL K H a (ns.map V.int) ∧ ns.length ≤ 63 ∧ ∀ P H2, H P.p = none → Same H H2 → PenAt H2 P 0 → Q (.ref P.p) H2
def spDraw : Sp := fun vs H Q _ => ∃ (P : Pen) (m : Int) (n : Nat), vs = [.ref P.p, .int m] ∧ PenAt H P n ∧ n < 100000 ∧ 0 < m ∧ m < 1073741824 ∧
  ∀ (H2 : Hp) (r : Int), 0 ≤ r → r < m → PenAt H2 P (n + 1) → Same (L2.del H P.p) (L2.del H2 P.p) → Q (.int r) H2
def spPick (K : PySem.W.Frag) : Sp := fun vs H Q _ => ∃ (P : Pen) (l : Addr) (n : Nat) (xs : List V), vs = [.ref P.p, .ref l] ∧ PenAt H P n ∧ n < 100000 ∧ (SqL K (L2.del H P.p) l xs ∨ SqT K (L2.del H P.p) l xs) ∧ xs ≠ [] ∧ xs.length ≤ 1000 ∧
  ∀ (H2 : Hp) (i : Nat) (v : V), xs[i]? = some v → PenAt H2 P (n + 1) → Same (L2.del H P.p) (L2.del H2 P.p) → Q v H2
theorem PenAt.at {H : Hp} {P : Pen} {n : Nat} (h : PenAt H P n) : ∃ xs, H P.p = some (.lst xs) := by
  obtain ⟨a, r, h, _⟩ := h
  exact ⟨_, h⟩
theorem PenAt.cell {H : Hp} {P : Pen} {n : Nat} (h : PenAt H P n) : L2.del H P.p P.c = some (.lst (P.ns.map V.int)) := by
  obtain ⟨a, r, _, h, _⟩ := h
  exact h
theorem PenAt.ne {H : Hp} {P : Pen} {n : Nat} {l : Addr} (h : PenAt H P n) (e : H l = none) : l ≠ P.p ∧ l ≠ P.c := by
  obtain ⟨a, r, h1, h2, _⟩ := h
  exact ⟨(fun q => by rw [q, h1] at e; cases e), (fun q => by rw [q, del_sub h2] at e; cases e)⟩
theorem PenAt.mono {H H2 : Hp} {P : Pen} {n m : Nat} (h : PenAt H P n) (s : Same H H2) (l : n ≤ m) : PenAt H2 P m := by
  obtain ⟨a, r, h1, h2, h3, h4, h5, h6⟩ := h
  exact ⟨a, r, s _ _ h1, Same.del s _ _ h2, h3, by omega, h5, h6⟩
theorem PenAt.upd {H : Hp} {P : Pen} {l : Addr} {n : Nat} {o : HO} (h : PenAt H P n) (e : l ≠ P.p ∧ l ≠ P.c) : PenAt (L2.upd H l o) P n := by
  obtain ⟨a, r, h1, h2, h3, h4, h5, h6⟩ := h
  refine ⟨a, r, by rw [upd_ne (Ne.symm e.1)]; exact h1, ?_, h3, h4, h5, h6⟩
  rw [del_upd_ne e.1, upd_ne (Ne.symm e.2)]
  exact h2
def tPen (K : PySem.W.Frag) : TS := (tRet (tLst (tCons (tCB (rListU K) (tCons (tSl (rSlU K) (tVar 0) tNoPart (tPart (tC (.int 63)))) tNil)) (tCons (tC (.int 0)) (tCons (tC (.int 0)) tNil)))))
def drawTail (K : PySem.W.Frag) (m1 c3 c4 m2 c5 c6 c7 m3 : Int) : TS := (tSeq (tIfS (tAnd (tTest (tOp rLtU (tVar 3) (tCB (rLenU K) (tCons (tOp (rIx K) (tVar 0) (tC (.int 0))) tNil)))) (tTest (tOp rGeU (tCB rAbs (tCons (tVar 4) tNil)) (tOp rPow (tC (.int 10)) (tC (.int 18)))))) (tSeq (tAsg (tOp (rAdd K) (tOp (rMul K) (tC (.int 2)) (tCB rAbs (tCons (tVar 4) tNil))) (tCB rInt (tCons (tOp rLtU (tVar 4) (tC (.int 0))) tNil))) (gName 5)) (tSeq (tAsg (tOp rFdv (tCB rInt (tCons (tVar 5) tNil)) (tVar 1)) (gSub (tVar 0) (tC (.int 2)) rSetL)) (tRet (tOp rMod (tCB rInt (tCons (tVar 5) tNil)) (tVar 1))))) tNext) (tSeq (tAsg (tOp rMod (tOp rPow (tCB rInt (tCons (tOp (rAdd K) (tOp (rAdd K) (tOp rMod (tCB rInt (tCons (tVar 4) tNil)) (tC (.int m1))) (tOp (rMul K) (tC (.int c3)) (tVar 3))) (tC (.int c4))) tNil)) (tC (.int 5))) (tC (.int m2))) (gName 6)) (tSeq (tAsg (tOp rMod (tOp rPow (tCB rInt (tCons (tOp (rAdd K) (tOp (rAdd K) (tOp (rMul K) (tVar 6) (tOp (rAdd K) (tOp (rMul K) (tC (.int 2)) (tVar 3)) (tC (.int c5)))) (tOp (rMul K) (tOp (rMul K) (tC (.int c6)) (tVar 3)) (tVar 3))) (tC (.int c7))) tNil)) (tC (.int 3))) (tC (.int m3))) (gName 6)) (tRet (tOp rMod (tCB rInt (tCons (tOp rFdv (tVar 6) (tC (.int 16))) tNil)) (tVar 1))))))
def tDrawA (K : PySem.W.Frag) (c1 c2 m1 c3 c4 m2 c5 c6 c7 m3 : Int) : TS := (tSeq (tIfS (tTest (tOp rGtU (tOp (rIx K) (tVar 0) (tC (.int 2))) (tC (.int 0)))) (tSeq (tAsg (tOp rMod (tCB rInt (tCons (tOp (rIx K) (tVar 0) (tC (.int 2))) tNil)) (tVar 1)) (gName 2)) (tSeq (tAsg (tOp rFdv (tCB rInt (tCons (tOp (rIx K) (tVar 0) (tC (.int 2))) tNil)) (tVar 1)) (gSub (tVar 0) (tC (.int 2)) rSetL)) (tRet (tVar 2)))) tNext) (tSeq (tAsg (tOp (rIx K) (tVar 0) (tC (.int 1))) (gName 3)) (tSeq (tAsg (tOp (rAdd K) (tVar 3) (tC (.int 1))) (gSub (tVar 0) (tC (.int 1)) rSetL)) (tSeq (tAsg (tOp (rAdd K) (tOp (rMul K) (tC (.int c1)) (tVar 3)) (tC (.int c2))) (gName 4)) (tSeq (tIfS (tTest (tOp (rNeU K) (tOp (rIx K) (tVar 0) (tC (.int 0))) (tLst tNil))) (tAsg (tOp (rIx K) (tOp (rIx K) (tVar 0) (tC (.int 0))) (tOp rMod (tCB rInt (tCons (tVar 3) tNil)) (tCB (rLenU K) (tCons (tOp (rIx K) (tVar 0) (tC (.int 0))) tNil)))) (gName 4)) tNext) (drawTail K m1 c3 c4 m2 c5 c6 c7 m3))))))
section
variable {K : PySem.W.Frag} {vs : List V} {H : Hp} {Q : VK} {E : XK} {n0 n1 n2 n3 n4 n5 n6 : Str} {D : Ends}
theorem len_pen (h : spPen K vs H Q E) : vs.length = 1 := by obtain ⟨a, ns, rfl, _⟩ := h; rfl
theorem len_draw (h : spDraw vs H Q E) : vs.length = 2 := by obtain ⟨p, m, n, rfl, _⟩ := h; rfl
theorem len_pick (h : spPick K vs H Q E) : vs.length = 2 := by obtain ⟨p, l, n, xs, rfl, _⟩ := h; rfl
theorem mul_bd {a b A B : Int} (h0 : 0 ≤ a) (h1 : a ≤ A) (h2 : 0 ≤ b) (h3 : b ≤ B) : 0 ≤ a * b ∧ a * b ≤ A * B := ⟨Int.mul_nonneg h0 h2, Int.mul_le_mul h1 h3 h2 (by omega)⟩
theorem draw_tail {p c : Addr} {m a x r : Int} {ns : List Int} {n : Nat} {m1 c3 c4 m2 c5 c6 c7 m3 : Int} {H0 : Hp} {v2 v5 v6 : Option V} (hp : H p = some (.lst [.ref c, .int (a + 1), .int r])) (hc : L2.del H p c = some (.lst (ns.map V.int))) (ha : 0 ≤ a) (han : a ≤ n) (hr : 0 ≤ r) (hn : n < 100000) (hns : ns.length ≤ 1000)
    (hm : 0 < m) (hm2 : m < 1073741824) (b1 : 0 < m1 ∧ m1 < 2147483648) (b2 : 0 < m2 ∧ m2 < 2147483648) (b3 : 0 < m3 ∧ m3 < 2147483648) (d3 : 0 ≤ c3 ∧ c3 ≤ 100000) (d4 : 0 ≤ c4 ∧ c4 ≤ 100000) (d5 : 0 ≤ c5 ∧ c5 ≤ 100000) (d6 : 0 ≤ c6 ∧ c6 ≤ 100000) (d7 : 0 ≤ c7 ∧ c7 ≤ 100000)
    (s : Same (L2.del H0 p) (L2.del H p)) (k : ∀ (H2 : Hp) (r : Int), 0 ≤ r → r < m → PenAt H2 ⟨p, c, ns⟩ (n + 1) → Same (L2.del H0 p) (L2.del H2 p) → D.rt (.int r) H2) :
    drawTail K m1 c3 c4 m2 c5 c6 c7 m3 D [some (.ref p), some (.int m), v2, some (.int a), some (.int x), v5, v6] H := by
  unfold drawTail
  have hc2 := del_sub hc
  have fin : ∀ i : Int, D.rt (.int (i % m)) H := fun i => k H _ (Int.emod_nonneg _ (by omega)) (Int.emod_lt_of_pos _ hm) ⟨a + 1, r, hp, hc, by omega, by omega, hr, hns⟩ s
  have rest : (tSeq (tAsg (tOp rMod (tOp rPow (tCB rInt (tCons (tOp (rAdd K) (tOp (rAdd K) (tOp rMod (tCB rInt (tCons (tVar 4) tNil)) (tC (.int m1))) (tOp (rMul K) (tC (.int c3)) (tVar 3))) (tC (.int c4))) tNil)) (tC (.int 5))) (tC (.int m2))) (gName 6)) (tSeq (tAsg (tOp rMod (tOp rPow (tCB rInt (tCons (tOp (rAdd K) (tOp (rAdd K) (tOp (rMul K) (tVar 6) (tOp (rAdd K) (tOp (rMul K) (tC (.int 2)) (tVar 3)) (tC (.int c5)))) (tOp (rMul K) (tOp (rMul K) (tC (.int c6)) (tVar 3)) (tVar 3))) (tC (.int c7))) tNil)) (tC (.int 3))) (tC (.int m3))) (gName 6)) (tRet (tOp rMod (tCB rInt (tCons (tOp rFdv (tVar 6) (tC (.int 16))) tNil)) (tVar 1))))) D [some (.ref p), some (.int m), v2, some (.int a), some (.int x), v5, v6] H := by
    have h0 := Int.emod_nonneg x (by omega : m1 ≠ 0)
    have h1 := Int.emod_lt_of_pos x b1.1
    have h2 := mul_bd d3.1 d3.2 ha (by omega : a ≤ 100000)
    have h3 := mul_bd d6.1 d6.2 ha (by omega : a ≤ 100000)
    have h4 := mul_bd h3.1 h3.2 ha (by omega : a ≤ 100000)
    walk_at "go"
    refine x_mod b1.1 ?_
    walk_at "go"
    refine x_mulI (.inl ⟨by omega, by omega⟩) ?_
    walk_at "go"
    refine x_pow ⟨by omega, by omega, by omega⟩ ?_
    walk_at "go"
    refine x_mod b2.1 ?_
    walk_at "go"
    have h5 := Int.emod_nonneg ((x % m1 + c3 * a + c4) ^ (5 : Int).toNat) (by omega : m2 ≠ 0)
    have h6 := Int.emod_lt_of_pos ((x % m1 + c3 * a + c4) ^ (5 : Int).toNat) b2.1
    generalize (x % m1 + c3 * a + c4) ^ (5 : Int).toNat % m2 = y at h5 h6
    have h7 := mul_bd h5 (by omega : y ≤ 2147483648) (by omega : 0 ≤ 2 * a + c5) (by omega : 2 * a + c5 ≤ 300000)
    refine x_mulI (.inl ⟨by omega, by omega⟩) ?_
    walk_at "go"
    refine x_mulI (.inl ⟨by omega, by omega⟩) ?_
    walk_at "go"
    refine x_mulI (.inl ⟨by omega, by omega⟩) ?_
    walk_at "go"
    refine x_mulI (.inr ⟨by omega, by omega⟩) ?_
    walk_at "go"
    refine x_pow ⟨by omega, by omega, by omega⟩ ?_
    walk_at "go"
    refine x_mod b3.1 ?_
    walk_at "go"
    refine x_fdv (by omega) (by omega) ?_
    walk_at "go"
    refine x_mod hm ?_
    exact fin _
  walk_at "go"
  refine x_ixL (SqL.of hp) rfl ?_
  walk_at "go"
  refine x_lenL (SqL.of hc2) ?_
  walk_at "go"
  cases decide (a < ((ns.map V.int).length : Int)) with
  | false => exact ite_f (ite_f rest)
  | true =>
    walk_at "go"
    refine x_pow ⟨by omega, by omega, by omega⟩ ?_
    walk_at "go"
    cases decide ((10 : Int) ^ (18 : Int).toNat ≤ if x < 0 then -x else x) with
    | false => exact ite_f rest
    | true =>
      walk_at "go"
      refine x_mulI (.inl ⟨by omega, by omega⟩) ?_
      walk_at "go"
      refine x_fdv hm hm2 ?_
      walk_at "go"
      refine x_setL hp rfl ?_
      walk_at "go"
      refine x_mod hm ?_
      have hg : 0 ≤ (2 * (if x < 0 then -x else x) + if decide (x < 0) = true then 1 else 0) := by
        by_cases e : x < 0
        · rw [if_pos e]; split <;> omega
        · rw [if_neg e]; split <;> omega
      refine k _ _ (Int.emod_nonneg _ (by omega)) (Int.emod_lt_of_pos _ hm) ⟨a + 1, _, upd_same, by rw [del_upd]; exact hc, by omega, by omega, Int.ediv_nonneg hg (by omega), hns⟩ ?_
      rw [del_upd]
      exact s
theorem cut_ints {j : Int} {ns : List Int} (h : 0 ≤ j) : cutV (ns.map V.int) none (some j) = (ns.take (min j.toNat ns.length)).map V.int := by
  have e : ¬ j < 0 := by omega
  show ((ns.map V.int).drop 0).take ((if j < 0 then (j + ((ns.map V.int).length : Int)).toNat else min j.toNat (ns.map V.int).length) - 0) = _
  rw [if_neg e, List.drop_zero, List.length_map, Nat.sub_zero, List.map_take]
theorem pen_ok (h : spPen K vs H Q E) : tPen K { nx := fun _ H2 => Q .non H2, rt := Q } (start [n0] vs) H := by
  obtain ⟨a, ns, rfl, ha, hns, k⟩ := h
  unfold tPen
  walk_at "go"
  refine ⟨_, rfl, ?_⟩
  refine ⟨_, rfl, .inl ⟨a, _, rfl, ha, fun q hq => ?_⟩⟩
  rw [cut_ints (by omega)]
  walk_at "go"
  refine x_listL (SqL.of upd_same) fun q2 hq2 => ?_
  walk_at "go"
  intro p hp
  have e1 : q2 ≠ q := fun e => by rw [e, upd_same] at hq2; cases hq2
  have e2 : q2 ≠ p := fun e => by rw [← e, upd_same] at hp; cases hp
  have hp1 := hp
  rw [upd_ne (Ne.symm e2)] at hp1
  have e3 : p ≠ q := fun e => by rw [e, upd_same] at hp1; cases hp1
  have s1 : Same H (upd H q (.lst ((ns.take (min (Int.toNat 63) ns.length)).map V.int))) := Same.upd (Same.refl _) hq
  refine k ⟨p, q2, ns.take (min (Int.toNat 63) ns.length)⟩ _ (by rw [upd_ne e3] at hp1; exact hp1) (Same.upd (Same.upd s1 hq2) hp) ⟨0, 0, upd_same, ?_, by omega, by omega, by omega, ?_⟩
  · show L2.del _ p q2 = _; rw [del_ne e2, upd_ne e2, upd_same]
  · show (ns.take _).length ≤ 1000; rw [List.length_take]; omega
def tPick (K : PySem.W.Frag) (sp : Sp) : TS := (tRet (tOp (rIx K) (tVar 1) (tFn sp [] W0 (tCons (tVar 0) (tCons (tCB (rLenU K) (tCons (tVar 1) tNil)) tNil)))))
theorem sq_len {l : Addr} {xs : List V} (h : SqL K H l xs ∨ SqT K H l xs) (k : Q (.int (xs.length : Int)) H) : rLenU K [.ref l] H Q := by
  rcases h with h | h
  · exact x_lenL h k
  · exact x_lenT' h k
theorem sq_ix {l : Addr} {xs : List V} {i : Int} {v : V} (h : SqL K H l xs ∨ SqT K H l xs) (e : atI xs i = some v) (k : Q v H) : rIx K (.ref l) (.int i) H Q := by
  rcases h with h | h
  · exact x_ixL h e k
  · exact x_ixT h e k
theorem same_sq {H2 : Hp} {l : Addr} {xs : List V} (s : Same H H2) (h : SqL K H l xs ∨ SqT K H l xs) : SqL K H2 l xs ∨ SqT K H2 l xs := by
  rcases h with h | h
  · exact .inl (Same.seq s h)
  · refine .inr ?_
    rcases h with (h | ⟨o, h⟩) | h
    · exact .inl (.inl (s _ _ h))
    · exact .inl (.inr ⟨o, s _ _ h⟩)
    · exact .inr h
theorem pick_ok (h : spPick K vs H Q E) : tPick K spDraw { nx := fun _ H2 => Q .non H2, rt := Q } (start [n0, n1] vs) H := by
  obtain ⟨p, l, n, xs, rfl, hp, hn, hl, hne, hz, k⟩ := h
  unfold tPick
  walk_at "go"
  refine sq_len (same_sq del_le hl) ?_
  walk_at "go"
  have h0 : 0 < xs.length := List.length_pos_iff.mpr hne
  refine ⟨p, _, n, rfl, hp, hn, by omega, by omega, fun H2 r h1 h2 hp2 s => ?_⟩
  obtain ⟨v, hv, hv2⟩ := atI_in h1 h2
  exact sq_ix (same_sq del_le (same_sq s hl)) hv2 (k H2 _ v hv hp2 s)
theorem draw_ok {c1 c2 m1 c3 c4 m2 c5 c6 c7 m3 : Int} (h : spDraw vs H Q E) (d1 : 0 ≤ c1 ∧ c1 ≤ 100000) (b1 : 0 < m1 ∧ m1 < 2147483648) (b2 : 0 < m2 ∧ m2 < 2147483648) (b3 : 0 < m3 ∧ m3 < 2147483648) (d3 : 0 ≤ c3 ∧ c3 ≤ 100000) (d4 : 0 ≤ c4 ∧ c4 ≤ 100000) (d5 : 0 ≤ c5 ∧ c5 ≤ 100000) (d6 : 0 ≤ c6 ∧ c6 ≤ 100000) (d7 : 0 ≤ c7 ∧ c7 ≤ 100000) :
    tDrawA K c1 c2 m1 c3 c4 m2 c5 c6 c7 m3 { nx := fun _ H2 => Q .non H2, rt := Q } (start [n0, n1, n2, n3, n4, n5, n6] vs) H := by
  obtain ⟨⟨p, c, ns⟩, m, n, rfl, ⟨a, r, hp, hc, ha, han, hr, hns⟩, hn, hm, hm2, k⟩ := h
  have hc2 := del_sub hc
  have hcp := del_some hc
  unfold tDrawA
  walk_at "go"
  refine x_ixL (SqL.of hp) rfl ?_
  walk_at "go"
  cases decide ((0 : Int) < r) with
  | true =>
    walk_at "go"
    refine x_ixL (SqL.of hp) rfl ?_
    walk_at "go"
    refine x_mod hm ?_
    walk_at "go"
    refine x_ixL (SqL.of hp) rfl ?_
    walk_at "go"
    refine x_fdv hm hm2 ?_
    walk_at "go"
    refine x_setL hp rfl ?_
    walk_at "go"
    refine k _ _ (Int.emod_nonneg _ (by omega)) (Int.emod_lt_of_pos _ hm) ⟨a, _, upd_same, by rw [del_upd]; exact hc, by omega, by omega, Int.ediv_nonneg hr (by omega), hns⟩ ?_
    rw [del_upd]
    exact Same.refl _
  | false =>
    walk_at "go"
    refine x_ixL (SqL.of hp) rfl ?_
    walk_at "go"
    refine x_setL hp rfl ?_
    walk_at "go"
    refine x_mulI (.inl ⟨by omega, by omega⟩) ?_
    walk_at "go"
    refine x_ixL (SqL.of upd_same) rfl ?_
    walk_at "go"
    intro q hq
    have hqp : q ≠ p := fun e => by rw [e, upd_same] at hq; cases hq
    have hqc : c ≠ q := fun e => by rw [← e, upd_ne hcp, hc2] at hq; cases hq
    refine x_neNil (xs := ns.map V.int) (SqL.of (by rw [upd_ne hqc, upd_ne hcp]; exact hc2)) (dp_ints ns) (lay_ints (n := 63)) upd_same ?_
    walk_at "go"
    have hp2 : (upd (upd H p (.lst [.ref c, .int (a + 1), .int r])) q (.lst [])) p = some (.lst [.ref c, .int (a + 1), .int r]) := by rw [upd_ne (Ne.symm hqp), upd_same]
    have hc3 : L2.del (upd (upd H p (.lst [.ref c, .int (a + 1), .int r])) q (.lst [])) p c = some (.lst (ns.map V.int)) := by rw [del_ne hcp, upd_ne hqc, upd_ne hcp]; exact hc2
    have s : Same (L2.del H p) (L2.del (upd (upd H p (.lst [.ref c, .int (a + 1), .int r])) q (.lst [])) p) := by
      rw [del_upd_ne hqp, del_upd]
      exact Same.upd (Same.refl _) (del_none (by rw [upd_ne hqp] at hq; exact hq))
    cases e : decide (ns.map PyData.int = []) with
    | true =>
      walk_at "go"
      exact draw_tail hp2 hc3 ha han hr hn hns hm hm2 b1 b2 b3 d3 d4 d5 d6 d7 s k
    | false =>
      have hne : 0 < ns.length := by
        cases ns with
        | nil => exact nomatch (of_decide_eq_false e)  rfl
        | cons i ns => exact Nat.succ_pos _
      walk_at "go"
      refine x_ixL (SqL.of hp2) rfl ?_
      walk_at "go"
      refine x_ixL (SqL.of hp2) rfl ?_
      walk_at "go"
      refine x_lenL (SqL.of (del_sub hc3)) ?_
      have hl : ((ns.map V.int).length : Int) = ns.length := by rw [List.length_map]
      refine x_mod (by omega) ?_
      obtain ⟨v, hv, hv2⟩ := atI_in (xs := ns.map V.int) (i := a % ((ns.map V.int).length : Int)) (Int.emod_nonneg _ (by omega)) (Int.emod_lt_of_pos _ (by omega))
      rw [List.getElem?_map] at hv
      obtain ⟨i, _, rfl⟩ := Option.map_eq_some_iff.mp hv
      refine x_ixL (SqL.of (del_sub hc3)) hv2 ?_
      exact draw_tail hp2 hc3 ha han hr hn hns hm hm2 b1 b2 b3 d3 d4 d5 d6 d7 s k
/-! ### tags: drawn off a pool -/
def spTags (pool : List Str) : Sp := fun vs H Q _ => ∃ (P : Pen) (m n : Nat), vs = [.ref P.p, .int m] ∧ PenAt H P n ∧ n + m < 100000 ∧ m ≤ pool.length ∧
  ∀ (H2 : Hp) (l : Addr) (ts rest : List Str), H l = none → H2 l = some (.lst (ts.map V.str)) → ts.length = m → (ts ++ rest).Perm pool → PenAt H2 P (n + m) → Same (L2.del H P.p) (L2.del H2 P.p) → Q (.ref l) H2
theorem len_tags {pool : List Str} (h : spTags pool vs H Q E) : vs.length = 2 := by obtain ⟨p, m, n, rfl, _⟩ := h; rfl
def tTagsLc (K : PySem.W.Frag) (i j : Nat) : TE := tLc (iRng1 (tCons (tVar 1) tNil)) (gName j) tYes (tBM K "list" rPopAt (tVar i) (tCons (tFn spDraw [] W0 (tCons (tVar 0) (tCons (tCB (rLenU K) (tCons (tVar i) tNil)) tNil))) tNil)) [j]
theorem erase_map {α β : Type} (f : α → β) : ∀ (xs : List α) (k : Nat), (xs.map f).eraseIdx k = (xs.eraseIdx k).map f
  | [], _ => rfl
  | _ :: _, 0 => rfl
  | x :: xs, k + 1 => by
    show f x :: (xs.map f).eraseIdx k = f x :: (xs.eraseIdx k).map f
    rw [erase_map f xs k]
theorem erase_perm {α : Type} : ∀ (xs : List α) (k : Nat) (x : α), xs[k]? = some x → (x :: xs.eraseIdx k).Perm xs
  | [], _, _, h => nomatch h
  | y :: ys, 0, x, h => by cases (Option.some.inj h : y = x); exact List.Perm.refl _
  | y :: ys, k + 1, x, h => (List.Perm.swap y x (ys.eraseIdx k)).trans ((erase_perm ys k x h).cons y)
theorem perm_pop {ts rest pool : List Str} {i : Nat} {t : Str} (h : (ts ++ rest).Perm pool) (e : rest[i]? = some t) : (ts ++ [t] ++ rest.eraseIdx i).Perm pool := by
  refine List.Perm.trans ?_ h
  rw [List.append_assoc]
  exact List.Perm.append_left ts (erase_perm rest i t e)
theorem tags_lc {P : Pen} {m n : Nat} {q : Addr} {pool : List Str} {H0 : Hp} (hp : PenAt H P n) (hn : n + m < 100000) (hm : m ≤ pool.length) (hz : pool.length ≤ 1000) (hq : H q = some (.lst (pool.map V.str))) (hq0 : H0 q = none) (s0 : Same H0 H) (hp0 : ∃ o, H0 P.p = some o) (hc0 : ∃ o, H0 P.c = some o)
    (k : ∀ (H2 : Hp) (l : Addr) (ts rest : List Str), H0 l = none → H2 l = some (.lst (ts.map V.str)) → ts.length = m → (ts ++ rest).Perm pool → PenAt H2 P (n + m) → Same (L2.del H0 P.p) (L2.del H2 P.p) → Q (.ref l) H2) :
    tTagsLc K 2 3 [some (.ref P.p), some (.int m), some (.ref q), none] H Q := by
  unfold tTagsLc
  obtain ⟨op, hp0⟩ := hp0
  obtain ⟨oc, hc0⟩ := hc0
  have nq : q ≠ P.p ∧ q ≠ P.c := ⟨(fun e => by rw [e, hp0] at hq0; cases hq0), (fun e => by rw [e, hc0] at hq0; cases hq0)⟩
  refine x_lcR (n := (m : Int)) (fun _ q => ⟨_, rfl, q⟩) ⟨by omega, by omega⟩ (fun l i H2 => l ≠ q ∧ l ≠ P.p ∧ l ≠ P.c ∧ ∃ ts rest : List Str, H2 l = some (.lst (ts.map V.str)) ∧ H2 q = some (.lst (rest.map V.str)) ∧ ts.length = i ∧ (ts ++ rest).Perm pool ∧ PenAt H2 P (n + i) ∧ Same (L2.del H0 P.p) (L2.del H2 P.p))
    (fun l hl => ?_) (fun l i H2 hl hi hv => ?_) (fun l H2 hl hv => ?_)
  · have nl := hp.ne hl
    have lq : l ≠ q := fun e => by rw [e, hq] at hl; cases hl
    refine ⟨lq, nl.1, nl.2, [], pool, upd_same, by rw [upd_ne (Ne.symm lq)]; exact hq, rfl, List.Perm.refl _, hp.upd nl, ?_⟩
    rw [del_upd_ne nl.1]
    exact Same.upd (Same.del s0) (del_none hl)
  · obtain ⟨lq, lp, lc, ts, rest, h1, h2, h3, h4, h5, h6⟩ := hv
    refine ⟨rfl, ?_⟩
    walk_at "go"
    refine ⟨.inl ⟨rfl, _, SqL.of h2⟩, ?_⟩
    have hlen : ts.length + rest.length = pool.length := by rw [← List.length_append]; exact h4.length_eq
    walk_at "go"
    refine x_lenL (SqL.of h2) ?_
    walk_at "go"
    rw [List.length_map]
    refine ⟨P, _, n + i, rfl, h5, by omega, by omega, by omega, fun H3 r r0 r1 hp3 s3 => ?_⟩
    have hq3 : H3 q = some (.lst (rest.map V.str)) := del_sub (s3 _ _ (by rw [del_ne nq.1]; exact h2))
    have hl3 : H3 l = some (.lst (ts.map V.str)) := del_sub (s3 _ _ (by rw [del_ne lp]; exact h1))
    have hr : r.toNat < rest.length := by omega
    have hix : seqIndex? r (rest.map V.str).length = some r.toNat := by
      refine (ixN_seq ?_).1
      unfold ixN
      rw [if_pos r0, List.length_map, if_pos r1]
    refine ⟨q, rest.map V.str, r, r.toNat, .str rest[r.toNat], rfl, rfl, hq3, by omega, by omega, hix, by rw [List.getElem?_map, List.getElem?_eq_getElem hr]; rfl, ?_⟩
    have em : (rest.map V.str).eraseIdx r.toNat = (rest.eraseIdx r.toNat).map V.str := erase_map ..
    rw [em]
    refine ⟨ts.map V.str, by rw [upd_ne lq]; exact hl3, by rw [List.length_map]; exact Nat.lt_of_le_of_lt (by omega : ts.length ≤ 1000) (by decide), lq, lp, lc, ts ++ [rest[r.toNat]], rest.eraseIdx r.toNat, ?_, ?_, ?_, ?_, ?_, ?_⟩
    · rw [upd_same, List.map_append]; rfl
    · rw [upd_ne (Ne.symm lq), upd_same]
    · rw [List.length_append, h3]; rfl
    · exact perm_pop h4 (List.getElem?_eq_getElem hr)
    · exact (hp3.upd nq).upd ⟨lp, lc⟩
    · rw [del_upd_ne lp, del_upd_ne nq.1]
      refine Same.mut (Same.mut (Same.trans h6 s3) ?_) ?_
      · exact del_none hq0
      · exact del_none (Same.free s0 hl)
  · obtain ⟨lq, lp, lc, ts, rest, h1, h2, h3, h4, h5, h6⟩ := hv
    have em : (m : Int).toNat = m := by omega
    rw [em] at h3 h5
    exact k H2 l ts rest (Same.free s0 hl) h1 h3 h4 h5 h6
end
end SJ

/-! SJV: what stays when a heap grows; more steps. -/
namespace SJ
open PySem PySem.Spec PyProof.Rows L2 He
section
variable {K : PySem.W.Frag} {H H2 : Hp}
theorem ty_same (s : Same H H2) {x : V} {t : Value} (h : TyX K H x t) : TyX K H2 x t := by
  cases h with
  | base b =>
    cases b with
    | non => exact .base .non
    | bl y => exact .base (.bl y)
    | int y => exact .base (.int y)
    | str y => exact .base (.str y)
    | flt y => exact .base (.flt y)
    | lst e => exact .base (.lst (s _ _ e))
    | frz e => exact .base (.frz (s _ _ e))
    | tup e => exact .base (.tup (s _ _ e))
    | dK e => exact .base (.dK (s _ _ e))
    | dT e => exact .base (.dT (s _ _ e))
    | ins e c1 c2 c3 c4 c5 => exact .base (.ins (s _ _ e) c1 c2 c3 c4 c5)
  | byt b => exact .byt b
  | set e => exact .set (s _ _ e)
  | kList e c => exact .kList e c
  | kTuple e c => exact .kTuple e c
  | kDict e c => exact .kDict e c
  | fTuple e => exact .fTuple (s _ _ e)
  | fDict e => exact .fDict (s _ _ e)
theorem sqt_same (s : Same H H2) {l : Addr} {xs : List V} (h : SqT K H l xs) : SqT K H2 l xs := by
  rcases h with (h | ⟨o, h⟩) | h
  · exact .inl (.inl (s _ _ h))
  · exact .inl (.inr ⟨o, s _ _ h⟩)
  · exact .inr h
mutual
theorem dp_same (s : Same H H2) : ∀ (d : PyData) (v : V), Dp K H v d → Dp K H2 v d
  | .none, _, h => by cases h; exact .non
  | .bool b, _, h => by cases h; exact .bl b
  | .int i, _, h => by cases h; exact .int i
  | .str x, _, h => by cases h; exact .str x
  | .list ds, _, h => by
    cases h with
    | lst q a => exact .lst (Same.seq s q) (dpa_same s ds _ a)
  | .tuple ds, _, h => by
    cases h with
    | tup q a => exact .tup (sqt_same s q) (dpa_same s ds _ a)
  | .dict _, _, h => by cases h
theorem dpa_same (s : Same H H2) : ∀ (ds : List PyData) (vs : List V), DpAll K H vs ds → DpAll K H2 vs ds
  | [], _, h => by cases h; exact .nil
  | d :: ds, _, h => by
    cases h with
    | cons a b => exact .cons (dp_same s d _ a) (dpa_same s ds _ b)
end
end
section
variable {K : PySem.W.Frag} {σ : L2.St} {H : Hp} {Q : VK} {ta tk : TA} {te : TE} {D : Ends}
theorem x_tryAs {c : Addr} {i : Nat} {tb : WX → TS} {ts : Addr → Value → Option Addr → TS} {Wo : WX} (k : tb (wAs K (.ref c) i ts Wo D) D σ H) : tTryAs K c i tb ts Wo D σ H := k
theorem x_tryOnly {c : Addr} {tb : WX → TS} {ts : Addr → Value → Option Addr → TS} {Wo : WX} (k : tb (wOnly K (.ref c) ts Wo D) D σ H) : tTryOnly K c tb ts Wo D σ H := k
theorem x_nwK {C : Addr} {n m : Nat} {sp : Sp} {gV : List V → List V → List V} {W : WX} (k : ta σ H fun vs H1 => tk σ H1 fun zs H2 => vs.length = n ∧ zs.length = m ∧ ∀ x dx, H2 x = none → H2 dx = none → dx ≠ x →
  sp (gV (.ref x :: vs) zs) (upd (upd H2 dx (.own x)) x (.ins C dx [])) (fun v H3 => v = .non ∧ Q (.ref x) H3) (WE W σ)) : tNwK C n m sp gV W ta tk σ H Q := k
theorem x_xf {a : Addr} {cls : Value} {d : Option Addr} {C : Addr} {f : Str} (k : te σ H fun x H1 => x = .ref a ∧ cls = .ref C ∧ ∃ (dd : Addr) (fs : List (Str × V)) (v : V), d = some dd ∧ H1 dd = some (.xd fs) ∧ fs.lookup f = some v ∧ Q v H1) : tXf a cls d C f te σ H Q := k
/-- new objects: what was there stays -/
theorem same_new {x dx C : Addr} {H2 : Hp} (hx : H x = none) (hd : H dx = none) (s : Same (L2.del (upd (upd H dx (.own x)) x (.ins C dx [])) x) (L2.del H2 x)) : Same H H2 := fun b o e => by
  have n1 := ne_of_none e hx
  have n2 := ne_of_none e hd
  exact del_sub (s b o (by rw [del_ne n1, upd_ne n1, upd_ne n2]; exact e))
theorem same_new2 {x dx C : Addr} {H2 : Hp} (hx : H x = none) (hd : H dx = none) (s : Same (upd (upd H dx (.own x)) x (.ins C dx [])) H2) : Same H H2 := fun b o e => by
  have n1 := ne_of_none e hx
  have n2 := ne_of_none e hd
  exact s b o (by rw [upd_ne n1, upd_ne n2]; exact e)
theorem new_le {x dx C : Addr} (hx : H x = none) (hd : H dx = none) : Same H (upd (upd H dx (.own x)) x (.ins C dx [])) := same_new2 hx hd (Same.refl _)
end
/-! ### data that may be compared -/
theorem ok_str {z : Str} (h : (z.cps.toList.all fun c => decide (c < 0x110000)) = true) : PyData.strOk z = true := by
  unfold PyData.strOk
  rw [← Array.all_toList]
  exact h
theorem lays_nil {n : Nat} : ∀ d ∈ ([] : List PyData), Lay n d := fun _ m => nomatch m
theorem lays_cons {n : Nat} {d : PyData} {ds : List PyData} (h : Lay n d) (t : ∀ e ∈ ds, Lay n e) : ∀ e ∈ d :: ds, Lay n e := fun e m => by
  rcases List.mem_cons.mp m with rfl | m
  · exact h
  · exact t e m
/-! ### new objects, the heap at once named anew -/
def gNewT (xs : List V) (H : Hp) (Q : VK) : Prop := xs.length ≤ sizeLine ∧ ∀ p, H p = none → Q (.ref p) (upd H p (.tup xs))
def gNewL (xs : List V) (H : Hp) (Q : VK) : Prop := xs.length ≤ sizeLine ∧ ∀ p, H p = none → Q (.ref p) (upd H p (.lst xs))
section
variable {K : PySem.W.Frag} {σ : L2.St} {H : Hp} {Q : VK} {tA : TA} {xs ys : List V} {p q : Addr}
theorem x_tupG (k : tA σ H fun xs H1 => gNewT xs H1 Q) : tTup tA σ H Q := k
theorem x_lstG (k : tA σ H fun xs H1 => gNewL xs H1 Q) : tLst tA σ H Q := k
theorem x_newT (h : xs.length ≤ 1000) (k : ∀ p H2, H p = none → Same H H2 → H2 p = some (.tup xs) → Q (.ref p) H2) : gNewT xs H Q := ⟨Nat.le_trans h (by decide), fun p hp => k p _ hp (Same.upd (Same.refl _) hp) upd_same⟩
theorem x_newL (h : xs.length ≤ 1000) (k : ∀ p H2, H p = none → Same H H2 → H2 p = some (.lst xs) → Q (.ref p) H2) : gNewL xs H Q := ⟨Nat.le_trans h (by decide), fun p hp => k p _ hp (Same.upd (Same.refl _) hp) upd_same⟩
theorem x_dnew (k : ∀ p H2, H p = none → Same H H2 → H2 p = some (.dK []) → Q (.ref p) H2) : tDNewK σ H Q := fun p hp => k p _ hp (Same.upd (Same.refl _) hp) upd_same
theorem x_catG (h1 : H p = some (.lst xs)) (h2 : H q = some (.lst ys)) (h : xs.length + ys.length ≤ 10000) (k : ∀ l H2, H l = none → Same H H2 → H2 l = some (.lst (xs ++ ys)) → Q (.ref l) H2) : rAdd K (.ref p) (.ref q) H Q :=
  x_addL h1 h2 h fun l hl => k l _ hl (Same.upd (Same.refl _) hl) upd_same
theorem x_repG {i : Int} (h1 : H p = some (.lst xs)) (h0 : 0 ≤ i ∧ i ≤ 1000) (h : xs.length ≤ 10) (k : ∀ l H2, H l = none → Same H H2 → H2 l = some (.lst (List.replicate i.toNat xs).flatten) → Q (.ref l) H2) : rMul K (.ref p) (.int i) H Q := by
  have hz : xs.length * i.toNat ≤ 10 * 1000 := Nat.mul_le_mul h (by omega)
  exact .inr (.inr (.inl ⟨p, i, xs, rfl, rfl, h1, by omega, by omega, Nat.le_trans hz (by decide), fun l hl => k l _ hl (Same.upd (Same.refl _) hl) upd_same⟩))
/-- a comprehension over a tuple just made -/
def gLcT (K : PySem.W.Frag) (tg : TG) (tt : TT) (tb : TE) (vs : List Nat) (σ : L2.St) (Q : VK) (x : V) (H1 : Hp) : Prop := ∃ a2, x = V.ref a2 ∧ (∃ ys, SqT K H1 a2 ys) ∧ ∀ l, H1 l = none → ∃ Wn : Nat → Nat → Hp → Prop, (∃ m, Wn 0 m (upd H1 l (.lst []))) ∧ ∀ i m H2, Wn i m H2 →
      ((Itt K a2).stop i H2 ∧ Q (.ref l) H2) ∨ ((Itt K a2).go i H2 ∧ ∃ Nx : Hp → Prop, (∀ H3, Nx H3 → ∃ m2, m2 < m ∧ Wn (i + 1) m2 H3) ∧ ∀ x H3, (Itt K a2).yld i H2 x H3 → tg x (wipe σ vs) H3 fun s2 H4 => wipe s2 vs = wipe σ vs ∧ tt s2 H4 fun b H5 =>
        if b = true then tb s2 H5 fun y H6 => ∃ acc, H6 l = some (.lst acc) ∧ acc.length < sizeLine ∧ Nx (upd H6 l (.lst (acc ++ [y]))) else Nx H5)
theorem x_lcT0 {te tb : TE} {tg : TG} {tt : TT} {vs : List Nat} (k : te σ H fun x H1 => gLcT K tg tt tb vs σ Q x H1) : tLc (iTup K te) tg tt tb vs σ H Q := k
theorem x_lcT1 {tb : TE} {xs : List V} {tg : TG} {tt : TT} {vs : List Nat} {a : Addr} (hx : SqT K H a xs) (Pv : Addr → Nat → Hp → Prop) (h0 : ∀ l, H l = none → Pv l 0 (upd H l (.lst []))) (hl : ∀ l i H2, i ≤ xs.length → Pv l i H2 → SqT K H2 a xs)
    (hs : ∀ l i x H2, H l = none → xs[i]? = some x → Pv l i H2 → tg x (wipe σ vs) H2 fun s3 H3 => wipe s3 vs = wipe σ vs ∧ tt s3 H3 fun b H4 => if b = true then tb s3 H4 fun y H5 => ∃ acc, H5 l = some (.lst acc) ∧ acc.length < sizeLine ∧ Pv l (i + 1) (upd H5 l (.lst (acc ++ [y]))) else Pv l (i + 1) H4)
    (hd : ∀ l H2, H l = none → Pv l xs.length H2 → Q (.ref l) H2) : gLcT K tg tt tb vs σ Q (.ref a) H := x_lcT (Q0 := Q) hx Pv h0 hl hs hd
theorem x_andB {b1 b2 : Bool} {P : Bool → Prop} (k : P (b1 && b2)) : ∃ c, V.bl b1 = .bl c ∧ if c = true then P b2 else P false := by
  refine ⟨b1, rfl, ?_⟩
  cases b1 <;> exact k
theorem ite_d {p : Prop} [Decidable p] {A B : Prop} (e : p) (h : A) : if (decide p) = true then A else B := by rw [decide_eq_true e]; exact ite_t h
theorem ne_some {a b : Addr} {o : HO} (h1 : H a = some o) (h2 : H b = none) : a ≠ b := fun e => by rw [e, h2] at h1; cases h1
theorem ne_obj {a b : Addr} {o u : HO} (h1 : H a = some o) (h2 : H b = some u) (n : o ≠ u) : a ≠ b := fun e => n (by rw [e, h2] at h1; exact (Option.some.inj h1).symm)
end
end SJ

/-! SJA: own exceptions as values: made (also by keywords), asked for fields and classes. -/
namespace SJ
open PySem PySem.Spec
/-! ### X(.., f=..): the class is called with keywords -/
section
open PySem.HandSPX
variable {prog : Program} {w : World} {A : Around} {E : Value → Shared → Prop} {R : Result → Shared → Prop} {h : Heap} {g : Array GenState} {d : Drawn} {t : Nat} {os : OsState}
variable {nm q : Str} {C N : Addr} {bs bm bmB : List Value} {hdct : Bool} {sn : List Str} {sub : List Value} {ab : Bool} {col : Option Bool} {dd : Option Addr} {k0 k1 k2 k3 k5 : Option Value} {B newId initId : String} {ws : List Value} {kw : List (Str × Value)}
theorem kw_checkNew {M : Model} {Q : Unit → Shared → Prop} (F : ExcBaseFacts B newId initId bmB) (hT : ∀ T : String, bm.contains (.type T) = bmB.contains (.type T)) (hC : h.get? C = some (excClassObj nm q C N bs bm hdct sn sub ab col dd k0 k1 k2 k3 k5 newId))
    (hq : Q () ⟨h, g, d, t, os⟩) : wpAny M A (checkBuiltinCall newId ⟨.ref C :: ws, kw⟩) Q E ⟨h, g, d, t, os⟩ := by
  have hc0 : (Value.ref C :: bm).contains (.type B) = true := by rw [List.contains_cons, hT, F.hasB, Bool.or_true]
  have hs0 := F.noStar
  simp only [checkBuiltinCall, F.newKind, F.newSplit, F.newRow]
  repeat (first | refine wpAny_loadPart_at hC ?_ | (refine wpAny_isSubtype_exc hC ?_; rw [hc0]) | refine wpAny_staticBase_exc hC ?_ | refine wpAny_madeBy_exc hC ?_ | simp only [bne_self_eq_false, Bool.false_eq_true, if_false] | wp_step)
  exact hq
theorem kw_new (F : ExcBaseFacts B newId initId bmB) (hT : ∀ T : String, bm.contains (.type T) = bmB.contains (.type T)) (hC : h.get? C = some (excClassObj nm q C N bs bm hdct sn sub ab col dd k0 k1 k2 k3 k5 newId))
    (hq : R (.ok (.ret (.ref (h.objs.size + 1)))) ⟨(h.push (PySem.W.kdv_tup ws)).push (excO C h.objs.size), g, d, t, os⟩) (hz : ws.length ≤ sizeLine) : codeAny (model prog w) A (.builtin newId ⟨.ref C :: ws, kw⟩) R ⟨h, g, d, t, os⟩ := by
  have e0 := F.ends
  have c1 : (Value.ref C :: bm).contains (.type B) = true := by rw [List.contains_cons, hT, F.hasB, Bool.or_true]
  have c2 : (Value.ref C :: bm).contains (.type "AttributeError") = false := by rw [List.contains_cons, hT, F.noAttr]; rfl
  have c3 : (Value.ref C :: bm).contains (.type "NameError") = false := by rw [List.contains_cons, hT, F.noName]; rfl
  refine codeAny_builtinAt F.entry ?_
  unfold Builtin.«BaseException.__new__»
  refine wpAt_bind ?_
  show wpAt _ _ _ (stack >>= _) _ _ _
  refine wpAt_bind (wpAt_stack fun p0 b0 => wpAt_of_wpAny ?_)
  wp_walk
  refine wpAt_of_wpAny ?_
  rw [F.owner]
  repeat (first | with_reducible refine wpAny_madeHere_exc F.canon hC ?_ | with_reducible refine wpAny_loadPart_at hC ?_ | (with_reducible refine wpAny_isSubtype_exc hC ?_; first | rw [c1] | rw [c2] | rw [c3]) | wp_step)
  show R _ _
  rw [Heap.size_push]
  exact hq
theorem kw_typeCall {fI : Addr} {Q : PySem.Fin → Shared → Prop} (F : ExcBaseFacts B newId initId bmB) (hT : ∀ T : String, bm.contains (.type T) = bmB.contains (.type T)) (hC : h.get? C = some (excClassObj nm q C N bs bm hdct sn sub ab col dd k0 k1 k2 k3 k5 newId))
    (li : W.Looks (model prog w) h (typeLookup (.ref C) "__init__") (some (.ref fI))) (lb : ∀ z, W.Looks (model prog w) h (bindSpecial (.ref fI) z) (.ref fI, [z])) (hz : ws.length ≤ sizeLine)
    (hq : codeAny (model prog w) A (.call (.ref fI) ⟨.ref (h.objs.size + 1) :: ws, kw⟩) (fun r s2 => match r with | .ok (.ret v) => v = .none ∧ Q (.done (.ret (.ref (h.objs.size + 1)))) s2 | .ok _ => False | .error e => E e s2)
      ⟨(h.push (PySem.W.kdv_tup ws)).push (excO C h.objs.size), g, d, t, os⟩) : wpAny (model prog w) A (Builtin.«type.__call__» ⟨.ref C :: ws, kw⟩) Q E ⟨h, g, d, t, os⟩ := by
  repeat (first | with_reducible refine wpAny_loadPart_at hC ?_ | with_reducible refine wpAny_madeBy_exc hC ?_ | wp_step)
  refine codeAny_call_builtin_code (Code.quiet_builtin _ F.quiet) (kw_checkNew F hT hC (kw_new F hT hC ?_ hz))
  show wpAny _ _ _ _ _ _
  have kk : ∀ b o, h.get? b = some o → ((h.push (PySem.W.kdv_tup ws)).push (excO C h.objs.size)).get? b = some o := fun b o z => Heap.get?_push_of_some _ (Heap.get?_push_of_some _ z)
  have hC2 := kk _ _ hC
  have hg2 : ((h.push (PySem.W.kdv_tup ws)).push (excO C h.objs.size)).get? (h.objs.size + 1) = some (excO C h.objs.size) := by heap_get
  have hs2 : (Value.ref C :: bm).contains (.ref C) = true := by simp
  have i2 := li.keeps kk
  have b2 := (lb (.ref (h.objs.size + 1))).keeps kk
  unfold isInstance
  repeat (first | with_reducible refine wpAny_loadPart_at hg2 ?_ | (with_reducible refine wpAny_isSubtype_exc hC2 ?_; rw [hs2]) | wp_step)
  show wpAny _ _ (typeLookup (.ref C) _) _ _ _
  refine i2.at (wpAny_holding (wpAny_bind (b2.at ?_)))
  refine wpAny_bind (wpAny_call (codeAny_mono hq fun r s2 z => ?_))
  rcases r with e | (v | _ | _ | _) <;> first | exact z | exact z.elim | skip
  obtain ⟨rfl, z⟩ := z
  first
    | exact wpAny_pure (wpAny_pure z)
    | (wp_walk; exact z)
theorem kw_check {M : Model} {Q : Unit → Shared → Prop} (hC : h.get? C = some (excClassObj nm q C N bs bm hdct sn sub ab col dd k0 k1 k2 k3 k5 newId)) (hq : Q () ⟨h, g, d, t, os⟩) : wpAny M A (checkBuiltinCall "type.__call__" ⟨.ref C :: ws, kw⟩) Q E ⟨h, g, d, t, os⟩ := by
  have f0 := tc_sub
  have t0 : (⟨h, g, d, t, os⟩ : Shared).TypeIs (.ref C) "type" := ⟨_, hC, rfl⟩
  simp only [checkBuiltinCall, tc_kind, tc_split]
  repeat (any_goals (first | assumption | with_reducible refine wpAny_loadPart_at hC ?_ | with_reducible refine wpAny_onRaise ?_ | with_reducible refine wpAny_map ?_ | wp_step))
theorem kw_call {fI : Addr} (F : ExcBaseFacts B newId initId bmB) (hT : ∀ T : String, bm.contains (.type T) = bmB.contains (.type T)) (hC : h.get? C = some (excClassObj nm q C N bs bm hdct sn sub ab col dd k0 k1 k2 k3 k5 newId))
    (li : W.Looks (model prog w) h (typeLookup (.ref C) "__init__") (some (.ref fI))) (lb : ∀ z, W.Looks (model prog w) h (bindSpecial (.ref fI) z) (.ref fI, [z])) (hz : ws.length ≤ sizeLine)
    (hq : codeAny (model prog w) (A.under (.builtin "type.__call__" ⟨.ref C :: ws, kw⟩)) (.call (.ref fI) ⟨.ref (h.objs.size + 1) :: ws, kw⟩) (W.InitBack (h.objs.size + 1) R) ⟨(h.push (PySem.W.kdv_tup ws)).push (excO C h.objs.size), g, d, t, os⟩) :
    codeAny (model prog w) A (.call (.ref C) ⟨ws, kw⟩) R ⟨h, g, d, t, os⟩ := by
  have f0 := tc_lookup
  have f2 := tc_bind (.ref C)
  have t0 : (⟨h, g, d, t, os⟩ : Shared).TypeIs (.ref C) "type" := ⟨_, hC, rfl⟩
  refine codeAny_of_tree ?_
  show wpAny _ _ (callAny (.ref C) _) _ _ _
  repeat (any_goals (first | assumption | with_reducible refine wpAny_loadPart_at hC ?_ | wp_step))
  refine ⟨rfl, ?_⟩
  refine codeAny_call_builtin_at (Code.quiet_builtin _ (by decide +kernel)) entry_typeCall (kw_check hC (kw_typeCall F hT hC li lb hz ?_))
  refine codeAny_mono hq fun r s2 z => ?_
  rcases r with e | (v | _ | _ | _) <;> exact z
end
end SJ
namespace SJ
open PySem PySem.Spec PyProof.Rows L2 He
/-! ### the values -/
/-- an exception object of the class at C with the dict d (made here, or caught) -/
def XV (a C : Addr) (d : Option Addr) : HO := .ext fun h => ∃ (oe : Obj) (vs : Array Value), h.get? a = some oe ∧ oe.cls = .ref C ∧ oe.dict = d ∧ oe.data = .fields vs
theorem xv_ok {P : Program} {w : World} {H : Hp} {h : Heap} {a C : Addr} {d : Option Addr} {oe : Obj} {vs : Array Value} (e : h.get? a = some oe) (c : oe.cls = .ref C) (hd : oe.dict = d) (hv : oe.data = .fields vs) : ObjOk P w H h a (XV a C d) :=
  ⟨⟨oe, vs, e, c, hd, hv⟩, ⟨oe, e⟩, fun _ _ ⟨o, v, q, r⟩ k => ⟨o, v, k o q, r⟩⟩
def XAt (H : Hp) (a C : Addr) (d : Option Addr) : Prop := H a = some (exo a C d) ∨ H a = some (XV a C d)
def DAt (H : Hp) (d : Addr) (fs : List (Str × V)) : Prop := H d = some (exd d fs) ∨ H d = some (.xd fs)
section
variable {X : Cx} {pins : List (Addr × Obj)} {σ : L2.St} {H : Hp} {s : Shared} {a C d : Addr} {o : Option Addr} {fs : List (Str × V)}
theorem xat_get (I : Inv X pins σ H s) (h : XAt H a C o) : ∃ (oe : Obj) (vs : Array Value), s.heap.get? a = some oe ∧ oe.cls = .ref C ∧ oe.dict = o ∧ oe.data = .fields vs := by
  rcases h with h | h
  · obtain ⟨⟨t1, q⟩, _⟩ := I.hok a _ h
    exact ⟨_, _, q, rfl, rfl, rfl⟩
  · obtain ⟨⟨oe, vs, q⟩, _⟩ := I.hok a _ h
    exact ⟨oe, vs, q⟩
theorem dat_get (I : Inv X pins σ H s) (h : DAt H d fs) : ∃ mA, s.heap.Ns1 d mA ∧ ∀ f, RelO (fs.lookup f) (mA f) := by
  rcases h with h | h
  · obtain ⟨q, _⟩ := I.hok d _ h
    exact q
  · exact I.hok d _ h
end
/-! ### making -/
/-- X(..) as a value -/
def tXn (C : Addr) (fs : List Str) (ta : TA) : TE := fun σ H Q => ta σ H fun vs H1 => vs.length = fs.length ∧ ∀ a d H2, H1 a = none → H1 d = none → d ≠ a → H2 a = some (exo a C (some d)) → H2 d = some (exd d (fs.zip vs).reverse) → (∀ b, b ≠ a → b ≠ d → H2 b = H1 b) → Q (.ref a) H2
/-- .. by keywords: gV lays the values in the fields' order -/
def tXnK (C : Addr) (m : Nat) (fs : List Str) (gV : List V → List V → List V) (tk : TA) : TE := fun σ H Q => tk σ H fun zs H1 => zs.length = m ∧ ∀ a d H2, H1 a = none → H1 d = none → d ≠ a →
  ∃ ws : List V, gV [.ref a] zs = .ref a :: ws ∧ ws.length = fs.length ∧ (H2 a = some (exo a C (some d)) → H2 d = some (exd d (fs.zip ws).reverse) → (∀ b, b ≠ a → b ≠ d → H2 b = H1 b) → Q (.ref a) H2)
section
variable {X : Cx} {e : Expr} {es : List Expr} {ta tk : TA} {p pos : Pos} {x : Str} {C fI : Addr} {k : Nat} {fd : FuncData} {ps fs ks : List Str} {B newId initId : String} {bmB : List Value} {kws : List Keyword} {g : List Value → List Value → List Value} {gV : List V → List V → List V} {mm : Nat}
theorem run_x {pins : List (Addr × Obj)} {σ : L2.St} {H : Hp} {s : Shared} {Q : VK} {us : List Value} {kw : List (Str × Value)} {bs : Value → List Value} {bv : V → List V} {ws : List V} (T : ExB B newId initId bmB) (G : ExG X.K C newId bmB) (iC : PySem.W.findIn X.K (.ref C) "__init__" = some (some (.ref fI)))
    (tI : PySem.W.typeIn X.K (.ref fI) = some (.type "function")) (F : Fk X.prog X.w X.K X.mg X.base k fI fd ps (spX C fs)) (hr : Rm (k + 1) X.A) (I : Inv X pins σ H s) (hu : us.length ≤ 1000)
    (hb : ∀ (a : Addr) (s2 : Shared), X.K.In s2.heap → BindsTo s2 fd ⟨.ref a :: us, kw⟩ (ps.zip (bs (.ref a)))) (rv : ∀ a : Addr, Vals (bv (.ref a)) (bs (.ref a))) (hw : bv (.ref (s.heap.objs.size + 1)) = .ref (s.heap.objs.size + 1) :: ws) (hl : ws.length = fs.length)
    (h : ∀ a d H2, H a = none → H d = none → d ≠ a → a = s.heap.objs.size + 1 → H2 a = some (exo a C (some d)) → H2 d = some (exd d (fs.zip ws).reverse) → (∀ b, b ≠ a → b ≠ d → H2 b = H b) → Q (.ref a) H2) :
    wpAny (model X.prog X.w) X.A (call (.ref C) us kw) (EP X pins σ Q) X.xe s := by
  obtain ⟨n1, n2, n3, n4, n5, n6, n7, n8, n9, n10, n11, k0, k1, k2, k3, k5, hC, hT⟩ := PySem.W.excInit_of I.kIn G.q
  obtain ⟨hp, gg, dr, tt, os⟩ := s
  have hn : H (hp.objs.size + 1) = none := I.hok.fresh (Nat.le_succ _)
  have kk : ∀ b o, hp.get? b = some o → ((hp.push (PySem.W.kdv_tup us)).push (PySem.HandSPX.excO C hp.objs.size)).get? b = some o := fun b o z => Heap.get?_push_of_some _ (Heap.get?_push_of_some _ z)
  have hget : ((hp.push (PySem.W.kdv_tup us)).push (PySem.HandSPX.excO C hp.objs.size)).get? (hp.objs.size + 1) = some (PySem.HandSPX.excO C hp.objs.size) := by heap_get
  have J := I.laid (t' := tt) (a := hp.objs.size + 1) (o := exo (hp.objs.size + 1) C none) kk (Nat.le_succ _) (exo_ok hget)
  have hsp : spX C fs (bv (.ref (hp.objs.size + 1))) (upd H (hp.objs.size + 1) (exo (hp.objs.size + 1) C none)) (fun v H2 => v = .non ∧ Q (.ref (hp.objs.size + 1)) H2) (fun _ _ _ => False) := by
    refine ⟨_, ws, hw, hl, upd_same, fun d H2 nd ne e1 e2 e3 => ⟨rfl, ?_⟩⟩
    rw [upd_ne ne] at nd
    exact h _ d H2 hn nd ne rfl e1 e2 fun b b1 b2 => by rw [e3 b b1 b2, upd_ne b1]
  refine wpAny_call (kw_call T.fb hT hC (PySem.W.looks_findIn I.kIn iC) (fun z => PySem.W.bind_fn I.kIn z tI) (Nat.le_trans hu (by decide))
    (codeAny_mono (F.run _ X.stack _ _ ⟨Value.ref (hp.objs.size + 1) :: us, kw⟩ _ _ _ _ (hr.make C us kw) (J.env0.make C us kw) (hb _ _ J.kIn) (rv _) hsp) fun rr s2 hq2 => ?_))
  cases rr with
  | error er => obtain ⟨_, _, _, _, _, _, _, _, _, _, _, _, z⟩ := hq2; exact z.elim
  | ok fl =>
    cases fl with
    | ret u =>
      obtain ⟨v, H3, I3, r3, ev, q3⟩ := J.after hq2
      subst ev
      exact ⟨r3, ⟨V.ref (hp.objs.size + 1), H3, I3, rfl, q3⟩⟩
    | next => exact hq2.elim
    | brk => exact hq2.elim
    | cont => exact hq2.elim
theorem pe_x (T : ExB B newId initId bmB) (G : ExG X.K C newId bmB) (iC : PySem.W.findIn X.K (.ref C) "__init__" = some (some (.ref fI))) (tI : PySem.W.typeIn X.K (.ref fI) = some (.type "function"))
    (F : Fk X.prog X.w X.K X.mg X.base k fI fd ps (spX C fs)) (hr : Rm (k + 1) X.A) (hb : Binds X.K fd ps []) (hfs : fs.length ≤ 100) (hps : ps.length = fs.length + 1) (hg : Gl X x) (hm : X.mg x = some (.ref C)) (ha : PA X (e :: es) ta)
    (hdb : (x == ("__debug__" : Str)) = false := by decide) (he : starEach (e :: es) X.env = (false, eval e X.env) :: starEach es X.env := by rfl) (hpl : (backTo pos (starEach es X.env)).any (·.1) = false := by rfl) :
    PE X (.Call (.Name x p) (e :: es) [] pos) (tXn C fs ta) := by
  refine ⟨fun pins s σ H Q I h => wpAny_Call_Name_kw (ld_glob I hg hm ?_ hdb)⟩
  refine PySem.W.callWith_K (h₀ := X.base) I.ok.mod.kin G.kC (thn (ha.run pos pins s σ H _ I h) fun us s1 ⟨vs, H1, I1, r1, hz, q1⟩ => ⟨I1.kIn, ?_⟩) he hpl
  have hl : us.length = fs.length := by rw [← r1.length]; exact hz
  show wpAny _ _ (call (.ref C) us) _ _ _
  refine run_x (kw := []) (bs := fun z => z :: us) (bv := fun z => z :: vs) (ws := vs) T G iC tI F hr I1 (by omega) (fun a s2 kin => ?_) (fun a => .cons rfl r1) rfl hz (fun a d H2 na nd ne _ => q1 a d H2 na nd ne)
  have b := hb s2 (.ref a :: us) kin (by rw [List.append_nil, List.length_cons, hl, hps])
  rw [List.append_nil] at b
  exact b
theorem pe_xK (T : ExB B newId initId bmB) (G : ExG X.K C newId bmB) (iC : PySem.W.findIn X.K (.ref C) "__init__" = some (some (.ref fI))) (tI : PySem.W.typeIn X.K (.ref fI) = some (.type "function"))
    (F : Fk X.prog X.w X.K X.mg X.base k fI fd ps (spX C fs)) (hr : Rm (k + 1) X.A) (hb : KBn X.K fd ps 1 ks g gV) (hg : Gl X x) (hm : X.mg x = some (.ref C)) (hkw : PK X kws tk)
    (hall : (backToKw pos (keywordEach kws X.env)).all (·.1.isSome) = true := by rfl) (hks : (backToKw pos (keywordEach kws X.env)).filterMap (·.1) = ks := by rfl) (hmm : ks.length = mm := by rfl) (hdb : (x == ("__debug__" : Str)) = false := by decide)
    (hpl : ((backTo pos (starEach [] X.env)).any (·.1) || (backToKw pos (keywordEach kws X.env)).any (·.1.isNone)) = false := by rfl) :
    PE X (.Call (.Name x p) [] kws pos) (tXnK C mm fs gV tk) := by
  refine ⟨fun pins s σ H Q I h => wpAny_Call_Name_kw (ld_glob I hg hm ?_ hdb)⟩
  refine PySem.W.callWith_KW0 (h₀ := X.base) I.ok.mod.kin G.kC hall ?_ hpl
  refine thn (hkw.run pos pins s σ H _ I h) fun vs s2 ⟨zs, H2, I2, rz, l2, q2⟩ => ⟨I2.kIn, ?_⟩
  rw [hks]
  subst hmm
  have hn : H2 (s2.heap.objs.size + 1) = none := I2.hok.fresh (Nat.le_succ _)
  have hd : H2 s2.heap.objs.size = none := I2.hok.fresh (Nat.le_refl _)
  obtain ⟨ws, e1, e2, _⟩ := q2 (s2.heap.objs.size + 1) s2.heap.objs.size H2 hn hd (Nat.ne_of_lt (Nat.lt_succ_self _))
  refine run_x (us := []) (kw := ks.zip vs) (bs := fun z => g [z] vs) (bv := fun z => gV [z] zs) (ws := ws) T G iC tI F hr I2 (Nat.zero_le _) (fun a s3 kin => hb.to s3 [.ref a] vs kin rfl (rz.length.symm.trans l2)) (fun a => hb.rel (.cons rfl .nil) rz) e1 e2 (fun a d H3 na nd ne ea => ?_)
  subst ea
  obtain ⟨ws2, f1, f2, f3⟩ := q2 _ d H3 na nd ne
  rw [e1] at f1
  cases f1
  exact f3
/-- X(), X without an __init__ of its own or of its own bases -/
def tXn0 (C : Addr) : TE := fun _ H Q => ∀ a H2, H a = none → H2 a = some (XV a C none) → (∀ b, b ≠ a → H2 b = H b) → Q (.ref a) H2
theorem pe_x0 (F : ExcBaseFacts B newId initId bmB) (q : PySem.W.excIn X.K C bmB newId = true) (kC : PySem.W.keepIn X.K (.ref C) = true) (hg : Gl X x) (hm : X.mg x = some (.ref C)) (hdb : (x == ("__debug__" : Str)) = false := by decide) : PE X (.Call (.Name x p) [] [] pos) (tXn0 C) := by
  refine ⟨fun pins s σ H Q I h => wpAny_Call_Name_kw (ld_glob I hg hm ?_ hdb)⟩
  refine PySem.W.callWith_K0 I.kIn kC ?_
  show wpAny _ _ (call (.ref C) []) _ _ _
  obtain ⟨bm, N, nm, qn, bs, hdct, sn, sub, ab, col, dd, k0, k1, k2, k3, k5, mN, hC, hN, hni, T⟩ := exc_obj I.kIn q
  refine wpAny_call_exc_subT F T hC hN hni (fun h2 a mk => ?_) (Nat.zero_le _)
  have hn : H a = none := I.hok.gone mk.new
  obtain ⟨t, ht, _, _⟩ := mk.there
  exact ⟨.ref a, upd H a (XV a C none), I.laidN mk.keeps mk.new hn (xv_ok ht rfl rfl rfl), rfl, h a _ hn upd_same fun b nb => upd_ne nb⟩
/-! ### asking -/
/-- e.f -/
def tXv (K : PySem.W.Frag) (f : Str) (te : TE) : TE := fun σ H Q => te σ H fun z H1 => ∃ (a C d : Addr) (fs : List (Str × V)) (v : V), z = .ref a ∧ XfC K C ∧ PySem.W.findIn K (.ref C) f = some none ∧ XAt H1 a C (some d) ∧ DAt H1 d fs ∧ fs.lookup f = some v ∧ Q v H1
theorem pe_xv {te : TE} {n : Str} (he : PE X e te) (hbs : attributeBase e n X.env (eval e X.env) = eval e X.env := by rfl) : PE X (.Attribute e n pos) (tXv X.K n te) := by
  refine ⟨fun pins s σ H Q I h => attr_of hbs (thn (he.run pins s σ H _ I h) fun u s1 hh => ?_)⟩
  obtain ⟨z, H1, I1, rz, a, C, d, fs, v, rfl, T, hno, ha, hd, l, q⟩ := hh
  obtain rfl : u = Value.ref a := rz
  obtain ⟨oe, vs, g1, g2, g3, g4⟩ := xat_get I1 ha
  obtain ⟨mA, hns, rel⟩ := dat_get I1 hd
  obtain ⟨od, ho, hlk⟩ := lookIn_ns hns
  obtain ⟨u, hu, ru⟩ := RelO.some_of (v := v) (o := mA n) (by rw [← l]; exact rel n)
  have J : PySem.W.InstAt s1.heap a oe C (some od) := ⟨g1, g2, by unfold PySem.W.notCls; rw [g4] <;> rfl, by rw [g3]; exact ho⟩
  exact HandSPX.exc_get I1.kIn J T.ga T.gg T.exC (PySem.W.findObj_own T.hdC hno rfl (by rw [hlk, hu])) (handed_of ru) ⟨v, H1, I1.tok _, ru, q⟩
/-- isinstance(e, c) -/
def rIsiX (K : PySem.W.Frag) : List V → Hp → VK → Prop := fun xs H Q => ∃ (a C : Addr) (c : V) (d : Option Addr) (u : Value) (b : Bool), xs = [.ref a, c] ∧ ClsV c u ∧ L2.ExcC K C ∧ XAt H a C d ∧ (∀ dd, d = some dd → ∃ fs, DAt H dd fs) ∧ PySem.W.kitOne K (.ref C) u = some b ∧ Q (.bl b) H
theorem c_isiX : CallR X (.builtin "isinstance") (rIsiX X.K) := by
  intro pins s σ H xs us Q I r h
  obtain ⟨a, C, c, d, u, b, rfl, hc, T, ha, hd, e, q⟩ := h
  obtain ⟨u1, u2, rfl, r1, r2⟩ := vals2 r
  obtain rfl : u1 = Value.ref a := r1
  obtain rfl := hc.eq r2
  obtain ⟨oe, vs, g1, g2, g3, g4⟩ := xat_get I ha
  have nc : PySem.W.notCls oe = true := by unfold PySem.W.notCls; rw [g4] <;> rfl
  have hcl : (PySem.W.clsIn X.K C).isSome = true := by
    obtain ⟨cd, z, _⟩ := PySem.W.any_some T.hd
    rw [z]
    rfl
  have J : ∃ od, PySem.W.InstAt s.heap a oe C od := by
    cases d with
    | none => exact ⟨none, g1, g2, nc, by rw [g3]; exact trivial⟩
    | some dd =>
      obtain ⟨fs, hdd⟩ := hd dd rfl
      obtain ⟨mA, hns, rel⟩ := dat_get I hdd
      obtain ⟨od, ho, _⟩ := lookIn_ns hns
      exact ⟨some od, g1, g2, nc, by rw [g3]; exact ho⟩
  obtain ⟨od, J⟩ := J
  exact PySem.W.kia_one (PySem.W.kitx_exc hcl T.hg T.hk T.hs T.ha T.hn T.ht T.hm) I.kIn J e (fun z => nomatch z) fun tk => ⟨.bl b, H, I.kept (t' := tk) fun _ _ z => z, rfl, q⟩
def rIsiU (K : PySem.W.Frag) : List V → Hp → VK → Prop := fun xs H Q => rIsi K xs H Q ∨ rIsiX K xs H Q
theorem c_isiU : CallR X (.builtin "isinstance") (rIsiU X.K) := by
  intro pins s σ H xs us Q I r h
  rcases h with h | h
  · exact call_isi pins s σ H xs us Q I r h
  · exact c_isiX pins s σ H xs us Q I r h
end
end SJ

/-! SJB: repr of data with empty dicts in it; enumerate; tests of exception classes; steps. -/
namespace SJ
open PySem PySem.Spec PyProof.Rows L2 He
mutual
/-- what a tracked value reads as, empty dicts among it -/
inductive Dq (K : PySem.W.Frag) (H : Hp) : V → PyData → Prop
  | non : Dq K H .non .none
  | bl (b : Bool) : Dq K H (.bl b) (.bool b)
  | int (i : Int) : Dq K H (.int i) (.int i)
  | str (x : Str) : Dq K H (.str x) (.str x)
  | lst {a : Addr} {xs : List V} {ds : List PyData} : H a = some (.lst xs) → DqAll K H xs ds → Dq K H (.ref a) (.list ds)
  | tup {a : Addr} {xs : List V} {ds : List PyData} : SqT K H a xs → DqAll K H xs ds → Dq K H (.ref a) (.tuple ds)
  | dic {a : Addr} : H a = some (.dK []) → Dq K H (.ref a) (.dict [])
inductive DqAll (K : PySem.W.Frag) (H : Hp) : List V → List PyData → Prop
  | nil : DqAll K H [] []
  | cons {v : V} {vs : List V} {d : PyData} {ds : List PyData} : Dq K H v d → DqAll K H vs ds → DqAll K H (v :: vs) (d :: ds)
end
section
variable {X : Cx} {pins : List (Addr × Obj)} {σ : L2.St} {H : Hp} {s : Shared}
theorem not_sys (hk : (X.K.lookup sysModules).isSome = true) (I : Inv X pins σ H s) {a : Addr} {o : HO} (h : H a = some o) : sysModules ≠ a := fun e => by
  obtain ⟨o2, z2⟩ := Option.isSome_iff_exists.mp hk
  have z := (I.bs _ _ (I.ok.mod.kin _ _ z2)).2
  rw [e, h] at z
  cases z
mutual
theorem Dq.reads (hk : (X.K.lookup sysModules).isSome = true) (I : Inv X pins σ H s) : ∀ (d : PyData) (v : V) (u : Value), Dq X.K H v d → RelV v u → ∃ as, Reads s.heap u d as ∧ sysModules ∉ as
  | .none, _, _, h, r => by
    cases h; cases r
    exact ⟨_, .none, List.not_mem_nil⟩
  | .bool b, _, _, h, r => by
    cases h; cases r
    exact ⟨_, .bool b, List.not_mem_nil⟩
  | .int i, _, _, h, r => by
    cases h; obtain ⟨t, rfl⟩ := r
    exact ⟨_, .int i t, List.not_mem_nil⟩
  | .str z, _, _, h, r => by
    cases h; obtain ⟨t, rfl⟩ := r
    exact ⟨_, .str z t, List.not_mem_nil⟩
  | .list ds, _, _, h, r => by
    cases h with
    | lst e q =>
      cases r
      obtain ⟨its, rv, ⟨o, n, ho, hc, _, hd⟩, _⟩ := I.list (SqL.of e)
      obtain ⟨as, hr, na⟩ := DqAll.reads hk I ds _ its q rv
      refine ⟨_, .list ho hc hd hr, fun m => ?_⟩
      rcases List.mem_cons.mp m with m | m
      · exact not_sys hk I e m
      · exact na m
  | .tuple ds, _, _, h, r => by
    cases h with
    | tup e q =>
      cases r
      obtain ⟨its, rv, ⟨o, ho, hc, n, hd⟩, _⟩ := I.tuple e
      obtain ⟨as, hr, na⟩ := DqAll.reads hk I ds _ its q rv
      exact ⟨_, .tuple ho hc hd hr, na⟩
  | .dict [], _, _, h, r => by
    cases h with
    | dic e =>
      cases r
      obtain ⟨_, ns, vs, kv, o, es, ep, ho, hx, hd, _, hes, _⟩ := dk_of I.hok e
      cases kv
      have e0 : es.toList = [] := by generalize es.toList = l at hes; cases hes; rfl
      have e1 : es.toList.map (·.key) = [] := by rw [e0]; rfl
      have e2 : es.toList.map (·.val) = [] := by rw [e0]; rfl
      have rd : Reads s.heap (.ref _) (.dict []) (_ :: [] ++ []) := .dict ho hx.1 hd (by rw [e1]; exact .nil) (by rw [e2]; exact .nil)
      refine ⟨_, rd, fun m => ?_⟩
      rcases List.mem_cons.mp m with m | m
      · exact not_sys hk I e m
      · cases m
  | .dict (_ :: _), _, _, h, _ => by cases h
theorem DqAll.reads (hk : (X.K.lookup sysModules).isSome = true) (I : Inv X pins σ H s) : ∀ (ds : List PyData) (vs : List V) (us : List Value), DqAll X.K H vs ds → Vals vs us → ∃ as, ReadsAll s.heap us ds as ∧ sysModules ∉ as
  | [], _, _, h, r => by
    cases h; cases r
    exact ⟨_, .nil, List.not_mem_nil⟩
  | d :: ds, _, _, h, r => by
    cases h with
    | cons h1 h2 =>
      cases r with
      | cons r1 r2 =>
        obtain ⟨as, q1, n1⟩ := Dq.reads hk I d _ _ h1 r1
        obtain ⟨bs, q2, n2⟩ := DqAll.reads hk I ds _ _ h2 r2
        refine ⟨_, .cons q1 q2, fun m => ?_⟩
        rcases List.mem_append.mp m with m | m
        · exact n1 m
        · exact n2 m
end
end
def rReprQ (K : PySem.W.Frag) : List V → Hp → VK → Prop := fun xs H Q => ∃ (x : V) (d : PyData), xs = [x] ∧ Dq K H x d ∧ d.showable = true ∧ d.depth ≤ 100 ∧ d.shown.length ≤ sizeLine ∧ Q (.str d.shown) H
section
variable {X : Cx} {k : Nat}
theorem c_reprQ (hk : (X.K.lookup sysModules).isSome = true) (hr : Rm k X.A) : CallR X (.builtin "repr") (rReprQ X.K) := by
  intro pins s σ H xs us Q I r h
  obtain ⟨x, d, rfl, hd, sh, dp, sz, q⟩ := h
  obtain ⟨u1, rfl, r1⟩ := vals1 r
  obtain ⟨as, rd, ns⟩ := Dq.reads hk I d x u1 hd r1
  have hu : X.A.units + (d.depth + 1) < cLine := by have := hr.r.un; omega
  have fin : ∀ (h2 : Heap) (u : Tok) (tk : Nat), (∀ b o, s.heap.get? b = some o → h2.get? b = some o) → EP X pins σ Q (.str d.shown u) { s with heap := h2, toks := tk } := fun h2 u tk kp => ⟨.str d.shown, H, I.kept kp, ⟨u, rfl⟩, q⟩
  cases hd with
  | non => obtain rfl : u1 = Value.none := r1; exact P.repr_of_none (fin _ _ _ fun _ _ z => z)
  | bl b => obtain rfl : u1 = Value.bool b := r1; exact P.repr_of_bool (fin _ _ _ fun _ _ z => z)
  | int i => obtain ⟨t, rfl⟩ := r1; exact P.repr_of_int (of_decide_eq_true sh) (fin _ _ _ fun _ _ z => z)
  | str z => obtain ⟨t, rfl⟩ := r1; exact P.repr_of_str (fin _ _ _ fun _ _ z => z) (by simpa only [PyData.shown] using sz)
  | lst e ha => obtain rfl := (show u1 = Value.ref _ from r1); exact repr_of_reads' rd sh (fun _ => ns) hr.g hu (fun _ _ z => z) fin sz
  | tup e ha => obtain rfl := (show u1 = Value.ref _ from r1); exact repr_of_reads' rd sh (fun _ => ns) hr.g hu (fun _ _ z => z) fin sz
  | dic e => obtain rfl := (show u1 = Value.ref _ from r1); exact repr_of_reads' rd sh (fun _ => ns) hr.g hu (fun _ _ z => z) fin sz
end
end SJ
namespace SJ
open PySem PySem.Spec PyProof.Rows L2 He
def rReprI : List V → Hp → VK → Prop := fun xs H Q => ∃ i : Int, xs = [.int i] ∧ i.natAbs.log2 < 1920 ∧ Q (.str (toString i)) H
theorem c_reprI {X : Cx} : CallR X (.builtin "repr") rReprI := by
  intro pins s σ H xs us Q I r h
  obtain ⟨i, rfl, sh, q⟩ := h
  obtain ⟨u1, rfl, t, rfl⟩ := vals1 r
  exact P.repr_of_int sh ⟨.str (toString i), H, I.tok _, ⟨_, rfl⟩, q⟩
def rReprU (K : PySem.W.Frag) : List V → Hp → VK → Prop := fun xs H Q => rRepr K xs H Q ∨ (rReprQ K xs H Q ∨ rReprI xs H Q)
theorem c_reprU {X : Cx} {k : Nat} (hk : (X.K.lookup sysModules).isSome = true) (hr : Rm k X.A) : CallR X (.builtin "repr") (rReprU X.K) := by
  intro pins s σ H xs us Q I r h
  rcases h with h | h | h
  · exact c_repr hr pins s σ H xs us Q I r h
  · exact c_reprQ hk hr pins s σ H xs us Q I r h
  · exact c_reprI pins s σ H xs us Q I r h
/-! ### tests -/
def sysT : Tst := fun K => (K.lookup sysModules).isSome
def xcT (x : Str) : Tst := fun K => xfB K (ga K x) && (eqO (PySem.W.findIn K (.ref (ga K x)) "__class__") (some (some (.builtin "object.__class__"))) && (eqO (PySem.W.specialIn K (.builtin "object.__class__") "__get__") (some (some (.builtin "getset_descriptor.__get__"))) &&
  (decide (PySem.W.takesIn K (.builtin "object.__class__") = some true) && decide (PySem.W.mroIn K (ga K x) (.type "object") = some true))))
theorem xcT_ok {K : PySem.W.Frag} {x : Str} (c : xcT x K = true) : L2.ExcC K (ga K x) := by
  obtain ⟨c1, c⟩ := ba c
  obtain ⟨c2, c⟩ := ba c
  obtain ⟨c3, c⟩ := ba c
  obtain ⟨c4, c5⟩ := ba c
  have T := xfB_ok c1
  exact ⟨T.ga, T.gg, T.exC, T.hdC, eqO_ok c2, eqO_ok c3, of_decide_eq_true c4, of_decide_eq_true c5⟩
/-- an exception class without an __init__ -/
structure ExN (K : PySem.W.Frag) (C : Addr) (newId : String) (bmB : List Value) : Prop where
  q : PySem.W.excIn K C bmB newId = true
  kC : PySem.W.keepIn K (.ref C) = true
def xnT (x : Str) (newId : String) (bmB : List Value) : Tst := fun K => PySem.W.excIn K (ga K x) bmB newId && PySem.W.keepIn K (.ref (ga K x))
theorem xnT_ok {K : PySem.W.Frag} {x : Str} {newId : String} {bmB : List Value} (c : xnT x newId bmB K = true) : ExN K (ga K x) newId bmB := by
  obtain ⟨c1, c2⟩ := ba c
  exact ⟨c1, c2⟩
/-! ### steps -/
def gXn (C : Addr) (fs : List Str) (vs : List V) (H1 : Hp) (Q : VK) : Prop := vs.length = fs.length ∧ ∀ a d H2, H1 a = none → H1 d = none → d ≠ a → H2 a = some (exo a C (some d)) → H2 d = some (exd d (fs.zip vs).reverse) → (∀ b, b ≠ a → b ≠ d → H2 b = H1 b) → Q (.ref a) H2
def gXnK (C : Addr) (m : Nat) (fs : List Str) (gV : List V → List V → List V) (zs : List V) (H1 : Hp) (Q : VK) : Prop := zs.length = m ∧ ∀ a d H2, H1 a = none → H1 d = none → d ≠ a →
  ∃ ws : List V, gV [.ref a] zs = .ref a :: ws ∧ ws.length = fs.length ∧ (H2 a = some (exo a C (some d)) → H2 d = some (exd d (fs.zip ws).reverse) → (∀ b, b ≠ a → b ≠ d → H2 b = H1 b) → Q (.ref a) H2)
def gXv (K : PySem.W.Frag) (f : Str) (z : V) (H1 : Hp) (Q : VK) : Prop := ∃ (a C d : Addr) (fs : List (Str × V)) (v : V), z = .ref a ∧ XfC K C ∧ PySem.W.findIn K (.ref C) f = some none ∧ XAt H1 a C (some d) ∧ DAt H1 d fs ∧ fs.lookup f = some v ∧ Q v H1
/-- an exception object with its fields -/
def XE (H : Hp) (a C : Addr) (fs : List (Str × V)) : Prop := ∃ d, XAt H a C (some d) ∧ DAt H d fs
section
variable {K : PySem.W.Frag} {σ : L2.St} {H : Hp} {Q : VK} {ta tk : TA} {te : TE} {D : Ends} {C a : Addr} {fs : List Str} {vs zs ws : List V} {f : Str} {v : V}
theorem XE.same {H2 : Hp} {gs : List (Str × V)} (h : XE H a C gs) (s : Same H H2) : XE H2 a C gs := by
  obtain ⟨d, h1, h2⟩ := h
  refine ⟨d, ?_, ?_⟩
  · rcases h1 with h1 | h1
    · exact .inl (s _ _ h1)
    · exact .inr (s _ _ h1)
  · rcases h2 with h2 | h2
    · exact .inl (s _ _ h2)
    · exact .inr (s _ _ h2)
theorem x_par3 {i j l : Nat} (k : ta σ H fun vs H1 => ∃ u v w, vs = [u, v, w] ∧ D.nx (((σ.set i (some u)).set j (some v)).set l (some w)) H1) : tPar3 i j l ta D σ H := k
theorem x_fnK {n m : Nat} {sp : Sp} {gV : List V → List V → List V} {W : WX} (k : ta σ H fun vs H1 => tk σ H1 fun zs H2 => vs.length = n ∧ zs.length = m ∧ sp (gV vs zs) H2 Q (WE W σ)) : tFnK n m sp gV W ta tk σ H Q := k
theorem x_xn (k : ta σ H fun vs H1 => gXn C fs vs H1 Q) : tXn C fs ta σ H Q := k
theorem x_xnK {m : Nat} {gV : List V → List V → List V} (k : tk σ H fun zs H1 => gXnK C m fs gV zs H1 Q) : tXnK C m fs gV tk σ H Q := k
theorem x_newX (h : vs.length = fs.length) (k : ∀ a H2, H a = none → Same H H2 → XE H2 a C (fs.zip vs).reverse → Q (.ref a) H2) : gXn C fs vs H Q :=
  ⟨h, fun a d H2 na nd ne e1 e2 e3 => k a H2 na (fun b o e => by rw [e3 b (ne_of_none e na) (ne_of_none e nd)]; exact e) ⟨d, .inl e1, .inl e2⟩⟩
theorem x_newXK {m : Nat} {ix : List Nat} (h : zs.length = m) (hw : ∀ a : V, kwV ix [a] zs = a :: ws) (hl : ws.length = fs.length) (k : ∀ a H2, H a = none → Same H H2 → XE H2 a C (fs.zip ws).reverse → Q (.ref a) H2) : gXnK C m fs (kwV ix) zs H Q :=
  ⟨h, fun a d H2 na nd ne => ⟨ws, hw _, hl, fun e1 e2 e3 => k a H2 na (fun b o e => by rw [e3 b (ne_of_none e na) (ne_of_none e nd)]; exact e) ⟨d, .inl e1, .inl e2⟩⟩⟩
theorem x_xn0 (k : ∀ a H2, H a = none → Same H H2 → XAt H2 a C none → Q (.ref a) H2) : tXn0 C σ H Q := fun a H2 na e1 e2 => k a H2 na (fun b o e => by rw [e2 b (ne_of_none e na)]; exact e) (.inr e1)
theorem x_xv (k : te σ H fun z H1 => gXv K f z H1 Q) : tXv K f te σ H Q := k
theorem x_getX {gs : List (Str × V)} (T : XfC K C) (hno : PySem.W.findIn K (.ref C) f = some none) (h : XE H a C gs) (l : gs.lookup f = some v) (k : Q v H) : gXv K f (.ref a) H Q := by
  obtain ⟨d, h1, h2⟩ := h
  exact ⟨a, C, d, gs, v, rfl, T, hno, h1, h2, l, k⟩
theorem x_isiV {c x : V} {t u : Value} {b : Bool} (hc : ClsV c u) (ht : TyX K H x t) (hk : PySem.W.kitOne K t u = some b) (k : Q (.bl b) H) : rIsiU K [x, c] H Q := .inl (x_isi hc ht hk k)
theorem x_isiX {c : V} {u : Value} {b : Bool} {gs : List (Str × V)} (hc : ClsV c u) (T : L2.ExcC K C) (h : XE H a C gs) (hk : PySem.W.kitOne K (.ref C) u = some b) (k : Q (.bl b) H) : rIsiU K [.ref a, c] H Q := by
  obtain ⟨d, h1, h2⟩ := h
  exact .inr ⟨a, C, c, some d, u, b, rfl, hc, T, h1, fun dd e => by cases e; exact ⟨gs, h2⟩, hk, k⟩
theorem x_isiX0 {c : V} {u : Value} {b : Bool} (hc : ClsV c u) (T : L2.ExcC K C) (h : XAt H a C none) (hk : PySem.W.kitOne K (.ref C) u = some b) (k : Q (.bl b) H) : rIsiU K [.ref a, c] H Q :=
  .inr ⟨a, C, c, none, u, b, rfl, hc, T, h, fun dd e => (by cases e), hk, k⟩
theorem x_reprD {x : V} {d : PyData} (h : Dq K H x d) (sh : d.showable = true) (dp : d.depth ≤ 100) (sz : d.shown.length ≤ 100000) (k : Q (.str d.shown) H) : rReprU K [x] H Q := .inr (.inl ⟨x, d, rfl, h, sh, dp, Nat.le_trans sz (by decide), k⟩)
theorem x_reprI {i : Int} (h : i.natAbs < 2 ^ 1000) (k : Q (.str (toString i)) H) : rReprU K [.int i] H Q := .inr (.inr ⟨i, rfl, by
  by_cases e : i.natAbs = 0
  · rw [e]; decide
  · exact Nat.lt_trans ((Nat.log2_lt e).mpr h) (by decide), k⟩)
/-- for i, x in enumerate(xs) -/
theorem x_forE {xs : List V} {tg : TG} {tb : TS} (he : ∀ QA : List V → Hp → Prop, QA [.ref a] H → ta σ H QA) (hx : SqL K H a xs) (Pv : Nat → L2.St → Hp → Prop) (hi : Pv 0 σ H) (hl : ∀ i s2 H2, i ≤ xs.length → Pv i s2 H2 → SqL K H2 a xs)
    (hs : ∀ i x s2 H2 T H3, xs[i]? = some x → Pv i s2 H2 → H2 T = none → Same H2 H3 → H3 T = some (.tup [.int (i : Nat), x]) → tg (.ref T) s2 H3 fun s3 H4 => tb { D with nx := Pv (i + 1), ct := Pv (i + 1), bk := D.nx } s3 H4) (hd : ∀ s2 H2, Pv xs.length s2 H2 → D.nx s2 H2) :
    tFor (iEnum K ta) tg tb D σ H := by
  refine he _ ⟨a, xs, rfl, hx, fun i m s2 H2 => m = xs.length - i ∧ i ≤ xs.length ∧ Pv i s2 H2, ⟨xs.length, by simp, Nat.zero_le _, hi⟩, ?_⟩
  rintro i m s2 H2 ⟨rfl, hil, p⟩
  have q := hl i s2 H2 hil p
  by_cases hlt : i < xs.length
  · refine .inr ⟨⟨xs, xs[i], q, List.getElem?_eq_getElem hlt⟩, Pv (i + 1), fun s3 H3 p2 => ⟨xs.length - (i + 1), by omega, rfl, hlt, p2⟩, fun x H3 y => ?_⟩
    obtain ⟨T, z, rfl, nT, rfl, y⟩ := y
    exact hs i z s2 H2 T _ (y xs q) p nT (Same.upd (Same.refl _) nT) upd_same
  · have e : i = xs.length := by omega
    subst e
    exact .inl ⟨⟨xs, q, Nat.le_refl _⟩, hd s2 H2 p⟩
end
end SJ

/-! SJN: names.is_name; tables of classes. -/
namespace SJ
open PySem PySem.Spec PyProof.Rows L2 He
local macro_rules | `(tactic| walk_at "go") => `(tactic| (repeat (first
  | with_reducible apply x_seq | with_reducible apply x_asg | with_reducible apply x_ret | with_reducible apply x_if | with_reducible apply x_test | with_reducible apply x_B | with_reducible apply x_op | (with_reducible apply x_var rfl) | with_reducible apply x_c
  | with_reducible apply x_cb | with_reducible apply x_cons | with_reducible apply x_nil | with_reducible apply x_bl2 | with_reducible apply x_st2 | with_reducible apply ite_t | with_reducible apply ite_f | with_reducible apply ite_n | with_reducible apply x_and | with_reducible apply x_or | with_reducible apply x_not | with_reducible apply x_andV | with_reducible apply x_orV | with_reducible apply x_notV
  | with_reducible apply x_addI | with_reducible apply x_sub' | with_reducible apply x_eqI | with_reducible apply x_neI | with_reducible apply x_eqT | with_reducible apply x_neT | with_reducible apply x_ltI | with_reducible apply x_leI | with_reducible apply x_gtI | with_reducible apply x_geI
  | with_reducible apply x_intI | with_reducible apply x_intBl | with_reducible apply x_absI | with_reducible apply x_asgG | with_reducible apply x_sub | with_reducible apply x_lst | with_reducible apply x_tup | with_reducible apply x_next | with_reducible apply x_drop
  | with_reducible apply x_ife | with_reducible apply x_chain | with_reducible apply x_inSg | with_reducible apply x_yes | with_reducible apply x_sl | with_reducible apply x_noPart | with_reducible apply x_part | with_reducible apply x_in2 | with_reducible apply x_fs | with_reducible apply x_js | with_reducible apply x_js0 | with_reducible apply x_fmtE | with_reducible apply x_m0 | with_reducible apply x_fld0 | with_reducible apply x_con0 | with_reducible apply x_pr0 | with_reducible apply x_sfld
  | (with_reducible refine x_new ?_ ?_; · exact Nat.le_of_ble_eq_true rfl)
  | with_reducible apply x_fn | with_reducible apply x_nw | with_reducible apply x_bm | with_reducible apply x_par | with_reducible apply x_rz | with_reducible apply x_retN | with_reducible apply x_un | with_reducible apply x_U)))

def letters : List Nat := ("abcdefghijklmnopqrstuvwxyz" : Str).cps.toList
/-- is the text a name -/
def nameB (z : Str) : Bool := decide (1 ≤ z.length) && (decide (z.length ≤ 8) && ((z.cps.toList.all fun c => decide (c ∈ letters)) && !(inV (.str z) [.str "ground", .str "power", .str "nothing"])))
def nameV : V → Bool
  | .str z => nameB z
  | _ => false
def isStrV : V → Bool
  | .str _ => true
  | _ => false
/-- a value of which isinstance can tell whether it is a text; texts are short -/
def Val0 (K : PySem.W.Frag) (H : Hp) (x : V) : Prop := ∃ t, TyX K H x t ∧ PySem.W.kitOne K t (.type "str") = some (isStrV x) ∧ ∀ z, x = .str z → z.length ≤ 1000
def spName (K : PySem.W.Frag) : Sp := fun vs H Q _ => ∃ x, vs = [x] ∧ Val0 K H x ∧ ∀ H2, Same H H2 → Q (.bl (nameV x)) H2
def tIsName (K : PySem.W.Frag) (ri : List V → Hp → VK → Prop) : TS := (tSeq (tIfS (tOr (tNot (tB (tCB ri (tCons (tVar 0) (tCons (tC (.ty "str")) tNil))))) (tNot (tTest (tChain rLeU rLeU (tC (.int 1)) (tCB (rLenU K) (tCons (tVar 0) tNil)) (tC (.int 8)))))) (tRet (tC (.bl false))) tNext) (tRet (tAndV (tCB (rAll K) (tCons (tLc (iStr (tVar 0)) (gName 1) tYes (tOp rInS (tVar 1) (tC (.str "abcdefghijklmnopqrstuvwxyz"))) [1]) tNil)) (tOp (rInU K true) (tVar 0) (tTup (tCons (tC (.str "ground")) (tCons (tC (.str "power")) (tCons (tC (.str "nothing")) tNil))))))))
section
variable {K : PySem.W.Frag} {vs : List V} {H : Hp} {Q : VK} {E : XK} {n0 n1 : Str}
theorem len_name (h : spName K vs H Q E) : vs.length = 1 := by obtain ⟨x, rfl, _⟩ := h; rfl
theorem name_ok {ri : List V → Hp → VK → Prop} (hri : ∀ {xs : List V} {H : Hp} {Q : VK}, rIsi K xs H Q → ri xs H Q) (h : spName K vs H Q E) : tIsName K ri { nx := fun _ H2 => Q .non H2, rt := Q } (start [n0, n1] vs) H := by
  obtain ⟨x, rfl, ⟨t, ht, hk, hz⟩, k⟩ := h
  unfold tIsName
  walk_at "go"
  refine hri ?_
  refine x_isi (.ty "str") ht hk ?_
  walk_at "go"
  by_cases hs : isStrV x = true
  · obtain ⟨z, rfl⟩ : ∃ z, x = .str z := by cases x <;> first | exact ⟨_, rfl⟩ | cases hs
    have hz0 := hz z rfl
    refine ite_t ?_
    walk_at "go"
    refine x_lenS (by omega) ?_
    walk_at "go"
    by_cases h1 : (1 : Int) ≤ (z.length : Int)
    · rw [decide_eq_true h1]
      walk_at "go"
      by_cases h2 : (z.length : Int) ≤ 8
      · rw [decide_eq_true h2]
        walk_at "go"
        refine x_lcS (z := z) (F := fun c => .bl (decide (c ∈ letters))) (fun _ q => ⟨_, rfl, q⟩) (by omega) (fun x => rfl) (fun c H2 Q2 q => ?_) (fun l hl => ?_)
        · walk_at "go"; exact q
        · walk_at "go"
          refine x_all (bs := z.cps.toList.map fun c => decide (c ∈ letters)) (by rw [List.map_map]; exact SqL.of upd_same) ?_
          have eall : ((z.cps.toList.map fun c => decide (c ∈ letters)).all id) = z.cps.toList.all fun c => decide (c ∈ letters) := by rw [List.all_map]; rfl
          rw [eall]
          have nm : ∀ {b : Bool}, (z.cps.toList.all fun c => decide (c ∈ letters)) = b → nameB z = (b && !(inV (.str z) [.str "ground", .str "power", .str "nothing"])) := fun {b} e => by
            unfold nameB
            rw [e, decide_eq_true (by omega : 1 ≤ z.length), decide_eq_true (by omega : z.length ≤ 8), Bool.true_and, Bool.true_and]
          cases e : z.cps.toList.all fun c => decide (c ∈ letters) with
          | false =>
            walk_at "go"
            have := k _ (Same.upd (o := .lst (z.cps.toList.map fun c => V.bl (decide (c ∈ letters)))) (Same.refl H) hl)
            rw [show nameV (.str z) = nameB z from rfl, nm e] at this
            exact this
          | true =>
            walk_at "go"
            intro p hp
            refine x_ninT (SqT.of upd_same) rfl rfl ?_
            have := k _ (Same.upd (o := .tup [.str "ground", .str "power", .str "nothing"]) (Same.upd (o := .lst (z.cps.toList.map fun c => V.bl (decide (c ∈ letters)))) (Same.refl H) hl) hp)
            rw [show nameV (.str z) = nameB z from rfl, nm e] at this
            exact this
      · rw [decide_eq_false h2]
        walk_at "go"
        have e : nameV (.str z) = false := by
          show nameB z = false
          unfold nameB
          rw [decide_eq_false (by omega : ¬ z.length ≤ 8), Bool.false_and, Bool.and_false]
        have := k _ (Same.refl H)
        rw [e] at this
        exact this
    · rw [decide_eq_false h1]
      walk_at "go"
      have e : nameV (.str z) = false := by
        show nameB z = false
        unfold nameB
        rw [decide_eq_false (by omega : ¬ 1 ≤ z.length), Bool.false_and]
      have := k _ (Same.refl H)
      rw [e] at this
      exact this
  · have hs2 : isStrV x = false := by cases q : isStrV x with | true => exact absurd q hs | false => rfl
    rw [hs2]
    walk_at "go"
    have e : nameV x = false := by cases x <;> first | rfl | (cases hs2)
    have := k _ (Same.refl H)
    rw [e] at this
    exact this
end
/-- for k in range(e) -/
theorem x_forRe {σ : L2.St} {H : Hp} {D : Ends} {te : TE} {j : Nat} {n : Int} {tb : TS} (he : ∀ Q : VK, Q (.int n) H → te σ H Q) (h0 : 0 ≤ n ∧ n ≤ 1000000) (Pv : Nat → L2.St → Hp → Prop) (hi : Pv 0 σ H)
    (hs : ∀ (i : Nat) s2 H2, (i : Int) < n → Pv i s2 H2 → tb { D with nx := Pv (i + 1), ct := Pv (i + 1), bk := D.nx } (s2.set j (some (.int (i : Int)))) H2) (hd : ∀ s2 H2, Pv n.toNat s2 H2 → D.nx s2 H2) : tFor (iRng1 (tCons te tNil)) (gName j) tb D σ H :=
  he _ ⟨n, rfl, by omega, by omega, for_range (lo := 0) (n := n.toNat) Pv hi (fun i s2 H2 hi2 p => by
    have e : (0 : Int) + (i : Int) = (i : Int) := Int.zero_add _
    show tb _ (s2.set j (some (.int ((0 : Int) + (i : Int))))) H2
    rw [e]
    exact hs i s2 H2 (by omega) p) hd⟩
/-! ### tables of classes -/
def kitTab (cs ds : List Str) (f : Str → Str → Bool) : Tst := fun K => cs.all fun c => ds.all fun d => decide (PySem.W.kitOne K (.ref (ga K c)) (.ref (ga K d)) = some (f c d))
theorem kitTab_ok {K : PySem.W.Frag} {cs ds : List Str} {f : Str → Str → Bool} (h : kitTab cs ds f K = true) : ∀ c ∈ cs, ∀ d ∈ ds, PySem.W.kitOne K (.ref (ga K c)) (.ref (ga K d)) = some (f c d) := fun c hc d hd =>
  of_decide_eq_true (List.all_eq_true.mp (List.all_eq_true.mp h c hc) d hd)
def kitTyp (cs : List Str) (ds : List String) (f : Str → String → Bool) : Tst := fun K => cs.all fun c => ds.all fun d => decide (PySem.W.kitOne K (.ref (ga K c)) (.type d) = some (f c d))
theorem kitTyp_ok {K : PySem.W.Frag} {cs : List Str} {ds : List String} {f : Str → String → Bool} (h : kitTyp cs ds f K = true) : ∀ c ∈ cs, ∀ d ∈ ds, PySem.W.kitOne K (.ref (ga K c)) (.type d) = some (f c d) := fun c hc d hd =>
  of_decide_eq_true (List.all_eq_true.mp (List.all_eq_true.mp h c hc) d hd)
def xcTab (cs : List Str) : Tst := fun K => cs.all fun c => xcT c K
theorem xcTab_ok {K : PySem.W.Frag} {cs : List Str} (h : xcTab cs K = true) : ∀ c ∈ cs, L2.ExcC K (ga K c) := fun c hc => xcT_ok (List.all_eq_true.mp h c hc)
end SJ

/-! SJQ: data shown: growth, sizes. -/
namespace SJ
open PySem PySem.Spec PyProof.Rows L2 He
section
variable {K : PySem.W.Frag} {H H2 : Hp}
mutual
theorem dq_same (s : Same H H2) : ∀ (d : PyData) (v : V), Dq K H v d → Dq K H2 v d
  | .none, _, h => by cases h; exact .non
  | .bool b, _, h => by cases h; exact .bl b
  | .int i, _, h => by cases h; exact .int i
  | .str x, _, h => by cases h; exact .str x
  | .list ds, _, h => by
    cases h with
    | lst q a => exact .lst (s _ _ q) (dqa_same s ds _ a)
  | .tuple ds, _, h => by
    cases h with
    | tup q a => exact .tup (sqt_same s q) (dqa_same s ds _ a)
  | .dict _, _, h => by
    cases h with
    | dic e => exact .dic (s _ _ e)
theorem dqa_same (s : Same H H2) : ∀ (ds : List PyData) (vs : List V), DqAll K H vs ds → DqAll K H2 vs ds
  | [], _, h => by cases h; exact .nil
  | d :: ds, _, h => by
    cases h with
    | cons a b => exact .cons (dq_same s d _ a) (dqa_same s ds _ b)
end
end
/-- may be shown; depth, size -/
def Sh (n w : Nat) (d : PyData) : Prop := d.showable = true ∧ d.depth ≤ n ∧ d.shown.length ≤ w
theorem Sh.mono {n w n2 w2 : Nat} {d : PyData} (h : Sh n w d) (a : n ≤ n2) (b : w ≤ w2) : Sh n2 w2 d := ⟨h.1, Nat.le_trans h.2.1 a, Nat.le_trans h.2.2 b⟩
theorem sh_all : ∀ ds : List PyData, (∀ d ∈ ds, d.showable = true) → PyData.showableAll ds = true
  | [], _ => by simp only [PyData.showableAll]
  | d :: ds, h => by
    simp only [PyData.showableAll]
    rw [h d (List.mem_cons_self ..), sh_all ds fun e q => h e (List.mem_cons_of_mem _ q)]
    rfl
theorem sh_len : ∀ ds : List PyData, (PyData.shownAll ds).length = ds.length
  | [] => by simp only [PyData.shownAll, List.length_nil]
  | d :: ds => by simp only [PyData.shownAll, List.length_cons, sh_len ds]
theorem sh_sum {w : Nat} : ∀ ds : List PyData, (∀ d ∈ ds, d.shown.length ≤ w) → ((PyData.shownAll ds).map (·.length)).sum ≤ ds.length * w
  | [], _ => by simp only [PyData.shownAll, List.map_nil, List.sum_nil]; exact Nat.zero_le _
  | d :: ds, h => by
    simp only [PyData.shownAll, List.map_cons, List.sum_cons, List.length_cons]
    have h1 := h d (List.mem_cons_self ..)
    have h2 := sh_sum ds fun e q => h e (List.mem_cons_of_mem _ q)
    rw [Nat.add_mul, Nat.one_mul]
    omega
theorem sh_list {n w : Nat} {ds : List PyData} (h : ∀ d ∈ ds, Sh n w d) : Sh (n + 1) (ds.length * (w + 2) + 3) (.list ds) := by
  refine ⟨?_, ?_, ?_⟩
  · simp only [PyData.showable]; exact sh_all ds fun d q => (h d q).1
  · simp only [PyData.depth]; exact Nat.succ_le_succ (dep_all ds fun d q => (h d q).2.1)
  · simp only [PyData.shown]
    have h1 := PySem.listText_len_le (PyData.shownAll ds)
    have h2 := sh_sum ds fun d q => (h d q).2.2
    rw [sh_len] at h1
    rw [Nat.mul_add]
    omega
theorem join_len : ∀ ts : List Str, (Str.join ", " ts).length ≤ (ts.map (·.length)).sum + 2 * ts.length
  | [] => Nat.zero_le _
  | [x] => by show x.length ≤ _; simp only [List.map_cons, List.map_nil, List.sum_cons, List.sum_nil, List.length_cons, List.length_nil]; omega
  | x :: y :: r => by
    have ih := join_len (y :: r)
    have e : (Str.join ", " (x :: y :: r)).length = x.length + 2 + (Str.join ", " (y :: r)).length := by
      show (x ++ ", " ++ Str.join ", " (y :: r)).length = _
      rw [PySem.Str.length_append, PySem.Str.length_append]
      rfl
    rw [e]
    simp only [List.map_cons, List.sum_cons, List.length_cons] at ih ⊢
    omega
theorem sh_tup {n w : Nat} {ds : List PyData} (h : ∀ d ∈ ds, Sh n w d) : Sh (n + 1) (ds.length * (w + 2) + 3) (.tuple ds) := by
  refine ⟨?_, ?_, ?_⟩
  · simp only [PyData.showable]; exact sh_all ds fun d q => (h d q).1
  · simp only [PyData.depth]; exact Nat.succ_le_succ (dep_all ds fun d q => (h d q).2.1)
  · simp only [PyData.shown]
    unfold tupleText
    have h1 := join_len (PyData.shownAll ds)
    have h2 := sh_sum ds fun d q => (h d q).2.2
    rw [sh_len] at h1
    rw [Nat.mul_add, PySem.Str.length_append, PySem.Str.length_append]
    have e1 : (Str.ofString "(").length = 1 := rfl
    have e2 : (Str.ofString (if ((PyData.shownAll ds).length == 1) = true then ",)" else ")")).length ≤ 2 := by
      split
      · exact Nat.le_refl 2
      · exact Nat.le_of_ble_eq_true rfl
    omega
theorem shs_nil {n w : Nat} : ∀ d ∈ ([] : List PyData), Sh n w d := fun _ m => nomatch m
theorem shs_cons {n w : Nat} {d : PyData} {ds : List PyData} (h : Sh n w d) (t : ∀ e ∈ ds, Sh n w e) : ∀ e ∈ d :: ds, Sh n w e := fun e m => by
  rcases List.mem_cons.mp m with rfl | m
  · exact h
  · exact t e m
theorem x_reprS {K : PySem.W.Frag} {H : Hp} {Q : VK} {x : V} {d : PyData} {n w : Nat} (h : Dq K H x d) (s : Sh n w d) (hn : n ≤ 100) (hw : w ≤ 100000) (k : Q (.str d.shown) H) : rReprU K [x] H Q := x_reprD h s.1 (Nat.le_trans s.2.1 hn) (Nat.le_trans s.2.2 hw) k
/-! ### a comprehension over a list just made -/
def gLcL (K : PySem.W.Frag) (tg : TG) (tt : TT) (tb : TE) (vs : List Nat) (σ : L2.St) (Q : VK) (x : V) (H1 : Hp) : Prop := ∃ a2, x = V.ref a2 ∧ (∃ ys, SqL K H1 a2 ys) ∧ ∀ l, H1 l = none → ∃ Wn : Nat → Nat → Hp → Prop, (∃ m, Wn 0 m (upd H1 l (.lst []))) ∧ ∀ i m H2, Wn i m H2 →
      ((Itl K a2).stop i H2 ∧ Q (.ref l) H2) ∨ ((Itl K a2).go i H2 ∧ ∃ Nx : Hp → Prop, (∀ H3, Nx H3 → ∃ m2, m2 < m ∧ Wn (i + 1) m2 H3) ∧ ∀ x H3, (Itl K a2).yld i H2 x H3 → tg x (wipe σ vs) H3 fun s2 H4 => wipe s2 vs = wipe σ vs ∧ tt s2 H4 fun b H5 =>
        if b = true then tb s2 H5 fun y H6 => ∃ acc, H6 l = some (.lst acc) ∧ acc.length < sizeLine ∧ Nx (upd H6 l (.lst (acc ++ [y]))) else Nx H5)
section
variable {K : PySem.W.Frag} {σ : L2.St} {H : Hp} {Q : VK} {te tb : TE} {tg : TG} {tt : TT} {vs : List Nat} {a : Addr} {xs : List V}
theorem x_lcL0 (k : te σ H fun x H1 => gLcL K tg tt tb vs σ Q x H1) : tLc (iList K te) tg tt tb vs σ H Q := k
theorem x_lcL1 (hx : SqL K H a xs) (Pv : Addr → Nat → Hp → Prop) (h0 : ∀ l, H l = none → Pv l 0 (upd H l (.lst []))) (hl : ∀ l i H2, i ≤ xs.length → Pv l i H2 → SqL K H2 a xs)
    (hs : ∀ l i x H2, H l = none → xs[i]? = some x → Pv l i H2 → tg x (wipe σ vs) H2 fun s3 H3 => wipe s3 vs = wipe σ vs ∧ tt s3 H3 fun b H4 => if b = true then tb s3 H4 fun y H5 => ∃ acc, H5 l = some (.lst acc) ∧ acc.length < sizeLine ∧ Pv l (i + 1) (upd H5 l (.lst (acc ++ [y]))) else Pv l (i + 1) H4)
    (hd : ∀ l H2, H l = none → Pv l xs.length H2 → Q (.ref l) H2) : gLcL K tg tt tb vs σ Q (.ref a) H :=
  ⟨a, rfl, ⟨xs, hx⟩, fun l hl0 => lc_list (K := K) (a := a) (xs := xs) (Pv l) (h0 l hl0) (hl l) (fun i x H2 hx2 p => hs l i x H2 hl0 hx2 p) fun H2 p => hd l H2 hl0 p⟩
theorem x_reprBl {b : Bool} (k : Q (.str (PyData.bool b).shown) H) : rReprU K [.bl b] H Q := .inl ⟨_, _, rfl, .bl b, by cases b <;> rfl, by simp only [PyData.depth]; omega, by cases b <;> exact Nat.le_of_ble_eq_true rfl, k⟩
end
end SJ

namespace K01
open PySem PySem.Spec PyProof.Rows L2 He SJ
def errs : List Str := ["InvalidFrame", "InvalidWord", "InvalidBoard", "InvalidChain", "InvalidHurt", "InvalidScan", "InvalidCommand", "NoLeg", "NoWord", "TooMany", "InvalidAnswer", "NoBoard", "InvalidText", "Settled", "NothingToUndo"]
def baseOf (c : Str) : Str := if c = "NoLeg" ∨ c = "NoWord" then "LookupError" else if c = "TooMany" then "OverflowError" else "ValueError"
def isK (c d : Str) : Bool := decide (c = d) || ((decide (d = "JoinError") && decide (baseOf c = "ValueError")) || (decide (d = "MissingError") && decide (baseOf c = "LookupError")))
def isT (c : Str) (d : String) : Bool := decide (baseOf c = Str.ofString d)
def errs2 : List Str := errs ++ (["JoinError", "MissingError"] : List Str)
def top (i : Nat) : Stmt := PySem.Challenge.pw_strayjoins_k01_errors_and_numbers.main.body.getD i (.Pass ⟨0, 0, 0, 0⟩)
abbrev s_is_integer : Stmt := top 6
abbrev s_is_name : Stmt := top 7
abbrev s_up : Stmt := top 8
abbrev s_least_power : Stmt := top 9
abbrev s_InvalidFrame_init : Stmt := inClass (top 12) 0
abbrev s_InvalidWord_init : Stmt := inClass (top 13) 0
abbrev s_InvalidBoard_init : Stmt := inClass (top 14) 0
abbrev s_InvalidAnswer_init : Stmt := inClass (top 15) 0
abbrev s_NoBoard_init : Stmt := inClass (top 16) 0
abbrev s_InvalidChain_init : Stmt := inClass (top 17) 0
abbrev s_InvalidHurt_init : Stmt := inClass (top 18) 0
abbrev s_InvalidScan_init : Stmt := inClass (top 19) 0
abbrev s_InvalidText_init : Stmt := inClass (top 20) 0
abbrev s_InvalidCommand_init : Stmt := inClass (top 21) 0
abbrev s_NoLeg_init : Stmt := inClass (top 25) 0
abbrev s_NoWord_init : Stmt := inClass (top 26) 0
abbrev s_TooMany_init : Stmt := inClass (top 27) 0
abbrev s_Lpen : Stmt := top 29
abbrev s_Ldraw : Stmt := top 30
abbrev s_Lpick : Stmt := top 31
abbrev s_Lones : Stmt := top 32
abbrev s_Ltwos : Stmt := top 33
abbrev s_Lkinds : Stmt := top 34
abbrev s_Lbases : Stmt := top 35
abbrev s_Lnamed_right : Stmt := top 36
abbrev s_Lerrors_right : Stmt := top 37
abbrev s_Lpower : Stmt := top 38
abbrev s_Lnumbers_right : Stmt := top 39
abbrev s_law : Stmt := top 40
def a_is_integer : PySem.W.Frag → Addr := fun K => ga K "is_integer"
def a_is_name : PySem.W.Frag → Addr := fun K => ga K "is_name"
def a_up : PySem.W.Frag → Addr := fun K => ga K "up"
def a_least_power : PySem.W.Frag → Addr := fun K => ga K "least_power"
def a_Lpen : PySem.W.Frag → Addr := fun K => ga K "_law_pen"
def a_Ldraw : PySem.W.Frag → Addr := fun K => ga K "_law_draw"
def a_Lpick : PySem.W.Frag → Addr := fun K => ga K "_law_pick"
def a_Lones : PySem.W.Frag → Addr := fun K => ga K "_law_ones"
def a_Ltwos : PySem.W.Frag → Addr := fun K => ga K "_law_twos"
def a_Lkinds : PySem.W.Frag → Addr := fun K => ga K "_law_kinds"
def a_Lbases : PySem.W.Frag → Addr := fun K => ga K "_law_bases"
def a_Lnamed_right : PySem.W.Frag → Addr := fun K => ga K "_law_named_right"
def a_Lerrors_right : PySem.W.Frag → Addr := fun K => ga K "_law_errors_right"
def a_Lpower : PySem.W.Frag → Addr := fun K => ga K "_law_power"
def a_Lnumbers_right : PySem.W.Frag → Addr := fun K => ga K "_law_numbers_right"
def a_law : PySem.W.Frag → Addr := fun K => ga K "law"
theorem sc_is_integer : FnScope ["value"] ["value"] (defScope s_is_integer) := ⟨rfl, rfl, rfl, by decide +kernel, rfl, by decide +kernel, by decide +kernel⟩
theorem sc_is_name : FnScope ["value", "letter"] ["value"] (defScope s_is_name) := ⟨rfl, rfl, rfl, by decide +kernel, rfl, by decide +kernel, by decide +kernel⟩
theorem sc_up : FnScope ["number", "by"] ["number", "by"] (defScope s_up) := ⟨rfl, rfl, rfl, by decide +kernel, rfl, by decide +kernel, by decide +kernel⟩
theorem sc_least_power : FnScope ["base", "number", "found", "power"] ["base", "number"] (defScope s_least_power) := ⟨rfl, rfl, rfl, by decide +kernel, rfl, by decide +kernel, by decide +kernel⟩
theorem sc_Lpen : FnScope ["_law_script"] ["_law_script"] (defScope s_Lpen) := ⟨rfl, rfl, rfl, by decide +kernel, rfl, by decide +kernel, by decide +kernel⟩
theorem sc_Ldraw : FnScope ["_law_pen_here", "_law_many", "_law_digit", "_law_at", "_law_cell", "_law_great", "_law_mixed"] ["_law_pen_here", "_law_many"] (defScope s_Ldraw) := ⟨rfl, rfl, rfl, by decide +kernel, rfl, by decide +kernel, by decide +kernel⟩
theorem sc_Lpick : FnScope ["_law_pen_here", "_law_some"] ["_law_pen_here", "_law_some"] (defScope s_Lpick) := ⟨rfl, rfl, rfl, by decide +kernel, rfl, by decide +kernel, by decide +kernel⟩
theorem sc_Lones : FnScope ["_law_thing", "_law_one", "_law_two", "_law_found", "_law_five", "_law_six", "_law_seven", "_law_eight", "_law_nine", "_law_ten"] ["_law_thing"] (defScope s_Lones) := ⟨rfl, rfl, rfl, by decide +kernel, rfl, by decide +kernel, by decide +kernel⟩
theorem sc_Ltwos : FnScope ["_law_thing", "_law_other", "_law_one", "_law_two", "_law_three", "_law_found"] ["_law_thing", "_law_other"] (defScope s_Ltwos) := ⟨rfl, rfl, rfl, by decide +kernel, rfl, by decide +kernel, by decide +kernel⟩
theorem sc_Lkinds : FnScope ["_law_error", "_law_found"] ["_law_error"] (defScope s_Lkinds) := ⟨rfl, rfl, rfl, by decide +kernel, rfl, by decide +kernel, by decide +kernel⟩
theorem sc_Lbases : FnScope ["_law_error", "_law_found"] ["_law_error"] (defScope s_Lbases) := ⟨rfl, rfl, rfl, by decide +kernel, rfl, by decide +kernel, by decide +kernel⟩
theorem sc_Lnamed_right : FnScope ["_law_thing", "_law_other", "_law_found", "_law_one", "_law_two", "_law_three", "_law_pairs"] ["_law_thing", "_law_other"] (defScope s_Lnamed_right) := ⟨rfl, rfl, rfl, by decide +kernel, rfl, by decide +kernel, by decide +kernel⟩
theorem sc_Lerrors_right : FnScope ["_law_pen_here", "_law_some", "_law_thing", "_law_other", "_law_rows", "_law_at", "_law_error", "_law_kept", "_law_k", "_law_above"] ["_law_pen_here"] (defScope s_Lerrors_right) := ⟨rfl, rfl, rfl, by decide +kernel, rfl, by decide +kernel, by decide +kernel⟩
theorem sc_Lpower : FnScope ["_law_factor", "_law_often", "_law_found", "_law_turn"] ["_law_factor", "_law_often"] (defScope s_Lpower) := ⟨rfl, rfl, rfl, by decide +kernel, rfl, by decide +kernel, by decide +kernel⟩
theorem sc_Lnumbers_right : FnScope ["_law_pen_here", "_law_some", "_law_number_so", "_law_divisor", "_law_root", "_law_found", "_law_least"] ["_law_pen_here"] (defScope s_Lnumbers_right) := ⟨rfl, rfl, rfl, by decide +kernel, rfl, by decide +kernel, by decide +kernel⟩
theorem sc_law : FnScope ["_law_script", "_law_pen_here", "_law_turn", "_law_thing", "_law_right", "_law_wrong", "_law_one"] ["_law_script"] (defScope s_law) := ⟨rfl, rfl, rfl, by decide +kernel, rfl, by decide +kernel, by decide +kernel⟩
def d_is_integer : DD := ⟨a_is_integer, "is_integer", "is_integer", defArgs s_is_integer, defBody s_is_integer, defScope s_is_integer, []⟩
abbrev Fn_is_integer (K : PySem.W.Frag) (fd : FuncData) : Prop := FunD K "is_integer" "is_integer" (defArgs s_is_integer) (defBody s_is_integer) (defScope s_is_integer) [] [] (a_is_integer K) fd
def d_is_name : DD := ⟨a_is_name, "is_name", "is_name", defArgs s_is_name, defBody s_is_name, defScope s_is_name, []⟩
abbrev Fn_is_name (K : PySem.W.Frag) (fd : FuncData) : Prop := FunD K "is_name" "is_name" (defArgs s_is_name) (defBody s_is_name) (defScope s_is_name) [] [] (a_is_name K) fd
def d_up : DD := ⟨a_up, "up", "up", defArgs s_up, defBody s_up, defScope s_up, []⟩
abbrev Fn_up (K : PySem.W.Frag) (fd : FuncData) : Prop := FunD K "up" "up" (defArgs s_up) (defBody s_up) (defScope s_up) [] [] (a_up K) fd
def d_least_power : DD := ⟨a_least_power, "least_power", "least_power", defArgs s_least_power, defBody s_least_power, defScope s_least_power, []⟩
abbrev Fn_least_power (K : PySem.W.Frag) (fd : FuncData) : Prop := FunD K "least_power" "least_power" (defArgs s_least_power) (defBody s_least_power) (defScope s_least_power) [] [] (a_least_power K) fd
def d_Lpen : DD := ⟨a_Lpen, "_law_pen", "_law_pen", defArgs s_Lpen, defBody s_Lpen, defScope s_Lpen, []⟩
abbrev Fn_Lpen (K : PySem.W.Frag) (fd : FuncData) : Prop := FunD K "_law_pen" "_law_pen" (defArgs s_Lpen) (defBody s_Lpen) (defScope s_Lpen) [] [] (a_Lpen K) fd
def d_Ldraw : DD := ⟨a_Ldraw, "_law_draw", "_law_draw", defArgs s_Ldraw, defBody s_Ldraw, defScope s_Ldraw, []⟩
abbrev Fn_Ldraw (K : PySem.W.Frag) (fd : FuncData) : Prop := FunD K "_law_draw" "_law_draw" (defArgs s_Ldraw) (defBody s_Ldraw) (defScope s_Ldraw) [] [] (a_Ldraw K) fd
def d_Lpick : DD := ⟨a_Lpick, "_law_pick", "_law_pick", defArgs s_Lpick, defBody s_Lpick, defScope s_Lpick, []⟩
abbrev Fn_Lpick (K : PySem.W.Frag) (fd : FuncData) : Prop := FunD K "_law_pick" "_law_pick" (defArgs s_Lpick) (defBody s_Lpick) (defScope s_Lpick) [] [] (a_Lpick K) fd
def d_Lones : DD := ⟨a_Lones, "_law_ones", "_law_ones", defArgs s_Lones, defBody s_Lones, defScope s_Lones, []⟩
abbrev Fn_Lones (K : PySem.W.Frag) (fd : FuncData) : Prop := FunD K "_law_ones" "_law_ones" (defArgs s_Lones) (defBody s_Lones) (defScope s_Lones) [] [] (a_Lones K) fd
def d_Ltwos : DD := ⟨a_Ltwos, "_law_twos", "_law_twos", defArgs s_Ltwos, defBody s_Ltwos, defScope s_Ltwos, []⟩
abbrev Fn_Ltwos (K : PySem.W.Frag) (fd : FuncData) : Prop := FunD K "_law_twos" "_law_twos" (defArgs s_Ltwos) (defBody s_Ltwos) (defScope s_Ltwos) [] [] (a_Ltwos K) fd
def d_Lkinds : DD := ⟨a_Lkinds, "_law_kinds", "_law_kinds", defArgs s_Lkinds, defBody s_Lkinds, defScope s_Lkinds, []⟩
abbrev Fn_Lkinds (K : PySem.W.Frag) (fd : FuncData) : Prop := FunD K "_law_kinds" "_law_kinds" (defArgs s_Lkinds) (defBody s_Lkinds) (defScope s_Lkinds) [] [] (a_Lkinds K) fd
def d_Lbases : DD := ⟨a_Lbases, "_law_bases", "_law_bases", defArgs s_Lbases, defBody s_Lbases, defScope s_Lbases, []⟩
abbrev Fn_Lbases (K : PySem.W.Frag) (fd : FuncData) : Prop := FunD K "_law_bases" "_law_bases" (defArgs s_Lbases) (defBody s_Lbases) (defScope s_Lbases) [] [] (a_Lbases K) fd
def d_Lnamed_right : DD := ⟨a_Lnamed_right, "_law_named_right", "_law_named_right", defArgs s_Lnamed_right, defBody s_Lnamed_right, defScope s_Lnamed_right, []⟩
abbrev Fn_Lnamed_right (K : PySem.W.Frag) (fd : FuncData) : Prop := FunD K "_law_named_right" "_law_named_right" (defArgs s_Lnamed_right) (defBody s_Lnamed_right) (defScope s_Lnamed_right) [] [] (a_Lnamed_right K) fd
def d_Lerrors_right : DD := ⟨a_Lerrors_right, "_law_errors_right", "_law_errors_right", defArgs s_Lerrors_right, defBody s_Lerrors_right, defScope s_Lerrors_right, []⟩
abbrev Fn_Lerrors_right (K : PySem.W.Frag) (fd : FuncData) : Prop := FunD K "_law_errors_right" "_law_errors_right" (defArgs s_Lerrors_right) (defBody s_Lerrors_right) (defScope s_Lerrors_right) [] [] (a_Lerrors_right K) fd
def d_Lpower : DD := ⟨a_Lpower, "_law_power", "_law_power", defArgs s_Lpower, defBody s_Lpower, defScope s_Lpower, []⟩
abbrev Fn_Lpower (K : PySem.W.Frag) (fd : FuncData) : Prop := FunD K "_law_power" "_law_power" (defArgs s_Lpower) (defBody s_Lpower) (defScope s_Lpower) [] [] (a_Lpower K) fd
def d_Lnumbers_right : DD := ⟨a_Lnumbers_right, "_law_numbers_right", "_law_numbers_right", defArgs s_Lnumbers_right, defBody s_Lnumbers_right, defScope s_Lnumbers_right, []⟩
abbrev Fn_Lnumbers_right (K : PySem.W.Frag) (fd : FuncData) : Prop := FunD K "_law_numbers_right" "_law_numbers_right" (defArgs s_Lnumbers_right) (defBody s_Lnumbers_right) (defScope s_Lnumbers_right) [] [] (a_Lnumbers_right K) fd
def d_law : DD := ⟨a_law, "law", "law", defArgs s_law, defBody s_law, defScope s_law, []⟩
abbrev Fn_law (K : PySem.W.Frag) (fd : FuncData) : Prop := FunD K "law" "law" (defArgs s_law) (defBody s_law) (defScope s_law) [] [] (a_law K) fd
def d_InvalidFrame_init : XD := ⟨"InvalidFrame", "InvalidFrame.__init__", defArgs s_InvalidFrame_init, defBody s_InvalidFrame_init, defScope s_InvalidFrame_init⟩
def a_InvalidFrame_init : PySem.W.Frag → Addr := fun K => ma K (ga K "InvalidFrame") "__init__"
def d_InvalidWord_init : XD := ⟨"InvalidWord", "InvalidWord.__init__", defArgs s_InvalidWord_init, defBody s_InvalidWord_init, defScope s_InvalidWord_init⟩
def a_InvalidWord_init : PySem.W.Frag → Addr := fun K => ma K (ga K "InvalidWord") "__init__"
def d_InvalidBoard_init : XD := ⟨"InvalidBoard", "InvalidBoard.__init__", defArgs s_InvalidBoard_init, defBody s_InvalidBoard_init, defScope s_InvalidBoard_init⟩
def a_InvalidBoard_init : PySem.W.Frag → Addr := fun K => ma K (ga K "InvalidBoard") "__init__"
def d_InvalidAnswer_init : XD := ⟨"InvalidAnswer", "InvalidAnswer.__init__", defArgs s_InvalidAnswer_init, defBody s_InvalidAnswer_init, defScope s_InvalidAnswer_init⟩
def a_InvalidAnswer_init : PySem.W.Frag → Addr := fun K => ma K (ga K "InvalidAnswer") "__init__"
def d_NoBoard_init : XD := ⟨"NoBoard", "NoBoard.__init__", defArgs s_NoBoard_init, defBody s_NoBoard_init, defScope s_NoBoard_init⟩
def a_NoBoard_init : PySem.W.Frag → Addr := fun K => ma K (ga K "NoBoard") "__init__"
def d_InvalidChain_init : XD := ⟨"InvalidChain", "InvalidChain.__init__", defArgs s_InvalidChain_init, defBody s_InvalidChain_init, defScope s_InvalidChain_init⟩
def a_InvalidChain_init : PySem.W.Frag → Addr := fun K => ma K (ga K "InvalidChain") "__init__"
def d_InvalidHurt_init : XD := ⟨"InvalidHurt", "InvalidHurt.__init__", defArgs s_InvalidHurt_init, defBody s_InvalidHurt_init, defScope s_InvalidHurt_init⟩
def a_InvalidHurt_init : PySem.W.Frag → Addr := fun K => ma K (ga K "InvalidHurt") "__init__"
def d_InvalidScan_init : XD := ⟨"InvalidScan", "InvalidScan.__init__", defArgs s_InvalidScan_init, defBody s_InvalidScan_init, defScope s_InvalidScan_init⟩
def a_InvalidScan_init : PySem.W.Frag → Addr := fun K => ma K (ga K "InvalidScan") "__init__"
def d_InvalidText_init : XD := ⟨"InvalidText", "InvalidText.__init__", defArgs s_InvalidText_init, defBody s_InvalidText_init, defScope s_InvalidText_init⟩
def a_InvalidText_init : PySem.W.Frag → Addr := fun K => ma K (ga K "InvalidText") "__init__"
def d_InvalidCommand_init : XD := ⟨"InvalidCommand", "InvalidCommand.__init__", defArgs s_InvalidCommand_init, defBody s_InvalidCommand_init, defScope s_InvalidCommand_init⟩
def a_InvalidCommand_init : PySem.W.Frag → Addr := fun K => ma K (ga K "InvalidCommand") "__init__"
def d_NoLeg_init : XD := ⟨"NoLeg", "NoLeg.__init__", defArgs s_NoLeg_init, defBody s_NoLeg_init, defScope s_NoLeg_init⟩
def a_NoLeg_init : PySem.W.Frag → Addr := fun K => ma K (ga K "NoLeg") "__init__"
def d_NoWord_init : XD := ⟨"NoWord", "NoWord.__init__", defArgs s_NoWord_init, defBody s_NoWord_init, defScope s_NoWord_init⟩
def a_NoWord_init : PySem.W.Frag → Addr := fun K => ma K (ga K "NoWord") "__init__"
def d_TooMany_init : XD := ⟨"TooMany", "TooMany.__init__", defArgs s_TooMany_init, defBody s_TooMany_init, defScope s_TooMany_init⟩
def a_TooMany_init : PySem.W.Frag → Addr := fun K => ma K (ga K "TooMany") "__init__"
def fn : List DD := [d_is_integer, d_is_name, d_up, d_least_power, d_Lpen, d_Ldraw, d_Lpick, d_Lones, d_Ltwos, d_Lkinds, d_Lbases, d_Lnamed_right, d_Lerrors_right, d_Lpower, d_Lnumbers_right, d_law]
def fx : List XD := [d_InvalidFrame_init, d_InvalidWord_init, d_InvalidBoard_init, d_InvalidAnswer_init, d_NoBoard_init, d_InvalidChain_init, d_InvalidHurt_init, d_InvalidScan_init, d_InvalidText_init, d_InvalidCommand_init, d_NoLeg_init, d_NoWord_init, d_TooMany_init]
structure Tx (K : PySem.W.Frag) (mg : Str → Option Value) : Prop where
  f_IndexError : mg "IndexError" = none
  f_KeyError : mg "KeyError" = none
  f_LookupError : mg "LookupError" = none
  f_OverflowError : mg "OverflowError" = none
  f_ValueError : mg "ValueError" = none
  f_abs : mg "abs" = none
  f_all : mg "all" = none
  f_bool : mg "bool" = none
  f_enumerate : mg "enumerate" = none
  f_int : mg "int" = none
  f_isinstance : mg "isinstance" = none
  f_len : mg "len" = none
  f_list : mg "list" = none
  f_range : mg "range" = none
  f_repr : mg "repr" = none
  f_str : mg "str" = none
  f_super : mg "super" = none
  g_LETTERS : ∃ t, mg "LETTERS" = some (.str "abcdefghijklmnopqrstuvwxyz" t)
  g_MOST_LETTERS : ∃ t, mg "MOST_LETTERS" = some (.int 8 t)
  g_GROUND : ∃ t, mg "GROUND" = some (.str "ground" t)
  g_POWER : ∃ t, mg "POWER" = some (.str "power" t)
  g_NOTHING : ∃ t, mg "NOTHING" = some (.str "nothing" t)
  g_is_integer : mg "is_integer" = some (.ref (ga K "is_integer"))
  g_is_name : mg "is_name" = some (.ref (ga K "is_name"))
  g_up : mg "up" = some (.ref (ga K "up"))
  g_least_power : mg "least_power" = some (.ref (ga K "least_power"))
  g_JoinError : mg "JoinError" = some (.ref (ga K "JoinError"))
  g_InvalidFrame : mg "InvalidFrame" = some (.ref (ga K "InvalidFrame"))
  g_InvalidWord : mg "InvalidWord" = some (.ref (ga K "InvalidWord"))
  g_InvalidBoard : mg "InvalidBoard" = some (.ref (ga K "InvalidBoard"))
  g_InvalidAnswer : mg "InvalidAnswer" = some (.ref (ga K "InvalidAnswer"))
  g_NoBoard : mg "NoBoard" = some (.ref (ga K "NoBoard"))
  g_InvalidChain : mg "InvalidChain" = some (.ref (ga K "InvalidChain"))
  g_InvalidHurt : mg "InvalidHurt" = some (.ref (ga K "InvalidHurt"))
  g_InvalidScan : mg "InvalidScan" = some (.ref (ga K "InvalidScan"))
  g_InvalidText : mg "InvalidText" = some (.ref (ga K "InvalidText"))
  g_InvalidCommand : mg "InvalidCommand" = some (.ref (ga K "InvalidCommand"))
  g_Settled : mg "Settled" = some (.ref (ga K "Settled"))
  g_NothingToUndo : mg "NothingToUndo" = some (.ref (ga K "NothingToUndo"))
  g_MissingError : mg "MissingError" = some (.ref (ga K "MissingError"))
  g_NoLeg : mg "NoLeg" = some (.ref (ga K "NoLeg"))
  g_NoWord : mg "NoWord" = some (.ref (ga K "NoWord"))
  g_TooMany : mg "TooMany" = some (.ref (ga K "TooMany"))
  g_Lpen : mg "_law_pen" = some (.ref (ga K "_law_pen"))
  g_Ldraw : mg "_law_draw" = some (.ref (ga K "_law_draw"))
  g_Lpick : mg "_law_pick" = some (.ref (ga K "_law_pick"))
  g_Lones : mg "_law_ones" = some (.ref (ga K "_law_ones"))
  g_Ltwos : mg "_law_twos" = some (.ref (ga K "_law_twos"))
  g_Lkinds : mg "_law_kinds" = some (.ref (ga K "_law_kinds"))
  g_Lbases : mg "_law_bases" = some (.ref (ga K "_law_bases"))
  g_Lnamed_right : mg "_law_named_right" = some (.ref (ga K "_law_named_right"))
  g_Lerrors_right : mg "_law_errors_right" = some (.ref (ga K "_law_errors_right"))
  g_Lpower : mg "_law_power" = some (.ref (ga K "_law_power"))
  g_Lnumbers_right : mg "_law_numbers_right" = some (.ref (ga K "_law_numbers_right"))
  g_law : mg "law" = some (.ref (ga K "law"))
  x_InvalidFrame : ExT K "InvalidFrame" "ValueError" "ValueError.__new__" "ValueError.__init__" [.type "ValueError", .type "Exception", .type "BaseException", .type "object"] ["reason"]
  x_InvalidWord : ExT K "InvalidWord" "ValueError" "ValueError.__new__" "ValueError.__init__" [.type "ValueError", .type "Exception", .type "BaseException", .type "object"] ["name"]
  x_InvalidBoard : ExT K "InvalidBoard" "ValueError" "ValueError.__new__" "ValueError.__init__" [.type "ValueError", .type "Exception", .type "BaseException", .type "object"] ["reason"]
  x_InvalidAnswer : ExT K "InvalidAnswer" "ValueError" "ValueError.__new__" "ValueError.__init__" [.type "ValueError", .type "Exception", .type "BaseException", .type "object"] ["index", "name"]
  x_NoBoard : ExT K "NoBoard" "ValueError" "ValueError.__new__" "ValueError.__init__" [.type "ValueError", .type "Exception", .type "BaseException", .type "object"] ["index", "name"]
  x_InvalidChain : ExT K "InvalidChain" "ValueError" "ValueError.__new__" "ValueError.__init__" [.type "ValueError", .type "Exception", .type "BaseException", .type "object"] ["reason"]
  x_InvalidHurt : ExT K "InvalidHurt" "ValueError" "ValueError.__new__" "ValueError.__init__" [.type "ValueError", .type "Exception", .type "BaseException", .type "object"] ["reason"]
  x_InvalidScan : ExT K "InvalidScan" "ValueError" "ValueError.__new__" "ValueError.__init__" [.type "ValueError", .type "Exception", .type "BaseException", .type "object"] ["index"]
  x_InvalidText : ExT K "InvalidText" "ValueError" "ValueError.__new__" "ValueError.__init__" [.type "ValueError", .type "Exception", .type "BaseException", .type "object"] ["line", "word"]
  x_InvalidCommand : ExT K "InvalidCommand" "ValueError" "ValueError.__new__" "ValueError.__init__" [.type "ValueError", .type "Exception", .type "BaseException", .type "object"] ["word"]
  x_NoLeg : ExT K "NoLeg" "LookupError" "LookupError.__new__" "LookupError.__init__" [.type "LookupError", .type "Exception", .type "BaseException", .type "object"] ["name"]
  x_NoWord : ExT K "NoWord" "LookupError" "LookupError.__new__" "LookupError.__init__" [.type "LookupError", .type "Exception", .type "BaseException", .type "object"] ["index"]
  x_TooMany : ExT K "TooMany" "OverflowError" "OverflowError.__new__" "OverflowError.__init__" [.type "OverflowError", .type "ArithmeticError", .type "Exception", .type "BaseException", .type "object"] ["most"]
  sys : (K.lookup sysModules).isSome = true
  xn_Settled : ExN K (ga K "Settled") "ValueError.__new__" [.type "ValueError", .type "Exception", .type "BaseException", .type "object"]
  xn_NothingToUndo : ExN K (ga K "NothingToUndo") "ValueError.__new__" [.type "ValueError", .type "Exception", .type "BaseException", .type "object"]
  kit : ∀ c ∈ errs, ∀ d ∈ errs2, PySem.W.kitOne K (.ref (ga K c)) (.ref (ga K d)) = some (isK c d)
  kitb : ∀ c ∈ errs, ∀ d ∈ ["ValueError", "LookupError", "OverflowError", "KeyError", "IndexError"], PySem.W.kitOne K (.ref (ga K c)) (.type d) = some (isT c d)
  xc : ∀ c ∈ errs, L2.ExcC K (ga K c)
  d_is_integer : ∃ fd, Fn_is_integer K fd
  d_is_name : ∃ fd, Fn_is_name K fd
  d_up : ∃ fd, Fn_up K fd
  d_least_power : ∃ fd, Fn_least_power K fd
  d_Lpen : ∃ fd, Fn_Lpen K fd
  d_Ldraw : ∃ fd, Fn_Ldraw K fd
  d_Lpick : ∃ fd, Fn_Lpick K fd
  d_Lones : ∃ fd, Fn_Lones K fd
  d_Ltwos : ∃ fd, Fn_Ltwos K fd
  d_Lkinds : ∃ fd, Fn_Lkinds K fd
  d_Lbases : ∃ fd, Fn_Lbases K fd
  d_Lnamed_right : ∃ fd, Fn_Lnamed_right K fd
  d_Lerrors_right : ∃ fd, Fn_Lerrors_right K fd
  d_Lpower : ∃ fd, Fn_Lpower K fd
  d_Lnumbers_right : ∃ fd, Fn_Lnumbers_right K fd
  d_law : ∃ fd, Fn_law K fd
  e_InvalidFrame_init : fnXA K (d_InvalidFrame_init.ad K) = d_InvalidFrame_init.val ∧ d_InvalidFrame_init.ok PySem.Challenge.pw_strayjoins_k01_errors_and_numbers.main.file K = true
  e_InvalidWord_init : fnXA K (d_InvalidWord_init.ad K) = d_InvalidWord_init.val ∧ d_InvalidWord_init.ok PySem.Challenge.pw_strayjoins_k01_errors_and_numbers.main.file K = true
  e_InvalidBoard_init : fnXA K (d_InvalidBoard_init.ad K) = d_InvalidBoard_init.val ∧ d_InvalidBoard_init.ok PySem.Challenge.pw_strayjoins_k01_errors_and_numbers.main.file K = true
  e_InvalidAnswer_init : fnXA K (d_InvalidAnswer_init.ad K) = d_InvalidAnswer_init.val ∧ d_InvalidAnswer_init.ok PySem.Challenge.pw_strayjoins_k01_errors_and_numbers.main.file K = true
  e_NoBoard_init : fnXA K (d_NoBoard_init.ad K) = d_NoBoard_init.val ∧ d_NoBoard_init.ok PySem.Challenge.pw_strayjoins_k01_errors_and_numbers.main.file K = true
  e_InvalidChain_init : fnXA K (d_InvalidChain_init.ad K) = d_InvalidChain_init.val ∧ d_InvalidChain_init.ok PySem.Challenge.pw_strayjoins_k01_errors_and_numbers.main.file K = true
  e_InvalidHurt_init : fnXA K (d_InvalidHurt_init.ad K) = d_InvalidHurt_init.val ∧ d_InvalidHurt_init.ok PySem.Challenge.pw_strayjoins_k01_errors_and_numbers.main.file K = true
  e_InvalidScan_init : fnXA K (d_InvalidScan_init.ad K) = d_InvalidScan_init.val ∧ d_InvalidScan_init.ok PySem.Challenge.pw_strayjoins_k01_errors_and_numbers.main.file K = true
  e_InvalidText_init : fnXA K (d_InvalidText_init.ad K) = d_InvalidText_init.val ∧ d_InvalidText_init.ok PySem.Challenge.pw_strayjoins_k01_errors_and_numbers.main.file K = true
  e_InvalidCommand_init : fnXA K (d_InvalidCommand_init.ad K) = d_InvalidCommand_init.val ∧ d_InvalidCommand_init.ok PySem.Challenge.pw_strayjoins_k01_errors_and_numbers.main.file K = true
  e_NoLeg_init : fnXA K (d_NoLeg_init.ad K) = d_NoLeg_init.val ∧ d_NoLeg_init.ok PySem.Challenge.pw_strayjoins_k01_errors_and_numbers.main.file K = true
  e_NoWord_init : fnXA K (d_NoWord_init.ad K) = d_NoWord_init.val ∧ d_NoWord_init.ok PySem.Challenge.pw_strayjoins_k01_errors_and_numbers.main.file K = true
  e_TooMany_init : fnXA K (d_TooMany_init.ad K) = d_TooMany_init.val ∧ d_TooMany_init.ok PySem.Challenge.pw_strayjoins_k01_errors_and_numbers.main.file K = true
def fa : List Tst := [fun K => (Fa.free "IndexError").ok K,
  fun K => (Fa.free "KeyError").ok K,
  fun K => (Fa.free "LookupError").ok K,
  fun K => (Fa.free "OverflowError").ok K,
  fun K => (Fa.free "ValueError").ok K,
  fun K => (Fa.free "abs").ok K,
  fun K => (Fa.free "all").ok K,
  fun K => (Fa.free "bool").ok K,
  fun K => (Fa.free "enumerate").ok K,
  fun K => (Fa.free "int").ok K,
  fun K => (Fa.free "isinstance").ok K,
  fun K => (Fa.free "len").ok K,
  fun K => (Fa.free "list").ok K,
  fun K => (Fa.free "range").ok K,
  fun K => (Fa.free "repr").ok K,
  fun K => (Fa.free "str").ok K,
  fun K => (Fa.free "super").ok K,
  fun K => (Fa.str "LETTERS" "abcdefghijklmnopqrstuvwxyz").ok K,
  fun K => (Fa.int "MOST_LETTERS" 8).ok K,
  fun K => (Fa.str "GROUND" "ground").ok K,
  fun K => (Fa.str "POWER" "power").ok K,
  fun K => (Fa.str "NOTHING" "nothing").ok K,
  fun K => (Fa.glo "is_integer").ok K,
  fun K => (Fa.glo "is_name").ok K,
  fun K => (Fa.glo "up").ok K,
  fun K => (Fa.glo "least_power").ok K,
  fun K => (Fa.glo "JoinError").ok K,
  fun K => (Fa.glo "InvalidFrame").ok K,
  fun K => (Fa.glo "InvalidWord").ok K,
  fun K => (Fa.glo "InvalidBoard").ok K,
  fun K => (Fa.glo "InvalidAnswer").ok K,
  fun K => (Fa.glo "NoBoard").ok K,
  fun K => (Fa.glo "InvalidChain").ok K,
  fun K => (Fa.glo "InvalidHurt").ok K,
  fun K => (Fa.glo "InvalidScan").ok K,
  fun K => (Fa.glo "InvalidText").ok K,
  fun K => (Fa.glo "InvalidCommand").ok K,
  fun K => (Fa.glo "Settled").ok K,
  fun K => (Fa.glo "NothingToUndo").ok K,
  fun K => (Fa.glo "MissingError").ok K,
  fun K => (Fa.glo "NoLeg").ok K,
  fun K => (Fa.glo "NoWord").ok K,
  fun K => (Fa.glo "TooMany").ok K,
  fun K => (Fa.glo "_law_pen").ok K,
  fun K => (Fa.glo "_law_draw").ok K,
  fun K => (Fa.glo "_law_pick").ok K,
  fun K => (Fa.glo "_law_ones").ok K,
  fun K => (Fa.glo "_law_twos").ok K,
  fun K => (Fa.glo "_law_kinds").ok K,
  fun K => (Fa.glo "_law_bases").ok K,
  fun K => (Fa.glo "_law_named_right").ok K,
  fun K => (Fa.glo "_law_errors_right").ok K,
  fun K => (Fa.glo "_law_power").ok K,
  fun K => (Fa.glo "_law_numbers_right").ok K,
  fun K => (Fa.glo "law").ok K,
  exT "InvalidFrame" "ValueError" "ValueError.__new__" "ValueError.__init__" [.type "ValueError", .type "Exception", .type "BaseException", .type "object"] ["reason"],
  exT "InvalidWord" "ValueError" "ValueError.__new__" "ValueError.__init__" [.type "ValueError", .type "Exception", .type "BaseException", .type "object"] ["name"],
  exT "InvalidBoard" "ValueError" "ValueError.__new__" "ValueError.__init__" [.type "ValueError", .type "Exception", .type "BaseException", .type "object"] ["reason"],
  exT "InvalidAnswer" "ValueError" "ValueError.__new__" "ValueError.__init__" [.type "ValueError", .type "Exception", .type "BaseException", .type "object"] ["index", "name"],
  exT "NoBoard" "ValueError" "ValueError.__new__" "ValueError.__init__" [.type "ValueError", .type "Exception", .type "BaseException", .type "object"] ["index", "name"],
  exT "InvalidChain" "ValueError" "ValueError.__new__" "ValueError.__init__" [.type "ValueError", .type "Exception", .type "BaseException", .type "object"] ["reason"],
  exT "InvalidHurt" "ValueError" "ValueError.__new__" "ValueError.__init__" [.type "ValueError", .type "Exception", .type "BaseException", .type "object"] ["reason"],
  exT "InvalidScan" "ValueError" "ValueError.__new__" "ValueError.__init__" [.type "ValueError", .type "Exception", .type "BaseException", .type "object"] ["index"],
  exT "InvalidText" "ValueError" "ValueError.__new__" "ValueError.__init__" [.type "ValueError", .type "Exception", .type "BaseException", .type "object"] ["line", "word"],
  exT "InvalidCommand" "ValueError" "ValueError.__new__" "ValueError.__init__" [.type "ValueError", .type "Exception", .type "BaseException", .type "object"] ["word"],
  exT "NoLeg" "LookupError" "LookupError.__new__" "LookupError.__init__" [.type "LookupError", .type "Exception", .type "BaseException", .type "object"] ["name"],
  exT "NoWord" "LookupError" "LookupError.__new__" "LookupError.__init__" [.type "LookupError", .type "Exception", .type "BaseException", .type "object"] ["index"],
  exT "TooMany" "OverflowError" "OverflowError.__new__" "OverflowError.__init__" [.type "OverflowError", .type "ArithmeticError", .type "Exception", .type "BaseException", .type "object"] ["most"],
  sysT,
  xnT "Settled" "ValueError.__new__" [.type "ValueError", .type "Exception", .type "BaseException", .type "object"],
  xnT "NothingToUndo" "ValueError.__new__" [.type "ValueError", .type "Exception", .type "BaseException", .type "object"],
  kitTab errs (errs2) isK,
  kitTyp errs ["ValueError", "LookupError", "OverflowError", "KeyError", "IndexError"] isT,
  xcTab errs]
theorem tx_of {K : PySem.W.Frag} {h : Heap} {mg : Str → Option Value} (X : K.In h) (G : h.Ns mainGlobals mg) (c : SaysZ PySem.Challenge.pw_strayjoins_k01_errors_and_numbers.main.file fa fn fx K) : Tx K mg where
  f_IndexError := free_ok X G (c.fact 0)
  f_KeyError := free_ok X G (c.fact 1)
  f_LookupError := free_ok X G (c.fact 2)
  f_OverflowError := free_ok X G (c.fact 3)
  f_ValueError := free_ok X G (c.fact 4)
  f_abs := free_ok X G (c.fact 5)
  f_all := free_ok X G (c.fact 6)
  f_bool := free_ok X G (c.fact 7)
  f_enumerate := free_ok X G (c.fact 8)
  f_int := free_ok X G (c.fact 9)
  f_isinstance := free_ok X G (c.fact 10)
  f_len := free_ok X G (c.fact 11)
  f_list := free_ok X G (c.fact 12)
  f_range := free_ok X G (c.fact 13)
  f_repr := free_ok X G (c.fact 14)
  f_str := free_ok X G (c.fact 15)
  f_super := free_ok X G (c.fact 16)
  g_LETTERS := str_ok X G (c.fact 17)
  g_MOST_LETTERS := int_ok X G (c.fact 18)
  g_GROUND := str_ok X G (c.fact 19)
  g_POWER := str_ok X G (c.fact 20)
  g_NOTHING := str_ok X G (c.fact 21)
  g_is_integer := glo_ok X G (c.fact 22)
  g_is_name := glo_ok X G (c.fact 23)
  g_up := glo_ok X G (c.fact 24)
  g_least_power := glo_ok X G (c.fact 25)
  g_JoinError := glo_ok X G (c.fact 26)
  g_InvalidFrame := glo_ok X G (c.fact 27)
  g_InvalidWord := glo_ok X G (c.fact 28)
  g_InvalidBoard := glo_ok X G (c.fact 29)
  g_InvalidAnswer := glo_ok X G (c.fact 30)
  g_NoBoard := glo_ok X G (c.fact 31)
  g_InvalidChain := glo_ok X G (c.fact 32)
  g_InvalidHurt := glo_ok X G (c.fact 33)
  g_InvalidScan := glo_ok X G (c.fact 34)
  g_InvalidText := glo_ok X G (c.fact 35)
  g_InvalidCommand := glo_ok X G (c.fact 36)
  g_Settled := glo_ok X G (c.fact 37)
  g_NothingToUndo := glo_ok X G (c.fact 38)
  g_MissingError := glo_ok X G (c.fact 39)
  g_NoLeg := glo_ok X G (c.fact 40)
  g_NoWord := glo_ok X G (c.fact 41)
  g_TooMany := glo_ok X G (c.fact 42)
  g_Lpen := glo_ok X G (c.fact 43)
  g_Ldraw := glo_ok X G (c.fact 44)
  g_Lpick := glo_ok X G (c.fact 45)
  g_Lones := glo_ok X G (c.fact 46)
  g_Ltwos := glo_ok X G (c.fact 47)
  g_Lkinds := glo_ok X G (c.fact 48)
  g_Lbases := glo_ok X G (c.fact 49)
  g_Lnamed_right := glo_ok X G (c.fact 50)
  g_Lerrors_right := glo_ok X G (c.fact 51)
  g_Lpower := glo_ok X G (c.fact 52)
  g_Lnumbers_right := glo_ok X G (c.fact 53)
  g_law := glo_ok X G (c.fact 54)
  x_InvalidFrame := exT_ok (c.fact 55)
  x_InvalidWord := exT_ok (c.fact 56)
  x_InvalidBoard := exT_ok (c.fact 57)
  x_InvalidAnswer := exT_ok (c.fact 58)
  x_NoBoard := exT_ok (c.fact 59)
  x_InvalidChain := exT_ok (c.fact 60)
  x_InvalidHurt := exT_ok (c.fact 61)
  x_InvalidScan := exT_ok (c.fact 62)
  x_InvalidText := exT_ok (c.fact 63)
  x_InvalidCommand := exT_ok (c.fact 64)
  x_NoLeg := exT_ok (c.fact 65)
  x_NoWord := exT_ok (c.fact 66)
  x_TooMany := exT_ok (c.fact 67)
  sys := id (c.fact 68)
  xn_Settled := xnT_ok (c.fact 69)
  xn_NothingToUndo := xnT_ok (c.fact 70)
  kit := kitTab_ok (c.fact 71)
  kitb := kitTyp_ok (c.fact 72)
  xc := xcTab_ok (c.fact 73)
  d_is_integer := c.def_ 0
  d_is_name := c.def_ 1
  d_up := c.def_ 2
  d_least_power := c.def_ 3
  d_Lpen := c.def_ 4
  d_Ldraw := c.def_ 5
  d_Lpick := c.def_ 6
  d_Lones := c.def_ 7
  d_Ltwos := c.def_ 8
  d_Lkinds := c.def_ 9
  d_Lbases := c.def_ 10
  d_Lnamed_right := c.def_ 11
  d_Lerrors_right := c.def_ 12
  d_Lpower := c.def_ 13
  d_Lnumbers_right := c.def_ 14
  d_law := c.def_ 15
  e_InvalidFrame_init := c.exc 0
  e_InvalidWord_init := c.exc 1
  e_InvalidBoard_init := c.exc 2
  e_InvalidAnswer_init := c.exc 3
  e_NoBoard_init := c.exc 4
  e_InvalidChain_init := c.exc 5
  e_InvalidHurt_init := c.exc 6
  e_InvalidScan_init := c.exc 7
  e_InvalidText_init := c.exc 8
  e_InvalidCommand_init := c.exc 9
  e_NoLeg_init := c.exc 10
  e_NoWord_init := c.exc 11
  e_TooMany_init := c.exc 12
/-! ### the data -/
/-- the i-th error's object -/
def IsErr (K : PySem.W.Frag) (H : Hp) (a : Addr) (i : Nat) : Prop := ∃ c, errs[i]? = some c ∧ ((∃ gs, XE H a (ga K c) gs) ∨ XAt H a (ga K c) none)
structure Row where
  p : Addr
  e : Addr
  v : V
def RowOk (K : PySem.W.Frag) (H : Hp) (i : Nat) (r : Row) : Prop := H r.p = some (.tup [.ref r.e, r.v]) ∧ IsErr K H r.e i
/-- rows i, i+1, .. -/
def RowsOk (K : PySem.W.Frag) (H : Hp) (i : Nat) (rs : List Row) : Prop := ∀ j r, rs[j]? = some r → RowOk K H (i + j) r
/-- data that may be shown -/
def Shows (K : PySem.W.Frag) (H : Hp) (x : V) (d : PyData) : Prop := Dq K H x d ∧ Sh 10 100 d
/-! ### promises -/
def sp_is_integer (K : PySem.W.Frag) : Sp := fun vs H Q _ => ∃ (x : V) (t : Value) (b c : Bool), vs = [x] ∧ TyX K H x t ∧ PySem.W.kitOne K t (.type "int") = some b ∧ PySem.W.kitOne K t (.type "bool") = some c ∧ Q (.bl (b && !c)) H
def sp_is_name (K : PySem.W.Frag) : Sp := spName K
def sp_up (_ : PySem.W.Frag) : Sp := fun vs H Q _ => ∃ n b : Int, vs = [.int n, .int b] ∧ 0 < b ∧ b < 1073741824 ∧ Q (.int ((n + b - 1) / b)) H
def sp_least_power (_ : PySem.W.Frag) : Sp := fun vs H Q _ => ∃ b n : Int, vs = [.int b, .int n] ∧ 2 ≤ b ∧ b ≤ 2000000 ∧ n ≤ 2 ^ 200 ∧ ∀ (m : Nat) (H2 : Hp), Same H H2 → n ≤ b ^ m → (m = 0 ∨ b ^ (m - 1) < n) → m ≤ 201 → Q (.int m) H2
def sp_Lpen (K : PySem.W.Frag) : Sp := spPen K
def sp_Ldraw (_ : PySem.W.Frag) : Sp := spDraw
def sp_Lpick (K : PySem.W.Frag) : Sp := spPick K
def sp_Lones (K : PySem.W.Frag) : Sp := fun vs H Q _ => ∃ x, vs = [x] ∧ ∀ l H2 (rs : List Row), H l = none → Same H H2 → H2 l = some (.lst (rs.map fun r => .ref r.p)) → rs.length = 10 → RowsOk K H2 0 rs → (∀ r ∈ rs, r.v = x) → Q (.ref l) H2
def sp_Ltwos (K : PySem.W.Frag) : Sp := fun vs H Q _ => ∃ x y, vs = [x, y] ∧ ∀ l H2 (rs : List Row), H l = none → Same H H2 → H2 l = some (.lst (rs.map fun r => .ref r.p)) → rs.length = 3 → RowsOk K H2 10 rs → (∀ r ∈ rs, ∃ q, r.v = .ref q ∧ H2 q = some (.tup [x, y])) → Q (.ref l) H2
def kindsOf (i : Nat) : List Bool := (List.range 15).map fun k => decide (k = i)
def basesOf (i : Nat) : List Bool := [decide (i < 7) || decide (9 < i), decide (i < 7) || decide (9 < i), decide (i = 7) || decide (i = 8), decide (i = 7) || decide (i = 8), decide (i = 9), false, false]
def sp_Lkinds (K : PySem.W.Frag) : Sp := fun vs H Q _ => ∃ a i, vs = [.ref a] ∧ IsErr K H a i ∧ ∀ l H2, H l = none → Same H H2 → H2 l = some (.lst ((kindsOf i).map V.bl)) → Q (.ref l) H2
def sp_Lbases (K : PySem.W.Frag) : Sp := fun vs H Q _ => ∃ a i, vs = [.ref a] ∧ IsErr K H a i ∧ ∀ l H2, H l = none → Same H H2 → H2 l = some (.lst ((basesOf i).map V.bl)) → Q (.ref l) H2
def sp_Lnamed_right (K : PySem.W.Frag) : Sp := fun vs H Q _ => ∃ x y dx dy, vs = [x, y] ∧ Shows K H x dx ∧ Shows K H y dy ∧ ∀ H2, Same H H2 → Q (.bl true) H2
def sp_Lerrors_right (K : PySem.W.Frag) : Sp := fun vs H Q _ => ∃ P n, vs = [.ref P.p] ∧ PenAt H P n ∧ n + 2 < 100000 ∧ ∀ H2, PenAt H2 P (n + 2) → Same (L2.del H P.p) (L2.del H2 P.p) → Q (.bl true) H2
def sp_Lpower (_ : PySem.W.Frag) : Sp := fun vs H Q _ => ∃ (b : Int) (m : Nat), vs = [.int b, .int m] ∧ 2 ≤ b ∧ b ≤ 2000000 ∧ m ≤ 1000 ∧ Q (.int (b ^ m)) H
def sp_Lnumbers_right (K : PySem.W.Frag) : Sp := fun vs H Q _ => ∃ P n, vs = [.ref P.p] ∧ PenAt H P n ∧ n + 11 < 100000 ∧ ∀ H2, PenAt H2 P (n + 11) → Same (L2.del H P.p) (L2.del H2 P.p) → Q (.bl true) H2
def sp_law (K : PySem.W.Frag) : Sp := fun vs H Q _ => ∃ (a : Addr) (ns : List Int), vs = [.ref a] ∧ SqL K H a (ns.map V.int) ∧ ns.length ≤ 63 ∧ ∀ H2, Q (.bl true) H2
abbrev gkb_InvalidFrame_init_reason : List V → List V → List V := kwV [0, 1]
abbrev gkb_InvalidWord_init_name : List V → List V → List V := kwV [0, 1]
abbrev gkb_InvalidBoard_init_reason : List V → List V → List V := kwV [0, 1]
abbrev gkb_InvalidAnswer_init_name_index : List V → List V → List V := kwV [0, 2, 1]
abbrev gkb_NoBoard_init_name_index : List V → List V → List V := kwV [0, 2, 1]
abbrev gkb_InvalidChain_init_reason : List V → List V → List V := kwV [0, 1]
abbrev gkb_InvalidHurt_init_reason : List V → List V → List V := kwV [0, 1]
abbrev gkb_InvalidScan_init_index : List V → List V → List V := kwV [0, 1]
abbrev gkb_InvalidText_init_word_line : List V → List V → List V := kwV [0, 2, 1]
abbrev gkb_InvalidCommand_init_word : List V → List V → List V := kwV [0, 1]
abbrev gkb_NoLeg_init_name : List V → List V → List V := kwV [0, 1]
abbrev gkb_NoWord_init_index : List V → List V → List V := kwV [0, 1]
abbrev gkb_TooMany_init_most : List V → List V → List V := kwV [0, 1]
abbrev gkb_is_integer_0_value : List V → List V → List V := kwV [0]
theorem kb_is_integer_0_value {K : PySem.W.Frag} {fd : FuncData} (F : Fn_is_integer K fd) : KBn K fd ["value"] 0 ["value"] (kwW [0]) (kwV [0]) := kw_of F (fun _ _ _ _ _ _ us ws h1 h2 => match us, ws, h1, h2 with | [], [_], _, _ => rfl) kw_rel
abbrev gkb_is_name_0_value : List V → List V → List V := kwV [0]
theorem kb_is_name_0_value {K : PySem.W.Frag} {fd : FuncData} (F : Fn_is_name K fd) : KBn K fd ["value"] 0 ["value"] (kwW [0]) (kwV [0]) := kw_of F (fun _ _ _ _ _ _ us ws h1 h2 => match us, ws, h1, h2 with | [], [_], _, _ => rfl) kw_rel
abbrev gkb_least_power_0_base_number : List V → List V → List V := kwV [0, 1]
theorem kb_least_power_0_base_number {K : PySem.W.Frag} {fd : FuncData} (F : Fn_least_power K fd) : KBn K fd ["base", "number"] 0 ["base", "number"] (kwW [0, 1]) (kwV [0, 1]) := kw_of F (fun _ _ _ _ _ _ us ws h1 h2 => match us, ws, h1, h2 with | [], [_, _], _, _ => rfl) kw_rel
abbrev gkb_up_0_number_by : List V → List V → List V := kwV [0, 1]
theorem kb_up_0_number_by {K : PySem.W.Frag} {fd : FuncData} (F : Fn_up K fd) : KBn K fd ["number", "by"] 0 ["number", "by"] (kwW [0, 1]) (kwV [0, 1]) := kw_of F (fun _ _ _ _ _ _ us ws h1 h2 => match us, ws, h1, h2 with | [], [_, _], _, _ => rfl) kw_rel
def t_is_integer (K : PySem.W.Frag) : TS := (tRet (tAndV (tCB (rIsiU K) (tCons (tVar 0) (tCons (tC (.ty "int")) tNil))) (tNotV (tCB (rIsiU K) (tCons (tVar 0) (tCons (tC (.ty "bool")) tNil))))))
def t_is_name (K : PySem.W.Frag) : TS := (tSeq (tIfS (tOr (tNot (tB (tCB (rIsiU K) (tCons (tVar 0) (tCons (tC (.ty "str")) tNil))))) (tNot (tTest (tChain rLeU rLeU (tC (.int 1)) (tCB (rLenU K) (tCons (tVar 0) tNil)) (tC (.int 8)))))) (tRet (tC (.bl false))) tNext) (tRet (tAndV (tCB (rAll K) (tCons (tLc (iStr (tVar 0)) (gName 1) tYes (tOp rInS (tVar 1) (tC (.str "abcdefghijklmnopqrstuvwxyz"))) [1]) tNil)) (tOp (rInU K true) (tVar 0) (tTup (tCons (tC (.str "ground")) (tCons (tC (.str "power")) (tCons (tC (.str "nothing")) tNil))))))))
def t_up (K : PySem.W.Frag) : TS := (tRet (tOp rFdv (tOp SJ.rSub (tOp (rAdd K) (tVar 0) (tVar 1)) (tC (.int 1))) (tVar 1)))
def t_least_power (K : PySem.W.Frag) : TS := (tSeq (tAsg (tTup (tCons (tC (.int 0)) (tCons (tC (.int 1)) tNil))) (gTup K 2 (gCons (gName 2) (gCons (gName 3) gNil)))) (tSeq (tWhile (tTest (tOp rLtU (tVar 3) (tVar 1))) (tSeq (tAug 2 (tC (.int 1)) (ipI fun i j => i + j)) (tAug 3 (tVar 0) (rI CMul fun i j => .int (i * j))))) (tRet (tVar 2))))
def t_Lpen (K : PySem.W.Frag) : TS := (tRet (tLst (tCons (tCB (rListU K) (tCons (tSl (rSlU K) (tVar 0) tNoPart (tPart (tC (.int 63)))) tNil)) (tCons (tC (.int 0)) (tCons (tC (.int 0)) tNil)))))
def t_Ldraw (K : PySem.W.Frag) : TS := (tSeq (tIfS (tTest (tOp rGtU (tOp (rIx K) (tVar 0) (tC (.int 2))) (tC (.int 0)))) (tSeq (tAsg (tOp rMod (tCB rInt (tCons (tOp (rIx K) (tVar 0) (tC (.int 2))) tNil)) (tVar 1)) (gName 2)) (tSeq (tAsg (tOp rFdv (tCB rInt (tCons (tOp (rIx K) (tVar 0) (tC (.int 2))) tNil)) (tVar 1)) (gSub (tVar 0) (tC (.int 2)) rSetL)) (tRet (tVar 2)))) tNext) (tSeq (tAsg (tOp (rIx K) (tVar 0) (tC (.int 1))) (gName 3)) (tSeq (tAsg (tOp (rAdd K) (tVar 3) (tC (.int 1))) (gSub (tVar 0) (tC (.int 1)) rSetL)) (tSeq (tAsg (tOp (rAdd K) (tOp (rMul K) (tC (.int 51001)) (tVar 3)) (tC (.int 101))) (gName 4)) (tSeq (tIfS (tTest (tOp (rNeU K) (tOp (rIx K) (tVar 0) (tC (.int 0))) (tLst tNil))) (tAsg (tOp (rIx K) (tOp (rIx K) (tVar 0) (tC (.int 0))) (tOp rMod (tCB rInt (tCons (tVar 3) tNil)) (tCB (rLenU K) (tCons (tOp (rIx K) (tVar 0) (tC (.int 0))) tNil)))) (gName 4)) tNext) (tSeq (tIfS (tAnd (tTest (tOp rLtU (tVar 3) (tCB (rLenU K) (tCons (tOp (rIx K) (tVar 0) (tC (.int 0))) tNil)))) (tTest (tOp rGeU (tCB rAbs (tCons (tVar 4) tNil)) (tOp rPow (tC (.int 10)) (tC (.int 18)))))) (tSeq (tAsg (tOp (rAdd K) (tOp (rMul K) (tC (.int 2)) (tCB rAbs (tCons (tVar 4) tNil))) (tCB rInt (tCons (tOp rLtU (tVar 4) (tC (.int 0))) tNil))) (gName 5)) (tSeq (tAsg (tOp rFdv (tCB rInt (tCons (tVar 5) tNil)) (tVar 1)) (gSub (tVar 0) (tC (.int 2)) rSetL)) (tRet (tOp rMod (tCB rInt (tCons (tVar 5) tNil)) (tVar 1))))) tNext) (tSeq (tAsg (tOp rMod (tOp rPow (tCB rInt (tCons (tOp (rAdd K) (tOp (rAdd K) (tOp rMod (tCB rInt (tCons (tVar 4) tNil)) (tC (.int 2147483563))) (tOp (rMul K) (tC (.int 48017)) (tVar 3))) (tC (.int 7))) tNil)) (tC (.int 5))) (tC (.int 2147483579))) (gName 6)) (tSeq (tAsg (tOp rMod (tOp rPow (tCB rInt (tCons (tOp (rAdd K) (tOp (rAdd K) (tOp (rMul K) (tVar 6) (tOp (rAdd K) (tOp (rMul K) (tC (.int 2)) (tVar 3)) (tC (.int 5)))) (tOp (rMul K) (tOp (rMul K) (tC (.int 50021)) (tVar 3)) (tVar 3))) (tC (.int 11))) tNil)) (tC (.int 3))) (tC (.int 2147483629))) (gName 6)) (tRet (tOp rMod (tCB rInt (tCons (tOp rFdv (tVar 6) (tC (.int 16))) tNil)) (tVar 1)))))))))))
def t_Lpick (K : PySem.W.Frag) : TS := (tRet (tOp (rIx K) (tVar 1) (tFn (sp_Ldraw K) [] W0 (tCons (tVar 0) (tCons (tCB (rLenU K) (tCons (tVar 1) tNil)) tNil)))))
def t_Lones (K : PySem.W.Frag) : TS := (tSeq (tPar 1 2 (tCons (tXn (ga K "InvalidFrame") ["reason"] (tCons (tVar 0) tNil)) (tCons (tXn (ga K "InvalidWord") ["name"] (tCons (tVar 0) tNil)) tNil))) (tSeq (tAsg (tLst (tCons (tTup (tCons (tVar 1) (tCons (tXv K "reason" (tVar 1)) tNil))) (tCons (tTup (tCons (tVar 2) (tCons (tXv K "name" (tVar 2)) tNil))) tNil))) (gName 3)) (tSeq (tPar 1 2 (tCons (tXn (ga K "InvalidBoard") ["reason"] (tCons (tVar 0) tNil)) (tCons (tXn (ga K "InvalidChain") ["reason"] (tCons (tVar 0) tNil)) tNil))) (tSeq (tAsg (tOp (rAdd K) (tVar 3) (tLst (tCons (tTup (tCons (tVar 1) (tCons (tXv K "reason" (tVar 1)) tNil))) (tCons (tTup (tCons (tVar 2) (tCons (tXv K "reason" (tVar 2)) tNil))) tNil)))) (gName 3)) (tSeq (tPar3 4 5 6 (tCons (tXn (ga K "InvalidHurt") ["reason"] (tCons (tVar 0) tNil)) (tCons (tXn (ga K "InvalidScan") ["index"] (tCons (tVar 0) tNil)) (tCons (tXn (ga K "InvalidCommand") ["word"] (tCons (tVar 0) tNil)) tNil)))) (tSeq (tAsg (tOp (rAdd K) (tVar 3) (tLst (tCons (tTup (tCons (tVar 4) (tCons (tXv K "reason" (tVar 4)) tNil))) (tCons (tTup (tCons (tVar 5) (tCons (tXv K "index" (tVar 5)) tNil))) (tCons (tTup (tCons (tVar 6) (tCons (tXv K "word" (tVar 6)) tNil))) tNil))))) (gName 3)) (tSeq (tPar3 7 8 9 (tCons (tXn (ga K "NoLeg") ["name"] (tCons (tVar 0) tNil)) (tCons (tXn (ga K "NoWord") ["index"] (tCons (tVar 0) tNil)) (tCons (tXn (ga K "TooMany") ["most"] (tCons (tVar 0) tNil)) tNil)))) (tRet (tOp (rAdd K) (tVar 3) (tLst (tCons (tTup (tCons (tVar 7) (tCons (tXv K "name" (tVar 7)) tNil))) (tCons (tTup (tCons (tVar 8) (tCons (tXv K "index" (tVar 8)) tNil))) (tCons (tTup (tCons (tVar 9) (tCons (tXv K "most" (tVar 9)) tNil))) tNil)))))))))))))
def t_Ltwos (K : PySem.W.Frag) : TS := (tSeq (tPar3 2 3 4 (tCons (tXn (ga K "InvalidAnswer") ["index", "name"] (tCons (tVar 0) (tCons (tVar 1) tNil))) (tCons (tXn (ga K "NoBoard") ["index", "name"] (tCons (tVar 0) (tCons (tVar 1) tNil))) (tCons (tXn (ga K "InvalidText") ["line", "word"] (tCons (tVar 0) (tCons (tVar 1) tNil))) tNil)))) (tSeq (tAsg (tLst (tCons (tTup (tCons (tVar 2) (tCons (tTup (tCons (tXv K "index" (tVar 2)) (tCons (tXv K "name" (tVar 2)) tNil))) tNil))) (tCons (tTup (tCons (tVar 3) (tCons (tTup (tCons (tXv K "index" (tVar 3)) (tCons (tXv K "name" (tVar 3)) tNil))) tNil))) tNil))) (gName 5)) (tRet (tOp (rAdd K) (tVar 5) (tLst (tCons (tTup (tCons (tVar 4) (tCons (tTup (tCons (tXv K "line" (tVar 4)) (tCons (tXv K "word" (tVar 4)) tNil))) tNil))) tNil))))))
def t_Lkinds (K : PySem.W.Frag) : TS := (tSeq (tAsg (tLst (tCons (tCB (rIsiU K) (tCons (tVar 0) (tCons (tC (.ref (ga K "InvalidFrame"))) tNil))) (tCons (tCB (rIsiU K) (tCons (tVar 0) (tCons (tC (.ref (ga K "InvalidWord"))) tNil))) (tCons (tCB (rIsiU K) (tCons (tVar 0) (tCons (tC (.ref (ga K "InvalidBoard"))) tNil))) tNil)))) (gName 1)) (tSeq (tAsg (tOp (rAdd K) (tVar 1) (tLst (tCons (tCB (rIsiU K) (tCons (tVar 0) (tCons (tC (.ref (ga K "InvalidChain"))) tNil))) (tCons (tCB (rIsiU K) (tCons (tVar 0) (tCons (tC (.ref (ga K "InvalidHurt"))) tNil))) tNil)))) (gName 1)) (tSeq (tAsg (tOp (rAdd K) (tVar 1) (tLst (tCons (tCB (rIsiU K) (tCons (tVar 0) (tCons (tC (.ref (ga K "InvalidScan"))) tNil))) (tCons (tCB (rIsiU K) (tCons (tVar 0) (tCons (tC (.ref (ga K "InvalidCommand"))) tNil))) tNil)))) (gName 1)) (tSeq (tAsg (tOp (rAdd K) (tVar 1) (tLst (tCons (tCB (rIsiU K) (tCons (tVar 0) (tCons (tC (.ref (ga K "NoLeg"))) tNil))) (tCons (tCB (rIsiU K) (tCons (tVar 0) (tCons (tC (.ref (ga K "NoWord"))) tNil))) (tCons (tCB (rIsiU K) (tCons (tVar 0) (tCons (tC (.ref (ga K "TooMany"))) tNil))) tNil))))) (gName 1)) (tSeq (tAsg (tOp (rAdd K) (tVar 1) (tLst (tCons (tCB (rIsiU K) (tCons (tVar 0) (tCons (tC (.ref (ga K "InvalidAnswer"))) tNil))) (tCons (tCB (rIsiU K) (tCons (tVar 0) (tCons (tC (.ref (ga K "NoBoard"))) tNil))) (tCons (tCB (rIsiU K) (tCons (tVar 0) (tCons (tC (.ref (ga K "InvalidText"))) tNil))) tNil))))) (gName 1)) (tRet (tOp (rAdd K) (tVar 1) (tLst (tCons (tCB (rIsiU K) (tCons (tVar 0) (tCons (tC (.ref (ga K "Settled"))) tNil))) (tCons (tCB (rIsiU K) (tCons (tVar 0) (tCons (tC (.ref (ga K "NothingToUndo"))) tNil))) tNil))))))))))
def t_Lbases (K : PySem.W.Frag) : TS := (tSeq (tAsg (tLst (tCons (tCB (rIsiU K) (tCons (tVar 0) (tCons (tC (.ref (ga K "JoinError"))) tNil))) (tCons (tCB (rIsiU K) (tCons (tVar 0) (tCons (tC (.ty "ValueError")) tNil))) (tCons (tCB (rIsiU K) (tCons (tVar 0) (tCons (tC (.ref (ga K "MissingError"))) tNil))) tNil)))) (gName 1)) (tSeq (tAsg (tOp (rAdd K) (tVar 1) (tLst (tCons (tCB (rIsiU K) (tCons (tVar 0) (tCons (tC (.ty "LookupError")) tNil))) (tCons (tCB (rIsiU K) (tCons (tVar 0) (tCons (tC (.ty "OverflowError")) tNil))) tNil)))) (gName 1)) (tRet (tOp (rAdd K) (tVar 1) (tLst (tCons (tCB (rIsiU K) (tCons (tVar 0) (tCons (tC (.ty "KeyError")) tNil))) (tCons (tCB (rIsiU K) (tCons (tVar 0) (tCons (tC (.ty "IndexError")) tNil))) tNil)))))))
def t_Lnamed_right (K : PySem.W.Frag) : TS := (tSeq (tAsg (tLst (tCons (tXv K "reason" (tXnK (ga K "InvalidFrame") 1 ["reason"] gkb_InvalidFrame_init_reason (tCons (tVar 0) tNil))) (tCons (tXv K "name" (tXnK (ga K "InvalidWord") 1 ["name"] gkb_InvalidWord_init_name (tCons (tVar 0) tNil))) (tCons (tXv K "reason" (tXnK (ga K "InvalidBoard") 1 ["reason"] gkb_InvalidBoard_init_reason (tCons (tVar 0) tNil))) tNil)))) (gName 2)) (tSeq (tAsg (tOp (rAdd K) (tVar 2) (tLst (tCons (tXv K "reason" (tXnK (ga K "InvalidChain") 1 ["reason"] gkb_InvalidChain_init_reason (tCons (tVar 0) tNil))) (tCons (tXv K "reason" (tXnK (ga K "InvalidHurt") 1 ["reason"] gkb_InvalidHurt_init_reason (tCons (tVar 0) tNil))) tNil)))) (gName 2)) (tSeq (tAsg (tOp (rAdd K) (tVar 2) (tLst (tCons (tXv K "index" (tXnK (ga K "InvalidScan") 1 ["index"] gkb_InvalidScan_init_index (tCons (tVar 0) tNil))) (tCons (tXv K "word" (tXnK (ga K "InvalidCommand") 1 ["word"] gkb_InvalidCommand_init_word (tCons (tVar 0) tNil))) (tCons (tXv K "name" (tXnK (ga K "NoLeg") 1 ["name"] gkb_NoLeg_init_name (tCons (tVar 0) tNil))) tNil))))) (gName 2)) (tSeq (tAsg (tOp (rAdd K) (tVar 2) (tLst (tCons (tXv K "index" (tXnK (ga K "NoWord") 1 ["index"] gkb_NoWord_init_index (tCons (tVar 0) tNil))) (tCons (tXv K "most" (tXnK (ga K "TooMany") 1 ["most"] gkb_TooMany_init_most (tCons (tVar 0) tNil))) tNil)))) (gName 2)) (tSeq (tPar 3 4 (tCons (tXnK (ga K "InvalidAnswer") 2 ["index", "name"] gkb_InvalidAnswer_init_name_index (tCons (tVar 1) (tCons (tVar 0) tNil))) (tCons (tXnK (ga K "NoBoard") 2 ["index", "name"] gkb_NoBoard_init_name_index (tCons (tVar 1) (tCons (tVar 0) tNil))) tNil))) (tSeq (tAsg (tXnK (ga K "InvalidText") 2 ["line", "word"] gkb_InvalidText_init_word_line (tCons (tVar 1) (tCons (tVar 0) tNil))) (gName 5)) (tSeq (tAsg (tLst (tCons (tXv K "index" (tVar 3)) (tCons (tXv K "name" (tVar 3)) (tCons (tXv K "index" (tVar 4)) (tCons (tXv K "name" (tVar 4)) (tCons (tXv K "line" (tVar 5)) (tCons (tXv K "word" (tVar 5)) tNil))))))) (gName 6)) (tRet (tOp (rEqU K) (tCB (rReprU K) (tCons (tOp (rAdd K) (tVar 2) (tVar 6)) tNil)) (tCB (rReprU K) (tCons (tOp (rAdd K) (tOp (rMul K) (tLst (tCons (tVar 0) tNil)) (tC (.int 10))) (tOp (rMul K) (tLst (tCons (tVar 0) (tCons (tVar 1) tNil))) (tC (.int 3)))) tNil)))))))))))
def t_Lerrors_right (K : PySem.W.Frag) : TS := (tSeq (tAsg (tLst (tCons (tC .non) (tCons (tC (.int 0)) (tCons (tC (.bl true)) (tCons (tC (.str "a")) (tCons (tTup (tCons (tC (.int 1)) tNil)) (tCons (tLst (tCons (tC (.int 1)) tNil)) (tCons tDNewK (tCons (tOp SJ.rSub (tOp rPow (tC (.int 10)) (tC (.int 60))) (tC (.int 1))) (tCons (tUn (rU fun i => .int (-i)) (tC (.int 1))) (tCons (tC (.str "")) tNil))))))))))) (gName 1)) (tSeq (tPar 2 3 (tCons (tFn (sp_Lpick K) [] W0 (tCons (tVar 0) (tCons (tVar 1) tNil))) (tCons (tFn (sp_Lpick K) [] W0 (tCons (tVar 0) (tCons (tVar 1) tNil))) tNil))) (tSeq (tAsg (tOp (rAdd K) (tOp (rAdd K) (tFn (sp_Lones K) [] W0 (tCons (tVar 2) tNil)) (tFn (sp_Ltwos K) [] W0 (tCons (tVar 2) (tCons (tVar 3) tNil)))) (tLst (tCons (tTup (tCons (tXn0 (ga K "Settled")) (tCons (tVar 2) tNil))) (tCons (tTup (tCons (tXn0 (ga K "NothingToUndo")) (tCons (tVar 2) tNil))) tNil)))) (gName 4)) (tSeq (tIfS (tNot (tB (tFn (sp_Lnamed_right K) [] W0 (tCons (tVar 2) (tCons (tVar 3) tNil))))) (tRet (tC (.bl false))) tNext) (tSeq (tFor (iEnum K (tCons (tVar 4) tNil)) (gTup K 2 (gCons (gName 5) (gCons (gTup K 2 (gCons (gName 6) (gCons (gName 7) gNil))) gNil))) (tSeq (tIfS (tTest (tOp (rNeU K) (tCB (rReprU K) (tCons (tVar 7) tNil)) (tCB (rReprU K) (tCons (tIf (tTest (tChain rLeU rLtU (tC (.int 10)) (tVar 5) (tC (.int 13)))) (tTup (tCons (tVar 2) (tCons (tVar 3) tNil))) (tVar 2)) tNil)))) (tRet (tC (.bl false))) tNext) (tSeq (tIfS (tTest (tOp (rNeU K) (tFn (sp_Lkinds K) [] W0 (tCons (tVar 6) tNil)) (tLc (iRng1 (tCons (tC (.int 15)) tNil)) (gName 8) tYes (tOp (rEqU K) (tVar 8) (tVar 5)) [8]))) (tRet (tC (.bl false))) tNext) (tSeq (tAsg (tLst (tCons (tOrV (tOp rGtU (tC (.int 7)) (tVar 5)) (tOp rGtU (tVar 5) (tC (.int 9)))) (tCons (tOrV (tOp rLtU (tVar 5) (tC (.int 7))) (tOp rGtU (tVar 5) (tC (.int 9)))) (tCons (tOp (rInU K false) (tVar 5) (tTup (tCons (tC (.int 7)) (tCons (tC (.int 8)) tNil)))) (tCons (tOp (rInU K false) (tVar 5) (tTup (tCons (tC (.int 7)) (tCons (tC (.int 8)) tNil)))) (tCons (tOp (rEqU K) (tVar 5) (tC (.int 9))) tNil)))))) (gName 9)) (tIfS (tTest (tOp (rNeU K) (tFn (sp_Lbases K) [] W0 (tCons (tVar 6) tNil)) (tOp (rAdd K) (tVar 9) (tLst (tCons (tC (.bl false)) (tCons (tC (.bl false)) tNil)))))) (tRet (tC (.bl false))) tNext))))) (tRet (tC (.bl true))))))))
def t_Lpower (K : PySem.W.Frag) : TS := (tSeq (tAsg (tC (.int 1)) (gName 2)) (tSeq (tFor (iRng1 (tCons (tVar 1) tNil)) (gName 3) (tAsg (tOp (rMul K) (tVar 2) (tVar 0)) (gName 2))) (tRet (tVar 2))))
def t_Lnumbers_right (K : PySem.W.Frag) : TS := (tSeq (tAsg (tLst (tCons (tC (.int 0)) (tCons (tC (.int 1)) (tCons (tFn (sp_Ldraw K) [] W0 (tCons (tVar 0) (tCons (tC (.int 40)) tNil))) (tCons (tFn (sp_Ldraw K) [] W0 (tCons (tVar 0) (tCons (tOp rPow (tC (.int 10)) (tC (.int 6))) tNil))) (tCons (tOp SJ.rSub (tOp rPow (tC (.int 10)) (tC (.int 60))) (tFn (sp_Ldraw K) [] W0 (tCons (tVar 0) (tCons (tC (.int 3)) tNil)))) (tCons (tOp SJ.rSub (tC (.int 0)) (tFn (sp_Ldraw K) [] W0 (tCons (tVar 0) (tCons (tC (.int 99)) tNil)))) tNil))))))) (gName 1)) (tSeq (tAsg (tFn (sp_Lpick K) [] W0 (tCons (tVar 0) (tCons (tVar 1) tNil))) (gName 2)) (tSeq (tAsg (tOp (rAdd K) (tC (.int 1)) (tFn (sp_Lpick K) [] W0 (tCons (tVar 0) (tCons (tLst (tCons (tFn (sp_Ldraw K) [] W0 (tCons (tVar 0) (tCons (tC (.int 3)) tNil))) (tCons (tFn (sp_Ldraw K) [] W0 (tCons (tVar 0) (tCons (tOp rPow (tC (.int 10)) (tC (.int 6))) tNil))) tNil))) tNil)))) (gName 3)) (tSeq (tAsg (tOp (rAdd K) (tC (.int 2)) (tFn (sp_Lpick K) [] W0 (tCons (tVar 0) (tCons (tLst (tCons (tFn (sp_Ldraw K) [] W0 (tCons (tVar 0) (tCons (tC (.int 4)) tNil))) (tCons (tFn (sp_Ldraw K) [] W0 (tCons (tVar 0) (tCons (tOp rPow (tC (.int 10)) (tC (.int 6))) tNil))) tNil))) tNil)))) (gName 4)) (tSeq (tPar 5 6 (tCons (tFn (sp_up K) [] W0 (tCons (tVar 2) (tCons (tVar 3) tNil))) (tCons (tFn (sp_least_power K) [] W0 (tCons (tVar 4) (tCons (tVar 2) tNil))) tNil))) (tSeq (tIfS (tOr (tTest (tOp (rNeU K) (tCB (rReprU K) (tCons (tCB rInt (tCons (tVar 5) tNil)) tNil)) (tCB (rReprU K) (tCons (tVar 5) tNil)))) (tNot (tTest (tChain rLtU rLeU (tOp (rMul K) (tVar 3) (tOp SJ.rSub (tVar 5) (tC (.int 1)))) (tVar 2) (tOp (rMul K) (tVar 3) (tVar 5)))))) (tRet (tC (.bl false))) tNext) (tSeq (tIfS (tOr (tTest (tOp (rNeU K) (tFnK 0 2 (sp_up K) gkb_up_0_number_by W0 tNil (tCons (tVar 2) (tCons (tVar 3) tNil))) (tVar 5))) (tTest (tOp (rNeU K) (tFnK 0 2 (sp_least_power K) gkb_least_power_0_base_number W0 tNil (tCons (tVar 4) (tCons (tVar 2) tNil))) (tVar 6)))) (tRet (tC (.bl false))) tNext) (tRet (tAndV (tOp rGeU (tFn (sp_Lpower K) [] W0 (tCons (tVar 4) (tCons (tVar 6) tNil))) (tVar 2)) (tOrV (tOp (rEqU K) (tVar 6) (tC (.int 0))) (tOp rLtU (tFn (sp_Lpower K) [] W0 (tCons (tVar 4) (tCons (tOp SJ.rSub (tVar 6) (tC (.int 1))) tNil))) (tVar 2))))))))))))
def t_law (K : PySem.W.Frag) : TS := (tSeq (tAsg (tFn (sp_Lpen K) [] W0 (tCons (tVar 0) tNil)) (gName 1)) (tSeq (tFor (iRng1 (tCons (tC (.int 6)) tNil)) (gName 2) (tSeq (tIfS (tOr (tNot (tB (tFn (sp_Lerrors_right K) [] W0 (tCons (tVar 1) tNil)))) (tNot (tB (tFn (sp_Lnumbers_right K) [] W0 (tCons (tVar 1) tNil))))) (tRet (tC (.bl false))) tNext) (tSeq (tAsg (tFn (sp_Lpick K) [] W0 (tCons (tVar 1) (tCons (tLst (tCons (tC (.int 0)) (tCons (tUn (rU fun i => .int (-i)) (tC (.int 3))) (tCons (tOp SJ.rSub (tOp rPow (tC (.int 10)) (tC (.int 60))) (tC (.int 1))) (tCons (tC (.bl true)) (tCons (tC (.bl false)) (tCons (tC .non) (tCons (tC (.str "1")) (tCons (tTup (tCons (tC (.int 1)) tNil)) (tCons (tLst tNil) (tCons tDNewK (tCons (tFn (sp_Ldraw K) [] W0 (tCons (tVar 1) (tCons (tC (.int 99)) tNil))) tNil)))))))))))) tNil))) (gName 3)) (tIfS (tTest (tOp (rNeU K) (tCB (rReprU K) (tCons (tFn (sp_is_integer K) [] W0 (tCons (tVar 3) tNil)) tNil)) (tCB (rReprU K) (tCons (tAndV (tCB (rIsiU K) (tCons (tVar 3) (tCons (tC (.ty "int")) tNil))) (tNotV (tCB (rIsiU K) (tCons (tVar 3) (tCons (tC (.ty "bool")) tNil))))) tNil)))) (tRet (tC (.bl false))) tNext)))) (tSeq (tAsg (tLst (tCons (tC (.str "a")) (tCons (tC (.str "zzzzzzzz")) (tCons (tC (.str "rest")) (tCons (tC (.str "frame")) (tCons (tC (.str "grounds")) (tCons (tC (.str "rail")) (tCons (tC (.str "word")) tNil)))))))) (gName 4)) (tSeq (tAsg (tLst (tCons (tC (.str "")) (tCons (tC (.str "A")) (tCons (tC (.str "a1")) (tCons (tC (.str "a b")) (tCons (tC (.str "abcdefghi")) (tCons (tC (.str "ground")) (tCons (tC (.str "power")) (tCons (tC (.str "nothing")) (tCons (tC .non) (tCons (tC (.int 1)) (tCons (tTup (tCons (tC (.str "a")) tNil)) (tCons (tLst (tCons (tC (.str "a")) tNil)) (tCons tDNewK tNil)))))))))))))) (gName 5)) (tSeq (tAsg (tOp (rAdd K) (tVar 5) (tLst (tCons (tC (.str "a\n")) (tCons (tC (.str "-")) (tCons (tC (.str "a{")) (tCons (tC (.str "`a")) (tCons (tC (.str "{")) (tCons (tC (.str "`")) (tCons (tC (.str "a_b")) (tCons (tC (.str "_")) (tCons (tC (.str "a.")) (tCons (tC (.str " a")) tNil)))))))))))) (gName 5)) (tSeq (tIfS (tTest (tOp (rNeU K) (tLc (iList K (tOp (rAdd K) (tVar 4) (tVar 5))) (gName 6) tYes (tFnK 0 1 (sp_is_name K) gkb_is_name_0_value W0 tNil (tCons (tVar 6) tNil)) [6]) (tOp (rAdd K) (tOp (rMul K) (tLst (tCons (tC (.bl true)) tNil)) (tCB (rLenU K) (tCons (tVar 4) tNil))) (tOp (rMul K) (tLst (tCons (tC (.bl false)) tNil)) (tCB (rLenU K) (tCons (tVar 5) tNil)))))) (tRet (tC (.bl false))) tNext) (tRet (tAndV (tOp (rIsU false) (tFn (sp_is_name K) [] W0 (tCons (tC (.str "a")) tNil)) (tC (.bl true))) (tAndV (tOp (rIsU false) (tFnK 0 1 (sp_is_integer K) gkb_is_integer_0_value W0 tNil (tCons (tC (.int 7)) tNil)) (tC (.bl true))) (tOp (rIsU false) (tFnK 0 1 (sp_is_integer K) gkb_is_integer_0_value W0 tNil (tCons (tC (.bl true)) tNil)) (tC (.bl false))))))))))))
end K01

namespace K01
open PySem PySem.Spec PyProof.Rows L2 He SJ
local macro_rules | `(tactic| walk_at "go") => `(tactic| (repeat (first
  | with_reducible apply x_seq | with_reducible apply x_asg | with_reducible apply x_ret | with_reducible apply x_if | with_reducible apply x_test | with_reducible apply x_B | with_reducible apply x_op | (with_reducible apply x_var rfl) | with_reducible apply x_c
  | with_reducible apply x_cb | with_reducible apply x_cons | with_reducible apply x_nil | with_reducible apply x_bl2 | with_reducible apply x_st2 | with_reducible apply ite_t | with_reducible apply ite_f | with_reducible apply ite_n | with_reducible apply x_and | with_reducible apply x_or | with_reducible apply x_not | with_reducible apply x_andV | with_reducible apply x_orV | with_reducible apply x_notV
  | with_reducible apply x_addI | with_reducible apply x_sub' | with_reducible apply x_eqI | with_reducible apply x_neI | with_reducible apply x_eqT | with_reducible apply x_neT | with_reducible apply x_ltI | with_reducible apply x_leI | with_reducible apply x_gtI | with_reducible apply x_geI
  | with_reducible apply x_intI | with_reducible apply x_intBl | with_reducible apply x_absI | with_reducible apply x_asgG | with_reducible apply x_sub | with_reducible apply x_lst | with_reducible apply x_tup | with_reducible apply x_next | with_reducible apply x_drop
  | with_reducible apply x_ife | with_reducible apply x_chain | with_reducible apply x_inSg | with_reducible apply x_yes | with_reducible apply x_sl | with_reducible apply x_noPart | with_reducible apply x_part | with_reducible apply x_in2 | with_reducible apply x_fs | with_reducible apply x_js | with_reducible apply x_js0 | with_reducible apply x_fmtE | with_reducible apply x_m0 | with_reducible apply x_fld0 | with_reducible apply x_con0 | with_reducible apply x_pr0 | with_reducible apply x_sfld
  | (with_reducible refine x_new ?_ ?_; · exact Nat.le_of_ble_eq_true rfl)
  | with_reducible apply x_fn | with_reducible apply x_nw | with_reducible apply x_bm | with_reducible apply x_par | with_reducible apply x_rz | with_reducible apply x_retN | with_reducible apply x_un | with_reducible apply x_U)))
local macro_rules | `(tactic| walk_at "gp") => `(tactic| (repeat (first
  | with_reducible apply x_seq | with_reducible apply x_asg | with_reducible apply x_ret | with_reducible apply x_if | with_reducible apply x_test | with_reducible apply x_B | with_reducible apply x_op | (with_reducible apply x_var rfl) | with_reducible apply x_c
  | with_reducible apply x_cb | with_reducible apply x_cons | with_reducible apply x_nil | with_reducible apply x_bl2 | with_reducible apply x_st2 | with_reducible apply ite_t | with_reducible apply ite_f | with_reducible apply ite_n | with_reducible apply x_and | with_reducible apply x_or | with_reducible apply x_not | with_reducible apply x_andV | with_reducible apply x_orV | with_reducible apply x_notV
  | with_reducible apply x_addI | with_reducible apply x_sub' | with_reducible apply x_eqI | with_reducible apply x_neI | with_reducible apply x_eqT | with_reducible apply x_neT | with_reducible apply x_ltI | with_reducible apply x_leI | with_reducible apply x_gtI | with_reducible apply x_geI
  | with_reducible apply x_intI | with_reducible apply x_intBl | with_reducible apply x_absI | with_reducible apply x_asgG | with_reducible apply x_sub | with_reducible apply x_lstG | with_reducible apply x_tupG | with_reducible apply x_next | with_reducible apply x_drop
  | with_reducible apply x_ife | with_reducible apply x_chain | with_reducible apply x_inSg | with_reducible apply x_yes | with_reducible apply x_sl | with_reducible apply x_noPart | with_reducible apply x_part | with_reducible apply x_in2 | with_reducible apply x_fs | with_reducible apply x_js | with_reducible apply x_js0 | with_reducible apply x_fmtE | with_reducible apply x_m0 | with_reducible apply x_fld0 | with_reducible apply x_con0 | with_reducible apply x_pr0 | with_reducible apply x_sfld
  | with_reducible apply x_fn | with_reducible apply x_bm | with_reducible apply x_par | with_reducible apply x_rz | with_reducible apply x_retN | with_reducible apply x_un | with_reducible apply x_U)))
local macro_rules | `(tactic| walk_at "gx") => `(tactic| (repeat (first
  | with_reducible apply x_seq | with_reducible apply x_asg | with_reducible apply x_ret | with_reducible apply x_if | with_reducible apply x_test | with_reducible apply x_B | with_reducible apply x_op | (with_reducible apply x_var rfl) | with_reducible apply x_c
  | with_reducible apply x_cb | with_reducible apply x_cons | with_reducible apply x_nil | with_reducible apply x_bl2 | with_reducible apply x_st2 | with_reducible apply ite_t | with_reducible apply ite_f | with_reducible apply ite_n | with_reducible apply x_and | with_reducible apply x_or | with_reducible apply x_not | with_reducible apply x_andV | with_reducible apply x_orV | with_reducible apply x_notV
  | with_reducible apply x_addI | with_reducible apply x_sub' | with_reducible apply x_eqI | with_reducible apply x_neI | with_reducible apply x_eqT | with_reducible apply x_neT | with_reducible apply x_ltI | with_reducible apply x_leI | with_reducible apply x_gtI | with_reducible apply x_geI
  | with_reducible apply x_intI | with_reducible apply x_intBl | with_reducible apply x_absI | with_reducible apply x_asgG | with_reducible apply x_sub | with_reducible apply x_lstG | with_reducible apply x_tupG | with_reducible apply x_next | with_reducible apply x_drop
  | with_reducible apply x_ife | with_reducible apply x_chain | with_reducible apply x_inSg | with_reducible apply x_yes | with_reducible apply x_sl | with_reducible apply x_noPart | with_reducible apply x_part | with_reducible apply x_in2 | with_reducible apply x_xn | with_reducible apply x_xnK | with_reducible apply x_xv | with_reducible apply x_par3 | with_reducible apply x_fnK | with_reducible apply x_fs | with_reducible apply x_js | with_reducible apply x_js0 | with_reducible apply x_fmtE | with_reducible apply x_m0 | with_reducible apply x_fld0 | with_reducible apply x_con0 | with_reducible apply x_pr0 | with_reducible apply x_sfld
  | with_reducible apply x_fn | with_reducible apply x_bm | with_reducible apply x_par | with_reducible apply x_rz | with_reducible apply x_retN | with_reducible apply x_un | with_reducible apply x_U)))
section
variable {K : PySem.W.Frag} {mg : Str → Option Value} {vs : List V} {H : Hp} {Q : VK} {E : XK}
theorem len_is_integer (h : sp_is_integer K vs H Q E) : vs.length = 1 := by obtain ⟨x, t, b, c, rfl, _⟩ := h; rfl
theorem pure_is_integer (T : Tx K mg) (h : sp_is_integer K vs H Q E) : t_is_integer K { nx := fun _ H2 => Q .non H2, rt := Q } (start ["value"] vs) H := by
  obtain ⟨x, t, b, c, rfl, ht, h1, h2, q⟩ := h
  unfold t_is_integer
  walk_at "gp"
  refine x_isiV (.ty "int") ht h1 ?_
  refine ⟨b, rfl, ?_⟩
  cases b with
  | false => exact ite_f q
  | true =>
    refine ite_t ?_
    walk_at "gp"
    refine x_isiV (.ty "bool") ht h2 ?_
    walk_at "gp"
    exact q
theorem len_is_name (h : sp_is_name K vs H Q E) : vs.length = 1 := len_name h
theorem pure_is_name (T : Tx K mg) (h : sp_is_name K vs H Q E) : t_is_name K { nx := fun _ H2 => Q .non H2, rt := Q } (start ["value", "letter"] vs) H := name_ok (fun h => .inl h) h
theorem len_up (h : sp_up K vs H Q E) : vs.length = 2 := by obtain ⟨x, y, rfl, _⟩ := h; rfl
theorem pure_up (T : Tx K mg) (h : sp_up K vs H Q E) : t_up K { nx := fun _ H2 => Q .non H2, rt := Q } (start ["number", "by"] vs) H := by
  obtain ⟨n, b, rfl, h1, h2, q⟩ := h
  unfold t_up
  walk_at "gp"
  exact x_fdv h1 h2 q
theorem len_least_power (h : sp_least_power K vs H Q E) : vs.length = 2 := by obtain ⟨x, y, rfl, _⟩ := h; rfl
theorem pow_two_le {b : Int} (h : 2 ≤ b) : ∀ m : Nat, (2 : Int) ^ m ≤ b ^ m
  | 0 => by rw [Int.pow_zero, Int.pow_zero]; exact Int.le_refl _
  | m + 1 => by
    rw [Int.pow_succ, Int.pow_succ]
    have p0 : (0 : Int) ≤ 2 ^ m := Int.le_of_lt (Int.pow_pos (by decide))
    exact Int.mul_le_mul (pow_two_le h m) h (by decide) (Int.le_trans p0 (pow_two_le h m))
theorem pow_lt_of {m k : Nat} (h : (2 : Int) ^ m < 2 ^ k) : m < k := by
  have h2 : (2 ^ m : Nat) < 2 ^ k := by exact_mod_cast h
  exact (Nat.pow_lt_pow_iff_right (by decide)).mp h2
theorem pure_least_power (T : Tx K mg) (h : sp_least_power K vs H Q E) : t_least_power K { nx := fun _ H2 => Q .non H2, rt := Q } (start ["base", "number", "found", "power"] vs) H := by
  obtain ⟨b, n, rfl, h1, h2, h3, q⟩ := h
  unfold t_least_power
  walk_at "gp"
  refine x_newT (Nat.le_of_ble_eq_true rfl) fun p H1 np s1 e1 => ?_
  refine ⟨p, _, rfl, SqT.of e1, rfl, _, _, rfl, _, _, rfl, rfl, ?_⟩
  walk_at "gp"
  have pos : ∀ k : Nat, 0 < b ^ k := fun k => Int.pow_pos (by omega)
  refine ⟨fun m s2 H2 => ∃ k : Nat, s2 = [some (.int b), some (.int n), some (.int k), some (.int (b ^ k))] ∧ H2 = H1 ∧ (k = 0 ∨ b ^ (k - 1) < n) ∧ m = (n - b ^ k).toNat, ⟨_, 0, by rw [Int.pow_zero]; rfl, rfl, .inl rfl, rfl⟩, ?_⟩
  rintro m s2 H2 ⟨k, rfl, rfl, hk, rfl⟩
  walk_at "gp"
  by_cases hlt : b ^ k < n
  · rw [decide_eq_true hlt]
    refine ite_t ⟨fun s3 H3 => s3 = [some (.int b), some (.int n), some (.int (k + 1 : Nat)), some (.int (b ^ (k + 1)))] ∧ H3 = H2, ?_, ?_⟩
    · rintro s3 H3 ⟨rfl, rfl⟩
      refine ⟨_, ?_, k + 1, rfl, rfl, .inr hlt, rfl⟩
      have e : b ^ (k + 1) = b ^ k * b := Int.pow_succ ..
      have e2 : b ^ k * 2 ≤ b ^ k * b := Int.mul_le_mul_of_nonneg_left (by omega) (Int.le_of_lt (pos k))
      have e3 := pos k
      rw [e]
      omega
    · walk_at "gp"
      refine ⟨_, rfl, ?_⟩
      walk_at "gp"
      refine ⟨_, _, rfl, rfl, ?_⟩
      refine ⟨_, rfl, ?_⟩
      walk_at "gp"
      exact ⟨_, _, rfl, rfl, .inr ⟨by omega, by omega⟩, by rw [Int.pow_succ]; rfl, rfl⟩
  · rw [decide_eq_false hlt]
    refine ite_f ?_
    walk_at "gp"
    refine q k _ s1 (by omega) hk ?_
    rcases hk with rfl | hk
    · omega
    · have := pow_lt_of (m := k - 1) (k := 200) (Int.lt_of_le_of_lt (pow_two_le h1 _) (Int.lt_of_lt_of_le hk h3))
      omega
end

end K01

namespace K01
open PySem PySem.Spec PyProof.Rows L2 He SJ
local macro_rules | `(tactic| walk_at "go") => `(tactic| (repeat (first
  | with_reducible apply x_seq | with_reducible apply x_asg | with_reducible apply x_ret | with_reducible apply x_if | with_reducible apply x_test | with_reducible apply x_B | with_reducible apply x_op | (with_reducible apply x_var rfl) | with_reducible apply x_c
  | with_reducible apply x_cb | with_reducible apply x_cons | with_reducible apply x_nil | with_reducible apply x_bl2 | with_reducible apply x_st2 | with_reducible apply ite_t | with_reducible apply ite_f | with_reducible apply ite_n | with_reducible apply x_and | with_reducible apply x_or | with_reducible apply x_not | with_reducible apply x_andV | with_reducible apply x_orV | with_reducible apply x_notV
  | with_reducible apply x_addI | with_reducible apply x_sub' | with_reducible apply x_eqI | with_reducible apply x_neI | with_reducible apply x_eqT | with_reducible apply x_neT | with_reducible apply x_ltI | with_reducible apply x_leI | with_reducible apply x_gtI | with_reducible apply x_geI
  | with_reducible apply x_intI | with_reducible apply x_intBl | with_reducible apply x_absI | with_reducible apply x_asgG | with_reducible apply x_sub | with_reducible apply x_lst | with_reducible apply x_tup | with_reducible apply x_next | with_reducible apply x_drop
  | with_reducible apply x_ife | with_reducible apply x_chain | with_reducible apply x_inSg | with_reducible apply x_yes | with_reducible apply x_sl | with_reducible apply x_noPart | with_reducible apply x_part | with_reducible apply x_in2 | with_reducible apply x_fs | with_reducible apply x_js | with_reducible apply x_js0 | with_reducible apply x_fmtE | with_reducible apply x_m0 | with_reducible apply x_fld0 | with_reducible apply x_con0 | with_reducible apply x_pr0 | with_reducible apply x_sfld
  | (with_reducible refine x_new ?_ ?_; · exact Nat.le_of_ble_eq_true rfl)
  | with_reducible apply x_fn | with_reducible apply x_nw | with_reducible apply x_bm | with_reducible apply x_par | with_reducible apply x_rz | with_reducible apply x_retN | with_reducible apply x_un | with_reducible apply x_U)))
local macro_rules | `(tactic| walk_at "gp") => `(tactic| (repeat (first
  | with_reducible apply x_seq | with_reducible apply x_asg | with_reducible apply x_ret | with_reducible apply x_if | with_reducible apply x_test | with_reducible apply x_B | with_reducible apply x_op | (with_reducible apply x_var rfl) | with_reducible apply x_c
  | with_reducible apply x_cb | with_reducible apply x_cons | with_reducible apply x_nil | with_reducible apply x_bl2 | with_reducible apply x_st2 | with_reducible apply ite_t | with_reducible apply ite_f | with_reducible apply ite_n | with_reducible apply x_and | with_reducible apply x_or | with_reducible apply x_not | with_reducible apply x_andV | with_reducible apply x_orV | with_reducible apply x_notV
  | with_reducible apply x_addI | with_reducible apply x_sub' | with_reducible apply x_eqI | with_reducible apply x_neI | with_reducible apply x_eqT | with_reducible apply x_neT | with_reducible apply x_ltI | with_reducible apply x_leI | with_reducible apply x_gtI | with_reducible apply x_geI
  | with_reducible apply x_intI | with_reducible apply x_intBl | with_reducible apply x_absI | with_reducible apply x_asgG | with_reducible apply x_sub | with_reducible apply x_lstG | with_reducible apply x_tupG | with_reducible apply x_next | with_reducible apply x_drop
  | with_reducible apply x_ife | with_reducible apply x_chain | with_reducible apply x_inSg | with_reducible apply x_yes | with_reducible apply x_sl | with_reducible apply x_noPart | with_reducible apply x_part | with_reducible apply x_in2 | with_reducible apply x_fs | with_reducible apply x_js | with_reducible apply x_js0 | with_reducible apply x_fmtE | with_reducible apply x_m0 | with_reducible apply x_fld0 | with_reducible apply x_con0 | with_reducible apply x_pr0 | with_reducible apply x_sfld
  | with_reducible apply x_fn | with_reducible apply x_bm | with_reducible apply x_par | with_reducible apply x_rz | with_reducible apply x_retN | with_reducible apply x_un | with_reducible apply x_U)))
local macro_rules | `(tactic| walk_at "gx") => `(tactic| (repeat (first
  | with_reducible apply x_seq | with_reducible apply x_asg | with_reducible apply x_ret | with_reducible apply x_if | with_reducible apply x_test | with_reducible apply x_B | with_reducible apply x_op | (with_reducible apply x_var rfl) | with_reducible apply x_c
  | with_reducible apply x_cb | with_reducible apply x_cons | with_reducible apply x_nil | with_reducible apply x_bl2 | with_reducible apply x_st2 | with_reducible apply ite_t | with_reducible apply ite_f | with_reducible apply ite_n | with_reducible apply x_and | with_reducible apply x_or | with_reducible apply x_not | with_reducible apply x_andV | with_reducible apply x_orV | with_reducible apply x_notV
  | with_reducible apply x_addI | with_reducible apply x_sub' | with_reducible apply x_eqI | with_reducible apply x_neI | with_reducible apply x_eqT | with_reducible apply x_neT | with_reducible apply x_ltI | with_reducible apply x_leI | with_reducible apply x_gtI | with_reducible apply x_geI
  | with_reducible apply x_intI | with_reducible apply x_intBl | with_reducible apply x_absI | with_reducible apply x_asgG | with_reducible apply x_sub | with_reducible apply x_lstG | with_reducible apply x_tupG | with_reducible apply x_next | with_reducible apply x_drop
  | with_reducible apply x_ife | with_reducible apply x_chain | with_reducible apply x_inSg | with_reducible apply x_yes | with_reducible apply x_sl | with_reducible apply x_noPart | with_reducible apply x_part | with_reducible apply x_in2 | with_reducible apply x_xn | with_reducible apply x_xnK | with_reducible apply x_xv | with_reducible apply x_par3 | with_reducible apply x_fnK | with_reducible apply x_fs | with_reducible apply x_js | with_reducible apply x_js0 | with_reducible apply x_fmtE | with_reducible apply x_m0 | with_reducible apply x_fld0 | with_reducible apply x_con0 | with_reducible apply x_pr0 | with_reducible apply x_sfld
  | with_reducible apply x_fn | with_reducible apply x_bm | with_reducible apply x_par | with_reducible apply x_rz | with_reducible apply x_retN | with_reducible apply x_un | with_reducible apply x_U)))
section
variable {K : PySem.W.Frag} {mg : Str → Option Value} {vs : List V} {H : Hp} {Q : VK} {E : XK}
theorem len_Lpen (h : sp_Lpen K vs H Q E) : vs.length = 1 := len_pen h
theorem pure_Lpen (T : Tx K mg) (h : sp_Lpen K vs H Q E) : t_Lpen K { nx := fun _ H2 => Q .non H2, rt := Q } (start ["_law_script"] vs) H := pen_ok h
theorem len_Ldraw (h : sp_Ldraw K vs H Q E) : vs.length = 2 := len_draw h
theorem pure_Ldraw (T : Tx K mg) (h : sp_Ldraw K vs H Q E) : t_Ldraw K { nx := fun _ H2 => Q .non H2, rt := Q } (start ["_law_pen_here", "_law_many", "_law_digit", "_law_at", "_law_cell", "_law_great", "_law_mixed"] vs) H := by
  show tDrawA K 51001 101 2147483563 48017 7 2147483579 5 50021 11 2147483629 _ _ _
  exact draw_ok h (by omega) (by omega) (by omega) (by omega) (by omega) (by omega) (by omega) (by omega) (by omega)
theorem len_Lpick (h : sp_Lpick K vs H Q E) : vs.length = 2 := len_pick h
theorem pure_Lpick (T : Tx K mg) (h : sp_Lpick K vs H Q E) : t_Lpick K { nx := fun _ H2 => Q .non H2, rt := Q } (start ["_law_pen_here", "_law_some"] vs) H := pick_ok h
theorem len_Lpower (h : sp_Lpower K vs H Q E) : vs.length = 2 := by obtain ⟨x, y, rfl, _⟩ := h; rfl
theorem pure_Lpower (T : Tx K mg) (h : sp_Lpower K vs H Q E) : t_Lpower K { nx := fun _ H2 => Q .non H2, rt := Q } (start ["_law_factor", "_law_often", "_law_found", "_law_turn"] vs) H := by
  obtain ⟨b, m, rfl, h1, h2, h3, q⟩ := h
  unfold t_Lpower
  walk_at "gp"
  refine x_forRe (n := (m : Int)) (fun _ q => ⟨_, rfl, q⟩) ⟨by omega, by omega⟩ (fun i s2 H2 => (∃ v3, s2 = [some (.int b), some (.int m), some (.int (b ^ i)), v3]) ∧ H2 = H) ⟨⟨none, by rw [Int.pow_zero]; rfl⟩, rfl⟩ (fun i s2 H2 hi hv => ?_) (fun s2 H2 hv => ?_)
  · obtain ⟨⟨v3, rfl⟩, rfl⟩ := hv
    walk_at "gp"
    refine x_mulI (.inr ⟨by omega, by omega⟩) ⟨⟨some (.int i), ?_⟩, rfl⟩
    rw [Int.pow_succ]
    rfl
  · obtain ⟨⟨v3, rfl⟩, rfl⟩ := hv
    walk_at "gp"
    have e : (m : Int).toNat = m := by omega
    rw [e]
    exact q
/-- asking for a class -/
theorem err_isi (T : Tx K mg) {a : Addr} {i : Nat} {d : Str} {c : Str} (h : IsErr K H a i) (hc : errs[i]? = some c) (hd : d ∈ errs2) (q : Q (.bl (isK c d)) H) : rIsiU K [.ref a, .ref (ga K d)] H Q := by
  obtain ⟨c2, h1, h2⟩ := h
  rw [hc] at h1
  cases h1
  have m := List.mem_of_getElem? hc
  rcases h2 with ⟨gs, h2⟩ | h2
  · exact x_isiX (.own _) (T.xc c m) h2 (T.kit c m d hd) q
  · exact x_isiX0 (.own _) (T.xc c m) h2 (T.kit c m d hd) q
theorem err_isiT (T : Tx K mg) {a : Addr} {i : Nat} {d : String} {c : Str} (h : IsErr K H a i) (hc : errs[i]? = some c) (hd : d ∈ ["ValueError", "LookupError", "OverflowError", "KeyError", "IndexError"]) (q : Q (.bl (isT c d)) H) : rIsiU K [.ref a, .ty d] H Q := by
  obtain ⟨c2, h1, h2⟩ := h
  rw [hc] at h1
  cases h1
  have m := List.mem_of_getElem? hc
  rcases h2 with ⟨gs, h2⟩ | h2
  · exact x_isiX (.ty d) (T.xc c m) h2 (T.kitb c m d hd) q
  · exact x_isiX0 (.ty d) (T.xc c m) h2 (T.kitb c m d hd) q
theorem IsErr.same {H2 : Hp} {a : Addr} {i : Nat} (h : IsErr K H a i) (s : Same H H2) : IsErr K H2 a i := by
  obtain ⟨c, h1, h2⟩ := h
  refine ⟨c, h1, ?_⟩
  rcases h2 with ⟨gs, h2⟩ | h2
  · exact .inl ⟨gs, h2.same s⟩
  · refine .inr ?_
    rcases h2 with h2 | h2
    · exact .inl (s _ _ h2)
    · exact .inr (s _ _ h2)
end

end K01

namespace K01
open PySem PySem.Spec PyProof.Rows L2 He SJ
local macro_rules | `(tactic| walk_at "go") => `(tactic| (repeat (first
  | with_reducible apply x_seq | with_reducible apply x_asg | with_reducible apply x_ret | with_reducible apply x_if | with_reducible apply x_test | with_reducible apply x_B | with_reducible apply x_op | (with_reducible apply x_var rfl) | with_reducible apply x_c
  | with_reducible apply x_cb | with_reducible apply x_cons | with_reducible apply x_nil | with_reducible apply x_bl2 | with_reducible apply x_st2 | with_reducible apply ite_t | with_reducible apply ite_f | with_reducible apply ite_n | with_reducible apply x_and | with_reducible apply x_or | with_reducible apply x_not | with_reducible apply x_andV | with_reducible apply x_orV | with_reducible apply x_notV
  | with_reducible apply x_addI | with_reducible apply x_sub' | with_reducible apply x_eqI | with_reducible apply x_neI | with_reducible apply x_eqT | with_reducible apply x_neT | with_reducible apply x_ltI | with_reducible apply x_leI | with_reducible apply x_gtI | with_reducible apply x_geI
  | with_reducible apply x_intI | with_reducible apply x_intBl | with_reducible apply x_absI | with_reducible apply x_asgG | with_reducible apply x_sub | with_reducible apply x_lst | with_reducible apply x_tup | with_reducible apply x_next | with_reducible apply x_drop
  | with_reducible apply x_ife | with_reducible apply x_chain | with_reducible apply x_inSg | with_reducible apply x_yes | with_reducible apply x_sl | with_reducible apply x_noPart | with_reducible apply x_part | with_reducible apply x_in2 | with_reducible apply x_fs | with_reducible apply x_js | with_reducible apply x_js0 | with_reducible apply x_fmtE | with_reducible apply x_m0 | with_reducible apply x_fld0 | with_reducible apply x_con0 | with_reducible apply x_pr0 | with_reducible apply x_sfld
  | (with_reducible refine x_new ?_ ?_; · exact Nat.le_of_ble_eq_true rfl)
  | with_reducible apply x_fn | with_reducible apply x_nw | with_reducible apply x_bm | with_reducible apply x_par | with_reducible apply x_rz | with_reducible apply x_retN | with_reducible apply x_un | with_reducible apply x_U)))
local macro_rules | `(tactic| walk_at "gp") => `(tactic| (repeat (first
  | with_reducible apply x_seq | with_reducible apply x_asg | with_reducible apply x_ret | with_reducible apply x_if | with_reducible apply x_test | with_reducible apply x_B | with_reducible apply x_op | (with_reducible apply x_var rfl) | with_reducible apply x_c
  | with_reducible apply x_cb | with_reducible apply x_cons | with_reducible apply x_nil | with_reducible apply x_bl2 | with_reducible apply x_st2 | with_reducible apply ite_t | with_reducible apply ite_f | with_reducible apply ite_n | with_reducible apply x_and | with_reducible apply x_or | with_reducible apply x_not | with_reducible apply x_andV | with_reducible apply x_orV | with_reducible apply x_notV
  | with_reducible apply x_addI | with_reducible apply x_sub' | with_reducible apply x_eqI | with_reducible apply x_neI | with_reducible apply x_eqT | with_reducible apply x_neT | with_reducible apply x_ltI | with_reducible apply x_leI | with_reducible apply x_gtI | with_reducible apply x_geI
  | with_reducible apply x_intI | with_reducible apply x_intBl | with_reducible apply x_absI | with_reducible apply x_asgG | with_reducible apply x_sub | with_reducible apply x_lstG | with_reducible apply x_tupG | with_reducible apply x_next | with_reducible apply x_drop
  | with_reducible apply x_ife | with_reducible apply x_chain | with_reducible apply x_inSg | with_reducible apply x_yes | with_reducible apply x_sl | with_reducible apply x_noPart | with_reducible apply x_part | with_reducible apply x_in2 | with_reducible apply x_fs | with_reducible apply x_js | with_reducible apply x_js0 | with_reducible apply x_fmtE | with_reducible apply x_m0 | with_reducible apply x_fld0 | with_reducible apply x_con0 | with_reducible apply x_pr0 | with_reducible apply x_sfld
  | with_reducible apply x_fn | with_reducible apply x_bm | with_reducible apply x_par | with_reducible apply x_rz | with_reducible apply x_retN | with_reducible apply x_un | with_reducible apply x_U)))
local macro_rules | `(tactic| walk_at "gx") => `(tactic| (repeat (first
  | with_reducible apply x_seq | with_reducible apply x_asg | with_reducible apply x_ret | with_reducible apply x_if | with_reducible apply x_test | with_reducible apply x_B | with_reducible apply x_op | (with_reducible apply x_var rfl) | with_reducible apply x_c
  | with_reducible apply x_cb | with_reducible apply x_cons | with_reducible apply x_nil | with_reducible apply x_bl2 | with_reducible apply x_st2 | with_reducible apply ite_t | with_reducible apply ite_f | with_reducible apply ite_n | with_reducible apply x_and | with_reducible apply x_or | with_reducible apply x_not | with_reducible apply x_andV | with_reducible apply x_orV | with_reducible apply x_notV
  | with_reducible apply x_addI | with_reducible apply x_sub' | with_reducible apply x_eqI | with_reducible apply x_neI | with_reducible apply x_eqT | with_reducible apply x_neT | with_reducible apply x_ltI | with_reducible apply x_leI | with_reducible apply x_gtI | with_reducible apply x_geI
  | with_reducible apply x_intI | with_reducible apply x_intBl | with_reducible apply x_absI | with_reducible apply x_asgG | with_reducible apply x_sub | with_reducible apply x_lstG | with_reducible apply x_tupG | with_reducible apply x_next | with_reducible apply x_drop
  | with_reducible apply x_ife | with_reducible apply x_chain | with_reducible apply x_inSg | with_reducible apply x_yes | with_reducible apply x_sl | with_reducible apply x_noPart | with_reducible apply x_part | with_reducible apply x_in2 | with_reducible apply x_xn | with_reducible apply x_xnK | with_reducible apply x_xv | with_reducible apply x_par3 | with_reducible apply x_fnK | with_reducible apply x_fs | with_reducible apply x_js | with_reducible apply x_js0 | with_reducible apply x_fmtE | with_reducible apply x_m0 | with_reducible apply x_fld0 | with_reducible apply x_con0 | with_reducible apply x_pr0 | with_reducible apply x_sfld
  | with_reducible apply x_fn | with_reducible apply x_bm | with_reducible apply x_par | with_reducible apply x_rz | with_reducible apply x_retN | with_reducible apply x_un | with_reducible apply x_U)))
section
variable {K : PySem.W.Frag} {mg : Str → Option Value} {vs : List V} {H : Hp} {Q : VK} {E : XK}
theorem RowOk.same {H2 : Hp} {i : Nat} {r : Row} (h : RowOk K H i r) (s : Same H H2) : RowOk K H2 i r := ⟨s _ _ h.1, h.2.same s⟩
theorem RowsOk.nil {i : Nat} : RowsOk K H i [] := fun j r h => by cases h
theorem RowsOk.cons {i : Nat} {r : Row} {rs : List Row} (h : RowOk K H i r) (t : RowsOk K H (i + 1) rs) : RowsOk K H i (r :: rs) := fun j r2 h2 => by
  cases j with
  | zero => cases h2; exact h
  | succ j =>
    have := t j r2 h2
    rw [Nat.add_assoc, Nat.add_comm 1 j] at this
    exact this
theorem len_Lones (h : sp_Lones K vs H Q E) : vs.length = 1 := by obtain ⟨x, rfl, _⟩ := h; rfl
theorem pure_Lones (T : Tx K mg) (h : sp_Lones K vs H Q E) : t_Lones K { nx := fun _ H2 => Q .non H2, rt := Q } (start ["_law_thing", "_law_one", "_law_two", "_law_found", "_law_five", "_law_six", "_law_seven", "_law_eight", "_law_nine", "_law_ten"] vs) H := by
  obtain ⟨x, rfl, q⟩ := h
  unfold t_Lones
  walk_at "gx"
  refine x_newX rfl fun a1 h1 n1 s1 e1 => ?_
  walk_at "gx"
  refine x_newX rfl fun a2 h2 n2 s2 e2 => ?_
  walk_at "gx"
  refine ⟨_, _,  rfl, ?_⟩
  walk_at "gx"
  refine x_getX T.x_InvalidFrame.xf (T.x_InvalidFrame.nof _ (by decide)) (e1.same s2) rfl ?_
  walk_at "gx"
  refine x_newT (Nat.le_of_ble_eq_true rfl) fun a3 h3 n3 s3 e3 => ?_
  walk_at "gx"
  refine x_getX T.x_InvalidWord.xf (T.x_InvalidWord.nof _ (by decide)) (e2.same s3) rfl ?_
  walk_at "gx"
  refine x_newT (Nat.le_of_ble_eq_true rfl) fun a4 h4 n4 s4 e4 => ?_
  walk_at "gx"
  refine x_newL (Nat.le_of_ble_eq_true rfl) fun a5 h5 n5 s5 e5 => ?_
  walk_at "gx"
  refine x_newX rfl fun a6 h6 n6 s6 e6 => ?_
  walk_at "gx"
  refine x_newX rfl fun a7 h7 n7 s7 e7 => ?_
  walk_at "gx"
  refine ⟨_, _,  rfl, ?_⟩
  walk_at "gx"
  refine x_getX T.x_InvalidBoard.xf (T.x_InvalidBoard.nof _ (by decide)) (e6.same s7) rfl ?_
  walk_at "gx"
  refine x_newT (Nat.le_of_ble_eq_true rfl) fun a8 h8 n8 s8 e8 => ?_
  walk_at "gx"
  refine x_getX T.x_InvalidChain.xf (T.x_InvalidChain.nof _ (by decide)) (e7.same s8) rfl ?_
  walk_at "gx"
  refine x_newT (Nat.le_of_ble_eq_true rfl) fun a9 h9 n9 s9 e9 => ?_
  walk_at "gx"
  refine x_newL (Nat.le_of_ble_eq_true rfl) fun a10 h10 n10 s10 e10 => ?_
  walk_at "gx"
  refine x_catG ((Same.trans s6 (Same.trans s7 (Same.trans s8 (Same.trans s9 s10)))) _ _ e5) (e10) (Nat.le_of_ble_eq_true rfl) fun a11 h11 n11 s11 e11 => ?_
  walk_at "gx"
  refine x_newX rfl fun a12 h12 n12 s12 e12 => ?_
  walk_at "gx"
  refine x_newX rfl fun a13 h13 n13 s13 e13 => ?_
  walk_at "gx"
  refine x_newX rfl fun a14 h14 n14 s14 e14 => ?_
  walk_at "gx"
  refine ⟨_, _, _,  rfl, ?_⟩
  walk_at "gx"
  refine x_getX T.x_InvalidHurt.xf (T.x_InvalidHurt.nof _ (by decide)) (e12.same (Same.trans s13 s14)) rfl ?_
  walk_at "gx"
  refine x_newT (Nat.le_of_ble_eq_true rfl) fun a15 h15 n15 s15 e15 => ?_
  walk_at "gx"
  refine x_getX T.x_InvalidScan.xf (T.x_InvalidScan.nof _ (by decide)) (e13.same (Same.trans s14 s15)) rfl ?_
  walk_at "gx"
  refine x_newT (Nat.le_of_ble_eq_true rfl) fun a16 h16 n16 s16 e16 => ?_
  walk_at "gx"
  refine x_getX T.x_InvalidCommand.xf (T.x_InvalidCommand.nof _ (by decide)) (e14.same (Same.trans s15 s16)) rfl ?_
  walk_at "gx"
  refine x_newT (Nat.le_of_ble_eq_true rfl) fun a17 h17 n17 s17 e17 => ?_
  walk_at "gx"
  refine x_newL (Nat.le_of_ble_eq_true rfl) fun a18 h18 n18 s18 e18 => ?_
  walk_at "gx"
  refine x_catG ((Same.trans s12 (Same.trans s13 (Same.trans s14 (Same.trans s15 (Same.trans s16 (Same.trans s17 s18)))))) _ _ e11) (e18) (Nat.le_of_ble_eq_true rfl) fun a19 h19 n19 s19 e19 => ?_
  walk_at "gx"
  refine x_newX rfl fun a20 h20 n20 s20 e20 => ?_
  walk_at "gx"
  refine x_newX rfl fun a21 h21 n21 s21 e21 => ?_
  walk_at "gx"
  refine x_newX rfl fun a22 h22 n22 s22 e22 => ?_
  walk_at "gx"
  refine ⟨_, _, _,  rfl, ?_⟩
  walk_at "gx"
  refine x_getX T.x_NoLeg.xf (T.x_NoLeg.nof _ (by decide)) (e20.same (Same.trans s21 s22)) rfl ?_
  walk_at "gx"
  refine x_newT (Nat.le_of_ble_eq_true rfl) fun a23 h23 n23 s23 e23 => ?_
  walk_at "gx"
  refine x_getX T.x_NoWord.xf (T.x_NoWord.nof _ (by decide)) (e21.same (Same.trans s22 s23)) rfl ?_
  walk_at "gx"
  refine x_newT (Nat.le_of_ble_eq_true rfl) fun a24 h24 n24 s24 e24 => ?_
  walk_at "gx"
  refine x_getX T.x_TooMany.xf (T.x_TooMany.nof _ (by decide)) (e22.same (Same.trans s23 s24)) rfl ?_
  walk_at "gx"
  refine x_newT (Nat.le_of_ble_eq_true rfl) fun a25 h25 n25 s25 e25 => ?_
  walk_at "gx"
  refine x_newL (Nat.le_of_ble_eq_true rfl) fun a26 h26 n26 s26 e26 => ?_
  walk_at "gx"
  refine x_catG ((Same.trans s20 (Same.trans s21 (Same.trans s22 (Same.trans s23 (Same.trans s24 (Same.trans s25 s26)))))) _ _ e19) (e26) (Nat.le_of_ble_eq_true rfl) fun a27 h27 n27 s27 e27 => ?_
  exact q a27 _ [⟨a3, a1, x⟩, ⟨a4, a2, x⟩, ⟨a8, a6, x⟩, ⟨a9, a7, x⟩, ⟨a15, a12, x⟩, ⟨a16, a13, x⟩, ⟨a17, a14, x⟩, ⟨a23, a20, x⟩, ⟨a24, a21, x⟩, ⟨a25, a22, x⟩] (Same.free (Same.trans s1 (Same.trans s2 (Same.trans s3 (Same.trans s4 (Same.trans s5 (Same.trans s6 (Same.trans s7 (Same.trans s8 (Same.trans s9 (Same.trans s10 (Same.trans s11 (Same.trans s12 (Same.trans s13 (Same.trans s14 (Same.trans s15 (Same.trans s16 (Same.trans s17 (Same.trans s18 (Same.trans s19 (Same.trans s20 (Same.trans s21 (Same.trans s22 (Same.trans s23 (Same.trans s24 (Same.trans s25 s26))))))))))))))))))))))))) n27) (Same.trans s1 (Same.trans s2 (Same.trans s3 (Same.trans s4 (Same.trans s5 (Same.trans s6 (Same.trans s7 (Same.trans s8 (Same.trans s9 (Same.trans s10 (Same.trans s11 (Same.trans s12 (Same.trans s13 (Same.trans s14 (Same.trans s15 (Same.trans s16 (Same.trans s17 (Same.trans s18 (Same.trans s19 (Same.trans s20 (Same.trans s21 (Same.trans s22 (Same.trans s23 (Same.trans s24 (Same.trans s25 (Same.trans s26 s27)))))))))))))))))))))))))) (e27) rfl (.cons ⟨(Same.trans s4 (Same.trans s5 (Same.trans s6 (Same.trans s7 (Same.trans s8 (Same.trans s9 (Same.trans s10 (Same.trans s11 (Same.trans s12 (Same.trans s13 (Same.trans s14 (Same.trans s15 (Same.trans s16 (Same.trans s17 (Same.trans s18 (Same.trans s19 (Same.trans s20 (Same.trans s21 (Same.trans s22 (Same.trans s23 (Same.trans s24 (Same.trans s25 (Same.trans s26 s27))))))))))))))))))))))) _ _ e3, "InvalidFrame", rfl, .inl ⟨_, e1.same (Same.trans s2 (Same.trans s3 (Same.trans s4 (Same.trans s5 (Same.trans s6 (Same.trans s7 (Same.trans s8 (Same.trans s9 (Same.trans s10 (Same.trans s11 (Same.trans s12 (Same.trans s13 (Same.trans s14 (Same.trans s15 (Same.trans s16 (Same.trans s17 (Same.trans s18 (Same.trans s19 (Same.trans s20 (Same.trans s21 (Same.trans s22 (Same.trans s23 (Same.trans s24 (Same.trans s25 (Same.trans s26 s27)))))))))))))))))))))))))⟩⟩ (.cons ⟨(Same.trans s5 (Same.trans s6 (Same.trans s7 (Same.trans s8 (Same.trans s9 (Same.trans s10 (Same.trans s11 (Same.trans s12 (Same.trans s13 (Same.trans s14 (Same.trans s15 (Same.trans s16 (Same.trans s17 (Same.trans s18 (Same.trans s19 (Same.trans s20 (Same.trans s21 (Same.trans s22 (Same.trans s23 (Same.trans s24 (Same.trans s25 (Same.trans s26 s27)))))))))))))))))))))) _ _ e4, "InvalidWord", rfl, .inl ⟨_, e2.same (Same.trans s3 (Same.trans s4 (Same.trans s5 (Same.trans s6 (Same.trans s7 (Same.trans s8 (Same.trans s9 (Same.trans s10 (Same.trans s11 (Same.trans s12 (Same.trans s13 (Same.trans s14 (Same.trans s15 (Same.trans s16 (Same.trans s17 (Same.trans s18 (Same.trans s19 (Same.trans s20 (Same.trans s21 (Same.trans s22 (Same.trans s23 (Same.trans s24 (Same.trans s25 (Same.trans s26 s27))))))))))))))))))))))))⟩⟩ (.cons ⟨(Same.trans s9 (Same.trans s10 (Same.trans s11 (Same.trans s12 (Same.trans s13 (Same.trans s14 (Same.trans s15 (Same.trans s16 (Same.trans s17 (Same.trans s18 (Same.trans s19 (Same.trans s20 (Same.trans s21 (Same.trans s22 (Same.trans s23 (Same.trans s24 (Same.trans s25 (Same.trans s26 s27)))))))))))))))))) _ _ e8, "InvalidBoard", rfl, .inl ⟨_, e6.same (Same.trans s7 (Same.trans s8 (Same.trans s9 (Same.trans s10 (Same.trans s11 (Same.trans s12 (Same.trans s13 (Same.trans s14 (Same.trans s15 (Same.trans s16 (Same.trans s17 (Same.trans s18 (Same.trans s19 (Same.trans s20 (Same.trans s21 (Same.trans s22 (Same.trans s23 (Same.trans s24 (Same.trans s25 (Same.trans s26 s27))))))))))))))))))))⟩⟩ (.cons ⟨(Same.trans s10 (Same.trans s11 (Same.trans s12 (Same.trans s13 (Same.trans s14 (Same.trans s15 (Same.trans s16 (Same.trans s17 (Same.trans s18 (Same.trans s19 (Same.trans s20 (Same.trans s21 (Same.trans s22 (Same.trans s23 (Same.trans s24 (Same.trans s25 (Same.trans s26 s27))))))))))))))))) _ _ e9, "InvalidChain", rfl, .inl ⟨_, e7.same (Same.trans s8 (Same.trans s9 (Same.trans s10 (Same.trans s11 (Same.trans s12 (Same.trans s13 (Same.trans s14 (Same.trans s15 (Same.trans s16 (Same.trans s17 (Same.trans s18 (Same.trans s19 (Same.trans s20 (Same.trans s21 (Same.trans s22 (Same.trans s23 (Same.trans s24 (Same.trans s25 (Same.trans s26 s27)))))))))))))))))))⟩⟩ (.cons ⟨(Same.trans s16 (Same.trans s17 (Same.trans s18 (Same.trans s19 (Same.trans s20 (Same.trans s21 (Same.trans s22 (Same.trans s23 (Same.trans s24 (Same.trans s25 (Same.trans s26 s27))))))))))) _ _ e15, "InvalidHurt", rfl, .inl ⟨_, e12.same (Same.trans s13 (Same.trans s14 (Same.trans s15 (Same.trans s16 (Same.trans s17 (Same.trans s18 (Same.trans s19 (Same.trans s20 (Same.trans s21 (Same.trans s22 (Same.trans s23 (Same.trans s24 (Same.trans s25 (Same.trans s26 s27))))))))))))))⟩⟩ (.cons ⟨(Same.trans s17 (Same.trans s18 (Same.trans s19 (Same.trans s20 (Same.trans s21 (Same.trans s22 (Same.trans s23 (Same.trans s24 (Same.trans s25 (Same.trans s26 s27)))))))))) _ _ e16, "InvalidScan", rfl, .inl ⟨_, e13.same (Same.trans s14 (Same.trans s15 (Same.trans s16 (Same.trans s17 (Same.trans s18 (Same.trans s19 (Same.trans s20 (Same.trans s21 (Same.trans s22 (Same.trans s23 (Same.trans s24 (Same.trans s25 (Same.trans s26 s27)))))))))))))⟩⟩ (.cons ⟨(Same.trans s18 (Same.trans s19 (Same.trans s20 (Same.trans s21 (Same.trans s22 (Same.trans s23 (Same.trans s24 (Same.trans s25 (Same.trans s26 s27))))))))) _ _ e17, "InvalidCommand", rfl, .inl ⟨_, e14.same (Same.trans s15 (Same.trans s16 (Same.trans s17 (Same.trans s18 (Same.trans s19 (Same.trans s20 (Same.trans s21 (Same.trans s22 (Same.trans s23 (Same.trans s24 (Same.trans s25 (Same.trans s26 s27))))))))))))⟩⟩ (.cons ⟨(Same.trans s24 (Same.trans s25 (Same.trans s26 s27))) _ _ e23, "NoLeg", rfl, .inl ⟨_, e20.same (Same.trans s21 (Same.trans s22 (Same.trans s23 (Same.trans s24 (Same.trans s25 (Same.trans s26 s27))))))⟩⟩ (.cons ⟨(Same.trans s25 (Same.trans s26 s27)) _ _ e24, "NoWord", rfl, .inl ⟨_, e21.same (Same.trans s22 (Same.trans s23 (Same.trans s24 (Same.trans s25 (Same.trans s26 s27)))))⟩⟩ (.cons ⟨(Same.trans s26 s27) _ _ e25, "TooMany", rfl, .inl ⟨_, e22.same (Same.trans s23 (Same.trans s24 (Same.trans s25 (Same.trans s26 s27))))⟩⟩ .nil)))))))))) (fun r m => by simp only [List.mem_cons, List.not_mem_nil, or_false] at m; rcases m with rfl | rfl | rfl | rfl | rfl | rfl | rfl | rfl | rfl | rfl <;> rfl)
theorem len_Ltwos (h : sp_Ltwos K vs H Q E) : vs.length = 2 := by obtain ⟨x, y, rfl, _⟩ := h; rfl
theorem pure_Ltwos (T : Tx K mg) (h : sp_Ltwos K vs H Q E) : t_Ltwos K { nx := fun _ H2 => Q .non H2, rt := Q } (start ["_law_thing", "_law_other", "_law_one", "_law_two", "_law_three", "_law_found"] vs) H := by
  obtain ⟨x, y, rfl, q⟩ := h
  unfold t_Ltwos
  walk_at "gx"
  refine x_newX rfl fun a1 h1 n1 s1 e1 => ?_
  walk_at "gx"
  refine x_newX rfl fun a2 h2 n2 s2 e2 => ?_
  walk_at "gx"
  refine x_newX rfl fun a3 h3 n3 s3 e3 => ?_
  walk_at "gx"
  refine ⟨_, _, _, rfl, ?_⟩
  walk_at "gx"
  refine x_getX T.x_InvalidAnswer.xf (T.x_InvalidAnswer.nof _ (by decide)) (e1.same (Same.trans s2 s3)) rfl ?_
  walk_at "gx"
  refine x_getX T.x_InvalidAnswer.xf (T.x_InvalidAnswer.nof _ (by decide)) (e1.same (Same.trans s2 s3)) rfl ?_
  walk_at "gx"
  refine x_newT (Nat.le_of_ble_eq_true rfl) fun a4 h4 n4 s4 e4 => ?_
  walk_at "gx"
  refine x_newT (Nat.le_of_ble_eq_true rfl) fun a5 h5 n5 s5 e5 => ?_
  walk_at "gx"
  refine x_getX T.x_NoBoard.xf (T.x_NoBoard.nof _ (by decide)) (e2.same (Same.trans s3 (Same.trans s4 s5))) rfl ?_
  walk_at "gx"
  refine x_getX T.x_NoBoard.xf (T.x_NoBoard.nof _ (by decide)) (e2.same (Same.trans s3 (Same.trans s4 s5))) rfl ?_
  walk_at "gx"
  refine x_newT (Nat.le_of_ble_eq_true rfl) fun a6 h6 n6 s6 e6 => ?_
  walk_at "gx"
  refine x_newT (Nat.le_of_ble_eq_true rfl) fun a7 h7 n7 s7 e7 => ?_
  walk_at "gx"
  refine x_newL (Nat.le_of_ble_eq_true rfl) fun a8 h8 n8 s8 e8 => ?_
  walk_at "gx"
  refine x_getX T.x_InvalidText.xf (T.x_InvalidText.nof _ (by decide)) (e3.same (Same.trans s4 (Same.trans s5 (Same.trans s6 (Same.trans s7 s8))))) rfl ?_
  walk_at "gx"
  refine x_getX T.x_InvalidText.xf (T.x_InvalidText.nof _ (by decide)) (e3.same (Same.trans s4 (Same.trans s5 (Same.trans s6 (Same.trans s7 s8))))) rfl ?_
  walk_at "gx"
  refine x_newT (Nat.le_of_ble_eq_true rfl) fun a9 h9 n9 s9 e9 => ?_
  walk_at "gx"
  refine x_newT (Nat.le_of_ble_eq_true rfl) fun a10 h10 n10 s10 e10 => ?_
  walk_at "gx"
  refine x_newL (Nat.le_of_ble_eq_true rfl) fun a11 h11 n11 s11 e11 => ?_
  walk_at "gx"
  refine x_catG ((Same.trans s9 (Same.trans s10 s11)) _ _ e8) (e11) (Nat.le_of_ble_eq_true rfl) fun a12 h12 n12 s12 e12 => ?_
  exact q a12 _ [⟨a5, a1, .ref a4⟩, ⟨a7, a2, .ref a6⟩, ⟨a10, a3, .ref a9⟩] (Same.free (Same.trans s1 (Same.trans s2 (Same.trans s3 (Same.trans s4 (Same.trans s5 (Same.trans s6 (Same.trans s7 (Same.trans s8 (Same.trans s9 (Same.trans s10 s11)))))))))) n12) (Same.trans s1 (Same.trans s2 (Same.trans s3 (Same.trans s4 (Same.trans s5 (Same.trans s6 (Same.trans s7 (Same.trans s8 (Same.trans s9 (Same.trans s10 (Same.trans s11 s12))))))))))) (e12) rfl (.cons ⟨(Same.trans s6 (Same.trans s7 (Same.trans s8 (Same.trans s9 (Same.trans s10 (Same.trans s11 s12)))))) _ _ e5, "InvalidAnswer", rfl, .inl ⟨_, e1.same (Same.trans s2 (Same.trans s3 (Same.trans s4 (Same.trans s5 (Same.trans s6 (Same.trans s7 (Same.trans s8 (Same.trans s9 (Same.trans s10 (Same.trans s11 s12))))))))))⟩⟩ (.cons ⟨(Same.trans s8 (Same.trans s9 (Same.trans s10 (Same.trans s11 s12)))) _ _ e7, "NoBoard", rfl, .inl ⟨_, e2.same (Same.trans s3 (Same.trans s4 (Same.trans s5 (Same.trans s6 (Same.trans s7 (Same.trans s8 (Same.trans s9 (Same.trans s10 (Same.trans s11 s12)))))))))⟩⟩ (.cons ⟨(Same.trans s11 s12) _ _ e10, "InvalidText", rfl, .inl ⟨_, e3.same (Same.trans s4 (Same.trans s5 (Same.trans s6 (Same.trans s7 (Same.trans s8 (Same.trans s9 (Same.trans s10 (Same.trans s11 s12))))))))⟩⟩ .nil))) (fun r m => by simp only [List.mem_cons, List.not_mem_nil, or_false] at m; rcases m with rfl | rfl | rfl; (first | exact ⟨_, rfl, (Same.trans s5 (Same.trans s6 (Same.trans s7 (Same.trans s8 (Same.trans s9 (Same.trans s10 (Same.trans s11 s12))))))) _ _ e4⟩ | exact ⟨_, rfl, (Same.trans s7 (Same.trans s8 (Same.trans s9 (Same.trans s10 (Same.trans s11 s12))))) _ _ e6⟩ | exact ⟨_, rfl, (Same.trans s10 (Same.trans s11 s12)) _ _ e9⟩); (first | exact ⟨_, rfl, (Same.trans s7 (Same.trans s8 (Same.trans s9 (Same.trans s10 (Same.trans s11 s12))))) _ _ e6⟩ | exact ⟨_, rfl, (Same.trans s10 (Same.trans s11 s12)) _ _ e9⟩); exact ⟨_, rfl, (Same.trans s10 (Same.trans s11 s12)) _ _ e9⟩)
theorem Lkinds_row {i : Nat} {c : Str} (h : errs[i]? = some c) : [V.bl (isK c "InvalidFrame"), V.bl (isK c "InvalidWord"), V.bl (isK c "InvalidBoard"), V.bl (isK c "InvalidChain"), V.bl (isK c "InvalidHurt"), V.bl (isK c "InvalidScan"), V.bl (isK c "InvalidCommand"), V.bl (isK c "NoLeg"), V.bl (isK c "NoWord"), V.bl (isK c "TooMany"), V.bl (isK c "InvalidAnswer"), V.bl (isK c "NoBoard"), V.bl (isK c "InvalidText"), V.bl (isK c "Settled"), V.bl (isK c "NothingToUndo")] = (kindsOf i).map V.bl := by
  match i, h with
  | 0, h => cases (Option.some.inj h); rfl
  | 1, h => cases (Option.some.inj h); rfl
  | 2, h => cases (Option.some.inj h); rfl
  | 3, h => cases (Option.some.inj h); rfl
  | 4, h => cases (Option.some.inj h); rfl
  | 5, h => cases (Option.some.inj h); rfl
  | 6, h => cases (Option.some.inj h); rfl
  | 7, h => cases (Option.some.inj h); rfl
  | 8, h => cases (Option.some.inj h); rfl
  | 9, h => cases (Option.some.inj h); rfl
  | 10, h => cases (Option.some.inj h); rfl
  | 11, h => cases (Option.some.inj h); rfl
  | 12, h => cases (Option.some.inj h); rfl
  | 13, h => cases (Option.some.inj h); rfl
  | 14, h => cases (Option.some.inj h); rfl
  | i + 15, h => cases h
theorem len_Lkinds (h : sp_Lkinds K vs H Q E) : vs.length = 1 := by obtain ⟨a, i, rfl, _⟩ := h; rfl
theorem pure_Lkinds (T : Tx K mg) (h : sp_Lkinds K vs H Q E) : t_Lkinds K { nx := fun _ H2 => Q .non H2, rt := Q } (start ["_law_error", "_law_found"] vs) H := by
  obtain ⟨a, i, rfl, h, q⟩ := h
  obtain ⟨c, hc, hx⟩ := h
  have e0 : IsErr K H a i := ⟨c, hc, hx⟩
  unfold t_Lkinds
  walk_at "gx"
  refine err_isi T e0 hc (by decide) ?_
  walk_at "gx"
  refine err_isi T e0 hc (by decide) ?_
  walk_at "gx"
  refine err_isi T e0 hc (by decide) ?_
  walk_at "gx"
  refine x_newL (Nat.le_of_ble_eq_true rfl) fun a1 h1 n1 s1 e1 => ?_
  walk_at "gx"
  refine err_isi T (e0.same s1) hc (by decide) ?_
  walk_at "gx"
  refine err_isi T (e0.same s1) hc (by decide) ?_
  walk_at "gx"
  refine x_newL (Nat.le_of_ble_eq_true rfl) fun a2 h2 n2 s2 e2 => ?_
  walk_at "gx"
  refine x_catG (s2 _ _ e1) (e2) (Nat.le_of_ble_eq_true rfl) fun a3 h3 n3 s3 e3 => ?_
  walk_at "gx"
  refine err_isi T (e0.same (Same.trans s1 (Same.trans s2 s3))) hc (by decide) ?_
  walk_at "gx"
  refine err_isi T (e0.same (Same.trans s1 (Same.trans s2 s3))) hc (by decide) ?_
  walk_at "gx"
  refine x_newL (Nat.le_of_ble_eq_true rfl) fun a4 h4 n4 s4 e4 => ?_
  walk_at "gx"
  refine x_catG (s4 _ _ e3) (e4) (Nat.le_of_ble_eq_true rfl) fun a5 h5 n5 s5 e5 => ?_
  walk_at "gx"
  refine err_isi T (e0.same (Same.trans s1 (Same.trans s2 (Same.trans s3 (Same.trans s4 s5))))) hc (by decide) ?_
  walk_at "gx"
  refine err_isi T (e0.same (Same.trans s1 (Same.trans s2 (Same.trans s3 (Same.trans s4 s5))))) hc (by decide) ?_
  walk_at "gx"
  refine err_isi T (e0.same (Same.trans s1 (Same.trans s2 (Same.trans s3 (Same.trans s4 s5))))) hc (by decide) ?_
  walk_at "gx"
  refine x_newL (Nat.le_of_ble_eq_true rfl) fun a6 h6 n6 s6 e6 => ?_
  walk_at "gx"
  refine x_catG (s6 _ _ e5) (e6) (Nat.le_of_ble_eq_true rfl) fun a7 h7 n7 s7 e7 => ?_
  walk_at "gx"
  refine err_isi T (e0.same (Same.trans s1 (Same.trans s2 (Same.trans s3 (Same.trans s4 (Same.trans s5 (Same.trans s6 s7))))))) hc (by decide) ?_
  walk_at "gx"
  refine err_isi T (e0.same (Same.trans s1 (Same.trans s2 (Same.trans s3 (Same.trans s4 (Same.trans s5 (Same.trans s6 s7))))))) hc (by decide) ?_
  walk_at "gx"
  refine err_isi T (e0.same (Same.trans s1 (Same.trans s2 (Same.trans s3 (Same.trans s4 (Same.trans s5 (Same.trans s6 s7))))))) hc (by decide) ?_
  walk_at "gx"
  refine x_newL (Nat.le_of_ble_eq_true rfl) fun a8 h8 n8 s8 e8 => ?_
  walk_at "gx"
  refine x_catG (s8 _ _ e7) (e8) (Nat.le_of_ble_eq_true rfl) fun a9 h9 n9 s9 e9 => ?_
  walk_at "gx"
  refine err_isi T (e0.same (Same.trans s1 (Same.trans s2 (Same.trans s3 (Same.trans s4 (Same.trans s5 (Same.trans s6 (Same.trans s7 (Same.trans s8 s9))))))))) hc (by decide) ?_
  walk_at "gx"
  refine err_isi T (e0.same (Same.trans s1 (Same.trans s2 (Same.trans s3 (Same.trans s4 (Same.trans s5 (Same.trans s6 (Same.trans s7 (Same.trans s8 s9))))))))) hc (by decide) ?_
  walk_at "gx"
  refine x_newL (Nat.le_of_ble_eq_true rfl) fun a10 h10 n10 s10 e10 => ?_
  walk_at "gx"
  refine x_catG (s10 _ _ e9) (e10) (Nat.le_of_ble_eq_true rfl) fun a11 h11 n11 s11 e11 => ?_
  refine q a11 _ (Same.free (Same.trans s1 (Same.trans s2 (Same.trans s3 (Same.trans s4 (Same.trans s5 (Same.trans s6 (Same.trans s7 (Same.trans s8 (Same.trans s9 s10))))))))) n11) (Same.trans s1 (Same.trans s2 (Same.trans s3 (Same.trans s4 (Same.trans s5 (Same.trans s6 (Same.trans s7 (Same.trans s8 (Same.trans s9 (Same.trans s10 s11)))))))))) ?_
  rw [e11]
  exact congrArg (fun l => some (HO.lst l)) (Lkinds_row hc)
theorem Lbases_row {i : Nat} {c : Str} (h : errs[i]? = some c) : [V.bl (isK c "JoinError"), V.bl (isT c "ValueError"), V.bl (isK c "MissingError"), V.bl (isT c "LookupError"), V.bl (isT c "OverflowError"), V.bl (isT c "KeyError"), V.bl (isT c "IndexError")] = (basesOf i).map V.bl := by
  match i, h with
  | 0, h => cases (Option.some.inj h); rfl
  | 1, h => cases (Option.some.inj h); rfl
  | 2, h => cases (Option.some.inj h); rfl
  | 3, h => cases (Option.some.inj h); rfl
  | 4, h => cases (Option.some.inj h); rfl
  | 5, h => cases (Option.some.inj h); rfl
  | 6, h => cases (Option.some.inj h); rfl
  | 7, h => cases (Option.some.inj h); rfl
  | 8, h => cases (Option.some.inj h); rfl
  | 9, h => cases (Option.some.inj h); rfl
  | 10, h => cases (Option.some.inj h); rfl
  | 11, h => cases (Option.some.inj h); rfl
  | 12, h => cases (Option.some.inj h); rfl
  | 13, h => cases (Option.some.inj h); rfl
  | 14, h => cases (Option.some.inj h); rfl
  | i + 15, h => cases h
theorem len_Lbases (h : sp_Lbases K vs H Q E) : vs.length = 1 := by obtain ⟨a, i, rfl, _⟩ := h; rfl
theorem pure_Lbases (T : Tx K mg) (h : sp_Lbases K vs H Q E) : t_Lbases K { nx := fun _ H2 => Q .non H2, rt := Q } (start ["_law_error", "_law_found"] vs) H := by
  obtain ⟨a, i, rfl, h, q⟩ := h
  obtain ⟨c, hc, hx⟩ := h
  have e0 : IsErr K H a i := ⟨c, hc, hx⟩
  unfold t_Lbases
  walk_at "gx"
  refine err_isi T e0 hc (by decide) ?_
  walk_at "gx"
  refine err_isiT T e0 hc (by decide) ?_
  walk_at "gx"
  refine err_isi T e0 hc (by decide) ?_
  walk_at "gx"
  refine x_newL (Nat.le_of_ble_eq_true rfl) fun a1 h1 n1 s1 e1 => ?_
  walk_at "gx"
  refine err_isiT T (e0.same s1) hc (by decide) ?_
  walk_at "gx"
  refine err_isiT T (e0.same s1) hc (by decide) ?_
  walk_at "gx"
  refine x_newL (Nat.le_of_ble_eq_true rfl) fun a2 h2 n2 s2 e2 => ?_
  walk_at "gx"
  refine x_catG (s2 _ _ e1) (e2) (Nat.le_of_ble_eq_true rfl) fun a3 h3 n3 s3 e3 => ?_
  walk_at "gx"
  refine err_isiT T (e0.same (Same.trans s1 (Same.trans s2 s3))) hc (by decide) ?_
  walk_at "gx"
  refine err_isiT T (e0.same (Same.trans s1 (Same.trans s2 s3))) hc (by decide) ?_
  walk_at "gx"
  refine x_newL (Nat.le_of_ble_eq_true rfl) fun a4 h4 n4 s4 e4 => ?_
  walk_at "gx"
  refine x_catG (s4 _ _ e3) (e4) (Nat.le_of_ble_eq_true rfl) fun a5 h5 n5 s5 e5 => ?_
  refine q a5 _ (Same.free (Same.trans s1 (Same.trans s2 (Same.trans s3 s4))) n5) (Same.trans s1 (Same.trans s2 (Same.trans s3 (Same.trans s4 s5)))) ?_
  rw [e5]
  exact congrArg (fun l => some (HO.lst l)) (Lbases_row hc)
end

end K01

namespace K01
open PySem PySem.Spec PyProof.Rows L2 He SJ
local macro_rules | `(tactic| walk_at "go") => `(tactic| (repeat (first
  | with_reducible apply x_seq | with_reducible apply x_asg | with_reducible apply x_ret | with_reducible apply x_if | with_reducible apply x_test | with_reducible apply x_B | with_reducible apply x_op | (with_reducible apply x_var rfl) | with_reducible apply x_c
  | with_reducible apply x_cb | with_reducible apply x_cons | with_reducible apply x_nil | with_reducible apply x_bl2 | with_reducible apply x_st2 | with_reducible apply ite_t | with_reducible apply ite_f | with_reducible apply ite_n | with_reducible apply x_and | with_reducible apply x_or | with_reducible apply x_not | with_reducible apply x_andV | with_reducible apply x_orV | with_reducible apply x_notV
  | with_reducible apply x_addI | with_reducible apply x_sub' | with_reducible apply x_eqI | with_reducible apply x_neI | with_reducible apply x_eqT | with_reducible apply x_neT | with_reducible apply x_ltI | with_reducible apply x_leI | with_reducible apply x_gtI | with_reducible apply x_geI
  | with_reducible apply x_intI | with_reducible apply x_intBl | with_reducible apply x_absI | with_reducible apply x_asgG | with_reducible apply x_sub | with_reducible apply x_lst | with_reducible apply x_tup | with_reducible apply x_next | with_reducible apply x_drop
  | with_reducible apply x_ife | with_reducible apply x_chain | with_reducible apply x_inSg | with_reducible apply x_yes | with_reducible apply x_sl | with_reducible apply x_noPart | with_reducible apply x_part | with_reducible apply x_in2 | with_reducible apply x_fs | with_reducible apply x_js | with_reducible apply x_js0 | with_reducible apply x_fmtE | with_reducible apply x_m0 | with_reducible apply x_fld0 | with_reducible apply x_con0 | with_reducible apply x_pr0 | with_reducible apply x_sfld
  | (with_reducible refine x_new ?_ ?_; · exact Nat.le_of_ble_eq_true rfl)
  | with_reducible apply x_fn | with_reducible apply x_nw | with_reducible apply x_bm | with_reducible apply x_par | with_reducible apply x_rz | with_reducible apply x_retN | with_reducible apply x_un | with_reducible apply x_U)))
local macro_rules | `(tactic| walk_at "gp") => `(tactic| (repeat (first
  | with_reducible apply x_seq | with_reducible apply x_asg | with_reducible apply x_ret | with_reducible apply x_if | with_reducible apply x_test | with_reducible apply x_B | with_reducible apply x_op | (with_reducible apply x_var rfl) | with_reducible apply x_c
  | with_reducible apply x_cb | with_reducible apply x_cons | with_reducible apply x_nil | with_reducible apply x_bl2 | with_reducible apply x_st2 | with_reducible apply ite_t | with_reducible apply ite_f | with_reducible apply ite_n | with_reducible apply x_and | with_reducible apply x_or | with_reducible apply x_not | with_reducible apply x_andV | with_reducible apply x_orV | with_reducible apply x_notV
  | with_reducible apply x_addI | with_reducible apply x_sub' | with_reducible apply x_eqI | with_reducible apply x_neI | with_reducible apply x_eqT | with_reducible apply x_neT | with_reducible apply x_ltI | with_reducible apply x_leI | with_reducible apply x_gtI | with_reducible apply x_geI
  | with_reducible apply x_intI | with_reducible apply x_intBl | with_reducible apply x_absI | with_reducible apply x_asgG | with_reducible apply x_sub | with_reducible apply x_lstG | with_reducible apply x_tupG | with_reducible apply x_next | with_reducible apply x_drop
  | with_reducible apply x_ife | with_reducible apply x_chain | with_reducible apply x_inSg | with_reducible apply x_yes | with_reducible apply x_sl | with_reducible apply x_noPart | with_reducible apply x_part | with_reducible apply x_in2 | with_reducible apply x_fs | with_reducible apply x_js | with_reducible apply x_js0 | with_reducible apply x_fmtE | with_reducible apply x_m0 | with_reducible apply x_fld0 | with_reducible apply x_con0 | with_reducible apply x_pr0 | with_reducible apply x_sfld
  | with_reducible apply x_fn | with_reducible apply x_bm | with_reducible apply x_par | with_reducible apply x_rz | with_reducible apply x_retN | with_reducible apply x_un | with_reducible apply x_U)))
local macro_rules | `(tactic| walk_at "gx") => `(tactic| (repeat (first
  | with_reducible apply x_seq | with_reducible apply x_asg | with_reducible apply x_ret | with_reducible apply x_if | with_reducible apply x_test | with_reducible apply x_B | with_reducible apply x_op | (with_reducible apply x_var rfl) | with_reducible apply x_c
  | with_reducible apply x_cb | with_reducible apply x_cons | with_reducible apply x_nil | with_reducible apply x_bl2 | with_reducible apply x_st2 | with_reducible apply ite_t | with_reducible apply ite_f | with_reducible apply ite_n | with_reducible apply x_and | with_reducible apply x_or | with_reducible apply x_not | with_reducible apply x_andV | with_reducible apply x_orV | with_reducible apply x_notV
  | with_reducible apply x_addI | with_reducible apply x_sub' | with_reducible apply x_eqI | with_reducible apply x_neI | with_reducible apply x_eqT | with_reducible apply x_neT | with_reducible apply x_ltI | with_reducible apply x_leI | with_reducible apply x_gtI | with_reducible apply x_geI
  | with_reducible apply x_intI | with_reducible apply x_intBl | with_reducible apply x_absI | with_reducible apply x_asgG | with_reducible apply x_sub | with_reducible apply x_lstG | with_reducible apply x_tupG | with_reducible apply x_next | with_reducible apply x_drop
  | with_reducible apply x_ife | with_reducible apply x_chain | with_reducible apply x_inSg | with_reducible apply x_yes | with_reducible apply x_sl | with_reducible apply x_noPart | with_reducible apply x_part | with_reducible apply x_in2 | with_reducible apply x_xn | with_reducible apply x_xnK | with_reducible apply x_xv | with_reducible apply x_par3 | with_reducible apply x_fnK | with_reducible apply x_fs | with_reducible apply x_js | with_reducible apply x_js0 | with_reducible apply x_fmtE | with_reducible apply x_m0 | with_reducible apply x_fld0 | with_reducible apply x_con0 | with_reducible apply x_pr0 | with_reducible apply x_sfld
  | with_reducible apply x_fn | with_reducible apply x_bm | with_reducible apply x_par | with_reducible apply x_rz | with_reducible apply x_retN | with_reducible apply x_un | with_reducible apply x_U)))
section
variable {K : PySem.W.Frag} {mg : Str → Option Value} {vs : List V} {H : Hp} {Q : VK} {E : XK}
theorem len_Lnamed_right (h : sp_Lnamed_right K vs H Q E) : vs.length = 2 := by obtain ⟨x, y, dx, dy, rfl, _⟩ := h; rfl
theorem pure_Lnamed_right (T : Tx K mg) (h : sp_Lnamed_right K vs H Q E) : t_Lnamed_right K { nx := fun _ H2 => Q .non H2, rt := Q } (start ["_law_thing", "_law_other", "_law_found", "_law_one", "_law_two", "_law_three", "_law_pairs"] vs) H := by
  obtain ⟨x, y, dx, dy, rfl, ⟨hx, sx⟩, ⟨hy, sy⟩, q⟩ := h
  unfold t_Lnamed_right
  walk_at "gx"
  refine x_newXK (ws := [x]) rfl (fun _ => rfl) rfl fun a1 h1 n1 s1 e1 => ?_
  walk_at "gx"
  refine x_getX T.x_InvalidFrame.xf (T.x_InvalidFrame.nof _ (by decide)) (e1) rfl ?_
  walk_at "gx"
  refine x_newXK (ws := [x]) rfl (fun _ => rfl) rfl fun a2 h2 n2 s2 e2 => ?_
  walk_at "gx"
  refine x_getX T.x_InvalidWord.xf (T.x_InvalidWord.nof _ (by decide)) (e2) rfl ?_
  walk_at "gx"
  refine x_newXK (ws := [x]) rfl (fun _ => rfl) rfl fun a3 h3 n3 s3 e3 => ?_
  walk_at "gx"
  refine x_getX T.x_InvalidBoard.xf (T.x_InvalidBoard.nof _ (by decide)) (e3) rfl ?_
  walk_at "gx"
  refine x_newL (Nat.le_of_ble_eq_true rfl) fun a4 h4 n4 s4 e4 => ?_
  walk_at "gx"
  refine x_newXK (ws := [x]) rfl (fun _ => rfl) rfl fun a5 h5 n5 s5 e5 => ?_
  walk_at "gx"
  refine x_getX T.x_InvalidChain.xf (T.x_InvalidChain.nof _ (by decide)) (e5) rfl ?_
  walk_at "gx"
  refine x_newXK (ws := [x]) rfl (fun _ => rfl) rfl fun a6 h6 n6 s6 e6 => ?_
  walk_at "gx"
  refine x_getX T.x_InvalidHurt.xf (T.x_InvalidHurt.nof _ (by decide)) (e6) rfl ?_
  walk_at "gx"
  refine x_newL (Nat.le_of_ble_eq_true rfl) fun a7 h7 n7 s7 e7 => ?_
  walk_at "gx"
  refine x_catG ((Same.trans s5 (Same.trans s6 s7)) _ _ e4) (e7) (Nat.le_of_ble_eq_true rfl) fun a8 h8 n8 s8 e8 => ?_
  walk_at "gx"
  refine x_newXK (ws := [x]) rfl (fun _ => rfl) rfl fun a9 h9 n9 s9 e9 => ?_
  walk_at "gx"
  refine x_getX T.x_InvalidScan.xf (T.x_InvalidScan.nof _ (by decide)) (e9) rfl ?_
  walk_at "gx"
  refine x_newXK (ws := [x]) rfl (fun _ => rfl) rfl fun a10 h10 n10 s10 e10 => ?_
  walk_at "gx"
  refine x_getX T.x_InvalidCommand.xf (T.x_InvalidCommand.nof _ (by decide)) (e10) rfl ?_
  walk_at "gx"
  refine x_newXK (ws := [x]) rfl (fun _ => rfl) rfl fun a11 h11 n11 s11 e11 => ?_
  walk_at "gx"
  refine x_getX T.x_NoLeg.xf (T.x_NoLeg.nof _ (by decide)) (e11) rfl ?_
  walk_at "gx"
  refine x_newL (Nat.le_of_ble_eq_true rfl) fun a12 h12 n12 s12 e12 => ?_
  walk_at "gx"
  refine x_catG ((Same.trans s9 (Same.trans s10 (Same.trans s11 s12))) _ _ e8) (e12) (Nat.le_of_ble_eq_true rfl) fun a13 h13 n13 s13 e13 => ?_
  walk_at "gx"
  refine x_newXK (ws := [x]) rfl (fun _ => rfl) rfl fun a14 h14 n14 s14 e14 => ?_
  walk_at "gx"
  refine x_getX T.x_NoWord.xf (T.x_NoWord.nof _ (by decide)) (e14) rfl ?_
  walk_at "gx"
  refine x_newXK (ws := [x]) rfl (fun _ => rfl) rfl fun a15 h15 n15 s15 e15 => ?_
  walk_at "gx"
  refine x_getX T.x_TooMany.xf (T.x_TooMany.nof _ (by decide)) (e15) rfl ?_
  walk_at "gx"
  refine x_newL (Nat.le_of_ble_eq_true rfl) fun a16 h16 n16 s16 e16 => ?_
  walk_at "gx"
  refine x_catG ((Same.trans s14 (Same.trans s15 s16)) _ _ e13) (e16) (Nat.le_of_ble_eq_true rfl) fun a17 h17 n17 s17 e17 => ?_
  walk_at "gx"
  refine x_newXK (ws := [x, y]) rfl (fun _ => rfl) rfl fun a18 h18 n18 s18 e18 => ?_
  walk_at "gx"
  refine x_newXK (ws := [x, y]) rfl (fun _ => rfl) rfl fun a19 h19 n19 s19 e19 => ?_
  walk_at "gx"
  refine ⟨_, _, rfl, ?_⟩
  walk_at "gx"
  refine x_newXK (ws := [x, y]) rfl (fun _ => rfl) rfl fun a20 h20 n20 s20 e20 => ?_
  walk_at "gx"
  refine x_getX T.x_InvalidAnswer.xf (T.x_InvalidAnswer.nof _ (by decide)) (e18.same (Same.trans s19 s20)) rfl ?_
  walk_at "gx"
  refine x_getX T.x_InvalidAnswer.xf (T.x_InvalidAnswer.nof _ (by decide)) (e18.same (Same.trans s19 s20)) rfl ?_
  walk_at "gx"
  refine x_getX T.x_NoBoard.xf (T.x_NoBoard.nof _ (by decide)) (e19.same s20) rfl ?_
  walk_at "gx"
  refine x_getX T.x_NoBoard.xf (T.x_NoBoard.nof _ (by decide)) (e19.same s20) rfl ?_
  walk_at "gx"
  refine x_getX T.x_InvalidText.xf (T.x_InvalidText.nof _ (by decide)) (e20) rfl ?_
  walk_at "gx"
  refine x_getX T.x_InvalidText.xf (T.x_InvalidText.nof _ (by decide)) (e20) rfl ?_
  walk_at "gx"
  refine x_newL (Nat.le_of_ble_eq_true rfl) fun a21 h21 n21 s21 e21 => ?_
  walk_at "gx"
  refine x_catG ((Same.trans s18 (Same.trans s19 (Same.trans s20 s21))) _ _ e17) (e21) (Nat.le_of_ble_eq_true rfl) fun a22 h22 n22 s22 e22 => ?_
  have dall : ∀ G, Same H G → DqAll K G [x, x, x, x, x, x, x, x, x, x, x, y, x, y, x, y] [dx, dx, dx, dx, dx, dx, dx, dx, dx, dx, dx, dy, dx, dy, dx, dy] := fun G s => by
    have a := dq_same s _ _ hx
    have b := dq_same s _ _ hy
    exact (.cons a (.cons a (.cons a (.cons a (.cons a (.cons a (.cons a (.cons a (.cons a (.cons a (.cons a (.cons b (.cons a (.cons b (.cons a (.cons b .nil))))))))))))))))
  have sall := sh_list (n := 10) (w := 100) (shs_cons sx (shs_cons sx (shs_cons sx (shs_cons sx (shs_cons sx (shs_cons sx (shs_cons sx (shs_cons sx (shs_cons sx (shs_cons sx (shs_cons sx (shs_cons sy (shs_cons sx (shs_cons sy (shs_cons sx (shs_cons sy shs_nil))))))))))))))))
  walk_at "gx"
  refine x_reprS (.lst (e22) (dall _ (Same.trans s1 (Same.trans s2 (Same.trans s3 (Same.trans s4 (Same.trans s5 (Same.trans s6 (Same.trans s7 (Same.trans s8 (Same.trans s9 (Same.trans s10 (Same.trans s11 (Same.trans s12 (Same.trans s13 (Same.trans s14 (Same.trans s15 (Same.trans s16 (Same.trans s17 (Same.trans s18 (Same.trans s19 (Same.trans s20 (Same.trans s21 s22))))))))))))))))))))))) sall (by omega) (Nat.le_of_ble_eq_true rfl) ?_
  walk_at "gx"
  refine x_newL (Nat.le_of_ble_eq_true rfl) fun a23 h23 n23 s23 e23 => ?_
  walk_at "gx"
  refine x_repG (e23) (by omega) (Nat.le_of_ble_eq_true rfl) fun a24 h24 n24 s24 e24 => ?_
  walk_at "gx"
  refine x_newL (Nat.le_of_ble_eq_true rfl) fun a25 h25 n25 s25 e25 => ?_
  walk_at "gx"
  refine x_repG (e25) (by omega) (Nat.le_of_ble_eq_true rfl) fun a26 h26 n26 s26 e26 => ?_
  walk_at "gx"
  refine x_catG ((Same.trans s25 s26) _ _ e24) (e26) (Nat.le_of_ble_eq_true rfl) fun a27 h27 n27 s27 e27 => ?_
  walk_at "gx"
  refine x_reprS (.lst (e27) (dall _ (Same.trans s1 (Same.trans s2 (Same.trans s3 (Same.trans s4 (Same.trans s5 (Same.trans s6 (Same.trans s7 (Same.trans s8 (Same.trans s9 (Same.trans s10 (Same.trans s11 (Same.trans s12 (Same.trans s13 (Same.trans s14 (Same.trans s15 (Same.trans s16 (Same.trans s17 (Same.trans s18 (Same.trans s19 (Same.trans s20 (Same.trans s21 (Same.trans s22 (Same.trans s23 (Same.trans s24 (Same.trans s25 (Same.trans s26 s27)))))))))))))))))))))))))))) sall (by omega) (Nat.le_of_ble_eq_true rfl) ?_
  walk_at "gx"
  rw [decide_eq_true rfl]
  exact q _ (Same.trans s1 (Same.trans s2 (Same.trans s3 (Same.trans s4 (Same.trans s5 (Same.trans s6 (Same.trans s7 (Same.trans s8 (Same.trans s9 (Same.trans s10 (Same.trans s11 (Same.trans s12 (Same.trans s13 (Same.trans s14 (Same.trans s15 (Same.trans s16 (Same.trans s17 (Same.trans s18 (Same.trans s19 (Same.trans s20 (Same.trans s21 (Same.trans s22 (Same.trans s23 (Same.trans s24 (Same.trans s25 (Same.trans s26 s27))))))))))))))))))))))))))
end

end K01

namespace K01
open PySem PySem.Spec PyProof.Rows L2 He SJ
local macro_rules | `(tactic| walk_at "go") => `(tactic| (repeat (first
  | with_reducible apply x_seq | with_reducible apply x_asg | with_reducible apply x_ret | with_reducible apply x_if | with_reducible apply x_test | with_reducible apply x_B | with_reducible apply x_op | (with_reducible apply x_var rfl) | with_reducible apply x_c
  | with_reducible apply x_cb | with_reducible apply x_cons | with_reducible apply x_nil | with_reducible apply x_bl2 | with_reducible apply x_st2 | with_reducible apply ite_t | with_reducible apply ite_f | with_reducible apply ite_n | with_reducible apply x_and | with_reducible apply x_or | with_reducible apply x_not | with_reducible apply x_andV | with_reducible apply x_orV | with_reducible apply x_notV
  | with_reducible apply x_addI | with_reducible apply x_sub' | with_reducible apply x_eqI | with_reducible apply x_neI | with_reducible apply x_eqT | with_reducible apply x_neT | with_reducible apply x_ltI | with_reducible apply x_leI | with_reducible apply x_gtI | with_reducible apply x_geI
  | with_reducible apply x_intI | with_reducible apply x_intBl | with_reducible apply x_absI | with_reducible apply x_asgG | with_reducible apply x_sub | with_reducible apply x_lst | with_reducible apply x_tup | with_reducible apply x_next | with_reducible apply x_drop
  | with_reducible apply x_ife | with_reducible apply x_chain | with_reducible apply x_inSg | with_reducible apply x_yes | with_reducible apply x_sl | with_reducible apply x_noPart | with_reducible apply x_part | with_reducible apply x_in2 | with_reducible apply x_fs | with_reducible apply x_js | with_reducible apply x_js0 | with_reducible apply x_fmtE | with_reducible apply x_m0 | with_reducible apply x_fld0 | with_reducible apply x_con0 | with_reducible apply x_pr0 | with_reducible apply x_sfld
  | (with_reducible refine x_new ?_ ?_; · exact Nat.le_of_ble_eq_true rfl)
  | with_reducible apply x_fn | with_reducible apply x_nw | with_reducible apply x_bm | with_reducible apply x_par | with_reducible apply x_rz | with_reducible apply x_retN | with_reducible apply x_un | with_reducible apply x_U)))
local macro_rules | `(tactic| walk_at "gp") => `(tactic| (repeat (first
  | with_reducible apply x_seq | with_reducible apply x_asg | with_reducible apply x_ret | with_reducible apply x_if | with_reducible apply x_test | with_reducible apply x_B | with_reducible apply x_op | (with_reducible apply x_var rfl) | with_reducible apply x_c
  | with_reducible apply x_cb | with_reducible apply x_cons | with_reducible apply x_nil | with_reducible apply x_bl2 | with_reducible apply x_st2 | with_reducible apply ite_t | with_reducible apply ite_f | with_reducible apply ite_n | with_reducible apply x_and | with_reducible apply x_or | with_reducible apply x_not | with_reducible apply x_andV | with_reducible apply x_orV | with_reducible apply x_notV
  | with_reducible apply x_addI | with_reducible apply x_sub' | with_reducible apply x_eqI | with_reducible apply x_neI | with_reducible apply x_eqT | with_reducible apply x_neT | with_reducible apply x_ltI | with_reducible apply x_leI | with_reducible apply x_gtI | with_reducible apply x_geI
  | with_reducible apply x_intI | with_reducible apply x_intBl | with_reducible apply x_absI | with_reducible apply x_asgG | with_reducible apply x_sub | with_reducible apply x_lstG | with_reducible apply x_tupG | with_reducible apply x_next | with_reducible apply x_drop
  | with_reducible apply x_ife | with_reducible apply x_chain | with_reducible apply x_inSg | with_reducible apply x_yes | with_reducible apply x_sl | with_reducible apply x_noPart | with_reducible apply x_part | with_reducible apply x_in2 | with_reducible apply x_fs | with_reducible apply x_js | with_reducible apply x_js0 | with_reducible apply x_fmtE | with_reducible apply x_m0 | with_reducible apply x_fld0 | with_reducible apply x_con0 | with_reducible apply x_pr0 | with_reducible apply x_sfld
  | with_reducible apply x_fn | with_reducible apply x_bm | with_reducible apply x_par | with_reducible apply x_rz | with_reducible apply x_retN | with_reducible apply x_un | with_reducible apply x_U)))
local macro_rules | `(tactic| walk_at "gx") => `(tactic| (repeat (first
  | with_reducible apply x_seq | with_reducible apply x_asg | with_reducible apply x_ret | with_reducible apply x_if | with_reducible apply x_test | with_reducible apply x_B | with_reducible apply x_op | (with_reducible apply x_var rfl) | with_reducible apply x_c
  | with_reducible apply x_cb | with_reducible apply x_cons | with_reducible apply x_nil | with_reducible apply x_bl2 | with_reducible apply x_st2 | with_reducible apply ite_t | with_reducible apply ite_f | with_reducible apply ite_n | with_reducible apply x_and | with_reducible apply x_or | with_reducible apply x_not | with_reducible apply x_andV | with_reducible apply x_orV | with_reducible apply x_notV
  | with_reducible apply x_addI | with_reducible apply x_sub' | with_reducible apply x_eqI | with_reducible apply x_neI | with_reducible apply x_eqT | with_reducible apply x_neT | with_reducible apply x_ltI | with_reducible apply x_leI | with_reducible apply x_gtI | with_reducible apply x_geI
  | with_reducible apply x_intI | with_reducible apply x_intBl | with_reducible apply x_absI | with_reducible apply x_asgG | with_reducible apply x_sub | with_reducible apply x_lstG | with_reducible apply x_tupG | with_reducible apply x_next | with_reducible apply x_drop
  | with_reducible apply x_ife | with_reducible apply x_chain | with_reducible apply x_inSg | with_reducible apply x_yes | with_reducible apply x_sl | with_reducible apply x_noPart | with_reducible apply x_part | with_reducible apply x_in2 | with_reducible apply x_xn | with_reducible apply x_xnK | with_reducible apply x_xv | with_reducible apply x_par3 | with_reducible apply x_fnK | with_reducible apply x_fs | with_reducible apply x_js | with_reducible apply x_js0 | with_reducible apply x_fmtE | with_reducible apply x_m0 | with_reducible apply x_fld0 | with_reducible apply x_con0 | with_reducible apply x_pr0 | with_reducible apply x_sfld
  | with_reducible apply x_fn | with_reducible apply x_bm | with_reducible apply x_par | with_reducible apply x_rz | with_reducible apply x_retN | with_reducible apply x_un | with_reducible apply x_U)))
def tAbove (K : PySem.W.Frag) : TE := (tLst (tCons (tOrV (tOp rGtU (tC (.int 7)) (tVar 5)) (tOp rGtU (tVar 5) (tC (.int 9)))) (tCons (tOrV (tOp rLtU (tVar 5) (tC (.int 7))) (tOp rGtU (tVar 5) (tC (.int 9)))) (tCons (tOp (rInU K false) (tVar 5) (tTup (tCons (tC (.int 7)) (tCons (tC (.int 8)) tNil)))) (tCons (tOp (rInU K false) (tVar 5) (tTup (tCons (tC (.int 7)) (tCons (tC (.int 8)) tNil)))) (tCons (tOp (rEqU K) (tVar 5) (tC (.int 9))) tNil))))))
def tRowB (K : PySem.W.Frag) : TS := (tSeq (tIfS (tTest (tOp (rNeU K) (tCB (rReprU K) (tCons (tVar 7) tNil)) (tCB (rReprU K) (tCons (tIf (tTest (tChain rLeU rLtU (tC (.int 10)) (tVar 5) (tC (.int 13)))) (tTup (tCons (tVar 2) (tCons (tVar 3) tNil))) (tVar 2)) tNil)))) (tRet (tC (.bl false))) tNext) (tSeq (tIfS (tTest (tOp (rNeU K) (tFn (sp_Lkinds K) [] W0 (tCons (tVar 6) tNil)) (tLc (iRng1 (tCons (tC (.int 15)) tNil)) (gName 8) tYes (tOp (rEqU K) (tVar 8) (tVar 5)) [8]))) (tRet (tC (.bl false))) tNext) (tSeq (tAsg (tAbove K) (gName 9)) (tIfS (tTest (tOp (rNeU K) (tFn (sp_Lbases K) [] W0 (tCons (tVar 6) tNil)) (tOp (rAdd K) (tVar 9) (tLst (tCons (tC (.bl false)) (tCons (tC (.bl false)) tNil)))))) (tRet (tC (.bl false))) tNext))))
section
variable {K : PySem.W.Frag} {mg : Str → Option Value} {vs : List V} {H : Hp} {Q : VK} {E : XK}
theorem dp_bools : ∀ bs : List Bool, DpAll K H (bs.map V.bl) (bs.map PyData.bool)
  | [] => .nil
  | b :: bs => .cons (.bl b) (dp_bools bs)
theorem eqv_bools : ∀ bs : List Bool, PyData.eqvAll (bs.map PyData.bool) (bs.map PyData.bool) = true
  | [] => by simp only [List.map_nil, PyData.eqvAll]
  | b :: bs => by simp only [List.map_cons, PyData.eqvAll, PyData.eqv, eqv_bools bs, beq_self_eq_true, Bool.and_true]
theorem x_neBools {a b : Addr} {bs : List Bool} (ha : H a = some (.lst (bs.map V.bl))) (hb : H b = some (.lst (bs.map V.bl))) (k : Q (.bl false) H) : rNeU K (.ref a) (.ref b) H Q := by
  have sh : SeqAt.shaped (.list (bs.map PyData.bool)) = true := (Lay.lst (n := 0) fun d m => by obtain ⟨c, _, rfl⟩ := List.mem_map.mp m; exact .bl).sh (by omega)
  refine x_neDD (.lst (SqL.of ha) (dp_bools bs)) (.lst (SqL.of hb) (dp_bools bs)) sh sh ?_
  have e : PyData.eqv (.list (bs.map PyData.bool)) (.list (bs.map PyData.bool)) = true := by simp only [PyData.eqv]; exact eqv_bools bs
  rw [e]
  exact k
theorem x_orVB {σ : L2.St} {ta tb : TE} {b1 b2 : Bool} (h1 : ∀ Q : VK, Q (.bl b1) H → ta σ H Q) (h2 : ∀ Q : VK, Q (.bl b2) H → tb σ H Q) (k : Q (.bl (b1 || b2)) H) : tOrV ta tb σ H Q := by
  refine x_orV (h1 _ ⟨b1, rfl, ?_⟩)
  cases b1 with
  | true => exact ite_t k
  | false => exact ite_f (h2 _ k)
theorem above_row {i : Nat} (hi : i < 15) : [decide ((i : Int) < 7) || decide ((9 : Int) < i), decide ((i : Int) < 7) || decide ((9 : Int) < i), inV (.int i) [.int 7, .int 8], inV (.int i) [.int 7, .int 8], decide ((i : Int) = 9)] ++ [false, false] = basesOf i := by
  match i, hi with
  | 0, _ => rfl
  | 1, _ => rfl
  | 2, _ => rfl
  | 3, _ => rfl
  | 4, _ => rfl
  | 5, _ => rfl
  | 6, _ => rfl
  | 7, _ => rfl
  | 8, _ => rfl
  | 9, _ => rfl
  | 10, _ => rfl
  | 11, _ => rfl
  | 12, _ => rfl
  | 13, _ => rfl
  | 14, _ => rfl
  | i + 15, h => exact absurd h (by omega)
theorem above_ok {i : Nat} {v0 v1 v2 v3 v4 v6 v7 v8 v9 : Option V} (q : ∀ l H2, Same H H2 → H2 l = some (.lst ([decide ((i : Int) < 7) || decide ((9 : Int) < i), decide ((i : Int) < 7) || decide ((9 : Int) < i), inV (.int i) [.int 7, .int 8], inV (.int i) [.int 7, .int 8], decide ((i : Int) = 9)].map V.bl)) → Q (.ref l) H2) :
    tAbove K [v0, v1, v2, v3, v4, some (.int i), v6, v7, v8, v9] H Q := by
  unfold tAbove
  apply x_lstG
  apply x_cons
  refine x_orVB (b1 := decide ((i : Int) < 7)) (b2 := decide ((9 : Int) < i)) (fun Q q => by walk_at "gx"; exact q) (fun Q q => by walk_at "gx"; exact q) ?_
  apply x_cons
  refine x_orVB (b1 := decide ((i : Int) < 7)) (b2 := decide ((9 : Int) < i)) (fun Q q => by walk_at "gx"; exact q) (fun Q q => by walk_at "gx"; exact q) ?_
  walk_at "gx"
  refine x_newT (Nat.le_of_ble_eq_true rfl) fun p1 F1 e1 w1 d1 => ?_
  refine x_inT (SqT.of d1) rfl rfl ?_
  walk_at "gx"
  refine x_newT (Nat.le_of_ble_eq_true rfl) fun p2 F2 e2 w2 d2 => ?_
  refine x_inT (SqT.of d2) rfl rfl ?_
  walk_at "gx"
  refine x_newL (Nat.le_of_ble_eq_true rfl) fun p3 F3 e3 w3 d3 => ?_
  exact q p3 F3 (Same.trans w1 (Same.trans w2 w3)) d3
theorem row_ok (T : Tx K mg) {D : Ends} {i : Nat} {r : Row} {x y : V} {d1 d2 : PyData} {v0 v1 v4 v8 v9 : Option V} (hi : i < 15) (hr : RowOk K H i r) (hx : Dq K H x d1) (s1 : Sh 10 100 d1) (hy : Dq K H y d2) (s2 : Sh 10 100 d2)
    (hk : Dq K H r.v (if 10 ≤ i ∧ i < 13 then .tuple [d1, d2] else d1)) (q : ∀ v8 v9 H2, Same H H2 → D.nx [v0, v1, some x, some y, v4, some (.int i), some (.ref r.e), some r.v, v8, v9] H2) :
    tRowB K D [v0, v1, some x, some y, v4, some (.int i), some (.ref r.e), some r.v, v8, v9] H := by
  unfold tRowB
  have st : Sh 11 300 (.tuple [d1, d2]) := (sh_tup (shs_cons s1 (shs_cons s2 shs_nil))).mono (by omega) (by show 2 * (100 + 2) + 3 ≤ 300; omega)
  have sk : Sh 11 300 (if 10 ≤ i ∧ i < 13 then .tuple [d1, d2] else d1) := by
    split
    · exact st
    · exact s1.mono (by omega) (by omega)
  have rest : ∀ G, Same H G → (tSeq (tIfS (tTest (tOp (rNeU K) (tFn (sp_Lkinds K) [] W0 (tCons (tVar 6) tNil)) (tLc (iRng1 (tCons (tC (.int 15)) tNil)) (gName 8) tYes (tOp (rEqU K) (tVar 8) (tVar 5)) [8]))) (tRet (tC (.bl false))) tNext) (tSeq (tAsg (tAbove K) (gName 9)) (tIfS (tTest (tOp (rNeU K) (tFn (sp_Lbases K) [] W0 (tCons (tVar 6) tNil)) (tOp (rAdd K) (tVar 9) (tLst (tCons (tC (.bl false)) (tCons (tC (.bl false)) tNil)))))) (tRet (tC (.bl false))) tNext))) D
      [v0, v1, some x, some y, v4, some (.int i), some (.ref r.e), some r.v, v8, v9] G := by
    intro G sG
    walk_at "gx"
    refine ⟨r.e, i, rfl, hr.2.same sG, fun l F1 nl w1 e1 => ?_⟩
    refine x_lcR (n := 15) (fun _ q => q) (by omega) (fun z j F => F z = some (.lst (((List.range j).map fun k => decide (k = i)).map V.bl)) ∧ Same F1 F) (fun z hz => ⟨upd_same, Same.upd (Same.refl _) hz⟩) (fun z j F hz hj hv => ?_) (fun z F hz hv => ?_)
    · refine ⟨rfl, ?_⟩
      walk_at "gx"
      refine ⟨_, hv.1, by rw [List.length_map, List.length_map, List.length_range]; exact Nat.lt_of_lt_of_le hj (by decide), ?_, Same.mut hv.2 hz⟩
      rw [upd_same, List.range_succ, List.map_append, List.map_append]
      have e : decide ((j : Int) = (i : Int)) = decide (j = i) := by
        by_cases h : j = i
        · rw [decide_eq_true h, decide_eq_true (by rw [h])]
        · rw [decide_eq_false h, decide_eq_false (by omega)]
      rw [e]
      rfl
    · refine x_neBools (bs := kindsOf i) (hv.2 _ _ e1) hv.1 ?_
      walk_at "gx"
      refine above_ok fun l2 F2 w2 e2 => ?_
      walk_at "gx"
      refine ⟨r.e, i, rfl, hr.2.same (Same.trans sG (Same.trans w1 (Same.trans hv.2 w2))), fun l3 F3 nl3 w3 e3 => ?_⟩
      walk_at "gx"
      refine x_newL (Nat.le_of_ble_eq_true rfl) fun l4 F4 nl4 w4 e4 => ?_
      refine x_catG (w4 _ _ (w3 _ _ e2)) e4 (Nat.le_of_ble_eq_true rfl) fun l5 F5 nl5 w5 e5 => ?_
      refine x_neBools (bs := basesOf i) (w5 _ _ (w4 _ _ e3)) (by rw [e5, ← above_row hi]; rfl) ?_
      walk_at "gx"
      exact q _ _ F5 (Same.trans sG (Same.trans w1 (Same.trans hv.2 (Same.trans w2 (Same.trans w3 (Same.trans w4 w5))))))
  walk_at "gx"
  refine x_reprS hk sk (by omega) (by omega) ?_
  apply x_cb
  apply x_cons
  apply x_ife
  apply x_test
  walk_at "gx"
  by_cases h10 : (10 : Int) ≤ i
  · rw [decide_eq_true h10]
    walk_at "gx"
    by_cases h13 : (i : Int) < 13
    · rw [decide_eq_true h13]
      have ek : (if 10 ≤ i ∧ i < 13 then PyData.tuple [d1, d2] else d1) = .tuple [d1, d2] := if_pos ⟨by omega, by omega⟩
      rw [ek]
      walk_at "gx"
      refine x_newT (Nat.le_of_ble_eq_true rfl) fun p1 F1 e1 w1 d1 => ?_
      walk_at "gx"
      refine x_reprS (.tup (SqT.of d1) (.cons (dq_same w1 _ _ hx) (.cons (dq_same w1 _ _ hy) .nil))) st (by omega) (by omega) ?_
      refine x_neT ⟨_, rfl, ite_n (ite_d rfl ?_)⟩
      exact rest _ w1
    · rw [decide_eq_false h13]
      have ek : (if 10 ≤ i ∧ i < 13 then PyData.tuple [d1, d2] else d1) = d1 := if_neg (fun h => h13 (by have := h.2; omega))
      rw [ek]
      walk_at "gx"
      refine x_reprS hx s1 (by omega) (by omega) ?_
      refine x_neT ⟨_, rfl, ite_n (ite_d rfl ?_)⟩
      exact rest _ (Same.refl _)
  · rw [decide_eq_false h10]
    have ek : (if 10 ≤ i ∧ i < 13 then PyData.tuple [d1, d2] else d1) = d1 := if_neg (fun h => h10 (by have := h.1; omega))
    rw [ek]
    walk_at "gx"
    refine x_reprS hx s1 (by omega) (by omega) ?_
    refine x_neT ⟨_, rfl, ite_n (ite_d rfl ?_)⟩
    exact rest _ (Same.refl _)
end

end K01

namespace K01
open PySem PySem.Spec PyProof.Rows L2 He SJ
local macro_rules | `(tactic| walk_at "go") => `(tactic| (repeat (first
  | with_reducible apply x_seq | with_reducible apply x_asg | with_reducible apply x_ret | with_reducible apply x_if | with_reducible apply x_test | with_reducible apply x_B | with_reducible apply x_op | (with_reducible apply x_var rfl) | with_reducible apply x_c
  | with_reducible apply x_cb | with_reducible apply x_cons | with_reducible apply x_nil | with_reducible apply x_bl2 | with_reducible apply x_st2 | with_reducible apply ite_t | with_reducible apply ite_f | with_reducible apply ite_n | with_reducible apply x_and | with_reducible apply x_or | with_reducible apply x_not | with_reducible apply x_andV | with_reducible apply x_orV | with_reducible apply x_notV
  | with_reducible apply x_addI | with_reducible apply x_sub' | with_reducible apply x_eqI | with_reducible apply x_neI | with_reducible apply x_eqT | with_reducible apply x_neT | with_reducible apply x_ltI | with_reducible apply x_leI | with_reducible apply x_gtI | with_reducible apply x_geI
  | with_reducible apply x_intI | with_reducible apply x_intBl | with_reducible apply x_absI | with_reducible apply x_asgG | with_reducible apply x_sub | with_reducible apply x_lst | with_reducible apply x_tup | with_reducible apply x_next | with_reducible apply x_drop
  | with_reducible apply x_ife | with_reducible apply x_chain | with_reducible apply x_inSg | with_reducible apply x_yes | with_reducible apply x_sl | with_reducible apply x_noPart | with_reducible apply x_part | with_reducible apply x_in2 | with_reducible apply x_fs | with_reducible apply x_js | with_reducible apply x_js0 | with_reducible apply x_fmtE | with_reducible apply x_m0 | with_reducible apply x_fld0 | with_reducible apply x_con0 | with_reducible apply x_pr0 | with_reducible apply x_sfld
  | (with_reducible refine x_new ?_ ?_; · exact Nat.le_of_ble_eq_true rfl)
  | with_reducible apply x_fn | with_reducible apply x_nw | with_reducible apply x_bm | with_reducible apply x_par | with_reducible apply x_rz | with_reducible apply x_retN | with_reducible apply x_un | with_reducible apply x_U)))
local macro_rules | `(tactic| walk_at "gp") => `(tactic| (repeat (first
  | with_reducible apply x_seq | with_reducible apply x_asg | with_reducible apply x_ret | with_reducible apply x_if | with_reducible apply x_test | with_reducible apply x_B | with_reducible apply x_op | (with_reducible apply x_var rfl) | with_reducible apply x_c
  | with_reducible apply x_cb | with_reducible apply x_cons | with_reducible apply x_nil | with_reducible apply x_bl2 | with_reducible apply x_st2 | with_reducible apply ite_t | with_reducible apply ite_f | with_reducible apply ite_n | with_reducible apply x_and | with_reducible apply x_or | with_reducible apply x_not | with_reducible apply x_andV | with_reducible apply x_orV | with_reducible apply x_notV
  | with_reducible apply x_addI | with_reducible apply x_sub' | with_reducible apply x_eqI | with_reducible apply x_neI | with_reducible apply x_eqT | with_reducible apply x_neT | with_reducible apply x_ltI | with_reducible apply x_leI | with_reducible apply x_gtI | with_reducible apply x_geI
  | with_reducible apply x_intI | with_reducible apply x_intBl | with_reducible apply x_absI | with_reducible apply x_asgG | with_reducible apply x_sub | with_reducible apply x_lstG | with_reducible apply x_tupG | with_reducible apply x_next | with_reducible apply x_drop
  | with_reducible apply x_ife | with_reducible apply x_chain | with_reducible apply x_inSg | with_reducible apply x_yes | with_reducible apply x_sl | with_reducible apply x_noPart | with_reducible apply x_part | with_reducible apply x_in2 | with_reducible apply x_fs | with_reducible apply x_js | with_reducible apply x_js0 | with_reducible apply x_fmtE | with_reducible apply x_m0 | with_reducible apply x_fld0 | with_reducible apply x_con0 | with_reducible apply x_pr0 | with_reducible apply x_sfld
  | with_reducible apply x_fn | with_reducible apply x_bm | with_reducible apply x_par | with_reducible apply x_rz | with_reducible apply x_retN | with_reducible apply x_un | with_reducible apply x_U)))
local macro_rules | `(tactic| walk_at "gx") => `(tactic| (repeat (first
  | with_reducible apply x_seq | with_reducible apply x_asg | with_reducible apply x_ret | with_reducible apply x_if | with_reducible apply x_test | with_reducible apply x_B | with_reducible apply x_op | (with_reducible apply x_var rfl) | with_reducible apply x_c
  | with_reducible apply x_cb | with_reducible apply x_cons | with_reducible apply x_nil | with_reducible apply x_bl2 | with_reducible apply x_st2 | with_reducible apply ite_t | with_reducible apply ite_f | with_reducible apply ite_n | with_reducible apply x_and | with_reducible apply x_or | with_reducible apply x_not | with_reducible apply x_andV | with_reducible apply x_orV | with_reducible apply x_notV
  | with_reducible apply x_addI | with_reducible apply x_sub' | with_reducible apply x_eqI | with_reducible apply x_neI | with_reducible apply x_eqT | with_reducible apply x_neT | with_reducible apply x_ltI | with_reducible apply x_leI | with_reducible apply x_gtI | with_reducible apply x_geI
  | with_reducible apply x_intI | with_reducible apply x_intBl | with_reducible apply x_absI | with_reducible apply x_asgG | with_reducible apply x_sub | with_reducible apply x_lstG | with_reducible apply x_tupG | with_reducible apply x_next | with_reducible apply x_drop
  | with_reducible apply x_ife | with_reducible apply x_chain | with_reducible apply x_inSg | with_reducible apply x_yes | with_reducible apply x_sl | with_reducible apply x_noPart | with_reducible apply x_part | with_reducible apply x_in2 | with_reducible apply x_xn | with_reducible apply x_xnK | with_reducible apply x_xv | with_reducible apply x_par3 | with_reducible apply x_fnK | with_reducible apply x_fs | with_reducible apply x_js | with_reducible apply x_js0 | with_reducible apply x_fmtE | with_reducible apply x_m0 | with_reducible apply x_fld0 | with_reducible apply x_con0 | with_reducible apply x_pr0 | with_reducible apply x_sfld
  | with_reducible apply x_fn | with_reducible apply x_bm | with_reducible apply x_par | with_reducible apply x_rz | with_reducible apply x_retN | with_reducible apply x_un | with_reducible apply x_U)))
section
variable {K : PySem.W.Frag} {mg : Str → Option Value} {vs : List V} {H : Hp} {Q : VK} {E : XK}
theorem RowsOk.append {i : Nat} {rs ts : List Row} (h : RowsOk K H i rs) (g : RowsOk K H (i + rs.length) ts) : RowsOk K H i (rs ++ ts) := by
  induction rs generalizing i with
  | nil => exact g
  | cons r rs ih =>
    refine .cons (h 0 r rfl) (ih (fun j r2 h2 => ?_) ?_)
    · have := h (j + 1) r2 h2
      rw [Nat.add_assoc, Nat.add_comm 1 j]
      exact this
    · rw [List.length_cons, Nat.add_comm rs.length 1, ← Nat.add_assoc] at g
      exact g
theorem RowsOk.same {H2 : Hp} {i : Nat} {rs : List Row} (h : RowsOk K H i rs) (s : Same H H2) : RowsOk K H2 i rs := fun j r e => (h j r e).same s
def thingsV (t l d : Addr) : List V := [.non, .int 0, .bl true, .str "a", .ref t, .ref l, .ref d, .int (10 ^ (60 : Int).toNat - 1), .int (-1), .str ""]
theorem things_ok {G : Hp} {t l d : Addr} (ht : G t = some (.tup [.int 1])) (hl : G l = some (.lst [.int 1])) (hd : G d = some (.dK [])) {v : V} (m : v ∈ thingsV t l d) : ∃ z, Dq K G v z ∧ Sh 10 100 z := by
  unfold thingsV at m
  rcases List.mem_cons.mp m with rfl | m
  · exact ⟨_, .non, by decide +kernel, by decide +kernel, by decide +kernel⟩
  rcases List.mem_cons.mp m with rfl | m
  · exact ⟨_, .int _, by decide +kernel, by decide +kernel, by decide +kernel⟩
  rcases List.mem_cons.mp m with rfl | m
  · exact ⟨_, .bl _, by decide +kernel, by decide +kernel, by decide +kernel⟩
  rcases List.mem_cons.mp m with rfl | m
  · exact ⟨_, .str _, by decide +kernel, by decide +kernel, by decide +kernel⟩
  rcases List.mem_cons.mp m with rfl | m
  · exact ⟨_, .tup (SqT.of ht) (.cons (.int _) .nil), by decide +kernel, by decide +kernel, by decide +kernel⟩
  rcases List.mem_cons.mp m with rfl | m
  · exact ⟨_, .lst hl (.cons (.int _) .nil), by decide +kernel, by decide +kernel, by decide +kernel⟩
  rcases List.mem_cons.mp m with rfl | m
  · exact ⟨_, .dic hd, by decide +kernel, by decide +kernel, by decide +kernel⟩
  rcases List.mem_cons.mp m with rfl | m
  · exact ⟨_, .int _, by decide +kernel, by decide +kernel, by decide +kernel⟩
  rcases List.mem_cons.mp m with rfl | m
  · exact ⟨_, .int _, by decide +kernel, by decide +kernel, by decide +kernel⟩
  rcases List.mem_cons.mp m with rfl | m
  · exact ⟨_, .str _, by decide +kernel, by decide +kernel, by decide +kernel⟩
  cases m
theorem len_Lerrors_right (h : sp_Lerrors_right K vs H Q E) : vs.length = 1 := by obtain ⟨P, n, rfl, _⟩ := h; rfl
theorem pure_Lerrors_right (T : Tx K mg) (h : sp_Lerrors_right K vs H Q E) : t_Lerrors_right K { nx := fun _ H2 => Q .non H2, rt := Q } (start ["_law_pen_here", "_law_some", "_law_thing", "_law_other", "_law_rows", "_law_at", "_law_error", "_law_kept", "_law_k", "_law_above"] vs) H := by
  obtain ⟨P, n, rfl, pen, hn, q⟩ := h
  show (tSeq (tAsg (tLst (tCons (tC .non) (tCons (tC (.int 0)) (tCons (tC (.bl true)) (tCons (tC (.str "a")) (tCons (tTup (tCons (tC (.int 1)) tNil)) (tCons (tLst (tCons (tC (.int 1)) tNil)) (tCons tDNewK (tCons (tOp SJ.rSub (tOp rPow (tC (.int 10)) (tC (.int 60))) (tC (.int 1))) (tCons (tUn (rU fun i => .int (-i)) (tC (.int 1))) (tCons (tC (.str "")) tNil))))))))))) (gName 1)) (tSeq (tPar 2 3 (tCons (tFn (sp_Lpick K) [] W0 (tCons (tVar 0) (tCons (tVar 1) tNil))) (tCons (tFn (sp_Lpick K) [] W0 (tCons (tVar 0) (tCons (tVar 1) tNil))) tNil))) (tSeq (tAsg (tOp (rAdd K) (tOp (rAdd K) (tFn (sp_Lones K) [] W0 (tCons (tVar 2) tNil)) (tFn (sp_Ltwos K) [] W0 (tCons (tVar 2) (tCons (tVar 3) tNil)))) (tLst (tCons (tTup (tCons (tXn0 (ga K "Settled")) (tCons (tVar 2) tNil))) (tCons (tTup (tCons (tXn0 (ga K "NothingToUndo")) (tCons (tVar 2) tNil))) tNil)))) (gName 4)) (tSeq (tIfS (tNot (tB (tFn (sp_Lnamed_right K) [] W0 (tCons (tVar 2) (tCons (tVar 3) tNil))))) (tRet (tC (.bl false))) tNext) (tSeq (tFor (iEnum K (tCons (tVar 4) tNil)) (gTup K 2 (gCons (gName 5) (gCons (gTup K 2 (gCons (gName 6) (gCons (gName 7) gNil))) gNil))) (tRowB K)) (tRet (tC (.bl true)))))))) _ _ _
  walk_at "gx"
  refine x_newT (Nat.le_of_ble_eq_true rfl) fun t1 h1 n1 s1 e1 => ?_
  walk_at "gx"
  refine x_newL (Nat.le_of_ble_eq_true rfl) fun l1 h2 n2 s2 e2 => ?_
  walk_at "gx"
  refine x_dnew fun d1 h3 n3 s3 e3 => ?_
  walk_at "gx"
  refine x_pow ⟨by omega, by omega, by decide⟩ ?_
  walk_at "gx"
  refine x_newL (Nat.le_of_ble_eq_true rfl) fun sl h4 n4 s4 e4 => ?_
  have S3 := Same.trans s1 (Same.trans s2 s3)
  have S4 := Same.trans S3 s4
  have p4 := pen.mono S4 (Nat.le_refl n)
  have nt1 := (pen.ne n1).1
  have nl1 := ((pen.mono s1 (Nat.le_refl n)).ne n2).1
  have nd1 := ((pen.mono (Same.trans s1 s2) (Nat.le_refl n)).ne n3).1
  have nsl := ((pen.mono S3 (Nat.le_refl n)).ne n4).1
  have gt : L2.del h4 P.p t1 = some (.tup [.int 1]) := by rw [del_ne nt1]; exact s4 _ _ (s3 _ _ (s2 _ _ e1))
  have gl : L2.del h4 P.p l1 = some (.lst [.int 1]) := by rw [del_ne nl1]; exact s4 _ _ (s3 _ _ e2)
  have gd : L2.del h4 P.p d1 = some (.dK []) := by rw [del_ne nd1]; exact s4 _ _ e3
  have gs : L2.del h4 P.p sl = some (.lst (thingsV t1 l1 d1)) := by rw [del_ne nsl]; exact e4
  walk_at "gx"
  refine ⟨P, sl, n, thingsV t1 l1 d1, rfl, p4, by omega, .inl (SqL.of gs), (fun e => nomatch e), Nat.le_of_ble_eq_true rfl, fun h5 i1 x hx p5 s5 => ?_⟩
  walk_at "gx"
  refine ⟨P, sl, n + 1, thingsV t1 l1 d1, rfl, p5, by omega, .inl (SqL.of (s5 _ _ gs)), (fun e => nomatch e), Nat.le_of_ble_eq_true rfl, fun h6 i2 y hy p6 s6 => ?_⟩
  obtain ⟨dx, qx, sx⟩ := things_ok (K := K) (s6 _ _ (s5 _ _ gt)) (s6 _ _ (s5 _ _ gl)) (s6 _ _ (s5 _ _ gd)) (List.mem_of_getElem? hx)
  obtain ⟨dy, qy, sy⟩ := things_ok (K := K) (s6 _ _ (s5 _ _ gt)) (s6 _ _ (s5 _ _ gl)) (s6 _ _ (s5 _ _ gd)) (List.mem_of_getElem? hy)
  have qx := dq_same del_le _ _ qx
  have qy := dq_same del_le _ _ qy
  walk_at "gx"
  refine ⟨_, _, rfl, ?_⟩
  walk_at "gx"
  refine ⟨x, rfl, fun a7 h7 r1 n7 s7 e7 len1 ok1 v1 => ?_⟩
  walk_at "gx"
  refine ⟨x, y, rfl, fun a8 h8 r2 n8 s8 e8 len2 ok2 v2 => ?_⟩
  refine x_catG (s8 _ _ e7) e8 (by rw [List.length_map, List.length_map, len1, len2]; omega) fun a9 h9 n9 s9 e9 => ?_
  walk_at "gx"
  refine x_xn0 fun b1 h10 m1 s10 x1 => ?_
  walk_at "gx"
  refine x_newT (Nat.le_of_ble_eq_true rfl) fun a11 h11 n11 s11 e11 => ?_
  walk_at "gx"
  refine x_xn0 fun b2 h12 m2 s12 x2 => ?_
  walk_at "gx"
  refine x_newT (Nat.le_of_ble_eq_true rfl) fun a13 h13 n13 s13 e13 => ?_
  walk_at "gx"
  refine x_newL (Nat.le_of_ble_eq_true rfl) fun a14 h14 n14 s14 e14 => ?_
  walk_at "gx"
  refine x_catG (s14 _ _ (s13 _ _ (s12 _ _ (s11 _ _ (s10 _ _ e9))))) e14 (by rw [List.length_append, List.length_map, List.length_map, len1, len2]; exact Nat.le_of_ble_eq_true rfl) fun a15 h15 n15 s15 e15 => ?_
  have S8 : Same h8 h15 := Same.trans s9 (Same.trans s10 (Same.trans s11 (Same.trans s12 (Same.trans s13 (Same.trans s14 s15)))))
  have S6 : Same h6 h15 := Same.trans s7 (Same.trans s8 S8)
  have qx := dq_same S6 _ _ qx
  have qy := dq_same S6 _ _ qy
  have xat : ∀ {a C : Addr} {G G2 : Hp}, XAt G a C none → Same G G2 → XAt G2 a C none := fun h s => by
    rcases h with h | h
    · exact .inl (s _ _ h)
    · exact .inr (s _ _ h)
  have rows : RowsOk K h15 0 (r1 ++ (r2 ++ [(⟨a11, b1, x⟩ : Row), ⟨a13, b2, x⟩])) := by
    refine (ok1.same (Same.trans s8 S8)).append ?_
    rw [len1]
    refine (ok2.same S8).append ?_
    rw [len2]
    refine .cons ⟨s15 _ _ (s14 _ _ (s13 _ _ (s12 _ _ e11))), "Settled", rfl, .inr (xat x1 (Same.trans s11 (Same.trans s12 (Same.trans s13 (Same.trans s14 s15)))))⟩ (.cons ⟨s15 _ _ (s14 _ _ e13), "NothingToUndo", rfl, .inr (xat x2 (Same.trans s13 (Same.trans s14 s15)))⟩ .nil)
  have e15 : h15 a15 = some (.lst ((r1 ++ (r2 ++ [(⟨a11, b1, x⟩ : Row), ⟨a13, b2, x⟩])).map fun r : Row => V.ref r.p)) := by
    rw [e15, List.map_append, List.map_append, List.append_assoc]
    rfl
  have kept : ∀ i r, (r1 ++ (r2 ++ [(⟨a11, b1, x⟩ : Row), ⟨a13, b2, x⟩]))[i]? = some r → i < 15 ∧ Dq K h15 r.v (if 10 ≤ i ∧ i < 13 then .tuple [dx, dy] else dx) := fun i r hr => by
    have hl : (r1 ++ (r2 ++ [(⟨a11, b1, x⟩ : Row), ⟨a13, b2, x⟩])).length = 15 := by rw [List.length_append, List.length_append, len1, len2]; rfl
    have hi : i < 15 := by rw [← hl]; exact (List.getElem?_eq_some_iff.mp hr).1
    refine ⟨hi, ?_⟩
    by_cases h1 : i < 10
    · rw [if_neg (by omega)]
      rw [List.getElem?_append_left (by omega)] at hr
      rw [v1 r (List.mem_of_getElem? hr)]
      exact qx
    · rw [List.getElem?_append_right (by omega), len1] at hr
      by_cases h2 : i < 13
      · rw [if_pos ⟨by omega, h2⟩]
        rw [List.getElem?_append_left (by omega)] at hr
        obtain ⟨z, ez, hz⟩ := v2 r (List.mem_of_getElem? hr)
        rw [ez]
        exact .tup (SqT.of (S8 _ _ hz)) (.cons qx (.cons qy .nil))
      · rw [if_neg (by omega)]
        rw [List.getElem?_append_right (by omega), len2] at hr
        have m := List.mem_of_getElem? hr
        rcases List.mem_cons.mp m with rfl | m
        · exact qx
        rcases List.mem_cons.mp m with rfl | m
        · exact qx
        cases m
  walk_at "gx"
  refine ⟨x, y, dx, dy, rfl, ⟨qx, sx⟩, ⟨qy, sy⟩, fun h16 s16 => ?_⟩
  walk_at "gx"
  refine x_forE (xs := (r1 ++ (r2 ++ [(⟨a11, b1, x⟩ : Row), ⟨a13, b2, x⟩])).map fun r : Row => V.ref r.p) (fun _ q => ⟨_, rfl, q⟩) (SqL.of (s16 _ _ e15)) (fun i s2 G => ∃ v5 v6 v7 v8 v9, s2 = [some (.ref P.p), some (.ref sl), some x, some y, some (.ref a15), v5, v6, v7, v8, v9] ∧ Same h16 G)
    ⟨_, _, _, _, _, rfl, Same.refl _⟩ (fun i s2 G _ hv => by obtain ⟨_, _, _, _, _, _, s⟩ := hv; exact SqL.of (s _ _ (s16 _ _ e15))) (fun i v s2 G TT G2 hx2 hv nT sT eT => ?_) (fun s2 G hv => ?_)
  · obtain ⟨v5, v6, v7, v8, v9, rfl, s⟩ := hv
    rw [List.getElem?_map] at hx2
    obtain ⟨r, hr, rfl⟩ := Option.map_eq_some_iff.mp hx2
    have S := Same.trans s16 (Same.trans s sT)
    obtain ⟨hi, hk⟩ := kept i r hr
    have ro := (rows i r hr).same S
    rw [Nat.zero_add] at ro
    refine ⟨TT, _, rfl, SqT.of eT, rfl, _, _, rfl, _, _, rfl, r.p, _, rfl, SqT.of ro.1, rfl, _, _, rfl, _, _, rfl, rfl, rfl, ?_⟩
    exact row_ok T hi ro (dq_same S _ _ qx) sx (dq_same S _ _ qy) sy (dq_same S _ _ hk) fun _ _ G3 s3 => ⟨_, _, _, _, _, rfl, Same.trans s (Same.trans sT s3)⟩
  · obtain ⟨v5, v6, v7, v8, v9, rfl, s⟩ := hv
    walk_at "gx"
    have S := Same.trans S6 (Same.trans s16 s)
    refine q G (p6.mono S (Nat.le_refl _)) ?_
    exact Same.trans (Same.del S4) (Same.trans s5 (Same.trans s6 (Same.del S)))
end

end K01

namespace K01
open PySem PySem.Spec PyProof.Rows L2 He SJ
local macro_rules | `(tactic| walk_at "go") => `(tactic| (repeat (first
  | with_reducible apply x_seq | with_reducible apply x_asg | with_reducible apply x_ret | with_reducible apply x_if | with_reducible apply x_test | with_reducible apply x_B | with_reducible apply x_op | (with_reducible apply x_var rfl) | with_reducible apply x_c
  | with_reducible apply x_cb | with_reducible apply x_cons | with_reducible apply x_nil | with_reducible apply x_bl2 | with_reducible apply x_st2 | with_reducible apply ite_t | with_reducible apply ite_f | with_reducible apply ite_n | with_reducible apply x_and | with_reducible apply x_or | with_reducible apply x_not | with_reducible apply x_andV | with_reducible apply x_orV | with_reducible apply x_notV
  | with_reducible apply x_addI | with_reducible apply x_sub' | with_reducible apply x_eqI | with_reducible apply x_neI | with_reducible apply x_eqT | with_reducible apply x_neT | with_reducible apply x_ltI | with_reducible apply x_leI | with_reducible apply x_gtI | with_reducible apply x_geI
  | with_reducible apply x_intI | with_reducible apply x_intBl | with_reducible apply x_absI | with_reducible apply x_asgG | with_reducible apply x_sub | with_reducible apply x_lst | with_reducible apply x_tup | with_reducible apply x_next | with_reducible apply x_drop
  | with_reducible apply x_ife | with_reducible apply x_chain | with_reducible apply x_inSg | with_reducible apply x_yes | with_reducible apply x_sl | with_reducible apply x_noPart | with_reducible apply x_part | with_reducible apply x_in2 | with_reducible apply x_fs | with_reducible apply x_js | with_reducible apply x_js0 | with_reducible apply x_fmtE | with_reducible apply x_m0 | with_reducible apply x_fld0 | with_reducible apply x_con0 | with_reducible apply x_pr0 | with_reducible apply x_sfld
  | (with_reducible refine x_new ?_ ?_; · exact Nat.le_of_ble_eq_true rfl)
  | with_reducible apply x_fn | with_reducible apply x_nw | with_reducible apply x_bm | with_reducible apply x_par | with_reducible apply x_rz | with_reducible apply x_retN | with_reducible apply x_un | with_reducible apply x_U)))
local macro_rules | `(tactic| walk_at "gp") => `(tactic| (repeat (first
  | with_reducible apply x_seq | with_reducible apply x_asg | with_reducible apply x_ret | with_reducible apply x_if | with_reducible apply x_test | with_reducible apply x_B | with_reducible apply x_op | (with_reducible apply x_var rfl) | with_reducible apply x_c
  | with_reducible apply x_cb | with_reducible apply x_cons | with_reducible apply x_nil | with_reducible apply x_bl2 | with_reducible apply x_st2 | with_reducible apply ite_t | with_reducible apply ite_f | with_reducible apply ite_n | with_reducible apply x_and | with_reducible apply x_or | with_reducible apply x_not | with_reducible apply x_andV | with_reducible apply x_orV | with_reducible apply x_notV
  | with_reducible apply x_addI | with_reducible apply x_sub' | with_reducible apply x_eqI | with_reducible apply x_neI | with_reducible apply x_eqT | with_reducible apply x_neT | with_reducible apply x_ltI | with_reducible apply x_leI | with_reducible apply x_gtI | with_reducible apply x_geI
  | with_reducible apply x_intI | with_reducible apply x_intBl | with_reducible apply x_absI | with_reducible apply x_asgG | with_reducible apply x_sub | with_reducible apply x_lstG | with_reducible apply x_tupG | with_reducible apply x_next | with_reducible apply x_drop
  | with_reducible apply x_ife | with_reducible apply x_chain | with_reducible apply x_inSg | with_reducible apply x_yes | with_reducible apply x_sl | with_reducible apply x_noPart | with_reducible apply x_part | with_reducible apply x_in2 | with_reducible apply x_fs | with_reducible apply x_js | with_reducible apply x_js0 | with_reducible apply x_fmtE | with_reducible apply x_m0 | with_reducible apply x_fld0 | with_reducible apply x_con0 | with_reducible apply x_pr0 | with_reducible apply x_sfld
  | with_reducible apply x_fn | with_reducible apply x_bm | with_reducible apply x_par | with_reducible apply x_rz | with_reducible apply x_retN | with_reducible apply x_un | with_reducible apply x_U)))
local macro_rules | `(tactic| walk_at "gx") => `(tactic| (repeat (first
  | with_reducible apply x_seq | with_reducible apply x_asg | with_reducible apply x_ret | with_reducible apply x_if | with_reducible apply x_test | with_reducible apply x_B | with_reducible apply x_op | (with_reducible apply x_var rfl) | with_reducible apply x_c
  | with_reducible apply x_cb | with_reducible apply x_cons | with_reducible apply x_nil | with_reducible apply x_bl2 | with_reducible apply x_st2 | with_reducible apply ite_t | with_reducible apply ite_f | with_reducible apply ite_n | with_reducible apply x_and | with_reducible apply x_or | with_reducible apply x_not | with_reducible apply x_andV | with_reducible apply x_orV | with_reducible apply x_notV
  | with_reducible apply x_addI | with_reducible apply x_sub' | with_reducible apply x_eqI | with_reducible apply x_neI | with_reducible apply x_eqT | with_reducible apply x_neT | with_reducible apply x_ltI | with_reducible apply x_leI | with_reducible apply x_gtI | with_reducible apply x_geI
  | with_reducible apply x_intI | with_reducible apply x_intBl | with_reducible apply x_absI | with_reducible apply x_asgG | with_reducible apply x_sub | with_reducible apply x_lstG | with_reducible apply x_tupG | with_reducible apply x_next | with_reducible apply x_drop
  | with_reducible apply x_ife | with_reducible apply x_chain | with_reducible apply x_inSg | with_reducible apply x_yes | with_reducible apply x_sl | with_reducible apply x_noPart | with_reducible apply x_part | with_reducible apply x_in2 | with_reducible apply x_xn | with_reducible apply x_xnK | with_reducible apply x_xv | with_reducible apply x_par3 | with_reducible apply x_fnK | with_reducible apply x_fs | with_reducible apply x_js | with_reducible apply x_js0 | with_reducible apply x_fmtE | with_reducible apply x_m0 | with_reducible apply x_fld0 | with_reducible apply x_con0 | with_reducible apply x_pr0 | with_reducible apply x_sfld
  | with_reducible apply x_fn | with_reducible apply x_bm | with_reducible apply x_par | with_reducible apply x_rz | with_reducible apply x_retN | with_reducible apply x_un | with_reducible apply x_U)))
section
variable {K : PySem.W.Frag} {mg : Str → Option Value} {vs : List V} {H : Hp} {Q : VK} {E : XK}
theorem pow_mono {b : Int} (h : 2 ≤ b) {i j : Nat} (e : i ≤ j) : b ^ i ≤ b ^ j := by
  obtain ⟨k, rfl⟩ : ∃ k, j = i + k := ⟨j - i, by omega⟩
  rw [Int.pow_add]
  have p1 : 0 < b ^ i := Int.pow_pos (by omega)
  have p2 : 0 < b ^ k := Int.pow_pos (by omega)
  have := Int.mul_le_mul_of_nonneg_left (show (1 : Int) ≤ b ^ k by omega) (Int.le_of_lt p1)
  rw [Int.mul_one] at this
  exact this
theorem least_one {b n : Int} (h : 2 ≤ b) {m k : Nat} (h1 : n ≤ b ^ m) (h2 : m = 0 ∨ b ^ (m - 1) < n) (g1 : n ≤ b ^ k) (g2 : k = 0 ∨ b ^ (k - 1) < n) : m = k := by
  by_cases e : m < k
  · rcases g2 with g2 | g2
    · omega
    · have := pow_mono h (by omega : m ≤ k - 1)
      omega
  · by_cases e2 : k < m
    · rcases h2 with h2 | h2
      · omega
      · have := pow_mono h (by omega : k ≤ m - 1)
        omega
    · omega
theorem len_Lnumbers_right (h : sp_Lnumbers_right K vs H Q E) : vs.length = 1 := by obtain ⟨P, n, rfl, _⟩ := h; rfl
theorem pure_Lnumbers_right (T : Tx K mg) (h : sp_Lnumbers_right K vs H Q E) : t_Lnumbers_right K { nx := fun _ H2 => Q .non H2, rt := Q } (start ["_law_pen_here", "_law_some", "_law_number_so", "_law_divisor", "_law_root", "_law_found", "_law_least"] vs) H := by
  obtain ⟨P, n, rfl, pen, hn, q⟩ := h
  have hB : (10 : Int) ^ (60 : Int).toNat ≤ 2 ^ 200 ∧ 100 ≤ (10 : Int) ^ (60 : Int).toNat := by decide +kernel
  have hM : (10 : Int) ^ (6 : Int).toNat = 1000000 := by decide +kernel
  unfold t_Lnumbers_right
  walk_at "gx"
  refine ⟨P, _, n, rfl, pen, by omega, by omega, by omega, fun H1 r1 a1 b1 p1 s1 => ?_⟩
  walk_at "gx"
  refine x_pow ⟨by omega, by omega, by decide⟩ ?_
  rw [hM]
  walk_at "gx"
  refine ⟨P, _, n + 1, rfl, p1, by omega, by omega, by omega, fun H2 r2 a2 b2 p2 s2 => ?_⟩
  walk_at "gx"
  refine x_pow ⟨by omega, by omega, by decide⟩ ?_
  walk_at "gx"
  refine ⟨P, _, n + 2, rfl, p2, by omega, by omega, by omega, fun H3 r3 a3 b3 p3 s3 => ?_⟩
  walk_at "gx"
  refine ⟨P, _, n + 3, rfl, p3, by omega, by omega, by omega, fun H4 r4 a4 b4 p4 s4 => ?_⟩
  walk_at "gx"
  generalize (10 : Int) ^ (60 : Int).toNat = B at hB
  refine x_newL (Nat.le_of_ble_eq_true rfl) fun l5 H5 n5 s5 e5 => ?_
  walk_at "gx"
  have d5 := (p4.ne n5).1
  refine ⟨P, l5, n + 4, [.int 0, .int 1, .int r1, .int r2, .int (B - r3), .int (0 - r4)], rfl, p4.mono s5 (Nat.le_refl _), by omega, .inl (SqL.of (by rw [del_ne d5]; exact e5)), (fun e => nomatch e), Nat.le_of_ble_eq_true rfl, fun H6 i6 v6 m6 p6 s6 => ?_⟩
  obtain ⟨num, rfl, lo, hi⟩ : ∃ k : Int, v6 = .int k ∧ -100 ≤ k ∧ k ≤ 2 ^ 200 := by
    have m := List.mem_of_getElem? m6
    rcases List.mem_cons.mp m with rfl | m
    · exact ⟨_, rfl, by omega, by omega⟩
    rcases List.mem_cons.mp m with rfl | m
    · exact ⟨_, rfl, by omega, by omega⟩
    rcases List.mem_cons.mp m with rfl | m
    · exact ⟨_, rfl, by omega, by omega⟩
    rcases List.mem_cons.mp m with rfl | m
    · exact ⟨_, rfl, by omega, by omega⟩
    rcases List.mem_cons.mp m with rfl | m
    · exact ⟨_, rfl, by omega, by omega⟩
    rcases List.mem_cons.mp m with rfl | m
    · exact ⟨_, rfl, by omega, by omega⟩
    cases m
  walk_at "gx"
  refine ⟨P, _, n + 5, rfl, p6, by omega, by omega, by omega, fun H7 r7 a7 b7 p7 s7 => ?_⟩
  walk_at "gx"
  refine x_pow ⟨by omega, by omega, by decide⟩ ?_
  rw [hM]
  walk_at "gx"
  refine ⟨P, _, n + 6, rfl, p7, by omega, by omega, by omega, fun H8 r8 a8 b8 p8 s8 => ?_⟩
  walk_at "gx"
  refine x_newL (Nat.le_of_ble_eq_true rfl) fun l9 H9 n9 s9 e9 => ?_
  walk_at "gx"
  have d9 := (p8.ne n9).1
  refine ⟨P, l9, n + 7, [.int r7, .int r8], rfl, p8.mono s9 (Nat.le_refl _), by omega, .inl (SqL.of (by rw [del_ne d9]; exact e9)), (fun e => nomatch e), Nat.le_of_ble_eq_true rfl, fun H10 i10 v10 m10 p10 s10 => ?_⟩
  obtain ⟨dv, rfl, dlo, dhi⟩ : ∃ k : Int, v10 = .int k ∧ 0 ≤ k ∧ k ≤ 1000000 := by
    have m := List.mem_of_getElem? m10
    rcases List.mem_cons.mp m with rfl | m
    · exact ⟨_, rfl, by omega, by omega⟩
    rcases List.mem_cons.mp m with rfl | m
    · exact ⟨_, rfl, by omega, by omega⟩
    cases m
  walk_at "gx"
  refine ⟨P, _, n + 8, rfl, p10, by omega, by omega, by omega, fun H11 r11 a11 b11 p11 s11 => ?_⟩
  walk_at "gx"
  refine x_pow ⟨by omega, by omega, by decide⟩ ?_
  rw [hM]
  walk_at "gx"
  refine ⟨P, _, n + 9, rfl, p11, by omega, by omega, by omega, fun H12 r12 a12 b12 p12 s12 => ?_⟩
  walk_at "gx"
  refine x_newL (Nat.le_of_ble_eq_true rfl) fun l13 H13 n13 s13 e13 => ?_
  walk_at "gx"
  have d13 := (p12.ne n13).1
  refine ⟨P, l13, n + 10, [.int r11, .int r12], rfl, p12.mono s13 (Nat.le_refl _), by omega, .inl (SqL.of (by rw [del_ne d13]; exact e13)), (fun e => nomatch e), Nat.le_of_ble_eq_true rfl, fun H14 i14 v14 m14 p14 s14 => ?_⟩
  obtain ⟨rt, rfl, rlo, rhi⟩ : ∃ k : Int, v14 = .int k ∧ 0 ≤ k ∧ k ≤ 1000000 := by
    have m := List.mem_of_getElem? m14
    rcases List.mem_cons.mp m with rfl | m
    · exact ⟨_, rfl, by omega, by omega⟩
    rcases List.mem_cons.mp m with rfl | m
    · exact ⟨_, rfl, by omega, by omega⟩
    cases m
  have sA : Same (L2.del H P.p) (L2.del H14 P.p) := Same.trans s1 (Same.trans s2 (Same.trans s3 (Same.trans s4 (Same.trans (Same.del s5) (Same.trans s6 (Same.trans s7 (Same.trans s8 (Same.trans (Same.del s9) (Same.trans s10 (Same.trans s11 (Same.trans s12 (Same.trans (Same.del s13) s14))))))))))))
  walk_at "gx"
  refine ⟨num, 1 + dv, rfl, by omega, by omega, ?_⟩
  walk_at "gx"
  refine ⟨2 + rt, num, rfl, by omega, by omega, hi, fun m H15 s15 m1 m2 m3 => ?_⟩
  walk_at "gx"
  refine ⟨_, _, rfl, ?_⟩
  walk_at "gx"
  have e0 := Int.emod_add_mul_ediv (num + (1 + dv) - 1) (1 + dv)
  have e1 := Int.emod_nonneg (num + (1 + dv) - 1) (by omega : 1 + dv ≠ 0)
  have e2 := Int.emod_lt_of_pos (num + (1 + dv) - 1) (by omega : 0 < 1 + dv)
  have ab := Int.natAbs_ediv_le_natAbs (num + (1 + dv) - 1) (1 + dv)
  have ab2 : (num + (1 + dv) - 1).natAbs < 2 ^ 1000 := Nat.lt_of_le_of_lt (by omega : (num + (1 + dv) - 1).natAbs ≤ 2 ^ 201) (by decide +kernel)
  generalize (num + (1 + dv) - 1) % (1 + dv) = md at e0 e1 e2
  generalize hf : (num + (1 + dv) - 1) / (1 + dv) = fd at e0 ab
  refine x_reprI (by omega) ?_
  walk_at "gx"
  refine x_reprI (by omega) ?_
  walk_at "gx"
  refine ite_d rfl ?_
  walk_at "gx"
  refine x_mulI (.inl ⟨by omega, by omega⟩) ?_
  walk_at "gx"
  have e3 : (1 + dv) * (fd - 1) = (1 + dv) * fd - (1 + dv) := by rw [Int.mul_sub, Int.mul_one]
  refine ite_d (by rw [e3]; omega) ?_
  walk_at "gx"
  refine x_mulI (.inl ⟨by omega, by omega⟩) ?_
  walk_at "gx"
  refine ite_d (by omega) ?_
  walk_at "gx"
  refine ⟨rfl, rfl, num, 1 + dv, rfl, by omega, by omega, ?_⟩
  rw [hf]
  walk_at "gx"
  refine ite_d rfl ?_
  walk_at "gx"
  refine ⟨rfl, rfl, 2 + rt, num, rfl, by omega, by omega, hi, fun k H16 s16 k1 k2 k3 => ?_⟩
  obtain rfl := least_one (by omega) m1 m2 k1 k2
  walk_at "gx"
  refine ite_d rfl ?_
  walk_at "gx"
  refine ⟨2 + rt, m, rfl, by omega, by omega, by omega, ?_⟩
  walk_at "gx"
  refine ite_d m1 ?_
  have fin : Q (.bl true) H16 := q H16 (p14.mono (Same.trans s15 s16) (Nat.le_refl _)) (Same.trans sA (Same.del (Same.trans s15 s16)))
  apply x_orV
  walk_at "gx"
  by_cases e : m = 0
  · refine ite_d (by omega) ?_
    exact fin
  · rw [decide_eq_false (by omega)]
    walk_at "gx"
    refine ⟨2 + rt, m - 1, by rw [show (m : Int) - 1 = ((m - 1 : Nat) : Int) by omega]; rfl, by omega, by omega, by omega, ?_⟩
    walk_at "gx"
    rcases m2 with m2 | m2
    · exact absurd m2 e
    · rw [decide_eq_true m2]
      exact fin
end

end K01

namespace K01
open PySem PySem.Spec PyProof.Rows L2 He SJ
local macro_rules | `(tactic| walk_at "go") => `(tactic| (repeat (first
  | with_reducible apply x_seq | with_reducible apply x_asg | with_reducible apply x_ret | with_reducible apply x_if | with_reducible apply x_test | with_reducible apply x_B | with_reducible apply x_op | (with_reducible apply x_var rfl) | with_reducible apply x_c
  | with_reducible apply x_cb | with_reducible apply x_cons | with_reducible apply x_nil | with_reducible apply x_bl2 | with_reducible apply x_st2 | with_reducible apply ite_t | with_reducible apply ite_f | with_reducible apply ite_n | with_reducible apply x_and | with_reducible apply x_or | with_reducible apply x_not | with_reducible apply x_andV | with_reducible apply x_orV | with_reducible apply x_notV
  | with_reducible apply x_addI | with_reducible apply x_sub' | with_reducible apply x_eqI | with_reducible apply x_neI | with_reducible apply x_eqT | with_reducible apply x_neT | with_reducible apply x_ltI | with_reducible apply x_leI | with_reducible apply x_gtI | with_reducible apply x_geI
  | with_reducible apply x_intI | with_reducible apply x_intBl | with_reducible apply x_absI | with_reducible apply x_asgG | with_reducible apply x_sub | with_reducible apply x_lst | with_reducible apply x_tup | with_reducible apply x_next | with_reducible apply x_drop
  | with_reducible apply x_ife | with_reducible apply x_chain | with_reducible apply x_inSg | with_reducible apply x_yes | with_reducible apply x_sl | with_reducible apply x_noPart | with_reducible apply x_part | with_reducible apply x_in2 | with_reducible apply x_fs | with_reducible apply x_js | with_reducible apply x_js0 | with_reducible apply x_fmtE | with_reducible apply x_m0 | with_reducible apply x_fld0 | with_reducible apply x_con0 | with_reducible apply x_pr0 | with_reducible apply x_sfld
  | (with_reducible refine x_new ?_ ?_; · exact Nat.le_of_ble_eq_true rfl)
  | with_reducible apply x_fn | with_reducible apply x_nw | with_reducible apply x_bm | with_reducible apply x_par | with_reducible apply x_rz | with_reducible apply x_retN | with_reducible apply x_un | with_reducible apply x_U)))
local macro_rules | `(tactic| walk_at "gp") => `(tactic| (repeat (first
  | with_reducible apply x_seq | with_reducible apply x_asg | with_reducible apply x_ret | with_reducible apply x_if | with_reducible apply x_test | with_reducible apply x_B | with_reducible apply x_op | (with_reducible apply x_var rfl) | with_reducible apply x_c
  | with_reducible apply x_cb | with_reducible apply x_cons | with_reducible apply x_nil | with_reducible apply x_bl2 | with_reducible apply x_st2 | with_reducible apply ite_t | with_reducible apply ite_f | with_reducible apply ite_n | with_reducible apply x_and | with_reducible apply x_or | with_reducible apply x_not | with_reducible apply x_andV | with_reducible apply x_orV | with_reducible apply x_notV
  | with_reducible apply x_addI | with_reducible apply x_sub' | with_reducible apply x_eqI | with_reducible apply x_neI | with_reducible apply x_eqT | with_reducible apply x_neT | with_reducible apply x_ltI | with_reducible apply x_leI | with_reducible apply x_gtI | with_reducible apply x_geI
  | with_reducible apply x_intI | with_reducible apply x_intBl | with_reducible apply x_absI | with_reducible apply x_asgG | with_reducible apply x_sub | with_reducible apply x_lstG | with_reducible apply x_tupG | with_reducible apply x_next | with_reducible apply x_drop
  | with_reducible apply x_ife | with_reducible apply x_chain | with_reducible apply x_inSg | with_reducible apply x_yes | with_reducible apply x_sl | with_reducible apply x_noPart | with_reducible apply x_part | with_reducible apply x_in2 | with_reducible apply x_fs | with_reducible apply x_js | with_reducible apply x_js0 | with_reducible apply x_fmtE | with_reducible apply x_m0 | with_reducible apply x_fld0 | with_reducible apply x_con0 | with_reducible apply x_pr0 | with_reducible apply x_sfld
  | with_reducible apply x_fn | with_reducible apply x_bm | with_reducible apply x_par | with_reducible apply x_rz | with_reducible apply x_retN | with_reducible apply x_un | with_reducible apply x_U)))
local macro_rules | `(tactic| walk_at "gx") => `(tactic| (repeat (first
  | with_reducible apply x_seq | with_reducible apply x_asg | with_reducible apply x_ret | with_reducible apply x_if | with_reducible apply x_test | with_reducible apply x_B | with_reducible apply x_op | (with_reducible apply x_var rfl) | with_reducible apply x_c
  | with_reducible apply x_cb | with_reducible apply x_cons | with_reducible apply x_nil | with_reducible apply x_bl2 | with_reducible apply x_st2 | with_reducible apply ite_t | with_reducible apply ite_f | with_reducible apply ite_n | with_reducible apply x_and | with_reducible apply x_or | with_reducible apply x_not | with_reducible apply x_andV | with_reducible apply x_orV | with_reducible apply x_notV
  | with_reducible apply x_addI | with_reducible apply x_sub' | with_reducible apply x_eqI | with_reducible apply x_neI | with_reducible apply x_eqT | with_reducible apply x_neT | with_reducible apply x_ltI | with_reducible apply x_leI | with_reducible apply x_gtI | with_reducible apply x_geI
  | with_reducible apply x_intI | with_reducible apply x_intBl | with_reducible apply x_absI | with_reducible apply x_asgG | with_reducible apply x_sub | with_reducible apply x_lstG | with_reducible apply x_tupG | with_reducible apply x_next | with_reducible apply x_drop
  | with_reducible apply x_ife | with_reducible apply x_chain | with_reducible apply x_inSg | with_reducible apply x_yes | with_reducible apply x_sl | with_reducible apply x_noPart | with_reducible apply x_part | with_reducible apply x_in2 | with_reducible apply x_xn | with_reducible apply x_xnK | with_reducible apply x_xv | with_reducible apply x_par3 | with_reducible apply x_fnK | with_reducible apply x_fs | with_reducible apply x_js | with_reducible apply x_js0 | with_reducible apply x_fmtE | with_reducible apply x_m0 | with_reducible apply x_fld0 | with_reducible apply x_con0 | with_reducible apply x_pr0 | with_reducible apply x_sfld
  | with_reducible apply x_fn | with_reducible apply x_bm | with_reducible apply x_par | with_reducible apply x_rz | with_reducible apply x_retN | with_reducible apply x_un | with_reducible apply x_U)))
def tTurn (K : PySem.W.Frag) : TS := (tSeq (tIfS (tOr (tNot (tB (tFn (sp_Lerrors_right K) [] W0 (tCons (tVar 1) tNil)))) (tNot (tB (tFn (sp_Lnumbers_right K) [] W0 (tCons (tVar 1) tNil))))) (tRet (tC (.bl false))) tNext) (tSeq (tAsg (tFn (sp_Lpick K) [] W0 (tCons (tVar 1) (tCons (tLst (tCons (tC (.int 0)) (tCons (tUn (rU fun i => .int (-i)) (tC (.int 3))) (tCons (tOp SJ.rSub (tOp rPow (tC (.int 10)) (tC (.int 60))) (tC (.int 1))) (tCons (tC (.bl true)) (tCons (tC (.bl false)) (tCons (tC .non) (tCons (tC (.str "1")) (tCons (tTup (tCons (tC (.int 1)) tNil)) (tCons (tLst tNil) (tCons tDNewK (tCons (tFn (sp_Ldraw K) [] W0 (tCons (tVar 1) (tCons (tC (.int 99)) tNil))) tNil)))))))))))) tNil))) (gName 3)) (tIfS (tTest (tOp (rNeU K) (tCB (rReprU K) (tCons (tFn (sp_is_integer K) [] W0 (tCons (tVar 3) tNil)) tNil)) (tCB (rReprU K) (tCons (tAndV (tCB (rIsiU K) (tCons (tVar 3) (tCons (tC (.ty "int")) tNil))) (tNotV (tCB (rIsiU K) (tCons (tVar 3) (tCons (tC (.ty "bool")) tNil))))) tNil)))) (tRet (tC (.bl false))) tNext)))
def tNames (K : PySem.W.Frag) : TS := (tSeq (tAsg (tLst (tCons (tC (.str "a")) (tCons (tC (.str "zzzzzzzz")) (tCons (tC (.str "rest")) (tCons (tC (.str "frame")) (tCons (tC (.str "grounds")) (tCons (tC (.str "rail")) (tCons (tC (.str "word")) tNil)))))))) (gName 4)) (tSeq (tAsg (tLst (tCons (tC (.str "")) (tCons (tC (.str "A")) (tCons (tC (.str "a1")) (tCons (tC (.str "a b")) (tCons (tC (.str "abcdefghi")) (tCons (tC (.str "ground")) (tCons (tC (.str "power")) (tCons (tC (.str "nothing")) (tCons (tC .non) (tCons (tC (.int 1)) (tCons (tTup (tCons (tC (.str "a")) tNil)) (tCons (tLst (tCons (tC (.str "a")) tNil)) (tCons tDNewK tNil)))))))))))))) (gName 5)) (tSeq (tAsg (tOp (rAdd K) (tVar 5) (tLst (tCons (tC (.str "a\n")) (tCons (tC (.str "-")) (tCons (tC (.str "a{")) (tCons (tC (.str "`a")) (tCons (tC (.str "{")) (tCons (tC (.str "`")) (tCons (tC (.str "a_b")) (tCons (tC (.str "_")) (tCons (tC (.str "a.")) (tCons (tC (.str " a")) tNil)))))))))))) (gName 5)) (tSeq (tIfS (tTest (tOp (rNeU K) (tLc (iList K (tOp (rAdd K) (tVar 4) (tVar 5))) (gName 6) tYes (tFnK 0 1 (sp_is_name K) gkb_is_name_0_value W0 tNil (tCons (tVar 6) tNil)) [6]) (tOp (rAdd K) (tOp (rMul K) (tLst (tCons (tC (.bl true)) tNil)) (tCB (rLenU K) (tCons (tVar 4) tNil))) (tOp (rMul K) (tLst (tCons (tC (.bl false)) tNil)) (tCB (rLenU K) (tCons (tVar 5) tNil)))))) (tRet (tC (.bl false))) tNext) (tRet (tAndV (tOp (rIsU false) (tFn (sp_is_name K) [] W0 (tCons (tC (.str "a")) tNil)) (tC (.bl true))) (tAndV (tOp (rIsU false) (tFnK 0 1 (sp_is_integer K) gkb_is_integer_0_value W0 tNil (tCons (tC (.int 7)) tNil)) (tC (.bl true))) (tOp (rIsU false) (tFnK 0 1 (sp_is_integer K) gkb_is_integer_0_value W0 tNil (tCons (tC (.bl true)) tNil)) (tC (.bl false))))))))))
section
variable {K : PySem.W.Frag} {mg : Str → Option Value} {vs : List V} {H : Hp} {Q : VK} {E : XK}
def IntTy (K : PySem.W.Frag) (H : Hp) (v : V) : Prop := ∃ t b c, TyX K H v t ∧ PySem.W.kitOne K t (.type "int") = some b ∧ PySem.W.kitOne K t (.type "bool") = some c
theorem turn_ok (T : Tx K mg) {D : Ends} {P : Pen} {n : Nat} {v0 v2 v3 v4 v5 v6 : Option V} (pen : PenAt H P n) (hn : n + 15 < 100000) (q : ∀ v3 H2, PenAt H2 P (n + 15) → D.nx [v0, some (.ref P.p), v2, v3, v4, v5, v6] H2) : tTurn K D [v0, some (.ref P.p), v2, v3, v4, v5, v6] H := by
  unfold tTurn
  walk_at "gx"
  refine ⟨P, n, rfl, pen, by omega, fun H1 p1 s1 => ?_⟩
  walk_at "gx"
  refine ⟨P, n + 2, rfl, p1, by omega, fun H2 p2 s2 => ?_⟩
  walk_at "gx"
  refine x_pow ⟨by omega, by omega, by decide⟩ ?_
  walk_at "gx"
  refine x_newT (Nat.le_of_ble_eq_true rfl) fun t1 h1 n1 s3 e1 => ?_
  walk_at "gx"
  refine x_newL (Nat.le_of_ble_eq_true rfl) fun l1 h2 n2 s4 e2 => ?_
  walk_at "gx"
  refine x_dnew fun d1 h3 n3 s5 e3 => ?_
  walk_at "gx"
  have p5 := p2.mono (Same.trans s3 (Same.trans s4 s5)) (Nat.le_refl _)
  have nt1 := (p2.ne n1).1
  have nl1 := ((p2.mono s3 (Nat.le_refl _)).ne n2).1
  have nd1 := ((p2.mono (Same.trans s3 s4) (Nat.le_refl _)).ne n3).1
  refine ⟨P, _, n + 13, rfl, p5, by omega, by omega, by omega, fun H6 r a6 b6 p6 s6 => ?_⟩
  walk_at "gx"
  refine x_newL (Nat.le_of_ble_eq_true rfl) fun sl h7 n7 s7 e7 => ?_
  walk_at "gx"
  have nsl := (p6.ne n7).1
  refine ⟨P, sl, n + 14, [.int 0, .int (-3), .int (10 ^ (60 : Int).toNat - 1), .bl true, .bl false, .non, .str "1", .ref t1, .ref l1, .ref d1, .int r], rfl, p6.mono s7 (Nat.le_refl _), by omega, .inl (SqL.of (by rw [del_ne nsl]; exact e7)), (fun e => nomatch e), Nat.le_of_ble_eq_true rfl, fun H8 i8 v m8 p8 s8 => ?_⟩
  have S : Same (L2.del h3 P.p) H8 := Same.trans s6 (Same.trans (Same.del s7) (Same.trans s8 del_le))
  have f1 : H8 t1 = some (.tup [.int 1]) := S _ _ (by rw [del_ne nt1]; exact s5 _ _ (s4 _ _ e1))
  have f2 : H8 l1 = some (.lst []) := S _ _ (by rw [del_ne nl1]; exact s5 _ _ e2)
  have f3 : H8 d1 = some (.dK []) := S _ _ (by rw [del_ne nd1]; exact e3)
  have ty : IntTy K H8 v := by
    have m := List.mem_of_getElem? m8
    rcases List.mem_cons.mp m with rfl | m
    · exact ⟨_, _, _, .base (.int _), rfl, rfl⟩
    rcases List.mem_cons.mp m with rfl | m
    · exact ⟨_, _, _, .base (.int _), rfl, rfl⟩
    rcases List.mem_cons.mp m with rfl | m
    · exact ⟨_, _, _, .base (.int _), rfl, rfl⟩
    rcases List.mem_cons.mp m with rfl | m
    · exact ⟨_, _, _, .base (.bl _), rfl, rfl⟩
    rcases List.mem_cons.mp m with rfl | m
    · exact ⟨_, _, _, .base (.bl _), rfl, rfl⟩
    rcases List.mem_cons.mp m with rfl | m
    · exact ⟨_, _, _, .base .non, rfl, rfl⟩
    rcases List.mem_cons.mp m with rfl | m
    · exact ⟨_, _, _, .base (.str _), rfl, rfl⟩
    rcases List.mem_cons.mp m with rfl | m
    · exact ⟨_, _, _, .base (.tup f1), rfl, rfl⟩
    rcases List.mem_cons.mp m with rfl | m
    · exact ⟨_, _, _, .base (.lst f2), rfl, rfl⟩
    rcases List.mem_cons.mp m with rfl | m
    · exact ⟨_, _, _, .base (.dK f3), rfl, rfl⟩
    rcases List.mem_cons.mp m with rfl | m
    · exact ⟨_, _, _, .base (.int _), rfl, rfl⟩
    cases m
  obtain ⟨t, b, c, ty, k1, k2⟩ := ty
  walk_at "gx"
  refine ⟨v, t, b, c, rfl, ty, k1, k2, ?_⟩
  walk_at "gx"
  refine x_reprBl ?_
  walk_at "gx"
  refine x_isiV (.ty "int") ty k1 ?_
  refine ⟨b, rfl, ?_⟩
  cases b with
  | false =>
    refine ite_f ?_
    walk_at "gx"
    refine x_reprBl ?_
    walk_at "gx"
    refine ite_d rfl ?_
    exact q _ H8 p8
  | true =>
    refine ite_t ?_
    walk_at "gx"
    refine x_isiV (.ty "bool") ty k2 ?_
    walk_at "gx"
    refine x_reprBl ?_
    walk_at "gx"
    refine ite_d rfl ?_
    exact q _ H8 p8
def rightV : List V := [.str "a", .str "zzzzzzzz", .str "rest", .str "frame", .str "grounds", .str "rail", .str "word"]
def wrongV (t l d : Addr) : List V := [.str "", .str "A", .str "a1", .str "a b", .str "abcdefghi", .str "ground", .str "power", .str "nothing", .non, .int 1, .ref t, .ref l, .ref d] ++ [.str "a\n", .str "-", .str "a{", .str "`a", .str "{", .str "`", .str "a_b", .str "_", .str "a.", .str " a"]
theorem vals_ok {G : Hp} {t l d : Addr} (ht : G t = some (.tup [.str "a"])) (hl : G l = some (.lst [.str "a"])) (hd : G d = some (.dK [])) {v : V} (m : v ∈ rightV ++ wrongV t l d) : Val0 K G v := by
  have vs : ∀ {z : Str}, z.length.ble 1000 = true → Val0 K G (.str z) := fun {z} h => ⟨.type "str", .base (.str z), rfl, fun y e => by cases e; exact Nat.le_of_ble_eq_true h⟩
  unfold rightV wrongV at m
  repeat (rcases List.mem_cons.mp m with rfl | m; focus first | exact vs rfl | exact ⟨_, .base .non, rfl, fun _ e => nomatch e⟩ | exact ⟨_, .base (.int _), rfl, fun _ e => nomatch e⟩ | exact ⟨_, .base (.tup ht), rfl, fun _ e => nomatch e⟩ | exact ⟨_, .base (.lst hl), rfl, fun _ e => nomatch e⟩ | exact ⟨_, .base (.dK hd), rfl, fun _ e => nomatch e⟩)
  cases m
theorem names_all {t l d : Addr} : (rightV ++ wrongV t l d).map nameV = List.replicate 7 true ++ List.replicate 23 false := by
  unfold rightV wrongV
  rfl
theorem names_ok (T : Tx K mg) {D : Ends} {v0 v1 v2 v3 v4 v5 v6 : Option V} (q : ∀ H2, D.rt (.bl true) H2) : tNames K D [v0, v1, v2, v3, v4, v5, v6] H := by
  unfold tNames
  walk_at "gx"
  refine x_newL (Nat.le_of_ble_eq_true rfl) fun rl h1 n1 s1 e1 => ?_
  walk_at "gx"
  refine x_newT (Nat.le_of_ble_eq_true rfl) fun t h2 n2 s2 e2 => ?_
  walk_at "gx"
  refine x_newL (Nat.le_of_ble_eq_true rfl) fun l h3 n3 s3 e3 => ?_
  walk_at "gx"
  refine x_dnew fun d h4 n4 s4 e4 => ?_
  walk_at "gx"
  refine x_newL (Nat.le_of_ble_eq_true rfl) fun w1 h5 n5 s5 e5 => ?_
  walk_at "gx"
  refine x_newL (Nat.le_of_ble_eq_true rfl) fun w2 h6 n6 s6 e6 => ?_
  walk_at "gx"
  refine x_catG (s6 _ _ e5) e6 (Nat.le_of_ble_eq_true rfl) fun wl h7 n7 s7 e7 => ?_
  have e7 : h7 wl = some (.lst (wrongV t l d)) := e7
  have e1 : h1 rl = some (.lst rightV) := e1
  have S1 : Same h1 h7 := Same.trans s2 (Same.trans s3 (Same.trans s4 (Same.trans s5 (Same.trans s6 s7))))
  walk_at "gx"
  refine x_lcL0 ?_
  walk_at "gx"
  refine x_catG (S1 _ _ e1) e7 (Nat.le_of_ble_eq_true rfl) fun al h8 n8 s8 e8 => ?_
  have g2 := s8 _ _ (s7 _ _ (s6 _ _ (s5 _ _ (s4 _ _ (s3 _ _ e2)))))
  have g3 := s8 _ _ (s7 _ _ (s6 _ _ (s5 _ _ (s4 _ _ e3))))
  have g4 := s8 _ _ (s7 _ _ (s6 _ _ (s5 _ _ e4)))
  refine x_lcL1 (SqL.of e8) (fun z j F => F z = some (.lst ((((rightV ++ wrongV t l d).take j).map nameV).map V.bl)) ∧ Same h8 F) (fun z hz => ⟨upd_same, Same.upd (Same.refl _) hz⟩) (fun z j F _ hv => SqL.of (hv.2 _ _ e8)) (fun z j v F hz hj hv => ?_) (fun z F hz hv => ?_)
  · refine ⟨rfl, ?_⟩
    walk_at "gx"
    refine ⟨rfl, rfl, v, rfl, vals_ok (hv.2 _ _ g2) (hv.2 _ _ g3) (hv.2 _ _ g4) (List.mem_of_getElem? hj), fun F2 s9 => ?_⟩
    refine ⟨_, s9 _ _ hv.1, ?_, ?_, Same.mut (Same.trans hv.2 s9) hz⟩
    · rw [List.length_map, List.length_map, List.length_take]
      have : (rightV ++ wrongV t l d).length = 30 := rfl
      rw [this]
      exact Nat.lt_of_le_of_lt (Nat.min_le_right _ _) (by decide)
    · rw [upd_same, List.take_add_one, hj, List.map_append, List.map_append]
      rfl
  · walk_at "gx"
    refine x_newL (Nat.le_of_ble_eq_true rfl) fun u1 f1 m1 y1 c1 => ?_
    walk_at "gx"
    have S7 := Same.trans s8 (Same.trans hv.2 y1)
    refine x_lenL (SqL.of (S7 _ _ (S1 _ _ e1))) ?_
    refine x_repG c1 (by decide) (Nat.le_of_ble_eq_true rfl) fun u2 f2 m2 y2 c2 => ?_
    walk_at "gx"
    refine x_newL (Nat.le_of_ble_eq_true rfl) fun u3 f3 m3 y3 c3 => ?_
    walk_at "gx"
    refine x_lenL (SqL.of (y3 _ _ (y2 _ _ (S7 _ _ e7)))) ?_
    refine x_repG c3 (by rw [show (wrongV t l d).length = 23 from rfl]; decide) (Nat.le_of_ble_eq_true rfl) fun u4 f4 m4 y4 c4 => ?_
    refine x_catG (y4 _ _ (y3 _ _ c2)) c4 (Nat.le_of_ble_eq_true rfl) fun u5 f5 m5 y5 c5 => ?_
    have eall : F z = some (.lst ((List.replicate 7 true ++ List.replicate 23 false).map V.bl)) := by
      rw [hv.1, List.take_of_length_le (Nat.le_refl _), names_all]
    refine x_neBools (bs := List.replicate 7 true ++ List.replicate 23 false) (y5 _ _ (y4 _ _ (y3 _ _ (y2 _ _ (y1 _ _ eall))))) c5 ?_
    walk_at "gx"
    refine ⟨.str "a", rfl, ⟨_, .base (.str _), rfl, fun y e => by cases e; exact Nat.le_of_ble_eq_true rfl⟩, fun f6 y6 => ?_⟩
    walk_at "gx"
    refine x_isB ?_
    refine ⟨true, rfl, ite_t ?_⟩
    walk_at "gx"
    refine ⟨rfl, rfl, .int 7, _, _, _, rfl, .base (.int _), rfl, rfl, ?_⟩
    walk_at "gx"
    refine x_isB ?_
    refine ⟨true, rfl, ite_t ?_⟩
    walk_at "gx"
    refine ⟨rfl, rfl, .bl true, _, _, _, rfl, .base (.bl _), rfl, rfl, ?_⟩
    walk_at "gx"
    exact x_isB (q f6)
theorem len_law (h : sp_law K vs H Q E) : vs.length = 1 := by obtain ⟨a, ns, rfl, _⟩ := h; rfl
theorem pure_law (T : Tx K mg) (h : sp_law K vs H Q E) : t_law K { nx := fun _ H2 => Q .non H2, rt := Q } (start ["_law_script", "_law_pen_here", "_law_turn", "_law_thing", "_law_right", "_law_wrong", "_law_one"] vs) H := by
  obtain ⟨a, ns, rfl, ha, hns, q⟩ := h
  show (tSeq (tAsg (tFn (sp_Lpen K) [] W0 (tCons (tVar 0) tNil)) (gName 1)) (tSeq (tFor (iRng1 (tCons (tC (.int 6)) tNil)) (gName 2) (tTurn K)) (tNames K))) _ _ _
  walk_at "gx"
  refine ⟨a, ns, rfl, ha, hns, fun P H1 hp s1 pen => ?_⟩
  walk_at "gx"
  refine x_forR (by omega) (fun i s2 H2 => ∃ v2 v3, s2 = [some (.ref a), some (.ref P.p), v2, v3, none, none, none] ∧ PenAt H2 P (15 * i)) ⟨_, _, rfl, pen⟩ (fun i s4 H4 hi hv => ?_) (fun s4 H4 hv => ?_)
  · obtain ⟨v2, v3, rfl, p4⟩ := hv
    exact turn_ok T p4 (by omega) fun w3 H5 p5 => ⟨_, _, rfl, p5⟩
  · obtain ⟨v2, v3, rfl, p4⟩ := hv
    exact names_ok T fun H5 => q H5
end

end K01

namespace K01
open PySem PySem.Spec PyProof.Rows L2 He SJ
section
variable {P : Program} {w : World} {K : PySem.W.Frag} {mg : Str → Option Value} {base : Heap}
theorem sf_InvalidFrame_init (T : Tx K mg) (hP : P = PySem.Challenge.pw_strayjoins_k01_errors_and_numbers) : SupFn K P ["self", "reason"] ["self", "reason"] "InvalidFrame.__init__" (defArgs s_InvalidFrame_init) (defBody s_InvalidFrame_init) (defScope s_InvalidFrame_init) (a_InvalidFrame_init K) (ccA K (a_InvalidFrame_init K)) (cdaA K (a_InvalidFrame_init K)) (ga K "InvalidFrame") := by
  subst hP
  obtain ⟨e1, e2, e3, e4⟩ := XD.facts T.e_InvalidFrame_init.1 T.e_InvalidFrame_init.2
  exact ⟨e1, e2, e3, e4, by decide +kernel, rfl, rfl, rfl, by decide +kernel, rfl, by decide +kernel, by decide +kernel, fun x h => nofree_of (by decide +kernel) h, by decide +kernel, by decide +kernel, ⟨_, rfl, rfl⟩⟩
theorem ok_InvalidFrame_init (T : Tx K mg) (hP : P = PySem.Challenge.pw_strayjoins_k01_errors_and_numbers) : ∃ fd, Fk P w K mg base 1 (a_InvalidFrame_init K) fd ["self", "reason"] (spX (ga K "InvalidFrame") ["reason"]) ∧ Binds K fd ["self", "reason"] [] ∧ KBn K fd ["self", "reason"] 1 ["reason"] (kwW [0, 1]) (kwV [0, 1]) := by
  obtain ⟨fd, ⟨kV, doc, pm, an, ct, rfl⟩, F⟩ := fk_sup (k := 0) (sp := spX (ga K "InvalidFrame") ["reason"]) (ta := (tCons (tVar 1) tNil)) (tr := (tSt K "ValueError.__new__" [.type "ValueError", .type "Exception", .type "BaseException", .type "object"] "reason" (tVar 0) (tVar 1))) (sf_InvalidFrame_init T hP) exb_value T.x_InvalidFrame.g rfl T.x_InvalidFrame.sup T.x_InvalidFrame.sB T.x_InvalidFrame.stat T.x_InvalidFrame.mro T.f_super
    (fun vs H Q E h => spX_len h) (fun A outer s H => (pa_cons (pv 1) pa_nil)) (fun A outer s H => (pss_one (ps_xst exb_value.sf (pv 0) (pv 1)))) (fun vs H Q E h => spX_1 T.x_InvalidFrame.g (T.x_InvalidFrame.nof _ (by decide)) h)
  exact ⟨_, F, .all fun us hl => match us, hl with | [_, _], _ => rfl, ⟨fun s us ws _ h1 h2 => match us, ws, h1, h2 with | [_], [_], _, _ => .of_eq rfl, kw_rel⟩⟩
theorem sf_InvalidWord_init (T : Tx K mg) (hP : P = PySem.Challenge.pw_strayjoins_k01_errors_and_numbers) : SupFn K P ["self", "name"] ["self", "name"] "InvalidWord.__init__" (defArgs s_InvalidWord_init) (defBody s_InvalidWord_init) (defScope s_InvalidWord_init) (a_InvalidWord_init K) (ccA K (a_InvalidWord_init K)) (cdaA K (a_InvalidWord_init K)) (ga K "InvalidWord") := by
  subst hP
  obtain ⟨e1, e2, e3, e4⟩ := XD.facts T.e_InvalidWord_init.1 T.e_InvalidWord_init.2
  exact ⟨e1, e2, e3, e4, by decide +kernel, rfl, rfl, rfl, by decide +kernel, rfl, by decide +kernel, by decide +kernel, fun x h => nofree_of (by decide +kernel) h, by decide +kernel, by decide +kernel, ⟨_, rfl, rfl⟩⟩
theorem ok_InvalidWord_init (T : Tx K mg) (hP : P = PySem.Challenge.pw_strayjoins_k01_errors_and_numbers) : ∃ fd, Fk P w K mg base 1 (a_InvalidWord_init K) fd ["self", "name"] (spX (ga K "InvalidWord") ["name"]) ∧ Binds K fd ["self", "name"] [] ∧ KBn K fd ["self", "name"] 1 ["name"] (kwW [0, 1]) (kwV [0, 1]) := by
  obtain ⟨fd, ⟨kV, doc, pm, an, ct, rfl⟩, F⟩ := fk_sup (k := 0) (sp := spX (ga K "InvalidWord") ["name"]) (ta := (tCons (tVar 1) tNil)) (tr := (tSt K "ValueError.__new__" [.type "ValueError", .type "Exception", .type "BaseException", .type "object"] "name" (tVar 0) (tVar 1))) (sf_InvalidWord_init T hP) exb_value T.x_InvalidWord.g rfl T.x_InvalidWord.sup T.x_InvalidWord.sB T.x_InvalidWord.stat T.x_InvalidWord.mro T.f_super
    (fun vs H Q E h => spX_len h) (fun A outer s H => (pa_cons (pv 1) pa_nil)) (fun A outer s H => (pss_one (ps_xst exb_value.sf (pv 0) (pv 1)))) (fun vs H Q E h => spX_1 T.x_InvalidWord.g (T.x_InvalidWord.nof _ (by decide)) h)
  exact ⟨_, F, .all fun us hl => match us, hl with | [_, _], _ => rfl, ⟨fun s us ws _ h1 h2 => match us, ws, h1, h2 with | [_], [_], _, _ => .of_eq rfl, kw_rel⟩⟩
theorem sf_InvalidBoard_init (T : Tx K mg) (hP : P = PySem.Challenge.pw_strayjoins_k01_errors_and_numbers) : SupFn K P ["self", "reason"] ["self", "reason"] "InvalidBoard.__init__" (defArgs s_InvalidBoard_init) (defBody s_InvalidBoard_init) (defScope s_InvalidBoard_init) (a_InvalidBoard_init K) (ccA K (a_InvalidBoard_init K)) (cdaA K (a_InvalidBoard_init K)) (ga K "InvalidBoard") := by
  subst hP
  obtain ⟨e1, e2, e3, e4⟩ := XD.facts T.e_InvalidBoard_init.1 T.e_InvalidBoard_init.2
  exact ⟨e1, e2, e3, e4, by decide +kernel, rfl, rfl, rfl, by decide +kernel, rfl, by decide +kernel, by decide +kernel, fun x h => nofree_of (by decide +kernel) h, by decide +kernel, by decide +kernel, ⟨_, rfl, rfl⟩⟩
theorem ok_InvalidBoard_init (T : Tx K mg) (hP : P = PySem.Challenge.pw_strayjoins_k01_errors_and_numbers) : ∃ fd, Fk P w K mg base 1 (a_InvalidBoard_init K) fd ["self", "reason"] (spX (ga K "InvalidBoard") ["reason"]) ∧ Binds K fd ["self", "reason"] [] ∧ KBn K fd ["self", "reason"] 1 ["reason"] (kwW [0, 1]) (kwV [0, 1]) := by
  obtain ⟨fd, ⟨kV, doc, pm, an, ct, rfl⟩, F⟩ := fk_sup (k := 0) (sp := spX (ga K "InvalidBoard") ["reason"]) (ta := (tCons (tVar 1) tNil)) (tr := (tSt K "ValueError.__new__" [.type "ValueError", .type "Exception", .type "BaseException", .type "object"] "reason" (tVar 0) (tVar 1))) (sf_InvalidBoard_init T hP) exb_value T.x_InvalidBoard.g rfl T.x_InvalidBoard.sup T.x_InvalidBoard.sB T.x_InvalidBoard.stat T.x_InvalidBoard.mro T.f_super
    (fun vs H Q E h => spX_len h) (fun A outer s H => (pa_cons (pv 1) pa_nil)) (fun A outer s H => (pss_one (ps_xst exb_value.sf (pv 0) (pv 1)))) (fun vs H Q E h => spX_1 T.x_InvalidBoard.g (T.x_InvalidBoard.nof _ (by decide)) h)
  exact ⟨_, F, .all fun us hl => match us, hl with | [_, _], _ => rfl, ⟨fun s us ws _ h1 h2 => match us, ws, h1, h2 with | [_], [_], _, _ => .of_eq rfl, kw_rel⟩⟩
theorem sf_InvalidAnswer_init (T : Tx K mg) (hP : P = PySem.Challenge.pw_strayjoins_k01_errors_and_numbers) : SupFn K P ["self", "index", "name"] ["self", "index", "name"] "InvalidAnswer.__init__" (defArgs s_InvalidAnswer_init) (defBody s_InvalidAnswer_init) (defScope s_InvalidAnswer_init) (a_InvalidAnswer_init K) (ccA K (a_InvalidAnswer_init K)) (cdaA K (a_InvalidAnswer_init K)) (ga K "InvalidAnswer") := by
  subst hP
  obtain ⟨e1, e2, e3, e4⟩ := XD.facts T.e_InvalidAnswer_init.1 T.e_InvalidAnswer_init.2
  exact ⟨e1, e2, e3, e4, by decide +kernel, rfl, rfl, rfl, by decide +kernel, rfl, by decide +kernel, by decide +kernel, fun x h => nofree_of (by decide +kernel) h, by decide +kernel, by decide +kernel, ⟨_, rfl, rfl⟩⟩
theorem ok_InvalidAnswer_init (T : Tx K mg) (hP : P = PySem.Challenge.pw_strayjoins_k01_errors_and_numbers) : ∃ fd, Fk P w K mg base 1 (a_InvalidAnswer_init K) fd ["self", "index", "name"] (spX (ga K "InvalidAnswer") ["index", "name"]) ∧ Binds K fd ["self", "index", "name"] [] ∧ KBn K fd ["self", "index", "name"] 1 ["name", "index"] (kwW [0, 2, 1]) (kwV [0, 2, 1]) := by
  obtain ⟨fd, ⟨kV, doc, pm, an, ct, rfl⟩, F⟩ := fk_sup (k := 0) (sp := spX (ga K "InvalidAnswer") ["index", "name"]) (ta := (tCons (tVar 1) (tCons (tVar 2) tNil))) (tr := (tSeq (tSt K "ValueError.__new__" [.type "ValueError", .type "Exception", .type "BaseException", .type "object"] "index" (tVar 0) (tVar 1)) (tSt K "ValueError.__new__" [.type "ValueError", .type "Exception", .type "BaseException", .type "object"] "name" (tVar 0) (tVar 2)))) (sf_InvalidAnswer_init T hP) exb_value T.x_InvalidAnswer.g rfl T.x_InvalidAnswer.sup T.x_InvalidAnswer.sB T.x_InvalidAnswer.stat T.x_InvalidAnswer.mro T.f_super
    (fun vs H Q E h => spX_len h) (fun A outer s H => (pa_cons (pv 1) (pa_cons (pv 2) pa_nil))) (fun A outer s H => (pss_cons (ps_xst exb_value.sf (pv 0) (pv 1)) (pss_one (ps_xst exb_value.sf (pv 0) (pv 2))))) (fun vs H Q E h => spX_2 T.x_InvalidAnswer.g (T.x_InvalidAnswer.nof _ (by decide)) (T.x_InvalidAnswer.nof _ (by decide)) h)
  exact ⟨_, F, .all fun us hl => match us, hl with | [_, _, _], _ => rfl, ⟨fun s us ws _ h1 h2 => match us, ws, h1, h2 with | [_], [_, _], _, _ => .of_eq rfl, kw_rel⟩⟩
theorem sf_NoBoard_init (T : Tx K mg) (hP : P = PySem.Challenge.pw_strayjoins_k01_errors_and_numbers) : SupFn K P ["self", "index", "name"] ["self", "index", "name"] "NoBoard.__init__" (defArgs s_NoBoard_init) (defBody s_NoBoard_init) (defScope s_NoBoard_init) (a_NoBoard_init K) (ccA K (a_NoBoard_init K)) (cdaA K (a_NoBoard_init K)) (ga K "NoBoard") := by
  subst hP
  obtain ⟨e1, e2, e3, e4⟩ := XD.facts T.e_NoBoard_init.1 T.e_NoBoard_init.2
  exact ⟨e1, e2, e3, e4, by decide +kernel, rfl, rfl, rfl, by decide +kernel, rfl, by decide +kernel, by decide +kernel, fun x h => nofree_of (by decide +kernel) h, by decide +kernel, by decide +kernel, ⟨_, rfl, rfl⟩⟩
theorem ok_NoBoard_init (T : Tx K mg) (hP : P = PySem.Challenge.pw_strayjoins_k01_errors_and_numbers) : ∃ fd, Fk P w K mg base 1 (a_NoBoard_init K) fd ["self", "index", "name"] (spX (ga K "NoBoard") ["index", "name"]) ∧ Binds K fd ["self", "index", "name"] [] ∧ KBn K fd ["self", "index", "name"] 1 ["name", "index"] (kwW [0, 2, 1]) (kwV [0, 2, 1]) := by
  obtain ⟨fd, ⟨kV, doc, pm, an, ct, rfl⟩, F⟩ := fk_sup (k := 0) (sp := spX (ga K "NoBoard") ["index", "name"]) (ta := (tCons (tVar 1) (tCons (tVar 2) tNil))) (tr := (tSeq (tSt K "ValueError.__new__" [.type "ValueError", .type "Exception", .type "BaseException", .type "object"] "index" (tVar 0) (tVar 1)) (tSt K "ValueError.__new__" [.type "ValueError", .type "Exception", .type "BaseException", .type "object"] "name" (tVar 0) (tVar 2)))) (sf_NoBoard_init T hP) exb_value T.x_NoBoard.g rfl T.x_NoBoard.sup T.x_NoBoard.sB T.x_NoBoard.stat T.x_NoBoard.mro T.f_super
    (fun vs H Q E h => spX_len h) (fun A outer s H => (pa_cons (pv 1) (pa_cons (pv 2) pa_nil))) (fun A outer s H => (pss_cons (ps_xst exb_value.sf (pv 0) (pv 1)) (pss_one (ps_xst exb_value.sf (pv 0) (pv 2))))) (fun vs H Q E h => spX_2 T.x_NoBoard.g (T.x_NoBoard.nof _ (by decide)) (T.x_NoBoard.nof _ (by decide)) h)
  exact ⟨_, F, .all fun us hl => match us, hl with | [_, _, _], _ => rfl, ⟨fun s us ws _ h1 h2 => match us, ws, h1, h2 with | [_], [_, _], _, _ => .of_eq rfl, kw_rel⟩⟩
theorem sf_InvalidChain_init (T : Tx K mg) (hP : P = PySem.Challenge.pw_strayjoins_k01_errors_and_numbers) : SupFn K P ["self", "reason"] ["self", "reason"] "InvalidChain.__init__" (defArgs s_InvalidChain_init) (defBody s_InvalidChain_init) (defScope s_InvalidChain_init) (a_InvalidChain_init K) (ccA K (a_InvalidChain_init K)) (cdaA K (a_InvalidChain_init K)) (ga K "InvalidChain") := by
  subst hP
  obtain ⟨e1, e2, e3, e4⟩ := XD.facts T.e_InvalidChain_init.1 T.e_InvalidChain_init.2
  exact ⟨e1, e2, e3, e4, by decide +kernel, rfl, rfl, rfl, by decide +kernel, rfl, by decide +kernel, by decide +kernel, fun x h => nofree_of (by decide +kernel) h, by decide +kernel, by decide +kernel, ⟨_, rfl, rfl⟩⟩
theorem ok_InvalidChain_init (T : Tx K mg) (hP : P = PySem.Challenge.pw_strayjoins_k01_errors_and_numbers) : ∃ fd, Fk P w K mg base 1 (a_InvalidChain_init K) fd ["self", "reason"] (spX (ga K "InvalidChain") ["reason"]) ∧ Binds K fd ["self", "reason"] [] ∧ KBn K fd ["self", "reason"] 1 ["reason"] (kwW [0, 1]) (kwV [0, 1]) := by
  obtain ⟨fd, ⟨kV, doc, pm, an, ct, rfl⟩, F⟩ := fk_sup (k := 0) (sp := spX (ga K "InvalidChain") ["reason"]) (ta := (tCons (tVar 1) tNil)) (tr := (tSt K "ValueError.__new__" [.type "ValueError", .type "Exception", .type "BaseException", .type "object"] "reason" (tVar 0) (tVar 1))) (sf_InvalidChain_init T hP) exb_value T.x_InvalidChain.g rfl T.x_InvalidChain.sup T.x_InvalidChain.sB T.x_InvalidChain.stat T.x_InvalidChain.mro T.f_super
    (fun vs H Q E h => spX_len h) (fun A outer s H => (pa_cons (pv 1) pa_nil)) (fun A outer s H => (pss_one (ps_xst exb_value.sf (pv 0) (pv 1)))) (fun vs H Q E h => spX_1 T.x_InvalidChain.g (T.x_InvalidChain.nof _ (by decide)) h)
  exact ⟨_, F, .all fun us hl => match us, hl with | [_, _], _ => rfl, ⟨fun s us ws _ h1 h2 => match us, ws, h1, h2 with | [_], [_], _, _ => .of_eq rfl, kw_rel⟩⟩
theorem sf_InvalidHurt_init (T : Tx K mg) (hP : P = PySem.Challenge.pw_strayjoins_k01_errors_and_numbers) : SupFn K P ["self", "reason"] ["self", "reason"] "InvalidHurt.__init__" (defArgs s_InvalidHurt_init) (defBody s_InvalidHurt_init) (defScope s_InvalidHurt_init) (a_InvalidHurt_init K) (ccA K (a_InvalidHurt_init K)) (cdaA K (a_InvalidHurt_init K)) (ga K "InvalidHurt") := by
  subst hP
  obtain ⟨e1, e2, e3, e4⟩ := XD.facts T.e_InvalidHurt_init.1 T.e_InvalidHurt_init.2
  exact ⟨e1, e2, e3, e4, by decide +kernel, rfl, rfl, rfl, by decide +kernel, rfl, by decide +kernel, by decide +kernel, fun x h => nofree_of (by decide +kernel) h, by decide +kernel, by decide +kernel, ⟨_, rfl, rfl⟩⟩
theorem ok_InvalidHurt_init (T : Tx K mg) (hP : P = PySem.Challenge.pw_strayjoins_k01_errors_and_numbers) : ∃ fd, Fk P w K mg base 1 (a_InvalidHurt_init K) fd ["self", "reason"] (spX (ga K "InvalidHurt") ["reason"]) ∧ Binds K fd ["self", "reason"] [] ∧ KBn K fd ["self", "reason"] 1 ["reason"] (kwW [0, 1]) (kwV [0, 1]) := by
  obtain ⟨fd, ⟨kV, doc, pm, an, ct, rfl⟩, F⟩ := fk_sup (k := 0) (sp := spX (ga K "InvalidHurt") ["reason"]) (ta := (tCons (tVar 1) tNil)) (tr := (tSt K "ValueError.__new__" [.type "ValueError", .type "Exception", .type "BaseException", .type "object"] "reason" (tVar 0) (tVar 1))) (sf_InvalidHurt_init T hP) exb_value T.x_InvalidHurt.g rfl T.x_InvalidHurt.sup T.x_InvalidHurt.sB T.x_InvalidHurt.stat T.x_InvalidHurt.mro T.f_super
    (fun vs H Q E h => spX_len h) (fun A outer s H => (pa_cons (pv 1) pa_nil)) (fun A outer s H => (pss_one (ps_xst exb_value.sf (pv 0) (pv 1)))) (fun vs H Q E h => spX_1 T.x_InvalidHurt.g (T.x_InvalidHurt.nof _ (by decide)) h)
  exact ⟨_, F, .all fun us hl => match us, hl with | [_, _], _ => rfl, ⟨fun s us ws _ h1 h2 => match us, ws, h1, h2 with | [_], [_], _, _ => .of_eq rfl, kw_rel⟩⟩
theorem sf_InvalidScan_init (T : Tx K mg) (hP : P = PySem.Challenge.pw_strayjoins_k01_errors_and_numbers) : SupFn K P ["self", "index"] ["self", "index"] "InvalidScan.__init__" (defArgs s_InvalidScan_init) (defBody s_InvalidScan_init) (defScope s_InvalidScan_init) (a_InvalidScan_init K) (ccA K (a_InvalidScan_init K)) (cdaA K (a_InvalidScan_init K)) (ga K "InvalidScan") := by
  subst hP
  obtain ⟨e1, e2, e3, e4⟩ := XD.facts T.e_InvalidScan_init.1 T.e_InvalidScan_init.2
  exact ⟨e1, e2, e3, e4, by decide +kernel, rfl, rfl, rfl, by decide +kernel, rfl, by decide +kernel, by decide +kernel, fun x h => nofree_of (by decide +kernel) h, by decide +kernel, by decide +kernel, ⟨_, rfl, rfl⟩⟩
theorem ok_InvalidScan_init (T : Tx K mg) (hP : P = PySem.Challenge.pw_strayjoins_k01_errors_and_numbers) : ∃ fd, Fk P w K mg base 1 (a_InvalidScan_init K) fd ["self", "index"] (spX (ga K "InvalidScan") ["index"]) ∧ Binds K fd ["self", "index"] [] ∧ KBn K fd ["self", "index"] 1 ["index"] (kwW [0, 1]) (kwV [0, 1]) := by
  obtain ⟨fd, ⟨kV, doc, pm, an, ct, rfl⟩, F⟩ := fk_sup (k := 0) (sp := spX (ga K "InvalidScan") ["index"]) (ta := (tCons (tVar 1) tNil)) (tr := (tSt K "ValueError.__new__" [.type "ValueError", .type "Exception", .type "BaseException", .type "object"] "index" (tVar 0) (tVar 1))) (sf_InvalidScan_init T hP) exb_value T.x_InvalidScan.g rfl T.x_InvalidScan.sup T.x_InvalidScan.sB T.x_InvalidScan.stat T.x_InvalidScan.mro T.f_super
    (fun vs H Q E h => spX_len h) (fun A outer s H => (pa_cons (pv 1) pa_nil)) (fun A outer s H => (pss_one (ps_xst exb_value.sf (pv 0) (pv 1)))) (fun vs H Q E h => spX_1 T.x_InvalidScan.g (T.x_InvalidScan.nof _ (by decide)) h)
  exact ⟨_, F, .all fun us hl => match us, hl with | [_, _], _ => rfl, ⟨fun s us ws _ h1 h2 => match us, ws, h1, h2 with | [_], [_], _, _ => .of_eq rfl, kw_rel⟩⟩
theorem sf_InvalidText_init (T : Tx K mg) (hP : P = PySem.Challenge.pw_strayjoins_k01_errors_and_numbers) : SupFn K P ["self", "line", "word"] ["self", "line", "word"] "InvalidText.__init__" (defArgs s_InvalidText_init) (defBody s_InvalidText_init) (defScope s_InvalidText_init) (a_InvalidText_init K) (ccA K (a_InvalidText_init K)) (cdaA K (a_InvalidText_init K)) (ga K "InvalidText") := by
  subst hP
  obtain ⟨e1, e2, e3, e4⟩ := XD.facts T.e_InvalidText_init.1 T.e_InvalidText_init.2
  exact ⟨e1, e2, e3, e4, by decide +kernel, rfl, rfl, rfl, by decide +kernel, rfl, by decide +kernel, by decide +kernel, fun x h => nofree_of (by decide +kernel) h, by decide +kernel, by decide +kernel, ⟨_, rfl, rfl⟩⟩
theorem ok_InvalidText_init (T : Tx K mg) (hP : P = PySem.Challenge.pw_strayjoins_k01_errors_and_numbers) : ∃ fd, Fk P w K mg base 1 (a_InvalidText_init K) fd ["self", "line", "word"] (spX (ga K "InvalidText") ["line", "word"]) ∧ Binds K fd ["self", "line", "word"] [] ∧ KBn K fd ["self", "line", "word"] 1 ["word", "line"] (kwW [0, 2, 1]) (kwV [0, 2, 1]) := by
  obtain ⟨fd, ⟨kV, doc, pm, an, ct, rfl⟩, F⟩ := fk_sup (k := 0) (sp := spX (ga K "InvalidText") ["line", "word"]) (ta := (tCons (tVar 1) (tCons (tVar 2) tNil))) (tr := (tSeq (tSt K "ValueError.__new__" [.type "ValueError", .type "Exception", .type "BaseException", .type "object"] "line" (tVar 0) (tVar 1)) (tSt K "ValueError.__new__" [.type "ValueError", .type "Exception", .type "BaseException", .type "object"] "word" (tVar 0) (tVar 2)))) (sf_InvalidText_init T hP) exb_value T.x_InvalidText.g rfl T.x_InvalidText.sup T.x_InvalidText.sB T.x_InvalidText.stat T.x_InvalidText.mro T.f_super
    (fun vs H Q E h => spX_len h) (fun A outer s H => (pa_cons (pv 1) (pa_cons (pv 2) pa_nil))) (fun A outer s H => (pss_cons (ps_xst exb_value.sf (pv 0) (pv 1)) (pss_one (ps_xst exb_value.sf (pv 0) (pv 2))))) (fun vs H Q E h => spX_2 T.x_InvalidText.g (T.x_InvalidText.nof _ (by decide)) (T.x_InvalidText.nof _ (by decide)) h)
  exact ⟨_, F, .all fun us hl => match us, hl with | [_, _, _], _ => rfl, ⟨fun s us ws _ h1 h2 => match us, ws, h1, h2 with | [_], [_, _], _, _ => .of_eq rfl, kw_rel⟩⟩
theorem sf_InvalidCommand_init (T : Tx K mg) (hP : P = PySem.Challenge.pw_strayjoins_k01_errors_and_numbers) : SupFn K P ["self", "word"] ["self", "word"] "InvalidCommand.__init__" (defArgs s_InvalidCommand_init) (defBody s_InvalidCommand_init) (defScope s_InvalidCommand_init) (a_InvalidCommand_init K) (ccA K (a_InvalidCommand_init K)) (cdaA K (a_InvalidCommand_init K)) (ga K "InvalidCommand") := by
  subst hP
  obtain ⟨e1, e2, e3, e4⟩ := XD.facts T.e_InvalidCommand_init.1 T.e_InvalidCommand_init.2
  exact ⟨e1, e2, e3, e4, by decide +kernel, rfl, rfl, rfl, by decide +kernel, rfl, by decide +kernel, by decide +kernel, fun x h => nofree_of (by decide +kernel) h, by decide +kernel, by decide +kernel, ⟨_, rfl, rfl⟩⟩
theorem ok_InvalidCommand_init (T : Tx K mg) (hP : P = PySem.Challenge.pw_strayjoins_k01_errors_and_numbers) : ∃ fd, Fk P w K mg base 1 (a_InvalidCommand_init K) fd ["self", "word"] (spX (ga K "InvalidCommand") ["word"]) ∧ Binds K fd ["self", "word"] [] ∧ KBn K fd ["self", "word"] 1 ["word"] (kwW [0, 1]) (kwV [0, 1]) := by
  obtain ⟨fd, ⟨kV, doc, pm, an, ct, rfl⟩, F⟩ := fk_sup (k := 0) (sp := spX (ga K "InvalidCommand") ["word"]) (ta := (tCons (tVar 1) tNil)) (tr := (tSt K "ValueError.__new__" [.type "ValueError", .type "Exception", .type "BaseException", .type "object"] "word" (tVar 0) (tVar 1))) (sf_InvalidCommand_init T hP) exb_value T.x_InvalidCommand.g rfl T.x_InvalidCommand.sup T.x_InvalidCommand.sB T.x_InvalidCommand.stat T.x_InvalidCommand.mro T.f_super
    (fun vs H Q E h => spX_len h) (fun A outer s H => (pa_cons (pv 1) pa_nil)) (fun A outer s H => (pss_one (ps_xst exb_value.sf (pv 0) (pv 1)))) (fun vs H Q E h => spX_1 T.x_InvalidCommand.g (T.x_InvalidCommand.nof _ (by decide)) h)
  exact ⟨_, F, .all fun us hl => match us, hl with | [_, _], _ => rfl, ⟨fun s us ws _ h1 h2 => match us, ws, h1, h2 with | [_], [_], _, _ => .of_eq rfl, kw_rel⟩⟩
theorem sf_NoLeg_init (T : Tx K mg) (hP : P = PySem.Challenge.pw_strayjoins_k01_errors_and_numbers) : SupFn K P ["self", "name"] ["self", "name"] "NoLeg.__init__" (defArgs s_NoLeg_init) (defBody s_NoLeg_init) (defScope s_NoLeg_init) (a_NoLeg_init K) (ccA K (a_NoLeg_init K)) (cdaA K (a_NoLeg_init K)) (ga K "NoLeg") := by
  subst hP
  obtain ⟨e1, e2, e3, e4⟩ := XD.facts T.e_NoLeg_init.1 T.e_NoLeg_init.2
  exact ⟨e1, e2, e3, e4, by decide +kernel, rfl, rfl, rfl, by decide +kernel, rfl, by decide +kernel, by decide +kernel, fun x h => nofree_of (by decide +kernel) h, by decide +kernel, by decide +kernel, ⟨_, rfl, rfl⟩⟩
theorem ok_NoLeg_init (T : Tx K mg) (hP : P = PySem.Challenge.pw_strayjoins_k01_errors_and_numbers) : ∃ fd, Fk P w K mg base 1 (a_NoLeg_init K) fd ["self", "name"] (spX (ga K "NoLeg") ["name"]) ∧ Binds K fd ["self", "name"] [] ∧ KBn K fd ["self", "name"] 1 ["name"] (kwW [0, 1]) (kwV [0, 1]) := by
  obtain ⟨fd, ⟨kV, doc, pm, an, ct, rfl⟩, F⟩ := fk_sup (k := 0) (sp := spX (ga K "NoLeg") ["name"]) (ta := (tCons (tVar 1) tNil)) (tr := (tSt K "LookupError.__new__" [.type "LookupError", .type "Exception", .type "BaseException", .type "object"] "name" (tVar 0) (tVar 1))) (sf_NoLeg_init T hP) exb_lookup T.x_NoLeg.g rfl T.x_NoLeg.sup T.x_NoLeg.sB T.x_NoLeg.stat T.x_NoLeg.mro T.f_super
    (fun vs H Q E h => spX_len h) (fun A outer s H => (pa_cons (pv 1) pa_nil)) (fun A outer s H => (pss_one (ps_xst exb_lookup.sf (pv 0) (pv 1)))) (fun vs H Q E h => spX_1 T.x_NoLeg.g (T.x_NoLeg.nof _ (by decide)) h)
  exact ⟨_, F, .all fun us hl => match us, hl with | [_, _], _ => rfl, ⟨fun s us ws _ h1 h2 => match us, ws, h1, h2 with | [_], [_], _, _ => .of_eq rfl, kw_rel⟩⟩
theorem sf_NoWord_init (T : Tx K mg) (hP : P = PySem.Challenge.pw_strayjoins_k01_errors_and_numbers) : SupFn K P ["self", "index"] ["self", "index"] "NoWord.__init__" (defArgs s_NoWord_init) (defBody s_NoWord_init) (defScope s_NoWord_init) (a_NoWord_init K) (ccA K (a_NoWord_init K)) (cdaA K (a_NoWord_init K)) (ga K "NoWord") := by
  subst hP
  obtain ⟨e1, e2, e3, e4⟩ := XD.facts T.e_NoWord_init.1 T.e_NoWord_init.2
  exact ⟨e1, e2, e3, e4, by decide +kernel, rfl, rfl, rfl, by decide +kernel, rfl, by decide +kernel, by decide +kernel, fun x h => nofree_of (by decide +kernel) h, by decide +kernel, by decide +kernel, ⟨_, rfl, rfl⟩⟩
theorem ok_NoWord_init (T : Tx K mg) (hP : P = PySem.Challenge.pw_strayjoins_k01_errors_and_numbers) : ∃ fd, Fk P w K mg base 1 (a_NoWord_init K) fd ["self", "index"] (spX (ga K "NoWord") ["index"]) ∧ Binds K fd ["self", "index"] [] ∧ KBn K fd ["self", "index"] 1 ["index"] (kwW [0, 1]) (kwV [0, 1]) := by
  obtain ⟨fd, ⟨kV, doc, pm, an, ct, rfl⟩, F⟩ := fk_sup (k := 0) (sp := spX (ga K "NoWord") ["index"]) (ta := (tCons (tVar 1) tNil)) (tr := (tSt K "LookupError.__new__" [.type "LookupError", .type "Exception", .type "BaseException", .type "object"] "index" (tVar 0) (tVar 1))) (sf_NoWord_init T hP) exb_lookup T.x_NoWord.g rfl T.x_NoWord.sup T.x_NoWord.sB T.x_NoWord.stat T.x_NoWord.mro T.f_super
    (fun vs H Q E h => spX_len h) (fun A outer s H => (pa_cons (pv 1) pa_nil)) (fun A outer s H => (pss_one (ps_xst exb_lookup.sf (pv 0) (pv 1)))) (fun vs H Q E h => spX_1 T.x_NoWord.g (T.x_NoWord.nof _ (by decide)) h)
  exact ⟨_, F, .all fun us hl => match us, hl with | [_, _], _ => rfl, ⟨fun s us ws _ h1 h2 => match us, ws, h1, h2 with | [_], [_], _, _ => .of_eq rfl, kw_rel⟩⟩
theorem sf_TooMany_init (T : Tx K mg) (hP : P = PySem.Challenge.pw_strayjoins_k01_errors_and_numbers) : SupFn K P ["self", "most"] ["self", "most"] "TooMany.__init__" (defArgs s_TooMany_init) (defBody s_TooMany_init) (defScope s_TooMany_init) (a_TooMany_init K) (ccA K (a_TooMany_init K)) (cdaA K (a_TooMany_init K)) (ga K "TooMany") := by
  subst hP
  obtain ⟨e1, e2, e3, e4⟩ := XD.facts T.e_TooMany_init.1 T.e_TooMany_init.2
  exact ⟨e1, e2, e3, e4, by decide +kernel, rfl, rfl, rfl, by decide +kernel, rfl, by decide +kernel, by decide +kernel, fun x h => nofree_of (by decide +kernel) h, by decide +kernel, by decide +kernel, ⟨_, rfl, rfl⟩⟩
theorem ok_TooMany_init (T : Tx K mg) (hP : P = PySem.Challenge.pw_strayjoins_k01_errors_and_numbers) : ∃ fd, Fk P w K mg base 1 (a_TooMany_init K) fd ["self", "most"] (spX (ga K "TooMany") ["most"]) ∧ Binds K fd ["self", "most"] [] ∧ KBn K fd ["self", "most"] 1 ["most"] (kwW [0, 1]) (kwV [0, 1]) := by
  obtain ⟨fd, ⟨kV, doc, pm, an, ct, rfl⟩, F⟩ := fk_sup (k := 0) (sp := spX (ga K "TooMany") ["most"]) (ta := (tCons (tVar 1) tNil)) (tr := (tSt K "OverflowError.__new__" [.type "OverflowError", .type "ArithmeticError", .type "Exception", .type "BaseException", .type "object"] "most" (tVar 0) (tVar 1))) (sf_TooMany_init T hP) exb_over T.x_TooMany.g rfl T.x_TooMany.sup T.x_TooMany.sB T.x_TooMany.stat T.x_TooMany.mro T.f_super
    (fun vs H Q E h => spX_len h) (fun A outer s H => (pa_cons (pv 1) pa_nil)) (fun A outer s H => (pss_one (ps_xst exb_over.sf (pv 0) (pv 1)))) (fun vs H Q E h => spX_1 T.x_TooMany.g (T.x_TooMany.nof _ (by decide)) h)
  exact ⟨_, F, .all fun us hl => match us, hl with | [_, _], _ => rfl, ⟨fun s us ws _ h1 h2 => match us, ws, h1, h2 with | [_], [_], _, _ => .of_eq rfl, kw_rel⟩⟩
theorem ok_is_integer {fd : FuncData} (T : Tx K mg) (F : Fn_is_integer K fd) : Fk P w K mg base 1 (a_is_integer K) fd ["value"] (sp_is_integer K) := by
  refine fk_of F sc_is_integer (fun vs H Q E h => len_is_integer h) (fun cdv A outer s H vs Q E hr h => ⟨t_is_integer K, ?_, pure_is_integer T h⟩)
  exact (pss_one (ps_ret (pe_and (pe_callB c_isiU rfl T.f_isinstance (by decide +kernel) (pa_cons (pv 0) (pa_cons (pe_bltn (v := .ty "int") rfl T.f_int (by decide +kernel) rfl) pa_nil))) (pe_one (pe_not (pe_callB c_isiU rfl T.f_isinstance (by decide +kernel) (pa_cons (pv 0) (pa_cons (pe_bltn (v := .ty "bool") rfl T.f_bool (by decide +kernel) rfl) pa_nil))))))))
theorem ok_is_name {fd : FuncData} (T : Tx K mg) (F : Fn_is_name K fd) : Fk P w K mg base 1 (a_is_name K) fd ["value"] (sp_is_name K) := by
  refine fk_of F sc_is_name (fun vs H Q E h => len_is_name h) (fun cdv A outer s H vs Q E hr h => ⟨t_is_name K, ?_, pure_is_name T h⟩)
  exact (pss_cons (ps_if (PW.pt (pw_or (pt_not (pt_val (pe_callB c_isiU rfl T.f_isinstance (by decide +kernel) (pa_cons (pv 0) (pa_cons (pe_bltn (v := .ty "str") rfl T.f_str (by decide +kernel) rfl) pa_nil))))) (pw_or1 (pt_not (pt_chain o_le o_le pe_int (pe_callB c_len rfl T.f_len (by decide +kernel) (pa_cons (pv 0) pa_nil)) (pe_glob rfl T.g_MOST_LETTERS.choose_spec ⟨_, rfl⟩)))))) (pss_one (ps_ret pe_bl)) pss_nil) (pss_one (ps_ret (pe_and (pe_callB (c_all rfl) rfl T.f_all (by decide +kernel) (pa_cons (pe_lc (own := [("letter", 1)]) rfl sc_is_name.nd (pi_str (pv 0)) (blkOk_by (own := [("letter", 1)]) (N := ["value", "letter"]) (sc := defScope s_is_name) (by decide +kernel)) (fun _ _ _ _ _ => (pg_name (i := 1) sc_is_name.nd rfl (by first | exact Or.inl rfl | exact Or.inr rfl))) (fun _ _ _ _ _ => pts_nil) (fun _ _ _ _ _ => (pe_cmpR op_inS (pv 1) (pe_glob rfl T.g_LETTERS.choose_spec ⟨_, rfl⟩) rfl))) pa_nil)) (pe_one (pe_cmpR o_nin (pv 0) (pe_tup (pa_cons (pe_glob rfl T.g_GROUND.choose_spec ⟨_, rfl⟩) (pa_cons (pe_glob rfl T.g_POWER.choose_spec ⟨_, rfl⟩) (pa_cons (pe_glob rfl T.g_NOTHING.choose_spec ⟨_, rfl⟩) pa_nil)))) rfl))))))
theorem ok_up {fd : FuncData} (T : Tx K mg) (F : Fn_up K fd) : Fk P w K mg base 1 (a_up K) fd ["number", "by"] (sp_up K) := by
  refine fk_of F sc_up (fun vs H Q E h => len_up h) (fun cdv A outer s H vs Q E hr h => ⟨t_up K, ?_, pure_up T h⟩)
  exact (pss_one (ps_ret (pe_op o_fdv (pe_op o_sub (pe_op o_add (pv 0) (pv 1)) pe_int) (pv 1))))
theorem ok_least_power {fd : FuncData} (T : Tx K mg) (F : Fn_least_power K fd) : Fk P w K mg base 1 (a_least_power K) fd ["base", "number"] (sp_least_power K) := by
  refine fk_of F sc_least_power (fun vs H Q E h => len_least_power h) (fun cdv A outer s H vs Q E hr h => ⟨t_least_power K, ?_, pure_least_power T h⟩)
  exact (pss_cons (ps_asg (pe_tup (pa_cons pe_int (pa_cons pe_int pa_nil))) (pg_tup rfl (pgs_cons (pg_name (i := 2) sc_least_power.nd rfl (by first | exact Or.inl rfl | exact Or.inr rfl)) (pgs_cons (pg_name (i := 3) sc_least_power.nd rfl (by first | exact Or.inl rfl | exact Or.inr rfl)) pgs_nil)))) (pss_cons (ps_while (passes_of rfl) (pt_cmpR o_lt (pv 3) (pv 1) (nomark _)) (pss_cons (ps_aug (i := 2) sc_least_power.nd rfl (by first | exact Or.inl rfl | exact Or.inr rfl) pe_int ip_add) (pss_one (ps_aug (i := 3) sc_least_power.nd rfl (by first | exact Or.inl rfl | exact Or.inr rfl) (pv 0) iop_mul)))) (pss_one (ps_ret (pv 2)))))
theorem ok_Lpen {fd : FuncData} (T : Tx K mg) (F : Fn_Lpen K fd) : Fk P w K mg base 1 (a_Lpen K) fd ["_law_script"] (sp_Lpen K) := by
  refine fk_of F sc_Lpen (fun vs H Q E h => len_Lpen h) (fun cdv A outer s H vs Q E hr h => ⟨t_Lpen K, ?_, pure_Lpen T h⟩)
  exact (pss_one (ps_ret (pe_lst (pa_cons (pe_callTy c_list rfl T.f_list (by decide +kernel) (pa_cons (pe_slice sl_u (pv 0) po_none (po_some pe_int)) pa_nil)) (pa_cons pe_int (pa_cons pe_int pa_nil))))))
theorem ok_Ldraw {fd : FuncData} (T : Tx K mg) (F : Fn_Ldraw K fd) : Fk P w K mg base 1 (a_Ldraw K) fd ["_law_pen_here", "_law_many"] (sp_Ldraw K) := by
  refine fk_of F sc_Ldraw (fun vs H Q E h => len_Ldraw h) (fun cdv A outer s H vs Q E hr h => ⟨t_Ldraw K, ?_, pure_Ldraw T h⟩)
  exact (pss_cons (ps_if (pt_cmpR o_gt (pe_ix ix_seq (pv 0) pe_int (fun _ _ => rfl)) pe_int (nomark _)) (pss_cons (ps_set (i := 2) sc_Ldraw.nd rfl (by first | exact Or.inl rfl | exact Or.inr rfl) (pe_op o_mod (pe_callTy c_int rfl T.f_int (by decide +kernel) (pa_cons (pe_ix ix_seq (pv 0) pe_int (fun _ _ => rfl)) pa_nil)) (pv 1))) (pss_cons (ps_asg (pe_op o_fdv (pe_callTy c_int rfl T.f_int (by decide +kernel) (pa_cons (pe_ix ix_seq (pv 0) pe_int (fun _ _ => rfl)) pa_nil)) (pv 1)) (pg_sub (pv 0) pe_int set_list)) (pss_one (ps_ret (pv 2))))) pss_nil) (pss_cons (ps_set (i := 3) sc_Ldraw.nd rfl (by first | exact Or.inl rfl | exact Or.inr rfl) (pe_ix ix_seq (pv 0) pe_int (fun _ _ => rfl))) (pss_cons (ps_asg (pe_op o_add (pv 3) pe_int) (pg_sub (pv 0) pe_int set_list)) (pss_cons (ps_set (i := 4) sc_Ldraw.nd rfl (by first | exact Or.inl rfl | exact Or.inr rfl) (pe_op o_add (pe_op o_mul pe_int (pv 3)) pe_int)) (pss_cons (ps_if (pt_cmpR (o_ne hr.units) (pe_ix ix_seq (pv 0) pe_int (fun _ _ => rfl)) (pe_lst pa_nil) (nomark _)) (pss_one (ps_set (i := 4) sc_Ldraw.nd rfl (by first | exact Or.inl rfl | exact Or.inr rfl) (pe_ix ix_seq (pe_ix ix_seq (pv 0) pe_int (fun _ _ => rfl)) (pe_op o_mod (pe_callTy c_int rfl T.f_int (by decide +kernel) (pa_cons (pv 3) pa_nil)) (pe_callB c_len rfl T.f_len (by decide +kernel) (pa_cons (pe_ix ix_seq (pv 0) pe_int (fun _ _ => rfl)) pa_nil))) (fun _ _ => rfl)))) pss_nil) (pss_cons (ps_if (PW.pt (pw_and (pt_cmpR o_lt (pv 3) (pe_callB c_len rfl T.f_len (by decide +kernel) (pa_cons (pe_ix ix_seq (pv 0) pe_int (fun _ _ => rfl)) pa_nil)) (nomark _)) (pw_and1 (pt_cmpR o_ge (pe_callB c_abs rfl T.f_abs (by decide +kernel) (pa_cons (pv 4) pa_nil)) (pe_op o_pow pe_int pe_int) (nomark _))))) (pss_cons (ps_set (i := 5) sc_Ldraw.nd rfl (by first | exact Or.inl rfl | exact Or.inr rfl) (pe_op o_add (pe_op o_mul pe_int (pe_callB c_abs rfl T.f_abs (by decide +kernel) (pa_cons (pv 4) pa_nil))) (pe_callTy c_int rfl T.f_int (by decide +kernel) (pa_cons (pe_cmpR o_lt (pv 4) pe_int (nomark _)) pa_nil)))) (pss_cons (ps_asg (pe_op o_fdv (pe_callTy c_int rfl T.f_int (by decide +kernel) (pa_cons (pv 5) pa_nil)) (pv 1)) (pg_sub (pv 0) pe_int set_list)) (pss_one (ps_ret (pe_op o_mod (pe_callTy c_int rfl T.f_int (by decide +kernel) (pa_cons (pv 5) pa_nil)) (pv 1)))))) pss_nil) (pss_cons (ps_set (i := 6) sc_Ldraw.nd rfl (by first | exact Or.inl rfl | exact Or.inr rfl) (pe_op o_mod (pe_op o_pow (pe_callTy c_int rfl T.f_int (by decide +kernel) (pa_cons (pe_op o_add (pe_op o_add (pe_op o_mod (pe_callTy c_int rfl T.f_int (by decide +kernel) (pa_cons (pv 4) pa_nil)) pe_int) (pe_op o_mul pe_int (pv 3))) pe_int) pa_nil)) pe_int) pe_int)) (pss_cons (ps_set (i := 6) sc_Ldraw.nd rfl (by first | exact Or.inl rfl | exact Or.inr rfl) (pe_op o_mod (pe_op o_pow (pe_callTy c_int rfl T.f_int (by decide +kernel) (pa_cons (pe_op o_add (pe_op o_add (pe_op o_mul (pv 6) (pe_op o_add (pe_op o_mul pe_int (pv 3)) pe_int)) (pe_op o_mul (pe_op o_mul pe_int (pv 3)) (pv 3))) pe_int) pa_nil)) pe_int) pe_int)) (pss_one (ps_ret (pe_op o_mod (pe_callTy c_int rfl T.f_int (by decide +kernel) (pa_cons (pe_op o_fdv (pv 6) pe_int) pa_nil)) (pv 1))))))))))))
theorem ok_Lpick {fd : FuncData} (T : Tx K mg) (F : Fn_Lpick K fd) : Fk P w K mg base 2 (a_Lpick K) fd ["_law_pen_here", "_law_some"] (sp_Lpick K) := by
  obtain ⟨fd_Ldraw, F_Ldraw⟩ := T.d_Ldraw
  have G_Ldraw := ok_Ldraw (P := P) (w := w) (base := base) T F_Ldraw
  have b_Ldraw := F_Ldraw.bindsN (ps := ["_law_pen_here", "_law_many"]) fun _ _ _ _ _ _ us hl => match us, hl with | [_, _], _ => rfl
  refine fk_of F sc_Lpick (fun vs H Q E h => len_Lpick h) (fun cdv A outer s H vs Q E hr h => ⟨t_Lpick K, ?_, pure_Lpick T h⟩)
  exact (pss_one (ps_ret (pe_ix ix_seq (pv 1) (pe_fn G_Ldraw (hr.mono (by decide)) rfl T.g_Ldraw F_Ldraw.kp b_Ldraw .nil takes0 (pa_cons (pv 0) (pa_cons (pe_callB c_len rfl T.f_len (by decide +kernel) (pa_cons (pv 1) pa_nil)) pa_nil))) (fun _ _ => rfl))))
theorem ok_Lones {fd : FuncData} (T : Tx K mg) (F : Fn_Lones K fd) (hP : P = PySem.Challenge.pw_strayjoins_k01_errors_and_numbers) : Fk P w K mg base 3 (a_Lones K) fd ["_law_thing"] (sp_Lones K) := by
  obtain ⟨fd_TooMany_init, G_TooMany_init, b_TooMany_init, kb_TooMany_init_most⟩ := ok_TooMany_init (P := P) (w := w) (base := base) T hP
  obtain ⟨fd_NoWord_init, G_NoWord_init, b_NoWord_init, kb_NoWord_init_index⟩ := ok_NoWord_init (P := P) (w := w) (base := base) T hP
  obtain ⟨fd_NoLeg_init, G_NoLeg_init, b_NoLeg_init, kb_NoLeg_init_name⟩ := ok_NoLeg_init (P := P) (w := w) (base := base) T hP
  obtain ⟨fd_InvalidCommand_init, G_InvalidCommand_init, b_InvalidCommand_init, kb_InvalidCommand_init_word⟩ := ok_InvalidCommand_init (P := P) (w := w) (base := base) T hP
  obtain ⟨fd_InvalidScan_init, G_InvalidScan_init, b_InvalidScan_init, kb_InvalidScan_init_index⟩ := ok_InvalidScan_init (P := P) (w := w) (base := base) T hP
  obtain ⟨fd_InvalidHurt_init, G_InvalidHurt_init, b_InvalidHurt_init, kb_InvalidHurt_init_reason⟩ := ok_InvalidHurt_init (P := P) (w := w) (base := base) T hP
  obtain ⟨fd_InvalidChain_init, G_InvalidChain_init, b_InvalidChain_init, kb_InvalidChain_init_reason⟩ := ok_InvalidChain_init (P := P) (w := w) (base := base) T hP
  obtain ⟨fd_InvalidBoard_init, G_InvalidBoard_init, b_InvalidBoard_init, kb_InvalidBoard_init_reason⟩ := ok_InvalidBoard_init (P := P) (w := w) (base := base) T hP
  obtain ⟨fd_InvalidWord_init, G_InvalidWord_init, b_InvalidWord_init, kb_InvalidWord_init_name⟩ := ok_InvalidWord_init (P := P) (w := w) (base := base) T hP
  obtain ⟨fd_InvalidFrame_init, G_InvalidFrame_init, b_InvalidFrame_init, kb_InvalidFrame_init_reason⟩ := ok_InvalidFrame_init (P := P) (w := w) (base := base) T hP
  refine fk_of F sc_Lones (fun vs H Q E h => len_Lones h) (fun cdv A outer s H vs Q E hr h => ⟨t_Lones K, ?_, pure_Lones T h⟩)
  exact (pss_cons (ps_par (i := 1) (j := 2) rfl sc_Lones.nd rfl rfl (by decide) rfl rfl (pa_cons (pe_x exb_value T.x_InvalidFrame.g T.x_InvalidFrame.iC T.x_InvalidFrame.tI G_InvalidFrame_init (hr.mono (by decide)) b_InvalidFrame_init (by decide) rfl rfl T.g_InvalidFrame (pa_cons (pv 0) pa_nil)) (pa_cons (pe_x exb_value T.x_InvalidWord.g T.x_InvalidWord.iC T.x_InvalidWord.tI G_InvalidWord_init (hr.mono (by decide)) b_InvalidWord_init (by decide) rfl rfl T.g_InvalidWord (pa_cons (pv 0) pa_nil)) pa_nil)) (by rfl)) (pss_cons (ps_set (i := 3) sc_Lones.nd rfl (by first | exact Or.inl rfl | exact Or.inr rfl) (pe_lst (pa_cons (pe_tup (pa_cons (pv 1) (pa_cons (pe_xv (pv 1)) pa_nil))) (pa_cons (pe_tup (pa_cons (pv 2) (pa_cons (pe_xv (pv 2)) pa_nil))) pa_nil)))) (pss_cons (ps_par (i := 1) (j := 2) rfl sc_Lones.nd rfl rfl (by decide) rfl rfl (pa_cons (pe_x exb_value T.x_InvalidBoard.g T.x_InvalidBoard.iC T.x_InvalidBoard.tI G_InvalidBoard_init (hr.mono (by decide)) b_InvalidBoard_init (by decide) rfl rfl T.g_InvalidBoard (pa_cons (pv 0) pa_nil)) (pa_cons (pe_x exb_value T.x_InvalidChain.g T.x_InvalidChain.iC T.x_InvalidChain.tI G_InvalidChain_init (hr.mono (by decide)) b_InvalidChain_init (by decide) rfl rfl T.g_InvalidChain (pa_cons (pv 0) pa_nil)) pa_nil)) (by rfl)) (pss_cons (ps_set (i := 3) sc_Lones.nd rfl (by first | exact Or.inl rfl | exact Or.inr rfl) (pe_op o_add (pv 3) (pe_lst (pa_cons (pe_tup (pa_cons (pv 1) (pa_cons (pe_xv (pv 1)) pa_nil))) (pa_cons (pe_tup (pa_cons (pv 2) (pa_cons (pe_xv (pv 2)) pa_nil))) pa_nil))))) (pss_cons (ps_par3 (i := 4) (j := 5) (l := 6) rfl sc_Lones.nd rfl rfl rfl (by decide) (by decide) (by decide) rfl rfl rfl (pa_cons (pe_x exb_value T.x_InvalidHurt.g T.x_InvalidHurt.iC T.x_InvalidHurt.tI G_InvalidHurt_init (hr.mono (by decide)) b_InvalidHurt_init (by decide) rfl rfl T.g_InvalidHurt (pa_cons (pv 0) pa_nil)) (pa_cons (pe_x exb_value T.x_InvalidScan.g T.x_InvalidScan.iC T.x_InvalidScan.tI G_InvalidScan_init (hr.mono (by decide)) b_InvalidScan_init (by decide) rfl rfl T.g_InvalidScan (pa_cons (pv 0) pa_nil)) (pa_cons (pe_x exb_value T.x_InvalidCommand.g T.x_InvalidCommand.iC T.x_InvalidCommand.tI G_InvalidCommand_init (hr.mono (by decide)) b_InvalidCommand_init (by decide) rfl rfl T.g_InvalidCommand (pa_cons (pv 0) pa_nil)) pa_nil))) (by rfl)) (pss_cons (ps_set (i := 3) sc_Lones.nd rfl (by first | exact Or.inl rfl | exact Or.inr rfl) (pe_op o_add (pv 3) (pe_lst (pa_cons (pe_tup (pa_cons (pv 4) (pa_cons (pe_xv (pv 4)) pa_nil))) (pa_cons (pe_tup (pa_cons (pv 5) (pa_cons (pe_xv (pv 5)) pa_nil))) (pa_cons (pe_tup (pa_cons (pv 6) (pa_cons (pe_xv (pv 6)) pa_nil))) pa_nil)))))) (pss_cons (ps_par3 (i := 7) (j := 8) (l := 9) rfl sc_Lones.nd rfl rfl rfl (by decide) (by decide) (by decide) rfl rfl rfl (pa_cons (pe_x exb_lookup T.x_NoLeg.g T.x_NoLeg.iC T.x_NoLeg.tI G_NoLeg_init (hr.mono (by decide)) b_NoLeg_init (by decide) rfl rfl T.g_NoLeg (pa_cons (pv 0) pa_nil)) (pa_cons (pe_x exb_lookup T.x_NoWord.g T.x_NoWord.iC T.x_NoWord.tI G_NoWord_init (hr.mono (by decide)) b_NoWord_init (by decide) rfl rfl T.g_NoWord (pa_cons (pv 0) pa_nil)) (pa_cons (pe_x exb_over T.x_TooMany.g T.x_TooMany.iC T.x_TooMany.tI G_TooMany_init (hr.mono (by decide)) b_TooMany_init (by decide) rfl rfl T.g_TooMany (pa_cons (pv 0) pa_nil)) pa_nil))) (by rfl)) (pss_one (ps_ret (pe_op o_add (pv 3) (pe_lst (pa_cons (pe_tup (pa_cons (pv 7) (pa_cons (pe_xv (pv 7)) pa_nil))) (pa_cons (pe_tup (pa_cons (pv 8) (pa_cons (pe_xv (pv 8)) pa_nil))) (pa_cons (pe_tup (pa_cons (pv 9) (pa_cons (pe_xv (pv 9)) pa_nil))) pa_nil))))))))))))))
theorem ok_Ltwos {fd : FuncData} (T : Tx K mg) (F : Fn_Ltwos K fd) (hP : P = PySem.Challenge.pw_strayjoins_k01_errors_and_numbers) : Fk P w K mg base 3 (a_Ltwos K) fd ["_law_thing", "_law_other"] (sp_Ltwos K) := by
  obtain ⟨fd_InvalidText_init, G_InvalidText_init, b_InvalidText_init, kb_InvalidText_init_word_line⟩ := ok_InvalidText_init (P := P) (w := w) (base := base) T hP
  obtain ⟨fd_NoBoard_init, G_NoBoard_init, b_NoBoard_init, kb_NoBoard_init_name_index⟩ := ok_NoBoard_init (P := P) (w := w) (base := base) T hP
  obtain ⟨fd_InvalidAnswer_init, G_InvalidAnswer_init, b_InvalidAnswer_init, kb_InvalidAnswer_init_name_index⟩ := ok_InvalidAnswer_init (P := P) (w := w) (base := base) T hP
  refine fk_of F sc_Ltwos (fun vs H Q E h => len_Ltwos h) (fun cdv A outer s H vs Q E hr h => ⟨t_Ltwos K, ?_, pure_Ltwos T h⟩)
  exact (pss_cons (ps_par3 (i := 2) (j := 3) (l := 4) rfl sc_Ltwos.nd rfl rfl rfl (by decide) (by decide) (by decide) rfl rfl rfl (pa_cons (pe_x exb_value T.x_InvalidAnswer.g T.x_InvalidAnswer.iC T.x_InvalidAnswer.tI G_InvalidAnswer_init (hr.mono (by decide)) b_InvalidAnswer_init (by decide) rfl rfl T.g_InvalidAnswer (pa_cons (pv 0) (pa_cons (pv 1) pa_nil))) (pa_cons (pe_x exb_value T.x_NoBoard.g T.x_NoBoard.iC T.x_NoBoard.tI G_NoBoard_init (hr.mono (by decide)) b_NoBoard_init (by decide) rfl rfl T.g_NoBoard (pa_cons (pv 0) (pa_cons (pv 1) pa_nil))) (pa_cons (pe_x exb_value T.x_InvalidText.g T.x_InvalidText.iC T.x_InvalidText.tI G_InvalidText_init (hr.mono (by decide)) b_InvalidText_init (by decide) rfl rfl T.g_InvalidText (pa_cons (pv 0) (pa_cons (pv 1) pa_nil))) pa_nil))) (by rfl)) (pss_cons (ps_set (i := 5) sc_Ltwos.nd rfl (by first | exact Or.inl rfl | exact Or.inr rfl) (pe_lst (pa_cons (pe_tup (pa_cons (pv 2) (pa_cons (pe_tup (pa_cons (pe_xv (pv 2)) (pa_cons (pe_xv (pv 2)) pa_nil))) pa_nil))) (pa_cons (pe_tup (pa_cons (pv 3) (pa_cons (pe_tup (pa_cons (pe_xv (pv 3)) (pa_cons (pe_xv (pv 3)) pa_nil))) pa_nil))) pa_nil)))) (pss_one (ps_ret (pe_op o_add (pv 5) (pe_lst (pa_cons (pe_tup (pa_cons (pv 4) (pa_cons (pe_tup (pa_cons (pe_xv (pv 4)) (pa_cons (pe_xv (pv 4)) pa_nil))) pa_nil))) pa_nil)))))))
theorem ok_Lkinds {fd : FuncData} (T : Tx K mg) (F : Fn_Lkinds K fd) : Fk P w K mg base 1 (a_Lkinds K) fd ["_law_error"] (sp_Lkinds K) := by
  refine fk_of F sc_Lkinds (fun vs H Q E h => len_Lkinds h) (fun cdv A outer s H vs Q E hr h => ⟨t_Lkinds K, ?_, pure_Lkinds T h⟩)
  exact (pss_cons (ps_set (i := 1) sc_Lkinds.nd rfl (by first | exact Or.inl rfl | exact Or.inr rfl) (pe_lst (pa_cons (pe_callB c_isiU rfl T.f_isinstance (by decide +kernel) (pa_cons (pv 0) (pa_cons (pe_glob rfl T.g_InvalidFrame rfl) pa_nil))) (pa_cons (pe_callB c_isiU rfl T.f_isinstance (by decide +kernel) (pa_cons (pv 0) (pa_cons (pe_glob rfl T.g_InvalidWord rfl) pa_nil))) (pa_cons (pe_callB c_isiU rfl T.f_isinstance (by decide +kernel) (pa_cons (pv 0) (pa_cons (pe_glob rfl T.g_InvalidBoard rfl) pa_nil))) pa_nil))))) (pss_cons (ps_set (i := 1) sc_Lkinds.nd rfl (by first | exact Or.inl rfl | exact Or.inr rfl) (pe_op o_add (pv 1) (pe_lst (pa_cons (pe_callB c_isiU rfl T.f_isinstance (by decide +kernel) (pa_cons (pv 0) (pa_cons (pe_glob rfl T.g_InvalidChain rfl) pa_nil))) (pa_cons (pe_callB c_isiU rfl T.f_isinstance (by decide +kernel) (pa_cons (pv 0) (pa_cons (pe_glob rfl T.g_InvalidHurt rfl) pa_nil))) pa_nil))))) (pss_cons (ps_set (i := 1) sc_Lkinds.nd rfl (by first | exact Or.inl rfl | exact Or.inr rfl) (pe_op o_add (pv 1) (pe_lst (pa_cons (pe_callB c_isiU rfl T.f_isinstance (by decide +kernel) (pa_cons (pv 0) (pa_cons (pe_glob rfl T.g_InvalidScan rfl) pa_nil))) (pa_cons (pe_callB c_isiU rfl T.f_isinstance (by decide +kernel) (pa_cons (pv 0) (pa_cons (pe_glob rfl T.g_InvalidCommand rfl) pa_nil))) pa_nil))))) (pss_cons (ps_set (i := 1) sc_Lkinds.nd rfl (by first | exact Or.inl rfl | exact Or.inr rfl) (pe_op o_add (pv 1) (pe_lst (pa_cons (pe_callB c_isiU rfl T.f_isinstance (by decide +kernel) (pa_cons (pv 0) (pa_cons (pe_glob rfl T.g_NoLeg rfl) pa_nil))) (pa_cons (pe_callB c_isiU rfl T.f_isinstance (by decide +kernel) (pa_cons (pv 0) (pa_cons (pe_glob rfl T.g_NoWord rfl) pa_nil))) (pa_cons (pe_callB c_isiU rfl T.f_isinstance (by decide +kernel) (pa_cons (pv 0) (pa_cons (pe_glob rfl T.g_TooMany rfl) pa_nil))) pa_nil)))))) (pss_cons (ps_set (i := 1) sc_Lkinds.nd rfl (by first | exact Or.inl rfl | exact Or.inr rfl) (pe_op o_add (pv 1) (pe_lst (pa_cons (pe_callB c_isiU rfl T.f_isinstance (by decide +kernel) (pa_cons (pv 0) (pa_cons (pe_glob rfl T.g_InvalidAnswer rfl) pa_nil))) (pa_cons (pe_callB c_isiU rfl T.f_isinstance (by decide +kernel) (pa_cons (pv 0) (pa_cons (pe_glob rfl T.g_NoBoard rfl) pa_nil))) (pa_cons (pe_callB c_isiU rfl T.f_isinstance (by decide +kernel) (pa_cons (pv 0) (pa_cons (pe_glob rfl T.g_InvalidText rfl) pa_nil))) pa_nil)))))) (pss_one (ps_ret (pe_op o_add (pv 1) (pe_lst (pa_cons (pe_callB c_isiU rfl T.f_isinstance (by decide +kernel) (pa_cons (pv 0) (pa_cons (pe_glob rfl T.g_Settled rfl) pa_nil))) (pa_cons (pe_callB c_isiU rfl T.f_isinstance (by decide +kernel) (pa_cons (pv 0) (pa_cons (pe_glob rfl T.g_NothingToUndo rfl) pa_nil))) pa_nil)))))))))))
theorem ok_Lbases {fd : FuncData} (T : Tx K mg) (F : Fn_Lbases K fd) : Fk P w K mg base 1 (a_Lbases K) fd ["_law_error"] (sp_Lbases K) := by
  refine fk_of F sc_Lbases (fun vs H Q E h => len_Lbases h) (fun cdv A outer s H vs Q E hr h => ⟨t_Lbases K, ?_, pure_Lbases T h⟩)
  exact (pss_cons (ps_set (i := 1) sc_Lbases.nd rfl (by first | exact Or.inl rfl | exact Or.inr rfl) (pe_lst (pa_cons (pe_callB c_isiU rfl T.f_isinstance (by decide +kernel) (pa_cons (pv 0) (pa_cons (pe_glob rfl T.g_JoinError rfl) pa_nil))) (pa_cons (pe_callB c_isiU rfl T.f_isinstance (by decide +kernel) (pa_cons (pv 0) (pa_cons (pe_bltn (v := .ty "ValueError") rfl T.f_ValueError (by decide +kernel) rfl) pa_nil))) (pa_cons (pe_callB c_isiU rfl T.f_isinstance (by decide +kernel) (pa_cons (pv 0) (pa_cons (pe_glob rfl T.g_MissingError rfl) pa_nil))) pa_nil))))) (pss_cons (ps_set (i := 1) sc_Lbases.nd rfl (by first | exact Or.inl rfl | exact Or.inr rfl) (pe_op o_add (pv 1) (pe_lst (pa_cons (pe_callB c_isiU rfl T.f_isinstance (by decide +kernel) (pa_cons (pv 0) (pa_cons (pe_bltn (v := .ty "LookupError") rfl T.f_LookupError (by decide +kernel) rfl) pa_nil))) (pa_cons (pe_callB c_isiU rfl T.f_isinstance (by decide +kernel) (pa_cons (pv 0) (pa_cons (pe_bltn (v := .ty "OverflowError") rfl T.f_OverflowError (by decide +kernel) rfl) pa_nil))) pa_nil))))) (pss_one (ps_ret (pe_op o_add (pv 1) (pe_lst (pa_cons (pe_callB c_isiU rfl T.f_isinstance (by decide +kernel) (pa_cons (pv 0) (pa_cons (pe_bltn (v := .ty "KeyError") rfl T.f_KeyError (by decide +kernel) rfl) pa_nil))) (pa_cons (pe_callB c_isiU rfl T.f_isinstance (by decide +kernel) (pa_cons (pv 0) (pa_cons (pe_bltn (v := .ty "IndexError") rfl T.f_IndexError (by decide +kernel) rfl) pa_nil))) pa_nil))))))))
theorem ok_Lnamed_right {fd : FuncData} (T : Tx K mg) (F : Fn_Lnamed_right K fd) (hP : P = PySem.Challenge.pw_strayjoins_k01_errors_and_numbers) : Fk P w K mg base 3 (a_Lnamed_right K) fd ["_law_thing", "_law_other"] (sp_Lnamed_right K) := by
  obtain ⟨fd_InvalidText_init, G_InvalidText_init, b_InvalidText_init, kb_InvalidText_init_word_line⟩ := ok_InvalidText_init (P := P) (w := w) (base := base) T hP
  obtain ⟨fd_NoBoard_init, G_NoBoard_init, b_NoBoard_init, kb_NoBoard_init_name_index⟩ := ok_NoBoard_init (P := P) (w := w) (base := base) T hP
  obtain ⟨fd_InvalidAnswer_init, G_InvalidAnswer_init, b_InvalidAnswer_init, kb_InvalidAnswer_init_name_index⟩ := ok_InvalidAnswer_init (P := P) (w := w) (base := base) T hP
  obtain ⟨fd_TooMany_init, G_TooMany_init, b_TooMany_init, kb_TooMany_init_most⟩ := ok_TooMany_init (P := P) (w := w) (base := base) T hP
  obtain ⟨fd_NoWord_init, G_NoWord_init, b_NoWord_init, kb_NoWord_init_index⟩ := ok_NoWord_init (P := P) (w := w) (base := base) T hP
  obtain ⟨fd_NoLeg_init, G_NoLeg_init, b_NoLeg_init, kb_NoLeg_init_name⟩ := ok_NoLeg_init (P := P) (w := w) (base := base) T hP
  obtain ⟨fd_InvalidCommand_init, G_InvalidCommand_init, b_InvalidCommand_init, kb_InvalidCommand_init_word⟩ := ok_InvalidCommand_init (P := P) (w := w) (base := base) T hP
  obtain ⟨fd_InvalidScan_init, G_InvalidScan_init, b_InvalidScan_init, kb_InvalidScan_init_index⟩ := ok_InvalidScan_init (P := P) (w := w) (base := base) T hP
  obtain ⟨fd_InvalidHurt_init, G_InvalidHurt_init, b_InvalidHurt_init, kb_InvalidHurt_init_reason⟩ := ok_InvalidHurt_init (P := P) (w := w) (base := base) T hP
  obtain ⟨fd_InvalidChain_init, G_InvalidChain_init, b_InvalidChain_init, kb_InvalidChain_init_reason⟩ := ok_InvalidChain_init (P := P) (w := w) (base := base) T hP
  obtain ⟨fd_InvalidBoard_init, G_InvalidBoard_init, b_InvalidBoard_init, kb_InvalidBoard_init_reason⟩ := ok_InvalidBoard_init (P := P) (w := w) (base := base) T hP
  obtain ⟨fd_InvalidWord_init, G_InvalidWord_init, b_InvalidWord_init, kb_InvalidWord_init_name⟩ := ok_InvalidWord_init (P := P) (w := w) (base := base) T hP
  obtain ⟨fd_InvalidFrame_init, G_InvalidFrame_init, b_InvalidFrame_init, kb_InvalidFrame_init_reason⟩ := ok_InvalidFrame_init (P := P) (w := w) (base := base) T hP
  refine fk_of F sc_Lnamed_right (fun vs H Q E h => len_Lnamed_right h) (fun cdv A outer s H vs Q E hr h => ⟨t_Lnamed_right K, ?_, pure_Lnamed_right T h⟩)
  exact (pss_cons (ps_set (i := 2) sc_Lnamed_right.nd rfl (by first | exact Or.inl rfl | exact Or.inr rfl) (pe_lst (pa_cons (pe_xv (pe_xK exb_value T.x_InvalidFrame.g T.x_InvalidFrame.iC T.x_InvalidFrame.tI G_InvalidFrame_init (hr.mono (by decide)) kb_InvalidFrame_init_reason rfl T.g_InvalidFrame (pk_cons (pv 0) pk_nil))) (pa_cons (pe_xv (pe_xK exb_value T.x_InvalidWord.g T.x_InvalidWord.iC T.x_InvalidWord.tI G_InvalidWord_init (hr.mono (by decide)) kb_InvalidWord_init_name rfl T.g_InvalidWord (pk_cons (pv 0) pk_nil))) (pa_cons (pe_xv (pe_xK exb_value T.x_InvalidBoard.g T.x_InvalidBoard.iC T.x_InvalidBoard.tI G_InvalidBoard_init (hr.mono (by decide)) kb_InvalidBoard_init_reason rfl T.g_InvalidBoard (pk_cons (pv 0) pk_nil))) pa_nil))))) (pss_cons (ps_set (i := 2) sc_Lnamed_right.nd rfl (by first | exact Or.inl rfl | exact Or.inr rfl) (pe_op o_add (pv 2) (pe_lst (pa_cons (pe_xv (pe_xK exb_value T.x_InvalidChain.g T.x_InvalidChain.iC T.x_InvalidChain.tI G_InvalidChain_init (hr.mono (by decide)) kb_InvalidChain_init_reason rfl T.g_InvalidChain (pk_cons (pv 0) pk_nil))) (pa_cons (pe_xv (pe_xK exb_value T.x_InvalidHurt.g T.x_InvalidHurt.iC T.x_InvalidHurt.tI G_InvalidHurt_init (hr.mono (by decide)) kb_InvalidHurt_init_reason rfl T.g_InvalidHurt (pk_cons (pv 0) pk_nil))) pa_nil))))) (pss_cons (ps_set (i := 2) sc_Lnamed_right.nd rfl (by first | exact Or.inl rfl | exact Or.inr rfl) (pe_op o_add (pv 2) (pe_lst (pa_cons (pe_xv (pe_xK exb_value T.x_InvalidScan.g T.x_InvalidScan.iC T.x_InvalidScan.tI G_InvalidScan_init (hr.mono (by decide)) kb_InvalidScan_init_index rfl T.g_InvalidScan (pk_cons (pv 0) pk_nil))) (pa_cons (pe_xv (pe_xK exb_value T.x_InvalidCommand.g T.x_InvalidCommand.iC T.x_InvalidCommand.tI G_InvalidCommand_init (hr.mono (by decide)) kb_InvalidCommand_init_word rfl T.g_InvalidCommand (pk_cons (pv 0) pk_nil))) (pa_cons (pe_xv (pe_xK exb_lookup T.x_NoLeg.g T.x_NoLeg.iC T.x_NoLeg.tI G_NoLeg_init (hr.mono (by decide)) kb_NoLeg_init_name rfl T.g_NoLeg (pk_cons (pv 0) pk_nil))) pa_nil)))))) (pss_cons (ps_set (i := 2) sc_Lnamed_right.nd rfl (by first | exact Or.inl rfl | exact Or.inr rfl) (pe_op o_add (pv 2) (pe_lst (pa_cons (pe_xv (pe_xK exb_lookup T.x_NoWord.g T.x_NoWord.iC T.x_NoWord.tI G_NoWord_init (hr.mono (by decide)) kb_NoWord_init_index rfl T.g_NoWord (pk_cons (pv 0) pk_nil))) (pa_cons (pe_xv (pe_xK exb_over T.x_TooMany.g T.x_TooMany.iC T.x_TooMany.tI G_TooMany_init (hr.mono (by decide)) kb_TooMany_init_most rfl T.g_TooMany (pk_cons (pv 0) pk_nil))) pa_nil))))) (pss_cons (ps_par (i := 3) (j := 4) rfl sc_Lnamed_right.nd rfl rfl (by decide) rfl rfl (pa_cons (pe_xK exb_value T.x_InvalidAnswer.g T.x_InvalidAnswer.iC T.x_InvalidAnswer.tI G_InvalidAnswer_init (hr.mono (by decide)) kb_InvalidAnswer_init_name_index rfl T.g_InvalidAnswer (pk_cons (pv 1) (pk_cons (pv 0) pk_nil))) (pa_cons (pe_xK exb_value T.x_NoBoard.g T.x_NoBoard.iC T.x_NoBoard.tI G_NoBoard_init (hr.mono (by decide)) kb_NoBoard_init_name_index rfl T.g_NoBoard (pk_cons (pv 1) (pk_cons (pv 0) pk_nil))) pa_nil)) (by rfl)) (pss_cons (ps_set (i := 5) sc_Lnamed_right.nd rfl (by first | exact Or.inl rfl | exact Or.inr rfl) (pe_xK exb_value T.x_InvalidText.g T.x_InvalidText.iC T.x_InvalidText.tI G_InvalidText_init (hr.mono (by decide)) kb_InvalidText_init_word_line rfl T.g_InvalidText (pk_cons (pv 1) (pk_cons (pv 0) pk_nil)))) (pss_cons (ps_set (i := 6) sc_Lnamed_right.nd rfl (by first | exact Or.inl rfl | exact Or.inr rfl) (pe_lst (pa_cons (pe_xv (pv 3)) (pa_cons (pe_xv (pv 3)) (pa_cons (pe_xv (pv 4)) (pa_cons (pe_xv (pv 4)) (pa_cons (pe_xv (pv 5)) (pa_cons (pe_xv (pv 5)) pa_nil)))))))) (pss_one (ps_ret (pe_cmpR (o_eq hr.units) (pe_callB (c_reprU T.sys hr) rfl T.f_repr (by decide +kernel) (pa_cons (pe_op o_add (pv 2) (pv 6)) pa_nil)) (pe_callB (c_reprU T.sys hr) rfl T.f_repr (by decide +kernel) (pa_cons (pe_op o_add (pe_op o_mul (pe_lst (pa_cons (pv 0) pa_nil)) pe_int) (pe_op o_mul (pe_lst (pa_cons (pv 0) (pa_cons (pv 1) pa_nil))) pe_int)) pa_nil)) (nomark _)))))))))))
theorem ok_Lerrors_right {fd : FuncData} (T : Tx K mg) (F : Fn_Lerrors_right K fd) (hP : P = PySem.Challenge.pw_strayjoins_k01_errors_and_numbers) : Fk P w K mg base 4 (a_Lerrors_right K) fd ["_law_pen_here"] (sp_Lerrors_right K) := by
  obtain ⟨fd_Lbases, F_Lbases⟩ := T.d_Lbases
  have G_Lbases := ok_Lbases (P := P) (w := w) (base := base) T F_Lbases
  have b_Lbases := F_Lbases.bindsN (ps := ["_law_error"]) fun _ _ _ _ _ _ us hl => match us, hl with | [_], _ => rfl
  obtain ⟨fd_Lkinds, F_Lkinds⟩ := T.d_Lkinds
  have G_Lkinds := ok_Lkinds (P := P) (w := w) (base := base) T F_Lkinds
  have b_Lkinds := F_Lkinds.bindsN (ps := ["_law_error"]) fun _ _ _ _ _ _ us hl => match us, hl with | [_], _ => rfl
  obtain ⟨fd_Lnamed_right, F_Lnamed_right⟩ := T.d_Lnamed_right
  have G_Lnamed_right := ok_Lnamed_right (P := P) (w := w) (base := base) T F_Lnamed_right hP
  have b_Lnamed_right := F_Lnamed_right.bindsN (ps := ["_law_thing", "_law_other"]) fun _ _ _ _ _ _ us hl => match us, hl with | [_, _], _ => rfl
  obtain ⟨fd_Lones, F_Lones⟩ := T.d_Lones
  have G_Lones := ok_Lones (P := P) (w := w) (base := base) T F_Lones hP
  have b_Lones := F_Lones.bindsN (ps := ["_law_thing"]) fun _ _ _ _ _ _ us hl => match us, hl with | [_], _ => rfl
  obtain ⟨fd_Ltwos, F_Ltwos⟩ := T.d_Ltwos
  have G_Ltwos := ok_Ltwos (P := P) (w := w) (base := base) T F_Ltwos hP
  have b_Ltwos := F_Ltwos.bindsN (ps := ["_law_thing", "_law_other"]) fun _ _ _ _ _ _ us hl => match us, hl with | [_, _], _ => rfl
  obtain ⟨fd_Lpick, F_Lpick⟩ := T.d_Lpick
  have G_Lpick := ok_Lpick (P := P) (w := w) (base := base) T F_Lpick
  have b_Lpick := F_Lpick.bindsN (ps := ["_law_pen_here", "_law_some"]) fun _ _ _ _ _ _ us hl => match us, hl with | [_, _], _ => rfl
  refine fk_of F sc_Lerrors_right (fun vs H Q E h => len_Lerrors_right h) (fun cdv A outer s H vs Q E hr h => ⟨t_Lerrors_right K, ?_, pure_Lerrors_right T h⟩)
  exact (pss_cons (ps_set (i := 1) sc_Lerrors_right.nd rfl (by first | exact Or.inl rfl | exact Or.inr rfl) (pe_lst (pa_cons pe_non (pa_cons pe_int (pa_cons pe_bl (pa_cons pe_str (pa_cons (pe_tup (pa_cons pe_int pa_nil)) (pa_cons (pe_lst (pa_cons pe_int pa_nil)) (pa_cons pe_dnewK (pa_cons (pe_op o_sub (pe_op o_pow pe_int pe_int) pe_int) (pa_cons (pe_un un_neg pe_int) (pa_cons pe_str pa_nil)))))))))))) (pss_cons (ps_par (i := 2) (j := 3) rfl sc_Lerrors_right.nd rfl rfl (by decide) rfl rfl (pa_cons (pe_fn G_Lpick (hr.mono (by decide)) rfl T.g_Lpick F_Lpick.kp b_Lpick .nil takes0 (pa_cons (pv 0) (pa_cons (pv 1) pa_nil))) (pa_cons (pe_fn G_Lpick (hr.mono (by decide)) rfl T.g_Lpick F_Lpick.kp b_Lpick .nil takes0 (pa_cons (pv 0) (pa_cons (pv 1) pa_nil))) pa_nil)) (by rfl)) (pss_cons (ps_set (i := 4) sc_Lerrors_right.nd rfl (by first | exact Or.inl rfl | exact Or.inr rfl) (pe_op o_add (pe_op o_add (pe_fn G_Lones (hr.mono (by decide)) rfl T.g_Lones F_Lones.kp b_Lones .nil takes0 (pa_cons (pv 2) pa_nil)) (pe_fn G_Ltwos (hr.mono (by decide)) rfl T.g_Ltwos F_Ltwos.kp b_Ltwos .nil takes0 (pa_cons (pv 2) (pa_cons (pv 3) pa_nil)))) (pe_lst (pa_cons (pe_tup (pa_cons (pe_x0 exb_value.fb T.xn_Settled.q T.xn_Settled.kC rfl T.g_Settled) (pa_cons (pv 2) pa_nil))) (pa_cons (pe_tup (pa_cons (pe_x0 exb_value.fb T.xn_NothingToUndo.q T.xn_NothingToUndo.kC rfl T.g_NothingToUndo) (pa_cons (pv 2) pa_nil))) pa_nil))))) (pss_cons (ps_if (pt_not (pt_val (pe_fn G_Lnamed_right (hr.mono (by decide)) rfl T.g_Lnamed_right F_Lnamed_right.kp b_Lnamed_right .nil takes0 (pa_cons (pv 2) (pa_cons (pv 3) pa_nil))))) (pss_one (ps_ret pe_bl)) pss_nil) (pss_cons (ps_for (passes_of rfl) rfl (pi_enum rfl T.f_enumerate (pa_cons (pv 4) pa_nil)) (pg_tup rfl (pgs_cons (pg_name (i := 5) sc_Lerrors_right.nd rfl (by first | exact Or.inl rfl | exact Or.inr rfl)) (pgs_cons (pg_tup rfl (pgs_cons (pg_name (i := 6) sc_Lerrors_right.nd rfl (by first | exact Or.inl rfl | exact Or.inr rfl)) (pgs_cons (pg_name (i := 7) sc_Lerrors_right.nd rfl (by first | exact Or.inl rfl | exact Or.inr rfl)) pgs_nil))) pgs_nil))) (pss_cons (ps_if (pt_cmpR (o_ne hr.units) (pe_callB (c_reprU T.sys hr) rfl T.f_repr (by decide +kernel) (pa_cons (pv 7) pa_nil)) (pe_callB (c_reprU T.sys hr) rfl T.f_repr (by decide +kernel) (pa_cons (pe_ifExp (pt_chain o_le o_lt pe_int (pv 5) pe_int) (pe_tup (pa_cons (pv 2) (pa_cons (pv 3) pa_nil))) (pv 2)) pa_nil)) (nomark _)) (pss_one (ps_ret pe_bl)) pss_nil) (pss_cons (ps_if (pt_cmpR (o_ne hr.units) (pe_fn G_Lkinds (hr.mono (by decide)) rfl T.g_Lkinds F_Lkinds.kp b_Lkinds .nil takes0 (pa_cons (pv 6) pa_nil)) (pe_lc (own := [("_law_k", 8)]) rfl sc_Lerrors_right.nd (pi_range1 rfl T.f_range (pa_cons pe_int pa_nil)) (blkOk_by (own := [("_law_k", 8)]) (N := ["_law_pen_here", "_law_some", "_law_thing", "_law_other", "_law_rows", "_law_at", "_law_error", "_law_kept", "_law_k", "_law_above"]) (sc := defScope s_Lerrors_right) (by decide +kernel)) (fun _ _ _ _ _ => (pg_name (i := 8) sc_Lerrors_right.nd rfl (by first | exact Or.inl rfl | exact Or.inr rfl))) (fun _ _ _ _ _ => pts_nil) (fun _ _ _ _ _ => (pe_cmpR (o_eq hr.units) (pv 8) (pv 5) (nomark _)))) (nomark _)) (pss_one (ps_ret pe_bl)) pss_nil) (pss_cons (ps_set (i := 9) sc_Lerrors_right.nd rfl (by first | exact Or.inl rfl | exact Or.inr rfl) (pe_lst (pa_cons (pe_or (pe_cmpR o_gt pe_int (pv 5) (nomark _)) (pe_one (pe_cmpR o_gt (pv 5) pe_int (nomark _)))) (pa_cons (pe_or (pe_cmpR o_lt (pv 5) pe_int (nomark _)) (pe_one (pe_cmpR o_gt (pv 5) pe_int (nomark _)))) (pa_cons (pe_cmpR o_in (pv 5) (pe_tup (pa_cons pe_int (pa_cons pe_int pa_nil))) rfl) (pa_cons (pe_cmpR o_in (pv 5) (pe_tup (pa_cons pe_int (pa_cons pe_int pa_nil))) rfl) (pa_cons (pe_cmpR (o_eq hr.units) (pv 5) pe_int (nomark _)) pa_nil))))))) (pss_one (ps_if (pt_cmpR (o_ne hr.units) (pe_fn G_Lbases (hr.mono (by decide)) rfl T.g_Lbases F_Lbases.kp b_Lbases .nil takes0 (pa_cons (pv 6) pa_nil)) (pe_op o_add (pv 9) (pe_lst (pa_cons pe_bl (pa_cons pe_bl pa_nil)))) (nomark _)) (pss_one (ps_ret pe_bl)) pss_nil)))))) (pss_one (ps_ret pe_bl)))))))
theorem ok_Lpower {fd : FuncData} (T : Tx K mg) (F : Fn_Lpower K fd) : Fk P w K mg base 1 (a_Lpower K) fd ["_law_factor", "_law_often"] (sp_Lpower K) := by
  refine fk_of F sc_Lpower (fun vs H Q E h => len_Lpower h) (fun cdv A outer s H vs Q E hr h => ⟨t_Lpower K, ?_, pure_Lpower T h⟩)
  exact (pss_cons (ps_set (i := 2) sc_Lpower.nd rfl (by first | exact Or.inl rfl | exact Or.inr rfl) pe_int) (pss_cons (ps_for (passes_of rfl) rfl (pi_range1 rfl T.f_range (pa_cons (pv 1) pa_nil)) (pg_name (i := 3) sc_Lpower.nd rfl (by first | exact Or.inl rfl | exact Or.inr rfl)) (pss_one (ps_set (i := 2) sc_Lpower.nd rfl (by first | exact Or.inl rfl | exact Or.inr rfl) (pe_op o_mul (pv 2) (pv 0))))) (pss_one (ps_ret (pv 2)))))
theorem ok_Lnumbers_right {fd : FuncData} (T : Tx K mg) (F : Fn_Lnumbers_right K fd) : Fk P w K mg base 3 (a_Lnumbers_right K) fd ["_law_pen_here"] (sp_Lnumbers_right K) := by
  obtain ⟨fd_Lpower, F_Lpower⟩ := T.d_Lpower
  have G_Lpower := ok_Lpower (P := P) (w := w) (base := base) T F_Lpower
  have b_Lpower := F_Lpower.bindsN (ps := ["_law_factor", "_law_often"]) fun _ _ _ _ _ _ us hl => match us, hl with | [_, _], _ => rfl
  obtain ⟨fd_least_power, F_least_power⟩ := T.d_least_power
  have G_least_power := ok_least_power (P := P) (w := w) (base := base) T F_least_power
  have b_least_power := F_least_power.bindsN (ps := ["base", "number"]) fun _ _ _ _ _ _ us hl => match us, hl with | [_, _], _ => rfl
  obtain ⟨fd_up, F_up⟩ := T.d_up
  have G_up := ok_up (P := P) (w := w) (base := base) T F_up
  have b_up := F_up.bindsN (ps := ["number", "by"]) fun _ _ _ _ _ _ us hl => match us, hl with | [_, _], _ => rfl
  obtain ⟨fd_Lpick, F_Lpick⟩ := T.d_Lpick
  have G_Lpick := ok_Lpick (P := P) (w := w) (base := base) T F_Lpick
  have b_Lpick := F_Lpick.bindsN (ps := ["_law_pen_here", "_law_some"]) fun _ _ _ _ _ _ us hl => match us, hl with | [_, _], _ => rfl
  obtain ⟨fd_Ldraw, F_Ldraw⟩ := T.d_Ldraw
  have G_Ldraw := ok_Ldraw (P := P) (w := w) (base := base) T F_Ldraw
  have b_Ldraw := F_Ldraw.bindsN (ps := ["_law_pen_here", "_law_many"]) fun _ _ _ _ _ _ us hl => match us, hl with | [_, _], _ => rfl
  refine fk_of F sc_Lnumbers_right (fun vs H Q E h => len_Lnumbers_right h) (fun cdv A outer s H vs Q E hr h => ⟨t_Lnumbers_right K, ?_, pure_Lnumbers_right T h⟩)
  exact (pss_cons (ps_set (i := 1) sc_Lnumbers_right.nd rfl (by first | exact Or.inl rfl | exact Or.inr rfl) (pe_lst (pa_cons pe_int (pa_cons pe_int (pa_cons (pe_fn G_Ldraw (hr.mono (by decide)) rfl T.g_Ldraw F_Ldraw.kp b_Ldraw .nil takes0 (pa_cons (pv 0) (pa_cons pe_int pa_nil))) (pa_cons (pe_fn G_Ldraw (hr.mono (by decide)) rfl T.g_Ldraw F_Ldraw.kp b_Ldraw .nil takes0 (pa_cons (pv 0) (pa_cons (pe_op o_pow pe_int pe_int) pa_nil))) (pa_cons (pe_op o_sub (pe_op o_pow pe_int pe_int) (pe_fn G_Ldraw (hr.mono (by decide)) rfl T.g_Ldraw F_Ldraw.kp b_Ldraw .nil takes0 (pa_cons (pv 0) (pa_cons pe_int pa_nil)))) (pa_cons (pe_op o_sub pe_int (pe_fn G_Ldraw (hr.mono (by decide)) rfl T.g_Ldraw F_Ldraw.kp b_Ldraw .nil takes0 (pa_cons (pv 0) (pa_cons pe_int pa_nil)))) pa_nil)))))))) (pss_cons (ps_set (i := 2) sc_Lnumbers_right.nd rfl (by first | exact Or.inl rfl | exact Or.inr rfl) (pe_fn G_Lpick (hr.mono (by decide)) rfl T.g_Lpick F_Lpick.kp b_Lpick .nil takes0 (pa_cons (pv 0) (pa_cons (pv 1) pa_nil)))) (pss_cons (ps_set (i := 3) sc_Lnumbers_right.nd rfl (by first | exact Or.inl rfl | exact Or.inr rfl) (pe_op o_add pe_int (pe_fn G_Lpick (hr.mono (by decide)) rfl T.g_Lpick F_Lpick.kp b_Lpick .nil takes0 (pa_cons (pv 0) (pa_cons (pe_lst (pa_cons (pe_fn G_Ldraw (hr.mono (by decide)) rfl T.g_Ldraw F_Ldraw.kp b_Ldraw .nil takes0 (pa_cons (pv 0) (pa_cons pe_int pa_nil))) (pa_cons (pe_fn G_Ldraw (hr.mono (by decide)) rfl T.g_Ldraw F_Ldraw.kp b_Ldraw .nil takes0 (pa_cons (pv 0) (pa_cons (pe_op o_pow pe_int pe_int) pa_nil))) pa_nil))) pa_nil))))) (pss_cons (ps_set (i := 4) sc_Lnumbers_right.nd rfl (by first | exact Or.inl rfl | exact Or.inr rfl) (pe_op o_add pe_int (pe_fn G_Lpick (hr.mono (by decide)) rfl T.g_Lpick F_Lpick.kp b_Lpick .nil takes0 (pa_cons (pv 0) (pa_cons (pe_lst (pa_cons (pe_fn G_Ldraw (hr.mono (by decide)) rfl T.g_Ldraw F_Ldraw.kp b_Ldraw .nil takes0 (pa_cons (pv 0) (pa_cons pe_int pa_nil))) (pa_cons (pe_fn G_Ldraw (hr.mono (by decide)) rfl T.g_Ldraw F_Ldraw.kp b_Ldraw .nil takes0 (pa_cons (pv 0) (pa_cons (pe_op o_pow pe_int pe_int) pa_nil))) pa_nil))) pa_nil))))) (pss_cons (ps_par (i := 5) (j := 6) rfl sc_Lnumbers_right.nd rfl rfl (by decide) rfl rfl (pa_cons (pe_fn G_up (hr.mono (by decide)) rfl T.g_up F_up.kp b_up .nil takes0 (pa_cons (pv 2) (pa_cons (pv 3) pa_nil))) (pa_cons (pe_fn G_least_power (hr.mono (by decide)) rfl T.g_least_power F_least_power.kp b_least_power .nil takes0 (pa_cons (pv 4) (pa_cons (pv 2) pa_nil))) pa_nil)) (by rfl)) (pss_cons (ps_if (PW.pt (pw_or (pt_cmpR (o_ne hr.units) (pe_callB (c_reprU T.sys hr) rfl T.f_repr (by decide +kernel) (pa_cons (pe_callTy c_int rfl T.f_int (by decide +kernel) (pa_cons (pv 5) pa_nil)) pa_nil)) (pe_callB (c_reprU T.sys hr) rfl T.f_repr (by decide +kernel) (pa_cons (pv 5) pa_nil)) (nomark _)) (pw_or1 (pt_not (pt_chain o_lt o_le (pe_op o_mul (pv 3) (pe_op o_sub (pv 5) pe_int)) (pv 2) (pe_op o_mul (pv 3) (pv 5))))))) (pss_one (ps_ret pe_bl)) pss_nil) (pss_cons (ps_if (PW.pt (pw_or (pt_cmpR (o_ne hr.units) (pe_fnK0 G_up (hr.mono (by decide)) rfl T.g_up F_up.kp (kb_up_0_number_by F_up) takes0 (pk_cons (pv 2) (pk_cons (pv 3) pk_nil))) (pv 5) (nomark _)) (pw_or1 (pt_cmpR (o_ne hr.units) (pe_fnK0 G_least_power (hr.mono (by decide)) rfl T.g_least_power F_least_power.kp (kb_least_power_0_base_number F_least_power) takes0 (pk_cons (pv 4) (pk_cons (pv 2) pk_nil))) (pv 6) (nomark _))))) (pss_one (ps_ret pe_bl)) pss_nil) (pss_one (ps_ret (pe_and (pe_cmpR o_ge (pe_fn G_Lpower (hr.mono (by decide)) rfl T.g_Lpower F_Lpower.kp b_Lpower .nil takes0 (pa_cons (pv 4) (pa_cons (pv 6) pa_nil))) (pv 2) (nomark _)) (pe_one (pe_or (pe_cmpR (o_eq hr.units) (pv 6) pe_int (nomark _)) (pe_one (pe_cmpR o_lt (pe_fn G_Lpower (hr.mono (by decide)) rfl T.g_Lpower F_Lpower.kp b_Lpower .nil takes0 (pa_cons (pv 4) (pa_cons (pe_op o_sub (pv 6) pe_int) pa_nil))) (pv 2) (nomark _)))))))))))))))
theorem ok_law {fd : FuncData} (T : Tx K mg) (F : Fn_law K fd) (hP : P = PySem.Challenge.pw_strayjoins_k01_errors_and_numbers) : Fk P w K mg base 5 (a_law K) fd ["_law_script"] (sp_law K) := by
  obtain ⟨fd_is_integer, F_is_integer⟩ := T.d_is_integer
  have G_is_integer := ok_is_integer (P := P) (w := w) (base := base) T F_is_integer
  have b_is_integer := F_is_integer.bindsN (ps := ["value"]) fun _ _ _ _ _ _ us hl => match us, hl with | [_], _ => rfl
  obtain ⟨fd_is_name, F_is_name⟩ := T.d_is_name
  have G_is_name := ok_is_name (P := P) (w := w) (base := base) T F_is_name
  have b_is_name := F_is_name.bindsN (ps := ["value"]) fun _ _ _ _ _ _ us hl => match us, hl with | [_], _ => rfl
  obtain ⟨fd_Lpick, F_Lpick⟩ := T.d_Lpick
  have G_Lpick := ok_Lpick (P := P) (w := w) (base := base) T F_Lpick
  have b_Lpick := F_Lpick.bindsN (ps := ["_law_pen_here", "_law_some"]) fun _ _ _ _ _ _ us hl => match us, hl with | [_, _], _ => rfl
  obtain ⟨fd_Ldraw, F_Ldraw⟩ := T.d_Ldraw
  have G_Ldraw := ok_Ldraw (P := P) (w := w) (base := base) T F_Ldraw
  have b_Ldraw := F_Ldraw.bindsN (ps := ["_law_pen_here", "_law_many"]) fun _ _ _ _ _ _ us hl => match us, hl with | [_, _], _ => rfl
  obtain ⟨fd_Lnumbers_right, F_Lnumbers_right⟩ := T.d_Lnumbers_right
  have G_Lnumbers_right := ok_Lnumbers_right (P := P) (w := w) (base := base) T F_Lnumbers_right
  have b_Lnumbers_right := F_Lnumbers_right.bindsN (ps := ["_law_pen_here"]) fun _ _ _ _ _ _ us hl => match us, hl with | [_], _ => rfl
  obtain ⟨fd_Lerrors_right, F_Lerrors_right⟩ := T.d_Lerrors_right
  have G_Lerrors_right := ok_Lerrors_right (P := P) (w := w) (base := base) T F_Lerrors_right hP
  have b_Lerrors_right := F_Lerrors_right.bindsN (ps := ["_law_pen_here"]) fun _ _ _ _ _ _ us hl => match us, hl with | [_], _ => rfl
  obtain ⟨fd_Lpen, F_Lpen⟩ := T.d_Lpen
  have G_Lpen := ok_Lpen (P := P) (w := w) (base := base) T F_Lpen
  have b_Lpen := F_Lpen.bindsN (ps := ["_law_script"]) fun _ _ _ _ _ _ us hl => match us, hl with | [_], _ => rfl
  refine fk_of F sc_law (fun vs H Q E h => len_law h) (fun cdv A outer s H vs Q E hr h => ⟨t_law K, ?_, pure_law T h⟩)
  exact (pss_cons (ps_set (i := 1) sc_law.nd rfl (by first | exact Or.inl rfl | exact Or.inr rfl) (pe_fn G_Lpen (hr.mono (by decide)) rfl T.g_Lpen F_Lpen.kp b_Lpen .nil takes0 (pa_cons (pv 0) pa_nil))) (pss_cons (ps_for (passes_of rfl) rfl (pi_range1 rfl T.f_range (pa_cons pe_int pa_nil)) (pg_name (i := 2) sc_law.nd rfl (by first | exact Or.inl rfl | exact Or.inr rfl)) (pss_cons (ps_if (PW.pt (pw_or (pt_not (pt_val (pe_fn G_Lerrors_right (hr.mono (by decide)) rfl T.g_Lerrors_right F_Lerrors_right.kp b_Lerrors_right .nil takes0 (pa_cons (pv 1) pa_nil)))) (pw_or1 (pt_not (pt_val (pe_fn G_Lnumbers_right (hr.mono (by decide)) rfl T.g_Lnumbers_right F_Lnumbers_right.kp b_Lnumbers_right .nil takes0 (pa_cons (pv 1) pa_nil))))))) (pss_one (ps_ret pe_bl)) pss_nil) (pss_cons (ps_set (i := 3) sc_law.nd rfl (by first | exact Or.inl rfl | exact Or.inr rfl) (pe_fn G_Lpick (hr.mono (by decide)) rfl T.g_Lpick F_Lpick.kp b_Lpick .nil takes0 (pa_cons (pv 1) (pa_cons (pe_lst (pa_cons pe_int (pa_cons (pe_un un_neg pe_int) (pa_cons (pe_op o_sub (pe_op o_pow pe_int pe_int) pe_int) (pa_cons pe_bl (pa_cons pe_bl (pa_cons pe_non (pa_cons pe_str (pa_cons (pe_tup (pa_cons pe_int pa_nil)) (pa_cons (pe_lst pa_nil) (pa_cons pe_dnewK (pa_cons (pe_fn G_Ldraw (hr.mono (by decide)) rfl T.g_Ldraw F_Ldraw.kp b_Ldraw .nil takes0 (pa_cons (pv 1) (pa_cons pe_int pa_nil))) pa_nil)))))))))))) pa_nil)))) (pss_one (ps_if (pt_cmpR (o_ne hr.units) (pe_callB (c_reprU T.sys hr) rfl T.f_repr (by decide +kernel) (pa_cons (pe_fn G_is_integer (hr.mono (by decide)) rfl T.g_is_integer F_is_integer.kp b_is_integer .nil takes0 (pa_cons (pv 3) pa_nil)) pa_nil)) (pe_callB (c_reprU T.sys hr) rfl T.f_repr (by decide +kernel) (pa_cons (pe_and (pe_callB c_isiU rfl T.f_isinstance (by decide +kernel) (pa_cons (pv 3) (pa_cons (pe_bltn (v := .ty "int") rfl T.f_int (by decide +kernel) rfl) pa_nil))) (pe_one (pe_not (pe_callB c_isiU rfl T.f_isinstance (by decide +kernel) (pa_cons (pv 3) (pa_cons (pe_bltn (v := .ty "bool") rfl T.f_bool (by decide +kernel) rfl) pa_nil)))))) pa_nil)) (nomark _)) (pss_one (ps_ret pe_bl)) pss_nil))))) (pss_cons (ps_set (i := 4) sc_law.nd rfl (by first | exact Or.inl rfl | exact Or.inr rfl) (pe_lst (pa_cons pe_str (pa_cons pe_str (pa_cons pe_str (pa_cons pe_str (pa_cons pe_str (pa_cons pe_str (pa_cons pe_str pa_nil))))))))) (pss_cons (ps_set (i := 5) sc_law.nd rfl (by first | exact Or.inl rfl | exact Or.inr rfl) (pe_lst (pa_cons pe_str (pa_cons pe_str (pa_cons pe_str (pa_cons pe_str (pa_cons pe_str (pa_cons pe_str (pa_cons pe_str (pa_cons pe_str (pa_cons pe_non (pa_cons pe_int (pa_cons (pe_tup (pa_cons pe_str pa_nil)) (pa_cons (pe_lst (pa_cons pe_str pa_nil)) (pa_cons pe_dnewK pa_nil))))))))))))))) (pss_cons (ps_set (i := 5) sc_law.nd rfl (by first | exact Or.inl rfl | exact Or.inr rfl) (pe_op o_add (pv 5) (pe_lst (pa_cons pe_str (pa_cons pe_str (pa_cons pe_str (pa_cons pe_str (pa_cons pe_str (pa_cons pe_str (pa_cons pe_str (pa_cons pe_str (pa_cons pe_str (pa_cons pe_str pa_nil))))))))))))) (pss_cons (ps_if (pt_cmpR (o_ne hr.units) (pe_lc (own := [("_law_one", 6)]) rfl sc_law.nd (pi_list (pe_op o_add (pv 4) (pv 5))) (blkOk_by (own := [("_law_one", 6)]) (N := ["_law_script", "_law_pen_here", "_law_turn", "_law_thing", "_law_right", "_law_wrong", "_law_one"]) (sc := defScope s_law) (by decide +kernel)) (fun _ _ _ _ _ => (pg_name (i := 6) sc_law.nd rfl (by first | exact Or.inl rfl | exact Or.inr rfl))) (fun _ _ _ _ _ => pts_nil) (fun _ _ _ _ _ => (pe_fnK0 G_is_name (hr.mono (by decide)) rfl T.g_is_name F_is_name.kp (kb_is_name_0_value F_is_name) takes0 (pk_cons (pv 6) pk_nil)))) (pe_op o_add (pe_op o_mul (pe_lst (pa_cons pe_bl pa_nil)) (pe_callB c_len rfl T.f_len (by decide +kernel) (pa_cons (pv 4) pa_nil))) (pe_op o_mul (pe_lst (pa_cons pe_bl pa_nil)) (pe_callB c_len rfl T.f_len (by decide +kernel) (pa_cons (pv 5) pa_nil)))) (nomark _)) (pss_one (ps_ret pe_bl)) pss_nil) (pss_one (ps_ret (pe_and (pe_cmpR o_is (pe_fn G_is_name (hr.mono (by decide)) rfl T.g_is_name F_is_name.kp b_is_name .nil takes0 (pa_cons pe_str pa_nil)) pe_bl (nomark _)) (pe_and (pe_cmpR o_is (pe_fnK0 G_is_integer (hr.mono (by decide)) rfl T.g_is_integer F_is_integer.kp (kb_is_integer_0_value F_is_integer) takes0 (pk_cons pe_int pk_nil)) pe_bl (nomark _)) (pe_one (pe_cmpR o_is (pe_fnK0 G_is_integer (hr.mono (by decide)) rfl T.g_is_integer F_is_integer.kp (kb_is_integer_0_value F_is_integer) takes0 (pk_cons pe_bl pk_nil)) pe_bl (nomark _)))))))))))))
end
end K01

namespace K01
open PySem PySem.Spec PyProof.Rows L2 He SJ
def loose0 : List PySem.Str := ["__name__", "LETTERS", "MOST_LETTERS", "GROUND", "POWER", "NOTHING", "is_integer", "is_name", "up", "least_power", "JoinError", "InvalidFrame", "InvalidWord", "InvalidBoard", "InvalidAnswer", "NoBoard"]
def loose1 : List PySem.Str := ["InvalidChain", "InvalidHurt", "InvalidScan", "InvalidText", "InvalidCommand", "Settled", "NothingToUndo", "MissingError", "NoLeg", "NoWord", "TooMany", "_law_pen", "_law_draw", "_law_pick", "_law_ones", "_law_twos"]
def loose2 : List PySem.Str := ["_law_kinds", "_law_bases", "_law_named_right", "_law_errors_right", "_law_power", "_law_numbers_right"]
def loose : List PySem.Str := loose0 ++ loose1 ++ loose2
abbrev R : PySem.W.OpenRow := PySem.W.OpenLaw.row PySem.Challenge.rw_strayjoins_k01_errors_and_numbers
abbrev file : Str := PySem.Challenge.pw_strayjoins_k01_errors_and_numbers.main.file
abbrev hk : PySem.W.Hook := hookZ 7 file fa fn fx
def ob (s : PySem.W.SharedT) : AlZ := obsZG 7 file fa fn fx (HandSHeadRun.getT s)
theorem ob_eq (s : PySem.W.SharedT) : ob s = hk.obs s.abs := obsZG_eq (HandSHeadRun.getT_eq s)
theorem run (w : World) : HandSHeadRun.RunEq R (PySem.W.view R.prog [40]) hk ob 20000 loose w := by
  intro os
  kernel_rfl
end K01

open PySem PySem.W PySem.Calls PyProof.Rows in
theorem PySem.Challenge.cw_strayjoins_k01_errors_and_numbers_holds : PySem.Challenge.rw_strayjoins_k01_errors_and_numbers.Holds := by
  w_on; o_law
  refine HandSHeadRun.head_any (r := OpenLaw.row PySem.Challenge.rw_strayjoins_k01_errors_and_numbers) (q := view (OpenLaw.row PySem.Challenge.rw_strayjoins_k01_errors_and_numbers).prog [40]) (H := K01.hk) (ob := K01.ob) (M := 20000) (loose := K01.loose) (d := HandSHeadRun.topDef (OpenLaw.row PySem.Challenge.rw_strayjoins_k01_errors_and_numbers).prog 40) (kwd := []) K01.ob_eq
    (by kernel_rfl) (fun s => by kernel_rfl) K01.run (by kernel_rfl) (by kernel_rfl) (by kernel_rfl) (by rfl) (by first | assumption | decide +kernel) (by decide +kernel) ⟨rfl, rfl, rfl, rfl, rfl, by decide +kernel⟩ ?hw ?hc
  case hw => w_witness2
  case hc =>
    refine SJ.walk_law (l := PySem.Challenge.rw_strayjoins_k01_errors_and_numbers) (n := 63) (k := 5) (x := "_law_script") rfl (by decide) (by kernel_rfl) ⟨⟨rfl, by decide, by decide⟩, rfl⟩ ?F
    intro w mg fa h Y G hmg0
    obtain ⟨K, KX, c⟩ := Y
    have T := K01.tx_of KX G c
    have hmg : mg ("law" : PySem.Str) = some (.ref fa) := by
      have e : (HandSHeadRun.topDef (OpenLaw.row PySem.Challenge.rw_strayjoins_k01_errors_and_numbers).prog 40).name = ("law" : PySem.Str) := by kernel_rfl
      rw [← e]
      exact hmg0
    obtain ⟨fd, F⟩ := T.d_law
    obtain rfl : fa = K01.a_law K := by
      have e := hmg.symm.trans T.g_law
      cases e; rfl
    have b := L2.FunD.bindsA (ps := ["_law_script"]) F fun _ _ _ _ _ _ us hl => match us, hl with | [_], _ => rfl
    exact ⟨K, fd, K01.sp_law K, KX, fun s v => b s [v] rfl, fun H a ns hl hS => ⟨a, ns, rfl, hS, hl, fun _ => rfl⟩, fun base _ _ => K01.ok_law T F rfl⟩
