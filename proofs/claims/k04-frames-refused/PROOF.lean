import PyProof.Rows.All
import Wide.All
import OpenK.AllK
import Wide.FinOn
import KE.KStateDown
import Lean
import HandS.ForMost
import HandS.ForExc
import HandS.Defaults
import HandS.Property
import HandS.IsInst
import HandS.Head0
import HandS.Head1
import HandS.Head2
import HandS.HeadEnd
import HandS.HeadHook1
import HandS.HeadHook2
import HandS.FStr
import HandS.Flow
import HandS.MakeKw
import HandS.MakeKwOnly
import HandS.ExcField
import HandS.ExcInit
import HandS.Star
import HandS.Evl
import HandS.TupAny
import HandS.TupMul
import HandS.Style
import HandS.Wide
import HandS.WideBits
import HandS.Strs
import HandS.StrMore
import HandS.CallSlots
import KE.KCallOwn
import PyProof.InstNe
import KE.KExcSuper
import HandS.TryOnly
import HandS.Steps
import HandS.ClsMeth
import HandS.Words
import KE.KExcIs
import HandS.ExcValue
import HandS.ExcIs
import PyProof.ReprLen
import OpenK.KMeth
import HandS.Lambda
import KE.SortKeyHeap
import KE.KSortKey
import HandS.SetBool
import HandS.SetKeys
import HandS.Conv
import KE.KDictSum
import KE.KDictList
import HandS.OwnEq
import HandS.EndTab
import HandS.HeadHook4
import HandS.DictComp
import KE.KOpsOwn
import KE.KTryMore
import PySem.Challenge.RW_strayjoins_k04_frames_refused
set_option Elab.async false
set_option linter.all false
set_option maxRecDepth 100000
set_option maxHeartbeats 4000000
/-! SJHead: facts of the top's end, read by one observation: a list of tests over the written part, and the defs by any path. -/
namespace SJ
open PySem PySem.Spec PyProof.Rows L2 He
/-- a def and the path to it -/
structure DD where
  ad : PySem.W.Frag → Addr
  name : Str
  qual : Str
  params : Arguments
  body : List Stmt
  scope : Scope
  dfl : List Dv := []
  kwd : List (Str × Dv) := []
def fnA (K : PySem.W.Frag) (a : Addr) : FnW := match K.lookup a with
  | some ⟨_, _, .func fd, _⟩ => some (fd.name, fd.qualname, fd.params, fd.body, fd.scope, fd.globals, fd.closure, fd.builtins)
  | _ => none
def DD.val (d : DD) : FnW := some (d.name, d.qual, d.params, .stmts d.body, d.scope, mainGlobals, [], builtinsNs)
def DD.dvs (K : PySem.W.Frag) (d : DD) : List V := d.dfl.map (Dv.v K)
def DD.kws (K : PySem.W.Frag) (d : DD) : List (Str × V) := d.kwd.map fun q => (q.1, q.2.v K)
def DD.ok (K : PySem.W.Frag) (d : DD) : Bool := PySem.W.keepIn K (.ref (d.ad K)) && (match K.lookup (d.ad K) with
  | some ⟨_, _, .func fd, _⟩ => PySem.W.codeIn K fd.code d.qual && (dflB K fd.defaults (d.dvs K) && kwdB K fd.kwdefaults (d.kws K))
  | _ => false)
theorem DD.funD {K : PySem.W.Frag} {d : DD} (e : fnA K (d.ad K) = d.val) (c : d.ok K = true) : ∃ fd, FunD K d.name d.qual d.params d.body d.scope (d.dvs K) (d.kws K) (d.ad K) fd := by
  obtain ⟨kp, c2⟩ := ba c
  unfold fnA at e
  cases q : K.lookup (d.ad K) with
  | none => rw [q] at c2; cases c2
  | some o =>
    obtain ⟨oc, od, dt, osl⟩ := o
    rw [q] at c2 e
    cases dt with
    | func fd =>
      obtain ⟨m1, m2, m3, m4, m5, m6, m7, m8, m9, m10, m11, m12, m13, m14, m15⟩ := fd
      have e2 : (some (m1, m2, m3, m4, m5, m6, m7, m15) : FnW) = some (d.name, d.qual, d.params, .stmts d.body, d.scope, mainGlobals, [], builtinsNs) := e
      simp only [Option.some.injEq, Prod.mk.injEq] at e2
      obtain ⟨g1, g2, g3, g4, g5, g6, g7, g8⟩ := e2
      subst g1 g2 g3 g4 g5 g6 g7 g8
      obtain ⟨k1, k2⟩ := ba (show (PySem.W.codeIn K m13 d.qual && (dflB K m8 (d.dvs K) && kwdB K m9 (d.kws K))) = true from c2)
      obtain ⟨k3, k4⟩ := ba k2
      exact ⟨_, ⟨oc, od, m8, m9, m10, m11, m12, m13, m14, osl, rfl, q, k1, dflB_ok k3, kwdB_ok k4⟩, kp⟩
    | _ => cases c2
abbrev Tst := PySem.W.Frag → Bool
abbrev AlS : Type := Bool × List FnW
def obsS (fa : List Tst) (fn : List DD) (K : PySem.W.Frag) : AlS := ((fa.all fun f => f K) && fn.all fun d => d.ok K, fn.map fun d => fnA K (d.ad K))
def valS (fn : List DD) : AlS := (true, fn.map DD.val)
def SaysS (fa : List Tst) (fn : List DD) (K : PySem.W.Frag) : Prop := obsS fa fn K = valS fn
def obsSG (n : Nat) (fa : List Tst) (fn : List DD) (g : Addr → Option Obj) : AlS := obsS fa fn (frG g (asD g n))
def hookS (n : Nat) (fa : List Tst) (fn : List DD) : PySem.W.Hook where
  α := AlS
  obs := fun s => obsSG n fa fn s.heap.get?
  val := fun _ => valS fn
  says := fun _ h => ∃ K : PySem.W.Frag, K.In h ∧ SaysS fa fn K
  of := fun _ _ e => ⟨_, frG_in, e⟩
  keeps := fun _ _ _ ⟨K, hK, c⟩ k => ⟨K, PySem.W.Frag.In.keeps hK k, c⟩
theorem obsSG_eq {n : Nat} {fa : List Tst} {fn : List DD} {g : Addr → Option Obj} {s : Shared} (h : ∀ a, g a = s.heap.get? a) : obsSG n fa fn g = (hookS n fa fn).obs s := by
  have e : g = s.heap.get? := funext h
  rw [e] <;> rfl
section
variable {fa : List Tst} {fn : List DD} {K : PySem.W.Frag}
theorem SaysS.fact (c : SaysS fa fn K) (i : Nat) {f : Tst} (h : fa[i]? = some f := by rfl) : f K = true := by
  have c1 := (ba (show ((fa.all fun f => f K) && fn.all fun d => d.ok K) = true from congrArg (fun z : AlS => z.1) c)).1
  exact List.all_eq_true.mp c1 f (List.mem_of_getElem? h)
theorem SaysS.def_ (c : SaysS fa fn K) (i : Nat) {d : DD} (h : fn[i]? = some d := by rfl) : ∃ fd, FunD K d.name d.qual d.params d.body d.scope (d.dvs K) (d.kws K) (d.ad K) fd := by
  have c2 := (ba (show ((fa.all fun f => f K) && fn.all fun d => d.ok K) = true from congrArg (fun z : AlS => z.1) c)).2
  have e : fn.map (fun d => fnA K (d.ad K)) = fn.map DD.val := congrArg (fun z : AlS => z.2) c
  have e2 : (fn.map fun d => fnA K (d.ad K))[i]? = (fn.map DD.val)[i]? := by rw [e]
  rw [List.getElem?_map, List.getElem?_map, h] at e2
  exact DD.funD (Option.some.inj e2) (List.all_eq_true.mp c2 d (List.mem_of_getElem? h))
end
/-- a property's own address, its getter -/
def pgA (x f : Str) (K : PySem.W.Frag) : Addr := match PySem.W.recIn K (ma K (ga K x) f) "property" with
  | some (.ref g :: _) => g
  | _ => 0
def propB (x f : Str) : Tst := fun K => eqO (PySem.W.findIn K (.ref (ga K x)) f) (some (some (.ref (ma K (ga K x) f)))) && (eqO (PySem.W.specialIn K (.ref (ma K (ga K x) f)) "__get__") (some (some (.builtin "property.__get__"))) &&
  (decide (PySem.W.takesIn K (.ref (ma K (ga K x) f)) = some true) && (match PySem.W.recIn K (ma K (ga K x) f) "property" with
    | some (.ref _ :: _) => true
    | _ => false)))
theorem prop_ok {K : PySem.W.Frag} {x f : Str} (c : propB x f K = true) : PropOf K (ga K x) f (ma K (ga K x) f) (pgA x f K) := by
  obtain ⟨c1, c⟩ := ba c
  obtain ⟨c2, c⟩ := ba c
  obtain ⟨c3, c4⟩ := ba c
  refine ⟨eqO_ok c1, eqO_ok c2, of_decide_eq_true c3, ?_⟩
  unfold pgA
  cases q : PySem.W.recIn K (ma K (ga K x) f) "property" with
  | none => rw [q] at c4; cases c4
  | some l =>
    rw [q] at c4
    cases l with
    | nil => cases c4
    | cons v r =>
      cases v with
      | ref g => exact ⟨r, rfl⟩
      | _ => cases c4
end SJ

/-! SJX: readings, one step each. -/
namespace SJ
open PySem PySem.Spec PyProof.Rows L2 He
section
variable {K : PySem.W.Frag} {σ : L2.St} {H : Hp} {Q : VK} {QT : Bool → Hp → Prop} {QA : List V → Hp → Prop} {ta tb tc te : TE} {t u : TT} {D : Ends} {ts tu tz : TS} {r r' : R2} {x y v : V} {i j : Int} {n : Nat} {p : Addr} {tA : TA} {b c : Bool}
theorem x_var (h : σ[n]? = some (some v)) (k : Q v H) : tVar n σ H Q := ⟨v, h, k⟩
theorem x_c (k : Q v H) : tC v σ H Q := k
theorem x_op (k : ta σ H fun x H1 => tb σ H1 fun y H2 => r x y H2 Q) : tOp r ta tb σ H Q := k
theorem x_un {r : V → Hp → VK → Prop} (k : ta σ H fun x H1 => r x H1 Q) : tUn r ta σ H Q := k
theorem x_I0 {g : Int → Int → V} (k : Q (g i j) H) : rI0 g (.int i) (.int j) H Q := ⟨i, j, rfl, rfl, k⟩
theorem x_I {C : Int → Int → Prop} {g : Int → Int → V} (c : C i j) (k : Q (g i j) H) : rI C g (.int i) (.int j) H Q := ⟨i, j, rfl, rfl, c, k⟩
theorem x_U {g : Int → V} (k : Q (g i) H) : rU g (.int i) H Q := ⟨i, rfl, k⟩
theorem x_eq (h : scal x y = true) (k : Q (.bl (decide (x = y))) H) : rEq x y H Q := ⟨h, k⟩
theorem x_ne (h : scal x y = true) (k : Q (.bl (!decide (x = y))) H) : rNe x y H Q := ⟨h, k⟩
theorem x_nil (k : QA [] H) : tNil σ H QA := k
theorem x_cons (k : ta σ H fun x H1 => tA σ H1 fun xs H2 => QA (x :: xs) H2) : tCons ta tA σ H QA := k
theorem x_cb {r : List V → Hp → VK → Prop} (k : tA σ H fun vs H1 => r vs H1 Q) : tCB r tA σ H Q := k
theorem x_call {sp : Sp} {dvs : List V} {E : XK} (k : tA σ H fun vs H1 => sp (vs ++ dvs) H1 Q E) : tCall sp dvs E tA σ H Q := k
theorem x_seq (k : ts { D with nx := tz D } σ H) : tSeq ts tz D σ H := k
theorem x_next (k : D.nx σ H) : tNext D σ H := k
theorem x_asg (k : te σ H fun x H1 => D.nx (σ.set n (some x)) H1) : tAsg te (gName n) D σ H := k
theorem x_asgG {g : TG} (k : te σ H fun x H1 => g x σ H1 D.nx) : tAsg te g D σ H := k
theorem x_ret (k : te σ H D.rt) : tRet te D σ H := k
theorem x_retN (k : D.rt .non H) : tRetN D σ H := k
theorem x_drop (k : te σ H fun _ H1 => D.nx σ H1) : tDrop te D σ H := k
theorem x_if (k : t σ H fun b H1 => if b = true then ts D σ H1 else tu D σ H1) : tIfS t ts tu D σ H := k
theorem x_ife (k : t σ H fun b H1 => if b = true then ta σ H1 Q else tb σ H1 Q) : tIf t ta tb σ H Q := k
theorem x_test (k : te σ H fun x H' => ∃ b, x = .bl b ∧ QT b H') : tTest te σ H QT := k
theorem x_B (k : te σ H fun x H' => ∃ b, x = .bl b ∧ QT b H') : tB te σ H QT := k
theorem x_bl (k : QT b H) : ∃ c, V.bl b = .bl c ∧ QT c H := ⟨b, rfl, k⟩
theorem x_and (k : t σ H fun c H1 => if c = true then u σ H1 QT else QT false H1) : tAnd t u σ H QT := k
theorem x_or (k : t σ H fun c H1 => if c = true then QT true H1 else u σ H1 QT) : tOr t u σ H QT := k
theorem x_not (k : t σ H fun c H1 => QT (!c) H1) : tNot t σ H QT := k
theorem x_andV (k : ta σ H fun x H1 => ∃ c, x = .bl c ∧ if c = true then tb σ H1 Q else Q (.bl false) H1) : tAndV ta tb σ H Q := k
theorem x_orV (k : ta σ H fun x H1 => ∃ c, x = .bl c ∧ if c = true then Q (.bl true) H1 else tb σ H1 Q) : tOrV ta tb σ H Q := k
theorem x_notV (k : ta σ H fun x H1 => ∃ c, x = .bl c ∧ Q (.bl (!c)) H1) : tNotV ta σ H Q := k
theorem x_tup (k : tA σ H fun xs H1 => xs.length ≤ sizeLine ∧ ∀ p, H1 p = none → Q (.ref p) (upd H1 p (.tup xs))) : tTup tA σ H Q := k
theorem x_lst (k : tA σ H fun xs H1 => xs.length ≤ sizeLine ∧ ∀ p, H1 p = none → Q (.ref p) (upd H1 p (.lst xs))) : tLst tA σ H Q := k
theorem x_new {q : Prop} (h : n ≤ 1000) (k : q) : n ≤ sizeLine ∧ q := ⟨Nat.le_trans h (by decide), k⟩
theorem x_ixL {xs : List V} (h : SqL K H p xs) (e : atI xs i = some v) (k : Q v H) : rIx K (.ref p) (.int i) H Q := .inl ⟨p, xs, i, v, rfl, rfl, h, e, k⟩
theorem x_ixT {xs : List V} (h : SqT K H p xs) (e : atI xs i = some v) (k : Q v H) : rIx K (.ref p) (.int i) H Q := .inr (.inl ⟨p, xs, i, v, rfl, rfl, h, e, k⟩)
theorem x_sub {to ti : TE} {s : TSet} {Qs : L2.St → Hp → Prop} (k : to σ H fun o H1 => ti σ H1 fun i H2 => s o i v H2 fun H3 => Qs σ H3) : gSub to ti s v σ H Qs := k
theorem x_setL {xs : List V} {k : Nat} {Qh : Hp → Prop} (h : H p = some (.lst xs)) (e : ixN xs.length i = some k) (q : Qh (upd H p (.lst (xs.set k v)))) : rSetL (.ref p) (.int i) v H Qh := ⟨p, xs, i, k, rfl, rfl, h, e, q⟩
theorem x_int {i : Int} (k : Q (.int i) H) : (∃ j, [V.int i] = [.int j] ∧ Q (.int j) H) ∨ ∃ c, [V.int i] = [.bl c] ∧ Q (.int (if c then 1 else 0)) H := .inl ⟨i, rfl, k⟩
theorem x_intB (k : Q (.int (if b then 1 else 0)) H) : (∃ j, [V.bl b] = [.int j] ∧ Q (.int j) H) ∨ ∃ c, [V.bl b] = [.bl c] ∧ Q (.int (if c then 1 else 0)) H := .inr ⟨b, rfl, k⟩
theorem x_len {xs : List V} (h : SqL K H p xs) (k : Q (.int (xs.length : Int)) H) : ∃ x n, [V.ref p] = [x] ∧ LenV K x H n ∧ Q (.int (n : Int)) H := ⟨_, _, rfl, .inl ⟨_, h, rfl⟩, k⟩
theorem x_lenT {xs : List V} (h : SqT K H p xs) (k : Q (.int (xs.length : Int)) H) : ∃ x n, [V.ref p] = [x] ∧ LenV K x H n ∧ Q (.int (n : Int)) H := ⟨_, _, rfl, .inr ⟨_, h, rfl⟩, k⟩
theorem x_abs (k : Q (.int (if i < 0 then -i else i)) H) : ∃ j, [V.int i] = [.int j] ∧ Q (.int (if j < 0 then -j else j)) H := ⟨i, rfl, k⟩
theorem x_neD {d e : PyData} (h1 : Dp K H x d) (h2 : Dp K H y e) (s1 : SeqAt.shaped d = true) (s2 : SeqAt.shaped e = true) (k : Q (.bl (!PyData.eqv d e)) H) : rNeD K x y H Q := ⟨d, e, h1, h2, s1, s2, k⟩
theorem x_eqD {d e : PyData} (h1 : Dp K H x d) (h2 : Dp K H y e) (s1 : SeqAt.shaped d = true) (s2 : SeqAt.shaped e = true) (k : Q (.bl (PyData.eqv d e)) H) : rEqD K x y H Q := ⟨d, e, h1, h2, s1, s2, k⟩
end
/-! ### heaps -/
theorem del_sub {H : Hp} {p a : Addr} {o : HO} (h : del H p a = some o) : H a = some o := by
  by_cases e : a = p
  · rw [e, del_same] at h; cases h
  · rw [del_ne e] at h; exact h
theorem del_some {H : Hp} {p a : Addr} {o : HO} (h : del H p a = some o) : a ≠ p := fun e => by rw [e, del_same] at h; cases h
theorem del_none {H : Hp} {p a : Addr} (h : H a = none) : del H p a = none := by
  by_cases e : a = p
  · rw [e, del_same]
  · rw [del_ne e]; exact h
theorem del_upd {H : Hp} {p : Addr} {o : HO} : del (upd H p o) p = del H p := by
  funext a
  by_cases e : a = p
  · rw [e, del_same, del_same]
  · rw [del_ne e, del_ne e, upd_ne e]
theorem del_upd_ne {H : Hp} {p q : Addr} {o : HO} (n : q ≠ p) : del (upd H q o) p = upd (del H p) q o := by
  funext a
  by_cases e : a = p
  · rw [e, del_same, upd_ne (Ne.symm n), del_same]
  · rw [del_ne e]
    by_cases f : a = q
    · rw [f, upd_same, upd_same]
    · rw [upd_ne f, upd_ne f, del_ne e]
theorem Same.upd {H H' : Hp} {p : Addr} {o : HO} (e : Same H H') (h : H' p = none) : Same H (L2.upd H' p o) := fun b u q => by
  rw [upd_ne (ne_of_none (e b u q) h)]; exact e b u q
theorem Same.mut {H H' : Hp} {p : Addr} {o : HO} (e : Same H H') (h : H p = none) : Same H (L2.upd H' p o) := fun b u q => by
  rw [upd_ne (ne_of_none q h)]; exact e b u q
theorem Same.del {H H' : Hp} {p : Addr} (e : Same H H') : Same (L2.del H p) (L2.del H' p) := fun b u q => by
  rw [del_ne (del_some q)]; exact e b u (del_sub q)
end SJ

/-! SJR: one rule a construct, its ways by values joined by or; and the step of each way. -/
namespace SJ
open PySem PySem.Spec PyProof.Rows L2 He
def rStr2 (g : Str → Str → V) : R2 := fun x y H Q => ∃ i j, x = .str i ∧ y = .str j ∧ Q (g i j) H
def rAddS' : R2 := fun x y H Q => ∃ i j, x = .str i ∧ y = .str j ∧ i.length + j.length ≤ sizeLine ∧ Q (.str (i ++ j)) H
def rAdd (K : PySem.W.Frag) : R2 := fun x y H Q => rI0 (fun i j => .int (i + j)) x y H Q ∨ (rAddS' x y H Q ∨ (rCat x y H Q ∨ rCatA K x y H Q))
def rSub : R2 := rI0 fun i j => .int (i - j)
def rMul (K : PySem.W.Frag) : R2 := fun x y H Q => rI CMul (fun i j => .int (i * j)) x y H Q ∨ (rI CMulX (fun i j => .int (i * j)) x y H Q ∨ (rRep x y H Q ∨ rRepT K x y H Q))
def rMod : R2 := rI (fun _ j => j ≠ 0) fun i j => .int (i.fmod j)
def rFdv : R2 := fun x y H Q => rI CDivN (fun i j => .int (i.fdiv j)) x y H Q ∨ rI CDivW (fun i j => .int (i / j)) x y H Q
def rPow : R2 := rI CPow fun i j => .int (i ^ j.toNat)
def rEqU (K : PySem.W.Frag) : R2 := fun x y H Q => rEq x y H Q ∨ rEqD K x y H Q
def rNeU (K : PySem.W.Frag) : R2 := fun x y H Q => rNe x y H Q ∨ rNeD K x y H Q
def rLtU : R2 := fun x y H Q => rI0 (fun i j => .bl (decide (i < j))) x y H Q ∨ rStr2 (fun i j => .bl (decide (i.cps.toList < j.cps.toList))) x y H Q
def rLeU : R2 := fun x y H Q => rI0 (fun i j => .bl (decide (i ≤ j))) x y H Q ∨ rStr2 (fun i j => .bl (!decide (j.cps.toList < i.cps.toList))) x y H Q
def rGtU : R2 := rI0 fun i j => .bl (decide (j < i))
def rGeU : R2 := rI0 fun i j => .bl (decide (j ≤ i))
def rInU (K : PySem.W.Frag) (neg : Bool) : R2 := fun x y H Q => rIn K neg x y H Q ∨ rStr2 (fun i j => .bl (if neg then !(!(Builtin.Str.occurrences j i 0 j.length 1).isEmpty) else !(Builtin.Str.occurrences j i 0 j.length 1).isEmpty)) x y H Q
def rIsU (neg : Bool) : R2 := fun x y H Q => (y = .non ∧ Q (.bl (if neg then !decide (x = .non) else decide (x = .non))) H) ∨ ∃ a b : Bool, x = .bl a ∧ y = .bl b ∧ Q (.bl (if neg then !decide (a = b) else decide (a = b))) H
section
variable {X : Cx}
theorem o_add : OpR X (binaryOp .Add) (rAdd X.K) := op_add.or (op_add_str.or (op_cat.or op_catA))
theorem o_sub : OpR X (binaryOp .Sub) rSub := op_sub
theorem o_mul : OpR X (binaryOp .Mult) (rMul X.K) := op_mul.or (op_mulX.or (op_rep.or op_repT))
theorem o_mod : OpR X (binaryOp .Mod) rMod := op_modN
theorem o_fdv : OpR X (binaryOp .FloorDiv) rFdv := op_fdivN.or op_fdivW
theorem o_pow : OpR X (binaryOp .Pow) rPow := op_pow
theorem o_eq (hu : X.A.units + 64 < cLine) : OpR X (compareOp .Eq) (rEqU X.K) := op_eq.or (op_eqD hu)
theorem o_ne (hu : X.A.units + 64 < cLine) : OpR X (compareOp .NotEq) (rNeU X.K) := op_ne.or (op_neD hu)
theorem o_lt : OpR X (compareOp .Lt) rLtU := op_lt.or op_lt_str
theorem o_le : OpR X (compareOp .LtE) rLeU := op_le.or op_le_str
theorem o_gt : OpR X (compareOp .Gt) rGtU := op_gt
theorem o_ge : OpR X (compareOp .GtE) rGeU := op_ge
theorem o_in : OpR X (compareOp .In) (rInU X.K false) := op_in_seq.or op_in_str
theorem o_nin : OpR X (compareOp .NotIn) (rInU X.K true) := op_notIn_seq.or op_notin_str
theorem o_is : OpR X (compareOp .Is) (rIsU false) := OpR.or (op_isN) (op_isBl)
theorem o_isn : OpR X (compareOp .IsNot) (rIsU true) := OpR.or (op_notN) (op_notBl)
end
def rLenU (K : PySem.W.Frag) : List V → Hp → VK → Prop := fun xs H Q => (∃ x n, xs = [x] ∧ LenV K x H n ∧ Q (.int n) H) ∨ ∃ a kvs, xs = [V.ref a] ∧ H a = some (.dK kvs) ∧ Q (.int kvs.length) H
def rAbs : List V → Hp → VK → Prop := fun xs H Q => ∃ i, xs = [.int i] ∧ Q (.int (if i < 0 then -i else i)) H
def rInt : List V → Hp → VK → Prop := fun xs H Q => (∃ i, xs = [.int i] ∧ Q (.int i) H) ∨ ∃ k, xs = [.bl k] ∧ Q (.int (if k then 1 else 0)) H
def rListU (K : PySem.W.Frag) : List V → Hp → VK → Prop := fun xs H Q => ∃ p ys, xs = [.ref p] ∧ (SqL K H p ys ∨ SqT K H p ys) ∧ ∀ l, H l = none → Q (.ref l) (upd H l (.lst ys))
def rTupU (K : PySem.W.Frag) : List V → Hp → VK → Prop := fun xs H Q => ∃ p ys, xs = [.ref p] ∧ ((SqL K H p ys ∧ ∀ l, H l = none → Q (.ref l) (upd H l (.tup ys))) ∨ (SqT K H p ys ∧ Q (.ref p) H))
def rSlU (K : PySem.W.Frag) : V → Option Int → Option Int → Hp → VK → Prop := fun x lo hi H Q => rSlL K x lo hi H Q ∨ rSlT K x lo hi H Q
section
variable {X : Cx}
theorem c_len : CallR X (.builtin "len") (rLenU X.K) := call_len.or call_lenD
theorem c_abs : CallR X (.builtin "abs") rAbs := call_abs
theorem c_int : CallR X (.type "int") rInt := call_int1
theorem c_list : CallR X (.type "list") (rListU X.K) := call_list_of
theorem c_tuple : CallR X (.type "tuple") (rTupU X.K) := call_tuple_of
theorem c_isi : CallR X (.builtin "isinstance") (rIsi X.K) := call_isi
theorem c_all (hc : X.calm = true) : CallR X (.builtin "all") (rAll X.K) := cr_all hc
theorem c_any (hc : X.calm = true) : CallR X (.builtin "any") (rAny X.K) := cr_any hc
theorem c_sum (hc : X.calm = true) : CallR X (.builtin "sum") (rSum X.K) := cr_sum hc
theorem sl_u : SlR X (rSlU X.K) := sl_list.or sl_tup
end
section
variable {K : PySem.W.Frag} {H : Hp} {Q : VK} {x y v : V} {i j : Int} {n : Nat} {p q : Addr} {b c : Bool} {s t : Str} {xs ys : List V}
theorem x_addI (k : Q (.int (i + j)) H) : rAdd K (.int i) (.int j) H Q := .inl ⟨i, j, rfl, rfl, k⟩
theorem x_addS (h : s.length + t.length ≤ 1000) (k : Q (.str (s ++ t)) H) : rAdd K (.str s) (.str t) H Q := .inr (.inl ⟨s, t, rfl, rfl, Nat.le_trans h (by decide), k⟩)
theorem x_addL (h1 : H p = some (.lst xs)) (h2 : H q = some (.lst ys)) (h : xs.length + ys.length ≤ 10000) (k : ∀ l, H l = none → Q (.ref l) (upd H l (.lst (xs ++ ys)))) : rAdd K (.ref p) (.ref q) H Q :=
  .inr (.inr (.inl ⟨p, q, xs, ys, rfl, rfl, h1, h2, Nat.le_trans h (by decide), k⟩))
theorem x_sub' (k : Q (.int (i - j)) H) : rSub (.int i) (.int j) H Q := ⟨i, j, rfl, rfl, k⟩
theorem x_mulI (h : CMul i j) (k : Q (.int (i * j)) H) : rMul K (.int i) (.int j) H Q := .inl ⟨i, j, rfl, rfl, h, k⟩
theorem x_mulX (h : CMulX i j) (k : Q (.int (i * j)) H) : rMul K (.int i) (.int j) H Q := .inr (.inl ⟨i, j, rfl, rfl, h, k⟩)
theorem x_mod (h : 0 < j) (k : Q (.int (i % j)) H) : rMod (.int i) (.int j) H Q := ⟨i, j, rfl, rfl, by omega, by show Q (.int (i.fmod j)) H; rw [Int.fmod_eq_emod_of_nonneg _ (by omega)]; exact k⟩
theorem x_fdv (h : 0 < j) (h2 : j < 1073741824) (k : Q (.int (i / j)) H) : rFdv (.int i) (.int j) H Q := .inl ⟨i, j, rfl, rfl, ⟨by omega, by omega⟩, by show Q (.int (i.fdiv j)) H; rw [Int.fdiv_eq_ediv_of_nonneg _ (by omega)]; exact k⟩
theorem x_pow (h : 0 ≤ j ∧ j ≤ 1000000 ∧ i.natAbs < 2 ^ 64) (k : Q (.int (i ^ j.toNat)) H) : rPow (.int i) (.int j) H Q := ⟨i, j, rfl, rfl, h, k⟩
theorem x_eqS (h : scal x y = true) (k : Q (.bl (decide (x = y))) H) : rEqU K x y H Q := .inl ⟨h, k⟩
theorem x_neS (h : scal x y = true) (k : Q (.bl (!decide (x = y))) H) : rNeU K x y H Q := .inl ⟨h, k⟩
theorem x_eqI (k : Q (.bl (decide (i = j))) H) : rEqU K (.int i) (.int j) H Q := .inl ⟨rfl, by rw [show decide (V.int i = V.int j) = decide (i = j) from by simp only [V.int.injEq]]; exact k⟩
theorem x_neI (k : Q (.bl (!decide (i = j))) H) : rNeU K (.int i) (.int j) H Q := .inl ⟨rfl, by rw [show decide (V.int i = V.int j) = decide (i = j) from by simp only [V.int.injEq]]; exact k⟩
theorem x_eqT (k : Q (.bl (decide (s = t))) H) : rEqU K (.str s) (.str t) H Q := .inl ⟨rfl, by rw [show decide (V.str s = V.str t) = decide (s = t) from by simp only [V.str.injEq]]; exact k⟩
theorem x_neT (k : Q (.bl (!decide (s = t))) H) : rNeU K (.str s) (.str t) H Q := .inl ⟨rfl, by rw [show decide (V.str s = V.str t) = decide (s = t) from by simp only [V.str.injEq]]; exact k⟩
theorem x_eqDD {d e : PyData} (h1 : Dp K H x d) (h2 : Dp K H y e) (s1 : SeqAt.shaped d = true) (s2 : SeqAt.shaped e = true) (k : Q (.bl (PyData.eqv d e)) H) : rEqU K x y H Q := .inr ⟨d, e, h1, h2, s1, s2, k⟩
theorem x_neDD {d e : PyData} (h1 : Dp K H x d) (h2 : Dp K H y e) (s1 : SeqAt.shaped d = true) (s2 : SeqAt.shaped e = true) (k : Q (.bl (!PyData.eqv d e)) H) : rNeU K x y H Q := .inr ⟨d, e, h1, h2, s1, s2, k⟩
theorem x_ltI (k : Q (.bl (decide (i < j))) H) : rLtU (.int i) (.int j) H Q := .inl ⟨i, j, rfl, rfl, k⟩
theorem x_leI (k : Q (.bl (decide (i ≤ j))) H) : rLeU (.int i) (.int j) H Q := .inl ⟨i, j, rfl, rfl, k⟩
theorem x_gtI (k : Q (.bl (decide (j < i))) H) : rGtU (.int i) (.int j) H Q := ⟨i, j, rfl, rfl, k⟩
theorem x_geI (k : Q (.bl (decide (j ≤ i))) H) : rGeU (.int i) (.int j) H Q := ⟨i, j, rfl, rfl, k⟩
theorem x_inT (h : SqT K H p xs) (hx : flatV x = true) (ha : xs.all flatV = true) (k : Q (.bl (inV x xs)) H) : rInU K false x (.ref p) H Q := .inl ⟨p, xs, rfl, .inr h, hx, ha, k⟩
theorem x_ninT (h : SqT K H p xs) (hx : flatV x = true) (ha : xs.all flatV = true) (k : Q (.bl (!inV x xs)) H) : rInU K true x (.ref p) H Q := .inl ⟨p, xs, rfl, .inr h, hx, ha, k⟩
theorem x_inL (h : SqL K H p xs) (hx : flatV x = true) (ha : xs.all flatV = true) (k : Q (.bl (inV x xs)) H) : rInU K false x (.ref p) H Q := .inl ⟨p, xs, rfl, .inl h, hx, ha, k⟩
theorem x_ninL (h : SqL K H p xs) (hx : flatV x = true) (ha : xs.all flatV = true) (k : Q (.bl (!inV x xs)) H) : rInU K true x (.ref p) H Q := .inl ⟨p, xs, rfl, .inl h, hx, ha, k⟩
theorem x_inS (k : Q (.bl (!(Builtin.Str.occurrences t s 0 t.length 1).isEmpty)) H) : rInU K false (.str s) (.str t) H Q := .inr ⟨s, t, rfl, rfl, k⟩
theorem x_isN (k : Q (.bl (decide (x = .non))) H) : rIsU false x .non H Q := .inl ⟨rfl, k⟩
theorem x_isnN (k : Q (.bl (!decide (x = .non))) H) : rIsU true x .non H Q := .inl ⟨rfl, k⟩
theorem x_isB (k : Q (.bl (decide (b = c))) H) : rIsU false (.bl b) (.bl c) H Q := .inr ⟨b, c, rfl, rfl, k⟩
theorem x_lenL (h : SqL K H p xs) (k : Q (.int (xs.length : Int)) H) : rLenU K [.ref p] H Q := .inl ⟨_, _, rfl, .inl ⟨_, h, rfl⟩, k⟩
theorem x_lenT' (h : SqT K H p xs) (k : Q (.int (xs.length : Int)) H) : rLenU K [.ref p] H Q := .inl ⟨_, _, rfl, .inr ⟨_, h, rfl⟩, k⟩
theorem x_lenS (h : s.length ≤ 10000) (k : Q (.int (s.length : Int)) H) : rLenU K [.str s] H Q := .inl ⟨_, _, rfl, ⟨Nat.le_trans h (by decide), rfl⟩, k⟩
theorem x_absI (k : Q (.int (if i < 0 then -i else i)) H) : rAbs [.int i] H Q := ⟨i, rfl, k⟩
theorem x_intI (k : Q (.int i) H) : rInt [.int i] H Q := .inl ⟨i, rfl, k⟩
theorem x_intBl (k : Q (.int (if b then 1 else 0)) H) : rInt [.bl b] H Q := .inr ⟨b, rfl, k⟩
theorem x_listL (h : SqL K H p xs) (k : ∀ l, H l = none → Q (.ref l) (upd H l (.lst xs))) : rListU K [.ref p] H Q := ⟨p, xs, rfl, .inl h, k⟩
theorem x_listT (h : SqT K H p xs) (k : ∀ l, H l = none → Q (.ref l) (upd H l (.lst xs))) : rListU K [.ref p] H Q := ⟨p, xs, rfl, .inr h, k⟩
end
end SJ

/-! SJF: defs whose calls run under no guard (repr of containers asks for that), and the law's end over them. -/
namespace SJ
open PySem PySem.Spec PyProof.Rows L2 He
/-- room, and no guard around -/
structure Rm (k : Nat) (A : Around) : Prop where
  r : Room k A
  g : A.guards = some []
theorem Rm.mono {j k : Nat} {A : Around} (h : Rm k A) (l : j ≤ k) : Rm j A := ⟨h.r.mono l, h.g⟩
theorem Rm.in1 {k : Nat} {A : Around} (h : Rm (k + 1) A) : Rm k A.in1 := ⟨h.r.in1, h.g⟩
theorem Rm.deeper {k : Nat} {A : Around} (h : Rm (k + 1) A) (env : Env) : Rm k (A.deeper env) := ⟨h.r.deeper env, h.g⟩
theorem Rm.make {k : Nat} {A : Around} (h : Rm (k + 1) A) (C : Addr) (us : List Value) (kw : List (Str × Value)) : Rm k (A.under (.builtin "type.__call__" ⟨.ref C :: us, kw⟩)) := by
  refine ⟨h.r.make C us kw, ?_⟩
  first | exact h.g | (simp [Around.under, Code.isGuard, guardIds]; exact h.g)
theorem Rm.units {k : Nat} {A : Around} (h : Rm k A) : A.units + 64 < cLine := h.r.units
theorem Rm.units0 {k : Nat} {A : Around} (h : Rm k A) : A.units < cLine := h.r.units0
theorem Rm.hu {k : Nat} {A : Around} (h : Rm k A) : A.units + 1 < cLine := hu_of h.r
structure Fk (P : Program) (w : World) (K : PySem.W.Frag) (mg : Str → Option Value) (base : Heap) (k : Nat) (f : Addr) (fd : FuncData) (ps : List Str) (sp : Sp) : Prop where
  len : ∀ vs H Q E, sp vs H Q E → vs.length = ps.length
  run : ∀ (A : Around) (outer : List Env) (s : Shared) (H : Hp) (args : Args) (us : List Value) (vs : List V) (Q : VK) (E : XK), Rm k A → Env0 P w K mg base A outer s H → BindsTo s fd args (ps.zip us) → Vals vs us → sp vs H Q E →
    codeAny (model P w) A (.call (.ref f) args) (CR (L2.CX P w) outer P w H s Q E) s
theorem Fk.mono {P : Program} {w : World} {K : PySem.W.Frag} {mg : Str → Option Value} {base : Heap} {j k : Nat} {f : Addr} {fd : FuncData} {ps : List Str} {sp : Sp} (F : Fk P w K mg base j f fd ps sp) (h : j ≤ k) : Fk P w K mg base k f fd ps sp :=
  ⟨F.len, fun A outer s H args us vs Q E hr => F.run A outer s H args us vs Q E (hr.mono h)⟩
theorem fk_of {P : Program} {w : World} {K : PySem.W.Frag} {mg : Str → Option Value} {base : Heap} {x qual : Str} {pa : Arguments} {bo : List Stmt} {sc : Scope} {dvs : List V} {kws : List (Str × V)} {f : Addr} {fd : FuncData} {N ps : List Str} {k : Nat} {sp : Sp}
    (F : FunD K x qual pa bo sc dvs kws f fd) (S : FnScope N ps sc) (len : ∀ vs H Q E, sp vs H Q E → vs.length = ps.length)
    (hb : ∀ (cdv : Value) (A : Around) (outer : List Env) (s : Shared) (H : Hp) (vs : List V) (Q : VK) (E : XK), Rm k (A.deeper (envOfC qual sc s.heap.objs.size f cdv)) → sp vs H Q E →
      ∃ t, PSs (cxOf (L2.CX P w) P w K mg base N qual sc f cdv A outer s H E) bo t ∧ t { nx := fun _ H2 => Q .non H2, rt := Q } (start N vs) H) : Fk P w K mg base (k + 1) f fd ps sp := by
  obtain ⟨oc, od, dV, kV, doc, pm, an, cdv, ct, osl, rfl, lk, hcd, _, _⟩ := F.ex
  refine ⟨len, fun A outer s H args us vs Q E hr e0 hbi rv hsp => ?_⟩
  have hl := len _ _ _ _ hsp
  have KX : K.In s.heap := e0.mod.kin.keeps fun b o z => (e0.bs b o z).1
  have lim : s.heap.NoLimit := e0.mod.nolimit.keeps fun b o z => (e0.bs b o z).1
  have kinds : ∀ y ∈ ps.zip us, sc.names.lookup y.1 = some .local ∨ (sc.names.lookup y.1 = some .cell ∧ ((cellsFrom (s.heap.objs.size + 1) sc.names []).lookup y.1).isSome = true) := fun ⟨n, v⟩ hy => by
    rcases S.par n (List.of_mem_zip hy).1 with z | z
    · exact .inl z
    · exact .inr ⟨z, PySem.W.cellsFrom_some _ _ _ (.inl z)⟩
  refine codeAny_call_function hr.r.depth (KX _ _ lk) rfl S.co S.gen rfl (PySem.W.codeRec_of KX hcd) (hbi _ _ _ _ (wpAny_newFunctionEnv_cells S.kind kinds fun env he s1 x1 => ?_))
  subst he
  refine ⟨lim.keeps x1.toInCall.keep, codeAny_func ?_⟩
  obtain ⟨t, ht, hq⟩ := hb cdv A outer s H vs Q E (hr.deeper _) hsp
  have I : Inv (cxOf (L2.CX P w) P w K mg base N qual sc f cdv A outer s H E) [] (start N vs) H s1 := inv_start S hr.r.hd e0 hl rv x1
  refine wpAny_mono (ht.run [] s1 (start N vs) H _ I hq) (fun fl s2 hs => ?_) fun _ _ z => z
  cases fl with
  | ret u => obtain ⟨v, σ2, H2, J, r2, q⟩ := hs; exact ⟨v, H2, J.os, J.bare, J.base, J.hok, r2, q⟩
  | next => obtain ⟨σ2, H2, J, q⟩ := hs; exact ⟨.non, H2, J.os, J.bare, J.base, J.hok, rfl, q⟩
  | brk => obtain ⟨_, _, _, q⟩ := hs; exact q.elim
  | cont => obtain ⟨_, _, _, q⟩ := hs; exact q.elim
/-- the law called behind the top -/
theorem law_at {P : Program} {w : World} {K : PySem.W.Frag} {mg mb : Str → Option Value} {k : Nat} {fa a : Addr} {fd : FuncData} {x : Str} {sp : Sp} {s1 : Shared} {us : List Value} {ns : List Int}
    (KX : K.In s1.heap) (hns : s1.heap.Ns mainGlobals mg) (hbn : s1.heap.Ns builtinsNs mb) (hbb : ∀ x : Str, x ≠ "__name__" → mb x = bootBuiltins x) (hlim : s1.heap.NoLimit) (hg : s1.gens = #[])
    (ha : s1.heap.get? a = some { cls := .type "list", data := .seq us.toArray }) (hi : IntsAre us ns) (hl : ns.length ≤ sizeLine) (hr : Rm k callerA)
    (F : ∀ base : Heap, K.In base → base.Ns mainGlobals mg → Fk P w K mg base k fa fd [x] sp) (hbind : ∀ (s : Shared) (u : Value), BindsTo s fd ⟨[u], []⟩ [(x, u)])
    (hsp : ∀ H : Hp, SqL K H a (ns.map V.int) → sp [.ref a] H (fun v _ => v = .bl true) fun _ _ _ => False) :
    codeAny (model P w) callerA (.call (.ref fa) ⟨[.ref a], []⟩) (fun rr s2 => rr = .ok (.ret (.bool true)) ∧ OldK s1.heap s2.heap ∧ s2.os = s1.os ∧ AllBare s2.gens) s1 := by
  have rv := vals_ints hi
  have go : ∀ H : Hp, Only H → SqL K H a (ns.map V.int) → HOk P w H s1.heap → (∀ b, H b ≠ none → b = a) → (H a ≠ none → K.lookup a = none) →
      codeAny (model P w) callerA (.call (.ref fa) ⟨[.ref a], []⟩) (fun rr s2 => rr = .ok (.ret (.bool true)) ∧ OldK s1.heap s2.heap ∧ s2.os = s1.os ∧ AllBare s2.gens) s1 := by
    intro H hO hS hok only noK
    have free : ∀ {b : Addr} {o : Obj} {es : Array DictEntry} {ep : Nat}, s1.heap.get? b = some o → o.data = .dict es ep → H b = none := fun {b o es ep} eo ed => by
      cases q : H b with
      | none => rfl
      | some u =>
        have eb : b = a := only b (by rw [q]; simp)
        rw [eb, ha] at eo
        cases eo
        exact nomatch (show Data.seq us.toArray _ = Data.dict es ep from ed)
    have nsK : ∀ {b : Addr} {m : Str → Option Value}, s1.heap.Ns b m → (hidT s1.heap H).Ns b m := fun {b m} ⟨o, es, ep, eo, ed, rr⟩ => ⟨o, es, ep, hidT_get eo (free eo ed), ed, rr⟩
    have Kb : K.In (hidT s1.heap H) := fun b o e => hidT_get (KX b o e) (by
      cases q : H b with
      | none => rfl
      | some u =>
        have eb : b = a := only b (by rw [q]; simp)
        rw [eb] at e q
        rw [noK (by rw [q]; simp)] at e
        cases e)
    have M : Mod K mg (hidT s1.heap H) := ⟨Kb, nsK hns, ⟨mb, nsK hbn, hbb⟩, let ⟨mc, z1, z2⟩ := hlim; ⟨mc, nsK z1, z2⟩⟩
    have e0 : Env0 P w K mg (hidT s1.heap H) callerA [] s1 H := ⟨rfl, M, fun b o e => of_hidT e, Nat.le_of_eq (hidT_size _ _), trivial, fun b z => absurd (show b ∈ ([] : List Addr) from z) (by simp), hok, .of_eq hg⟩
    refine codeAny_mono ((F _ Kb (nsK hns)).run callerA [] s1 H ⟨[.ref a], []⟩ [.ref a] [.ref a] _ _ hr e0 (hbind s1 (.ref a)) (.cons rfl .nil) (hsp H hS)) fun rr s2 h => ?_
    cases rr with
    | error e => obtain ⟨_, _, _, _, _, _, _, _, _, _, _, _, z⟩ := h; exact z.elim
    | ok fl =>
      cases fl with
      | next => exact h.elim
      | brk => exact h.elim
      | cont => exact h.elim
      | ret u =>
        obtain ⟨v, H2, os, bare, un, hok2, r2, q⟩ := h
        obtain rfl : v = .bl true := q
        obtain rfl : u = Value.bool true := r2
        refine ⟨rfl, OldK.of_keep fun b o e => ?_, os, bare⟩
        cases q : H b with
        | none => exact un.keep b o e q (fun z => absurd (show b ∈ ([] : List Addr) from z) (by simp)) (by simp)
        | some u =>
          rcases hO b with z | ⟨ob, xs, z⟩
          · rw [q] at z; cases z
          · obtain ⟨z1, _⟩ := hok b _ z
            obtain ⟨z2, _⟩ := hok2 b _ (un.frzs b ob _ z)
            rw [e] at z1; cases z1
            exact z2
  by_cases hk : K.lookup a = none
  · refine go (fun b => if b = a then some (.frz { cls := .type "list", data := .seq us.toArray } (.lst (ns.map V.int))) else none) (fun b => ?_) (.inl (.inr ⟨_, if_pos rfl⟩)) (fun b o e => ?_) (fun b hb => ?_) fun _ => hk
    · by_cases e : b = a
      · exact .inr ⟨_, _, if_pos e⟩
      · exact .inl (if_neg e)
    · by_cases eb : b = a
      · have e2 := (if_pos eb).symm.trans e
        subst eb
        cases e2
        exact ⟨ha, by rw [List.length_map]; exact hl, us, _, rv, ha⟩
      · exact nomatch ((if_neg eb).symm.trans e)
    · by_cases eb : b = a
      · exact eb
      · exact absurd (if_neg eb) hb
  · obtain ⟨o, ho⟩ : ∃ o, K.lookup a = some o := by
      cases q : K.lookup a with
      | none => exact absurd q hk
      | some o => exact ⟨o, rfl⟩
    have eo := KX _ _ ho
    rw [ha] at eo
    cases eo
    refine go (fun _ => none) (fun b => .inl rfl) (.inr ⟨_, us.toArray, _, ho, rfl, rfl, rfl, by rw [List.size_toArray, ← rv.length, List.length_map]; exact hl, rv⟩) (fun b o e => nomatch (show (none : Option HO) = some o from e)) (fun b hb => absurd rfl hb) fun z => absurd rfl z
theorem walk_law {l : PySem.W.OpenLaw} {n k : Nat} {q : Program} {loose : List Str} {XP : (Str → Option Value) → Heap → Prop} {YP : World → Heap → Prop} {d : DefRec} {x : Str}
    (hn : l.most = some n) (hn2 : n ≤ sizeLine) (hdf : d.params.defaults = []) (hr : Rm k callerA)
    (F : ∀ (w : World) (mg : Str → Option Value) (fa : Addr) (h : Heap), YP w h → h.Ns mainGlobals mg → mg d.name = some (.ref fa) →
      ∃ (K : PySem.W.Frag) (fd : FuncData) (sp : Sp), K.In h ∧ (∀ (s : Shared) (u : Value), BindsTo s fd ⟨[u], []⟩ [(x, u)]) ∧
        (∀ (H : Hp) (a : Addr) (ns : List Int), ns.length ≤ n → SqL K H a (ns.map V.int) → sp [.ref a] H (fun v _ => v = .bl true) fun _ _ _ => False) ∧
        ∀ base : Heap, K.In base → base.Ns mainGlobals mg → Fk l.prog w K mg base k fa fd [x] sp) :
    PySem.W.WalkO q loose XP YP l.row.toRowW d [] (fun f vs => PySem.call f vs) := by
  refine Att.attach_call hn hdf fun w s0 s1 mg mb fa o pm cd doc a vs ns G Y ho hd hcd hmg hobj hints hlen hg => ?_
  obtain ⟨K, fd, sp, KX, hb, hsp, hF⟩ := F w mg fa _ Y G.T.g hmg
  exact law_at KX G.T.g G.T.b G.T.builtins G.T.nolimit hg hobj hints (Nat.le_trans hlen hn2) hr hF hb fun H hS => hsp H a ns hlen hS
end SJ

/-! SJC: calls of defs, classes, methods, properties, with what may be raised at the slots. -/
namespace SJ
open PySem PySem.Spec PyProof.Rows L2 He
abbrev W0 : WX := fun _ _ _ _ => False
/-- f(a ..) -/
def tFn (sp : Sp) (dv : List V) (W : WX) (ta : TA) : TE := fun σ H Q => ta σ H fun vs H1 => sp (vs ++ dv) H1 Q (WE W σ)
/-- f(a .., k = b ..) -/
def tFnK (n m : Nat) (sp : Sp) (gV : List V → List V → List V) (W : WX) (ta tk : TA) : TE := fun σ H Q => ta σ H fun vs H1 => tk σ H1 fun zs H2 => vs.length = n ∧ zs.length = m ∧ sp (gV vs zs) H2 Q (WE W σ)
/-- C(a ..) -/
def tNw (C : Addr) (sp : Sp) (dv : List V) (W : WX) (ta : TA) : TE := fun σ H Q => ta σ H fun vs H1 => ∀ x dx, H1 x = none → H1 dx = none → dx ≠ x →
  sp (.ref x :: (vs ++ dv)) (upd (upd H1 dx (.own x)) x (.ins C dx [])) (fun v H2 => v = .non ∧ Q (.ref x) H2) (WE W σ)
def tNwK (C : Addr) (n m : Nat) (sp : Sp) (gV : List V → List V → List V) (W : WX) (ta tk : TA) : TE := fun σ H Q => ta σ H fun vs H1 => tk σ H1 fun zs H2 => vs.length = n ∧ zs.length = m ∧ ∀ x dx, H2 x = none → H2 dx = none → dx ≠ x →
  sp (gV (.ref x :: vs) zs) (upd (upd H2 dx (.own x)) x (.ins C dx [])) (fun v H3 => v = .non ∧ Q (.ref x) H3) (WE W σ)
/-- o.m(a ..): of any class that has the def at g as m -/
def tMt (K : PySem.W.Frag) (m : Str) (g : Addr) (sp : Sp) (dv : List V) (W : WX) (to : TE) (ta : TA) : TE := fun σ H Q => to σ H fun x H1 => ∃ a C dx fs, x = .ref a ∧ H1 a = some (.ins C dx fs) ∧ Cls K C ∧ Meth K C m g ∧ fs.lookup m = none ∧
  ta σ H1 fun vs H2 => sp (x :: (vs ++ dv)) H2 Q (WE W σ)
def tMtK (K : PySem.W.Frag) (m : Str) (g : Addr) (n l : Nat) (sp : Sp) (gV : List V → List V → List V) (W : WX) (to : TE) (ta tk : TA) : TE := fun σ H Q => to σ H fun x H1 => ∃ a C dx fs, x = .ref a ∧ H1 a = some (.ins C dx fs) ∧ Cls K C ∧ Meth K C m g ∧ fs.lookup m = none ∧
  ta σ H1 fun vs H2 => tk σ H2 fun zs H3 => vs.length = n ∧ zs.length = l ∧ sp (gV (x :: vs) zs) H3 Q (WE W σ)
/-- o.f, a property -/
def tPr (K : PySem.W.Frag) (f : Str) (g : Addr) (sp : Sp) (to : TE) : TE := fun σ H Q => to σ H fun x H1 => ∃ a C dx fs pp, x = .ref a ∧ H1 a = some (.ins C dx fs) ∧ Cls K C ∧ PropOf K C f pp g ∧ sp [x] H1 Q E0
/-- how a method's call is read -/
abbrev mcl (X : Cx) (o : Expr) (m : Str) (ap : Pos) (pl : Sem Bool) (pos : Pos) (es : List Expr) (kws : List Keyword) : Sem Value := do
  let w0 ← eval o X.env
  standAt ap.atName
  let (g0, a0) ← holding [w0] (getMethod w0 m pl); callWith pos g0 a0 (backTo pos (starEach es X.env)) (backToKw pos (keywordEach kws X.env))
section
variable {X : Cx} {k n : Nat} {f C : Addr} {fd : FuncData} {ps ks : List Str} {sp : Sp} {dv : List V} {ds : List Value} {W : WX} {x m : Str} {p pos apos : Pos} {e o : Expr} {es : List Expr} {kws : List Keyword} {to : TE} {ta tk : TA} {mm : Nat} {g : List Value → List Value → List Value} {gV : List V → List V → List V}
/-- the callee runs, arguments and keywords bound -/
theorem run_g {pins : List (Addr × Obj)} {σ : L2.St} {H : Hp} {s : Shared} {Q : VK} {args : Args} {us : List Value} {vs : List V} (F : Fk X.prog X.w X.K X.mg X.base k f fd ps sp) (hr : Rm k X.A) (tk : Takes X W)
    (I : Inv X pins σ H s) (hb : BindsTo s fd args (ps.zip us)) (rv : Vals vs us) (h : sp vs H Q (WE W σ)) : wpAny (model X.prog X.w) X.A (call (.ref f) args.pos args.kw) (EP X pins σ Q) X.xe s := by
  refine wpAny_call (codeAny_mono (F.run X.A X.stack s H args us vs Q (WE W σ) hr I.env0 hb rv h) fun rr s2 hq => ?_)
  cases rr with
  | error er => exact passAt tk σ pins H s er s2 I hq
  | ok fl =>
    cases fl with
    | ret u => exact I.after hq
    | next => exact hq.elim
    | brk => exact hq.elim
    | cont => exact hq.elim
/-- .. with the defaults behind -/
theorem run_d {pins : List (Addr × Obj)} {σ : L2.St} {H : Hp} {s : Shared} {Q : VK} {us : List Value} {vs : List V} (F : Fk X.prog X.w X.K X.mg X.base k f fd ps sp) (hr : Rm k X.A) (hb : Binds X.K fd ps ds) (hd : Vals dv ds) (tk : Takes X W)
    (I : Inv X pins σ H s) (rv : Vals vs us) (h : sp (vs ++ dv) H Q (WE W σ)) : wpAny (model X.prog X.w) X.A (call (.ref f) us) (EP X pins σ Q) X.xe s := by
  have r2 : Vals (vs ++ dv) (us ++ ds) := rv.append hd
  exact run_g (args := ⟨us, []⟩) F hr tk I (hb s us I.kIn (by rw [← r2.length]; exact F.len _ _ _ _ h)) r2 h
theorem pe_fn (F : Fk X.prog X.w X.K X.mg X.base k f fd ps sp) (hr : Rm k X.A) (hg : Gl X x) (hm : X.mg x = some (.ref f)) (hk : PySem.W.keepIn X.K (.ref f) = true) (hb : Binds X.K fd ps ds) (hd : Vals dv ds) (tk : Takes X W)
    (ha : PA X (e :: es) ta) (hdb : (x == ("__debug__" : Str)) = false := by decide) (he : starEach (e :: es) X.env = (false, eval e X.env) :: starEach es X.env := by rfl) (hpl : (backTo pos (starEach es X.env)).any (·.1) = false := by rfl) :
    PE X (.Call (.Name x p) (e :: es) [] pos) (tFn sp dv W ta) := by
  refine ⟨fun pins s σ H Q I h => wpAny_Call_Name_kw (ld_glob I hg hm ?_ hdb)⟩
  refine PySem.W.callWith_K (h₀ := X.base) I.ok.mod.kin hk (thn (ha.run pos pins s σ H _ I h) fun us s1 ⟨vs, H1, I1, r1, q1⟩ => ⟨I1.kIn, ?_⟩) he hpl
  exact run_d F hr hb hd tk I1 r1 q1
theorem pe_fn0 (F : Fk X.prog X.w X.K X.mg X.base k f fd ps sp) (hr : Rm k X.A) (hg : Gl X x) (hm : X.mg x = some (.ref f)) (hk : PySem.W.keepIn X.K (.ref f) = true) (hb : Binds X.K fd ps ds) (hd : Vals dv ds) (tk : Takes X W)
    (hdb : (x == ("__debug__" : Str)) = false := by decide) : PE X (.Call (.Name x p) [] [] pos) (tFn sp dv W tNil) := by
  refine ⟨fun pins s σ H Q I h => wpAny_Call_Name_kw (ld_glob I hg hm ?_ hdb)⟩
  exact PySem.W.callWith_K0 I.kIn hk (run_d (us := []) (vs := []) F hr hb hd tk I .nil h)
theorem pe_fnK (F : Fk X.prog X.w X.K X.mg X.base k f fd ps sp) (hr : Rm k X.A) (hg : Gl X x) (hm : X.mg x = some (.ref f)) (hk : PySem.W.keepIn X.K (.ref f) = true) (hb : KBn X.K fd ps n ks g gV) (tks : Takes X W)
    (ha : PA X (e :: es) ta) (hkw : PK X kws tk) (hall : (backToKw pos (keywordEach kws X.env)).all (·.1.isSome) = true := by rfl) (hks : (backToKw pos (keywordEach kws X.env)).filterMap (·.1) = ks := by rfl) (hmm : ks.length = mm := by rfl)
    (hdb : (x == ("__debug__" : Str)) = false := by decide) (he : starEach (e :: es) X.env = (false, eval e X.env) :: starEach es X.env := by rfl)
    (hpl : ((backTo pos (starEach (e :: es) X.env)).any (·.1) || (backToKw pos (keywordEach kws X.env)).any (·.1.isNone)) = false := by rfl) :
    PE X (.Call (.Name x p) (e :: es) kws pos) (tFnK n mm sp gV W ta tk) := by
  refine ⟨fun pins s σ H Q I h => wpAny_Call_Name_kw (ld_glob I hg hm ?_ hdb)⟩
  refine PySem.W.callWith_KW (h₀ := X.base) I.ok.mod.kin hk hall (thn (ha.run pos pins s σ H _ I h) fun us s1 ⟨vs, H1, I1, r1, q1⟩ => ?_) hpl he
  refine thn (hkw.run pos pins s1 σ H1 _ I1 q1) fun ws s2 ⟨zs, H2, I2, rz, l1, l2, q2⟩ => ⟨I2.kIn, ?_⟩
  rw [hks]
  subst hmm
  exact run_g (args := ⟨us, ks.zip ws⟩) F hr tks I2 (hb.to s2 us ws I2.kIn (r1.length.symm.trans l1) (rz.length.symm.trans l2)) (hb.rel r1 rz) q2
theorem pe_fnK0 (F : Fk X.prog X.w X.K X.mg X.base k f fd ps sp) (hr : Rm k X.A) (hg : Gl X x) (hm : X.mg x = some (.ref f)) (hk : PySem.W.keepIn X.K (.ref f) = true) (hb : KBn X.K fd ps 0 ks g gV) (tks : Takes X W)
    (hkw : PK X kws tk) (hall : (backToKw pos (keywordEach kws X.env)).all (·.1.isSome) = true := by rfl) (hks : (backToKw pos (keywordEach kws X.env)).filterMap (·.1) = ks := by rfl) (hmm : ks.length = mm := by rfl)
    (hdb : (x == ("__debug__" : Str)) = false := by decide) (hpl : ((backTo pos (starEach [] X.env)).any (·.1) || (backToKw pos (keywordEach kws X.env)).any (·.1.isNone)) = false := by rfl) :
    PE X (.Call (.Name x p) [] kws pos) (tFnK 0 mm sp gV W tNil tk) := by
  refine ⟨fun pins s σ H Q I h => wpAny_Call_Name_kw (ld_glob I hg hm ?_ hdb)⟩
  refine PySem.W.callWith_KW0 (h₀ := X.base) I.ok.mod.kin hk hall ?_ hpl
  refine thn (hkw.run pos pins s σ H _ I h) fun ws s2 ⟨zs, H2, I2, rz, l1, l2, q2⟩ => ⟨I2.kIn, ?_⟩
  rw [hks]
  subst hmm
  exact run_g (args := ⟨[], ks.zip ws⟩) F hr tks I2 (hb.to s2 [] ws I2.kIn rfl (rz.length.symm.trans l2)) (hb.rel .nil rz) q2
/-- a new instance -/
theorem run_nw {pins : List (Addr × Obj)} {σ : L2.St} {H : Hp} {s : Shared} {Q : VK} {us : List Value} {kw : List (Str × Value)} {bs : Value → List Value} {bv : V → List V} (M : Mk X.K C f) (F : Fk X.prog X.w X.K X.mg X.base k f fd ps sp) (hr : Rm (k + 1) X.A) (tk : Takes X W)
    (I : Inv X pins σ H s) (hb : ∀ (a : Addr) (s2 : Shared), X.K.In s2.heap → BindsTo s2 fd ⟨.ref a :: us, kw⟩ (ps.zip (bs (.ref a)))) (rv : ∀ a : Addr, Vals (bv (.ref a)) (bs (.ref a)))
    (h : ∀ x dx, H x = none → H dx = none → dx ≠ x → sp (bv (.ref x)) (upd (upd H dx (.own x)) x (.ins C dx [])) (fun v H2 => v = .non ∧ Q (.ref x) H2) (WE W σ)) :
    wpAny (model X.prog X.w) X.A (call (.ref C) us kw) (EP X pins σ Q) X.xe s := by
  have hq := h (s.heap.objs.size + 1) s.heap.objs.size (I.hok.fresh (Nat.le_succ _)) (I.hok.fresh (Nat.le_refl _)) (Nat.ne_of_lt (Nat.lt_succ_self _))
  have J := Inv.made (C := C) I
  refine wpAny_call (make_map (f := f) I.kIn M.makes M.init (beq_iff_eq.mp M.fn) (codeAny_mono (F.run _ X.stack _ _ ⟨Value.ref (s.heap.objs.size + 1) :: us, kw⟩ _ _ _ (WE W σ) (hr.make C us kw)
    (J.env0.make C us kw) (hb _ _ J.kIn) (rv _) hq) fun rr s2 hq2 => ?_))
  cases rr with
  | error er => exact passAt tk σ pins _ _ er s2 J hq2
  | ok fl =>
    cases fl with
    | ret u =>
      obtain ⟨v, H3, I3, r3, ev, q3⟩ := J.after hq2
      subst ev
      exact ⟨r3, ⟨V.ref (s.heap.objs.size + 1), H3, I3, rfl, q3⟩⟩
    | next => exact hq2.elim
    | brk => exact hq2.elim
    | cont => exact hq2.elim
theorem pe_nw (M : Mk X.K C f) (F : Fk X.prog X.w X.K X.mg X.base k f fd ps sp) (hr : Rm (k + 1) X.A) (hg : Gl X x) (hm : X.mg x = some (.ref C)) (hb : Binds X.K fd ps ds) (hd : Vals dv ds) (tk : Takes X W)
    (ha : PA X (e :: es) ta) (hdb : (x == ("__debug__" : Str)) = false := by decide) (he : starEach (e :: es) X.env = (false, eval e X.env) :: starEach es X.env := by rfl) (hpl : (backTo pos (starEach es X.env)).any (·.1) = false := by rfl) :
    PE X (.Call (.Name x p) (e :: es) [] pos) (tNw C sp dv W ta) := by
  refine ⟨fun pins s σ H Q I h => wpAny_Call_Name_kw (ld_glob I hg hm ?_ hdb)⟩
  refine PySem.W.callWith_K (h₀ := X.base) I.ok.mod.kin M.kp (thn (ha.run pos pins s σ H _ I h) fun us s1 ⟨vs, H1, I1, r1, q1⟩ => ⟨I1.kIn, ?_⟩) he hpl
  have hz := q1 (s1.heap.objs.size + 1) s1.heap.objs.size (I1.hok.fresh (Nat.le_succ _)) (I1.hok.fresh (Nat.le_refl _)) (Nat.ne_of_lt (Nat.lt_succ_self _))
  have hn := F.len _ _ _ _ hz
  have hu : ∀ a : Addr, (Value.ref a :: us ++ ds).length = ps.length := fun a => by
    rw [← hn]
    show (us ++ ds).length + 1 = (vs ++ dv).length + 1
    rw [List.length_append, List.length_append, r1.length, hd.length]
  exact run_nw (kw := []) (bs := fun z => z :: us ++ ds) (bv := fun z => z :: (vs ++ dv)) M F hr tk I1 (fun a s2 kin => hb s2 (.ref a :: us) kin (hu a)) (fun a => .cons rfl (r1.append hd)) q1
theorem pe_nwK0 (M : Mk X.K C f) (F : Fk X.prog X.w X.K X.mg X.base k f fd ps sp) (hr : Rm (k + 1) X.A) (hg : Gl X x) (hm : X.mg x = some (.ref C)) (hb : KBn X.K fd ps 1 ks g gV) (tks : Takes X W) (hkw : PK X kws tk)
    (hall : (backToKw pos (keywordEach kws X.env)).all (·.1.isSome) = true := by rfl) (hks : (backToKw pos (keywordEach kws X.env)).filterMap (·.1) = ks := by rfl) (hmm : ks.length = mm := by rfl) (hdb : (x == ("__debug__" : Str)) = false := by decide)
    (hpl : ((backTo pos (starEach [] X.env)).any (·.1) || (backToKw pos (keywordEach kws X.env)).any (·.1.isNone)) = false := by rfl) :
    PE X (.Call (.Name x p) [] kws pos) (tNwK C 0 mm sp gV W tNil tk) := by
  refine ⟨fun pins s σ H Q I h => wpAny_Call_Name_kw (ld_glob I hg hm ?_ hdb)⟩
  refine PySem.W.callWith_KW0 (h₀ := X.base) I.ok.mod.kin M.kp hall ?_ hpl
  refine thn (hkw.run pos pins s σ H _ I h) fun ws s2 ⟨zs, H2, I2, rz, l1, l2, q2⟩ => ⟨I2.kIn, ?_⟩
  rw [hks]
  subst hmm
  exact run_nw (us := []) (kw := ks.zip ws) (bs := fun z => g [z] ws) (bv := fun z => gV [z] zs) M F hr tks I2 (fun a s3 kin => hb.to s3 [.ref a] ws kin rfl (rz.length.symm.trans l2)) (fun a => hb.rel (.cons rfl .nil) rz) q2
theorem pe_nwK (M : Mk X.K C f) (F : Fk X.prog X.w X.K X.mg X.base k f fd ps sp) (hr : Rm (k + 1) X.A) (hg : Gl X x) (hm : X.mg x = some (.ref C)) (hb : KBn X.K fd ps (n + 1) ks g gV) (tks : Takes X W) (ha : PA X (e :: es) ta) (hkw : PK X kws tk)
    (hall : (backToKw pos (keywordEach kws X.env)).all (·.1.isSome) = true := by rfl) (hks : (backToKw pos (keywordEach kws X.env)).filterMap (·.1) = ks := by rfl) (hmm : ks.length = mm := by rfl) (hdb : (x == ("__debug__" : Str)) = false := by decide)
    (he : starEach (e :: es) X.env = (false, eval e X.env) :: starEach es X.env := by rfl) (hpl : ((backTo pos (starEach (e :: es) X.env)).any (·.1) || (backToKw pos (keywordEach kws X.env)).any (·.1.isNone)) = false := by rfl) :
    PE X (.Call (.Name x p) (e :: es) kws pos) (tNwK C n mm sp gV W ta tk) := by
  refine ⟨fun pins s σ H Q I h => wpAny_Call_Name_kw (ld_glob I hg hm ?_ hdb)⟩
  refine PySem.W.callWith_KW (h₀ := X.base) I.ok.mod.kin M.kp hall (thn (ha.run pos pins s σ H _ I h) fun us s1 ⟨vs, H1, I1, r1, q1⟩ => ?_) hpl he
  refine thn (hkw.run pos pins s1 σ H1 _ I1 q1) fun ws s2 ⟨zs, H2, I2, rz, l1, l2, q2⟩ => ⟨I2.kIn, ?_⟩
  rw [hks]
  subst hmm
  exact run_nw (us := us) (kw := ks.zip ws) (bs := fun z => g (z :: us) ws) (bv := fun z => gV (z :: vs) zs) M F hr tks I2 (fun a s3 kin => hb.to s3 (.ref a :: us) ws kin (by rw [List.length_cons, ← r1.length, l1]) (rz.length.symm.trans l2)) (fun a => hb.rel (.cons rfl r1) rz) q2
theorem pe_mt {pl : Sem Bool} (ho : PE X o to) (F : Fk X.prog X.w X.K X.mg X.base k f fd ps sp) (hr : Rm k X.A) (hb : Binds X.K fd ps ds) (hd : Vals dv ds) (tk : Takes X W) (ha : PA X (e :: es) ta)
    (hst : starEach (e :: es) X.env = (false, eval e X.env) :: starEach es X.env := by rfl) (hpl : (backTo pos (starEach es X.env)).any (·.1) = false := by rfl)
    (ht : eval (.Call (.Attribute o m apos) (e :: es) [] pos) X.env = mcl X o m apos pl pos (e :: es) [] := by rfl) :
    PE X (.Call (.Attribute o m apos) (e :: es) [] pos) (tMt X.K m f sp dv W to ta) := by
  refine ⟨fun pins s σ H Q I h => ?_⟩
  refine PySem.W.methodCall_KW (pl := pl) (thn (ho.run pins s σ H _ I h) fun u s1 ⟨y, H1, I1, ry, a, C, dx, fs, ey, ea, c, hm, l, q⟩ => ?_) ht
  subst ey
  obtain rfl : u = Value.ref a := ry
  refine getmeth_ok I1 ea c hm l ?_
  refine PySem.W.callWith_K (first := [.ref a]) (h₀ := X.base) I.ok.mod.kin hm.kp (thn (ha.run pos pins s1 σ H1 _ I1 q) fun us s2 ⟨vs, H2, I2, r2, q2⟩ => ⟨I2.kIn, ?_⟩) hst hpl
  exact run_d (us := .ref a :: us) (vs := .ref a :: vs) F hr hb hd tk I2 (.cons rfl r2) q2
theorem pe_mt0 {pl : Sem Bool} (ho : PE X o to) (F : Fk X.prog X.w X.K X.mg X.base k f fd ps sp) (hr : Rm k X.A) (hb : Binds X.K fd ps ds) (hd : Vals dv ds) (tk : Takes X W)
    (ht : eval (.Call (.Attribute o m apos) [] [] pos) X.env = mcl X o m apos pl pos [] [] := by rfl) :
    PE X (.Call (.Attribute o m apos) [] [] pos) (tMt X.K m f sp dv W to tNil) := by
  refine ⟨fun pins s σ H Q I h => ?_⟩
  refine PySem.W.methodCall_KW (pl := pl) (thn (ho.run pins s σ H _ I h) fun u s1 ⟨y, H1, I1, ry, a, C, dx, fs, ey, ea, c, hm, l, q⟩ => ?_) ht
  subst ey
  obtain rfl : u = Value.ref a := ry
  refine getmeth_ok I1 ea c hm l ?_
  exact PySem.W.callWith_K0 (first := [.ref a]) I1.kIn hm.kp (run_d (us := [.ref a]) (vs := [.ref a]) F hr hb hd tk I1 (.cons rfl .nil) q)
theorem pe_mtK {pl : Sem Bool} (ho : PE X o to) (F : Fk X.prog X.w X.K X.mg X.base k f fd ps sp) (hr : Rm k X.A) (hb : KBn X.K fd ps (n + 1) ks g gV) (tks : Takes X W) (ha : PA X (e :: es) ta) (hkw : PK X kws tk)
    (hall : (backToKw pos (keywordEach kws X.env)).all (·.1.isSome) = true := by rfl) (hks : (backToKw pos (keywordEach kws X.env)).filterMap (·.1) = ks := by rfl) (hmm : ks.length = mm := by rfl)
    (hst : starEach (e :: es) X.env = (false, eval e X.env) :: starEach es X.env := by rfl) (hpl : ((backTo pos (starEach (e :: es) X.env)).any (·.1) || (backToKw pos (keywordEach kws X.env)).any (·.1.isNone)) = false := by rfl)
    (ht : eval (.Call (.Attribute o m apos) (e :: es) kws pos) X.env = mcl X o m apos pl pos (e :: es) kws := by rfl) :
    PE X (.Call (.Attribute o m apos) (e :: es) kws pos) (tMtK X.K m f n mm sp gV W to ta tk) := by
  refine ⟨fun pins s σ H Q I h => ?_⟩
  refine PySem.W.methodCall_KW (pl := pl) (thn (ho.run pins s σ H _ I h) fun u s1 ⟨y, H1, I1, ry, a, C, dx, fs, ey, ea, c, hm, l, q⟩ => ?_) ht
  subst ey
  obtain rfl : u = Value.ref a := ry
  refine getmeth_ok I1 ea c hm l ?_
  refine PySem.W.callWith_KW (first := [.ref a]) (h₀ := X.base) I.ok.mod.kin hm.kp hall (thn (ha.run pos pins s1 σ H1 _ I1 q) fun us s2 ⟨vs, H2, I2, r2, q2⟩ => ?_) hpl hst
  refine thn (hkw.run pos pins s2 σ H2 _ I2 q2) fun ws s3 ⟨zs, H3, I3, rz, l1, l2, q3⟩ => ⟨I3.kIn, ?_⟩
  rw [hks]
  subst hmm
  exact run_g (args := ⟨.ref a :: us, ks.zip ws⟩) F hr tks I3 (hb.to s3 (.ref a :: us) ws I3.kIn (by rw [List.length_cons, ← r2.length, l1]) (rz.length.symm.trans l2)) (hb.rel (.cons (show RelV (.ref a) (.ref a) from rfl) r2) rz) q3
theorem pe_mtK0 {pl : Sem Bool} (ho : PE X o to) (F : Fk X.prog X.w X.K X.mg X.base k f fd ps sp) (hr : Rm k X.A) (hb : KBn X.K fd ps 1 ks g gV) (tks : Takes X W) (hkw : PK X kws tk)
    (hall : (backToKw pos (keywordEach kws X.env)).all (·.1.isSome) = true := by rfl) (hks : (backToKw pos (keywordEach kws X.env)).filterMap (·.1) = ks := by rfl) (hmm : ks.length = mm := by rfl)
    (hpl : ((backTo pos (starEach [] X.env)).any (·.1) || (backToKw pos (keywordEach kws X.env)).any (·.1.isNone)) = false := by rfl)
    (ht : eval (.Call (.Attribute o m apos) [] kws pos) X.env = mcl X o m apos pl pos [] kws := by rfl) :
    PE X (.Call (.Attribute o m apos) [] kws pos) (tMtK X.K m f 0 mm sp gV W to tNil tk) := by
  refine ⟨fun pins s σ H Q I h => ?_⟩
  refine PySem.W.methodCall_KW (pl := pl) (thn (ho.run pins s σ H _ I h) fun u s1 ⟨y, H1, I1, ry, a, C, dx, fs, ey, ea, c, hm, l, q⟩ => ?_) ht
  subst ey
  obtain rfl : u = Value.ref a := ry
  refine getmeth_ok I1 ea c hm l ?_
  refine PySem.W.callWith_KW0 (first := [.ref a]) (h₀ := X.base) I.ok.mod.kin hm.kp hall ?_ hpl
  refine thn (hkw.run pos pins s1 σ H1 _ I1 q) fun ws s3 ⟨zs, H3, I3, rz, l1, l2, q3⟩ => ⟨I3.kIn, ?_⟩
  rw [hks]
  subst hmm
  exact run_g (args := ⟨[.ref a], ks.zip ws⟩) F hr tks I3 (hb.to s3 [.ref a] ws I3.kIn rfl (rz.length.symm.trans l2)) (hb.rel (.cons (show RelV (.ref a) (.ref a) from rfl) .nil) rz) q3
/-- a property, nothing raised -/
theorem pe_pr (ho : PE X o to) (F : Fk X.prog X.w X.K X.mg X.base k f fd ps sp) (hr : Rm (k + 1) X.A) (hb : Binds X.K fd ps []) (hab : attributeBase o m X.env (eval o X.env) = eval o X.env) : PE X (.Attribute o m pos) (tPr X.K m f sp to) := by
  refine ⟨fun pins s σ H Q I h => attr_of hab (thn (ho.run pins s σ H _ I h) fun u s1 ⟨y, H1, I1, ry, a, C, dx, fs, pp, ey, ea, c, hp, q⟩ => ?_)⟩
  subst ey
  obtain rfl : u = Value.ref a := ry
  obtain ⟨mA, O, _, _, _, _⟩ := ins_get I1.hok ea
  obtain ⟨od, J, _⟩ := O.look
  obtain ⟨rest, hrec⟩ := hp.rec_
  have I2 := I1.tok (s1.toks + 1)
  have hc : (PySem.W.clsIn X.K C).isSome = true := by
    obtain ⟨cd, hc, _⟩ := PySem.W.any_some c.hd
    rw [hc] <;> rfl
  have hl : [Value.ref a].length = ps.length := (F.len _ _ _ _ q).symm ▸ rfl
  have b := hb { s1 with toks := s1.toks + 1 } [Value.ref a] I2.kIn (by rw [List.append_nil]; exact hl)
  rw [List.append_nil] at b
  have e0 := I2.env0.in1
  refine PySem.W.get_bind I1.kIn J (PySem.W.plainGet_of (c.get m)).1 (PySem.W.findObj_data hc hp.at_ hp.get hp.tak) (PySem.W.plainGet_of (c.get m)).2 (wpAny_call (PySem.W.prop_get (s := { s1 with toks := s1.toks + 1 }) I1.kIn hrec ?_))
  refine codeAny_mono (F.run X.A.in1 X.stack { s1 with toks := s1.toks + 1 } H1 ⟨[.ref a], []⟩ [.ref a] [.ref a] Q E0 hr.in1 e0 b (.cons rfl .nil) q) fun rr s2 hq => ?_
  cases rr with
  | error er => obtain ⟨_, _, _, _, _, _, _, _, _, _, _, _, z⟩ := hq; exact z.elim
  | ok fl =>
    cases fl with
    | ret u2 =>
      obtain ⟨v, H3, I3, rv, q3⟩ := I2.after hq
      show wpAny _ _ (handedOut u2) _ _ _
      rw [PySem.W.handedOut_of (handed_of rv)]
      exact wpAny_pure ⟨v, H3, I3, rv, q3⟩
    | next => exact hq.elim
    | brk => exact hq.elim
    | cont => exact hq.elim
end
end SJ

/-! SJO: the special methods of the text's own classes: ==, !=, str, repr, len. -/
namespace SJ
open PySem PySem.Spec PyProof.Rows L2 He
section
variable {prog : Program} {w : World} {A : Around} {E : Value → Shared → Prop} {s : Shared} {K : PySem.W.Frag} {x y C C2 L f : Addr} {h0 : Heap} {m : Str → Option Value} {ox oy : Obj} {od od2 : Option Obj}
/-- the right operand's class lies below the left one's: it is asked first -/
theorem cmp_below {op : CmpOp} {Q : Value → Shared → Prop} (hu : A.units < cLine) (X : K.In s.heap) (I : PySem.W.InstAt s.heap x ox C od) (J : PySem.W.InstAt s.heap y oy C2 od2) (hne : C2 ≠ C) (hsub : PySem.W.subIn K (.ref C2) (.ref C) = some true)
    (hs : PySem.W.findIn K (.ref C2) (cmpInfo op).2.2 = some (some (.ref f))) (hf : PySem.W.isFn K (.ref f) = true)
    (h : wpAny (model prog w) A (call (.ref f) [.ref y, .ref x]) (PySem.W.CmpBack Q) E s) : wpAny (model prog w) A (richCompare op (.ref x) (.ref y)) Q E s := by
  have one : wpAny (model prog w) A (tryCompare (.ref y) (cmpInfo op).2.2 (.ref x)) (fun rr s2 => ∃ v, rr = some v ∧ Q v s2) E s := by
    unfold tryCompare
    refine wpAny_bind (PySem.W.ifBound_K X J hs hf (wpAny_mono h (fun v s2 hv => ?_) fun _ _ z => z))
    cases v <;> first | exact hv.elim | exact wpAny_pure ⟨_, rfl, hv⟩
  unfold richCompare
  simp only [oneThing_ref]
  refine wpAny_holding (wpAny_bind (wpAny_cRoomFor hu ?_))
  refine wpAny_bind (I.type.here (wpAny_bind (J.type.here ?_)))
  have nb : (Value.ref C != Value.ref C2) = true := by simpa using (Ne.symm hne)
  rw [nb]
  refine wpAny_bind ((PySem.W.looks_subIn X hsub).here ?_)
  refine wpAny_bind (wpAny_mono one (fun rr s2 z => ?_) fun _ _ z => z)
  obtain ⟨v, rfl, hq⟩ := z
  show wpAny _ _ (rule "compare.subclass-reflected-first" >>= fun _ => pure v) _ _ _
  repeat (first | exact wpAny_pure hq | wp_step)
/-- an own class without __ne__: what __eq__ says, turned -/
theorem ifBound_ne {args : List Value} {Q : Option Value → Shared → Prop} (X : K.In s.heap) (I : PySem.W.InstAt s.heap x ox C od) (hs : PySem.W.findIn K (.ref C) "__ne__" = some (some (.builtin "object.__ne__")))
    (h : wpAny (model prog w) A (call (.builtin "object.__ne__") (.ref x :: args)) (fun v => Q (some v)) E s) : wpAny (model prog w) A (callSpecialIfBound? (.ref x) "__ne__" args) Q E s := by
  simp only [callSpecialIfBound?, bindSpecialIfBound?]
  refine wpAny_holding (wpAny_bind (wpAny_bind (wpAny_bind (I.type.here ((PySem.W.looks_findIn X hs).here ?_)))))
  refine wpAny_bind (wpAny_askSetting (wpAny_ite ?_))
  have fin : wpAny (model prog w) A (call (.builtin "object.__ne__") ([.ref x] ++ args) >>= fun v => pure (some v)) Q E s := wpAny_bind (wpAny_mono h (fun v s2 z => wpAny_pure z) fun _ _ z => z)
  have hb : bindSpecial (.builtin "object.__ne__") (.ref x) = pure (.builtin "object.__ne__", [.ref x]) := PySem.F.slot_object_ne.bind _
  split
  · exact wpAny_bind (wpAny_of_eq hb (wpAny_pure (by exact fin)))
  · exact wpAny_tryCatch (wpAny_bind (wpAny_of_eq hb (wpAny_pure (by exact fin))))
theorem call_ne {b : Value} {Q : Value → Shared → Prop} (hu : A.in1.units < cLine) (X : K.In s.heap) (I : PySem.W.InstAt s.heap x ox C od) (hm : PySem.W.mroIn K C (.type "object") = some true)
    (hs : PySem.W.findIn K (.ref C) "__eq__" = some (some (.ref f))) (hf : PySem.W.isFn K (.ref f) = true)
    (h : wpAny (model prog w) A.in1 (call (.ref f) [.ref x, b]) (fun v s2 => ∃ c, v = .bool c ∧ Q (.bool (!c)) s2) E s) : wpAny (model prog w) A (call (.builtin "object.__ne__") [.ref x, b]) Q E s := by
  refine wpAny_call (codeAny_call_builtin PySem.F.slot_object_ne.plain PySem.F.cmpEntry_ne (PySem.W.check_slot (i := "object.__ne__") (owner := "object") (n := "__ne__") PySem.F.cmpKind_ne PySem.F.cmpSplit_ne (I.type.andThen (PySem.W.looks_mroIn X hm)) (PySem.F.cmpArgs_ne _ _) ?_))
  unfold Builtin.«object.__ne__»
  repeat (first
    | with_reducible refine wpAny_cRoomFor hu ?_
    | (refine wpAny_bind (m := callSpecialIfBound? (.ref x) (Str.ofString "__eq__") [b]) (PySem.W.ifBound_K X I hs hf (wpAny_mono h (fun rr s2 hr => by
          obtain ⟨c, rfl, hq⟩ := hr
          repeat (first | exact hq | exact wpAny_pure hq | exact wpAny_truthy_bool hq | (refine wpAny_bind (m := truthy (.bool _)) (wpAny_truthy_bool ?_)) | exact ⟨_, rfl, hq⟩ | wp_step)) fun _ _ z => z)))
    | wp_step)
end

/-! ### over the layer -/
section
variable {X : Cx} {k : Nat} {f : Addr} {fd : FuncData} {ps : List Str} {sp : Sp}
/-- a def run at a deeper place, nothing raised -/
theorem run_at {A : Around} {pins : List (Addr × Obj)} {σ : L2.St} {H : Hp} {s : Shared} {Q : VK} {E : Value → Shared → Prop} {us : List Value} {vs : List V} (F : Fk X.prog X.w X.K X.mg X.base k f fd ps sp) (hr : Rm k A) (fr : A.frames = X.A.frames) (hb : Binds X.K fd ps [])
    (I : Inv X pins σ H s) (rv : Vals vs us) (h : sp vs H Q E0) : wpAny (model X.prog X.w) A (call (.ref f) us) (EP X pins σ Q) E s := by
  have hl : us.length = ps.length := by rw [← rv.length]; exact F.len _ _ _ _ h
  have b := hb s us I.kIn (by rw [List.append_nil]; exact hl)
  rw [List.append_nil] at b
  have e := I.env0
  refine wpAny_call (codeAny_mono (F.run A X.stack s H ⟨us, []⟩ us vs Q E0 hr ⟨by rw [fr]; exact e.frames, e.mod, e.bs, e.bsz, e.funs, e.frf, e.hok, e.bare⟩ b rv h) fun rr s2 hq => ?_)
  cases rr with
  | error er => obtain ⟨_, _, _, _, _, _, _, _, _, _, _, _, z⟩ := hq; exact z.elim
  | ok fl =>
    cases fl with
    | ret u => exact I.after hq
    | next => exact hq.elim
    | brk => exact hq.elim
    | cont => exact hq.elim
def rOwnEq (K : PySem.W.Frag) (g : Addr) (sp : Sp) : R2 := fun x y H Q => ∃ a C dx fs, x = .ref a ∧ H a = some (.ins C dx fs) ∧ PySem.W.findIn K (.ref C) "__eq__" = some (some (.ref g)) ∧
  ((∃ tb, TyX K H y tb ∧ PySem.W.notFirst K C tb = true ∧ sp [x, y] H Q E0) ∨
    ∃ b C2 d2 f2, y = .ref b ∧ H b = some (.ins C2 d2 f2) ∧ C2 ≠ C ∧ PySem.W.subIn K (.ref C2) (.ref C) = some true ∧ PySem.W.findIn K (.ref C2) "__eq__" = some (some (.ref g)) ∧ sp [y, x] H Q E0)
def rOwnNe (K : PySem.W.Frag) (g : Addr) (sp : Sp) : R2 := fun x y H Q => ∃ a C dx fs, x = .ref a ∧ H a = some (.ins C dx fs) ∧ PySem.W.findIn K (.ref C) "__eq__" = some (some (.ref g)) ∧ PySem.W.findIn K (.ref C) "__ne__" = some (some (.builtin "object.__ne__")) ∧ PySem.W.mroIn K C (.type "object") = some true ∧
  ((∃ tb, TyX K H y tb ∧ PySem.W.notFirst K C tb = true ∧ sp [x, y] H (fun v H2 => ∃ c, v = .bl c ∧ Q (.bl (!c)) H2) E0) ∨
    ∃ b C2 d2 f2, y = .ref b ∧ H b = some (.ins C2 d2 f2) ∧ C2 ≠ C ∧ PySem.W.subIn K (.ref C2) (.ref C) = some true ∧ PySem.W.findIn K (.ref C2) "__eq__" = some (some (.ref g)) ∧ PySem.W.findIn K (.ref C2) "__ne__" = some (some (.builtin "object.__ne__")) ∧
      PySem.W.mroIn K C2 (.type "object") = some true ∧ sp [y, x] H (fun v H2 => ∃ c, v = .bl c ∧ Q (.bl (!c)) H2) E0)
theorem back_of {pins : List (Addr × Obj)} {σ : L2.St} {Q : VK} {v : Value} {s : Shared} (h : EP X pins σ Q v s) : PySem.W.CmpBack (EP X pins σ Q) v s := by
  obtain ⟨z, H, I, r, q⟩ := h
  have hh : EP X pins σ Q v s := ⟨z, H, I, r, q⟩
  cases v with
  | notImplemented => cases z <;> first | (cases r; done) | (obtain ⟨_, e⟩ := r; cases e)
  | _ => exact hh
theorem o_ownEq (F : Fk X.prog X.w X.K X.mg X.base k f fd ps sp) (hr : Rm k X.A) (hf : PySem.W.isFn X.K (.ref f) = true) (hb : Binds X.K fd ps []) : OpR X (compareOp .Eq) (rOwnEq X.K f sp) := by
  intro pins s σ H x y v u Q I rx ry h
  obtain ⟨a, C, dx, fs, rfl, ha, he, h⟩ := h
  obtain rfl : v = Value.ref a := rx
  obtain ⟨mA, J, _⟩ := ins_get I.hok ha
  obtain ⟨od, J, _⟩ := J.look
  obtain ⟨m, hF⟩ := I.fr
  show wpAny (model X.prog X.w) X.A (richCompare .Eq (.ref a) u) (EP X pins σ Q) X.xe s
  rcases h with ⟨tb, ty, nf, hs⟩ | ⟨b, C2, d2, f2, rfl, hb2, ne, sub, he2, hs⟩
  · obtain ⟨P, Z, p, _⟩ := kit_of I ry ty
    exact PySem.W.cmp_K (op := .Eq) hr.units0 hF I.ok.mod.kin J (Z.ty _ _ I.kIn p) nf he hf (wpAny_mono (run_at F hr rfl hb I (.cons (show RelV (.ref a) (.ref a) from rfl) (.cons ry .nil)) hs) (fun v s2 q => back_of q) fun _ _ z => z)
  · obtain rfl : u = Value.ref b := ry
    obtain ⟨mB, J2, _⟩ := ins_get I.hok hb2
    obtain ⟨od2, J2, _⟩ := J2.look
    exact cmp_below (op := .Eq) hr.units0 I.kIn J J2 ne sub he2 hf (wpAny_mono (run_at F hr rfl hb I (.cons (show RelV (.ref b) (.ref b) from rfl) (.cons (show RelV (.ref a) (.ref a) from rfl) .nil)) hs) (fun v s2 q => back_of q) fun _ _ z => z)
theorem bool_of {pins : List (Addr × Obj)} {σ : L2.St} {Q : VK} {v : Value} {s : Shared} (h : EP X pins σ (fun v H2 => ∃ c, v = .bl c ∧ Q (.bl (!c)) H2) v s) : ∃ c, v = .bool c ∧ EP X pins σ Q (.bool (!c)) s := by
  obtain ⟨z, H, I, r, c, rfl, q⟩ := h
  exact ⟨c, r, .bl (!c), H, I, rfl, q⟩
theorem o_ownNe (F : Fk X.prog X.w X.K X.mg X.base k f fd ps sp) (hr : Rm (k + 1) X.A) (hf : PySem.W.isFn X.K (.ref f) = true) (hb : Binds X.K fd ps []) : OpR X (compareOp .NotEq) (rOwnNe X.K f sp) := by
  intro pins s σ H x y v u Q I rx ry h
  obtain ⟨a, C, dx, fs, rfl, ha, he, hne, hm, h⟩ := h
  obtain rfl : v = Value.ref a := rx
  obtain ⟨mA, J, _⟩ := ins_get I.hok ha
  obtain ⟨od, J, _⟩ := J.look
  have hu1 : X.A.in1.units < cLine := hr.in1.units0
  have cb : ∀ {c : Bool} {s2 : Shared}, EP X pins σ Q (.bool c) s2 → PySem.W.CmpBack (EP X pins σ Q) (.bool c) s2 := fun z => z
  show wpAny (model X.prog X.w) X.A (richCompare .NotEq (.ref a) u) (EP X pins σ Q) X.xe s
  unfold richCompare
  simp only [oneThing_ref]
  refine wpAny_holding (wpAny_bind (wpAny_cRoomFor hr.units0 ?_))
  rcases h with ⟨tb, ty, nf, hs⟩ | ⟨b, C2, d2, f2, rfl, hb2, ne, sub, he2, hne2, hm2, hs⟩
  · obtain ⟨P, Z, p, _⟩ := kit_of I ry ty
    have one : wpAny (model X.prog X.w) X.A (tryCompare (.ref a) "__ne__" u) (fun rr s2 => ∃ v, rr = some v ∧ EP X pins σ Q v s2) X.xe s := by
      unfold tryCompare
      refine wpAny_bind (ifBound_ne I.kIn J hne (call_ne hu1 I.kIn J hm he hf (wpAny_mono (run_at F hr.in1 rfl hb I (.cons (show RelV (.ref a) (.ref a) from rfl) (.cons ry .nil)) hs) (fun v s2 q => ?_) fun _ _ z => z)))
      obtain ⟨c, rfl, q2⟩ := bool_of q
      exact ⟨c, rfl, wpAny_pure ⟨_, rfl, q2⟩⟩
    refine wpAny_bind (J.type.here (wpAny_bind ((Z.ty _ _ I.kIn p).here ?_)))
    split
    · rename_i q
      have e : PySem.W.subIn X.K tb (.ref C) = some false := by
        rcases Bool.or_eq_true_iff.mp nf with e | e
        · rw [beq_iff_eq.mp e] at q; simp at q
        · exact beq_iff_eq.mp e
      refine wpAny_bind ((PySem.W.looks_subIn I.kIn e).here ?_)
      simp only [Bool.false_eq_true, if_false]
      refine wpAny_bind (wpAny_mono one (fun rr s2 z => ?_) fun _ _ z => z)
      obtain ⟨v, rfl, hq⟩ := z
      exact wpAny_pure hq
    · refine wpAny_bind (wpAny_pure ?_)
      simp only [Bool.false_eq_true, if_false]
      refine wpAny_bind (wpAny_mono one (fun rr s2 z => ?_) fun _ _ z => z)
      obtain ⟨v, rfl, hq⟩ := z
      exact wpAny_pure hq
  · obtain rfl : u = Value.ref b := ry
    obtain ⟨mB, J2, _⟩ := ins_get I.hok hb2
    obtain ⟨od2, J2, _⟩ := J2.look
    have one : wpAny (model X.prog X.w) X.A (tryCompare (.ref b) "__ne__" (.ref a)) (fun rr s2 => ∃ v, rr = some v ∧ EP X pins σ Q v s2) X.xe s := by
      unfold tryCompare
      refine wpAny_bind (ifBound_ne I.kIn J2 hne2 (call_ne hu1 I.kIn J2 hm2 he2 hf (wpAny_mono (run_at F hr.in1 rfl hb I (.cons (show RelV (.ref b) (.ref b) from rfl) (.cons (show RelV (.ref a) (.ref a) from rfl) .nil)) hs) (fun v s2 q => ?_) fun _ _ z => z)))
      obtain ⟨c, rfl, q2⟩ := bool_of q
      exact ⟨c, rfl, wpAny_pure ⟨_, rfl, q2⟩⟩
    refine wpAny_bind (J.type.here (wpAny_bind (J2.type.here ?_)))
    have nb : (Value.ref C != Value.ref C2) = true := by simpa using (Ne.symm ne)
    rw [nb]
    refine wpAny_bind ((PySem.W.looks_subIn I.kIn sub).here ?_)
    refine wpAny_bind (wpAny_mono one (fun rr s2 z => ?_) fun _ _ z => z)
    obtain ⟨v, rfl, hq⟩ := z
    show wpAny _ _ (rule "compare.subclass-reflected-first" >>= fun _ => pure v) _ _ _
    repeat (first | exact wpAny_pure hq | wp_step)
/-! ### str, repr, len of an own instance -/
def rOwn1 (K : PySem.W.Frag) (m : Str) (g : Addr) (sp : Sp) : List V → Hp → VK → Prop := fun xs H Q => ∃ a C dx fs, xs = [.ref a] ∧ H a = some (.ins C dx fs) ∧ PySem.W.findIn K (.ref C) m = some (some (.ref g)) ∧ sp [.ref a] H (fun v H2 => ∃ z, v = .str z ∧ Q v H2) E0
def rOwnLen (K : PySem.W.Frag) (g : Addr) (sp : Sp) : List V → Hp → VK → Prop := fun xs H Q => ∃ a C dx fs, xs = [.ref a] ∧ H a = some (.ins C dx fs) ∧ PySem.W.findIn K (.ref C) "__len__" = some (some (.ref g)) ∧ sp [.ref a] H (fun v H2 => ∃ z : Int, v = .int z ∧ 0 ≤ z ∧ z < 2 ^ 63 ∧ Q v H2) E0
theorem str_back {pins : List (Addr × Obj)} {σ : L2.St} {Q : VK} {v : Value} {s : Shared} (h : EP X pins σ (fun v H2 => ∃ z, v = .str z ∧ Q v H2) v s) : PySem.W.StrBack (EP X pins σ Q) v s := by
  obtain ⟨z, H, I, r, y, rfl, q⟩ := h
  obtain ⟨t, rfl⟩ := r
  exact ⟨.str y, H, I, ⟨t, rfl⟩, q⟩
theorem c_reprOwn (F : Fk X.prog X.w X.K X.mg X.base k f fd ps sp) (hr : Rm (k + 1) X.A) (hf : PySem.W.isFn X.K (.ref f) = true) (hb : Binds X.K fd ps []) : CallR X (.builtin "repr") (rOwn1 X.K "__repr__" f sp) := by
  intro pins s σ H xs us Q I r h
  obtain ⟨a, C, dx, fs, rfl, ha, he, hs⟩ := h
  obtain ⟨u1, rfl, r1⟩ := vals1 r
  obtain rfl : u1 = Value.ref a := r1
  obtain ⟨mA, J, _⟩ := ins_get I.hok ha
  obtain ⟨od, J, _⟩ := J.look
  obtain ⟨m, hF⟩ := I.fr
  exact PySem.W.repr_K hr.in1.units0 hF I.ok.mod.kin J he hf (wpAny_mono (run_at F hr.in1 rfl hb I (.cons (show RelV (.ref a) (.ref a) from rfl) .nil) hs) (fun v s2 q => str_back q) fun _ _ z => z)
theorem c_strOwn (F : Fk X.prog X.w X.K X.mg X.base k f fd ps sp) (hr : Rm (k + 2) X.A) (hf : PySem.W.isFn X.K (.ref f) = true) (hb : Binds X.K fd ps []) : CallR X (.type "str") (rOwn1 X.K "__str__" f sp) := by
  intro pins s σ H xs us Q I r h
  obtain ⟨a, C, dx, fs, rfl, ha, he, hs⟩ := h
  obtain ⟨u1, rfl, r1⟩ := vals1 r
  obtain rfl : u1 = Value.ref a := r1
  obtain ⟨mA, J, _⟩ := ins_get I.hok ha
  obtain ⟨od, J, _⟩ := J.look
  exact PySem.W.kso_call hr.in1.in1.units0 I.kIn J he hf (wpAny_mono (run_at F hr.in1.in1 rfl hb I (.cons (show RelV (.ref a) (.ref a) from rfl) .nil) hs) (fun v s2 q => str_back q) fun _ _ z => z)
theorem c_lenOwn (F : Fk X.prog X.w X.K X.mg X.base k f fd ps sp) (hr : Rm (k + 1) X.A) (hf : PySem.W.isFn X.K (.ref f) = true) (hb : Binds X.K fd ps []) : CallR X (.builtin "len") (rOwnLen X.K f sp) := by
  intro pins s σ H xs us Q I r h
  obtain ⟨a, C, dx, fs, rfl, ha, he, hs⟩ := h
  obtain ⟨u1, rfl, r1⟩ := vals1 r
  obtain rfl : u1 = Value.ref a := r1
  obtain ⟨mA, J, _⟩ := ins_get I.hok ha
  obtain ⟨od, J, _⟩ := J.look
  obtain ⟨m, hF⟩ := I.fr
  refine PySem.W.len_K hF I.ok.mod.kin J he hf (wpAny_mono (run_at F hr.in1 rfl hb I (.cons (show RelV (.ref a) (.ref a) from rfl) .nil) hs) (fun v s2 q => ?_) fun _ _ z => z)
  obtain ⟨z, H2, I2, rz, n, rfl, n0, n1, q2⟩ := q
  obtain ⟨t, rfl⟩ := rz
  exact ⟨⟨n0, n1⟩, .int n, H2, I2.tok _, ⟨_, rfl⟩, q2⟩
end
end SJ

/-! SJP: repr of data (None, bools, ints, texts, lists and tuples of them, nested). -/
namespace SJ
open PySem PySem.Spec PyProof.Rows L2 He
def rRepr (K : PySem.W.Frag) : List V → Hp → VK → Prop := fun xs H Q => ∃ (x : V) (d : PyData), xs = [x] ∧ Dp K H x d ∧ d.showable = true ∧ d.depth ≤ 100 ∧ d.shown.length ≤ sizeLine ∧ Q (.str d.shown) H
mutual
theorem Dp.noDict {K : PySem.W.Frag} {H : Hp} : ∀ (d : PyData) (x : V), Dp K H x d → d.hasDict = false
  | .none, _, _ => by simp only [PyData.hasDict]
  | .bool _, _, _ => by simp only [PyData.hasDict]
  | .int _, _, _ => by simp only [PyData.hasDict]
  | .str _, _, _ => by simp only [PyData.hasDict]
  | .list ds, _, h => by
    cases h with
    | lst _ ha => simp only [PyData.hasDict]; exact DpAll.noDict ds _ ha
  | .tuple ds, _, h => by
    cases h with
    | tup _ ha => simp only [PyData.hasDict]; exact DpAll.noDict ds _ ha
  | .dict _, _, h => by cases h
theorem DpAll.noDict {K : PySem.W.Frag} {H : Hp} : ∀ (ds : List PyData) (xs : List V), DpAll K H xs ds → PyData.hasDictAll ds = false
  | [], _, _ => by simp only [PyData.hasDictAll]
  | d :: ds, _, h => by
    cases h with
    | cons h1 h2 => simp only [PyData.hasDictAll, Dp.noDict d _ h1, DpAll.noDict ds _ h2, Bool.or_false]
end
section
variable {X : Cx} {k : Nat}
theorem c_repr (hr : Rm k X.A) : CallR X (.builtin "repr") (rRepr X.K) := by
  intro pins s σ H xs us Q I r h
  obtain ⟨x, d, rfl, hd, sh, dp, sz, q⟩ := h
  obtain ⟨u1, rfl, r1⟩ := vals1 r
  obtain ⟨as, rd⟩ := Dp.reads I d x u1 hd r1
  have hu : X.A.units + (d.depth + 1) < cLine := by have := hr.r.un; omega
  have fin : ∀ (h2 : Heap) (u : Tok) (tk : Nat), (∀ b o, s.heap.get? b = some o → h2.get? b = some o) → EP X pins σ Q (.str d.shown u) { s with heap := h2, toks := tk } := fun h2 u tk kp => ⟨.str d.shown, H, I.kept kp, ⟨u, rfl⟩, q⟩
  cases hd with
  | non => obtain rfl : u1 = Value.none := r1; exact P.repr_of_none (fin _ _ _ fun _ _ z => z)
  | bl b => obtain rfl : u1 = Value.bool b := r1; exact P.repr_of_bool (fin _ _ _ fun _ _ z => z)
  | int i => obtain ⟨t, rfl⟩ := r1; exact P.repr_of_int (of_decide_eq_true sh) (fin _ _ _ fun _ _ z => z)
  | str z => obtain ⟨t, rfl⟩ := r1; exact P.repr_of_str (fin _ _ _ fun _ _ z => z) (by simpa only [PyData.shown] using sz)
  | @lst a ys ds hs ha => obtain rfl : u1 = Value.ref a := r1; exact repr_of_reads' rd sh (PyData.noDict_hsm (Dp.noDict _ _ (.lst hs ha))) hr.g hu (fun _ _ z => z) fin sz
  | @tup a ys ds hs ha => obtain rfl : u1 = Value.ref a := r1; exact repr_of_reads' rd sh (PyData.noDict_hsm (Dp.noDict _ _ (.tup hs ha))) hr.g hu (fun _ _ z => z) fin sz
end
end SJ

/-! SJE: own exceptions over any of the built-in bases, whose __init__ says super().__init__(..) and stores fields. -/
namespace SJ
open PySem PySem.Spec PyProof.Rows L2 He
/-- of the built-in base -/
structure ExB (B newId initId : String) (bmB : List Value) : Prop where
  fb : ExcBaseFacts B newId initId bmB
  sf : StoreFacts B bmB "object.__setattr__" "object"
  kf : PySem.W.KxsFacts B initId
theorem exb_value : ExB "ValueError" "ValueError.__new__" "ValueError.__init__" [.type "ValueError", .type "Exception", .type "BaseException", .type "object"] := ⟨PySem.F.excBase_ValueError, PySem.F.store_ValueError, PySem.W.kxs_ValueError⟩
theorem exb_lookup : ExB "LookupError" "LookupError.__new__" "LookupError.__init__" [.type "LookupError", .type "Exception", .type "BaseException", .type "object"] := ⟨PySem.F.excBase_LookupError, PySem.F.store_LookupError, PySem.W.kxs_LookupError⟩
theorem exb_over : ExB "OverflowError" "OverflowError.__new__" "OverflowError.__init__" [.type "OverflowError", .type "ArithmeticError", .type "Exception", .type "BaseException", .type "object"] := ⟨PySem.F.excBase_OverflowError, PySem.F.store_OverflowError, PySem.W.kxs_OverflowError⟩
/-- of the own class -/
structure ExG (K : PySem.W.Frag) (C : Addr) (newId : String) (bmB : List Value) : Prop where
  q : PySem.W.excInitIn K C bmB newId = true
  hd : PySem.W.hasDictIn K C = true
  ov : PySem.W.excOver K C bmB = true
  sa : PySem.W.findIn K (.ref C) "__setattr__" = some (some (.builtin "object.__setattr__"))
  exC : PySem.W.subIn K (.ref C) (.type "BaseException") = some true
  tyC : PySem.W.typeIn K (.ref C) = some (.type "type")
  kC : PySem.W.keepIn K (.ref C) = true
section
open Builtin Builtin.ObjectAttr
variable {prog : Program} {w : World} {A : Around} {E : Value → Shared → Prop} {R : Result → Shared → Prop} {hp : Heap} {g : Array GenState} {d : Drawn} {t : Nat} {os : OsState} {K : PySem.W.Frag} {x C : Addr} {B newId initId : String} {bmB : List Value}
theorem ex_first {name : Str} {tk : Tok} {v : Value} {fv : Array Value} (SF : StoreFacts B bmB "object.__setattr__" "object") (T : ExG K C newId bmB) (X : K.In hp) (hx : hp.get? x = some { cls := .ref C, data := .fields fv }) (ha : PySem.W.findIn K (.ref C) name = some none)
    (hq : ∀ h2 tk2 dx, (∀ b o, b ≠ x → hp.get? b = some o → h2.get? b = some o) → hp.objs.size ≤ dx → dx ≠ x → h2.get? x = some { cls := .ref C, dict := some dx, data := .fields fv } →
      h2.Ns1 dx (fun y => if y = name then some v else none) → R (.ok (.ret .none)) ⟨h2, g, d, tk2, os⟩) :
    codeAny (model prog w) A (.call (.builtin "object.__setattr__") ⟨[.ref x, .str name tk, v], []⟩) R ⟨hp, g, d, t, os⟩ := by
  have I : PySem.W.InstAt hp x { cls := .ref C, data := .fields fv } C none := ⟨hx, rfl, rfl, trivial⟩
  have hxs : x ≠ hp.objs.size := Nat.ne_of_lt (Heap.lt_size hx)
  obtain ⟨cd, hcd, hh⟩ := PySem.W.any_some T.hd
  have hcls : PySem.W.Looks (model prog w) hp (classData C) cd := PySem.W.looks_clsIn X hcd
  refine PySem.W.osa_openX (s := ⟨hp, g, d, t, os⟩) SF X I T.ov (NoAttr.taker ha) fun bb => ?_
  show wpAny _ _ (storeInOwnDict (.ref x) (.ref C) (.str name tk) name v bb) _ _ _
  obtain ⟨c1, c2, c3, c4, c5, c6, c7, c8, c9, c10, c11⟩ := cd
  dsimp only at hh
  subst hh
  unfold storeInOwnDict ownDictForStores
  repeat (first | with_reducible refine PySem.HandSPX.store_in_new ?_ ?_ | with_reducible refine wpAny_loadPart_at hx ?_ | with_reducible refine hcls.at ?_ | wp_step)
  · exact ⟨_, #[], _, (Heap.get?_update_ne _ _ _ _ hxs.symm).trans (Heap.get?_push_at rfl rfl), rfl, fun e he => absurd he (by simp), fun _ => rfl⟩
  · intro h2 tk2 hn hs
    have hx1 : (hp.push { cls := .type "dict", data := .dict #[] }).get? x = some { cls := .ref C, data := .fields fv } := Heap.get?_push_of_some _ hx
    refine hq h2 tk2 hp.objs.size (fun b o hb ho => ?_) (Nat.le_refl _) hxs.symm ((hs.2 x hxs).trans (Heap.get?_update_self _ hx1 rfl)) hn
    exact (hs.2 b (Nat.ne_of_lt (Heap.lt_size ho))).trans ((Heap.get?_update_ne _ _ _ _ hb).trans (Heap.get?_push_of_some _ ho))
theorem ex_more {name : Str} {tk : Tok} {v : Value} {dx : Addr} {fv : Array Value} {m0 : Str → Option Value} {nl : List Str} (SF : StoreFacts B bmB "object.__setattr__" "object") (T : ExG K C newId bmB) (X : K.In hp)
    (hx : hp.get? x = some { cls := .ref C, dict := some dx, data := .fields fv }) (hns : hp.Ns1 dx m0) (hw : Within m0 nl) (hz : nl.length ≤ 1000) (ha : PySem.W.findIn K (.ref C) name = some none)
    (hq : ∀ h2 tk2, (∀ b o, b ≠ dx → hp.get? b = some o → h2.get? b = some o) → h2.Ns1 dx (fun y => if y = name then some v else m0 y) → R (.ok (.ret .none)) ⟨h2, g, d, tk2, os⟩) :
    codeAny (model prog w) A (.call (.builtin "object.__setattr__") ⟨[.ref x, .str name tk, v], []⟩) R ⟨hp, g, d, t, os⟩ := by
  obtain ⟨oD, _, _, hoD, _, _⟩ := hns.count hw
  have I : PySem.W.InstAt hp x { cls := .ref C, dict := some dx, data := .fields fv } C (some oD) := ⟨hx, rfl, rfl, hoD⟩
  obtain ⟨cd, hcd, hh⟩ := PySem.W.any_some T.hd
  have hcls : PySem.W.Looks (model prog w) hp (classData C) cd := PySem.W.looks_clsIn X hcd
  refine PySem.W.osa_openX (s := ⟨hp, g, d, t, os⟩) SF X I T.ov (NoAttr.taker ha) fun bb => ?_
  show wpAny _ _ (storeInOwnDict (.ref x) (.ref C) (.str name tk) name v bb) _ _ _
  obtain ⟨c1, c2, c3, c4, c5, c6, c7, c8, c9, c10, c11⟩ := cd
  dsimp only at hh
  subst hh
  unfold storeInOwnDict ownDictForStores
  repeat (first | with_reducible refine PySem.OEX.store_in_old hns hw hz ?_ | with_reducible refine wpAny_loadPart_at hx ?_ | with_reducible refine hcls.at ?_ | wp_step)
  intro h2 tk2 hn hs
  exact hq h2 tk2 (fun b o hb ho => (hs.2 b hb).trans ho) hn
end
section
variable {X : Cx} {pins : List (Addr × Obj)} {σ : L2.St} {H : Hp} {s : Shared} {a C dx : Addr} {f : Str} {y : V} {u : Value} {fs : List (Str × V)} {Q : Unit → Shared → Prop} {E : Value → Shared → Prop} {A : Around} {B newId initId : String} {bmB : List Value}
theorem st_first (SF : StoreFacts B bmB "object.__setattr__" "object") (T : ExG X.K C newId bmB) (I : Inv X pins σ H s) (e : H a = some (exo a C none)) (hno : PySem.W.findIn X.K (.ref C) f = some none) (ry : RelV y u)
    (h : ∀ dx s2, H dx = none → dx ≠ a → Inv X pins σ (upd (upd H dx (exd dx [(f, y)])) a (exo a C (some dx))) s2 → Q () s2) : wpAny (model X.prog X.w) A (setAttr (.ref a) f u) Q E s := by
  obtain ⟨t1, ho⟩ := exo_at I.hok e
  obtain ⟨hp, g, d, t, os⟩ := s
  refine PySem.W.set_plain I.kIn (ox := { cls := .ref C, dict := none, data := .fields #[.ref t1, .none, .none, .none, .bool false, .none] }) (od := none) ⟨ho, rfl, rfl, trivial⟩ T.sa ?_
  refine ex_first SF T I.kIn ho hno (fun h2 tk2 dx k dn dne hx hn => ?_)
  have hnd : H dx = none := I.hok.fresh dn
  have nd : ∀ {b : Addr} {o : Obj}, hp.get? b = some o → b ≠ dx := fun {b o} q => Nat.ne_of_lt (Nat.lt_of_lt_of_le (Heap.lt_size q) dn)
  have na : ∀ {b : Addr}, H b = none → b ≠ a := fun {b} n z => by rw [z, e] at n; cases n
  have U : Un X.fs [] H (upd (upd H dx (exd dx [(f, y)])) a (exo a C (some dx))) hp h2 := {
    keep := fun b o q n _ _ => k b o (na n) q
    slot := fun b o q n _ _ => ⟨o.slots, k b o (na n) q⟩
    free := fun b o q n _ => by rw [upd_ne (na n), upd_ne (nd q)]; exact n
    there := fun b o q _ => by
      by_cases z : b = a
      · subst z; exact ⟨_, hx⟩
      · exact ⟨o, k b o z q⟩
    tups := fun b xs q => by rw [upd_ne (at_ne e q exo_tup), upd_ne (ne_of_none q hnd)]; exact q
    frzs := fun b o v q => by rw [upd_ne (at_ne e q exo_frz), upd_ne (ne_of_none q hnd)]; exact q
    tbls := fun b ps q => ⟨#[], by rw [upd_ne (at_ne e q exo_tbl), upd_ne (ne_of_none q hnd), q]; simp⟩ }
  refine h dx _ hnd dne (I.un (t' := tk2) U fun b o q => ?_)
  by_cases hb : b = a
  · subst hb
    rw [upd_same] at q; cases q
    exact exo_ok hx
  · rw [upd_ne hb] at q
    by_cases hd : b = dx
    · subst hd
      rw [upd_same] at q; cases q
      exact exd_ok hn (relO_put (fs := []) ry fun _ => True.intro)
    · rw [upd_ne hd] at q
      refine (I.hok b o q).stay (fun c v hc z => k c v ?_ z) (fun c hc => by rw [upd_ne (at_ne e hc exo_own), upd_ne (ne_of_none hc hnd)]; exact hc) (fun c xs hc => by rw [upd_ne (at_ne e hc exo_tup), upd_ne (ne_of_none hc hnd)]; exact hc)
      rcases hc with hc | hc
      · rw [hc]; exact hb
      · exact at_ne e hc exo_own
theorem st_more (SF : StoreFacts B bmB "object.__setattr__" "object") (T : ExG X.K C newId bmB) (I : Inv X pins σ H s) (e : H a = some (exo a C (some dx))) (ed : H dx = some (exd dx fs)) (hl : fs.length ≤ 900) (hno : PySem.W.findIn X.K (.ref C) f = some none) (ry : RelV y u)
    (h : ∀ s2, Inv X pins σ (upd H dx (exd dx ((f, y) :: fs))) s2 → Q () s2) : wpAny (model X.prog X.w) A (setAttr (.ref a) f u) Q E s := by
  obtain ⟨t1, ho⟩ := exo_at I.hok e
  obtain ⟨mA, hns, rel⟩ := exd_at I.hok ed
  have hw := within_of rel
  obtain ⟨hp, g, d, t, os⟩ := s
  obtain ⟨oD, _, _, hoD, _, _⟩ := hns.count hw
  refine PySem.W.set_plain I.kIn (ox := { cls := .ref C, dict := some dx, data := .fields #[.ref t1, .none, .none, .none, .bool false, .none] }) (od := some oD) ⟨ho, rfl, rfl, hoD⟩ T.sa ?_
  refine ex_more SF T I.kIn ho hns hw (by rw [List.length_map]; omega) hno (fun h2 tk2 k hn => ?_)
  obtain ⟨o2, _, _, e2, _⟩ := id hn
  exact h _ (I.write (t' := tk2) (x := dx) (e := dx) (o := exd dx ((f, y) :: fs)) (by rw [ed]; exact True.intro) (.inl rfl) k ⟨o2, e2⟩ (exd_ok hn (relO_put ry rel)))
end

theorem lookup_nodup {α : Type} {y : Str} {u : α} : ∀ {l : List (Str × α)}, (l.map (·.1)).Nodup → (y, u) ∈ l → l.lookup y = some u
  | [], _, h => nomatch h
  | (z, v) :: r, nd, h => by
    show (match y == z with | true => some v | false => r.lookup y) = some u
    obtain ⟨n1, n2⟩ := List.nodup_cons.mp nd
    rcases List.mem_cons.mp h with e | e
    · cases e; rw [beq_self_eq_true]
    · have ne : (y == z) = false := beq_eq_false_iff_ne.mpr fun q => n1 (q ▸ List.mem_map_of_mem (f := (·.1)) e)
      rw [ne]; exact lookup_nodup n2 e
/-! ### super().__init__(..), called -/
section
variable {prog : Program} {w : World} {A : Around} {E : Value → Shared → Prop} {h : Heap} {g : Array GenState} {d : Drawn} {tk : Nat} {os : OsState} {K : PySem.W.Frag} {x C u t0 : Addr} {B newId initId : String} {bmB : List Value}
theorem sup_call {rest : List Value} {Q : Value → Shared → Prop} (T : ExB B newId initId bmB) (G : ExG K C newId bmB) (X : K.In h) (hu : h.get? u = some (PySem.W.kxs_mw initId x)) (he : h.get? x = some (PySem.W.excObj C t0 none .none)) (hz : rest.length ≤ sizeLine)
    (hq : ∀ h2 t2, (∀ b o, b ≠ x → h.get? b = some o → h2.get? b = some o) → h2.get? x = some (PySem.W.excObj C t2 none .none) → Q .none ⟨h2, g, d, tk, os⟩) :
    wpAny (model prog w) A (call (.ref u) rest) Q E ⟨h, g, d, tk, os⟩ := by
  obtain ⟨n1, n2, n3, n4, n5, n6, n7, n8, n9, n10, n11, k0, k1, k2, k3, k5, hC, hT⟩ := PySem.W.excInit_of X G.q
  refine wpAny_call (codeAny_of_tree ?_)
  show wpAny _ A.in1 (callAny (.ref u) ⟨rest, []⟩) _ _ _
  simp only [callAny]
  refine wpAny_bind (wpAny_load hu ?_)
  simp only [PySem.W.kxs_mw, show (Value.type "method-wrapper" == Value.type "method" || Value.type "method-wrapper" == Value.type "builtin_function_or_method" || Value.type "method-wrapper" == Value.type "method-wrapper") = true by decide, if_true]
  refine PySem.W.KFB.if_so (by decide) ?_
  refine wpAny_bind (PySem.W.check_bound_init T.fb.toExcCallFacts hC he rfl ?_)
  refine wpAny_bind (wpAny_pure (wpAny_pure ?_))
  refine ⟨plainId_quiet T.fb.init.plain _, codeAny_builtin T.fb.initEntry ?_⟩
  exact PySem.W.exc_init_tree (cls := .ref C) (t0 := t0) (dv := none) (c2 := .none) (c3 := .none) (b4 := .bool false) he hz fun h2 z1 z2 _ => hq h2 _ z1 z2
end
/-! ### a def that closes over __class__ -/
def cxS (P : Program) (w : World) (K : PySem.W.Frag) (mg : Str → Option Value) (base : Heap) (N : List Str) (qual : Str) (sc : Scope) (f : Addr) (cdv : Value) (cc : Addr) (A : Around) (outer : List Env) (s : Shared) (H : Hp) : Cx where
  prog := P
  w := w
  K := K
  mg := mg
  base := base
  A := A.deeper (PySem.W.ksEnv qual sc s.heap.objs.size f cdv cc)
  N := N
  s_0 := s
  H_0 := H
  env := PySem.W.ksEnv qual sc s.heap.objs.size f cdv cc
  outer := outer
  stack := PySem.W.ksEnv qual sc s.heap.objs.size f cdv cc :: outer
  ex := []
  calm := true
  fn := fun _ => false
  pn := []
  xe := fun _ _ => False
/-- what is known of the def: its scope's names, its code, the class that it closes over -/
structure SupFn (K : PySem.W.Frag) (P : Program) (N ps : List Str) (qual : Str) (pa : Arguments) (bo : List Stmt) (sc : Scope) (f cc cda D : Addr) : Prop where
  ex : ∃ (oc : Value) (od : Option Addr) (kV doc pm : Value) (an : Option Addr) (ct : Value) (osl : Array (Option Value)), K.lookup f = some ⟨oc, od, .func (PySem.W.ksFn "__init__" qual pa bo sc .none kV doc pm an (.ref cda) ct cc), osl⟩
  cd : PySem.W.codeIn K (.ref cda) qual = true
  file : ∃ (ccl : Value) (cdd : Option Addr) (vs : Array Value) (ccs : Array (Option Value)) (fi : Str) (tf : Tok), K.lookup cda = some ⟨ccl, cdd, .fields vs, ccs⟩ ∧ vs[2]? = some (.str fi tf) ∧ ((P.main.file : Str) == fi) = true
  cell : ∃ (cl : Value) (cld : Option Addr) (csl : Array (Option Value)), K.lookup cc = some ⟨cl, cld, .cell (some (.ref D)), csl⟩
  top : (P.main.scope.names.lookup ("super" : Str)).isSome = false
  kind : sc.kind = .function
  co : sc.isCoroutine = false
  gen : sc.isGenerator = false
  nd : N.Nodup
  pre : N.take ps.length = ps
  par : ∀ x ∈ ps, sc.names.lookup x = some .local
  nocell : ∀ x ∈ sc.names, x.2 ≠ .cell
  nofree : ∀ x, sc.names.lookup x = some .free → x = "__class__"
  cls : sc.names.lookup ("__class__" : Str) = some .free
  sup : sc.names.lookup ("super" : Str) = some .globalImplicit
  hd : ∃ ar : Arg, (pa.posonlyargs ++ pa.args).head? = some ar ∧ ps[0]? = some ar.arg
theorem inv_sup {P : Program} {w : World} {K : PySem.W.Frag} {mg : Str → Option Value} {base : Heap} {N ps : List Str} {qual : Str} {pa : Arguments} {bo : List Stmt} {sc : Scope} {f cc cda D : Addr} {A : Around} {outer : List Env} {s : Shared} {H : Hp} {us : List Value} {vs : List V} {h1 : Heap} {tk : Nat}
    (S : SupFn K P N ps qual pa bo sc f cc cda D) (hd : A.handled = none) (e0 : Env0 P w K mg base A outer s H) (hl : vs.length = ps.length) (rv : Vals vs us) (hns : h1.Ns s.heap.objs.size (fun x => (ps.zip us).reverse.lookup x)) (hk : ∀ b o, s.heap.get? b = some o → h1.get? b = some o) :
    Inv (cxS P w K mg base N qual sc f (.ref cda) cc A outer s H) [] (start N vs) H { s with heap := h1, toks := tk } := by
  obtain ⟨cl, cld, csl, lc⟩ := S.cell
  have hpl : ps.length ≤ N.length := by have := congrArg List.length S.pre; rw [List.length_take] at this; omega
  have KB : base.get? cc = some ⟨cl, cld, .cell (some (.ref D)), csl⟩ := e0.mod.kin _ _ lc
  have ksz : s.heap.get? cc = some ⟨cl, cld, .cell (some (.ref D)), csl⟩ := (e0.bs _ _ KB).1
  have one : ∀ y c, (PySem.W.ksEnv qual sc s.heap.objs.size f (.ref cda) cc).cells.lookup y = some c → y = "__class__" ∧ c = cc := fun y c z => by
    have z2 : (match y == ("__class__" : Str) with | true => some cc | false => none) = some c := z
    cases q : (y == ("__class__" : Str)) with
    | true => rw [q] at z2; exact ⟨beq_iff_eq.mp q, (Option.some.inj z2).symm⟩
    | false => rw [q] at z2; cases z2
  have noA : ∀ b : Addr, b ∉ (cxS P w K mg base N qual sc f (.ref cda) cc A outer s H).ex := fun b z => absurd (show b ∈ ([] : List Addr) from z) (by simp)
  refine ⟨⟨e0.mod, S.kind, rfl, rfl, Nat.le_refl _, fun y z c q1 q2 => (one y c q1).1.trans (one z c q2).1.symm, fun y hy => ?_, fun y c q _ => (nomatch q), fun _ => hd, Around.frames_deeper e0.frames, .inr ⟨rfl, rfl⟩, fun b z => absurd z (noA b), e0.bs, e0.bsz, fun b _ _ => noA b, fun b z => absurd z (noA b), e0.funs, e0.frf⟩,
    rfl, e0.bare, Un.kept hk, ⟨_, hns, fun i y v q1 q2 q3 => ?_⟩, fun y c q => ?_, e0.hok.fresh (Nat.le_refl _), fun y c q => ?_, fun p hp => absurd (show p ∈ ([] : List (Addr × Obj)) from hp) (by simp), e0.hok.kept hk, ?_⟩
  · have hy : sc.names.lookup y = some .cell ∨ sc.names.lookup y = some .free := hy
    rcases hy with hy | hy
    · exact absurd rfl (S.nocell _ (PySem.mem_of_lookup hy))
    · exact ⟨cc, by rw [S.nofree y hy]; rfl⟩
  · have hi : i < vs.length := by
      unfold L2.start at q2
      by_cases hi : i < vs.length
      · exact hi
      · rw [List.getElem?_append_right (by simpa using hi), List.getElem?_replicate] at q2
        split at q2 <;> cases q2
    have ha : vs[i]? = some v := by
      unfold L2.start at q2
      rw [List.getElem?_append_left (by simpa using hi), List.getElem?_map] at q2
      cases z : vs[i]? with
      | none => rw [z] at q2; cases q2
      | some a => rw [z] at q2; cases q2; rfl
    obtain ⟨u, hu, rr⟩ := rv.get ha
    have hp : ps[i]? = some y := by rw [← S.pre, List.getElem?_take_of_lt (by omega)]; exact q1
    have ndP : ps.Nodup := by rw [← S.pre]; exact S.nd.sublist (List.take_sublist _ _)
    refine ⟨u, rr, .inl ⟨S.par y (List.mem_of_getElem? hp), ?_⟩⟩
    have hz : (y, u) ∈ (ps.zip us).reverse := List.mem_reverse.mpr (List.mem_of_getElem? (i := i) (by rw [List.getElem?_zip_eq_some]; exact ⟨hp, hu⟩))
    have ndz : ((ps.zip us).reverse.map (·.1)).Nodup := by
      rw [List.map_reverse, List.nodup_iff_pairwise_ne, List.pairwise_reverse, List.map_fst_zip (by rw [← rv.length, hl]; exact Nat.le_refl _)]
      exact ndP.imp fun z => Ne.symm z
    exact lookup_nodup ndz hz
  · obtain ⟨_, rfl⟩ := one y c q
    exact ⟨_, _, hk _ _ ksz, rfl⟩
  · obtain ⟨_, rfl⟩ := one y c q
    exact (e0.bs _ _ KB).2
  · unfold L2.start
    rw [List.length_append, List.length_map, List.length_replicate]
    show vs.length + (N.length - vs.length) = N.length
    omega

/-- how super().__init__(..) is read -/
abbrev supEv (p0 p1 p2 p4 : Pos) (es : List Expr) (env : Env) (pl : Sem Bool) : Sem Value := do
  let w0 ← attributeBase (.Call (.Name "super" p0) [] [] p1) "__init__" env (eval (.Call (.Name "super" p0) [] [] p1) env)
  standAt p2.atName
  let (g0, a0) ← holding [w0] (getMethod w0 "__init__" pl); callWith p4 g0 a0 (backTo p4 (starEach es env)) []
/-- such a def keeps its promise: super().__init__(..) ahead, then the rest by the layer's rules -/
theorem fk_sup {P : Program} {w : World} {K : PySem.W.Frag} {mg : Str → Option Value} {base : Heap} {N ps : List Str} {qual : Str} {pa : Arguments} {bo rest : List Stmt} {sc : Scope} {f cc cda C : Addr} {B newId initId : String} {bmB : List Value} {k : Nat} {sp : Sp} {p0 p1 p2 p4 p5 : Pos} {e : Expr} {es : List Expr} {ta : TA} {tr : TS} {pl : Env → Sem Bool}
    (S : SupFn K P N ps qual pa bo sc f cc cda C) (T : ExB B newId initId bmB) (G : ExG K C newId bmB) (hbo : bo = .Expr (.Call (.Attribute (.Call (.Name "super" p0) [] [] p1) "__init__" p2) (e :: es) [] p4) p5 :: rest)
    (hm : PySem.W.ks_superIn K C C "__init__" = some (some (.builtin initId))) (hB : PySem.W.subIn K (.ref C) (.type B) = some true) (hst : PySem.W.nsIn K cStatics "thirdparty.any" = some none) (hsub : PySem.W.mroIn K C (.ref C) = some true) (hsu : mg "super" = none)
    (len : ∀ vs H Q E, sp vs H Q E → vs.length = ps.length)
    (ha : ∀ (A : Around) (outer : List Env) (s : Shared) (H : Hp), PA (cxS P w K mg base N qual sc f (.ref cda) cc A outer s H) (e :: es) ta) (hr : ∀ (A : Around) (outer : List Env) (s : Shared) (H : Hp), PSs (cxS P w K mg base N qual sc f (.ref cda) cc A outer s H) rest tr)
    (hsp : ∀ vs H Q E, sp vs H Q E → ∃ a, vs[0]? = some (.ref a) ∧ H a = some (exo a C none) ∧ ta (start N vs) H (fun ws H1 => ws.length ≤ 1000 ∧ H1 = H ∧ tr { nx := fun _ H2 => Q .non H2, rt := Q } (start N vs) H))
    (hev : ∀ env : Env, eval (.Call (.Attribute (.Call (.Name "super" p0) [] [] p1) "__init__" p2) (e :: es) [] p4) env = supEv p0 p1 p2 p4 (e :: es) env (pl env) := by intro _; rfl)
    (hst1 : ∀ A outer s H, starEach (e :: es) (cxS P w K mg base N qual sc f (.ref cda) cc A outer s H).env = (false, eval e (cxS P w K mg base N qual sc f (.ref cda) cc A outer s H).env) :: starEach es (cxS P w K mg base N qual sc f (.ref cda) cc A outer s H).env := by intros; rfl)
    (hst2 : ∀ A outer s H, (backTo p4 (starEach es (cxS P w K mg base N qual sc f (.ref cda) cc A outer s H).env)).any (·.1) = false := by intros; rfl)
    (hsw : ∀ A outer s H, swapsWith (.Call (.Attribute (.Call (.Name "super" p0) [] [] p1) "__init__" p2) (e :: es) [] p4) none p5.line (cxS P w K mg base N qual sc f (.ref cda) cc A outer s H).env = pure false := by intros; rfl) :
    ∃ fd : FuncData, (∃ (kV doc pm : Value) (an : Option Addr) (ct : Value), fd = PySem.W.ksFn "__init__" qual pa bo sc .none kV doc pm an (.ref cda) ct cc) ∧ Fk P w K mg base (k + 1) f fd ps sp := by
  obtain ⟨oc, od, kV, doc, pm, an, ct, osl, lk⟩ := S.ex
  obtain ⟨ccl, cdd, fvs, ccs, fi, tf, lcd, hvs, hfi⟩ := S.file
  obtain ⟨cl, cld, csl, lc⟩ := S.cell
  obtain ⟨ar, har, hp0⟩ := S.hd
  refine ⟨_, ⟨kV, doc, pm, an, ct, rfl⟩, len, fun A outer s H args us vs Q E rm e0 hb rv hsp0 => ?_⟩
  have hl := len _ _ _ _ hsp0
  have KX : K.In s.heap := e0.mod.kin.keeps fun b o z => (e0.bs b o z).1
  have lim : s.heap.NoLimit := e0.mod.nolimit.keeps fun b o z => (e0.bs b o z).1
  have arl : sc.names.lookup ar.arg = some .local := S.par _ (List.mem_of_getElem? hp0)
  refine PySem.ks_codeAny_call_defAt (fd := PySem.W.ksFn "__init__" qual pa bo sc .none kV doc pm an (.ref cda) ct cc) (body := bo) (binds := ps.zip us) rm.r.depth (KX _ _ lk) rfl lim (PySem.W.codeRec_of KX S.cd) rfl hb S.nocell (fun y hy => S.par _ (List.of_mem_zip hy).1) (fun h1 hns hk1 => ?_) S.co S.gen S.kind
  have I : Inv (cxS P w K mg base N qual sc f (.ref cda) cc A outer s H) [] (start N vs) H { s with heap := h1, toks := s.toks + (ps.zip us).length } := inv_sup S rm.r.hd e0 hl rv hns hk1
  obtain ⟨a, ea, eH, hta⟩ := hsp vs H Q E hsp0
  subst hbo
  have fin : ∀ {σ2 : L2.St} {H2 : Hp} {v : V} {u : Value} {s2 : Shared}, Inv (cxS P w K mg base N qual sc f (.ref cda) cc A outer s H) [] σ2 H2 s2 → RelV v u → Q v H2 → CR (L2.CX P w) outer P w H s Q E (.ok (.ret u)) s2 := fun {σ2 H2 v u s2} J r q => ⟨v, H2, J.os, J.bare, J.base, J.hok, r, q⟩
  obtain ⟨t1, hx⟩ := exo_at I.hok eH
  obtain ⟨mb, hb1, hb2⟩ := I.mod.blt
  have hvx : (ps.zip us).reverse.lookup ar.arg = some (.ref a) := by
    obtain ⟨u, hu, ru⟩ := rv.get ea
    obtain rfl : u = Value.ref a := ru
    have ndP : ps.Nodup := by rw [← S.pre]; exact S.nd.sublist (List.take_sublist _ _)
    refine lookup_nodup ?_ (List.mem_reverse.mpr (List.mem_of_getElem? (i := 0) (by rw [List.getElem?_zip_eq_some]; exact ⟨hp0, hu⟩)))
    rw [List.map_reverse, List.nodup_iff_pairwise_ne, List.pairwise_reverse, List.map_fst_zip (by rw [← rv.length, hl]; exact Nat.le_refl _)]
    exact ndP.imp fun z => Ne.symm z
  obtain ⟨cdC, hcC, _⟩ := PySem.W.any_some G.hd
  have KX1 : K.In h1 := KX.keeps hk1
  obtain ⟨oD, hD1, hD2⟩ : ∃ oD, h1.get? C = some oD ∧ oD.data = .cls cdC := by
    unfold PySem.W.clsIn at hcC
    split at hcC
    · rename_i c d cd2 sl ho
      cases hcC
      exact ⟨_, KX1 _ _ ho, rfl⟩
    · cases hcC
  refine PySem.ks_wpAt_execs_cons (PySem.ks_wpAt_Expr_any (PySem.ks_wpAt_MethodCall (PySem.ks_wpAt_super_base (ar := ar) S.sup S.cls (by decide) rfl (hk1 _ _ (KX _ _ lk)) rfl har rfl (hk1 _ _ (KX _ _ lcd)) rfl hvs hfi S.top ?_) (hev _)) I.quiet (hsw A outer s H))
  refine PySem.W.ks_loadName_global S.kind S.sup (PySem.Calls.loadGlobal_builtin (env := PySem.W.ksEnv qual sc s.heap.objs.size f (.ref cda) cc) (I.mod.glob.keeps I.bk) hsu (hb1.keeps I.bk) ((hb2 _ (by decide +kernel)).trans (by decide +kernel)) ⟨rfl, ?_⟩)
  refine wpAny_loadName_free S.kind S.cls rfl ⟨_, KX1 _ _ lc, rfl⟩ ?_
  refine wpAny_loadName_local S.kind arl hns hvx ?_
  refine PySem.ks_wpAny_isType_cls hD1 hD2 ⟨rfl, ?_⟩
  refine PySem.ks_wpAny_call_super hD1 hD2 hx rfl (fun c z => nomatch z) (PySem.W.looks_mroIn KX1 hsub) (fun h2 hso k2 => ?_)
  have J2 := I.kept (h' := h2) (t' := s.toks + (ps.zip us).length) k2
  have IA : PySem.W.InstAt h2 a { cls := .ref C, dict := none, data := .fields #[.ref t1, .none, .none, .none, .bool false, .none] } C none := ⟨k2 _ _ hx, rfl, rfl, trivial⟩
  have KX2 : K.In h2 := KX1.keeps k2
  have hm2 := hm
  unfold PySem.W.ks_superIn at hm2
  rw [hcC] at hm2
  refine PySem.W.kxs_getMethod T.kf hso (PySem.W.looks_opaque KX2 hst) (l₀ := cdC.mro) (fun A Q E s k q => wpAny_bind ((PySem.W.looks_clsIn KX2 hcC) A _ E s k (wpAny_pure q))) rfl KX2 hm2 (IA.type.andThen (PySem.W.looks_subIn KX2 hB)) (PySem.W.ks_ne KX2 IA hcC) (by decide) ?_
  have fr2 : H h2.objs.size = none := J2.hok.fresh (Nat.le_refl _)
  have k3 : ∀ b o, h2.get? b = some o → (h2.push (PySem.W.kxs_mw initId a)).get? b = some o := fun b o z => Heap.get?_push_of_some _ z
  have J3 := J2.kept (h' := h2.push (PySem.W.kxs_mw initId a)) (t' := s.toks + (ps.zip us).length + 1) k3
  have J4 := J3.pins_of (pins' := [(h2.objs.size, PySem.W.kxs_mw initId a)]) fun p hp => by
    obtain rfl : p = (h2.objs.size, PySem.W.kxs_mw initId a) := by simpa using hp
    exact ⟨Heap.get?_push_at rfl rfl, fr2, Ne.symm (Nat.ne_of_lt J2.lt), J2.nofs (Nat.le_refl _), fun v z => nomatch z⟩
  show wpAny _ _ (callWith p4 (.ref h2.objs.size) [] (backTo p4 (starEach (e :: es) (cxS P w K mg base N qual sc f (.ref cda) cc A outer s H).env)) []) _ _ _
  rw [hst1 A outer s H]
  refine PySem.W.kxs_callWith (i := initId) (x := a) (by show (false || (backTo p4 (starEach es (cxS P w K mg base N qual sc f (.ref cda) cc A outer s H).env)).any (·.1)) = false; rw [hst2 A outer s H]; rfl) ?_
  refine PySem.Calls.evalArgs_plain ?_
  have run := (ha A outer s H).run p4 _ _ _ H _ J4 hta
  rw [hst1 A outer s H] at run
  refine wpAny_mono run (fun ws s4 hw => ?_) fun _ _ z => (z : False).elim
  obtain ⟨zs, H4, J5, r5, hz, eH4, htr⟩ := hw
  subst eH4
  have hu5 := (J5.pin (h2.objs.size, PySem.W.kxs_mw initId a) (by simp)).1
  refine ⟨hu5, ?_⟩
  obtain ⟨t5, hx5⟩ := exo_at J5.hok eH
  obtain ⟨h5, g5, d5, tk5, os5⟩ := s4
  refine sup_call T G J5.kIn hu5 hx5 (by show ws.length ≤ sizeLine; rw [← Paired.length r5, sizeLine_eq]; omega) fun h6 t6 k6 hx6 => ?_
  have J6 := (J5.write (h' := h6) (t' := tk5) (x := a) (e := a) (o := exo a C none) (by rw [eH]; exact True.intro) (.inl rfl) k6 ⟨_, hx6⟩ (exo_ok hx6)).pins_of (pins' := []) fun p hp => absurd hp (by simp)
  have eu : upd H4 a (exo a C none) = H4 := by
    funext b
    by_cases hb : b = a
    · rw [hb, upd_same, eH]
    · rw [upd_ne hb]
  rw [eu] at J6
  refine wpAt_of_wpAny (wpAny_mono ((hr A outer s _).run [] _ _ _ _ J6 htr) (fun fl s7 h7 => ?_) fun _ _ z => (z : False).elim)
  cases fl with
  | ret u => obtain ⟨v, σ7, H7, J7, r7, q7⟩ := h7; exact fin J7 r7 q7
  | next => obtain ⟨σ7, H7, J7, q7⟩ := h7; exact fin (v := .non) (u := .none) J7 rfl q7
  | brk => obtain ⟨_, _, _, q⟩ := h7; exact q.elim
  | cont => obtain ⟨_, _, _, q⟩ := h7; exact q.elim

/-! ### X(e, ..) raised -/
/-- the promise of such an __init__: the fields' names in order -/
def spX (C : Addr) (fs : List Str) : Sp := fun vs H Q _ => ∃ (a : Addr) (ws : List V), vs = .ref a :: ws ∧ ws.length = fs.length ∧ H a = some (exo a C none) ∧
  ∀ (d : Addr) (H2 : Hp), H d = none → d ≠ a → H2 a = some (exo a C (some d)) → H2 d = some (exd d (fs.zip ws).reverse) → (∀ b, b ≠ a → b ≠ d → H2 b = H b) → Q .non H2
/-- an exception is made: its dict is new -/
def tX (C : Addr) (fs : List Str) (ta : TA) : L2.St → Hp → XK → Prop := fun σ H Q => ta σ H fun vs H1 => vs.length = fs.length ∧ ∀ d, H1 d = none → Q (.ref C) (some d) (upd H1 d (.xd (fs.zip vs).reverse))
section
variable {X : Cx} {e : Expr} {es : List Expr} {ta : TA} {p pos : Pos} {x : Str} {C fI : Addr} {k : Nat} {fd : FuncData} {ps fs : List Str} {B newId initId : String} {bmB : List Value}
theorem pmk_x (T : ExB B newId initId bmB) (G : ExG X.K C newId bmB) (iC : PySem.W.findIn X.K (.ref C) "__init__" = some (some (.ref fI))) (tI : PySem.W.typeIn X.K (.ref fI) = some (.type "function"))
    (F1 : Fk X.prog X.w X.K X.mg X.base k fI fd ps (spX C fs)) (hr : Rm (k + 1) X.A) (hb : Binds X.K fd ps []) (hfs : fs.length ≤ 100) (hg : Gl X x) (hm : X.mg x = some (.ref C)) (ha : PA X (e :: es) ta)
    (hdb : (x == ("__debug__" : Str)) = false := by decide) (he : starEach (e :: es) X.env = (false, eval e X.env) :: starEach es X.env := by rfl) (hpl : (backTo pos (starEach es X.env)).any (·.1) = false := by rfl) :
    PMk X (.Call (.Name x p) (e :: es) [] pos) (tX C fs ta) := by
  intro pins s σ H Q I h
  refine wpAny_Call_Name_kw (ld_glob I hg hm ?_ hdb)
  refine PySem.W.callWith_K (h₀ := X.base) I.ok.mod.kin G.kC (thn (ha.run pos pins s σ H _ I h) fun us s1 ⟨vs, H1, I1, r1, hz, q1⟩ => ⟨I1.kIn, ?_⟩) he hpl
  show wpAny _ _ (call (.ref C) us) _ _ _
  obtain ⟨n1, n2, n3, n4, n5, n6, n7, n8, n9, n10, n11, k0, k1, k2, k3, k5, hC, hT⟩ := PySem.W.excInit_of I1.kIn G.q
  obtain ⟨hp, g, dr, tk, os⟩ := s1
  have hn : H1 (hp.objs.size + 1) = none := I1.hok.fresh (Nat.le_succ _)
  have kk : ∀ b o, hp.get? b = some o → ((hp.push (PySem.W.kdv_tup us)).push (PySem.HandSPX.excO C hp.objs.size)).get? b = some o := fun b o z => Heap.get?_push_of_some _ (Heap.get?_push_of_some _ z)
  have hget : ((hp.push (PySem.W.kdv_tup us)).push (PySem.HandSPX.excO C hp.objs.size)).get? (hp.objs.size + 1) = some (PySem.HandSPX.excO C hp.objs.size) := by heap_get
  have I2 := I1.laid (t' := tk) (a := hp.objs.size + 1) (o := exo (hp.objs.size + 1) C none) kk (Nat.le_succ _) (exo_ok hget)
  have r2 : Vals (V.ref (hp.objs.size + 1) :: vs) (Value.ref (hp.objs.size + 1) :: us) := .cons rfl r1
  have hsp : spX C fs (V.ref (hp.objs.size + 1) :: vs) (upd H1 (hp.objs.size + 1) (exo (hp.objs.size + 1) C none)) (fun v H2 => v = .non ∧ ∃ d, H2 (hp.objs.size + 1) = some (exo (hp.objs.size + 1) C (some d)) ∧ H2 d = some (exd d (fs.zip vs).reverse) ∧ H1 d = none ∧ Q (.ref C) (some d) (upd (del H2 (hp.objs.size + 1)) d (.xd (fs.zip vs).reverse))) (fun _ _ _ => False) := by
    refine ⟨_, vs, rfl, hz, upd_same, fun d H2 nd ne e1 e2 e3 => ⟨rfl, d, e1, e2, ?_, ?_⟩⟩
    · rw [upd_ne ne] at nd; exact nd
    · rw [upd_ne ne] at nd
      have eq : upd (del H2 (hp.objs.size + 1)) d (.xd (fs.zip vs).reverse) = upd H1 d (.xd (fs.zip vs).reverse) := by
        funext b
        by_cases hd : b = d
        · rw [hd, upd_same, upd_same]
        · rw [upd_ne hd, upd_ne hd]
          by_cases ha : b = hp.objs.size + 1
          · rw [ha, del_same, hn]
          · rw [del_ne ha, e3 b ha hd, upd_ne ha]
      rw [eq]
      exact q1 d nd
  have hl : (Value.ref (hp.objs.size + 1) :: us).length = ps.length := by
    have z := r2.length
    rw [F1.len _ _ _ _ hsp] at z
    exact z.symm
  have bb := hb ⟨(hp.push (PySem.W.kdv_tup us)).push (PySem.HandSPX.excO C hp.objs.size), g, dr, tk, os⟩ (Value.ref (hp.objs.size + 1) :: us) I2.kIn (by rw [List.append_nil]; exact hl)
  rw [List.append_nil] at bb
  refine wpAny_call (PySem.HandSPX.call_own T.fb hT hC (PySem.W.looks_findIn I1.kIn iC) (fun self => PySem.W.bind_fn I1.kIn self tI) (by rw [← Paired.length r1, hz, sizeLine_eq]; omega)
    (codeAny_mono (F1.run _ X.stack _ _ ⟨Value.ref (hp.objs.size + 1) :: us, []⟩ _ _ _ _ (hr.make C us []) (I2.env0.make C us []) bb r2 hsp) fun rr s2 hq => ?_))
  cases rr with
  | error er => obtain ⟨_, _, _, _, _, _, _, _, _, _, _, _, z⟩ := hq; exact z.elim
  | ok fl =>
    cases fl with
    | ret u =>
      obtain ⟨v, H2, os2, bare2, un2, hok2, r3, ev, d, ea, ed, hd1, q2⟩ := hq
      subst ev
      obtain ⟨h2, g2, d2, t2, os3⟩ := s2
      exact ⟨r3, mk_end (raises_own G.exC G.tyC) I1 (Nat.le_succ _) kk un2 hok2 os2 bare2 ea ed hd1 q2⟩
    | next => exact hq.elim
    | brk => exact hq.elim
    | cont => exact hq.elim
/-- self.f = e in such an __init__ -/
def tSt (K : PySem.W.Frag) (newId : String) (bmB : List Value) (f : Str) (to te : TE) : TS := fun D σ H => te σ H fun y H1 => to σ H1 fun z H2 => ∃ a C : Addr, z = .ref a ∧ ExG K C newId bmB ∧ PySem.W.findIn K (.ref C) f = some none ∧
  ((H2 a = some (exo a C none) ∧ ∀ dx, H2 dx = none → dx ≠ a → D.nx σ (upd (upd H2 dx (exd dx [(f, y)])) a (exo a C (some dx)))) ∨
    ∃ (dx : Addr) (fs : List (Str × V)), H2 a = some (exo a C (some dx)) ∧ H2 dx = some (exd dx fs) ∧ fs.length ≤ 900 ∧ D.nx σ (upd H2 dx (exd dx ((f, y) :: fs))))
theorem ps_xst {o : Expr} {to te : TE} {f : Str} {q : Pos} (SF : StoreFacts B bmB "object.__setattr__" "object") (ho : PE X o to) (he : PE X e te) (hs : swapsWith e (some (.Attribute o f q)) pos.line X.env = pure false := by rfl) : PS X (.Assign [.Attribute o f q] e pos) (tSt X.K newId bmB f to te) := by
  refine ⟨fun pins s σ H D I h => plainObj_wpAny_Assign_Attribute (thn (he.run pins s σ H _ I h) fun v s1 ⟨y, H1, I1, r1, q1⟩ => thn (ho.run pins s1 σ H1 _ I1 q1) fun u s2 ⟨z, H2, I2, r2, a, C, ex, T, hno, qq⟩ => ?_) hs⟩
  subst ex
  obtain rfl : u = Value.ref a := r2
  rcases qq with ⟨ea, qq⟩ | ⟨dx, fs, ea, ed, hl, qq⟩
  · exact st_first SF T I2 ea hno r1 fun dx s3 n ne J => ⟨σ, _, J, qq dx n ne⟩
  · exact st_more SF T I2 ea ed hl hno r1 fun s3 J => ⟨σ, _, J, qq⟩
end
end SJ

/-! SJH: what the top has left, read by one observation: tests over the written part, plain defs, __init__s that close over their class. -/
namespace SJ
open PySem PySem.Spec PyProof.Rows L2 He
/-- an __init__ with super(): its class's name, qualified name, parameters, body, scope -/
structure XD where
  cls : Str
  qual : Str
  params : Arguments
  body : List Stmt
  scope : Scope
abbrev FnX : Type := Option (Str × Str × Arguments × FuncBody × Scope × Addr × List Str × Addr)
def XD.ad (d : XD) (K : PySem.W.Frag) : Addr := ma K (ga K d.cls) "__init__"
def fnXA (K : PySem.W.Frag) (a : Addr) : FnX := match K.lookup a with
  | some ⟨_, _, .func fd, _⟩ => some (fd.name, fd.qualname, fd.params, fd.body, fd.scope, fd.globals, fd.closure.map (·.1), fd.builtins)
  | _ => none
def XD.val (d : XD) : FnX := some ("__init__", d.qual, d.params, .stmts d.body, d.scope, mainGlobals, ["__class__"], builtinsNs)
def isNoneV : Value → Bool
  | .none => true
  | _ => false
def ccA (K : PySem.W.Frag) (a : Addr) : Addr := match K.lookup a with
  | some ⟨_, _, .func fd, _⟩ => (match fd.closure with
    | [(_, c)] => c
    | _ => 0)
  | _ => 0
def cdaA (K : PySem.W.Frag) (a : Addr) : Addr := match K.lookup a with
  | some ⟨_, _, .func fd, _⟩ => (match fd.code with
    | .ref c => c
    | _ => 0)
  | _ => 0
def XD.ok (file : Str) (K : PySem.W.Frag) (d : XD) : Bool := match K.lookup (d.ad K) with
  | some ⟨_, _, .func fd, _⟩ => isNoneV fd.defaults && (decide (fd.code = .ref (cdaA K (d.ad K))) && (PySem.W.codeIn K fd.code d.qual && ((match K.lookup (cdaA K (d.ad K)) with
    | some ⟨_, _, .fields vs, _⟩ => (match (vs[2]? : Option Value) with
      | some (.str fi _) => file == fi
      | _ => false)
    | _ => false) && (match fd.closure with
      | [(_, c)] => (match K.lookup c with
        | some ⟨_, _, .cell (some (.ref D)), _⟩ => D == ga K d.cls
        | _ => false)
      | _ => false))))
  | _ => false
theorem XD.facts {K : PySem.W.Frag} {d : XD} {file : Str} (e : fnXA K (d.ad K) = d.val) (c : d.ok file K = true) :
    (∃ (oc : Value) (od : Option Addr) (kV doc pm : Value) (an : Option Addr) (ct : Value) (osl : Array (Option Value)), K.lookup (d.ad K) = some ⟨oc, od, .func (PySem.W.ksFn "__init__" d.qual d.params d.body d.scope .none kV doc pm an (.ref (cdaA K (d.ad K))) ct (ccA K (d.ad K))), osl⟩) ∧
    PySem.W.codeIn K (.ref (cdaA K (d.ad K))) d.qual = true ∧
    (∃ (ccl : Value) (cdd : Option Addr) (vs : Array Value) (ccs : Array (Option Value)) (fi : Str) (tf : Tok), K.lookup (cdaA K (d.ad K)) = some ⟨ccl, cdd, .fields vs, ccs⟩ ∧ vs[2]? = some (.str fi tf) ∧ (file == fi) = true) ∧
    ∃ (cl : Value) (cld : Option Addr) (csl : Array (Option Value)), K.lookup (ccA K (d.ad K)) = some ⟨cl, cld, .cell (some (.ref (ga K d.cls))), csl⟩ := by
  unfold fnXA at e
  unfold XD.ok at c
  have ecc : ccA K (d.ad K) = ccA K (d.ad K) := rfl
  cases q : K.lookup (d.ad K) with
  | none => rw [q] at c; cases c
  | some o =>
    obtain ⟨oc, od, dt, osl⟩ := o
    rw [q] at c e
    cases dt with
    | func fd =>
      obtain ⟨m1, m2, m3, m4, m5, m6, m7, m8, m9, m10, m11, m12, m13, m14, m15⟩ := fd
      have e2 : (some (m1, m2, m3, m4, m5, m6, m7.map (·.1), m15) : FnX) = d.val := e
      unfold XD.val at e2
      simp only [Option.some.injEq, Prod.mk.injEq] at e2
      obtain ⟨g1, g2, g3, g4, g5, g6, g7, g8⟩ := e2
      subst g1 g2 g3 g4 g5 g6 g8
      obtain ⟨c1, c⟩ := ba c
      obtain ⟨c2, c⟩ := ba c
      obtain ⟨c3, c⟩ := ba c
      obtain ⟨c4, c5⟩ := ba c
      have e13 : m13 = .ref (cdaA K (d.ad K)) := of_decide_eq_true c2
      have e8 : m8 = .none := by cases m8 <;> first | rfl | cases c1
      obtain ⟨q0, rfl⟩ : ∃ q0 : Addr, m7 = [(("__class__" : Str), q0)] := by
        cases m7 with
        | nil => cases g7
        | cons p r =>
          cases r with
          | nil => obtain ⟨a, b⟩ := p; exact ⟨b, by rw [show a = "__class__" from (List.cons.inj g7).1]⟩
          | cons p2 r2 => exact nomatch (List.cons.inj g7).2
      have ec : ccA K (d.ad K) = q0 := by unfold ccA; rw [q]
      refine ⟨⟨oc, od, m9, m10, m11, m12, m14, osl, ?_⟩, by rw [← e13]; exact c3, ?_, ?_⟩
      · rw [← e13, ec, e8]
      · cases q2 : K.lookup (cdaA K (d.ad K)) with
        | none => rw [q2] at c4; cases c4
        | some o2 =>
          obtain ⟨a1, a2, a3, a4⟩ := o2
          rw [q2] at c4
          cases a3 with
          | fields vs =>
            have c6 : (match (vs[2]? : Option Value) with | some (.str fi _) => file == fi | _ => false) = true := c4
            cases q3 : vs[2]? with
            | none => rw [q3] at c6; cases c6
            | some v =>
              rw [q3] at c6
              cases v with
              | str fi tf => exact ⟨a1, a2, vs, a4, fi, tf, rfl, q3, c6⟩
              | _ => cases c6
          | _ => cases c4
      · rw [ec]
        have c6 : (match K.lookup q0 with | some ⟨_, _, .cell (some (.ref D)), _⟩ => D == ga K d.cls | _ => false) = true := c5
        cases q2 : K.lookup q0 with
        | none => rw [q2] at c6; cases c6
        | some o2 =>
          obtain ⟨a1, a2, a3, a4⟩ := o2
          rw [q2] at c6
          cases a3 with
          | cell z =>
            cases z with
            | none => cases c6
            | some v =>
              cases v with
              | ref D => exact ⟨a1, a2, a4, by rw [show D = ga K d.cls from beq_iff_eq.mp c6]⟩
              | _ => cases c6
          | _ => cases c6
    | _ => cases c
/-! ### the observation -/
def asS (g : Addr → Option Obj) : Nat → List Addr
  | 0 => [mainGlobals, cStatics]
  | n + 1 => growD g (asS g n)
abbrev AlZ : Type := Bool × List FnW × List FnX
def obsZ (file : Str) (fa : List Tst) (fn : List DD) (fx : List XD) (K : PySem.W.Frag) : AlZ := ((fa.all fun f => f K) && ((fn.all fun d => d.ok K) && fx.all fun d => d.ok file K), fn.map (fun d => fnA K (d.ad K)), fx.map fun d => fnXA K (d.ad K))
def valZ (fn : List DD) (fx : List XD) : AlZ := (true, fn.map DD.val, fx.map XD.val)
def SaysZ (file : Str) (fa : List Tst) (fn : List DD) (fx : List XD) (K : PySem.W.Frag) : Prop := obsZ file fa fn fx K = valZ fn fx
def obsZG (n : Nat) (file : Str) (fa : List Tst) (fn : List DD) (fx : List XD) (g : Addr → Option Obj) : AlZ := obsZ file fa fn fx (frG g (sysModules :: asS g n))
def hookZ (n : Nat) (file : Str) (fa : List Tst) (fn : List DD) (fx : List XD) : PySem.W.Hook where
  α := AlZ
  obs := fun s => obsZG n file fa fn fx s.heap.get?
  val := fun _ => valZ fn fx
  says := fun _ h => ∃ K : PySem.W.Frag, K.In h ∧ SaysZ file fa fn fx K
  of := fun _ _ e => ⟨_, frG_in, e⟩
  keeps := fun _ _ _ ⟨K, hK, c⟩ k => ⟨K, PySem.W.Frag.In.keeps hK k, c⟩
theorem obsZG_eq {n : Nat} {file : Str} {fa : List Tst} {fn : List DD} {fx : List XD} {g : Addr → Option Obj} {s : Shared} (h : ∀ a, g a = s.heap.get? a) : obsZG n file fa fn fx g = (hookZ n file fa fn fx).obs s := by
  have e : g = s.heap.get? := funext h
  rw [e] <;> rfl
section
variable {file : Str} {fa : List Tst} {fn : List DD} {fx : List XD} {K : PySem.W.Frag}
theorem SaysZ.b (c : SaysZ file fa fn fx K) : (fa.all fun f => f K) = true ∧ (fn.all fun d => d.ok K) = true ∧ (fx.all fun d => d.ok file K) = true := by
  obtain ⟨h1, h2⟩ := ba (show ((fa.all fun f => f K) && ((fn.all fun d => d.ok K) && fx.all fun d => d.ok file K)) = true from congrArg (fun z : AlZ => z.1) c)
  obtain ⟨h3, h4⟩ := ba h2
  exact ⟨h1, h3, h4⟩
theorem SaysZ.fact (c : SaysZ file fa fn fx K) (i : Nat) {f : Tst} (h : fa[i]? = some f := by rfl) : f K = true := List.all_eq_true.mp c.b.1 f (List.mem_of_getElem? h)
theorem SaysZ.def_ (c : SaysZ file fa fn fx K) (i : Nat) {d : DD} (h : fn[i]? = some d := by rfl) : ∃ fd, FunD K d.name d.qual d.params d.body d.scope (d.dvs K) (d.kws K) (d.ad K) fd := by
  have e : fn.map (fun d => fnA K (d.ad K)) = fn.map DD.val := congrArg (fun z : AlZ => z.2.1) c
  have e2 : (fn.map fun d => fnA K (d.ad K))[i]? = (fn.map DD.val)[i]? := by rw [e]
  rw [List.getElem?_map, List.getElem?_map, h] at e2
  exact DD.funD (Option.some.inj e2) (List.all_eq_true.mp c.b.2.1 d (List.mem_of_getElem? h))
theorem SaysZ.exc (c : SaysZ file fa fn fx K) (i : Nat) {d : XD} (h : fx[i]? = some d := by rfl) : fnXA K (d.ad K) = d.val ∧ d.ok file K = true := by
  have e : fx.map (fun d => fnXA K (d.ad K)) = fx.map XD.val := congrArg (fun z : AlZ => z.2.2) c
  have e2 : (fx.map fun d => fnXA K (d.ad K))[i]? = (fx.map XD.val)[i]? := by rw [e]
  rw [List.getElem?_map, List.getElem?_map, h] at e2
  exact ⟨Option.some.inj e2, List.all_eq_true.mp c.b.2.2 d (List.mem_of_getElem? h)⟩
end
/-! ### tests of classes -/
/-- an own exception class over the built-in B -/
structure ExT (K : PySem.W.Frag) (x : Str) (B newId initId : String) (bmB : List Value) (fs : List Str) : Prop where
  g : ExG K (ga K x) newId bmB
  iC : PySem.W.findIn K (.ref (ga K x)) "__init__" = some (some (.ref (ma K (ga K x) "__init__")))
  tI : PySem.W.typeIn K (.ref (ma K (ga K x) "__init__")) = some (.type "function")
  sup : PySem.W.ks_superIn K (ga K x) (ga K x) "__init__" = some (some (.builtin initId))
  sB : PySem.W.subIn K (.ref (ga K x)) (.type B) = some true
  stat : PySem.W.nsIn K cStatics "thirdparty.any" = some none
  mro : PySem.W.mroIn K (ga K x) (.ref (ga K x)) = some true
  xf : XfC K (ga K x)
  nof : ∀ f ∈ fs, PySem.W.findIn K (.ref (ga K x)) f = some none
def exT (x : Str) (B newId initId : String) (bmB : List Value) (fs : List Str) : Tst := fun K => PySem.W.excInitIn K (ga K x) bmB newId && (PySem.W.hasDictIn K (ga K x) && (PySem.W.excOver K (ga K x) bmB && (eqO (PySem.W.findIn K (.ref (ga K x)) "__setattr__") (some (some (.builtin "object.__setattr__"))) &&
  (decide (PySem.W.subIn K (.ref (ga K x)) (.type "BaseException") = some true) && (decide (PySem.W.typeIn K (.ref (ga K x)) = some (.type "type")) && (PySem.W.keepIn K (.ref (ga K x)) &&
  (eqO (PySem.W.findIn K (.ref (ga K x)) "__init__") (some (some (.ref (ma K (ga K x) "__init__")))) && (decide (PySem.W.typeIn K (.ref (ma K (ga K x) "__init__")) = some (.type "function")) && (eqO (PySem.W.ks_superIn K (ga K x) (ga K x) "__init__") (some (some (.builtin initId))) &&
  (decide (PySem.W.subIn K (.ref (ga K x)) (.type B) = some true) && (eqO (PySem.W.nsIn K cStatics "thirdparty.any") (some none) && (decide (PySem.W.mroIn K (ga K x) (.ref (ga K x)) = some true) && (xfB K (ga K x) && fs.all fun f => eqO (PySem.W.findIn K (.ref (ga K x)) f) (some none))))))))))))))
theorem exT_ok {K : PySem.W.Frag} {x : Str} {B newId initId : String} {bmB : List Value} {fs : List Str} (c : exT x B newId initId bmB fs K = true) : ExT K x B newId initId bmB fs := by
  obtain ⟨c1, c⟩ := ba c
  obtain ⟨c2, c⟩ := ba c
  obtain ⟨c3, c⟩ := ba c
  obtain ⟨c4, c⟩ := ba c
  obtain ⟨c5, c⟩ := ba c
  obtain ⟨c6, c⟩ := ba c
  obtain ⟨c7, c⟩ := ba c
  obtain ⟨c8, c⟩ := ba c
  obtain ⟨c9, c⟩ := ba c
  obtain ⟨c10, c⟩ := ba c
  obtain ⟨c11, c⟩ := ba c
  obtain ⟨c12, c⟩ := ba c
  obtain ⟨c13, c⟩ := ba c
  obtain ⟨c14, c15⟩ := ba c
  exact ⟨⟨c1, c2, c3, eqO_ok c4, of_decide_eq_true c5, of_decide_eq_true c6, c7⟩, eqO_ok c8, of_decide_eq_true c9, eqO_ok c10, of_decide_eq_true c11, eqO_ok c12, of_decide_eq_true c13, xfB_ok c14, fun f hf => eqO_ok (List.all_eq_true.mp c15 f hf)⟩
/-- the class of an own instance for isinstance -/
structure InT (K : PySem.W.Frag) (C : Addr) : Prop where
  cl : Cls K C
  ha : PySem.W.findIn K (.ref C) "__class__" = some (some (.builtin "object.__class__"))
  hn : PySem.W.specialIn K (.builtin "object.__class__") "__get__" = some (some (.builtin "getset_descriptor.__get__"))
  htk : PySem.W.takesIn K (.builtin "object.__class__") = some true
  hm : PySem.W.mroIn K C (.type "object") = some true
  kp : PySem.W.keepIn K (.ref C) = true
def inT (x : Str) : Tst := fun K => (Fa.cls x).ok K && (eqO (PySem.W.findIn K (.ref (ga K x)) "__class__") (some (some (.builtin "object.__class__"))) && (eqO (PySem.W.specialIn K (.builtin "object.__class__") "__get__") (some (some (.builtin "getset_descriptor.__get__"))) &&
  (decide (PySem.W.takesIn K (.builtin "object.__class__") = some true) && (decide (PySem.W.mroIn K (ga K x) (.type "object") = some true) && PySem.W.keepIn K (.ref (ga K x))))))
theorem inT_ok {K : PySem.W.Frag} {x : Str} (c : inT x K = true) : InT K (ga K x) := by
  obtain ⟨c1, c⟩ := ba c
  obtain ⟨c2, c⟩ := ba c
  obtain ⟨c3, c⟩ := ba c
  obtain ⟨c4, c⟩ := ba c
  obtain ⟨c5, c6⟩ := ba c
  exact ⟨cls_ok c1, eqO_ok c2, eqO_ok c3, of_decide_eq_true c4, of_decide_eq_true c5, c6⟩
theorem InT.ty {K : PySem.W.Frag} {C : Addr} (T : InT K C) {H : Hp} {a dx : Addr} {fs : List (Str × V)} (e : H a = some (.ins C dx fs)) : TyX K H (.ref a) (.ref C) := .base (.ins e T.cl T.ha T.hn T.htk T.hm)
/-- a text constant of a class -/
def conT (x f z : Str) : Tst := fun K => (match PySem.W.findIn K (.ref (ga K x)) f with
  | some (some (.str y t)) => decide (y = z) && eqO (PySem.W.specialIn K (.str y t) "__get__") (some none)
  | _ => false) && !PySem.W.copiedNames.contains f
theorem conT_ok {K : PySem.W.Frag} {x f z : Str} (c : conT x f z K = true) : ∃ t, Con K (ga K x) f (.str z) (.str z t) := by
  obtain ⟨c1, c2⟩ := ba c
  cases q : PySem.W.findIn K (.ref (ga K x)) f with
  | none => rw [q] at c1; cases c1
  | some o =>
    rw [q] at c1
    cases o with
    | none => cases c1
    | some v =>
      cases v with
      | str y t =>
        obtain ⟨c3, c4⟩ := ba c1
        obtain rfl : y = z := of_decide_eq_true c3
        exact ⟨t, q, ⟨t, rfl⟩, eqO_ok c4, by simpa using c2⟩
      | _ => cases c1
/-- x's method m is the def at a -/
def methT (x m : Str) (a : PySem.W.Frag → Addr) : Tst := fun K => eqO (PySem.W.findIn K (.ref (ga K x)) m) (some (some (.ref (a K)))) && (PySem.W.isFn K (.ref (a K)) && PySem.W.keepIn K (.ref (a K)))
theorem methT_ok {K : PySem.W.Frag} {x m : Str} {a : PySem.W.Frag → Addr} (c : methT x m a K = true) : Meth K (ga K x) m (a K) := by
  obtain ⟨c1, c⟩ := ba c
  obtain ⟨c2, c3⟩ := ba c
  exact ⟨eqO_ok c1, c2, c3⟩
/-- C(..) by the __init__ at a -/
def mkT (x : Str) (a : PySem.W.Frag → Addr) : Tst := fun K => PySem.W.makesIn K (ga K x) && (eqO (PySem.W.findIn K (.ref (ga K x)) "__init__") (some (some (.ref (a K)))) && (PySem.W.isFn K (.ref (a K)) && PySem.W.keepIn K (.ref (ga K x))))
theorem mkT_ok {K : PySem.W.Frag} {x : Str} {a : PySem.W.Frag → Addr} (c : mkT x a K = true) : Mk K (ga K x) (a K) := by
  obtain ⟨c1, c⟩ := ba c
  obtain ⟨c2, c⟩ := ba c
  obtain ⟨c3, c4⟩ := ba c
  exact ⟨c1, eqO_ok c2, c3, c4⟩
/-- x's f is the property whose getter stands at a -/
def prT (x f : Str) (a : PySem.W.Frag → Addr) : Tst := fun K => propB x f K && decide (pgA x f K = a K)
theorem prT_ok {K : PySem.W.Frag} {x f : Str} {a : PySem.W.Frag → Addr} (c : prT x f a K = true) : PropOf K (ga K x) f (ma K (ga K x) f) (a K) := by
  obtain ⟨c1, c2⟩ := ba c
  have h := prop_ok c1
  rw [of_decide_eq_true c2] at h
  exact h
/-- an answer of isinstance, of a subclass, of an except clause -/
def kitT (t c : PySem.W.Frag → Value) (b : Bool) : Tst := fun K => decide (PySem.W.kitOne K (t K) (c K) = some b)
theorem kitT_ok {K : PySem.W.Frag} {t c : PySem.W.Frag → Value} {b : Bool} (h : kitT t c b K = true) : PySem.W.kitOne K (t K) (c K) = some b := of_decide_eq_true h
def subT (t c : PySem.W.Frag → Value) (b : Bool) : Tst := fun K => decide (PySem.W.subIn K (t K) (c K) = some b)
theorem subT_ok {K : PySem.W.Frag} {t c : PySem.W.Frag → Value} {b : Bool} (h : subT t c b K = true) : PySem.W.subIn K (t K) (c K) = some b := of_decide_eq_true h
def exmT (t c : PySem.W.Frag → Value) (b : Bool) : Tst := fun K => decide (PySem.W.exmOne K (t K) (c K) = some b)
theorem exmT_ok {K : PySem.W.Frag} {t c : PySem.W.Frag → Value} {b : Bool} (h : exmT t c b K = true) : PySem.W.exmOne K (t K) (c K) = some b := of_decide_eq_true h
def finT (x f : Str) (v : PySem.W.Frag → Option Value) : Tst := fun K => eqO (PySem.W.findIn K (.ref (ga K x)) f) (some (v K))
theorem finT_ok {K : PySem.W.Frag} {x f : Str} {v : PySem.W.Frag → Option Value} (h : finT x f v K = true) : PySem.W.findIn K (.ref (ga K x)) f = some (v K) := eqO_ok h
def neT (x y : Str) : Tst := fun K => decide (ga K x ≠ ga K y)
theorem neT_ok {K : PySem.W.Frag} {x y : Str} (h : neT x y K = true) : ga K x ≠ ga K y := of_decide_eq_true h
def nfT (x : Str) (t : PySem.W.Frag → Value) : Tst := fun K => PySem.W.notFirst K (ga K x) (t K)
/-! ### keywords at a def without defaults -/
theorem kw_of {K : PySem.W.Frag} {x qual : Str} {pa : Arguments} {bo : List Stmt} {sc : Scope} {f : Addr} {fd : FuncData} {ps ks : List Str} {n : Nat} {g : List Value → List Value → List Value} {gV : List V → List V → List V} (F : FunD K x qual pa bo sc [] [] f fd)
    (h : ∀ (kV doc pm : Value) (an : Option Addr) (cdv ct : Value) (us ws : List Value), us.length = n → ws.length = ks.length → bindArgs (PySem.W.fnOf x qual pa bo sc .none kV doc pm an cdv ct) ⟨us, ks.zip ws⟩ = pure (ps.zip (g us ws)))
    (rel : ∀ {vs : List V} {us : List Value} {zs : List V} {ws : List Value}, Vals vs us → Vals zs ws → Vals (gV vs zs) (g us ws)) : KBn K fd ps n ks g gV := by
  obtain ⟨oc, od, dV, kV, doc, pm, an, cdv, ct, osl, rfl, lk, hcd, hD, hK⟩ := F.ex
  rcases hD with ⟨_, rfl⟩ | ⟨e, _⟩
  · exact ⟨fun s us ws _ l1 l2 => .of_eq (h kV doc pm an cdv ct us ws l1 l2), rel⟩
  · exact absurd rfl e
end SJ

/-! SJK: readings of raise, try, f-strings, keywords; steps of them; loops. -/
namespace SJ
open PySem PySem.Spec PyProof.Rows L2 He
abbrev WO (E : XK) : WX := fun cls d _ H => E cls d H
def tRz (C : Addr) (fs : List Str) (W : WX) (ta : TA) : TS := fun _ σ H => tX C fs ta σ H fun cls d H2 => W cls d σ H2
def tTryAs (K : PySem.W.Frag) (c : Addr) (i : Nat) (tb : WX → TS) (ts : Addr → Value → Option Addr → TS) (Wout : WX) : TS := fun D σ H => tb (wAs K (.ref c) i ts Wout D) D σ H
def tTryOnly (K : PySem.W.Frag) (c : Addr) (tb : WX → TS) (ts : Addr → Value → Option Addr → TS) (Wout : WX) : TS := fun D σ H => tb (wOnly K (.ref c) ts Wout D) D σ H
section
variable {X : Cx} {x n : Str} {c : Addr} {i : Nat} {body suite : List Stmt} {b0 : Stmt} {np pos pos2 : Pos} {tb : WX → TS} {ts : Addr → Value → Option Addr → TS} {Wo : WX}
theorem ps_tryAs (hs : X.stack = X.env :: X.outer) (hf : X.env.frame = some X.env.locals) (hN : X.N.Nodup) (hi : X.N[i]? = some n) (hln : X.env.kindOf n = some .local) (hg : Gl X x) (hm : X.mg x = some (.ref c)) (tk : Takes X Wo)
    (hb : ∀ (W : WX) (pn : List (Addr × Obj)) (xe : Value → Shared → Prop), Takes (X.tr pn xe) W → PassesOwn (model X.prog X.w) X.A X.env xe → PSs (X.tr pn xe) body (tb W))
    (hsu : ∀ (a : Addr) (oe : Obj) (cls : Value) (d : Option Addr) (pn : List (Addr × Obj)), Zc cls d oe → (∃ vs, oe.data = .fields vs) → PSs (X.suite a ((a, oe) :: pn)) (b0 :: suite) (ts a cls d)) (hd : (x == ("__debug__" : Str)) = false := by decide) :
    PS X (.Try body [.ExceptHandler (some (.Name x np)) (some n) (b0 :: suite) pos2] [] [] pos) (tTryAs X.K c i tb ts Wo) := ps_try_as hs hf hN hi hln ⟨hg, hd, .inl hm⟩ tk hb hsu
theorem ps_tryOnly (hs : X.stack = X.env :: X.outer) (hf : X.env.frame = some X.env.locals) (hg : Gl X x) (hm : X.mg x = some (.ref c)) (tk : Takes X Wo)
    (hb : ∀ (W : WX) (pn : List (Addr × Obj)) (xe : Value → Shared → Prop), Takes (X.tr pn xe) W → PassesOwn (model X.prog X.w) X.A X.env xe → PSs (X.tr pn xe) body (tb W))
    (hsu : ∀ (a : Addr) (oe : Obj) (cls : Value) (d : Option Addr) (pn : List (Addr × Obj)), Zc cls d oe → (∃ vs, oe.data = .fields vs) → PSs (X.suite a ((a, oe) :: pn)) (b0 :: suite) (ts a cls d)) (hd : (x == ("__debug__" : Str)) = false := by decide) :
    PS X (.Try body [.ExceptHandler (some (.Name x np)) none (b0 :: suite) pos2] [] [] pos) (tTryOnly X.K c tb ts Wo) := ps_try_only hs hf ⟨hg, hd, .inl hm⟩ tk hb hsu
end
def tFS (ts : List TE) : TE := fun σ H Q => tJs ts Str.empty σ H fun out H1 => Q (.str out) H1
def rCap : V → List V → Hp → VK → Prop := fun x xs H Q => ∃ a, x = .str a ∧ xs = [] ∧ PySem.Builtin.Str.tooLong (Txt.capitalized a).length = false ∧ Q (.str (Txt.capitalize a)) H
theorem mt_cap {X : Cx} : MtR X "str.capitalize" rCap := mt0 (C := fun a => PySem.Builtin.Str.tooLong (Txt.capitalized a).length = false) (g := fun a => .str (Txt.capitalize a)) fun _ _ _ _ hc h => PySem.SC.capitalize hc fun t2 k => h _ k ⟨t2, rfl⟩
/-! ### keywords: the parameters' values by places -/
def kwV (ix : List Nat) : List V → List V → List V := fun vs zs => ix.map fun i => (vs ++ zs).getD i .non
def kwW (ix : List Nat) : List Value → List Value → List Value := fun us ws => ix.map fun i => (us ++ ws).getD i .none
theorem kw_rel {ix : List Nat} {vs : List V} {us : List Value} {zs : List V} {ws : List Value} (r1 : Vals vs us) (r2 : Vals zs ws) : Vals (kwV ix vs zs) (kwW ix us ws) := by
  have r := r1.append r2
  unfold kwV kwW
  induction ix with
  | nil => exact .nil
  | cons i ix ih =>
    refine .cons ?_ ih
    show RelV ((vs ++ zs).getD i .non) ((us ++ ws).getD i .none)
    rw [List.getD_eq_getElem?_getD, List.getD_eq_getElem?_getD]
    cases q : (vs ++ zs)[i]? with
    | none => rw [r.none_of q]; rfl
    | some v => obtain ⟨u, e, rv⟩ := r.get q; rw [e]; exact rv
/-! ### own exceptions' __init__ -/
theorem nofree_of {l : List (Str × NameKind)} {x : Str} (h : (l.all fun y => (y.2 != .free) || (y.1 == ("__class__" : Str))) = true) (e : l.lookup x = some .free) : x = "__class__" := by
  have z := List.all_eq_true.mp h _ (PySem.mem_of_lookup e)
  rcases Bool.or_eq_true_iff.mp z with z | z
  · exact nomatch (show (NameKind.free != NameKind.free) = true from z)
  · exact beq_iff_eq.mp z
theorem spX_len {C : Addr} {fs : List Str} {vs : List V} {H : Hp} {Q : VK} {E : XK} (h : spX C fs vs H Q E) : vs.length = fs.length + 1 := by
  obtain ⟨a, ws, rfl, hl, _⟩ := h
  rw [List.length_cons, hl]
theorem exd_ne {a C d : Addr} {o : Option Addr} {fs : List (Str × V)} : exo a C o ≠ exd d fs → True := fun _ => trivial
theorem spX_1 {K : PySem.W.Frag} {C : Addr} {f : Str} {newId : String} {bmB : List Value} {vs : List V} {H : Hp} {Q : VK} {E : XK} {n1 n2 : Str} (G : ExG K C newId bmB) (nf : PySem.W.findIn K (.ref C) f = some none) (h : spX C [f] vs H Q E) :
    ∃ a, vs[0]? = some (.ref a) ∧ H a = some (exo a C none) ∧ tCons (tVar 1) tNil (start [n1, n2] vs) H (fun ws H1 => ws.length ≤ 1000 ∧ H1 = H ∧ tSt K newId bmB f (tVar 0) (tVar 1) { nx := fun _ H2 => Q .non H2, rt := Q } (start [n1, n2] vs) H) := by
  obtain ⟨a, ws, rfl, hl, ha, k⟩ := h
  match ws, hl with
  | [v], _ =>
    refine ⟨a, rfl, ha, v, rfl, by show 1 ≤ 1000; decide, rfl, v, rfl, .ref a, rfl, a, C, rfl, G, nf, .inl ⟨ha, fun dx hd hne => ?_⟩⟩
    exact k dx _ hd hne upd_same (by rw [upd_ne hne, upd_same]; rfl) fun b b1 b2 => by rw [upd_ne b1, upd_ne b2]
theorem spX_2 {K : PySem.W.Frag} {C : Addr} {f g : Str} {newId : String} {bmB : List Value} {vs : List V} {H : Hp} {Q : VK} {E : XK} {n1 n2 n3 : Str} (G : ExG K C newId bmB) (nf : PySem.W.findIn K (.ref C) f = some none) (ng : PySem.W.findIn K (.ref C) g = some none) (h : spX C [f, g] vs H Q E) :
    ∃ a, vs[0]? = some (.ref a) ∧ H a = some (exo a C none) ∧ tCons (tVar 1) (tCons (tVar 2) tNil) (start [n1, n2, n3] vs) H (fun ws H1 => ws.length ≤ 1000 ∧ H1 = H ∧
      tSeq (tSt K newId bmB f (tVar 0) (tVar 1)) (tSt K newId bmB g (tVar 0) (tVar 2)) { nx := fun _ H2 => Q .non H2, rt := Q } (start [n1, n2, n3] vs) H) := by
  obtain ⟨a, ws, rfl, hl, ha, k⟩ := h
  match ws, hl with
  | [v, u], _ =>
    refine ⟨a, rfl, ha, v, rfl, u, rfl, by show 2 ≤ 1000; decide, rfl, v, rfl, .ref a, rfl, a, C, rfl, G, nf, .inl ⟨ha, fun dx hd hne => ?_⟩⟩
    refine ⟨u, rfl, .ref a, rfl, a, C, rfl, G, ng, .inr ⟨dx, _, upd_same, by rw [upd_ne hne, upd_same], by show 1 ≤ 900; decide, ?_⟩⟩
    exact k dx _ hd hne (by rw [upd_ne (Ne.symm hne), upd_same]) upd_same fun b b1 b2 => by rw [upd_ne b2, upd_ne b1, upd_ne b2]
/-! ### steps -/
section
variable {K : PySem.W.Frag} {σ : L2.St} {H : Hp} {Q : VK} {QT : Bool → Hp → Prop} {ta tk : TA} {te to : TE} {D : Ends} {ts tu : TS} {sp : Sp} {dv : List V} {W : WX} {v : V} {a C dx p g : Addr} {fs : List (Str × V)} {f m : Str} {n : Nat} {b : Bool}
theorem x_fn (k : ta σ H fun vs H1 => sp (vs ++ dv) H1 Q (WE W σ)) : tFn sp dv W ta σ H Q := k
theorem x_nw (k : ta σ H fun vs H1 => ∀ x dx, H1 x = none → H1 dx = none → dx ≠ x → sp (.ref x :: (vs ++ dv)) (upd (upd H1 dx (.own x)) x (.ins C dx [])) (fun v H2 => v = .non ∧ Q (.ref x) H2) (WE W σ)) : tNw C sp dv W ta σ H Q := k
theorem x_fld (h : H a = some (.ins C dx fs)) (cl : Cls K C) (na : NoAttr K C f) (l : fs.lookup f = some v) (k : Q v H) (e : te σ H = fun Q => Q (.ref a) H) : tFld K te f σ H Q := by
  show te σ H _
  rw [e]
  exact ⟨a, C, dx, fs, v, rfl, h, cl, na, l, k⟩
theorem x_rz {C : Addr} {fs : List Str} (k : ta σ H fun vs H1 => vs.length = fs.length ∧ ∀ d, H1 d = none → W (.ref C) (some d) σ (upd H1 d (.xd (fs.zip vs).reverse))) : tRz C fs W ta D σ H := k
theorem x_bm {T : String} {r : V → List V → Hp → VK → Prop} (k : to σ H fun x H1 => tyV K T x H1 ∧ ta σ H1 fun xs H2 => r x xs H2 Q) : tBM K T r to ta σ H Q := k
theorem x_par {i j : Nat} (k : ta σ H fun vs H1 => ∃ v w, vs = [v, w] ∧ D.nx ((σ.set i (some v)).set j (some w)) H1) : tPar i j ta D σ H := k
theorem x_par2 {i j : Nat} {v w : V} (k : D.nx ((σ.set i (some v)).set j (some w)) H) : ∃ v1 w1, [v, w] = [v1, w1] ∧ D.nx ((σ.set i (some v1)).set j (some w1)) H := ⟨v, w, rfl, k⟩
/-- for k in range(n) -/
theorem x_forR {j : Nat} {n : Int} {tb : TS} (h0 : 0 ≤ n ∧ n ≤ 1000000) (Pv : Nat → L2.St → Hp → Prop) (hi : Pv 0 σ H)
    (hs : ∀ (i : Nat) s2 H2, (i : Int) < n → Pv i s2 H2 → tb { D with nx := Pv (i + 1), ct := Pv (i + 1), bk := D.nx } (s2.set j (some (.int (i : Int)))) H2) (hd : ∀ s2 H2, Pv n.toNat s2 H2 → D.nx s2 H2) : tFor (iRng1 (tCons (tC (.int n)) tNil)) (gName j) tb D σ H :=
  ⟨n, rfl, by omega, by omega, for_range (lo := 0) (n := n.toNat) Pv hi (fun i s2 H2 hi2 p => by
    have e : (0 : Int) + (i : Int) = (i : Int) := Int.zero_add _
    show tb _ (s2.set j (some (.int ((0 : Int) + (i : Int))))) H2
    rw [e]
    exact hs i s2 H2 (by omega) p) hd⟩
theorem x_forL {xs : List V} {tl : TE} {tg : TG} {tb : TS} {a : Addr} (he : ∀ Q : VK, Q (.ref a) H → tl σ H Q) (hx : SqL K H a xs) (Pv : Nat → L2.St → Hp → Prop) (hi : Pv 0 σ H) (hl : ∀ i s2 H2, i ≤ xs.length → Pv i s2 H2 → SqL K H2 a xs)
    (hs : ∀ i x s2 H2, xs[i]? = some x → Pv i s2 H2 → tg x s2 H2 fun s3 H3 => tb { D with nx := Pv (i + 1), ct := Pv (i + 1), bk := D.nx } s3 H3) (hd : ∀ s2 H2, Pv xs.length s2 H2 → D.nx s2 H2) : tFor (iList K tl) tg tb D σ H := by
  show tl σ H _
  refine he _ ?_
  exact ⟨a, rfl, ⟨xs, hx⟩, for_list (K := K) (a := a) (xs := xs) Pv hi hl hs hd⟩
end

/-! ### C.NAME -/
def cvT (x f z : Str) : Tst := fun K => PySem.W.readsIn K (ga K x) (.type "type") && (eqO (PySem.W.specialIn K (.ref (ga K x)) "__getattribute__") (some (some (.builtin "type.__getattribute__"))) && (match PySem.W.findCls K (.ref (ga K x)) (.type "type") f with
  | some (.val (.str y _)) => decide (y = z)
  | _ => false))
theorem cvT_ok {K : PySem.W.Frag} {x f z : Str} (c : cvT x f z K = true) : ∃ mc v, ClX.CRead K (ga K x) mc ∧ ClX.CVal K (ga K x) mc f (.str z) v := by
  obtain ⟨c1, c⟩ := ba c
  obtain ⟨c2, c3⟩ := ba c
  refine ⟨.type "type", ?_⟩
  cases q : PySem.W.findCls K (.ref (ga K x)) (.type "type") f with
  | none => rw [q] at c3; cases c3
  | some o =>
    rw [q] at c3
    cases o with
    | val v =>
      cases v with
      | str y t => exact ⟨_, ⟨c1, eqO_ok c2⟩, q, t, by rw [show y = z from of_decide_eq_true c3]⟩
      | _ => cases c3
    | _ => cases c3
end SJ

/-! SJS: further steps of readings. -/
namespace SJ
open PySem PySem.Spec PyProof.Rows L2 He
def gFld (K : PySem.W.Frag) (f : Str) (x : V) (H : Hp) (Q : VK) : Prop := ∃ a C dx fs v, x = .ref a ∧ H a = some (.ins C dx fs) ∧ Cls K C ∧ NoAttr K C f ∧ fs.lookup f = some v ∧ Q v H
def gCon (K : PySem.W.Frag) (f : Str) (x : V) (H : Hp) (Q : VK) : Prop := ∃ a C dx fs v u, x = .ref a ∧ H a = some (.ins C dx fs) ∧ Cls K C ∧ Con K C f v u ∧ fs.lookup f = none ∧ Q v H
def gPr (K : PySem.W.Frag) (f : Str) (g : Addr) (sp : Sp) (x : V) (H : Hp) (Q : VK) : Prop := ∃ a C dx fs pp, x = .ref a ∧ H a = some (.ins C dx fs) ∧ Cls K C ∧ PropOf K C f pp g ∧ sp [x] H Q E0
def gSt (K : PySem.W.Frag) (f : Str) (y x : V) (H : Hp) (N : Hp → Prop) : Prop := ∃ a C dx fs, x = .ref a ∧ H a = some (.ins C dx fs) ∧ Cls K C ∧ NoAttr K C f ∧ fs.length < 1000 ∧ N (upd H a (.ins C dx (putF f y fs)))
def gMt (K : PySem.W.Frag) (m : Str) (g : Addr) (x : V) (H : Hp) (R : Hp → Prop) : Prop := ∃ a C dx fs, x = .ref a ∧ H a = some (.ins C dx fs) ∧ Cls K C ∧ Meth K C m g ∧ fs.lookup m = none ∧ R H
section
variable {K : PySem.W.Frag} {σ : L2.St} {H : Hp} {Q : VK} {QT : Bool → Hp → Prop} {QA : List V → Hp → Prop} {ta tk : TA} {te to tb tc : TE} {D : Ends} {ts tu : TS} {sp : Sp} {dv : List V} {W : WX} {v x y c : V} {a C dx p g : Addr} {fs : List (Str × V)} {f m : Str} {n : Nat} {b : Bool} {r r2 : R2} {t u : Value}
theorem x_fld0 (k : te σ H fun x H1 => gFld K f x H1 Q) : tFld K te f σ H Q := k
theorem x_con0 (k : te σ H fun x H1 => gCon K f x H1 Q) : tCon K te f σ H Q := k
theorem x_pr0 (k : te σ H fun x H1 => gPr K f g sp x H1 Q) : tPr K f g sp te σ H Q := k
theorem x_sfld (k : te σ H fun y H1 => to σ H1 fun x H2 => gSt K f y x H2 (D.nx σ)) : sFld K to te f D σ H := k
theorem x_mt0 (k : to σ H fun x H1 => ∃ a C dx fs, x = .ref a ∧ H1 a = some (.ins C dx fs) ∧ Cls K C ∧ Meth K C m g ∧ fs.lookup m = none ∧ ta σ H1 fun vs H2 => sp (x :: (vs ++ dv)) H2 Q (WE W σ)) : tMt K m g sp dv W to ta σ H Q := k
theorem x_chain (k : te σ H fun x H1 => tb σ H1 fun y H2 => r x y H2 fun z H3 => ∃ k, z = .bl k ∧ (if k = true then tc σ H3 fun w H4 => r2 y w H4 Q else Q (.bl false) H3)) : tChain r r2 te tb tc σ H Q := k
theorem x_isi {b : Bool} (hc : ClsV c u) (ht : TyX K H x t) (hk : PySem.W.kitOne K t u = some b) (k : Q (.bl b) H) : rIsi K [x, c] H Q := ⟨x, c, t, u, b, rfl, hc, ht, hk, k⟩
theorem x_all {bs : List Bool} (h : SqL K H a (bs.map V.bl)) (k : Q (.bl (bs.all id)) H) : rAll K [.ref a] H Q := ⟨a, bs, rfl, h, k⟩
theorem x_inSg {c : Nat} {z : Str} (k : Q (.bl (decide (c ∈ z.cps.toList))) H) : rInS (.str ⟨#[c]⟩) (.str z) H Q := ⟨c, z, rfl, rfl, k⟩
theorem x_yes (k : QT true H) : tYes σ H QT := k
theorem x_fs {l : List TE} (k : tJs l Str.empty σ H fun out H1 => Q (.str out) H1) : tFS l σ H Q := k
theorem x_js {l : List TE} {acc : Str} {R : Str → Hp → Prop} (k : te σ H fun x H1 => ∃ y : Str, x = .str y ∧ (acc ++ y).length ≤ sizeLine ∧ tJs l (acc ++ y) σ H1 R) : tJs (te :: l) acc σ H R := k
theorem x_js0 {acc : Str} {R : Str → Hp → Prop} (k : R acc H) : tJs [] acc σ H R := k
theorem x_fmt {z : Str} (hl : z.length ≤ 10000) (k : Q (.str z) H) : (∃ y : Str, V.str z = .str y ∧ y.length ≤ sizeLine ∧ Q (.str y) H) ∨ ∃ i : Int, V.str z = .int i ∧ i.natAbs.log2 < 1920 ∧ Q (.str (toString i)) H := .inl ⟨z, rfl, Nat.le_trans hl (by decide), k⟩
theorem x_fmt0 (k : te σ H fun x H1 => (∃ y : Str, x = .str y ∧ y.length ≤ sizeLine ∧ Q (.str y) H1) ∨ ∃ i : Int, x = .int i ∧ i.natAbs.log2 < 1920 ∧ Q (.str (toString i)) H1) : tFmt te σ H Q := k
theorem x_tup0 {xs : List V} (h : xs.length ≤ 1000) (k : ∀ p, H p = none → Q (.ref p) (upd H p (.tup xs))) : xs.length ≤ sizeLine ∧ ∀ p, H p = none → Q (.ref p) (upd H p (.tup xs)) := ⟨Nat.le_trans h (by decide), k⟩
theorem x_lst0 {xs : List V} (h : xs.length ≤ 1000) (k : ∀ p, H p = none → Q (.ref p) (upd H p (.lst xs))) : xs.length ≤ sizeLine ∧ ∀ p, H p = none → Q (.ref p) (upd H p (.lst xs)) := ⟨Nat.le_trans h (by decide), k⟩
/-- a comprehension over a text, each element told at once -/
theorem x_lcS {z : Str} {j : Nat} {F : Nat → V} (he : ∀ Q : VK, Q (.str z) H → te σ H Q) (hz : z.length ≤ 10000) (hw : ∀ x, wipe ((wipe σ [j]).set j (some x)) [j] = wipe σ [j]) (hel : ∀ c H2 (Q2 : VK), Q2 (F c) H2 → tb ((wipe σ [j]).set j (some (.str ⟨#[c]⟩))) H2 Q2)
    (k : ∀ l, H l = none → Q (.ref l) (upd H l (.lst (z.cps.toList.map F)))) : tLc (iStr te) (gName j) tYes tb [j] σ H Q := by
  show te σ H _
  refine he _ ?_
  refine ⟨z, rfl, fun l hl => ?_⟩
  have hsz : z.cps.size ≤ 10000 := hz
  refine ⟨fun i m H2 => m = z.cps.size - i ∧ i ≤ z.cps.size ∧ H2 = upd H l (.lst ((z.cps.toList.take i).map F)), ⟨z.cps.size, rfl, Nat.zero_le _, by rw [List.take_zero, List.map_nil]⟩, ?_⟩
  rintro i m H2 ⟨rfl, hi, rfl⟩
  by_cases hlt : i < z.cps.size
  · refine .inr ⟨hlt, fun H3 => H3 = upd H l (.lst ((z.cps.toList.take (i + 1)).map F)), fun H3 e => ⟨z.cps.size - (i + 1), by omega, rfl, hlt, e⟩, fun x H3 yy => ?_⟩
    obtain ⟨rfl, c, hc, rfl⟩ := yy
    refine ⟨hw _, ?_⟩
    show tb _ _ _
    refine hel c _ _ ⟨_, upd_same, ?_, ?_⟩
    · rw [List.length_map, List.length_take]
      exact Nat.lt_of_le_of_lt (Nat.le_trans (Nat.min_le_left _ _) (by omega : i ≤ 10000)) (by decide)
    · have hc2 : z.cps.toList[i]? = some c := by rw [Array.getElem?_toList]; exact hc
      rw [upd_upd, List.take_add_one, hc2, List.map_append]
      rfl
  · have e : i = z.cps.size := by omega
    subst e
    refine .inl ⟨Nat.le_refl _, ?_⟩
    have ht : z.cps.toList.take z.cps.size = z.cps.toList := List.take_of_length_le (by rw [Array.length_toList]; exact Nat.le_refl _)
    rw [ht]
    exact k l hl
/-- a comprehension over a list that stays, by an invariant -/
theorem x_lcL {xs : List V} {tg : TG} {tt : TT} {vs : List Nat} (he : ∀ Q : VK, Q (.ref a) H → te σ H Q) (hx : SqL K H a xs) (Pv : Addr → Nat → Hp → Prop) (h0 : ∀ l, H l = none → Pv l 0 (upd H l (.lst []))) (hl : ∀ l i H2, i ≤ xs.length → Pv l i H2 → SqL K H2 a xs)
    (hs : ∀ l i x H2, H l = none → xs[i]? = some x → Pv l i H2 → tg x (wipe σ vs) H2 fun s3 H3 => wipe s3 vs = wipe σ vs ∧ tt s3 H3 fun b H4 => if b = true then tb s3 H4 fun y H5 => ∃ acc, H5 l = some (.lst acc) ∧ acc.length < sizeLine ∧ Pv l (i + 1) (upd H5 l (.lst (acc ++ [y]))) else Pv l (i + 1) H4)
    (hd : ∀ l H2, H l = none → Pv l xs.length H2 → Q (.ref l) H2) : tLc (iList K te) tg tt tb vs σ H Q := by
  show te σ H _
  refine he _ ?_
  exact ⟨a, rfl, ⟨xs, hx⟩, fun l hl0 => lc_list (K := K) (a := a) (xs := xs) (Pv l) (h0 l hl0) (hl l) (fun i x H2 hx2 p => hs l i x H2 hl0 hx2 p) fun H2 p => hd l H2 hl0 p⟩
/-- .. over range(n) -/
theorem x_lcR {n : Int} {tg : TG} {tt : TT} {vs : List Nat} (he : ∀ Q : VK, Q (.int n) H → te σ H Q) (h0 : 0 ≤ n ∧ n ≤ 1000000) (Pv : Addr → Nat → Hp → Prop) (hi : ∀ l, H l = none → Pv l 0 (upd H l (.lst [])))
    (hs : ∀ l i H2, H l = none → i < n.toNat → Pv l i H2 → tg (.int i) (wipe σ vs) H2 fun s3 H3 => wipe s3 vs = wipe σ vs ∧ tt s3 H3 fun b H4 => if b = true then tb s3 H4 fun y H5 => ∃ acc, H5 l = some (.lst acc) ∧ acc.length < sizeLine ∧ Pv l (i + 1) (upd H5 l (.lst (acc ++ [y]))) else Pv l (i + 1) H4)
    (hd : ∀ l H2, H l = none → Pv l n.toNat H2 → Q (.ref l) H2) : tLc (iRng1 (tCons te tNil)) tg tt tb vs σ H Q := by
  show te σ H _
  refine he _ ?_
  refine ⟨n, rfl, by omega, by omega, fun l hl0 => lc_range (lo := 0) (n := n.toNat) (Pv l) (hi l hl0) (fun i H2 hi2 p => ?_) fun H2 p => hd l H2 hl0 p⟩
  have e : (0 : Int) + (i : Int) = (i : Int) := Int.zero_add _
  rw [e]
  exact hs l i H2 hl0 hi2 p
/-- .. over a tuple that stays -/
theorem x_lcT {xs : List V} {tg : TG} {tt : TT} {vs : List Nat} {Q0 : VK} (hx : SqT K H a xs) (Pv : Addr → Nat → Hp → Prop) (h0 : ∀ l, H l = none → Pv l 0 (upd H l (.lst []))) (hl : ∀ l i H2, i ≤ xs.length → Pv l i H2 → SqT K H2 a xs)
    (hs : ∀ l i x H2, H l = none → xs[i]? = some x → Pv l i H2 → tg x (wipe σ vs) H2 fun s3 H3 => wipe s3 vs = wipe σ vs ∧ tt s3 H3 fun b H4 => if b = true then tb s3 H4 fun y H5 => ∃ acc, H5 l = some (.lst acc) ∧ acc.length < sizeLine ∧ Pv l (i + 1) (upd H5 l (.lst (acc ++ [y]))) else Pv l (i + 1) H4)
    (hd : ∀ l H2, H l = none → Pv l xs.length H2 → Q (.ref l) H2) : (fun x H1 => ∃ a2, x = V.ref a2 ∧ (∃ ys, SqT K H1 a2 ys) ∧ ∀ l, H1 l = none → ∃ Wn : Nat → Nat → Hp → Prop, (∃ m, Wn 0 m (upd H1 l (.lst []))) ∧ ∀ i m H2, Wn i m H2 →
      ((Itt K a2).stop i H2 ∧ Q (.ref l) H2) ∨ ((Itt K a2).go i H2 ∧ ∃ Nx : Hp → Prop, (∀ H3, Nx H3 → ∃ m2, m2 < m ∧ Wn (i + 1) m2 H3) ∧ ∀ x H3, (Itt K a2).yld i H2 x H3 → tg x (wipe σ vs) H3 fun s2 H4 => wipe s2 vs = wipe σ vs ∧ tt s2 H4 fun b H5 =>
        if b = true then tb s2 H5 fun y H6 => ∃ acc, H6 l = some (.lst acc) ∧ acc.length < sizeLine ∧ Nx (upd H6 l (.lst (acc ++ [y]))) else Nx H5)) (V.ref a) H :=
  ⟨a, rfl, ⟨xs, hx⟩, fun l hl0 => lc_tup (K := K) (a := a) (xs := xs) (Pv l) (h0 l hl0) (hl l) (fun i x H2 hx2 p => hs l i x H2 hl0 hx2 p) fun H2 p => hd l H2 hl0 p⟩
end
end SJ

/-! SJT: choices in readings. -/
namespace SJ
open PySem PySem.Spec PyProof.Rows L2 He
theorem ite_t {A B : Prop} (h : A) : if (true : Bool) = true then A else B := by rw [if_pos rfl]; exact h
theorem ite_f {A B : Prop} (h : B) : if (false : Bool) = true then A else B := by rw [if_neg Bool.false_ne_true]; exact h
theorem ite_n {A B : Prop} {b : Bool} (h : if b = true then B else A) : if (!b) = true then A else B := by cases b <;> exact h
theorem ite_e {A B : Prop} {b c : Bool} (e : b = c) (h : if c = true then A else B) : if b = true then A else B := by rw [e]; exact h
theorem x_bl2 {P : Bool → Prop} {b : Bool} (k : P b) : ∃ c, V.bl b = .bl c ∧ P c := ⟨b, rfl, k⟩
theorem x_st2 {P : Str → Prop} {b : Str} (k : P b) : ∃ c, V.str b = .str c ∧ P c := ⟨b, rfl, k⟩
theorem Same.tr {A B C : Hp} (h : Same A B) (k : Same B C) : Same A C := fun b u q => k b u (h b u q)
def gFmt (x : V) (H1 : Hp) (Q : VK) : Prop := (∃ y : Str, x = .str y ∧ y.length ≤ sizeLine ∧ Q (.str y) H1) ∨ ∃ i : Int, x = .int i ∧ i.natAbs.log2 < 1920 ∧ Q (.str (toString i)) H1
section
variable {K : PySem.W.Frag} {σ : L2.St} {H : Hp} {Q : VK} {te : TE}
theorem x_fmtE (k : te σ H fun x H1 => gFmt x H1 Q) : tFmt te σ H Q := k
theorem x_fmtS {z : Str} (hl : z.length ≤ 10000) (k : Q (.str z) H) : gFmt (.str z) H Q := .inl ⟨z, rfl, Nat.le_trans hl (by decide), k⟩
def gM0 (r : V → List V → Hp → VK → Prop) (x : V) (H : Hp) (Q : VK) : Prop := (∃ a, x = .str a) ∧ r x [] H Q
theorem x_m0 {r : V → List V → Hp → VK → Prop} (k : te σ H fun x H1 => gM0 r x H1 Q) : tM0 r te σ H Q := k
theorem x_ap {a b : Str} {P : Prop} (h : a.length + b.length ≤ 10000) (k : P) : (a ++ b).length ≤ sizeLine ∧ P := ⟨by rw [PySem.Str.length_append]; exact Nat.le_trans h (by decide), k⟩
end
end SJ

/-! SJD: the laws' own pen: drawing numbers. -/
namespace SJ
open PySem PySem.Spec PyProof.Rows L2 He
local macro_rules | `(tactic| walk_at "go") => `(tactic| (repeat (first
  | with_reducible apply x_seq | with_reducible apply x_asg | with_reducible apply x_ret | with_reducible apply x_if | with_reducible apply x_test | with_reducible apply x_B | with_reducible apply x_op | (with_reducible apply x_var rfl) | with_reducible apply x_c
  | with_reducible apply x_cb | with_reducible apply x_cons | with_reducible apply x_nil | with_reducible apply x_bl2 | with_reducible apply x_st2 | with_reducible apply ite_t | with_reducible apply ite_f | with_reducible apply ite_n | with_reducible apply x_and | with_reducible apply x_or | with_reducible apply x_not | with_reducible apply x_andV | with_reducible apply x_orV | with_reducible apply x_notV
  | with_reducible apply x_addI | with_reducible apply x_sub' | with_reducible apply x_eqI | with_reducible apply x_neI | with_reducible apply x_eqT | with_reducible apply x_neT | with_reducible apply x_ltI | with_reducible apply x_leI | with_reducible apply x_gtI | with_reducible apply x_geI
  | with_reducible apply x_intI | with_reducible apply x_intBl | with_reducible apply x_absI | with_reducible apply x_asgG | with_reducible apply x_sub | with_reducible apply x_lst | with_reducible apply x_tup | with_reducible apply x_next | with_reducible apply x_drop
  | with_reducible apply x_ife | with_reducible apply x_chain | with_reducible apply x_inSg | with_reducible apply x_yes | with_reducible apply x_fs | with_reducible apply x_js | with_reducible apply x_js0 | with_reducible apply x_fmtE | with_reducible apply x_m0 | with_reducible apply x_fld0 | with_reducible apply x_con0 | with_reducible apply x_pr0 | with_reducible apply x_sfld
  | (with_reducible refine x_new ?_ ?_; · exact Nat.le_of_ble_eq_true rfl)
  | with_reducible apply x_fn | with_reducible apply x_nw | with_reducible apply x_bm | with_reducible apply x_par | with_reducible apply x_rz | with_reducible apply x_retN | with_reducible apply x_un | with_reducible apply x_U)))

/-! ### data -/
theorem dp_ints {K : PySem.W.Frag} {H : Hp} : ∀ ns : List Int, DpAll K H (ns.map V.int) (ns.map PyData.int)
  | [] => .nil
  | n :: ns => .cons (.int n) (dp_ints ns)
theorem dp_strs {K : PySem.W.Frag} {H : Hp} : ∀ ns : List Str, DpAll K H (ns.map V.str) (ns.map PyData.str)
  | [] => .nil
  | n :: ns => .cons (.str n) (dp_strs ns)
theorem lay_all : ∀ ds : List PyData, (∀ d ∈ ds, d.canLay0 = true) → PyData.canLayAll0 ds = true
  | [], _ => by simp only [PyData.canLayAll0]
  | d :: ds, h => by
    simp only [PyData.canLayAll0]
    rw [h d (List.mem_cons_self ..), lay_all ds fun e q => h e (List.mem_cons_of_mem _ q)]
    rfl
theorem dep_all {n : Nat} : ∀ ds : List PyData, (∀ d ∈ ds, d.depth ≤ n) → PyData.depthAll ds ≤ n
  | [], _ => by simp only [PyData.depthAll]; exact Nat.zero_le _
  | d :: ds, h => by
    simp only [PyData.depthAll]
    exact Nat.max_le.mpr ⟨h d (List.mem_cons_self ..), dep_all ds fun e q => h e (List.mem_cons_of_mem _ q)⟩
/-- may lie in an equation -/
def Lay (n : Nat) (d : PyData) : Prop := d.canLay0 = true ∧ d.depth ≤ n
theorem Lay.sh {n : Nat} {d : PyData} (h : Lay n d) (l : n ≤ 64) : SeqAt.shaped d = true := by
  unfold SeqAt.shaped
  rw [h.1, decide_eq_true (Nat.le_trans h.2 l)]
  rfl
theorem Lay.int {n : Nat} {i : Int} : Lay n (.int i) := ⟨by simp only [PyData.canLay0], by simp only [PyData.depth]; exact Nat.zero_le _⟩
theorem Lay.bl {n : Nat} {i : Bool} : Lay n (.bool i) := ⟨by simp only [PyData.canLay0], by simp only [PyData.depth]; exact Nat.zero_le _⟩
theorem Lay.non {n : Nat} : Lay n .none := ⟨by simp only [PyData.canLay0], by simp only [PyData.depth]; exact Nat.zero_le _⟩
theorem Lay.str {n : Nat} {z : Str} (h : PyData.strOk z = true) : Lay n (.str z) := ⟨by simp only [PyData.canLay0]; exact h, by simp only [PyData.depth]; exact Nat.zero_le _⟩
theorem Lay.lst {n : Nat} {ds : List PyData} (h : ∀ d ∈ ds, Lay n d) : Lay (n + 1) (.list ds) := ⟨by simp only [PyData.canLay0]; exact lay_all ds fun d q => (h d q).1, by simp only [PyData.depth]; exact Nat.succ_le_succ (dep_all ds fun d q => (h d q).2)⟩
theorem Lay.tup {n : Nat} {ds : List PyData} (h : ∀ d ∈ ds, Lay n d) : Lay (n + 1) (.tuple ds) := ⟨by simp only [PyData.canLay0]; exact lay_all ds fun d q => (h d q).1, by simp only [PyData.depth]; exact Nat.succ_le_succ (dep_all ds fun d q => (h d q).2)⟩
theorem lay_ints {n : Nat} {ns : List Int} : Lay (n + 1) (.list (ns.map PyData.int)) := .lst fun d q => by
  obtain ⟨i, _, rfl⟩ := List.mem_map.mp q
  exact .int
/-- xs != [] -/
theorem x_sl {K : PySem.W.Frag} {σ : L2.St} {H : Hp} {Q : VK} {te : TE} {tl th : TO} {r : V → Option Int → Option Int → Hp → VK → Prop} (k : te σ H fun x H1 => tl σ H1 fun l H2 => th σ H2 fun u H3 => r x l u H3 Q) : tSl r te tl th σ H Q := k
theorem x_noPart {σ : L2.St} {H : Hp} {P : Option Int → Hp → Prop} (k : P none H) : tNoPart σ H P := k
theorem x_part {σ : L2.St} {H : Hp} {te : TE} {P : Option Int → Hp → Prop} (k : te σ H fun x H1 => ∃ i, x = .int i ∧ P (some i) H1) : tPart te σ H P := k
theorem x_in2 {P : Int → Prop} {b : Int} (k : P b) : ∃ c, V.int b = .int c ∧ P c := ⟨b, rfl, k⟩
theorem x_neNil {K : PySem.W.Frag} {H : Hp} {a b : Addr} {xs : List V} {ds : List PyData} {Q : VK} (h : SqL K H a xs) (hd : DpAll K H xs ds) (hl : Lay 64 (.list ds)) (hb : H b = some (.lst [])) (k : Q (.bl (!decide (ds = []))) H) : rNeU K (.ref a) (.ref b) H Q := by
  refine x_neDD (.lst h hd) (.lst (SqL.of hb) .nil) (hl.sh (Nat.le_refl _)) rfl ?_
  have e : PyData.eqv (.list ds) (.list []) = decide (ds = []) := by
    cases ds with
    | nil => rfl
    | cons d ds => rfl
  rw [e]
  exact k
theorem del_le {H : Hp} {p : Addr} : Same (L2.del H p) H := fun b u q => del_sub q
theorem del_ne_of {H : Hp} {p a : Addr} {o : HO} (h : L2.del H p a = some o) : a ≠ p := del_some h
theorem atI_in {α : Type} {xs : List α} {i : Int} (h0 : 0 ≤ i) (h1 : i < xs.length) : ∃ v, xs[i.toNat]? = some v ∧ atI xs i = some v := by
  have h2 : i.toNat < xs.length := by omega
  refine ⟨xs[i.toNat], List.getElem?_eq_getElem h2, ?_⟩
  unfold atI ixN
  rw [if_pos h0, if_pos h1]
  exact List.getElem?_eq_getElem h2
/-! ### the pen -/
structure Pen where
  p : Addr
  c : Addr
  ns : List Int
/-- the pen P: at most n draws so far -/
def PenAt (H : Hp) (P : Pen) (n : Nat) : Prop := ∃ (a r : Int), H P.p = some (.lst [.ref P.c, .int a, .int r]) ∧ L2.del H P.p P.c = some (.lst (P.ns.map V.int)) ∧ 0 ≤ a ∧ a ≤ n ∧ 0 ≤ r ∧ P.ns.length ≤ 1000
def spPen (K : PySem.W.Frag) : Sp := fun vs H Q _ => ∃ (a : Addr) (ns : List Int), vs = [.ref a] ∧ SqL K H a (ns.map V.int) ∧ ns.length ≤ 63 ∧ ∀ P H2, H P.p = none → Same H H2 → PenAt H2 P 0 → Q (.ref P.p) H2
def spDraw : Sp := fun vs H Q _ => ∃ (P : Pen) (m : Int) (n : Nat), vs = [.ref P.p, .int m] ∧ PenAt H P n ∧ n < 100000 ∧ 0 < m ∧ m < 1073741824 ∧
  ∀ (H2 : Hp) (r : Int), 0 ≤ r → r < m → PenAt H2 P (n + 1) → Same (L2.del H P.p) (L2.del H2 P.p) → Q (.int r) H2
def spPick (K : PySem.W.Frag) : Sp := fun vs H Q _ => ∃ (P : Pen) (l : Addr) (n : Nat) (xs : List V), vs = [.ref P.p, .ref l] ∧ PenAt H P n ∧ n < 100000 ∧ (SqL K (L2.del H P.p) l xs ∨ SqT K (L2.del H P.p) l xs) ∧ xs ≠ [] ∧ xs.length ≤ 1000 ∧
  ∀ (H2 : Hp) (i : Nat) (v : V), xs[i]? = some v → PenAt H2 P (n + 1) → Same (L2.del H P.p) (L2.del H2 P.p) → Q v H2
theorem PenAt.at {H : Hp} {P : Pen} {n : Nat} (h : PenAt H P n) : ∃ xs, H P.p = some (.lst xs) := by
  obtain ⟨a, r, h, _⟩ := h
  exact ⟨_, h⟩
theorem PenAt.cell {H : Hp} {P : Pen} {n : Nat} (h : PenAt H P n) : L2.del H P.p P.c = some (.lst (P.ns.map V.int)) := by
  obtain ⟨a, r, _, h, _⟩ := h
  exact h
theorem PenAt.ne {H : Hp} {P : Pen} {n : Nat} {l : Addr} (h : PenAt H P n) (e : H l = none) : l ≠ P.p ∧ l ≠ P.c := by
  obtain ⟨a, r, h1, h2, _⟩ := h
  exact ⟨(fun q => by rw [q, h1] at e; cases e), (fun q => by rw [q, del_sub h2] at e; cases e)⟩
theorem PenAt.mono {H H2 : Hp} {P : Pen} {n m : Nat} (h : PenAt H P n) (s : Same H H2) (l : n ≤ m) : PenAt H2 P m := by
  obtain ⟨a, r, h1, h2, h3, h4, h5, h6⟩ := h
  exact ⟨a, r, s _ _ h1, Same.del s _ _ h2, h3, by omega, h5, h6⟩
theorem PenAt.upd {H : Hp} {P : Pen} {l : Addr} {n : Nat} {o : HO} (h : PenAt H P n) (e : l ≠ P.p ∧ l ≠ P.c) : PenAt (L2.upd H l o) P n := by
  obtain ⟨a, r, h1, h2, h3, h4, h5, h6⟩ := h
  refine ⟨a, r, by rw [upd_ne (Ne.symm e.1)]; exact h1, ?_, h3, h4, h5, h6⟩
  rw [del_upd_ne e.1, upd_ne (Ne.symm e.2)]
  exact h2
def tPen (K : PySem.W.Frag) : TS := (tRet (tLst (tCons (tCB (rListU K) (tCons (tSl (rSlU K) (tVar 0) tNoPart (tPart (tC (.int 63)))) tNil)) (tCons (tC (.int 0)) (tCons (tC (.int 0)) tNil)))))
def drawTail (K : PySem.W.Frag) (m1 c3 c4 m2 c5 c6 c7 m3 : Int) : TS := (tSeq (tIfS (tAnd (tTest (tOp rLtU (tVar 3) (tCB (rLenU K) (tCons (tOp (rIx K) (tVar 0) (tC (.int 0))) tNil)))) (tTest (tOp rGeU (tCB rAbs (tCons (tVar 4) tNil)) (tOp rPow (tC (.int 10)) (tC (.int 18)))))) (tSeq (tAsg (tOp (rAdd K) (tOp (rMul K) (tC (.int 2)) (tCB rAbs (tCons (tVar 4) tNil))) (tCB rInt (tCons (tOp rLtU (tVar 4) (tC (.int 0))) tNil))) (gName 5)) (tSeq (tAsg (tOp rFdv (tCB rInt (tCons (tVar 5) tNil)) (tVar 1)) (gSub (tVar 0) (tC (.int 2)) rSetL)) (tRet (tOp rMod (tCB rInt (tCons (tVar 5) tNil)) (tVar 1))))) tNext) (tSeq (tAsg (tOp rMod (tOp rPow (tCB rInt (tCons (tOp (rAdd K) (tOp (rAdd K) (tOp rMod (tCB rInt (tCons (tVar 4) tNil)) (tC (.int m1))) (tOp (rMul K) (tC (.int c3)) (tVar 3))) (tC (.int c4))) tNil)) (tC (.int 5))) (tC (.int m2))) (gName 6)) (tSeq (tAsg (tOp rMod (tOp rPow (tCB rInt (tCons (tOp (rAdd K) (tOp (rAdd K) (tOp (rMul K) (tVar 6) (tOp (rAdd K) (tOp (rMul K) (tC (.int 2)) (tVar 3)) (tC (.int c5)))) (tOp (rMul K) (tOp (rMul K) (tC (.int c6)) (tVar 3)) (tVar 3))) (tC (.int c7))) tNil)) (tC (.int 3))) (tC (.int m3))) (gName 6)) (tRet (tOp rMod (tCB rInt (tCons (tOp rFdv (tVar 6) (tC (.int 16))) tNil)) (tVar 1))))))
def tDrawA (K : PySem.W.Frag) (c1 c2 m1 c3 c4 m2 c5 c6 c7 m3 : Int) : TS := (tSeq (tIfS (tTest (tOp rGtU (tOp (rIx K) (tVar 0) (tC (.int 2))) (tC (.int 0)))) (tSeq (tAsg (tOp rMod (tCB rInt (tCons (tOp (rIx K) (tVar 0) (tC (.int 2))) tNil)) (tVar 1)) (gName 2)) (tSeq (tAsg (tOp rFdv (tCB rInt (tCons (tOp (rIx K) (tVar 0) (tC (.int 2))) tNil)) (tVar 1)) (gSub (tVar 0) (tC (.int 2)) rSetL)) (tRet (tVar 2)))) tNext) (tSeq (tAsg (tOp (rIx K) (tVar 0) (tC (.int 1))) (gName 3)) (tSeq (tAsg (tOp (rAdd K) (tVar 3) (tC (.int 1))) (gSub (tVar 0) (tC (.int 1)) rSetL)) (tSeq (tAsg (tOp (rAdd K) (tOp (rMul K) (tC (.int c1)) (tVar 3)) (tC (.int c2))) (gName 4)) (tSeq (tIfS (tTest (tOp (rNeU K) (tOp (rIx K) (tVar 0) (tC (.int 0))) (tLst tNil))) (tAsg (tOp (rIx K) (tOp (rIx K) (tVar 0) (tC (.int 0))) (tOp rMod (tCB rInt (tCons (tVar 3) tNil)) (tCB (rLenU K) (tCons (tOp (rIx K) (tVar 0) (tC (.int 0))) tNil)))) (gName 4)) tNext) (drawTail K m1 c3 c4 m2 c5 c6 c7 m3))))))
section
variable {K : PySem.W.Frag} {vs : List V} {H : Hp} {Q : VK} {E : XK} {n0 n1 n2 n3 n4 n5 n6 : Str} {D : Ends}
theorem len_pen (h : spPen K vs H Q E) : vs.length = 1 := by obtain ⟨a, ns, rfl, _⟩ := h; rfl
theorem len_draw (h : spDraw vs H Q E) : vs.length = 2 := by obtain ⟨p, m, n, rfl, _⟩ := h; rfl
theorem len_pick (h : spPick K vs H Q E) : vs.length = 2 := by obtain ⟨p, l, n, xs, rfl, _⟩ := h; rfl
theorem mul_bd {a b A B : Int} (h0 : 0 ≤ a) (h1 : a ≤ A) (h2 : 0 ≤ b) (h3 : b ≤ B) : 0 ≤ a * b ∧ a * b ≤ A * B := ⟨Int.mul_nonneg h0 h2, Int.mul_le_mul h1 h3 h2 (by omega)⟩
theorem draw_tail {p c : Addr} {m a x r : Int} {ns : List Int} {n : Nat} {m1 c3 c4 m2 c5 c6 c7 m3 : Int} {H0 : Hp} {v2 v5 v6 : Option V} (hp : H p = some (.lst [.ref c, .int (a + 1), .int r])) (hc : L2.del H p c = some (.lst (ns.map V.int))) (ha : 0 ≤ a) (han : a ≤ n) (hr : 0 ≤ r) (hn : n < 100000) (hns : ns.length ≤ 1000)
    (hm : 0 < m) (hm2 : m < 1073741824) (b1 : 0 < m1 ∧ m1 < 2147483648) (b2 : 0 < m2 ∧ m2 < 2147483648) (b3 : 0 < m3 ∧ m3 < 2147483648) (d3 : 0 ≤ c3 ∧ c3 ≤ 100000) (d4 : 0 ≤ c4 ∧ c4 ≤ 100000) (d5 : 0 ≤ c5 ∧ c5 ≤ 100000) (d6 : 0 ≤ c6 ∧ c6 ≤ 100000) (d7 : 0 ≤ c7 ∧ c7 ≤ 100000)
    (s : Same (L2.del H0 p) (L2.del H p)) (k : ∀ (H2 : Hp) (r : Int), 0 ≤ r → r < m → PenAt H2 ⟨p, c, ns⟩ (n + 1) → Same (L2.del H0 p) (L2.del H2 p) → D.rt (.int r) H2) :
    drawTail K m1 c3 c4 m2 c5 c6 c7 m3 D [some (.ref p), some (.int m), v2, some (.int a), some (.int x), v5, v6] H := by
  unfold drawTail
  have hc2 := del_sub hc
  have fin : ∀ i : Int, D.rt (.int (i % m)) H := fun i => k H _ (Int.emod_nonneg _ (by omega)) (Int.emod_lt_of_pos _ hm) ⟨a + 1, r, hp, hc, by omega, by omega, hr, hns⟩ s
  have rest : (tSeq (tAsg (tOp rMod (tOp rPow (tCB rInt (tCons (tOp (rAdd K) (tOp (rAdd K) (tOp rMod (tCB rInt (tCons (tVar 4) tNil)) (tC (.int m1))) (tOp (rMul K) (tC (.int c3)) (tVar 3))) (tC (.int c4))) tNil)) (tC (.int 5))) (tC (.int m2))) (gName 6)) (tSeq (tAsg (tOp rMod (tOp rPow (tCB rInt (tCons (tOp (rAdd K) (tOp (rAdd K) (tOp (rMul K) (tVar 6) (tOp (rAdd K) (tOp (rMul K) (tC (.int 2)) (tVar 3)) (tC (.int c5)))) (tOp (rMul K) (tOp (rMul K) (tC (.int c6)) (tVar 3)) (tVar 3))) (tC (.int c7))) tNil)) (tC (.int 3))) (tC (.int m3))) (gName 6)) (tRet (tOp rMod (tCB rInt (tCons (tOp rFdv (tVar 6) (tC (.int 16))) tNil)) (tVar 1))))) D [some (.ref p), some (.int m), v2, some (.int a), some (.int x), v5, v6] H := by
    have h0 := Int.emod_nonneg x (by omega : m1 ≠ 0)
    have h1 := Int.emod_lt_of_pos x b1.1
    have h2 := mul_bd d3.1 d3.2 ha (by omega : a ≤ 100000)
    have h3 := mul_bd d6.1 d6.2 ha (by omega : a ≤ 100000)
    have h4 := mul_bd h3.1 h3.2 ha (by omega : a ≤ 100000)
    walk_at "go"
    refine x_mod b1.1 ?_
    walk_at "go"
    refine x_mulI (.inl ⟨by omega, by omega⟩) ?_
    walk_at "go"
    refine x_pow ⟨by omega, by omega, by omega⟩ ?_
    walk_at "go"
    refine x_mod b2.1 ?_
    walk_at "go"
    have h5 := Int.emod_nonneg ((x % m1 + c3 * a + c4) ^ (5 : Int).toNat) (by omega : m2 ≠ 0)
    have h6 := Int.emod_lt_of_pos ((x % m1 + c3 * a + c4) ^ (5 : Int).toNat) b2.1
    generalize (x % m1 + c3 * a + c4) ^ (5 : Int).toNat % m2 = y at h5 h6
    have h7 := mul_bd h5 (by omega : y ≤ 2147483648) (by omega : 0 ≤ 2 * a + c5) (by omega : 2 * a + c5 ≤ 300000)
    refine x_mulI (.inl ⟨by omega, by omega⟩) ?_
    walk_at "go"
    refine x_mulI (.inl ⟨by omega, by omega⟩) ?_
    walk_at "go"
    refine x_mulI (.inl ⟨by omega, by omega⟩) ?_
    walk_at "go"
    refine x_mulI (.inr ⟨by omega, by omega⟩) ?_
    walk_at "go"
    refine x_pow ⟨by omega, by omega, by omega⟩ ?_
    walk_at "go"
    refine x_mod b3.1 ?_
    walk_at "go"
    refine x_fdv (by omega) (by omega) ?_
    walk_at "go"
    refine x_mod hm ?_
    exact fin _
  walk_at "go"
  refine x_ixL (SqL.of hp) rfl ?_
  walk_at "go"
  refine x_lenL (SqL.of hc2) ?_
  walk_at "go"
  cases decide (a < ((ns.map V.int).length : Int)) with
  | false => exact ite_f (ite_f rest)
  | true =>
    walk_at "go"
    refine x_pow ⟨by omega, by omega, by omega⟩ ?_
    walk_at "go"
    cases decide ((10 : Int) ^ (18 : Int).toNat ≤ if x < 0 then -x else x) with
    | false => exact ite_f rest
    | true =>
      walk_at "go"
      refine x_mulI (.inl ⟨by omega, by omega⟩) ?_
      walk_at "go"
      refine x_fdv hm hm2 ?_
      walk_at "go"
      refine x_setL hp rfl ?_
      walk_at "go"
      refine x_mod hm ?_
      have hg : 0 ≤ (2 * (if x < 0 then -x else x) + if decide (x < 0) = true then 1 else 0) := by
        by_cases e : x < 0
        · rw [if_pos e]; split <;> omega
        · rw [if_neg e]; split <;> omega
      refine k _ _ (Int.emod_nonneg _ (by omega)) (Int.emod_lt_of_pos _ hm) ⟨a + 1, _, upd_same, by rw [del_upd]; exact hc, by omega, by omega, Int.ediv_nonneg hg (by omega), hns⟩ ?_
      rw [del_upd]
      exact s
theorem cut_ints {j : Int} {ns : List Int} (h : 0 ≤ j) : cutV (ns.map V.int) none (some j) = (ns.take (min j.toNat ns.length)).map V.int := by
  have e : ¬ j < 0 := by omega
  show ((ns.map V.int).drop 0).take ((if j < 0 then (j + ((ns.map V.int).length : Int)).toNat else min j.toNat (ns.map V.int).length) - 0) = _
  rw [if_neg e, List.drop_zero, List.length_map, Nat.sub_zero, List.map_take]
theorem pen_ok (h : spPen K vs H Q E) : tPen K { nx := fun _ H2 => Q .non H2, rt := Q } (start [n0] vs) H := by
  obtain ⟨a, ns, rfl, ha, hns, k⟩ := h
  unfold tPen
  walk_at "go"
  refine ⟨_, rfl, ?_⟩
  refine ⟨_, rfl, .inl ⟨a, _, rfl, ha, fun q hq => ?_⟩⟩
  rw [cut_ints (by omega)]
  walk_at "go"
  refine x_listL (SqL.of upd_same) fun q2 hq2 => ?_
  walk_at "go"
  intro p hp
  have e1 : q2 ≠ q := fun e => by rw [e, upd_same] at hq2; cases hq2
  have e2 : q2 ≠ p := fun e => by rw [← e, upd_same] at hp; cases hp
  have hp1 := hp
  rw [upd_ne (Ne.symm e2)] at hp1
  have e3 : p ≠ q := fun e => by rw [e, upd_same] at hp1; cases hp1
  have s1 : Same H (upd H q (.lst ((ns.take (min (Int.toNat 63) ns.length)).map V.int))) := Same.upd (Same.refl _) hq
  refine k ⟨p, q2, ns.take (min (Int.toNat 63) ns.length)⟩ _ (by rw [upd_ne e3] at hp1; exact hp1) (Same.upd (Same.upd s1 hq2) hp) ⟨0, 0, upd_same, ?_, by omega, by omega, by omega, ?_⟩
  · show L2.del _ p q2 = _; rw [del_ne e2, upd_ne e2, upd_same]
  · show (ns.take _).length ≤ 1000; rw [List.length_take]; omega
def tPick (K : PySem.W.Frag) (sp : Sp) : TS := (tRet (tOp (rIx K) (tVar 1) (tFn sp [] W0 (tCons (tVar 0) (tCons (tCB (rLenU K) (tCons (tVar 1) tNil)) tNil)))))
theorem sq_len {l : Addr} {xs : List V} (h : SqL K H l xs ∨ SqT K H l xs) (k : Q (.int (xs.length : Int)) H) : rLenU K [.ref l] H Q := by
  rcases h with h | h
  · exact x_lenL h k
  · exact x_lenT' h k
theorem sq_ix {l : Addr} {xs : List V} {i : Int} {v : V} (h : SqL K H l xs ∨ SqT K H l xs) (e : atI xs i = some v) (k : Q v H) : rIx K (.ref l) (.int i) H Q := by
  rcases h with h | h
  · exact x_ixL h e k
  · exact x_ixT h e k
theorem same_sq {H2 : Hp} {l : Addr} {xs : List V} (s : Same H H2) (h : SqL K H l xs ∨ SqT K H l xs) : SqL K H2 l xs ∨ SqT K H2 l xs := by
  rcases h with h | h
  · exact .inl (Same.seq s h)
  · refine .inr ?_
    rcases h with (h | ⟨o, h⟩) | h
    · exact .inl (.inl (s _ _ h))
    · exact .inl (.inr ⟨o, s _ _ h⟩)
    · exact .inr h
theorem pick_ok (h : spPick K vs H Q E) : tPick K spDraw { nx := fun _ H2 => Q .non H2, rt := Q } (start [n0, n1] vs) H := by
  obtain ⟨p, l, n, xs, rfl, hp, hn, hl, hne, hz, k⟩ := h
  unfold tPick
  walk_at "go"
  refine sq_len (same_sq del_le hl) ?_
  walk_at "go"
  have h0 : 0 < xs.length := List.length_pos_iff.mpr hne
  refine ⟨p, _, n, rfl, hp, hn, by omega, by omega, fun H2 r h1 h2 hp2 s => ?_⟩
  obtain ⟨v, hv, hv2⟩ := atI_in h1 h2
  exact sq_ix (same_sq del_le (same_sq s hl)) hv2 (k H2 _ v hv hp2 s)
theorem draw_ok {c1 c2 m1 c3 c4 m2 c5 c6 c7 m3 : Int} (h : spDraw vs H Q E) (d1 : 0 ≤ c1 ∧ c1 ≤ 100000) (b1 : 0 < m1 ∧ m1 < 2147483648) (b2 : 0 < m2 ∧ m2 < 2147483648) (b3 : 0 < m3 ∧ m3 < 2147483648) (d3 : 0 ≤ c3 ∧ c3 ≤ 100000) (d4 : 0 ≤ c4 ∧ c4 ≤ 100000) (d5 : 0 ≤ c5 ∧ c5 ≤ 100000) (d6 : 0 ≤ c6 ∧ c6 ≤ 100000) (d7 : 0 ≤ c7 ∧ c7 ≤ 100000) :
    tDrawA K c1 c2 m1 c3 c4 m2 c5 c6 c7 m3 { nx := fun _ H2 => Q .non H2, rt := Q } (start [n0, n1, n2, n3, n4, n5, n6] vs) H := by
  obtain ⟨⟨p, c, ns⟩, m, n, rfl, ⟨a, r, hp, hc, ha, han, hr, hns⟩, hn, hm, hm2, k⟩ := h
  have hc2 := del_sub hc
  have hcp := del_some hc
  unfold tDrawA
  walk_at "go"
  refine x_ixL (SqL.of hp) rfl ?_
  walk_at "go"
  cases decide ((0 : Int) < r) with
  | true =>
    walk_at "go"
    refine x_ixL (SqL.of hp) rfl ?_
    walk_at "go"
    refine x_mod hm ?_
    walk_at "go"
    refine x_ixL (SqL.of hp) rfl ?_
    walk_at "go"
    refine x_fdv hm hm2 ?_
    walk_at "go"
    refine x_setL hp rfl ?_
    walk_at "go"
    refine k _ _ (Int.emod_nonneg _ (by omega)) (Int.emod_lt_of_pos _ hm) ⟨a, _, upd_same, by rw [del_upd]; exact hc, by omega, by omega, Int.ediv_nonneg hr (by omega), hns⟩ ?_
    rw [del_upd]
    exact Same.refl _
  | false =>
    walk_at "go"
    refine x_ixL (SqL.of hp) rfl ?_
    walk_at "go"
    refine x_setL hp rfl ?_
    walk_at "go"
    refine x_mulI (.inl ⟨by omega, by omega⟩) ?_
    walk_at "go"
    refine x_ixL (SqL.of upd_same) rfl ?_
    walk_at "go"
    intro q hq
    have hqp : q ≠ p := fun e => by rw [e, upd_same] at hq; cases hq
    have hqc : c ≠ q := fun e => by rw [← e, upd_ne hcp, hc2] at hq; cases hq
    refine x_neNil (xs := ns.map V.int) (SqL.of (by rw [upd_ne hqc, upd_ne hcp]; exact hc2)) (dp_ints ns) (lay_ints (n := 63)) upd_same ?_
    walk_at "go"
    have hp2 : (upd (upd H p (.lst [.ref c, .int (a + 1), .int r])) q (.lst [])) p = some (.lst [.ref c, .int (a + 1), .int r]) := by rw [upd_ne (Ne.symm hqp), upd_same]
    have hc3 : L2.del (upd (upd H p (.lst [.ref c, .int (a + 1), .int r])) q (.lst [])) p c = some (.lst (ns.map V.int)) := by rw [del_ne hcp, upd_ne hqc, upd_ne hcp]; exact hc2
    have s : Same (L2.del H p) (L2.del (upd (upd H p (.lst [.ref c, .int (a + 1), .int r])) q (.lst [])) p) := by
      rw [del_upd_ne hqp, del_upd]
      exact Same.upd (Same.refl _) (del_none (by rw [upd_ne hqp] at hq; exact hq))
    cases e : decide (ns.map PyData.int = []) with
    | true =>
      walk_at "go"
      exact draw_tail hp2 hc3 ha han hr hn hns hm hm2 b1 b2 b3 d3 d4 d5 d6 d7 s k
    | false =>
      have hne : 0 < ns.length := by
        cases ns with
        | nil => exact nomatch (of_decide_eq_false e)  rfl
        | cons i ns => exact Nat.succ_pos _
      walk_at "go"
      refine x_ixL (SqL.of hp2) rfl ?_
      walk_at "go"
      refine x_ixL (SqL.of hp2) rfl ?_
      walk_at "go"
      refine x_lenL (SqL.of (del_sub hc3)) ?_
      have hl : ((ns.map V.int).length : Int) = ns.length := by rw [List.length_map]
      refine x_mod (by omega) ?_
      obtain ⟨v, hv, hv2⟩ := atI_in (xs := ns.map V.int) (i := a % ((ns.map V.int).length : Int)) (Int.emod_nonneg _ (by omega)) (Int.emod_lt_of_pos _ (by omega))
      rw [List.getElem?_map] at hv
      obtain ⟨i, _, rfl⟩ := Option.map_eq_some_iff.mp hv
      refine x_ixL (SqL.of (del_sub hc3)) hv2 ?_
      exact draw_tail hp2 hc3 ha han hr hn hns hm hm2 b1 b2 b3 d3 d4 d5 d6 d7 s k
/-! ### tags: drawn off a pool -/
def spTags (pool : List Str) : Sp := fun vs H Q _ => ∃ (P : Pen) (m n : Nat), vs = [.ref P.p, .int m] ∧ PenAt H P n ∧ n + m < 100000 ∧ m ≤ pool.length ∧
  ∀ (H2 : Hp) (l : Addr) (ts rest : List Str), H l = none → H2 l = some (.lst (ts.map V.str)) → ts.length = m → (ts ++ rest).Perm pool → PenAt H2 P (n + m) → Same (L2.del H P.p) (L2.del H2 P.p) → Q (.ref l) H2
theorem len_tags {pool : List Str} (h : spTags pool vs H Q E) : vs.length = 2 := by obtain ⟨p, m, n, rfl, _⟩ := h; rfl
def tTagsLc (K : PySem.W.Frag) (i j : Nat) : TE := tLc (iRng1 (tCons (tVar 1) tNil)) (gName j) tYes (tBM K "list" rPopAt (tVar i) (tCons (tFn spDraw [] W0 (tCons (tVar 0) (tCons (tCB (rLenU K) (tCons (tVar i) tNil)) tNil))) tNil)) [j]
theorem erase_map {α β : Type} (f : α → β) : ∀ (xs : List α) (k : Nat), (xs.map f).eraseIdx k = (xs.eraseIdx k).map f
  | [], _ => rfl
  | _ :: _, 0 => rfl
  | x :: xs, k + 1 => by
    show f x :: (xs.map f).eraseIdx k = f x :: (xs.eraseIdx k).map f
    rw [erase_map f xs k]
theorem erase_perm {α : Type} : ∀ (xs : List α) (k : Nat) (x : α), xs[k]? = some x → (x :: xs.eraseIdx k).Perm xs
  | [], _, _, h => nomatch h
  | y :: ys, 0, x, h => by cases (Option.some.inj h : y = x); exact List.Perm.refl _
  | y :: ys, k + 1, x, h => (List.Perm.swap y x (ys.eraseIdx k)).trans ((erase_perm ys k x h).cons y)
theorem perm_pop {ts rest pool : List Str} {i : Nat} {t : Str} (h : (ts ++ rest).Perm pool) (e : rest[i]? = some t) : (ts ++ [t] ++ rest.eraseIdx i).Perm pool := by
  refine List.Perm.trans ?_ h
  rw [List.append_assoc]
  exact List.Perm.append_left ts (erase_perm rest i t e)
theorem tags_lc {P : Pen} {m n : Nat} {q : Addr} {pool : List Str} {H0 : Hp} (hp : PenAt H P n) (hn : n + m < 100000) (hm : m ≤ pool.length) (hz : pool.length ≤ 1000) (hq : H q = some (.lst (pool.map V.str))) (hq0 : H0 q = none) (s0 : Same H0 H) (hp0 : ∃ o, H0 P.p = some o) (hc0 : ∃ o, H0 P.c = some o)
    (k : ∀ (H2 : Hp) (l : Addr) (ts rest : List Str), H0 l = none → H2 l = some (.lst (ts.map V.str)) → ts.length = m → (ts ++ rest).Perm pool → PenAt H2 P (n + m) → Same (L2.del H0 P.p) (L2.del H2 P.p) → Q (.ref l) H2) :
    tTagsLc K 2 3 [some (.ref P.p), some (.int m), some (.ref q), none] H Q := by
  unfold tTagsLc
  obtain ⟨op, hp0⟩ := hp0
  obtain ⟨oc, hc0⟩ := hc0
  have nq : q ≠ P.p ∧ q ≠ P.c := ⟨(fun e => by rw [e, hp0] at hq0; cases hq0), (fun e => by rw [e, hc0] at hq0; cases hq0)⟩
  refine x_lcR (n := (m : Int)) (fun _ q => ⟨_, rfl, q⟩) ⟨by omega, by omega⟩ (fun l i H2 => l ≠ q ∧ l ≠ P.p ∧ l ≠ P.c ∧ ∃ ts rest : List Str, H2 l = some (.lst (ts.map V.str)) ∧ H2 q = some (.lst (rest.map V.str)) ∧ ts.length = i ∧ (ts ++ rest).Perm pool ∧ PenAt H2 P (n + i) ∧ Same (L2.del H0 P.p) (L2.del H2 P.p))
    (fun l hl => ?_) (fun l i H2 hl hi hv => ?_) (fun l H2 hl hv => ?_)
  · have nl := hp.ne hl
    have lq : l ≠ q := fun e => by rw [e, hq] at hl; cases hl
    refine ⟨lq, nl.1, nl.2, [], pool, upd_same, by rw [upd_ne (Ne.symm lq)]; exact hq, rfl, List.Perm.refl _, hp.upd nl, ?_⟩
    rw [del_upd_ne nl.1]
    exact Same.upd (Same.del s0) (del_none hl)
  · obtain ⟨lq, lp, lc, ts, rest, h1, h2, h3, h4, h5, h6⟩ := hv
    refine ⟨rfl, ?_⟩
    walk_at "go"
    refine ⟨.inl ⟨rfl, _, SqL.of h2⟩, ?_⟩
    have hlen : ts.length + rest.length = pool.length := by rw [← List.length_append]; exact h4.length_eq
    walk_at "go"
    refine x_lenL (SqL.of h2) ?_
    walk_at "go"
    rw [List.length_map]
    refine ⟨P, _, n + i, rfl, h5, by omega, by omega, by omega, fun H3 r r0 r1 hp3 s3 => ?_⟩
    have hq3 : H3 q = some (.lst (rest.map V.str)) := del_sub (s3 _ _ (by rw [del_ne nq.1]; exact h2))
    have hl3 : H3 l = some (.lst (ts.map V.str)) := del_sub (s3 _ _ (by rw [del_ne lp]; exact h1))
    have hr : r.toNat < rest.length := by omega
    have hix : seqIndex? r (rest.map V.str).length = some r.toNat := by
      refine (ixN_seq ?_).1
      unfold ixN
      rw [if_pos r0, List.length_map, if_pos r1]
    refine ⟨q, rest.map V.str, r, r.toNat, .str rest[r.toNat], rfl, rfl, hq3, by omega, by omega, hix, by rw [List.getElem?_map, List.getElem?_eq_getElem hr]; rfl, ?_⟩
    have em : (rest.map V.str).eraseIdx r.toNat = (rest.eraseIdx r.toNat).map V.str := erase_map ..
    rw [em]
    refine ⟨ts.map V.str, by rw [upd_ne lq]; exact hl3, by rw [List.length_map]; exact Nat.lt_of_le_of_lt (by omega : ts.length ≤ 1000) (by decide), lq, lp, lc, ts ++ [rest[r.toNat]], rest.eraseIdx r.toNat, ?_, ?_, ?_, ?_, ?_, ?_⟩
    · rw [upd_same, List.map_append]; rfl
    · rw [upd_ne (Ne.symm lq), upd_same]
    · rw [List.length_append, h3]; rfl
    · exact perm_pop h4 (List.getElem?_eq_getElem hr)
    · exact (hp3.upd nq).upd ⟨lp, lc⟩
    · rw [del_upd_ne lp, del_upd_ne nq.1]
      refine Same.mut (Same.mut (Same.trans h6 s3) ?_) ?_
      · exact del_none hq0
      · exact del_none (Same.free s0 hl)
  · obtain ⟨lq, lp, lc, ts, rest, h1, h2, h3, h4, h5, h6⟩ := hv
    have em : (m : Int).toNat = m := by omega
    rw [em] at h3 h5
    exact k H2 l ts rest (Same.free s0 hl) h1 h3 h4 h5 h6
end
end SJ

/-! SJV: what stays when a heap grows; more steps. -/
namespace SJ
open PySem PySem.Spec PyProof.Rows L2 He
section
variable {K : PySem.W.Frag} {H H2 : Hp}
theorem ty_same (s : Same H H2) {x : V} {t : Value} (h : TyX K H x t) : TyX K H2 x t := by
  cases h with
  | base b =>
    cases b with
    | non => exact .base .non
    | bl y => exact .base (.bl y)
    | int y => exact .base (.int y)
    | str y => exact .base (.str y)
    | flt y => exact .base (.flt y)
    | lst e => exact .base (.lst (s _ _ e))
    | frz e => exact .base (.frz (s _ _ e))
    | tup e => exact .base (.tup (s _ _ e))
    | dK e => exact .base (.dK (s _ _ e))
    | dT e => exact .base (.dT (s _ _ e))
    | ins e c1 c2 c3 c4 c5 => exact .base (.ins (s _ _ e) c1 c2 c3 c4 c5)
  | byt b => exact .byt b
  | set e => exact .set (s _ _ e)
  | kList e c => exact .kList e c
  | kTuple e c => exact .kTuple e c
  | kDict e c => exact .kDict e c
  | fTuple e => exact .fTuple (s _ _ e)
  | fDict e => exact .fDict (s _ _ e)
theorem sqt_same (s : Same H H2) {l : Addr} {xs : List V} (h : SqT K H l xs) : SqT K H2 l xs := by
  rcases h with (h | ⟨o, h⟩) | h
  · exact .inl (.inl (s _ _ h))
  · exact .inl (.inr ⟨o, s _ _ h⟩)
  · exact .inr h
mutual
theorem dp_same (s : Same H H2) : ∀ (d : PyData) (v : V), Dp K H v d → Dp K H2 v d
  | .none, _, h => by cases h; exact .non
  | .bool b, _, h => by cases h; exact .bl b
  | .int i, _, h => by cases h; exact .int i
  | .str x, _, h => by cases h; exact .str x
  | .list ds, _, h => by
    cases h with
    | lst q a => exact .lst (Same.seq s q) (dpa_same s ds _ a)
  | .tuple ds, _, h => by
    cases h with
    | tup q a => exact .tup (sqt_same s q) (dpa_same s ds _ a)
  | .dict _, _, h => by cases h
theorem dpa_same (s : Same H H2) : ∀ (ds : List PyData) (vs : List V), DpAll K H vs ds → DpAll K H2 vs ds
  | [], _, h => by cases h; exact .nil
  | d :: ds, _, h => by
    cases h with
    | cons a b => exact .cons (dp_same s d _ a) (dpa_same s ds _ b)
end
end
section
variable {K : PySem.W.Frag} {σ : L2.St} {H : Hp} {Q : VK} {ta tk : TA} {te : TE} {D : Ends}
theorem x_tryAs {c : Addr} {i : Nat} {tb : WX → TS} {ts : Addr → Value → Option Addr → TS} {Wo : WX} (k : tb (wAs K (.ref c) i ts Wo D) D σ H) : tTryAs K c i tb ts Wo D σ H := k
theorem x_tryOnly {c : Addr} {tb : WX → TS} {ts : Addr → Value → Option Addr → TS} {Wo : WX} (k : tb (wOnly K (.ref c) ts Wo D) D σ H) : tTryOnly K c tb ts Wo D σ H := k
theorem x_nwK {C : Addr} {n m : Nat} {sp : Sp} {gV : List V → List V → List V} {W : WX} (k : ta σ H fun vs H1 => tk σ H1 fun zs H2 => vs.length = n ∧ zs.length = m ∧ ∀ x dx, H2 x = none → H2 dx = none → dx ≠ x →
  sp (gV (.ref x :: vs) zs) (upd (upd H2 dx (.own x)) x (.ins C dx [])) (fun v H3 => v = .non ∧ Q (.ref x) H3) (WE W σ)) : tNwK C n m sp gV W ta tk σ H Q := k
theorem x_xf {a : Addr} {cls : Value} {d : Option Addr} {C : Addr} {f : Str} (k : te σ H fun x H1 => x = .ref a ∧ cls = .ref C ∧ ∃ (dd : Addr) (fs : List (Str × V)) (v : V), d = some dd ∧ H1 dd = some (.xd fs) ∧ fs.lookup f = some v ∧ Q v H1) : tXf a cls d C f te σ H Q := k
/-- new objects: what was there stays -/
theorem same_new {x dx C : Addr} {H2 : Hp} (hx : H x = none) (hd : H dx = none) (s : Same (L2.del (upd (upd H dx (.own x)) x (.ins C dx [])) x) (L2.del H2 x)) : Same H H2 := fun b o e => by
  have n1 := ne_of_none e hx
  have n2 := ne_of_none e hd
  exact del_sub (s b o (by rw [del_ne n1, upd_ne n1, upd_ne n2]; exact e))
theorem same_new2 {x dx C : Addr} {H2 : Hp} (hx : H x = none) (hd : H dx = none) (s : Same (upd (upd H dx (.own x)) x (.ins C dx [])) H2) : Same H H2 := fun b o e => by
  have n1 := ne_of_none e hx
  have n2 := ne_of_none e hd
  exact s b o (by rw [upd_ne n1, upd_ne n2]; exact e)
theorem new_le {x dx C : Addr} (hx : H x = none) (hd : H dx = none) : Same H (upd (upd H dx (.own x)) x (.ins C dx [])) := same_new2 hx hd (Same.refl _)
end
/-! ### data that may be compared -/
theorem ok_str {z : Str} (h : (z.cps.toList.all fun c => decide (c < 0x110000)) = true) : PyData.strOk z = true := by
  unfold PyData.strOk
  rw [← Array.all_toList]
  exact h
theorem lays_nil {n : Nat} : ∀ d ∈ ([] : List PyData), Lay n d := fun _ m => nomatch m
theorem lays_cons {n : Nat} {d : PyData} {ds : List PyData} (h : Lay n d) (t : ∀ e ∈ ds, Lay n e) : ∀ e ∈ d :: ds, Lay n e := fun e m => by
  rcases List.mem_cons.mp m with rfl | m
  · exact h
  · exact t e m
/-! ### new objects, the heap at once named anew -/
def gNewT (xs : List V) (H : Hp) (Q : VK) : Prop := xs.length ≤ sizeLine ∧ ∀ p, H p = none → Q (.ref p) (upd H p (.tup xs))
def gNewL (xs : List V) (H : Hp) (Q : VK) : Prop := xs.length ≤ sizeLine ∧ ∀ p, H p = none → Q (.ref p) (upd H p (.lst xs))
section
variable {K : PySem.W.Frag} {σ : L2.St} {H : Hp} {Q : VK} {tA : TA} {xs ys : List V} {p q : Addr}
theorem x_tupG (k : tA σ H fun xs H1 => gNewT xs H1 Q) : tTup tA σ H Q := k
theorem x_lstG (k : tA σ H fun xs H1 => gNewL xs H1 Q) : tLst tA σ H Q := k
theorem x_newT (h : xs.length ≤ 1000) (k : ∀ p H2, H p = none → Same H H2 → H2 p = some (.tup xs) → Q (.ref p) H2) : gNewT xs H Q := ⟨Nat.le_trans h (by decide), fun p hp => k p _ hp (Same.upd (Same.refl _) hp) upd_same⟩
theorem x_newL (h : xs.length ≤ 1000) (k : ∀ p H2, H p = none → Same H H2 → H2 p = some (.lst xs) → Q (.ref p) H2) : gNewL xs H Q := ⟨Nat.le_trans h (by decide), fun p hp => k p _ hp (Same.upd (Same.refl _) hp) upd_same⟩
theorem x_dnew (k : ∀ p H2, H p = none → Same H H2 → H2 p = some (.dK []) → Q (.ref p) H2) : tDNewK σ H Q := fun p hp => k p _ hp (Same.upd (Same.refl _) hp) upd_same
theorem x_catG (h1 : H p = some (.lst xs)) (h2 : H q = some (.lst ys)) (h : xs.length + ys.length ≤ 10000) (k : ∀ l H2, H l = none → Same H H2 → H2 l = some (.lst (xs ++ ys)) → Q (.ref l) H2) : rAdd K (.ref p) (.ref q) H Q :=
  x_addL h1 h2 h fun l hl => k l _ hl (Same.upd (Same.refl _) hl) upd_same
theorem x_repG {i : Int} (h1 : H p = some (.lst xs)) (h0 : 0 ≤ i ∧ i ≤ 1000) (h : xs.length ≤ 10) (k : ∀ l H2, H l = none → Same H H2 → H2 l = some (.lst (List.replicate i.toNat xs).flatten) → Q (.ref l) H2) : rMul K (.ref p) (.int i) H Q := by
  have hz : xs.length * i.toNat ≤ 10 * 1000 := Nat.mul_le_mul h (by omega)
  exact .inr (.inr (.inl ⟨p, i, xs, rfl, rfl, h1, by omega, by omega, Nat.le_trans hz (by decide), fun l hl => k l _ hl (Same.upd (Same.refl _) hl) upd_same⟩))
/-- a comprehension over a tuple just made -/
def gLcT (K : PySem.W.Frag) (tg : TG) (tt : TT) (tb : TE) (vs : List Nat) (σ : L2.St) (Q : VK) (x : V) (H1 : Hp) : Prop := ∃ a2, x = V.ref a2 ∧ (∃ ys, SqT K H1 a2 ys) ∧ ∀ l, H1 l = none → ∃ Wn : Nat → Nat → Hp → Prop, (∃ m, Wn 0 m (upd H1 l (.lst []))) ∧ ∀ i m H2, Wn i m H2 →
      ((Itt K a2).stop i H2 ∧ Q (.ref l) H2) ∨ ((Itt K a2).go i H2 ∧ ∃ Nx : Hp → Prop, (∀ H3, Nx H3 → ∃ m2, m2 < m ∧ Wn (i + 1) m2 H3) ∧ ∀ x H3, (Itt K a2).yld i H2 x H3 → tg x (wipe σ vs) H3 fun s2 H4 => wipe s2 vs = wipe σ vs ∧ tt s2 H4 fun b H5 =>
        if b = true then tb s2 H5 fun y H6 => ∃ acc, H6 l = some (.lst acc) ∧ acc.length < sizeLine ∧ Nx (upd H6 l (.lst (acc ++ [y]))) else Nx H5)
theorem x_lcT0 {te tb : TE} {tg : TG} {tt : TT} {vs : List Nat} (k : te σ H fun x H1 => gLcT K tg tt tb vs σ Q x H1) : tLc (iTup K te) tg tt tb vs σ H Q := k
theorem x_lcT1 {tb : TE} {xs : List V} {tg : TG} {tt : TT} {vs : List Nat} {a : Addr} (hx : SqT K H a xs) (Pv : Addr → Nat → Hp → Prop) (h0 : ∀ l, H l = none → Pv l 0 (upd H l (.lst []))) (hl : ∀ l i H2, i ≤ xs.length → Pv l i H2 → SqT K H2 a xs)
    (hs : ∀ l i x H2, H l = none → xs[i]? = some x → Pv l i H2 → tg x (wipe σ vs) H2 fun s3 H3 => wipe s3 vs = wipe σ vs ∧ tt s3 H3 fun b H4 => if b = true then tb s3 H4 fun y H5 => ∃ acc, H5 l = some (.lst acc) ∧ acc.length < sizeLine ∧ Pv l (i + 1) (upd H5 l (.lst (acc ++ [y]))) else Pv l (i + 1) H4)
    (hd : ∀ l H2, H l = none → Pv l xs.length H2 → Q (.ref l) H2) : gLcT K tg tt tb vs σ Q (.ref a) H := x_lcT (Q0 := Q) hx Pv h0 hl hs hd
theorem x_andB {b1 b2 : Bool} {P : Bool → Prop} (k : P (b1 && b2)) : ∃ c, V.bl b1 = .bl c ∧ if c = true then P b2 else P false := by
  refine ⟨b1, rfl, ?_⟩
  cases b1 <;> exact k
theorem ite_d {p : Prop} [Decidable p] {A B : Prop} (e : p) (h : A) : if (decide p) = true then A else B := by rw [decide_eq_true e]; exact ite_t h
theorem ne_some {a b : Addr} {o : HO} (h1 : H a = some o) (h2 : H b = none) : a ≠ b := fun e => by rw [e, h2] at h1; cases h1
theorem ne_obj {a b : Addr} {o u : HO} (h1 : H a = some o) (h2 : H b = some u) (n : o ≠ u) : a ≠ b := fun e => n (by rw [e, h2] at h1; exact (Option.some.inj h1).symm)
end
end SJ

/-! SJA: own exceptions as values: made (also by keywords), asked for fields and classes. -/
namespace SJ
open PySem PySem.Spec
/-! ### X(.., f=..): the class is called with keywords -/
section
open PySem.HandSPX
variable {prog : Program} {w : World} {A : Around} {E : Value → Shared → Prop} {R : Result → Shared → Prop} {h : Heap} {g : Array GenState} {d : Drawn} {t : Nat} {os : OsState}
variable {nm q : Str} {C N : Addr} {bs bm bmB : List Value} {hdct : Bool} {sn : List Str} {sub : List Value} {ab : Bool} {col : Option Bool} {dd : Option Addr} {k0 k1 k2 k3 k5 : Option Value} {B newId initId : String} {ws : List Value} {kw : List (Str × Value)}
theorem kw_checkNew {M : Model} {Q : Unit → Shared → Prop} (F : ExcBaseFacts B newId initId bmB) (hT : ∀ T : String, bm.contains (.type T) = bmB.contains (.type T)) (hC : h.get? C = some (excClassObj nm q C N bs bm hdct sn sub ab col dd k0 k1 k2 k3 k5 newId))
    (hq : Q () ⟨h, g, d, t, os⟩) : wpAny M A (checkBuiltinCall newId ⟨.ref C :: ws, kw⟩) Q E ⟨h, g, d, t, os⟩ := by
  have hc0 : (Value.ref C :: bm).contains (.type B) = true := by rw [List.contains_cons, hT, F.hasB, Bool.or_true]
  have hs0 := F.noStar
  simp only [checkBuiltinCall, F.newKind, F.newSplit, F.newRow]
  repeat (first | refine wpAny_loadPart_at hC ?_ | (refine wpAny_isSubtype_exc hC ?_; rw [hc0]) | refine wpAny_staticBase_exc hC ?_ | refine wpAny_madeBy_exc hC ?_ | simp only [bne_self_eq_false, Bool.false_eq_true, if_false] | wp_step)
  exact hq
theorem kw_new (F : ExcBaseFacts B newId initId bmB) (hT : ∀ T : String, bm.contains (.type T) = bmB.contains (.type T)) (hC : h.get? C = some (excClassObj nm q C N bs bm hdct sn sub ab col dd k0 k1 k2 k3 k5 newId))
    (hq : R (.ok (.ret (.ref (h.objs.size + 1)))) ⟨(h.push (PySem.W.kdv_tup ws)).push (excO C h.objs.size), g, d, t, os⟩) (hz : ws.length ≤ sizeLine) : codeAny (model prog w) A (.builtin newId ⟨.ref C :: ws, kw⟩) R ⟨h, g, d, t, os⟩ := by
  have e0 := F.ends
  have c1 : (Value.ref C :: bm).contains (.type B) = true := by rw [List.contains_cons, hT, F.hasB, Bool.or_true]
  have c2 : (Value.ref C :: bm).contains (.type "AttributeError") = false := by rw [List.contains_cons, hT, F.noAttr]; rfl
  have c3 : (Value.ref C :: bm).contains (.type "NameError") = false := by rw [List.contains_cons, hT, F.noName]; rfl
  refine codeAny_builtinAt F.entry ?_
  unfold Builtin.«BaseException.__new__»
  refine wpAt_bind ?_
  show wpAt _ _ _ (stack >>= _) _ _ _
  refine wpAt_bind (wpAt_stack fun p0 b0 => wpAt_of_wpAny ?_)
  wp_walk
  refine wpAt_of_wpAny ?_
  rw [F.owner]
  repeat (first | with_reducible refine wpAny_madeHere_exc F.canon hC ?_ | with_reducible refine wpAny_loadPart_at hC ?_ | (with_reducible refine wpAny_isSubtype_exc hC ?_; first | rw [c1] | rw [c2] | rw [c3]) | wp_step)
  show R _ _
  rw [Heap.size_push]
  exact hq
theorem kw_typeCall {fI : Addr} {Q : PySem.Fin → Shared → Prop} (F : ExcBaseFacts B newId initId bmB) (hT : ∀ T : String, bm.contains (.type T) = bmB.contains (.type T)) (hC : h.get? C = some (excClassObj nm q C N bs bm hdct sn sub ab col dd k0 k1 k2 k3 k5 newId))
    (li : W.Looks (model prog w) h (typeLookup (.ref C) "__init__") (some (.ref fI))) (lb : ∀ z, W.Looks (model prog w) h (bindSpecial (.ref fI) z) (.ref fI, [z])) (hz : ws.length ≤ sizeLine)
    (hq : codeAny (model prog w) A (.call (.ref fI) ⟨.ref (h.objs.size + 1) :: ws, kw⟩) (fun r s2 => match r with | .ok (.ret v) => v = .none ∧ Q (.done (.ret (.ref (h.objs.size + 1)))) s2 | .ok _ => False | .error e => E e s2)
      ⟨(h.push (PySem.W.kdv_tup ws)).push (excO C h.objs.size), g, d, t, os⟩) : wpAny (model prog w) A (Builtin.«type.__call__» ⟨.ref C :: ws, kw⟩) Q E ⟨h, g, d, t, os⟩ := by
  repeat (first | with_reducible refine wpAny_loadPart_at hC ?_ | with_reducible refine wpAny_madeBy_exc hC ?_ | wp_step)
  refine codeAny_call_builtin_code (Code.quiet_builtin _ F.quiet) (kw_checkNew F hT hC (kw_new F hT hC ?_ hz))
  show wpAny _ _ _ _ _ _
  have kk : ∀ b o, h.get? b = some o → ((h.push (PySem.W.kdv_tup ws)).push (excO C h.objs.size)).get? b = some o := fun b o z => Heap.get?_push_of_some _ (Heap.get?_push_of_some _ z)
  have hC2 := kk _ _ hC
  have hg2 : ((h.push (PySem.W.kdv_tup ws)).push (excO C h.objs.size)).get? (h.objs.size + 1) = some (excO C h.objs.size) := by heap_get
  have hs2 : (Value.ref C :: bm).contains (.ref C) = true := by simp
  have i2 := li.keeps kk
  have b2 := (lb (.ref (h.objs.size + 1))).keeps kk
  unfold isInstance
  repeat (first | with_reducible refine wpAny_loadPart_at hg2 ?_ | (with_reducible refine wpAny_isSubtype_exc hC2 ?_; rw [hs2]) | wp_step)
  show wpAny _ _ (typeLookup (.ref C) _) _ _ _
  refine i2.at (wpAny_holding (wpAny_bind (b2.at ?_)))
  refine wpAny_bind (wpAny_call (codeAny_mono hq fun r s2 z => ?_))
  rcases r with e | (v | _ | _ | _) <;> first | exact z | exact z.elim | skip
  obtain ⟨rfl, z⟩ := z
  first
    | exact wpAny_pure (wpAny_pure z)
    | (wp_walk; exact z)
theorem kw_check {M : Model} {Q : Unit → Shared → Prop} (hC : h.get? C = some (excClassObj nm q C N bs bm hdct sn sub ab col dd k0 k1 k2 k3 k5 newId)) (hq : Q () ⟨h, g, d, t, os⟩) : wpAny M A (checkBuiltinCall "type.__call__" ⟨.ref C :: ws, kw⟩) Q E ⟨h, g, d, t, os⟩ := by
  have f0 := tc_sub
  have t0 : (⟨h, g, d, t, os⟩ : Shared).TypeIs (.ref C) "type" := ⟨_, hC, rfl⟩
  simp only [checkBuiltinCall, tc_kind, tc_split]
  repeat (any_goals (first | assumption | with_reducible refine wpAny_loadPart_at hC ?_ | with_reducible refine wpAny_onRaise ?_ | with_reducible refine wpAny_map ?_ | wp_step))
theorem kw_call {fI : Addr} (F : ExcBaseFacts B newId initId bmB) (hT : ∀ T : String, bm.contains (.type T) = bmB.contains (.type T)) (hC : h.get? C = some (excClassObj nm q C N bs bm hdct sn sub ab col dd k0 k1 k2 k3 k5 newId))
    (li : W.Looks (model prog w) h (typeLookup (.ref C) "__init__") (some (.ref fI))) (lb : ∀ z, W.Looks (model prog w) h (bindSpecial (.ref fI) z) (.ref fI, [z])) (hz : ws.length ≤ sizeLine)
    (hq : codeAny (model prog w) (A.under (.builtin "type.__call__" ⟨.ref C :: ws, kw⟩)) (.call (.ref fI) ⟨.ref (h.objs.size + 1) :: ws, kw⟩) (W.InitBack (h.objs.size + 1) R) ⟨(h.push (PySem.W.kdv_tup ws)).push (excO C h.objs.size), g, d, t, os⟩) :
    codeAny (model prog w) A (.call (.ref C) ⟨ws, kw⟩) R ⟨h, g, d, t, os⟩ := by
  have f0 := tc_lookup
  have f2 := tc_bind (.ref C)
  have t0 : (⟨h, g, d, t, os⟩ : Shared).TypeIs (.ref C) "type" := ⟨_, hC, rfl⟩
  refine codeAny_of_tree ?_
  show wpAny _ _ (callAny (.ref C) _) _ _ _
  repeat (any_goals (first | assumption | with_reducible refine wpAny_loadPart_at hC ?_ | wp_step))
  refine ⟨rfl, ?_⟩
  refine codeAny_call_builtin_at (Code.quiet_builtin _ (by decide +kernel)) entry_typeCall (kw_check hC (kw_typeCall F hT hC li lb hz ?_))
  refine codeAny_mono hq fun r s2 z => ?_
  rcases r with e | (v | _ | _ | _) <;> exact z
end
end SJ
namespace SJ
open PySem PySem.Spec PyProof.Rows L2 He
/-! ### the values -/
/-- an exception object of the class at C with the dict d (made here, or caught) -/
def XV (a C : Addr) (d : Option Addr) : HO := .ext fun h => ∃ (oe : Obj) (vs : Array Value), h.get? a = some oe ∧ oe.cls = .ref C ∧ oe.dict = d ∧ oe.data = .fields vs
theorem xv_ok {P : Program} {w : World} {H : Hp} {h : Heap} {a C : Addr} {d : Option Addr} {oe : Obj} {vs : Array Value} (e : h.get? a = some oe) (c : oe.cls = .ref C) (hd : oe.dict = d) (hv : oe.data = .fields vs) : ObjOk P w H h a (XV a C d) :=
  ⟨⟨oe, vs, e, c, hd, hv⟩, ⟨oe, e⟩, fun _ _ ⟨o, v, q, r⟩ k => ⟨o, v, k o q, r⟩⟩
def XAt (H : Hp) (a C : Addr) (d : Option Addr) : Prop := H a = some (exo a C d) ∨ H a = some (XV a C d)
def DAt (H : Hp) (d : Addr) (fs : List (Str × V)) : Prop := H d = some (exd d fs) ∨ H d = some (.xd fs)
section
variable {X : Cx} {pins : List (Addr × Obj)} {σ : L2.St} {H : Hp} {s : Shared} {a C d : Addr} {o : Option Addr} {fs : List (Str × V)}
theorem xat_get (I : Inv X pins σ H s) (h : XAt H a C o) : ∃ (oe : Obj) (vs : Array Value), s.heap.get? a = some oe ∧ oe.cls = .ref C ∧ oe.dict = o ∧ oe.data = .fields vs := by
  rcases h with h | h
  · obtain ⟨⟨t1, q⟩, _⟩ := I.hok a _ h
    exact ⟨_, _, q, rfl, rfl, rfl⟩
  · obtain ⟨⟨oe, vs, q⟩, _⟩ := I.hok a _ h
    exact ⟨oe, vs, q⟩
theorem dat_get (I : Inv X pins σ H s) (h : DAt H d fs) : ∃ mA, s.heap.Ns1 d mA ∧ ∀ f, RelO (fs.lookup f) (mA f) := by
  rcases h with h | h
  · obtain ⟨q, _⟩ := I.hok d _ h
    exact q
  · exact I.hok d _ h
end
/-! ### making -/
/-- X(..) as a value -/
def tXn (C : Addr) (fs : List Str) (ta : TA) : TE := fun σ H Q => ta σ H fun vs H1 => vs.length = fs.length ∧ ∀ a d H2, H1 a = none → H1 d = none → d ≠ a → H2 a = some (exo a C (some d)) → H2 d = some (exd d (fs.zip vs).reverse) → (∀ b, b ≠ a → b ≠ d → H2 b = H1 b) → Q (.ref a) H2
/-- .. by keywords: gV lays the values in the fields' order -/
def tXnK (C : Addr) (m : Nat) (fs : List Str) (gV : List V → List V → List V) (tk : TA) : TE := fun σ H Q => tk σ H fun zs H1 => zs.length = m ∧ ∀ a d H2, H1 a = none → H1 d = none → d ≠ a →
  ∃ ws : List V, gV [.ref a] zs = .ref a :: ws ∧ ws.length = fs.length ∧ (H2 a = some (exo a C (some d)) → H2 d = some (exd d (fs.zip ws).reverse) → (∀ b, b ≠ a → b ≠ d → H2 b = H1 b) → Q (.ref a) H2)
section
variable {X : Cx} {e : Expr} {es : List Expr} {ta tk : TA} {p pos : Pos} {x : Str} {C fI : Addr} {k : Nat} {fd : FuncData} {ps fs ks : List Str} {B newId initId : String} {bmB : List Value} {kws : List Keyword} {g : List Value → List Value → List Value} {gV : List V → List V → List V} {mm : Nat}
theorem run_x {pins : List (Addr × Obj)} {σ : L2.St} {H : Hp} {s : Shared} {Q : VK} {us : List Value} {kw : List (Str × Value)} {bs : Value → List Value} {bv : V → List V} {ws : List V} (T : ExB B newId initId bmB) (G : ExG X.K C newId bmB) (iC : PySem.W.findIn X.K (.ref C) "__init__" = some (some (.ref fI)))
    (tI : PySem.W.typeIn X.K (.ref fI) = some (.type "function")) (F : Fk X.prog X.w X.K X.mg X.base k fI fd ps (spX C fs)) (hr : Rm (k + 1) X.A) (I : Inv X pins σ H s) (hu : us.length ≤ 1000)
    (hb : ∀ (a : Addr) (s2 : Shared), X.K.In s2.heap → BindsTo s2 fd ⟨.ref a :: us, kw⟩ (ps.zip (bs (.ref a)))) (rv : ∀ a : Addr, Vals (bv (.ref a)) (bs (.ref a))) (hw : bv (.ref (s.heap.objs.size + 1)) = .ref (s.heap.objs.size + 1) :: ws) (hl : ws.length = fs.length)
    (h : ∀ a d H2, H a = none → H d = none → d ≠ a → a = s.heap.objs.size + 1 → H2 a = some (exo a C (some d)) → H2 d = some (exd d (fs.zip ws).reverse) → (∀ b, b ≠ a → b ≠ d → H2 b = H b) → Q (.ref a) H2) :
    wpAny (model X.prog X.w) X.A (call (.ref C) us kw) (EP X pins σ Q) X.xe s := by
  obtain ⟨n1, n2, n3, n4, n5, n6, n7, n8, n9, n10, n11, k0, k1, k2, k3, k5, hC, hT⟩ := PySem.W.excInit_of I.kIn G.q
  obtain ⟨hp, gg, dr, tt, os⟩ := s
  have hn : H (hp.objs.size + 1) = none := I.hok.fresh (Nat.le_succ _)
  have kk : ∀ b o, hp.get? b = some o → ((hp.push (PySem.W.kdv_tup us)).push (PySem.HandSPX.excO C hp.objs.size)).get? b = some o := fun b o z => Heap.get?_push_of_some _ (Heap.get?_push_of_some _ z)
  have hget : ((hp.push (PySem.W.kdv_tup us)).push (PySem.HandSPX.excO C hp.objs.size)).get? (hp.objs.size + 1) = some (PySem.HandSPX.excO C hp.objs.size) := by heap_get
  have J := I.laid (t' := tt) (a := hp.objs.size + 1) (o := exo (hp.objs.size + 1) C none) kk (Nat.le_succ _) (exo_ok hget)
  have hsp : spX C fs (bv (.ref (hp.objs.size + 1))) (upd H (hp.objs.size + 1) (exo (hp.objs.size + 1) C none)) (fun v H2 => v = .non ∧ Q (.ref (hp.objs.size + 1)) H2) (fun _ _ _ => False) := by
    refine ⟨_, ws, hw, hl, upd_same, fun d H2 nd ne e1 e2 e3 => ⟨rfl, ?_⟩⟩
    rw [upd_ne ne] at nd
    exact h _ d H2 hn nd ne rfl e1 e2 fun b b1 b2 => by rw [e3 b b1 b2, upd_ne b1]
  refine wpAny_call (kw_call T.fb hT hC (PySem.W.looks_findIn I.kIn iC) (fun z => PySem.W.bind_fn I.kIn z tI) (Nat.le_trans hu (by decide))
    (codeAny_mono (F.run _ X.stack _ _ ⟨Value.ref (hp.objs.size + 1) :: us, kw⟩ _ _ _ _ (hr.make C us kw) (J.env0.make C us kw) (hb _ _ J.kIn) (rv _) hsp) fun rr s2 hq2 => ?_))
  cases rr with
  | error er => obtain ⟨_, _, _, _, _, _, _, _, _, _, _, _, z⟩ := hq2; exact z.elim
  | ok fl =>
    cases fl with
    | ret u =>
      obtain ⟨v, H3, I3, r3, ev, q3⟩ := J.after hq2
      subst ev
      exact ⟨r3, ⟨V.ref (hp.objs.size + 1), H3, I3, rfl, q3⟩⟩
    | next => exact hq2.elim
    | brk => exact hq2.elim
    | cont => exact hq2.elim
theorem pe_x (T : ExB B newId initId bmB) (G : ExG X.K C newId bmB) (iC : PySem.W.findIn X.K (.ref C) "__init__" = some (some (.ref fI))) (tI : PySem.W.typeIn X.K (.ref fI) = some (.type "function"))
    (F : Fk X.prog X.w X.K X.mg X.base k fI fd ps (spX C fs)) (hr : Rm (k + 1) X.A) (hb : Binds X.K fd ps []) (hfs : fs.length ≤ 100) (hps : ps.length = fs.length + 1) (hg : Gl X x) (hm : X.mg x = some (.ref C)) (ha : PA X (e :: es) ta)
    (hdb : (x == ("__debug__" : Str)) = false := by decide) (he : starEach (e :: es) X.env = (false, eval e X.env) :: starEach es X.env := by rfl) (hpl : (backTo pos (starEach es X.env)).any (·.1) = false := by rfl) :
    PE X (.Call (.Name x p) (e :: es) [] pos) (tXn C fs ta) := by
  refine ⟨fun pins s σ H Q I h => wpAny_Call_Name_kw (ld_glob I hg hm ?_ hdb)⟩
  refine PySem.W.callWith_K (h₀ := X.base) I.ok.mod.kin G.kC (thn (ha.run pos pins s σ H _ I h) fun us s1 ⟨vs, H1, I1, r1, hz, q1⟩ => ⟨I1.kIn, ?_⟩) he hpl
  have hl : us.length = fs.length := by rw [← r1.length]; exact hz
  show wpAny _ _ (call (.ref C) us) _ _ _
  refine run_x (kw := []) (bs := fun z => z :: us) (bv := fun z => z :: vs) (ws := vs) T G iC tI F hr I1 (by omega) (fun a s2 kin => ?_) (fun a => .cons rfl r1) rfl hz (fun a d H2 na nd ne _ => q1 a d H2 na nd ne)
  have b := hb s2 (.ref a :: us) kin (by rw [List.append_nil, List.length_cons, hl, hps])
  rw [List.append_nil] at b
  exact b
theorem pe_xK (T : ExB B newId initId bmB) (G : ExG X.K C newId bmB) (iC : PySem.W.findIn X.K (.ref C) "__init__" = some (some (.ref fI))) (tI : PySem.W.typeIn X.K (.ref fI) = some (.type "function"))
    (F : Fk X.prog X.w X.K X.mg X.base k fI fd ps (spX C fs)) (hr : Rm (k + 1) X.A) (hb : KBn X.K fd ps 1 ks g gV) (hg : Gl X x) (hm : X.mg x = some (.ref C)) (hkw : PK X kws tk)
    (hall : (backToKw pos (keywordEach kws X.env)).all (·.1.isSome) = true := by rfl) (hks : (backToKw pos (keywordEach kws X.env)).filterMap (·.1) = ks := by rfl) (hmm : ks.length = mm := by rfl) (hdb : (x == ("__debug__" : Str)) = false := by decide)
    (hpl : ((backTo pos (starEach [] X.env)).any (·.1) || (backToKw pos (keywordEach kws X.env)).any (·.1.isNone)) = false := by rfl) :
    PE X (.Call (.Name x p) [] kws pos) (tXnK C mm fs gV tk) := by
  refine ⟨fun pins s σ H Q I h => wpAny_Call_Name_kw (ld_glob I hg hm ?_ hdb)⟩
  refine PySem.W.callWith_KW0 (h₀ := X.base) I.ok.mod.kin G.kC hall ?_ hpl
  refine thn (hkw.run pos pins s σ H _ I h) fun vs s2 ⟨zs, H2, I2, rz, l2, q2⟩ => ⟨I2.kIn, ?_⟩
  rw [hks]
  subst hmm
  have hn : H2 (s2.heap.objs.size + 1) = none := I2.hok.fresh (Nat.le_succ _)
  have hd : H2 s2.heap.objs.size = none := I2.hok.fresh (Nat.le_refl _)
  obtain ⟨ws, e1, e2, _⟩ := q2 (s2.heap.objs.size + 1) s2.heap.objs.size H2 hn hd (Nat.ne_of_lt (Nat.lt_succ_self _))
  refine run_x (us := []) (kw := ks.zip vs) (bs := fun z => g [z] vs) (bv := fun z => gV [z] zs) (ws := ws) T G iC tI F hr I2 (Nat.zero_le _) (fun a s3 kin => hb.to s3 [.ref a] vs kin rfl (rz.length.symm.trans l2)) (fun a => hb.rel (.cons rfl .nil) rz) e1 e2 (fun a d H3 na nd ne ea => ?_)
  subst ea
  obtain ⟨ws2, f1, f2, f3⟩ := q2 _ d H3 na nd ne
  rw [e1] at f1
  cases f1
  exact f3
/-- X(), X without an __init__ of its own or of its own bases -/
def tXn0 (C : Addr) : TE := fun _ H Q => ∀ a H2, H a = none → H2 a = some (XV a C none) → (∀ b, b ≠ a → H2 b = H b) → Q (.ref a) H2
theorem pe_x0 (F : ExcBaseFacts B newId initId bmB) (q : PySem.W.excIn X.K C bmB newId = true) (kC : PySem.W.keepIn X.K (.ref C) = true) (hg : Gl X x) (hm : X.mg x = some (.ref C)) (hdb : (x == ("__debug__" : Str)) = false := by decide) : PE X (.Call (.Name x p) [] [] pos) (tXn0 C) := by
  refine ⟨fun pins s σ H Q I h => wpAny_Call_Name_kw (ld_glob I hg hm ?_ hdb)⟩
  refine PySem.W.callWith_K0 I.kIn kC ?_
  show wpAny _ _ (call (.ref C) []) _ _ _
  obtain ⟨bm, N, nm, qn, bs, hdct, sn, sub, ab, col, dd, k0, k1, k2, k3, k5, mN, hC, hN, hni, T⟩ := exc_obj I.kIn q
  refine wpAny_call_exc_subT F T hC hN hni (fun h2 a mk => ?_) (Nat.zero_le _)
  have hn : H a = none := I.hok.gone mk.new
  obtain ⟨t, ht, _, _⟩ := mk.there
  exact ⟨.ref a, upd H a (XV a C none), I.laidN mk.keeps mk.new hn (xv_ok ht rfl rfl rfl), rfl, h a _ hn upd_same fun b nb => upd_ne nb⟩
/-! ### asking -/
/-- e.f -/
def tXv (K : PySem.W.Frag) (f : Str) (te : TE) : TE := fun σ H Q => te σ H fun z H1 => ∃ (a C d : Addr) (fs : List (Str × V)) (v : V), z = .ref a ∧ XfC K C ∧ PySem.W.findIn K (.ref C) f = some none ∧ XAt H1 a C (some d) ∧ DAt H1 d fs ∧ fs.lookup f = some v ∧ Q v H1
theorem pe_xv {te : TE} {n : Str} (he : PE X e te) (hbs : attributeBase e n X.env (eval e X.env) = eval e X.env := by rfl) : PE X (.Attribute e n pos) (tXv X.K n te) := by
  refine ⟨fun pins s σ H Q I h => attr_of hbs (thn (he.run pins s σ H _ I h) fun u s1 hh => ?_)⟩
  obtain ⟨z, H1, I1, rz, a, C, d, fs, v, rfl, T, hno, ha, hd, l, q⟩ := hh
  obtain rfl : u = Value.ref a := rz
  obtain ⟨oe, vs, g1, g2, g3, g4⟩ := xat_get I1 ha
  obtain ⟨mA, hns, rel⟩ := dat_get I1 hd
  obtain ⟨od, ho, hlk⟩ := lookIn_ns hns
  obtain ⟨u, hu, ru⟩ := RelO.some_of (v := v) (o := mA n) (by rw [← l]; exact rel n)
  have J : PySem.W.InstAt s1.heap a oe C (some od) := ⟨g1, g2, by unfold PySem.W.notCls; rw [g4] <;> rfl, by rw [g3]; exact ho⟩
  exact HandSPX.exc_get I1.kIn J T.ga T.gg T.exC (PySem.W.findObj_own T.hdC hno rfl (by rw [hlk, hu])) (handed_of ru) ⟨v, H1, I1.tok _, ru, q⟩
/-- isinstance(e, c) -/
def rIsiX (K : PySem.W.Frag) : List V → Hp → VK → Prop := fun xs H Q => ∃ (a C : Addr) (c : V) (d : Option Addr) (u : Value) (b : Bool), xs = [.ref a, c] ∧ ClsV c u ∧ L2.ExcC K C ∧ XAt H a C d ∧ (∀ dd, d = some dd → ∃ fs, DAt H dd fs) ∧ PySem.W.kitOne K (.ref C) u = some b ∧ Q (.bl b) H
theorem c_isiX : CallR X (.builtin "isinstance") (rIsiX X.K) := by
  intro pins s σ H xs us Q I r h
  obtain ⟨a, C, c, d, u, b, rfl, hc, T, ha, hd, e, q⟩ := h
  obtain ⟨u1, u2, rfl, r1, r2⟩ := vals2 r
  obtain rfl : u1 = Value.ref a := r1
  obtain rfl := hc.eq r2
  obtain ⟨oe, vs, g1, g2, g3, g4⟩ := xat_get I ha
  have nc : PySem.W.notCls oe = true := by unfold PySem.W.notCls; rw [g4] <;> rfl
  have hcl : (PySem.W.clsIn X.K C).isSome = true := by
    obtain ⟨cd, z, _⟩ := PySem.W.any_some T.hd
    rw [z]
    rfl
  have J : ∃ od, PySem.W.InstAt s.heap a oe C od := by
    cases d with
    | none => exact ⟨none, g1, g2, nc, by rw [g3]; exact trivial⟩
    | some dd =>
      obtain ⟨fs, hdd⟩ := hd dd rfl
      obtain ⟨mA, hns, rel⟩ := dat_get I hdd
      obtain ⟨od, ho, _⟩ := lookIn_ns hns
      exact ⟨some od, g1, g2, nc, by rw [g3]; exact ho⟩
  obtain ⟨od, J⟩ := J
  exact PySem.W.kia_one (PySem.W.kitx_exc hcl T.hg T.hk T.hs T.ha T.hn T.ht T.hm) I.kIn J e (fun z => nomatch z) fun tk => ⟨.bl b, H, I.kept (t' := tk) fun _ _ z => z, rfl, q⟩
def rIsiU (K : PySem.W.Frag) : List V → Hp → VK → Prop := fun xs H Q => rIsi K xs H Q ∨ rIsiX K xs H Q
theorem c_isiU : CallR X (.builtin "isinstance") (rIsiU X.K) := by
  intro pins s σ H xs us Q I r h
  rcases h with h | h
  · exact call_isi pins s σ H xs us Q I r h
  · exact c_isiX pins s σ H xs us Q I r h
end
end SJ

/-! SJB: repr of data with empty dicts in it; enumerate; tests of exception classes; steps. -/
namespace SJ
open PySem PySem.Spec PyProof.Rows L2 He
mutual
/-- what a tracked value reads as, empty dicts among it -/
inductive Dq (K : PySem.W.Frag) (H : Hp) : V → PyData → Prop
  | non : Dq K H .non .none
  | bl (b : Bool) : Dq K H (.bl b) (.bool b)
  | int (i : Int) : Dq K H (.int i) (.int i)
  | str (x : Str) : Dq K H (.str x) (.str x)
  | lst {a : Addr} {xs : List V} {ds : List PyData} : H a = some (.lst xs) → DqAll K H xs ds → Dq K H (.ref a) (.list ds)
  | tup {a : Addr} {xs : List V} {ds : List PyData} : SqT K H a xs → DqAll K H xs ds → Dq K H (.ref a) (.tuple ds)
  | dic {a : Addr} : H a = some (.dK []) → Dq K H (.ref a) (.dict [])
inductive DqAll (K : PySem.W.Frag) (H : Hp) : List V → List PyData → Prop
  | nil : DqAll K H [] []
  | cons {v : V} {vs : List V} {d : PyData} {ds : List PyData} : Dq K H v d → DqAll K H vs ds → DqAll K H (v :: vs) (d :: ds)
end
section
variable {X : Cx} {pins : List (Addr × Obj)} {σ : L2.St} {H : Hp} {s : Shared}
theorem not_sys (hk : (X.K.lookup sysModules).isSome = true) (I : Inv X pins σ H s) {a : Addr} {o : HO} (h : H a = some o) : sysModules ≠ a := fun e => by
  obtain ⟨o2, z2⟩ := Option.isSome_iff_exists.mp hk
  have z := (I.bs _ _ (I.ok.mod.kin _ _ z2)).2
  rw [e, h] at z
  cases z
mutual
theorem Dq.reads (hk : (X.K.lookup sysModules).isSome = true) (I : Inv X pins σ H s) : ∀ (d : PyData) (v : V) (u : Value), Dq X.K H v d → RelV v u → ∃ as, Reads s.heap u d as ∧ sysModules ∉ as
  | .none, _, _, h, r => by
    cases h; cases r
    exact ⟨_, .none, List.not_mem_nil⟩
  | .bool b, _, _, h, r => by
    cases h; cases r
    exact ⟨_, .bool b, List.not_mem_nil⟩
  | .int i, _, _, h, r => by
    cases h; obtain ⟨t, rfl⟩ := r
    exact ⟨_, .int i t, List.not_mem_nil⟩
  | .str z, _, _, h, r => by
    cases h; obtain ⟨t, rfl⟩ := r
    exact ⟨_, .str z t, List.not_mem_nil⟩
  | .list ds, _, _, h, r => by
    cases h with
    | lst e q =>
      cases r
      obtain ⟨its, rv, ⟨o, n, ho, hc, _, hd⟩, _⟩ := I.list (SqL.of e)
      obtain ⟨as, hr, na⟩ := DqAll.reads hk I ds _ its q rv
      refine ⟨_, .list ho hc hd hr, fun m => ?_⟩
      rcases List.mem_cons.mp m with m | m
      · exact not_sys hk I e m
      · exact na m
  | .tuple ds, _, _, h, r => by
    cases h with
    | tup e q =>
      cases r
      obtain ⟨its, rv, ⟨o, ho, hc, n, hd⟩, _⟩ := I.tuple e
      obtain ⟨as, hr, na⟩ := DqAll.reads hk I ds _ its q rv
      exact ⟨_, .tuple ho hc hd hr, na⟩
  | .dict [], _, _, h, r => by
    cases h with
    | dic e =>
      cases r
      obtain ⟨_, ns, vs, kv, o, es, ep, ho, hx, hd, _, hes, _⟩ := dk_of I.hok e
      cases kv
      have e0 : es.toList = [] := by generalize es.toList = l at hes; cases hes; rfl
      have e1 : es.toList.map (·.key) = [] := by rw [e0]; rfl
      have e2 : es.toList.map (·.val) = [] := by rw [e0]; rfl
      have rd : Reads s.heap (.ref _) (.dict []) (_ :: [] ++ []) := .dict ho hx.1 hd (by rw [e1]; exact .nil) (by rw [e2]; exact .nil)
      refine ⟨_, rd, fun m => ?_⟩
      rcases List.mem_cons.mp m with m | m
      · exact not_sys hk I e m
      · cases m
  | .dict (_ :: _), _, _, h, _ => by cases h
theorem DqAll.reads (hk : (X.K.lookup sysModules).isSome = true) (I : Inv X pins σ H s) : ∀ (ds : List PyData) (vs : List V) (us : List Value), DqAll X.K H vs ds → Vals vs us → ∃ as, ReadsAll s.heap us ds as ∧ sysModules ∉ as
  | [], _, _, h, r => by
    cases h; cases r
    exact ⟨_, .nil, List.not_mem_nil⟩
  | d :: ds, _, _, h, r => by
    cases h with
    | cons h1 h2 =>
      cases r with
      | cons r1 r2 =>
        obtain ⟨as, q1, n1⟩ := Dq.reads hk I d _ _ h1 r1
        obtain ⟨bs, q2, n2⟩ := DqAll.reads hk I ds _ _ h2 r2
        refine ⟨_, .cons q1 q2, fun m => ?_⟩
        rcases List.mem_append.mp m with m | m
        · exact n1 m
        · exact n2 m
end
end
def rReprQ (K : PySem.W.Frag) : List V → Hp → VK → Prop := fun xs H Q => ∃ (x : V) (d : PyData), xs = [x] ∧ Dq K H x d ∧ d.showable = true ∧ d.depth ≤ 100 ∧ d.shown.length ≤ sizeLine ∧ Q (.str d.shown) H
section
variable {X : Cx} {k : Nat}
theorem c_reprQ (hk : (X.K.lookup sysModules).isSome = true) (hr : Rm k X.A) : CallR X (.builtin "repr") (rReprQ X.K) := by
  intro pins s σ H xs us Q I r h
  obtain ⟨x, d, rfl, hd, sh, dp, sz, q⟩ := h
  obtain ⟨u1, rfl, r1⟩ := vals1 r
  obtain ⟨as, rd, ns⟩ := Dq.reads hk I d x u1 hd r1
  have hu : X.A.units + (d.depth + 1) < cLine := by have := hr.r.un; omega
  have fin : ∀ (h2 : Heap) (u : Tok) (tk : Nat), (∀ b o, s.heap.get? b = some o → h2.get? b = some o) → EP X pins σ Q (.str d.shown u) { s with heap := h2, toks := tk } := fun h2 u tk kp => ⟨.str d.shown, H, I.kept kp, ⟨u, rfl⟩, q⟩
  cases hd with
  | non => obtain rfl : u1 = Value.none := r1; exact P.repr_of_none (fin _ _ _ fun _ _ z => z)
  | bl b => obtain rfl : u1 = Value.bool b := r1; exact P.repr_of_bool (fin _ _ _ fun _ _ z => z)
  | int i => obtain ⟨t, rfl⟩ := r1; exact P.repr_of_int (of_decide_eq_true sh) (fin _ _ _ fun _ _ z => z)
  | str z => obtain ⟨t, rfl⟩ := r1; exact P.repr_of_str (fin _ _ _ fun _ _ z => z) (by simpa only [PyData.shown] using sz)
  | lst e ha => obtain rfl := (show u1 = Value.ref _ from r1); exact repr_of_reads' rd sh (fun _ => ns) hr.g hu (fun _ _ z => z) fin sz
  | tup e ha => obtain rfl := (show u1 = Value.ref _ from r1); exact repr_of_reads' rd sh (fun _ => ns) hr.g hu (fun _ _ z => z) fin sz
  | dic e => obtain rfl := (show u1 = Value.ref _ from r1); exact repr_of_reads' rd sh (fun _ => ns) hr.g hu (fun _ _ z => z) fin sz
end
end SJ
namespace SJ
open PySem PySem.Spec PyProof.Rows L2 He
def rReprI : List V → Hp → VK → Prop := fun xs H Q => ∃ i : Int, xs = [.int i] ∧ i.natAbs.log2 < 1920 ∧ Q (.str (toString i)) H
theorem c_reprI {X : Cx} : CallR X (.builtin "repr") rReprI := by
  intro pins s σ H xs us Q I r h
  obtain ⟨i, rfl, sh, q⟩ := h
  obtain ⟨u1, rfl, t, rfl⟩ := vals1 r
  exact P.repr_of_int sh ⟨.str (toString i), H, I.tok _, ⟨_, rfl⟩, q⟩
def rReprU (K : PySem.W.Frag) : List V → Hp → VK → Prop := fun xs H Q => rRepr K xs H Q ∨ (rReprQ K xs H Q ∨ rReprI xs H Q)
theorem c_reprU {X : Cx} {k : Nat} (hk : (X.K.lookup sysModules).isSome = true) (hr : Rm k X.A) : CallR X (.builtin "repr") (rReprU X.K) := by
  intro pins s σ H xs us Q I r h
  rcases h with h | h | h
  · exact c_repr hr pins s σ H xs us Q I r h
  · exact c_reprQ hk hr pins s σ H xs us Q I r h
  · exact c_reprI pins s σ H xs us Q I r h
/-! ### tests -/
def sysT : Tst := fun K => (K.lookup sysModules).isSome
def xcT (x : Str) : Tst := fun K => xfB K (ga K x) && (eqO (PySem.W.findIn K (.ref (ga K x)) "__class__") (some (some (.builtin "object.__class__"))) && (eqO (PySem.W.specialIn K (.builtin "object.__class__") "__get__") (some (some (.builtin "getset_descriptor.__get__"))) &&
  (decide (PySem.W.takesIn K (.builtin "object.__class__") = some true) && decide (PySem.W.mroIn K (ga K x) (.type "object") = some true))))
theorem xcT_ok {K : PySem.W.Frag} {x : Str} (c : xcT x K = true) : L2.ExcC K (ga K x) := by
  obtain ⟨c1, c⟩ := ba c
  obtain ⟨c2, c⟩ := ba c
  obtain ⟨c3, c⟩ := ba c
  obtain ⟨c4, c5⟩ := ba c
  have T := xfB_ok c1
  exact ⟨T.ga, T.gg, T.exC, T.hdC, eqO_ok c2, eqO_ok c3, of_decide_eq_true c4, of_decide_eq_true c5⟩
/-- an exception class without an __init__ -/
structure ExN (K : PySem.W.Frag) (C : Addr) (newId : String) (bmB : List Value) : Prop where
  q : PySem.W.excIn K C bmB newId = true
  kC : PySem.W.keepIn K (.ref C) = true
def xnT (x : Str) (newId : String) (bmB : List Value) : Tst := fun K => PySem.W.excIn K (ga K x) bmB newId && PySem.W.keepIn K (.ref (ga K x))
theorem xnT_ok {K : PySem.W.Frag} {x : Str} {newId : String} {bmB : List Value} (c : xnT x newId bmB K = true) : ExN K (ga K x) newId bmB := by
  obtain ⟨c1, c2⟩ := ba c
  exact ⟨c1, c2⟩
/-! ### steps -/
def gXn (C : Addr) (fs : List Str) (vs : List V) (H1 : Hp) (Q : VK) : Prop := vs.length = fs.length ∧ ∀ a d H2, H1 a = none → H1 d = none → d ≠ a → H2 a = some (exo a C (some d)) → H2 d = some (exd d (fs.zip vs).reverse) → (∀ b, b ≠ a → b ≠ d → H2 b = H1 b) → Q (.ref a) H2
def gXnK (C : Addr) (m : Nat) (fs : List Str) (gV : List V → List V → List V) (zs : List V) (H1 : Hp) (Q : VK) : Prop := zs.length = m ∧ ∀ a d H2, H1 a = none → H1 d = none → d ≠ a →
  ∃ ws : List V, gV [.ref a] zs = .ref a :: ws ∧ ws.length = fs.length ∧ (H2 a = some (exo a C (some d)) → H2 d = some (exd d (fs.zip ws).reverse) → (∀ b, b ≠ a → b ≠ d → H2 b = H1 b) → Q (.ref a) H2)
def gXv (K : PySem.W.Frag) (f : Str) (z : V) (H1 : Hp) (Q : VK) : Prop := ∃ (a C d : Addr) (fs : List (Str × V)) (v : V), z = .ref a ∧ XfC K C ∧ PySem.W.findIn K (.ref C) f = some none ∧ XAt H1 a C (some d) ∧ DAt H1 d fs ∧ fs.lookup f = some v ∧ Q v H1
/-- an exception object with its fields -/
def XE (H : Hp) (a C : Addr) (fs : List (Str × V)) : Prop := ∃ d, XAt H a C (some d) ∧ DAt H d fs
section
variable {K : PySem.W.Frag} {σ : L2.St} {H : Hp} {Q : VK} {ta tk : TA} {te : TE} {D : Ends} {C a : Addr} {fs : List Str} {vs zs ws : List V} {f : Str} {v : V}
theorem XE.same {H2 : Hp} {gs : List (Str × V)} (h : XE H a C gs) (s : Same H H2) : XE H2 a C gs := by
  obtain ⟨d, h1, h2⟩ := h
  refine ⟨d, ?_, ?_⟩
  · rcases h1 with h1 | h1
    · exact .inl (s _ _ h1)
    · exact .inr (s _ _ h1)
  · rcases h2 with h2 | h2
    · exact .inl (s _ _ h2)
    · exact .inr (s _ _ h2)
theorem x_par3 {i j l : Nat} (k : ta σ H fun vs H1 => ∃ u v w, vs = [u, v, w] ∧ D.nx (((σ.set i (some u)).set j (some v)).set l (some w)) H1) : tPar3 i j l ta D σ H := k
theorem x_fnK {n m : Nat} {sp : Sp} {gV : List V → List V → List V} {W : WX} (k : ta σ H fun vs H1 => tk σ H1 fun zs H2 => vs.length = n ∧ zs.length = m ∧ sp (gV vs zs) H2 Q (WE W σ)) : tFnK n m sp gV W ta tk σ H Q := k
theorem x_xn (k : ta σ H fun vs H1 => gXn C fs vs H1 Q) : tXn C fs ta σ H Q := k
theorem x_xnK {m : Nat} {gV : List V → List V → List V} (k : tk σ H fun zs H1 => gXnK C m fs gV zs H1 Q) : tXnK C m fs gV tk σ H Q := k
theorem x_newX (h : vs.length = fs.length) (k : ∀ a H2, H a = none → Same H H2 → XE H2 a C (fs.zip vs).reverse → Q (.ref a) H2) : gXn C fs vs H Q :=
  ⟨h, fun a d H2 na nd ne e1 e2 e3 => k a H2 na (fun b o e => by rw [e3 b (ne_of_none e na) (ne_of_none e nd)]; exact e) ⟨d, .inl e1, .inl e2⟩⟩
theorem x_newXK {m : Nat} {ix : List Nat} (h : zs.length = m) (hw : ∀ a : V, kwV ix [a] zs = a :: ws) (hl : ws.length = fs.length) (k : ∀ a H2, H a = none → Same H H2 → XE H2 a C (fs.zip ws).reverse → Q (.ref a) H2) : gXnK C m fs (kwV ix) zs H Q :=
  ⟨h, fun a d H2 na nd ne => ⟨ws, hw _, hl, fun e1 e2 e3 => k a H2 na (fun b o e => by rw [e3 b (ne_of_none e na) (ne_of_none e nd)]; exact e) ⟨d, .inl e1, .inl e2⟩⟩⟩
theorem x_xn0 (k : ∀ a H2, H a = none → Same H H2 → XAt H2 a C none → Q (.ref a) H2) : tXn0 C σ H Q := fun a H2 na e1 e2 => k a H2 na (fun b o e => by rw [e2 b (ne_of_none e na)]; exact e) (.inr e1)
theorem x_xv (k : te σ H fun z H1 => gXv K f z H1 Q) : tXv K f te σ H Q := k
theorem x_getX {gs : List (Str × V)} (T : XfC K C) (hno : PySem.W.findIn K (.ref C) f = some none) (h : XE H a C gs) (l : gs.lookup f = some v) (k : Q v H) : gXv K f (.ref a) H Q := by
  obtain ⟨d, h1, h2⟩ := h
  exact ⟨a, C, d, gs, v, rfl, T, hno, h1, h2, l, k⟩
theorem x_isiV {c x : V} {t u : Value} {b : Bool} (hc : ClsV c u) (ht : TyX K H x t) (hk : PySem.W.kitOne K t u = some b) (k : Q (.bl b) H) : rIsiU K [x, c] H Q := .inl (x_isi hc ht hk k)
theorem x_isiX {c : V} {u : Value} {b : Bool} {gs : List (Str × V)} (hc : ClsV c u) (T : L2.ExcC K C) (h : XE H a C gs) (hk : PySem.W.kitOne K (.ref C) u = some b) (k : Q (.bl b) H) : rIsiU K [.ref a, c] H Q := by
  obtain ⟨d, h1, h2⟩ := h
  exact .inr ⟨a, C, c, some d, u, b, rfl, hc, T, h1, fun dd e => by cases e; exact ⟨gs, h2⟩, hk, k⟩
theorem x_isiX0 {c : V} {u : Value} {b : Bool} (hc : ClsV c u) (T : L2.ExcC K C) (h : XAt H a C none) (hk : PySem.W.kitOne K (.ref C) u = some b) (k : Q (.bl b) H) : rIsiU K [.ref a, c] H Q :=
  .inr ⟨a, C, c, none, u, b, rfl, hc, T, h, fun dd e => (by cases e), hk, k⟩
theorem x_reprD {x : V} {d : PyData} (h : Dq K H x d) (sh : d.showable = true) (dp : d.depth ≤ 100) (sz : d.shown.length ≤ 100000) (k : Q (.str d.shown) H) : rReprU K [x] H Q := .inr (.inl ⟨x, d, rfl, h, sh, dp, Nat.le_trans sz (by decide), k⟩)
theorem x_reprI {i : Int} (h : i.natAbs < 2 ^ 1000) (k : Q (.str (toString i)) H) : rReprU K [.int i] H Q := .inr (.inr ⟨i, rfl, by
  by_cases e : i.natAbs = 0
  · rw [e]; decide
  · exact Nat.lt_trans ((Nat.log2_lt e).mpr h) (by decide), k⟩)
/-- for i, x in enumerate(xs) -/
theorem x_forE {xs : List V} {tg : TG} {tb : TS} (he : ∀ QA : List V → Hp → Prop, QA [.ref a] H → ta σ H QA) (hx : SqL K H a xs) (Pv : Nat → L2.St → Hp → Prop) (hi : Pv 0 σ H) (hl : ∀ i s2 H2, i ≤ xs.length → Pv i s2 H2 → SqL K H2 a xs)
    (hs : ∀ i x s2 H2 T H3, xs[i]? = some x → Pv i s2 H2 → H2 T = none → Same H2 H3 → H3 T = some (.tup [.int (i : Nat), x]) → tg (.ref T) s2 H3 fun s3 H4 => tb { D with nx := Pv (i + 1), ct := Pv (i + 1), bk := D.nx } s3 H4) (hd : ∀ s2 H2, Pv xs.length s2 H2 → D.nx s2 H2) :
    tFor (iEnum K ta) tg tb D σ H := by
  refine he _ ⟨a, xs, rfl, hx, fun i m s2 H2 => m = xs.length - i ∧ i ≤ xs.length ∧ Pv i s2 H2, ⟨xs.length, by simp, Nat.zero_le _, hi⟩, ?_⟩
  rintro i m s2 H2 ⟨rfl, hil, p⟩
  have q := hl i s2 H2 hil p
  by_cases hlt : i < xs.length
  · refine .inr ⟨⟨xs, xs[i], q, List.getElem?_eq_getElem hlt⟩, Pv (i + 1), fun s3 H3 p2 => ⟨xs.length - (i + 1), by omega, rfl, hlt, p2⟩, fun x H3 y => ?_⟩
    obtain ⟨T, z, rfl, nT, rfl, y⟩ := y
    exact hs i z s2 H2 T _ (y xs q) p nT (Same.upd (Same.refl _) nT) upd_same
  · have e : i = xs.length := by omega
    subst e
    exact .inl ⟨⟨xs, q, Nat.le_refl _⟩, hd s2 H2 p⟩
end
end SJ

/-! SJN: names.is_name; tables of classes. -/
namespace SJ
open PySem PySem.Spec PyProof.Rows L2 He
local macro_rules | `(tactic| walk_at "go") => `(tactic| (repeat (first
  | with_reducible apply x_seq | with_reducible apply x_asg | with_reducible apply x_ret | with_reducible apply x_if | with_reducible apply x_test | with_reducible apply x_B | with_reducible apply x_op | (with_reducible apply x_var rfl) | with_reducible apply x_c
  | with_reducible apply x_cb | with_reducible apply x_cons | with_reducible apply x_nil | with_reducible apply x_bl2 | with_reducible apply x_st2 | with_reducible apply ite_t | with_reducible apply ite_f | with_reducible apply ite_n | with_reducible apply x_and | with_reducible apply x_or | with_reducible apply x_not | with_reducible apply x_andV | with_reducible apply x_orV | with_reducible apply x_notV
  | with_reducible apply x_addI | with_reducible apply x_sub' | with_reducible apply x_eqI | with_reducible apply x_neI | with_reducible apply x_eqT | with_reducible apply x_neT | with_reducible apply x_ltI | with_reducible apply x_leI | with_reducible apply x_gtI | with_reducible apply x_geI
  | with_reducible apply x_intI | with_reducible apply x_intBl | with_reducible apply x_absI | with_reducible apply x_asgG | with_reducible apply x_sub | with_reducible apply x_lst | with_reducible apply x_tup | with_reducible apply x_next | with_reducible apply x_drop
  | with_reducible apply x_ife | with_reducible apply x_chain | with_reducible apply x_inSg | with_reducible apply x_yes | with_reducible apply x_sl | with_reducible apply x_noPart | with_reducible apply x_part | with_reducible apply x_in2 | with_reducible apply x_fs | with_reducible apply x_js | with_reducible apply x_js0 | with_reducible apply x_fmtE | with_reducible apply x_m0 | with_reducible apply x_fld0 | with_reducible apply x_con0 | with_reducible apply x_pr0 | with_reducible apply x_sfld
  | (with_reducible refine x_new ?_ ?_; · exact Nat.le_of_ble_eq_true rfl)
  | with_reducible apply x_fn | with_reducible apply x_nw | with_reducible apply x_bm | with_reducible apply x_par | with_reducible apply x_rz | with_reducible apply x_retN | with_reducible apply x_un | with_reducible apply x_U)))

def letters : List Nat := ("abcdefghijklmnopqrstuvwxyz" : Str).cps.toList
/-- is the text a name -/
def nameB (z : Str) : Bool := decide (1 ≤ z.length) && (decide (z.length ≤ 8) && ((z.cps.toList.all fun c => decide (c ∈ letters)) && !(inV (.str z) [.str "ground", .str "power", .str "nothing"])))
def nameV : V → Bool
  | .str z => nameB z
  | _ => false
def isStrV : V → Bool
  | .str _ => true
  | _ => false
/-- a value of which isinstance can tell whether it is a text; texts are short -/
def Val0 (K : PySem.W.Frag) (H : Hp) (x : V) : Prop := ∃ t, TyX K H x t ∧ PySem.W.kitOne K t (.type "str") = some (isStrV x) ∧ ∀ z, x = .str z → z.length ≤ 1000
def spName (K : PySem.W.Frag) : Sp := fun vs H Q _ => ∃ x, vs = [x] ∧ Val0 K H x ∧ ∀ H2, Same H H2 → Q (.bl (nameV x)) H2
def tIsName (K : PySem.W.Frag) (ri : List V → Hp → VK → Prop) : TS := (tSeq (tIfS (tOr (tNot (tB (tCB ri (tCons (tVar 0) (tCons (tC (.ty "str")) tNil))))) (tNot (tTest (tChain rLeU rLeU (tC (.int 1)) (tCB (rLenU K) (tCons (tVar 0) tNil)) (tC (.int 8)))))) (tRet (tC (.bl false))) tNext) (tRet (tAndV (tCB (rAll K) (tCons (tLc (iStr (tVar 0)) (gName 1) tYes (tOp rInS (tVar 1) (tC (.str "abcdefghijklmnopqrstuvwxyz"))) [1]) tNil)) (tOp (rInU K true) (tVar 0) (tTup (tCons (tC (.str "ground")) (tCons (tC (.str "power")) (tCons (tC (.str "nothing")) tNil))))))))
section
variable {K : PySem.W.Frag} {vs : List V} {H : Hp} {Q : VK} {E : XK} {n0 n1 : Str}
theorem len_name (h : spName K vs H Q E) : vs.length = 1 := by obtain ⟨x, rfl, _⟩ := h; rfl
theorem name_ok {ri : List V → Hp → VK → Prop} (hri : ∀ {xs : List V} {H : Hp} {Q : VK}, rIsi K xs H Q → ri xs H Q) (h : spName K vs H Q E) : tIsName K ri { nx := fun _ H2 => Q .non H2, rt := Q } (start [n0, n1] vs) H := by
  obtain ⟨x, rfl, ⟨t, ht, hk, hz⟩, k⟩ := h
  unfold tIsName
  walk_at "go"
  refine hri ?_
  refine x_isi (.ty "str") ht hk ?_
  walk_at "go"
  by_cases hs : isStrV x = true
  · obtain ⟨z, rfl⟩ : ∃ z, x = .str z := by cases x <;> first | exact ⟨_, rfl⟩ | cases hs
    have hz0 := hz z rfl
    refine ite_t ?_
    walk_at "go"
    refine x_lenS (by omega) ?_
    walk_at "go"
    by_cases h1 : (1 : Int) ≤ (z.length : Int)
    · rw [decide_eq_true h1]
      walk_at "go"
      by_cases h2 : (z.length : Int) ≤ 8
      · rw [decide_eq_true h2]
        walk_at "go"
        refine x_lcS (z := z) (F := fun c => .bl (decide (c ∈ letters))) (fun _ q => ⟨_, rfl, q⟩) (by omega) (fun x => rfl) (fun c H2 Q2 q => ?_) (fun l hl => ?_)
        · walk_at "go"; exact q
        · walk_at "go"
          refine x_all (bs := z.cps.toList.map fun c => decide (c ∈ letters)) (by rw [List.map_map]; exact SqL.of upd_same) ?_
          have eall : ((z.cps.toList.map fun c => decide (c ∈ letters)).all id) = z.cps.toList.all fun c => decide (c ∈ letters) := by rw [List.all_map]; rfl
          rw [eall]
          have nm : ∀ {b : Bool}, (z.cps.toList.all fun c => decide (c ∈ letters)) = b → nameB z = (b && !(inV (.str z) [.str "ground", .str "power", .str "nothing"])) := fun {b} e => by
            unfold nameB
            rw [e, decide_eq_true (by omega : 1 ≤ z.length), decide_eq_true (by omega : z.length ≤ 8), Bool.true_and, Bool.true_and]
          cases e : z.cps.toList.all fun c => decide (c ∈ letters) with
          | false =>
            walk_at "go"
            have := k _ (Same.upd (o := .lst (z.cps.toList.map fun c => V.bl (decide (c ∈ letters)))) (Same.refl H) hl)
            rw [show nameV (.str z) = nameB z from rfl, nm e] at this
            exact this
          | true =>
            walk_at "go"
            intro p hp
            refine x_ninT (SqT.of upd_same) rfl rfl ?_
            have := k _ (Same.upd (o := .tup [.str "ground", .str "power", .str "nothing"]) (Same.upd (o := .lst (z.cps.toList.map fun c => V.bl (decide (c ∈ letters)))) (Same.refl H) hl) hp)
            rw [show nameV (.str z) = nameB z from rfl, nm e] at this
            exact this
      · rw [decide_eq_false h2]
        walk_at "go"
        have e : nameV (.str z) = false := by
          show nameB z = false
          unfold nameB
          rw [decide_eq_false (by omega : ¬ z.length ≤ 8), Bool.false_and, Bool.and_false]
        have := k _ (Same.refl H)
        rw [e] at this
        exact this
    · rw [decide_eq_false h1]
      walk_at "go"
      have e : nameV (.str z) = false := by
        show nameB z = false
        unfold nameB
        rw [decide_eq_false (by omega : ¬ 1 ≤ z.length), Bool.false_and]
      have := k _ (Same.refl H)
      rw [e] at this
      exact this
  · have hs2 : isStrV x = false := by cases q : isStrV x with | true => exact absurd q hs | false => rfl
    rw [hs2]
    walk_at "go"
    have e : nameV x = false := by cases x <;> first | rfl | (cases hs2)
    have := k _ (Same.refl H)
    rw [e] at this
    exact this
end
/-- for k in range(e) -/
theorem x_forRe {σ : L2.St} {H : Hp} {D : Ends} {te : TE} {j : Nat} {n : Int} {tb : TS} (he : ∀ Q : VK, Q (.int n) H → te σ H Q) (h0 : 0 ≤ n ∧ n ≤ 1000000) (Pv : Nat → L2.St → Hp → Prop) (hi : Pv 0 σ H)
    (hs : ∀ (i : Nat) s2 H2, (i : Int) < n → Pv i s2 H2 → tb { D with nx := Pv (i + 1), ct := Pv (i + 1), bk := D.nx } (s2.set j (some (.int (i : Int)))) H2) (hd : ∀ s2 H2, Pv n.toNat s2 H2 → D.nx s2 H2) : tFor (iRng1 (tCons te tNil)) (gName j) tb D σ H :=
  he _ ⟨n, rfl, by omega, by omega, for_range (lo := 0) (n := n.toNat) Pv hi (fun i s2 H2 hi2 p => by
    have e : (0 : Int) + (i : Int) = (i : Int) := Int.zero_add _
    show tb _ (s2.set j (some (.int ((0 : Int) + (i : Int))))) H2
    rw [e]
    exact hs i s2 H2 (by omega) p) hd⟩
/-! ### tables of classes -/
def kitTab (cs ds : List Str) (f : Str → Str → Bool) : Tst := fun K => cs.all fun c => ds.all fun d => decide (PySem.W.kitOne K (.ref (ga K c)) (.ref (ga K d)) = some (f c d))
theorem kitTab_ok {K : PySem.W.Frag} {cs ds : List Str} {f : Str → Str → Bool} (h : kitTab cs ds f K = true) : ∀ c ∈ cs, ∀ d ∈ ds, PySem.W.kitOne K (.ref (ga K c)) (.ref (ga K d)) = some (f c d) := fun c hc d hd =>
  of_decide_eq_true (List.all_eq_true.mp (List.all_eq_true.mp h c hc) d hd)
def kitTyp (cs : List Str) (ds : List String) (f : Str → String → Bool) : Tst := fun K => cs.all fun c => ds.all fun d => decide (PySem.W.kitOne K (.ref (ga K c)) (.type d) = some (f c d))
theorem kitTyp_ok {K : PySem.W.Frag} {cs : List Str} {ds : List String} {f : Str → String → Bool} (h : kitTyp cs ds f K = true) : ∀ c ∈ cs, ∀ d ∈ ds, PySem.W.kitOne K (.ref (ga K c)) (.type d) = some (f c d) := fun c hc d hd =>
  of_decide_eq_true (List.all_eq_true.mp (List.all_eq_true.mp h c hc) d hd)
def xcTab (cs : List Str) : Tst := fun K => cs.all fun c => xcT c K
theorem xcTab_ok {K : PySem.W.Frag} {cs : List Str} (h : xcTab cs K = true) : ∀ c ∈ cs, L2.ExcC K (ga K c) := fun c hc => xcT_ok (List.all_eq_true.mp h c hc)
end SJ

/-! SJQ: data shown: growth, sizes. -/
namespace SJ
open PySem PySem.Spec PyProof.Rows L2 He
section
variable {K : PySem.W.Frag} {H H2 : Hp}
mutual
theorem dq_same (s : Same H H2) : ∀ (d : PyData) (v : V), Dq K H v d → Dq K H2 v d
  | .none, _, h => by cases h; exact .non
  | .bool b, _, h => by cases h; exact .bl b
  | .int i, _, h => by cases h; exact .int i
  | .str x, _, h => by cases h; exact .str x
  | .list ds, _, h => by
    cases h with
    | lst q a => exact .lst (s _ _ q) (dqa_same s ds _ a)
  | .tuple ds, _, h => by
    cases h with
    | tup q a => exact .tup (sqt_same s q) (dqa_same s ds _ a)
  | .dict _, _, h => by
    cases h with
    | dic e => exact .dic (s _ _ e)
theorem dqa_same (s : Same H H2) : ∀ (ds : List PyData) (vs : List V), DqAll K H vs ds → DqAll K H2 vs ds
  | [], _, h => by cases h; exact .nil
  | d :: ds, _, h => by
    cases h with
    | cons a b => exact .cons (dq_same s d _ a) (dqa_same s ds _ b)
end
end
/-- may be shown; depth, size -/
def Sh (n w : Nat) (d : PyData) : Prop := d.showable = true ∧ d.depth ≤ n ∧ d.shown.length ≤ w
theorem Sh.mono {n w n2 w2 : Nat} {d : PyData} (h : Sh n w d) (a : n ≤ n2) (b : w ≤ w2) : Sh n2 w2 d := ⟨h.1, Nat.le_trans h.2.1 a, Nat.le_trans h.2.2 b⟩
theorem sh_all : ∀ ds : List PyData, (∀ d ∈ ds, d.showable = true) → PyData.showableAll ds = true
  | [], _ => by simp only [PyData.showableAll]
  | d :: ds, h => by
    simp only [PyData.showableAll]
    rw [h d (List.mem_cons_self ..), sh_all ds fun e q => h e (List.mem_cons_of_mem _ q)]
    rfl
theorem sh_len : ∀ ds : List PyData, (PyData.shownAll ds).length = ds.length
  | [] => by simp only [PyData.shownAll, List.length_nil]
  | d :: ds => by simp only [PyData.shownAll, List.length_cons, sh_len ds]
theorem sh_sum {w : Nat} : ∀ ds : List PyData, (∀ d ∈ ds, d.shown.length ≤ w) → ((PyData.shownAll ds).map (·.length)).sum ≤ ds.length * w
  | [], _ => by simp only [PyData.shownAll, List.map_nil, List.sum_nil]; exact Nat.zero_le _
  | d :: ds, h => by
    simp only [PyData.shownAll, List.map_cons, List.sum_cons, List.length_cons]
    have h1 := h d (List.mem_cons_self ..)
    have h2 := sh_sum ds fun e q => h e (List.mem_cons_of_mem _ q)
    rw [Nat.add_mul, Nat.one_mul]
    omega
theorem sh_list {n w : Nat} {ds : List PyData} (h : ∀ d ∈ ds, Sh n w d) : Sh (n + 1) (ds.length * (w + 2) + 3) (.list ds) := by
  refine ⟨?_, ?_, ?_⟩
  · simp only [PyData.showable]; exact sh_all ds fun d q => (h d q).1
  · simp only [PyData.depth]; exact Nat.succ_le_succ (dep_all ds fun d q => (h d q).2.1)
  · simp only [PyData.shown]
    have h1 := PySem.listText_len_le (PyData.shownAll ds)
    have h2 := sh_sum ds fun d q => (h d q).2.2
    rw [sh_len] at h1
    rw [Nat.mul_add]
    omega
theorem join_len : ∀ ts : List Str, (Str.join ", " ts).length ≤ (ts.map (·.length)).sum + 2 * ts.length
  | [] => Nat.zero_le _
  | [x] => by show x.length ≤ _; simp only [List.map_cons, List.map_nil, List.sum_cons, List.sum_nil, List.length_cons, List.length_nil]; omega
  | x :: y :: r => by
    have ih := join_len (y :: r)
    have e : (Str.join ", " (x :: y :: r)).length = x.length + 2 + (Str.join ", " (y :: r)).length := by
      show (x ++ ", " ++ Str.join ", " (y :: r)).length = _
      rw [PySem.Str.length_append, PySem.Str.length_append]
      rfl
    rw [e]
    simp only [List.map_cons, List.sum_cons, List.length_cons] at ih ⊢
    omega
theorem sh_tup {n w : Nat} {ds : List PyData} (h : ∀ d ∈ ds, Sh n w d) : Sh (n + 1) (ds.length * (w + 2) + 3) (.tuple ds) := by
  refine ⟨?_, ?_, ?_⟩
  · simp only [PyData.showable]; exact sh_all ds fun d q => (h d q).1
  · simp only [PyData.depth]; exact Nat.succ_le_succ (dep_all ds fun d q => (h d q).2.1)
  · simp only [PyData.shown]
    unfold tupleText
    have h1 := join_len (PyData.shownAll ds)
    have h2 := sh_sum ds fun d q => (h d q).2.2
    rw [sh_len] at h1
    rw [Nat.mul_add, PySem.Str.length_append, PySem.Str.length_append]
    have e1 : (Str.ofString "(").length = 1 := rfl
    have e2 : (Str.ofString (if ((PyData.shownAll ds).length == 1) = true then ",)" else ")")).length ≤ 2 := by
      split
      · exact Nat.le_refl 2
      · exact Nat.le_of_ble_eq_true rfl
    omega
theorem shs_nil {n w : Nat} : ∀ d ∈ ([] : List PyData), Sh n w d := fun _ m => nomatch m
theorem shs_cons {n w : Nat} {d : PyData} {ds : List PyData} (h : Sh n w d) (t : ∀ e ∈ ds, Sh n w e) : ∀ e ∈ d :: ds, Sh n w e := fun e m => by
  rcases List.mem_cons.mp m with rfl | m
  · exact h
  · exact t e m
theorem x_reprS {K : PySem.W.Frag} {H : Hp} {Q : VK} {x : V} {d : PyData} {n w : Nat} (h : Dq K H x d) (s : Sh n w d) (hn : n ≤ 100) (hw : w ≤ 100000) (k : Q (.str d.shown) H) : rReprU K [x] H Q := x_reprD h s.1 (Nat.le_trans s.2.1 hn) (Nat.le_trans s.2.2 hw) k
/-! ### a comprehension over a list just made -/
def gLcL (K : PySem.W.Frag) (tg : TG) (tt : TT) (tb : TE) (vs : List Nat) (σ : L2.St) (Q : VK) (x : V) (H1 : Hp) : Prop := ∃ a2, x = V.ref a2 ∧ (∃ ys, SqL K H1 a2 ys) ∧ ∀ l, H1 l = none → ∃ Wn : Nat → Nat → Hp → Prop, (∃ m, Wn 0 m (upd H1 l (.lst []))) ∧ ∀ i m H2, Wn i m H2 →
      ((Itl K a2).stop i H2 ∧ Q (.ref l) H2) ∨ ((Itl K a2).go i H2 ∧ ∃ Nx : Hp → Prop, (∀ H3, Nx H3 → ∃ m2, m2 < m ∧ Wn (i + 1) m2 H3) ∧ ∀ x H3, (Itl K a2).yld i H2 x H3 → tg x (wipe σ vs) H3 fun s2 H4 => wipe s2 vs = wipe σ vs ∧ tt s2 H4 fun b H5 =>
        if b = true then tb s2 H5 fun y H6 => ∃ acc, H6 l = some (.lst acc) ∧ acc.length < sizeLine ∧ Nx (upd H6 l (.lst (acc ++ [y]))) else Nx H5)
section
variable {K : PySem.W.Frag} {σ : L2.St} {H : Hp} {Q : VK} {te tb : TE} {tg : TG} {tt : TT} {vs : List Nat} {a : Addr} {xs : List V}
theorem x_lcL0 (k : te σ H fun x H1 => gLcL K tg tt tb vs σ Q x H1) : tLc (iList K te) tg tt tb vs σ H Q := k
theorem x_lcL1 (hx : SqL K H a xs) (Pv : Addr → Nat → Hp → Prop) (h0 : ∀ l, H l = none → Pv l 0 (upd H l (.lst []))) (hl : ∀ l i H2, i ≤ xs.length → Pv l i H2 → SqL K H2 a xs)
    (hs : ∀ l i x H2, H l = none → xs[i]? = some x → Pv l i H2 → tg x (wipe σ vs) H2 fun s3 H3 => wipe s3 vs = wipe σ vs ∧ tt s3 H3 fun b H4 => if b = true then tb s3 H4 fun y H5 => ∃ acc, H5 l = some (.lst acc) ∧ acc.length < sizeLine ∧ Pv l (i + 1) (upd H5 l (.lst (acc ++ [y]))) else Pv l (i + 1) H4)
    (hd : ∀ l H2, H l = none → Pv l xs.length H2 → Q (.ref l) H2) : gLcL K tg tt tb vs σ Q (.ref a) H :=
  ⟨a, rfl, ⟨xs, hx⟩, fun l hl0 => lc_list (K := K) (a := a) (xs := xs) (Pv l) (h0 l hl0) (hl l) (fun i x H2 hx2 p => hs l i x H2 hl0 hx2 p) fun H2 p => hd l H2 hl0 p⟩
theorem x_reprBl {b : Bool} (k : Q (.str (PyData.bool b).shown) H) : rReprU K [.bl b] H Q := .inl ⟨_, _, rfl, .bl b, by cases b <;> rfl, by simp only [PyData.depth]; omega, by cases b <;> exact Nat.le_of_ble_eq_true rfl, k⟩
end
end SJ

/-! SJY: except X as n, the error kept as a value behind the suite. -/
namespace SJ
open PySem PySem.Spec PyProof.Rows L2 He
def XW (a : Addr) (cls : Value) (d : Option Addr) : HO := .ext fun h => ∃ (oe : Obj) (vs : Array Value), h.get? a = some oe ∧ oe.cls = cls ∧ oe.dict = d ∧ oe.data = .fields vs
theorem xw_ref {a C : Addr} {d : Option Addr} : XW a (.ref C) d = XV a C d := rfl
section
variable {X : Cx} {pins : List (Addr × Obj)} {σ : L2.St} {H : Hp} {s : Shared}
/-- an object that was not there at the entry is tracked from here on -/
theorem inv_track {a : Addr} {oe : Obj} {vs : Array Value} {cls : Value} {d : Option Addr} (I : Inv X pins σ H s) (na : H a = none) (n0 : X.s_0.heap.get? a = none) (he : s.heap.get? a = some oe) (hd : oe.data = .fields vs) (hz : Zc cls d oe) (nL : a ≠ X.env.locals) (np : ∀ p ∈ X.pn ++ pins, p.1 ≠ a) :
    Inv X pins σ (upd H a (XW a cls d)) s := by
  have ne : ∀ {b : Addr} {o : HO}, H b = some o → b ≠ a := fun h => ne_of_none h na
  have n1 : ∀ {b : Addr} {o : Obj}, X.s_0.heap.get? b = some o → b ≠ a := fun {b o} h e => by rw [e, n0] at h; cases h
  refine ⟨I.ok, I.os, I.bare, ⟨I.base.keep, I.base.slot, fun b o h1 h2 h3 => ?_, I.base.there, fun b xs h => ?_, fun b u xs h => ?_, fun b ps h => ?_⟩, I.loc, I.cell, ?_, fun x c h => ?_, fun p hp => ?_, fun b o h => ?_, I.len⟩
  · rw [upd_ne (n1 h1)]; exact I.base.free b o h1 h2 h3
  · have q := I.base.tups b xs h
    rw [upd_ne (ne q)]; exact q
  · have q := I.base.frzs b u xs h
    rw [upd_ne (ne q)]; exact q
  · obtain ⟨qs, q⟩ := I.base.tbls b ps h
    exact ⟨qs, by rw [upd_ne (ne q)]; exact q⟩
  · rw [upd_ne (Ne.symm nL)]; exact I.free
  · have nc : c ≠ a := fun e => by
      obtain ⟨v, o, q1, q2⟩ := I.cell x c h
      rw [e, he] at q1
      cases q1
      rw [hd] at q2
      cases q2
    rw [upd_ne nc]; exact I.freeC x c h
  · obtain ⟨p1, p2, p3⟩ := I.pin p hp
    exact ⟨p1, by rw [upd_ne (np p hp)]; exact p2, p3⟩
  · exact (I.hok.laidN (h' := s.heap) (o := XW a cls d) (fun _ _ q => q) na ⟨⟨oe, vs, he, hz.1, hz.2, hd⟩, ⟨oe, he⟩, fun _ _ ⟨o2, v2, q, r⟩ k => ⟨o2, v2, k o2 q, r⟩⟩) b o h
end
/-- the wish: the clause takes it, then the object stays tracked -/
def wKeep (K : PySem.W.Frag) (c : Value) (i : Nat) (ts : Addr → Value → Option Addr → TS) (Wout : WX) (D : Ends) : WX := fun cls d σ H =>
  ∃ b, PySem.W.exmOne K cls c = some b ∧ (b = true → ∀ a, H a = none → ts a cls d { nx := fun s2 H2 => D.nx (s2.set i none) (upd H2 a (XW a cls d)), rt := fun v H2 => D.rt v (upd H2 a (XW a cls d)), bk := fun s2 H2 => D.bk (s2.set i none) (upd H2 a (XW a cls d)), ct := fun s2 H2 => D.ct (s2.set i none) (upd H2 a (XW a cls d)) } (σ.set i (some (.ref a))) H) ∧ (b = false → Wout cls d σ H)
def tTryK (K : PySem.W.Frag) (c : Addr) (i : Nat) (tb : WX → TS) (ts : Addr → Value → Option Addr → TS) (Wout : WX) : TS := fun D σ H => tb (wKeep K (.ref c) i ts Wout D) D σ H
section
variable {X : Cx} {x n : Str} {c : Addr} {i : Nat} {body suite : List Stmt} {b0 : Stmt} {np pos pos2 : Pos} {tb : WX → TS} {ts : Addr → Value → Option Addr → TS} {Wo : WX}
theorem ps_tryK (hs : X.stack = X.env :: X.outer) (hf : X.env.frame = some X.env.locals) (hN : X.N.Nodup) (hi : X.N[i]? = some n) (hln : X.env.kindOf n = some .local) (hg : Gl X x) (hm : X.mg x = some (.ref c)) (tk : Takes X Wo)
    (hb : ∀ (W : WX) (pn : List (Addr × Obj)) (xe : Value → Shared → Prop), Takes (X.tr pn xe) W → PassesOwn (model X.prog X.w) X.A X.env xe → PSs (X.tr pn xe) body (tb W))
    (hsu : ∀ (a : Addr) (oe : Obj) (cls : Value) (d : Option Addr) (pn : List (Addr × Obj)), Zc cls d oe → (∃ vs, oe.data = .fields vs) → PSs (X.suite a ((a, oe) :: pn)) (b0 :: suite) (ts a cls d)) (hex : X.ex = [] := by rfl) (hdb : (x == ("__debug__" : Str)) = false := by decide) :
    PS X (.Try body [.ExceptHandler (some (.Name x np)) (some n) (b0 :: suite) pos2] [] [] pos) (tTryK X.K c i tb ts Wo) := by
  refine ⟨fun pins s σ H D I h => ?_⟩
  have ok := I.ok
  have efr : X.A.frames = some (X.env :: X.outer) := by rw [ok.frames, hs]
  have eloc : Loc X.env.scope n := .inl hln
  refine wpAny_Try_except (wpAny_mono ((hb (wKeep X.K (.ref c) i ts Wo D) (X.pn ++ pins) (fun er s1 => wpAny (model X.prog X.w) X.A (noteFrame er X.env) (fun _ s2 => wpAny (model X.prog X.w) X.A (setFlight er none) (fun _ s3 =>
    wpAny (model X.prog X.w) X.A (handleBy er X.env [.ExceptHandler (some (.Name x np)) (some n) (b0 :: suite) pos2]) (SP X pins D) X.xe s3) X.xe s2) X.xe s1) (fun u s2 xx => ?_) PassesOwn.looking).run [] s σ H D (I.toTry _) h) (fun f s1 hsp => ?_) (fun _ _ z => z))
  · obtain ⟨a, B, sI, pins2, σ2, H2, cls, d, rfl, J0, nb, up, sky, na, os, ag, b, hb1, yes, no⟩ := xx
    have J : Inv X pins σ2 H2 sI := J0.ofTry ok
    have sky2 : Sky B (X.env :: X.outer) a (Zc cls d) X.env.locals s2.heap := by rw [← hs]; exact sky
    show wpAny (model X.prog X.w) X.A (noteFrame (.ref a) X.env) _ _ _
    refine Sky.land Zc.steady efr hf sky2 fun h3 fl3 up3 => ?_
    have J3 : Inv X pins σ2 H2 { s2 with heap := h3 } := J.landed nb fl3.1 (up.trans up3) os ag
    obtain ⟨o3, v3, g3, z3, d3⟩ := fl3.there
    have nfr : a ∉ frs (X.env :: X.outer) := fun hm => by
      obtain ⟨_, o4, g4, hnf⟩ := fl3.2.2.1.mem hm
      rw [g3] at g4; cases g4
      exact hnf _ d3
    have nL : a ≠ X.env.locals := fun z => nfr (List.mem_filterMap.mpr ⟨X.env, List.mem_cons_self, by rw [hf, z]⟩)
    have nF : a ∉ X.fs := fun hm => by
      obtain ⟨en, he, q⟩ := List.mem_filterMap.mp hm
      exact nfr (List.mem_filterMap.mpr ⟨en, List.mem_cons_of_mem _ he, q⟩)
    have nB : B.get? a = none := fl3.2.1
    have nI : ∀ o, sI.heap.get? a ≠ some o := fun o z => by
      have y := nb a o z (by rw [hs]; exact nfr)
      rw [nB] at y; cases y
    have S3 := J3.suite g3 d3 na nL nF
    refine wpAny_handleBy_cons (codeAny_handlers_test ?_) (by intro q; cases q)
    have LT : PySem.W.Looks (model X.prog X.w) h3 (typeOf (.ref a)) cls := fun A Q E s k q => wpAny_typeOf_ref (k _ _ g3) (by rw [z3.1]; exact q)
    have LM := PySem.W.exm_one (M := model X.prog X.w) (J3.kIn) LT hb1
    refine ld_glob (X := X.suite a ((a, o3) :: (X.pn ++ pins))) S3 hg hm (LM.here ?_) hdb
    cases b with
    | true =>
      refine codeAny_handlers_suite_as (HandSPX.lands_againZ fl3 fun h4 fl4 up4 => ?_)
      have J4 : Inv X pins σ2 H2 { s2 with heap := h4 } := J.landed nb fl4.1 ((up.trans up3).trans up4) os ag
      obtain ⟨o4, v4, g4, z4, d4⟩ := fl4.there
      have S4 := J4.suite g4 d4 na nL nF
      refine store_ok (X := X.suite a ((a, o4) :: (X.pn ++ pins))) (v := .ref a) S4 hN hi eloc rfl (fun s5 S5 => ?_) (.inr hln)
      refine wpAny_mono ((hsu a o4 cls d (X.pn ++ pins) z4 ⟨_, d4⟩).run [] s5 _ H2 _ S5 (yes rfl a na)) (fun f s6 hsp => ?_) (fun _ _ z => False.elim z)
      have n0 : X.s_0.heap.get? a = none := by
        cases q : X.s_0.heap.get? a with
        | none => rfl
        | some o =>
          obtain ⟨o5, q5⟩ := J.base.there a o q (by rw [hex]; exact List.not_mem_nil)
          exact absurd q5 (nI o5)
      have npn : ∀ p ∈ X.pn ++ pins, p.1 ≠ a := fun p hp e => by
        have q := (J.pin p hp).1
        rw [e] at q
        exact nI _ q
      have fin : ∀ {σ6 : L2.St} {H6 : Hp} {Q : Shared → Prop}, Inv (X.suite a ((a, o4) :: (X.pn ++ pins))) [] σ6 H6 s6 → (∀ s7, Inv X pins (σ6.set i none) (upd H6 a (XW a cls d)) s7 → Q s7) →
          wpAny (model X.prog X.w) X.A (do bindName X.env n .none; unbindBehindTheSuite X.env n pos2) (fun _ s7 => Q s7) X.xe s6 := fun {σ6 H6 Q} S6 hq => by
        obtain ⟨p1, p2, _⟩ := S6.pin (a, o4) (List.mem_append_left _ List.mem_cons_self)
        exact gone_ok (inv_track (S6.unsuite ok) p2 n0 p1 d4 z4 nL npn) hN hi hln hq
      cases f with
      | next => obtain ⟨σ6, H6, S6, q6⟩ := hsp; exact fin S6 fun s7 J7 => ⟨_, _, J7, q6⟩
      | brk => obtain ⟨σ6, H6, S6, q6⟩ := hsp; exact fin S6 fun s7 J7 => ⟨_, _, J7, q6⟩
      | cont => obtain ⟨σ6, H6, S6, q6⟩ := hsp; exact fin S6 fun s7 J7 => ⟨_, _, J7, q6⟩
      | ret u => obtain ⟨v6, σ6, H6, S6, r6, q6⟩ := hsp; exact fin S6 fun s7 J7 => ⟨_, _, _, J7, r6, q6⟩
    | false =>
      show wpAny _ X.A (handleBy (.ref a) X.env []) _ _ _
      refine wpAny_handleBy_nil ?_
      obtain ⟨k1, k2, k3, o5, v5, T5, oT, t5, g5, z5, d5, w5, r5⟩ := id fl3
      unfold PySem.passOn
      refine wpAny_bind (wpAny_field g5 d5 w5 ?_)
      rw [if_neg (show ¬ ((Value.ref T5 == Value.none) = true) from by simp)]
      have fin : wpAny (model X.prog X.w) X.A (setFlight (.ref a) X.env.frame) (fun _ s4 => wpAny (model X.prog X.w) X.A (throw (.ref a) : Sem Flow) (SP X pins D) X.xe s4) X.xe { s2 with heap := h3 } := by
        rw [hf]
        exact HandSPX.setFlight_upZ fl3 fun h4 hh4 up4 => wpAny_throw (tk _ _ ⟨a, B, sI, pins, σ2, H2, cls, d, rfl, J, nb, (up.trans up3).trans up4, .inr (.inr (by rw [hs]; exact hh4)), na, os, ag, no rfl⟩)
      first
        | exact wpAny_bind (wpAny_pure (wpAny_bind fin))
        | exact wpAny_bind fin
  · cases f with
    | next => obtain ⟨σ2, H2, J0, q⟩ := hsp; exact wpAny_execs_nil ⟨σ2, H2, J0.ofTry ok, q⟩
    | brk => obtain ⟨σ2, H2, J0, q⟩ := hsp; exact ⟨σ2, H2, J0.ofTry ok, q⟩
    | cont => obtain ⟨σ2, H2, J0, q⟩ := hsp; exact ⟨σ2, H2, J0.ofTry ok, q⟩
    | ret u => obtain ⟨v, σ2, H2, J0, r, q⟩ := hsp; exact ⟨v, σ2, H2, J0.ofTry ok, r, q⟩
end
end SJ

/-! SJW: defs with *rest (and keyword-only parameters), and calls of them. -/
namespace SJ
open PySem PySem.Spec PyProof.Rows L2 He
/-- the binder comes to making the tuple of what is left over -/
def BindS (s : Shared) (fd : FuncData) (args : Args) (l : List (Str × Value)) (pv : Str) (rest : List Value) : Prop :=
  ∀ (M : Model) (A : Around) (Q : List (Str × Value) → Shared → Prop) (E : Value → Shared → Prop), wpAny M A (newTuple rest >>= fun t => pure (l ++ [(pv, t)])) Q E s → wpAny M A (bindArgs fd args) Q E s
/-- what such a def promises: values of the parameters, then the tuple -/
structure Fs (P : Program) (w : World) (K : PySem.W.Frag) (mg : Str → Option Value) (base : Heap) (k : Nat) (f : Addr) (fd : FuncData) (ps : List Str) (pv : Str) (sp : Sp) : Prop where
  run : ∀ (A : Around) (outer : List Env) (s : Shared) (H : Hp) (args : Args) (us rs : List Value) (vs xs : List V) (Q : VK) (E : XK), Rm k A → Env0 P w K mg base A outer s H → BindS s fd args (ps.zip us) pv rs → Vals vs us → Vals xs rs → vs.length = ps.length → xs.length ≤ sizeLine →
    (∀ p, H p = none → sp (vs ++ [.ref p]) (upd H p (.tup xs)) Q E) → codeAny (model P w) A (.call (.ref f) args) (CR (L2.CX P w) outer P w H s Q E) s
theorem fs_of {P : Program} {w : World} {K : PySem.W.Frag} {mg : Str → Option Value} {base : Heap} {x qual : Str} {pa : Arguments} {bo : List Stmt} {sc : Scope} {dvs : List V} {kws : List (Str × V)} {f : Addr} {fd : FuncData} {N ps : List Str} {pv : Str} {k : Nat} {sp : Sp}
    (F : FunD K x qual pa bo sc dvs kws f fd) (S : FnScope N (ps ++ [pv]) sc)
    (hb : ∀ (cdv : Value) (A : Around) (outer : List Env) (s : Shared) (H : Hp) (vs : List V) (Q : VK) (E : XK), Rm k (A.deeper (envOfC qual sc s.heap.objs.size f cdv)) → sp vs H Q E →
      ∃ t, PSs (cxOf (L2.CX P w) P w K mg base N qual sc f cdv A outer s H E) bo t ∧ t { nx := fun _ H2 => Q .non H2, rt := Q } (start N vs) H) : Fs P w K mg base (k + 1) f fd ps pv sp := by
  obtain ⟨oc, od, dV, kV, doc, pm, an, cdv, ct, osl, rfl, lk, hcd, _, _⟩ := F.ex
  refine ⟨fun A outer s H args us rs vs xs Q E hr e0 hbi rv rx hl hz hsp => ?_⟩
  have hn : H s.heap.objs.size = none := e0.hok.fresh (Nat.le_refl _)
  have hl1 : us.length = ps.length := by rw [← rv.length]; exact hl
  have hz1 : rs.length ≤ sizeLine := by rw [← rx.length]; exact hz
  refine StX.run_bnd lk hcd S hr.r e0 (G := fun ys H2 => ∃ p, H p = none ∧ ys = vs ++ [V.ref p] ∧ H2 = upd H p (.tup xs)) (fun A2 Ex Q2 h => ?_) fun s2 H2 ys ⟨p, hp, ey, eH⟩ _ => ?_
  · refine hbi _ _ _ _ (wpAny_bind (wpAny_newTuple (wpAny_pure ?_) hz1))
    have un := StX.un_laid (fs := frs outer) (s := s) (o := ({ cls := .type "tuple", data := .seq rs.toArray } : Obj)) (u := .tup xs) hn
    have new : ObjOk P w (upd H s.heap.objs.size (.tup xs)) (s.heap.push ({ cls := .type "tuple", data := .seq rs.toArray } : Obj)) s.heap.objs.size (.tup xs) := ⟨hz, rs, rx, ⟨_, Heap.get?_push_size _ rfl, rfl, _, rfl⟩⟩
    have z := h _ _ (vs ++ [V.ref s.heap.objs.size]) (us ++ [Value.ref s.heap.objs.size]) (StX.env0_laid e0 new) un rfl (fun e s3 => StX.cxUp outer s H _ _ E e s3 un (fun b o q => Heap.get?_push_of_some _ q) rfl) (rv.append (.cons rfl .nil))
      (by rw [List.length_append, List.length_append, hl] <;> rfl) ⟨_, hn, rfl, rfl⟩
    rw [List.zip_append hl1.symm] at z
    exact z
  · subst ey eH
    exact hb cdv A outer s2 _ _ Q E (hr.deeper _) (hsp p hp)
end SJ
namespace SJ
open PySem PySem.Spec PySem.W
/-! ### f(*y, k = v, ..): the node of the call -/
section
variable {M : Model} {A : Around} {E : Value → Shared → Prop} {s : Shared}
theorem star_kwArgs {f : Value} {x : Sem Value} {pos : Pos} {ks : List (Option Str × Sem Value)} {Q : Args → Shared → Prop} (hall : ks.all (·.1.isSome) = true)
    (h : wpAny M A x (fun v s1 => wpAny M A (evalAll (ks.map (·.2))) (fun us s2 => StarOf M A E v (fun vs s3 => Q ⟨vs, (ks.filterMap (·.1)).zip us⟩ s3) s2) E s1) E s) :
    wpAny M A (evalArgs f true [(true, (do let v ← x; standAt pos; pure v))] ks) Q E s := by
  unfold evalArgs
  first
    | refine wpAny_bind (wpAny_bind (wpAny_mono h (fun v s1 h1 => wpAny_bind (wpAny_standAt (wpAny_pure ?_))) fun _ _ z => z))
    | refine wpAny_bind (wpAny_bind (wpAny_bind (wpAny_mono h (fun v s1 h1 => wpAny_bind (wpAny_standAt (wpAny_pure (wpAny_pure ?_)))) fun _ _ z => z)))
  refine wpAny_holding ?_
  simp only [hall, if_true]
  refine wpAny_bind (wpAny_mono h1 (fun us s2 h2 => ?_) fun _ _ z => z)
  unfold StarOf at h2
  refine wpAny_bind (wpAny_bind (wpAny_mono h2 (fun b s3 h3 => ?_) fun _ _ z => z))
  obtain ⟨rfl, h3⟩ := h3
  try simp only [Bool.false_eq_true, if_false]
  have z : ∀ keep : List Value, wpAny M A (holding keep (collect v)) (fun vs s4 => wpAny M A (pure (⟨vs, (ks.filterMap (·.1)).zip us⟩ : Args)) Q E s4) E s3 := fun keep => wpAny_holding (wpAny_mono h3 (fun vs s4 h4 => wpAny_pure h4) fun _ _ z => z)
  first
    | exact z _
    | exact wpAny_bind (wpAny_pure (z _))
theorem star_callKw {f : Value} {fst : List Value} {pos : Pos} {Q : Value → Shared → Prop} {P : Heap → Prop} {args : List (Bool × Sem Value)} {ks : List (Option Str × Sem Value)} (hst : args.any (·.1) = true)
    (hk : ∀ h, P h → ∃ k, (k = Keeper.frame ∨ k = Keeper.machine ∨ k = Keeper.boundFrame) ∧ Looks M h (keeperOf f) k)
    (h : wpAny M A (evalArgs f true args ks) (fun a s1 => P s1.heap ∧ wpAny M A (call f (fst ++ a.pos) a.kw) Q E s1) E s) : wpAny M A (callWith pos f fst args ks) Q E s := by
  unfold callWith
  refine wpAny_bind (wpAny_holding (wpAny_mono h (fun a s1 h1 => wpAny_bind (wpAny_standAt ?_)) fun _ _ z => z))
  obtain ⟨k, k2, L⟩ := hk _ h1.1
  simp only [hst, Bool.true_or]
  refine wpAny_bind (L.here ?_)
  have tail : ∀ {t : Sem Value}, wpAny M A t Q E s1 → wpAny M A (t >>= fun r => holding [r] point >>= fun _ => pure r) Q E s1 :=
    fun ht => wpAny_bind (wpAny_mono ht (fun r s2 hr => wpAny_bind (wpAny_holding (wpAny_point (wpAny_pure hr)))) fun _ _ z => z)
  have mk (v : Value) : wpAny M A (callMarked v f (fst ++ a.pos) a.kw) Q E s1 := by unfold callMarked; exact Calls.wpAny_keep h1.2
  rcases k2 with rfl | rfl | rfl <;> dsimp only <;> first | exact tail (mk _) | exact tail (wpAny_operating h1.2)
end
end SJ
namespace SJ
open PySem PySem.Spec PyProof.Rows L2 He
/-! ### the binder, keywords and keyword-only defaults -/
/-- reads of the keyword-only defaults, then r -/
def KwTo {α : Type} (D : Addr) : List (Str × Value) → Sem α → Sem α → Prop
  | [], t, r => t = r
  | q :: l, t, r => ∃ (β γ : Type) (k1 : Option Value → Sem β) (k2 : β → Sem γ) (k3 : γ → Sem α) (a : β), t = ((nsGet D q.1 >>= k1) >>= k2) >>= k3 ∧ k1 (some q.2) = pure a ∧ KwTo D l (k2 a >>= k3) r
theorem KwTo.wp {α : Type} {K : PySem.W.Frag} {M : Model} {A : Around} {E : Value → Shared → Prop} {Q : α → Shared → Prop} {s : Shared} {D : Addr} (X : K.In s.heap) : ∀ {l : List (Str × Value)} {t r : Sem α}, (∀ q ∈ l, PySem.W.nsIn K D q.1 = some (some q.2)) → KwTo D l t r → wpAny M A r Q E s → wpAny M A t Q E s
  | [], t, r, _, e, h => by rw [show t = r from e]; exact h
  | q :: l, t, r, hl, e, h => by
    obtain ⟨β, γ, k1, k2, k3, a, e1, e2, e3⟩ := e
    have l1 : PySem.W.Looks M s.heap (nsGet D q.1 >>= k1) a := (PySem.W.looks_nsIn X (hl q (List.mem_cons_self ..))).andThen (PySem.W.Looks.of_pure e2)
    rw [e1, bind_assoc]
    exact wpAny_bind (l1.here (KwTo.wp X (fun p hp => hl p (List.mem_cons_of_mem _ hp)) e3 h))
/-- how a def with *pv binds: n values, the rest, keywords named ks -/
structure KSn (K : PySem.W.Frag) (fd : FuncData) (ps : List Str) (pv : Str) (n : Nat) (ks : List Str) (g : List Value → List Value → List Value) (gV : List V → List V → List V) : Prop where
  to : ∀ (s : Shared) (us ws rest : List Value), K.In s.heap → us.length = n → ws.length = ks.length → BindS s fd ⟨us ++ rest, ks.zip ws⟩ (ps.zip (g us ws)) pv rest
  rel : ∀ {vs : List V} {us : List Value} {zs : List V} {ws : List Value}, Vals vs us → Vals zs ws → Vals (gV vs zs) (g us ws)
theorem ksn_of {K : PySem.W.Frag} {x qual : Str} {pa : Arguments} {bo : List Stmt} {sc : Scope} {kws : List (Str × V)} {f : Addr} {fd : FuncData} {ps : List Str} {pv : Str} (F : FunD K x qual pa bo sc [] kws f fd) (n : Nat) (ks : List Str) (ms : List (Str × V)) (g : {α : Type} → List α → List α → List α → List α)
    (hk : kws ≠ []) (hms : ∀ q ∈ ms, q ∈ kws) (hrel : ∀ {vs mz zs : List V} {us mv ws : List Value}, Vals vs us → Vals mz mv → Vals zs ws → Vals (g vs mz zs) (g us mv ws))
    (h : ∀ (D : Addr) (doc pm : Value) (an : Option Addr) (cdv ct : Value) (us mv ws rest : List Value), us.length = n → mv.length = ms.length → ws.length = ks.length →
      KwTo D ((ms.map (·.1)).zip mv) (bindArgs (PySem.W.fnOf x qual pa bo sc .none (.ref D) doc pm an cdv ct) ⟨us ++ rest, ks.zip ws⟩) (newTuple rest >>= fun t => pure (ps.zip (g us mv ws) ++ [(pv, t)]))) :
    ∃ mv : List Value, KSn K fd ps pv n ks (fun us ws => g us mv ws) (fun vs zs => g vs (ms.map (·.2)) zs) := by
  obtain ⟨oc, od, dV, kV, doc, pm, an, cdv, ct, osl, rfl, lk, hcd, hD, hK⟩ := F.ex
  rcases hD with ⟨_, rfl⟩ | ⟨e, _⟩
  · rcases hK with e | ⟨D, rfl, hq⟩
    · exact absurd e hk
    · obtain ⟨mv, hl, rk, hks⟩ := kwd_vals (ms := ms) fun q hm => hq q (hms q hm)
      exact ⟨mv, ⟨fun s us ws rest kin l1 l2 M A Q E q => KwTo.wp kin hks (h D doc pm an cdv ct us mv ws rest l1 hl l2) q, fun r1 r2 => hrel r1 rk r2⟩⟩
  · exact absurd rfl e
/-! ### C(*y, k = v, ..) and C(a, .., k = v, ..), __init__ with *rest -/
def gNwS (C : Addr) (sp : Sp) (gV : List V → List V → List V) (W : WX) (σ : L2.St) (xs zs : List V) (H2 : Hp) (Q : VK) : Prop := xs.length ≤ sizeLine ∧ ∀ x dx p, H2 x = none → H2 dx = none → dx ≠ x → H2 p = none → p ≠ x → p ≠ dx →
  sp (gV [.ref x] zs ++ [.ref p]) (upd (upd (upd H2 dx (.own x)) x (.ins C dx [])) p (.tup xs)) (fun v H3 => v = .non ∧ Q (.ref x) H3) (WE W σ)
section
variable {X : Cx} {k : Nat} {f C : Addr} {fd : FuncData} {ps ks : List Str} {pv : Str} {sp : Sp} {W : WX} {x : Str} {p pos sps : Pos} {e : Expr} {es : List Expr} {kws : List Keyword} {te : TE} {ta tk : TA} {g : List Value → List Value → List Value} {gV : List V → List V → List V} {mm : Nat}
theorem run_nwS {pins : List (Addr × Obj)} {σ : L2.St} {H : Hp} {s : Shared} {Q : VK} {rs ws : List Value} {xs zs : List V} (M : Mk X.K C f) (F : Fs X.prog X.w X.K X.mg X.base k f fd ps pv sp) (hr : Rm (k + 1) X.A) (tks : Takes X W) (I : Inv X pins σ H s)
    (hb : KSn X.K fd ps pv 1 ks g gV) (hps : ∀ a : V, (gV [a] zs).length = ps.length) (rx : Vals xs rs) (rz : Vals zs ws) (hz : zs.length = ks.length) (h : gNwS C sp gV W σ xs zs H Q) :
    wpAny (model X.prog X.w) X.A (call (.ref C) rs (ks.zip ws)) (EP X pins σ Q) X.xe s := by
  obtain ⟨hxs, h⟩ := h
  have n1 := I.hok.fresh (Nat.le_succ s.heap.objs.size)
  have n0 := I.hok.fresh (Nat.le_refl s.heap.objs.size)
  have J := Inv.made (C := C) I
  have r0 : Vals [V.ref (s.heap.objs.size + 1)] [Value.ref (s.heap.objs.size + 1)] := .cons rfl .nil
  refine wpAny_call (make_map (f := f) I.kIn M.makes M.init (beq_iff_eq.mp M.fn) (codeAny_mono (F.run _ X.stack _ _ ⟨[Value.ref (s.heap.objs.size + 1)] ++ rs, ks.zip ws⟩ _ rs _ xs (fun v H3 => v = .non ∧ Q (.ref (s.heap.objs.size + 1)) H3) (WE W σ) (hr.make C rs (ks.zip ws))
    (J.env0.make C rs (ks.zip ws)) (hb.to _ [.ref (s.heap.objs.size + 1)] ws rs J.kIn rfl (rz.length.symm.trans hz)) (hb.rel r0 rz) rx (hps _) hxs fun q hq => ?_) fun rr s2 hq2 => ?_))
  · have q1 : q ≠ s.heap.objs.size + 1 := fun z => by rw [z, upd_same] at hq; cases hq
    have q2 : q ≠ s.heap.objs.size := fun z => by rw [z, upd_ne (Nat.ne_of_lt (Nat.lt_succ_self _)), upd_same] at hq; cases hq
    rw [upd_ne q1, upd_ne q2] at hq
    exact h _ _ q n1 n0 (Nat.ne_of_lt (Nat.lt_succ_self _)) hq q1 q2
  · cases rr with
    | error er => exact passAt tks σ pins _ _ er s2 J hq2
    | ok fl =>
      cases fl with
      | ret u =>
        obtain ⟨v, H3, I3, r3, ev, q3⟩ := J.after hq2
        subst ev
        exact ⟨r3, ⟨V.ref (s.heap.objs.size + 1), H3, I3, rfl, q3⟩⟩
      | next => exact hq2.elim
      | brk => exact hq2.elim
      | cont => exact hq2.elim
def tNwS (C : Addr) (m : Nat) (sp : Sp) (gV : List V → List V → List V) (W : WX) (ta tk : TA) : TE := fun σ H Q => ta σ H fun xs H1 => tk σ H1 fun zs H2 => zs.length = m ∧ gNwS C sp gV W σ xs zs H2 Q
/-- C(*y, k = v, ..) -/
def tNwSs (K : PySem.W.Frag) (C : Addr) (m : Nat) (sp : Sp) (gV : List V → List V → List V) (W : WX) (te : TE) (tk : TA) : TE := fun σ H Q => te σ H fun y H1 => tk σ H1 fun zs H2 => zs.length = m ∧ ∃ a xs, y = .ref a ∧ (SqT K H2 a xs ∨ SqL K H2 a xs) ∧ gNwS C sp gV W σ xs zs H2 Q
/-- .. the class held by the slot i -/
def tAt (i : Nat) (C : Addr) (t : TE) : TE := fun σ H Q => σ[i]? = some (some (.ref C)) ∧ t σ H Q
theorem pe_nwS0 (M : Mk X.K C f) (F : Fs X.prog X.w X.K X.mg X.base k f fd ps pv sp) (hr : Rm (k + 1) X.A) (hg : Gl X x) (hm : X.mg x = some (.ref C)) (hb : KSn X.K fd ps pv 1 [] g gV) (hps : ∀ (a : V) (zs : List V), zs.length = 0 → (gV [a] zs).length = ps.length) (tks : Takes X W) (hdb : (x == ("__debug__" : Str)) = false := by decide) :
    PE X (.Call (.Name x p) [] [] pos) (tNwS C 0 sp gV W tNil tNil) := by
  refine ⟨fun pins s σ H Q I h => wpAny_Call_Name_kw (ld_glob I hg hm ?_ hdb)⟩
  exact PySem.W.callWith_K0 I.kIn M.kp (run_nwS (rs := []) (ws := []) M F hr tks I hb (fun a => hps a [] rfl) .nil .nil rfl h.2)
theorem pe_nwS (M : Mk X.K C f) (F : Fs X.prog X.w X.K X.mg X.base k f fd ps pv sp) (hr : Rm (k + 1) X.A) (hg : Gl X x) (hm : X.mg x = some (.ref C)) (hb : KSn X.K fd ps pv 1 [] g gV) (hps : ∀ (a : V) (zs : List V), zs.length = 0 → (gV [a] zs).length = ps.length) (tks : Takes X W)
    (ha : PA X (e :: es) ta) (hdb : (x == ("__debug__" : Str)) = false := by decide) (he : starEach (e :: es) X.env = (false, eval e X.env) :: starEach es X.env := by rfl) (hpl : (backTo pos (starEach es X.env)).any (·.1) = false := by rfl) :
    PE X (.Call (.Name x p) (e :: es) [] pos) (tNwS C 0 sp gV W ta tNil) := by
  refine ⟨fun pins s σ H Q I h => wpAny_Call_Name_kw (ld_glob I hg hm ?_ hdb)⟩
  refine PySem.W.callWith_K (h₀ := X.base) I.ok.mod.kin M.kp (thn (ha.run pos pins s σ H _ I h) fun us s1 ⟨xs, H1, I1, r1, q1⟩ => ⟨I1.kIn, ?_⟩) he hpl
  exact run_nwS (rs := us) (ws := []) M F hr tks I1 hb (fun a => hps a [] rfl) r1 .nil rfl q1.2
theorem pe_nwSK (M : Mk X.K C f) (F : Fs X.prog X.w X.K X.mg X.base k f fd ps pv sp) (hr : Rm (k + 1) X.A) (hg : Gl X x) (hm : X.mg x = some (.ref C)) (hb : KSn X.K fd ps pv 1 ks g gV) (hps : ∀ (a : V) (zs : List V), zs.length = ks.length → (gV [a] zs).length = ps.length) (tks : Takes X W)
    (ha : PA X (e :: es) ta) (hkw : PK X kws tk) (hall : (backToKw pos (keywordEach kws X.env)).all (·.1.isSome) = true := by rfl) (hks : (backToKw pos (keywordEach kws X.env)).filterMap (·.1) = ks := by rfl) (hmm : ks.length = mm := by rfl) (hdb : (x == ("__debug__" : Str)) = false := by decide)
    (he : starEach (e :: es) X.env = (false, eval e X.env) :: starEach es X.env := by rfl) (hpl : ((backTo pos (starEach (e :: es) X.env)).any (·.1) || (backToKw pos (keywordEach kws X.env)).any (·.1.isNone)) = false := by rfl) :
    PE X (.Call (.Name x p) (e :: es) kws pos) (tNwS C mm sp gV W ta tk) := by
  refine ⟨fun pins s σ H Q I h => wpAny_Call_Name_kw (ld_glob I hg hm ?_ hdb)⟩
  refine PySem.W.callWith_KW (h₀ := X.base) I.ok.mod.kin M.kp hall (thn (ha.run pos pins s σ H _ I h) fun us s1 ⟨xs, H1, I1, r1, q1⟩ => ?_) hpl he
  refine thn (hkw.run pos pins s1 σ H1 _ I1 q1) fun ws s2 ⟨zs, H2, I2, rz, l2, q2⟩ => ⟨I2.kIn, ?_⟩
  rw [hks]
  subst hmm
  exact run_nwS (rs := us) M F hr tks I2 hb (fun a => hps a zs l2) r1 rz l2 q2
theorem run_nwSs {pins : List (Addr × Obj)} {σ : L2.St} {H : Hp} {s : Shared} {Q : VK} (M : Mk X.K C f) (F : Fs X.prog X.w X.K X.mg X.base k f fd ps pv sp) (hr : Rm (k + 1) X.A) (hb : KSn X.K fd ps pv 1 ks g gV) (hps : ∀ (a : V) (zs : List V), zs.length = ks.length → (gV [a] zs).length = ps.length) (tks : Takes X W)
    (he : PE X e te) (hkw : PK X kws tk) (hst : starEach [.Starred e sps] X.env = [(true, eval e X.env)]) (hall : (backToKw pos (keywordEach kws X.env)).all (·.1.isSome) = true) (hks : (backToKw pos (keywordEach kws X.env)).filterMap (·.1) = ks) (I : Inv X pins σ H s) (h : tNwSs X.K C ks.length sp gV W te tk σ H Q) :
    wpAny (model X.prog X.w) X.A (callWith pos (.ref C) [] (backTo pos (starEach [.Starred e sps] X.env)) (backToKw pos (keywordEach kws X.env))) (EP X pins σ Q) X.xe s := by
  rw [hst]
  refine star_callKw rfl (PySem.W.keeps_K M.kp) (star_kwArgs hall (thn (he.run pins s σ H _ I h) fun v s1 ⟨y, H1, I1, ry, q1⟩ => ?_))
  refine thn (hkw.run pos pins s1 σ H1 _ I1 q1) fun ws s2 ⟨zs, H2, I2, rz, l2, a, xs, ey, hx, q2⟩ => ?_
  subst ey
  obtain rfl : v = Value.ref a := ry
  refine StX.star_any I2 hx fun us s3 I3 rv => ⟨I3.kIn, ?_⟩
  rw [hks]
  exact run_nwS (rs := us) M F hr tks I3 hb (fun a => hps a zs l2) rv rz l2 q2
theorem pe_nwSs (M : Mk X.K C f) (F : Fs X.prog X.w X.K X.mg X.base k f fd ps pv sp) (hr : Rm (k + 1) X.A) (hg : Gl X x) (hm : X.mg x = some (.ref C)) (hb : KSn X.K fd ps pv 1 ks g gV) (hps : ∀ (a : V) (zs : List V), zs.length = ks.length → (gV [a] zs).length = ps.length) (tks : Takes X W)
    (he : PE X e te) (hkw : PK X kws tk) (hst : starEach [.Starred e sps] X.env = [(true, eval e X.env)] := by rfl) (hall : (backToKw pos (keywordEach kws X.env)).all (·.1.isSome) = true := by rfl) (hks : (backToKw pos (keywordEach kws X.env)).filterMap (·.1) = ks := by rfl) (hmm : ks.length = mm := by rfl) (hdb : (x == ("__debug__" : Str)) = false := by decide) :
    PE X (.Call (.Name x p) [.Starred e sps] kws pos) (tNwSs X.K C mm sp gV W te tk) := by
  subst hmm
  exact ⟨fun pins s σ H Q I h => wpAny_Call_Name_kw (ld_glob I hg hm (run_nwSs M F hr hb hps tks he hkw hst hall hks I h) hdb)⟩
/-- .. cls(*y, k = v, ..), cls a local -/
theorem pe_nwSl {i : Nat} (M : Mk X.K C f) (F : Fs X.prog X.w X.K X.mg X.base k f fd ps pv sp) (hr : Rm (k + 1) X.A) (hN : X.N[i]? = some x) (hv : Vis X.env.scope x) (hb : KSn X.K fd ps pv 1 ks g gV) (hps : ∀ (a : V) (zs : List V), zs.length = ks.length → (gV [a] zs).length = ps.length) (tks : Takes X W)
    (he : PE X e te) (hkw : PK X kws tk) (hst : starEach [.Starred e sps] X.env = [(true, eval e X.env)] := by rfl) (hall : (backToKw pos (keywordEach kws X.env)).all (·.1.isSome) = true := by rfl) (hks : (backToKw pos (keywordEach kws X.env)).filterMap (·.1) = ks := by rfl) (hmm : ks.length = mm := by rfl)
    (hdb : (x == ("__debug__" : Str)) = false := by decide) (hcd : (x == ("__classdict__" : Str)) = false := by decide) :
    PE X (.Call (.Name x p) [.Starred e sps] kws pos) (tAt i C (tNwSs X.K C mm sp gV W te tk)) := by
  subst hmm
  refine ⟨fun pins s σ H Q I h => ?_⟩
  obtain ⟨hs, ht⟩ := h
  refine wpAny_Call_Name_kw (thn ((pe_var (pos := p) hN hv hdb hcd).run pins s σ H (fun v H1 => v = .ref C ∧ H1 = H) I ⟨.ref C, hs, rfl, rfl⟩) fun u s1 ⟨v, H1, I1, r1, q1⟩ => ?_)
  obtain ⟨rfl, rfl⟩ := q1
  cases r1
  exact run_nwSs M F hr hb hps tks he hkw hst hall hks I1 ht
end
end SJ

/-! SJU: C.m(a, .., k = v, ..), m a classmethod; keyword-only defaults that lack. -/
namespace SJ
open PySem PySem.Spec PyProof.Rows L2 He
def tCmK (C : Addr) (n l : Nat) (sp : Sp) (gV : List V → List V → List V) (W : WX) (to : TE) (ta tk : TA) : TE := fun σ H Q => to σ H fun x H1 => x = .ref C ∧ ta σ H1 fun vs H2 => tk σ H2 fun zs H3 => vs.length = n ∧ zs.length = l ∧ sp (gV (.ref C :: vs) zs) H3 Q (WE W σ)
section
variable {X : Cx} {k n : Nat} {f C q g0 : Addr} {mc : Value} {fd : FuncData} {ps ks : List Str} {sp : Sp} {W : WX} {m : Str} {apos pos : Pos} {o e : Expr} {es : List Expr} {kws : List Keyword} {to : TE} {ta tk : TA} {g : List Value → List Value → List Value} {gV : List V → List V → List V} {mm : Nat} {pl : Sem Bool}
/-- the call of a bound record -/
theorem run_met {pins : List (Addr × Obj)} {σ : L2.St} {H : Hp} {s : Shared} {Q : VK} {us ws : List Value} {vs zs : List V} {p : Addr} (F : Fk X.prog X.w X.K X.mg X.base k f fd ps sp) (hr : Rm k X.A) (hb : KBn X.K fd ps (n + 1) ks g gV) (tks : Takes X W)
    (I : Inv X ((p, PySem.W.methodObj (.ref f) (.ref C)) :: pins) σ H s) (rv : Vals vs us) (rz : Vals zs ws) (l1 : vs.length = n) (l2 : zs.length = ks.length) (h : sp (gV (.ref C :: vs) zs) H Q (WE W σ)) :
    wpAny (model X.prog X.w) X.A (call (.ref p) us (ks.zip ws)) (EP X pins σ Q) X.xe s := by
  have rs : Vals (V.ref C :: vs) (Value.ref C :: us) := .cons rfl rv
  have z : wpAny (model X.prog X.w) X.A (call (.ref p) us (ks.zip ws)) (EP X ((p, PySem.W.methodObj (.ref f) (.ref C)) :: pins) σ Q) X.xe s := by
    refine wpAny_call (PySem.W.method_call (ClX.pin_at I) ?_)
    refine codeAny_mono (F.run X.A X.stack s H ⟨Value.ref C :: us, ks.zip ws⟩ _ _ Q (WE W σ) hr I.env0 (hb.to s (.ref C :: us) ws I.kIn (by rw [List.length_cons, ← rv.length, l1]) (rz.length.symm.trans l2)) (hb.rel rs rz) h) fun rr s2 hq => ?_
    cases rr with
    | error er => exact passAt tks σ _ H s er s2 I hq
    | ok fl =>
      cases fl with
      | ret u => exact I.after hq
      | next => exact hq.elim
      | brk => exact hq.elim
      | cont => exact hq.elim
  exact thn z fun _ _ y => ClX.unpinE y
theorem pe_cmK (ho : PE X o to) (r : ClX.CRead X.K C mc) (c : ClX.CMet X.K C mc m g0 f) (F : Fk X.prog X.w X.K X.mg X.base k f fd ps sp) (hr : Rm k X.A) (hb : KBn X.K fd ps (n + 1) ks g gV) (tks : Takes X W) (ha : PA X (e :: es) ta) (hkw : PK X kws tk)
    (hall : (backToKw pos (keywordEach kws X.env)).all (·.1.isSome) = true := by rfl) (hks : (backToKw pos (keywordEach kws X.env)).filterMap (·.1) = ks := by rfl) (hmm : ks.length = mm := by rfl) (he : starEach (e :: es) X.env = (false, eval e X.env) :: starEach es X.env := by rfl)
    (hpl : ((backTo pos (starEach (e :: es) X.env)).any (·.1) || (backToKw pos (keywordEach kws X.env)).any (·.1.isNone)) = false := by rfl) (ht : eval (.Call (.Attribute o m apos) (e :: es) kws pos) X.env = mcl X o m apos pl pos (e :: es) kws := by rfl) :
    PE X (.Call (.Attribute o m apos) (e :: es) kws pos) (tCmK C n mm sp gV W to ta tk) := by
  refine ⟨fun pins s σ H Q I h => ?_⟩
  refine PySem.W.methodCall_KW (pl := pl) (thn (ho.run pins s σ H _ I h) fun u s1 ⟨y, H1, I1, ry, ey, q1⟩ => ?_) ht
  subst ey
  obtain rfl : u = Value.ref C := ry
  refine ClX.getmethcm_ok I1 r c fun s2 I2 => ?_
  refine PySem.W.callWith_of hpl (PySem.W.keeps_M (self := .ref C) c.fi) (PyProof.Rows.evalArgs_kw2 hall (thn (ha.run pos _ s2 σ H1 _ I2 q1) fun us s3 ⟨vs, H2, I3, rv, q2⟩ => ?_) he)
  refine thn (hkw.run pos _ s3 σ H2 _ I3 q2) fun ws s4 ⟨zs, H3, I4, rz, l1, l2, q3⟩ => ⟨⟨ClX.pin_at I4, I4.kIn⟩, ?_⟩
  rw [hks]
  subst hmm
  exact run_met F hr hb tks I4 rv rz l1 l2 q3
end
end SJ

/-! SJZ: x in o, x not in o, o[x] by the class's own defs. -/
namespace SJ
open PySem PySem.Spec PyProof.Rows L2 He
def rOwnIn (K : PySem.W.Frag) (g : Addr) (sp : Sp) (neg : Bool) : R2 := fun x y H Q => ∃ a C dx fs, y = .ref a ∧ H a = some (.ins C dx fs) ∧ PySem.W.findIn K (.ref C) "__contains__" = some (some (.ref g)) ∧
  sp [.ref a, x] H (fun v H2 => ∃ c, v = .bl c ∧ Q (.bl (if neg then !c else c)) H2) E0
def rOwnGet (K : PySem.W.Frag) (g : Addr) (sp : Sp) (W : WX) (σ : L2.St) : R2 := fun x y H Q => ∃ a C dx fs, x = .ref a ∧ H a = some (.ins C dx fs) ∧ PySem.W.findIn K (.ref C) "__getitem__" = some (some (.ref g)) ∧ sp [.ref a, y] H Q (WE W σ)
section
variable {X : Cx} {k : Nat} {f : Addr} {fd : FuncData} {ps : List Str} {sp : Sp}
theorem o_ownIn (F : Fk X.prog X.w X.K X.mg X.base k f fd ps sp) (hr : Rm k X.A) (hf : PySem.W.isFn X.K (.ref f) = true) (hb : Binds X.K fd ps []) : OpR X (compareOp .In) (rOwnIn X.K f sp false) := by
  intro pins s σ H x y v u Q I rx ry h
  obtain ⟨a, C, dx, fs, rfl, ha, he, hs⟩ := h
  obtain rfl : u = Value.ref a := ry
  obtain ⟨mA, J, _⟩ := ins_get I.hok ha
  obtain ⟨od, J, _⟩ := J.look
  obtain ⟨m, hF⟩ := I.fr
  refine PySem.W.in_K hF I.ok.mod.kin J he hf (wpAny_mono (run_at F hr rfl hb I (.cons (show RelV (.ref a) (.ref a) from rfl) (.cons rx .nil)) hs) (fun w s2 q => ?_) fun _ _ z => z)
  obtain ⟨z, H2, I2, r2, c, rfl, q2⟩ := q
  obtain rfl : w = Value.bool c := r2
  exact wpAny_truthy_bool ⟨.bl c, H2, I2, rfl, q2⟩
theorem o_ownNin (F : Fk X.prog X.w X.K X.mg X.base k f fd ps sp) (hr : Rm k X.A) (hf : PySem.W.isFn X.K (.ref f) = true) (hb : Binds X.K fd ps []) : OpR X (compareOp .NotIn) (rOwnIn X.K f sp true) := by
  intro pins s σ H x y v u Q I rx ry h
  obtain ⟨a, C, dx, fs, rfl, ha, he, hs⟩ := h
  obtain rfl : u = Value.ref a := ry
  obtain ⟨mA, J, _⟩ := ins_get I.hok ha
  obtain ⟨od, J, _⟩ := J.look
  obtain ⟨m, hF⟩ := I.fr
  refine PySem.W.notIn_K hF I.ok.mod.kin J he hf (wpAny_mono (run_at F hr rfl hb I (.cons (show RelV (.ref a) (.ref a) from rfl) (.cons rx .nil)) hs) (fun w s2 q => ?_) fun _ _ z => z)
  obtain ⟨z, H2, I2, r2, c, rfl, q2⟩ := q
  obtain rfl : w = Value.bool c := r2
  exact wpAny_truthy_bool ⟨.bl (!c), H2, I2, rfl, q2⟩
/-- o[e], the class's own __getitem__, which may raise -/
def tOwnGet (K : PySem.W.Frag) (g : Addr) (sp : Sp) (W : WX) (ta tb : TE) : TE := fun σ H Q => ta σ H fun x H1 => tb σ H1 fun y H2 => ∃ a C dx fs, x = .ref a ∧ H2 a = some (.ins C dx fs) ∧ PySem.W.findIn K (.ref C) "__getitem__" = some (some (.ref g)) ∧ sp [x, y] H2 Q (WE W σ)
theorem pe_ownGet {a b : Expr} {ta tb : TE} {pos : Pos} {W : WX} (F : Fk X.prog X.w X.K X.mg X.base k f fd ps sp) (hr : Rm (k + 1) X.A) (hf : PySem.W.fnIn X.K f = true) (hfn : PySem.W.isFn X.K (.ref f) = true) (hb : Binds X.K fd ps []) (tks : Takes X W) (ha : PE X a ta) (hbb : PE X b tb)
    (hsl : ∀ (v u : Value), subscripted b true v u = runValue (.builtin "lifetime.subscript" ⟨[v, u], []⟩) := by intro _ _; with_unfolding_all rfl) : PE X (.Subscript a b pos) (tOwnGet X.K f sp W ta tb) := by
  refine ⟨fun pins s σ H Q I h => Subscript_ (thn (ha.run pins s σ H _ I h) fun v s1 ⟨x, H1, I1, rx, q1⟩ => thn (hbb.run pins s1 σ H1 _ I1 q1) fun u s2 ⟨y, H2, I2, ry, q2⟩ => ?_)⟩
  obtain ⟨c, C, dx, fs, rfl, hc, he, hs⟩ := q2
  obtain rfl : v = Value.ref c := rx
  obtain ⟨mA, J, _⟩ := ins_get I2.hok hc
  obtain ⟨od, J, _⟩ := J.look
  obtain ⟨m, hF⟩ := I2.fr
  have rv : Vals [V.ref c, y] [Value.ref c, u] := .cons rfl (.cons ry .nil)
  have hl : [Value.ref c, u].length = ps.length := by rw [← rv.length]; exact F.len _ _ _ _ hs
  have bb := hb s2 [Value.ref c, u] I2.kIn (by rw [List.append_nil]; exact hl)
  rw [List.append_nil] at bb
  have e0 := I2.env0
  refine PySem.W.sub_K hF I2.ok.mod.kin J he hf hfn (wpAny_call (codeAny_mono (F.run _ X.stack s2 H2 ⟨[Value.ref c, u], []⟩ _ _ Q (WE W σ) hr.in1 ⟨e0.frames, e0.mod, e0.bs, e0.bsz, e0.funs, e0.frf, e0.hok, e0.bare⟩ bb rv hs) fun rr s3 hq => ?_)) (hsl _ _)
  cases rr with
  | error er => exact passAt tks σ pins H2 s2 er s3 I2 hq
  | ok fl =>
    cases fl with
    | ret w => exact I2.after hq
    | next => exact hq.elim
    | brk => exact hq.elim
    | cont => exact hq.elim
end
end SJ

/-! SJM: (x, ..) * 1, (x, ..) * 0. -/
namespace SJ
open PySem PySem.Spec PyProof.Rows L2 He
theorem tuple_mul1 (l : Addr) (items : Array Value) (n : Nat) (dd : Option Addr) (sl : Array (Option Value)) (u : Tok) :
    Meets (Builtin.«tuple.__mul__» ⟨[.ref l, .int 1 u], []⟩) (fun _ R s => s.heap.get? l = some { cls := .type "tuple", dict := dd, data := .seq items n, slots := sl } ∧ R (.ok (.ret (Value.ref l))) s) :=
  .of_wp fun prog w A R s h => by
    obtain ⟨hp, g, d, tk, os⟩ := s
    obtain ⟨hl, h⟩ := h
    have f1 := AutoSeq1.idx_int
    wp_walk using wpAny_loadPart' hl
    exact ⟨_, rfl, h⟩
theorem tuple_mul0 (l : Addr) (items : Array Value) (n : Nat) (dd : Option Addr) (sl : Array (Option Value)) (u : Tok) (hi : items.isEmpty = false) :
    Meets (Builtin.«tuple.__mul__» ⟨[.ref l, .int 0 u], []⟩) (fun _ R s => s.heap.get? l = some { cls := .type "tuple", dict := dd, data := .seq items n, slots := sl } ∧
      R (.ok (.ret (Value.ref s.heap.objs.size))) { s with heap := s.heap.push { cls := Value.type "tuple", data := Data.seq #[] }, toks := s.toks }) :=
  .of_wp fun prog w A R s h => by
    obtain ⟨hp, g, d, tk, os⟩ := s
    obtain ⟨hl, h⟩ := h
    have f1 := AutoSeq1.idx_int
    have c1 : (items.isEmpty || (0 : Int) == 1) = false := by rw [hi]; rfl
    wp_walk using wpAny_loadPart' hl
    repeat (first
      | (refine wpAny_ite_false (decide_eq_false (by rw [c1]; exact Bool.false_ne_true)) ?_; wp_walk using wpAny_loadPart' hl))
    exact ⟨_, rfl, h⟩
/-- (x, ..) * 0 or 1 -/
def rRep01 (K : PySem.W.Frag) : R2 := fun x y H Q => ∃ l xs, x = .ref l ∧ SqT K H l xs ∧ xs ≠ [] ∧ ((y = .int 1 ∧ Q (.ref l) H) ∨ (y = .int 0 ∧ ∀ p, H p = none → Q (.ref p) (upd H p (.tup []))))
theorem op_rep01 {X : Cx} : OpR X (binaryOp .Mult) (rRep01 X.K) := by
  intro pins s σ H x y v u Q I rx ry h
  obtain ⟨l, xs, rfl, hT, hne, h⟩ := h
  cases rx
  obtain ⟨its, r, ⟨⟨cls, dd, data, sl⟩, ho, hc, n, hd⟩, hs⟩ := I.tuple hT
  simp only at hc hd
  subst hc hd
  have hi : its.toArray.isEmpty = false := by
    cases its with
    | nil => exact absurd (List.eq_nil_of_length_eq_zero (by rw [r.length]; rfl)) hne
    | cons a b => rfl
  rcases h with ⟨rfl, q⟩ | ⟨rfl, q⟩
  · obtain ⟨t, rfl⟩ := ry
    exact wpAny_binaryOp_repeat_ref (T := "tuple") (U := "int") (by decide) ⟨_, ho, rfl⟩ (fun s' => typeIs_int s' 1 t) noFill_tuple_mul F.fills_int_mul F.slot_int_rmul repeat_tuple F.slot_int_index.lookup
      (call_meets F.slot_int_rmul (typeIs_int s 1 t) F.entry_int_rmul (F.args_int_rmul_2 _ _) (int_rmul_tuple 1 t l its.toArray n dd sl)
        ⟨ho, rfl, ⟨_, ho, rfl⟩, call_meets F.slot_tuple_mul ⟨_, ho, rfl⟩ F.entry_tuple_mul (F.args_tuple_mul_2 _ _) (tuple_mul1 l its.toArray n dd sl t) ⟨ho, .ref l, H, I, rfl, q⟩⟩)
  · obtain ⟨t, rfl⟩ := ry
    refine wpAny_binaryOp_repeat_ref (T := "tuple") (U := "int") (by decide) ⟨_, ho, rfl⟩ (fun s' => typeIs_int s' 0 t) noFill_tuple_mul F.fills_int_mul F.slot_int_rmul repeat_tuple F.slot_int_index.lookup
      (call_meets F.slot_int_rmul (typeIs_int s 0 t) F.entry_int_rmul (F.args_int_rmul_2 _ _) (int_rmul_tuple 0 t l its.toArray n dd sl)
        ⟨ho, rfl, ⟨_, ho, rfl⟩, call_meets F.slot_tuple_mul ⟨_, ho, rfl⟩ F.entry_tuple_mul (F.args_tuple_mul_2 _ _) (tuple_mul0 l its.toArray n dd sl t hi) ⟨ho, ?_⟩⟩)
    refine ⟨.ref s.heap.objs.size, _, I.laid (t' := s.toks) (o := .tup []) (fun b ob q => Heap.get?_push_of_some _ q) (Nat.le_refl _) ?_, rfl, q _ (I.hok.fresh (Nat.le_refl _))⟩
    exact ⟨Nat.zero_le _, [], .nil, IsTup.new _ _⟩
end SJ

/-! SJ1: sorted(xs, key=lambda x: x.f), xs a tuple or a list of instances. -/
namespace SJ
open PySem PySem.Spec PySem.W PySem.Calls PyProof.Rows L2 LamX
section
variable {prog : Program} {w : World} {A : Around} {E : Value → Shared → Prop} {s : Shared} {β : Type} {vs : List Value} {bs : List β} {R : Value → β → Prop}
/-- sorted(xs, key=f), xs any list or tuple -/
theorem sortedU {T : String} {o : Obj} {n : Nat} {l f : Addr} {Q : Value → Shared → Prop} (k : β → PyData) (hT : T = "list" ∨ T = "tuple") (ho : s.heap.get? l = some o) (hc : o.cls = .type T) (hd : o.data = .seq vs.toArray n) (e : EachIs R vs bs) (hal : AllAlike (bs.map k)) (hk : Sortable (bs.map k)) (hL : bs.length ≤ sizeLine)
    (hu : ∀ x, x ∈ bs → A.units + 2 + (k x).depth < cLine)
    (turn : ∀ (v : Value) (x : β), R v x → x ∈ bs → ∀ (h : Heap) (tk : Nat), (∀ b o, s.heap.get? b = some o → h.get? b = some o) →
      wpAny (model prog w) A.in1.in1 (call (.ref f) [v]) (KeyPure (k x) { s with heap := h, toks := tk }) (fun _ _ => False) { s with heap := h, toks := tk })
    (h : ∀ (h1 : Heap) (out : List Value) (c : Nat) (h' : Heap) (tk : Nat), (∀ b o, s.heap.get? b = some o → h1.get? b = some o) → (∀ b o, h1.get? b = some o → h'.get? b = some o) → h'.get? h1.objs.size = some (seqObj "list" (List.toArray out) c) → out.length = bs.length → EachIs R out (bs.mergeSort (dataLe false k)) →
      Q (.ref h1.objs.size) { s with heap := h', toks := tk }) :
    wpAny (model prog w) A (call (.builtin "sorted") [.ref l] [(Str.ofString "key", .ref f)]) Q E s := by
  have hv : vs.length ≤ sizeLine := by rw [e.length]; exact hL
  refine call_function_entry_kw kind_sorted plain_sorted entry_sorted (ksk_s1 _ _) ?_
  unfold Builtin.«sorted»
  refine wpAny_bind (m := checkCount "sorted" 1 1 _) (wpAny_pure ?_)
  refine wpAny_bind (wpAny_collect_seq l hT ho hc hd (fun h1 hk1 => ?_) (by rw [List.size_toArray]; exact hv))
  have e0 : vs.toArray.toList = vs := by simp
  rw [e0]
  refine wpAny_bind (wpAny_newList ?_ hv)
  have at1 : (h1.push (seqObj "list" vs.toArray 0)).get? h1.objs.size = some (seqObj "list" vs.toArray 0) := Heap.get?_push_size _ rfl
  have old : ∀ b o, s.heap.get? b = some o → (h1.push (seqObj "list" vs.toArray 0)).get? b = some o := fun b o q => Heap.get?_push_of_some _ (hk1 b o q)
  refine wpAny_bind (wpAny_holding (wpAny_call_entry_kw slot_list_sort ⟨_, at1, rfl⟩ entry_list_sort ?body (ksk_l1 _ _)))
  case body =>
    show wpAny (model prog w) A.in1.in1 (Builtin.«list.sort» ⟨[.ref h1.objs.size], [(Str.ofString "key", .ref f)]⟩) _ _ _
    rw [ksk_t1]
    refine keyH_tree (kz := bs.map k) at1 (by rw [List.length_map]; exact e.length.symm) hv hal hk (bound_map (A := A.in1.in1) hu)
      (keyH_turns (s := { s with heap := h1.push (seqObj "list" vs.toArray 0) }) e fun v x hR hx h tk kp => turn v x hR hx h tk fun b o q => kp b o (Nat.ne_of_lt (Heap.lt_size (hk1 b o q))) (old b o q)) fun h' tk out c kp hD ko => ?_
    refine ⟨_, rfl, wpAny_pure ⟨_, rfl, ?_⟩⟩
    exact h h1 out c h' tk hk1 (fun b o q => kp b o (Nat.ne_of_lt (Heap.lt_size q)) (Heap.get?_push_of_some _ q)) hD ((ko.length (by rw [List.length_map]; exact e.length.symm)).trans e.length) (keyedOut_each k ko e)
end
/-! ### the rule -/
def sortV (xs : List V) (zs : List Str) : List V := ((xs.zip zs).mergeSort (dataLe false fun q => PyData.str q.2)).map (·.1)
/-- an instance with the text z as its f -/
def HasS (K : Frag) (H : Hp) (f : Str) (v : V) (z : Str) : Prop := ∃ b C dx fs, v = .ref b ∧ H b = some (.ins C dx fs) ∧ Cls K C ∧ NoAttr K C f ∧ fs.lookup f = some (.str z)
def gSortA (K : Frag) (T : List (Addr × Str)) (f : Str) (Q : VK) (y : V) (H1 : Hp) : Prop := Tabs T H1 ∧ ∃ a xs zs, y = .ref a ∧ (SqT K H1 a xs ∨ SqL K H1 a xs) ∧ xs.length ≤ 1000 ∧ Paired (HasS K H1 f) xs zs ∧
  ∀ H2 p, ExtN H1 H2 → Tabs T H2 → H2 p = none → Q (.ref p) (upd H2 p (.lst (sortV xs zs)))
def tSortA (K : Frag) (T : List (Addr × Str)) (f : Str) (ta : TA) : TE := fun σ H Q => ta σ H fun vs H1 => ∃ y, vs = [y] ∧ gSortA K T f Q y H1
theorem each_vals {vs : List V} {us : List Value} {zs : List Str} (r : Vals vs us) (h : vs.length = zs.length) : EachIs (fun (u : Value) (q : V × Str) => RelV q.1 u) us (vs.zip zs) := by
  induction vs generalizing us zs with
  | nil => cases r; exact .nil
  | cons v vs ih =>
    cases r with
    | cons a b =>
      cases zs with
      | nil => cases h
      | cons z zs => exact .cons a (ih b (Nat.succ.inj h))
theorem vals_each {us : List Value} {qs : List (V × Str)} (h : EachIs (fun (u : Value) (q : V × Str) => RelV q.1 u) us qs) : Vals (qs.map (·.1)) us := by
  induction qs generalizing us with
  | nil => cases h; exact .nil
  | cons q qs ih =>
    cases h with
    | cons a b => exact .cons a (ih b)
theorem paired_mem {α β : Type} {R : α → β → Prop} {xs : List α} {ys : List β} (h : Paired R xs ys) : ∀ q ∈ xs.zip ys, R q.1 q.2 := by
  induction xs generalizing ys with
  | nil => intro q m; cases m
  | cons x xs ih =>
    cases h with
    | cons a b =>
      intro q m
      rcases List.mem_cons.mp m with rfl | m
      · exact a
      · exact ih b q m
theorem lookup_self {β : Type} (x : Str) (v : β) (l : List (Str × β)) : List.lookup x ((x, v) :: l) = some v := by rw [List.lookup_cons, beq_self_eq_true]
theorem paired_mono {α β : Type} {R S : α → β → Prop} {xs : List α} {ys : List β} (h : Paired R xs ys) (k : ∀ x y, R x y → S x y) : Paired S xs ys := by
  induction xs generalizing ys with
  | nil => cases h; exact .nil
  | cons x xs ih =>
    cases h with
    | cons a b => exact .cons (k _ _ a) (ih b)
theorem rd_ext {H H2 : Hp} {a : Addr} {u : HO} (e : ExtN H H2) (hu : ∀ ps, u ≠ .tbl ps) (h : Rd H a u) : Rd H2 a u := by
  rcases h with h | ⟨o, h⟩
  · exact .inl (e _ _ h hu)
  · exact .inr ⟨o, e _ _ h fun ps q => nomatch q⟩
theorem sqt_ext {K : Frag} {H H2 : Hp} {a : Addr} {xs : List V} (e : ExtN H H2) (h : SqT K H a xs) : SqT K H2 a xs := by
  rcases h with h | h
  · exact .inl (rd_ext e (fun ps q => nomatch q) h)
  · exact .inr h
theorem sql_ext {K : Frag} {H H2 : Hp} {a : Addr} {xs : List V} (e : ExtN H H2) (h : SqL K H a xs) : SqL K H2 a xs := by
  rcases h with h | h
  · exact .inl (rd_ext e (fun ps q => nomatch q) h)
  · exact .inr h
section
variable {X : Cx} {T : List (Addr × Str)} {f x : Str} {e : Expr} {te : TE} {c P : Addr} {p pos lpos npos apos kpos : Pos} {params : Arguments} {scope : Scope}
/-- the key's call -/
theorem key_call {prog : Program} {w : World} {A : Around} {s : Shared} {K : Frag} {H : Hp} {fa c' : Addr} {qual : Str} {cl : List (Str × Addr)} {pm ctv v : Value} {y : V} {z : Str} (kin : K.In s.heap) (hok : HOk prog w H s.heap) (lim : s.heap.NoLimit) (hroom : A.depth < recursionLimit)
    (ho : s.heap.get? fa = some (kla_obj "<lambda>" qual params (.Attribute (.Name x npos) f apos) scope cl pm c' ctv)) (hcd : s.heap.CodeRec (.ref c') qual) (hb : ∀ fd : FuncData, fd.params = params → fd.defaults = .none → fd.kwdefaults = .none → bindArgs fd ⟨[v], []⟩ = pure [(x, v)])
    (hsc : scope.names = [(x, .local)]) (hk : scope.kind = .function) (hg : scope.isGenerator = false) (hc : scope.isCoroutine = false) (hd : (x == ("__debug__" : Str)) = false)
    (rv : RelV y v) (hs : HasS K H f y z) :
    wpAny (model prog w) A (call (.ref fa) [v]) (KeyPure (.str z) s) (fun _ _ => False) s := by
  refine wpAny_call ?_
  refine kla_callFunE hroom ho rfl hc hg rfl hcd ?_
  rw [hb _ rfl rfl rfl]
  have l1 : scope.names.lookup x = some .local := by rw [hsc]; exact lookup_self x NameKind.local []
  refine wpAny_pure (wpAny_newFunctionEnv (by rw [hsc]; intro y m; rcases List.mem_singleton.mp m with rfl; exact fun q => nomatch q) (by intro y m; rcases List.mem_singleton.mp m with rfl; exact l1) (fun h₁ hns hsb => ⟨lim.fresh _ hsb, ?_⟩) hk)
  have hk₁ : ∀ b o, s.heap.get? b = some o → h₁.get? b = some o := fun b o e => hsb.extBut b o (Nat.ne_of_lt (Heap.lt_size e)) (Heap.get?_push_of_some _ e)
  obtain ⟨b, C, dx, fs, rfl, hb1, cl, na, hl⟩ := hs
  obtain rfl : v = Value.ref b := rv
  obtain ⟨mA, Om, r, _, _, _⟩ := ins_get (hok.kept hk₁) hb1
  obtain ⟨u, hu, ru⟩ := RelO.some_of (v := .str z) (o := mA f) (by rw [← hl]; exact r f)
  obtain ⟨tk, rfl⟩ := ru
  refine kla_codeExpr (attr_of rfl (wpAny_Name (wpAny_loadName_local hk l1 hns (lookup_self x (Value.ref b) []) ?_) hd))
  refine get_map (fun c o e => hk₁ c o (kin c o e)) Om (cl.get f) cl.hd na hu rfl ?_
  exact ⟨h₁, _, rfl, hk₁, .str _ _⟩
/-- sorted(e, key=lambda x: x.f) -/
theorem pe_sortA {k : Nat} {ta : TA} (ha : PA X [e] ta) (hr : Rm (k + 3) X.A) (hg : Gl X "sorted") (hm : X.mg "sorted" = none) (TB : TabB X.base X.mg c P) (hcode : X.env.code = .ref c) (hT : (P, X.env.qual ++ "<lambda>") ∈ T) (hu : ∀ p ∈ T, p.1 = P → p.2 = X.env.qual ++ "<lambda>")
    (hdef : defaultsOf params X.env = ([], [])) (hb : ∀ (v : Value) (fd : FuncData), fd.params = params → fd.defaults = .none → fd.kwdefaults = .none → bindArgs fd ⟨[v], []⟩ = pure [(x, v)])
    (hsc : scope.names = [(x, .local)]) (hk : scope.kind = .function) (hgn : scope.isGenerator = false) (hco : scope.isCoroutine = false) (hd : (x == ("__debug__" : Str)) = false) (hs : starEach [e] X.env = [(false, eval e X.env)] := by rfl) :
    PE X (.Call (.Name "sorted" p) [e] [⟨some "key", .Lambda params (.Attribute (.Name x npos) f apos) scope lpos, kpos⟩] pos) (tSortA X.K T f ta) := by
  refine ⟨fun pins s σ H Q I h => ?_⟩
  refine wpAny_Call_Name_kw (ld_blt I hg hm rfl ?_ (by decide) (by decide))
  have e1 : backTo pos (starEach [e] X.env) = (false, eval e X.env) :: backTo pos (starEach [] X.env) := by rw [hs]; rfl
  have e2 : (backTo pos (starEach [e] X.env)).any (·.1) = false := by rw [e1]; rfl
  refine PyProof.Rows.callWith_kw (thn (ha.run pos pins s σ H _ I h) fun us s1 ⟨vs, H1, I1, r1, y, ey, q1⟩ => ?_) e1 e2 rfl rfl
  · subst ey
    obtain ⟨u1, rfl, ru⟩ := vals1 r1
    obtain ⟨tb, a, xs, zs, rfl, hx, hl, hp, q⟩ := q1
    obtain rfl : u1 = Value.ref a := ru
    show wpAny _ _ (evalAll [do let v ← eval (.Lambda params (.Attribute (.Name x npos) f apos) scope lpos) X.env; standAt pos; pure v]) _ _ s1
    refine wpAny_evalAll_cons (wpAny_bind (lam_make2 I1 TB hcode hT hu tb hdef (by rw [hsc]; intro y m z; rcases List.mem_singleton.mp m with rfl; cases z) fun fa c' pm ctv H2 s2 I2 xn tb2 hf hfn hfr hc => wpAny_bind (wpAny_standAt (wpAny_pure (wpAny_evalAll_nil ?_)))))
    have hp2 : Paired (HasS X.K H2 f) xs zs := paired_mono hp fun v z ⟨b, C, dx, fs, e, hb, r⟩ => ⟨b, C, dx, fs, e, xn _ _ hb (fun ps q => nomatch q), r⟩
    have hx2 : ∃ (T : String) (o : Obj) (its : List Value) (n : Nat), (T = "list" ∨ T = "tuple") ∧ s2.heap.get? a = some o ∧ o.cls = .type T ∧ o.data = .seq its.toArray n ∧ Vals xs its := by
      rcases hx with hx | hx
      · obtain ⟨its, r, ⟨o, ho, hc, n, hd⟩, _⟩ := I2.tuple (sqt_ext xn hx)
        exact ⟨_, o, its, n, .inr rfl, ho, hc, hd, r⟩
      · obtain ⟨its, r, pl, _⟩ := I2.list (sql_ext xn hx)
        obtain ⟨o, ho, hc, n, hd⟩ := pl.isList
        exact ⟨_, o, its, n, .inl rfl, ho, hc, hd, r⟩
    obtain ⟨Ty, o, its, n, hTy, ho, hc2, hd2, rv⟩ := hx2
    have hlz : xs.length = zs.length := Paired.length hp
    have hzl : (xs.zip zs).length = xs.length := by rw [List.length_zip, ← hlz, Nat.min_self]
    have un := hr.r.un
    refine sortedU (k := fun q : V × Str => PyData.str q.2) hTy ho hc2 hd2 (each_vals rv hlz) (AllAlike.of fun _ _ => by simp [alike, alikeAll]) (Sortable.others fun _ => ⟨(fun z => nomatch z), fun _ z => nomatch z⟩) (by rw [hzl]; exact Nat.le_trans hl (by decide)) (fun q _ => ?_) (fun v q hR hm h tk kp => ?_) (fun h1 out c2 h' tk k1 k2 hD hlen eo => ?_)
    · simp only [PyData.depth]
      omega
    · have I3 : Inv X pins σ H2 { s2 with heap := h, toks := tk } := I2.kept kp
      exact key_call (s := { s2 with heap := h, toks := tk }) I3.kIn I3.hok I3.nolimit (show X.A.depth < _ by have := hr.r.dp; omega) (kp _ _ hf) (by
        obtain ⟨⟨oc, us, tq, c1, c3, c4⟩, _⟩ := I3.hok _ _ hc
        exact ⟨c', oc, us, tq, rfl, c1, c3, c4⟩) (hb v) hsc hk hgn hco hd hR (paired_mem hp2 q hm)
    · have I3 : Inv X pins σ H2 { s2 with heap := h1 } := I2.kept k1
      have ro := vals_each eo
      refine ⟨.ref h1.objs.size, _, I3.laid (t' := tk) (h' := h') (o := .lst (sortV xs zs)) k2 (Nat.le_refl _) ⟨?_, out, c2, ro, hD⟩, rfl, q _ _ xn tb2 (I3.hok.fresh (Nat.le_refl _))⟩
      unfold sortV
      rw [List.length_map, List.length_mergeSort, hzl]
      exact Nat.le_trans hl (by decide)
end
end SJ

/-! SJ2: {e for x in xs if ..}, e an int or a text; len of such a set. -/
namespace SJ
open PySem PySem.Spec PySem.W PyProof.Rows L2 PpSet
/-- one more member -/
def addS (S : Key → Bool) (k : Key) : Key → Bool := fun j => S j || decide (j = k)
def addN (S : Key → Bool) (k : Key) (n : Nat) : Nat := if S k = true then n else n + 1
def tScK (P : Program) (w : World) (wi : TI) (g : TG) (tt : TT) (te : TE) (vs : List Nat) : TE := fun σ H Q => wi σ H fun J G0 => ∀ D, G0 D = none → ∃ V0 : Nat → Nat → Hp → Prop, (∃ m, V0 0 m (upd G0 D (SetK P w D (fun _ => false) 0))) ∧ ∀ i m G, V0 i m G →
  (J.stop i G ∧ Q (.ref D) G) ∨ (J.go i G ∧ ∃ V1 : Hp → Prop, (∀ G1, V1 G1 → ∃ m1, m1 < m ∧ V0 (i + 1) m1 G1) ∧ ∀ x G1, J.yld i G x G1 → g x (wipe σ vs) G1 fun τ G2 => wipe τ vs = wipe σ vs ∧ tt τ G2 fun b G3 =>
    if b = true then te τ G3 fun y G4 => ∃ (k : Key) (S : Key → Bool) (n : Nat), y = kV k ∧ G4 D = some (SetK P w D S n) ∧ n + 1 < scanBound ∧ V1 (upd G4 D (SetK P w D (addS S k) (addN S k n))) else V1 G3)
abbrev set0 (X : Cx) : Obj := { cls := .type "set", dict := none, data := .set #[] 0 (.fresh 0 0 (!X.w.params.followText "set-order")) }
section
variable {X : Cx} {pins : List (Addr × Obj)} {σ : L2.St} {H : Hp} {s : Shared}
theorem set0_ok {h : Heap} : (h.push (set0 X)).SetOf (mixKind X.prog X.w) h.objs.size (fun _ => false) 0 := ⟨_, #[], 0, _, Heap.get?_push_size _ rfl, ⟨rfl, rfl, rfl⟩, rfl, (fun e he => by simp at he), (fun k => by simp), (by decide), (by rfl), rfl⟩
theorem add_key {D : Addr} {S : Key → Bool} {n : Nat} {k : Key} {u : Value} {E : Value → Shared → Prop} {Q : Value → Shared → Prop} (I : Inv X pins σ H s) (hD : H D = some (SetK X.prog X.w D S n)) (ru : RelV (kV k) u) (room : n + 1 < scanBound)
    (q : ∀ s2, Inv X pins σ (upd H D (SetK X.prog X.w D (addS S k) (addN S k n))) s2 → Q .none s2) : wpAny (model X.prog X.w) X.A (call (.builtin "set.add") [.ref D, u]) Q E s := by
  refine call_set_add (kV_is ru) (key_scan ru) (setK_get I hD) room fun h2 sb new => q _ ?_
  obtain ⟨ob, _, _, _, hob, _⟩ := id new
  exact I.write (e := D) (t' := s.toks + 1) (by rw [hD]; trivial) (.inl rfl) (fun b u hb hu => (sb.2 b hb).trans hu) ⟨ob, hob⟩ (setK_new new)
/-- the loop of the block, once it stands -/
theorem scK_loop {elt tg iter : Expr} {ifs : List Expr} {scope : Scope} {pos : Pos} {g : TG} {tt : TT} {te : TE} {vs : List Nat} {J : It} {fp : List Addr} {it D : Addr} {tn : Nat → Heap → Prop} {V0 : Nat → Nat → Hp → Prop} {Rs : Result → Shared → Prop} {Y : Cx} {Qd : Hp → Prop} {m0 : Nat} {τ : L2.St} {G : Hp} {s0 : Shared}
    (hY : Y.prog = X.prog ∧ Y.w = X.w ∧ Y.K = X.K ∧ Y.calm = true ∧ Y.A = X.A) (T : Turn X.prog X.w X.K tg J fp it tn) (pg : PG Y tg g) (pt : PTs Y ifs tt) (pe : PE Y elt te) (hτ : τ = wipe σ vs)
    (stat : ∀ {τ2 : L2.St} {G2 : Hp} {s2 : Shared}, Inv Y [] τ2 G2 s2 → (∀ b ∈ fp, G2 b = none) → ∀ b ∈ fp, FpOk Y [] G2 b)
    (turn : ∀ i m G, V0 i m G → (J.stop i G ∧ Qd G) ∨ (J.go i G ∧ ∃ V1 : Hp → Prop, (∀ G1, V1 G1 → ∃ m1, m1 < m ∧ V0 (i + 1) m1 G1) ∧ ∀ x G1, J.yld i G x G1 → g x τ G1 fun τ G2 => wipe τ vs = wipe σ vs ∧ tt τ G2 fun b G3 =>
      if b = true then te τ G3 fun y G4 => ∃ (k : Key) (S : Key → Bool) (n : Nat), y = kV k ∧ G4 D = some (SetK X.prog X.w D S n) ∧ n + 1 < scanBound ∧ V1 (upd G4 D (SetK X.prog X.w D (addS S k) (addN S k n))) else V1 G3))
    (I0 : Inv Y [] τ G s0) (st0 : tn 0 s0.heap) (n0 : ∀ b ∈ fp, G b = none) (w0 : V0 0 m0 G) (fin : ∀ G2 s2, Inv Y [] τ G2 s2 → Qd G2 → Rs (.ok .next) s2) (hxe : ∀ e s, Y.xe e s → False) :
    codeAny (model X.prog X.w) X.A (.compLoop (.SetComp elt [⟨tg, iter, ifs, 0⟩] scope pos) 0 (.ref it) (.ref D) Y.env) Rs s0 := by
  obtain ⟨y1, y2, y3, y4, y5⟩ := hY
  refine compLoopS_any (fun n s2 => ∃ i G2, Inv Y [] τ G2 s2 ∧ tn i s2.heap ∧ (∀ b ∈ fp, G2 b = none) ∧ V0 i n G2) ?_ m0 ⟨0, G, I0, st0, n0, w0⟩
  rintro n s5 ⟨i, G5, I5, st5, n5, w5⟩
  have noE : ∀ {α : Type} {t : Sem α} {Q1 Q2 : α → Shared → Prop} {E2 : Value → Shared → Prop} {s : Shared}, wpAny (model X.prog X.w) X.A t Q1 Y.xe s → (∀ a s, Q1 a s → Q2 a s) → wpAny (model X.prog X.w) X.A t Q2 E2 s := fun h k => wpAny_mono h k fun e s z => (hxe e s z).elim
  rcases turn i n G5 w5 with ⟨stop, qq⟩ | ⟨go, V1, hV1, step⟩
  · have td := T.done Y y1 y2 y3 y4 i [] s5 _ G5 Y.xe I5 (stat I5 n5) st5 stop
    rw [y5] at td
    refine noE td fun r s6 ⟨hr, I6⟩ => ?_
    subst hr
    exact fin G5 s6 I6 qq
  · have ti := T.item Y y1 y2 y3 y4 i [] s5 _ G5 Y.xe I5 (stat I5 n5) st5 go
    rw [y5] at ti
    refine noE ti fun r s6 ⟨u, hr, h6⟩ => ?_
    subst hr
    refine noE h6 fun _ s7 ⟨x, G7, I7, r7, z7, st7, n7⟩ => ?_
    have I7p := I7.pinned (stat I7 n7) (T.obj _ _ st7)
    have pgr := pg.run _ s7 _ G7 x u _ I7p r7 (step x G7 z7)
    rw [y1, y2, y5] at pgr
    refine noE pgr fun _ s8 ⟨τ8, G8, I8, hw8, q8⟩ => ?_
    have ptr := pt.run _ s8 τ8 G8 _ I8 q8
    rw [y1, y2, y5] at ptr
    refine noE ptr fun b s9 ⟨G9, I9, q9⟩ => ?_
    have close : ∀ {s2 : Shared} {G2 : Hp}, Inv Y ([] ++ pinsAt fp s7.heap) τ8 G2 s2 → V1 G2 → ∃ m, m < n ∧ ∃ i G2, Inv Y [] τ G2 s2 ∧ tn i s2.heap ∧ (∀ b ∈ fp, G2 b = none) ∧ V0 i m G2 := fun {s2 G2} J2 v2 => by
      obtain ⟨m2, lt, v0⟩ := hV1 G2 v2
      have pin : ∀ b ∈ fp, ∀ o, s7.heap.get? b = some o → s2.heap.get? b = some o ∧ G2 b = none := fun b hb o e => by
        have z := J2.pin (b, o) (List.mem_append_right _ (List.mem_append_right _ (mem_pinsAt hb e)))
        exact ⟨z.1, z.2.1⟩
      refine ⟨m2, lt, i + 1, G2, (J2.unpinned (pins := [])).weak (by rw [hτ, ← hw8, wipe_length]) (fun j v e => ?_), T.keep _ _ _ st7 (fun b hb o e => (pin b hb o e).1), (fun b hb => ?_), v0⟩
      · rw [hτ, ← hw8] at e
        exact (wipe_some e).1
      · obtain ⟨o, e, _⟩ := T.obj _ _ st7 b hb
        exact (pin b hb o e).2
    cases b with
    | false => exact close I9 q9
    | true =>
      have per := pe.run _ s9 τ8 G9 _ I9 q9
      rw [y1, y2, y5] at per
      refine noE per fun z s10 ⟨yv, G10, I10, r10, k, S, n2, ey, hD, room, v1⟩ => ?_
      subst ey
      have ad := add_key (E := notedBy (model X.prog X.w) X.A Y.env fun e s' => Rs (.error e) s') (Q := fun _ s5 => ∃ m, m < n ∧ ∃ i G2, Inv Y [] τ G2 s5 ∧ tn i s5.heap ∧ (∀ b ∈ fp, G2 b = none) ∧ V0 i m G2) I10 (by rw [y1, y2]; exact hD) r10 room fun s11 I11 => close (by rw [y1, y2] at I11; exact I11) v1
      rw [y1, y2, y5] at ad
      exact ad
theorem pe_scK {elt tg iter : Expr} {ifs : List Expr} {scope : Scope} {own : List (PySem.Str × Nat)} {pos : Pos} {wi : TI} {g : TG} {tt : TT} {te : TE} (hc : X.calm = true) (hN : X.N.Nodup) (hi : PI X tg iter wi) (ok : BlkOk X.N X.env.scope scope own)
    (hg : ∀ s H C cl fp, PG (X.blk s H scope (compEnvC scope cl C X.env) fp) tg g) (ht : ∀ s H C cl fp, PTs (X.blk s H scope (compEnvC scope cl C X.env) fp) ifs tt) (he : ∀ s H C cl fp, PE (X.blk s H scope (compEnvC scope cl C X.env) fp) elt te) (hs : ∀ x, foldedSetIterable iter X.env x = pure x := by intro _; rfl) :
    PE X (.SetComp elt [⟨tg, iter, ifs, 0⟩] scope pos) (tScK X.prog X.w wi g tt te (own.map (·.2))) := by
  refine ⟨fun pins s σ H Q I h => ?_⟩
  rw [eval_SetComp]
  have fr : ∀ y ∈ scope.names, y.2 = .free → ∃ c, X.env.cells.lookup y.1 = some c := fun y hy e => (ok.free y hy e).elim (fun k => I.ok.has _ (.inl k)) fun k => I.ok.has _ (.inr k)
  refine wpAny_comprehension_free rfl hs (closure_ok fr) ok.kind (fun y hy e => by rw [ok.uniq y hy, e]) (thn (hi.run pins s σ H _ I h) fun xv s1 hx => thn hx fun itv s2 ⟨it, fp, tn, J, H2, e, I2, T, st2, f2, q⟩ => ?_)
  subst e
  refine newSet_ok (newEnv_comp ?_)
  generalize hD : s2.heap.objs.size = D
  obtain ⟨V0, ⟨m0, w0⟩, turn⟩ := q D (I2.hok.fresh (Nat.le_of_eq hD))
  generalize es : ({ s2 with heap := s2.heap.push (set0 X) } : Shared) = s3
  have h3 : s3.heap = s2.heap.push (set0 X) := by rw [← es]
  have I3 : Inv X pins σ (upd H2 D (SetK X.prog X.w D (fun _ => false) 0)) s3 := by
    rw [← es]
    refine I2.laid (t' := s2.toks) (fun b o e => Heap.get?_push_of_some _ e) (Nat.le_of_eq hD) ?_
    rw [← hD]
    exact setK_new set0_ok
  generalize eH : upd H2 D (SetK X.prog X.w D (fun _ => false) 0) = H3 at I3 w0
  have f3 : ∀ b ∈ fp, FpOk X pins H3 b ∧ b < s3.heap.objs.size := fun b hb => by
    obtain ⟨o, ho, _⟩ := T.obj _ _ st2 b hb
    have lt := Heap.lt_size ho
    refine ⟨⟨?_, (f2 b hb).2⟩, by rw [h3, Heap.size_push]; exact Nat.lt_succ_of_lt lt⟩
    rw [← eH, upd_ne (by rw [← hD]; exact Nat.ne_of_lt lt)]
    exact (f2 b hb).1
  have I4 := block_start I3 ok hN f3
  have pg := hg s3 H3 s3.heap.objs.size (cellsFrom (s3.heap.objs.size + 1) scope.names (cloFrom X.env.cells scope.names [])) fp
  have pt := ht s3 H3 s3.heap.objs.size (cellsFrom (s3.heap.objs.size + 1) scope.names (cloFrom X.env.cells scope.names [])) fp
  have pe := he s3 H3 s3.heap.objs.size (cellsFrom (s3.heap.objs.size + 1) scope.names (cloFrom X.env.cells scope.names [])) fp
  have cL : (compEnvC scope (cellsFrom (s3.heap.objs.size + 1) scope.names (cloFrom X.env.cells scope.names [])) s3.heap.objs.size X.env).locals = s3.heap.objs.size := rfl
  have goal2 : ∀ (ce : Env) (s4 : Shared), ce.locals = s3.heap.objs.size → PG (X.blk s3 H3 scope ce fp) tg g → PTs (X.blk s3 H3 scope ce fp) ifs tt → PE (X.blk s3 H3 scope ce fp) elt te → Inv (X.blk s3 H3 scope ce fp) [] (wipe σ (own.map (·.2))) H3 s4 → tn 0 s4.heap →
      codeAny (model X.prog X.w) X.A (.compStart (.SetComp elt [⟨tg, iter, ifs, 0⟩] scope pos) 0 (.ref it) (.ref D) ce) (compPost (model X.prog X.w) X.A X.xe none (EP X pins σ Q) (.ref D) s3.heap.objs.size) s4 := fun ce s4 cl pg pt pe I4 st4 => by
    have lp : codeAny (model X.prog X.w) X.A (.compLoop (.SetComp elt [⟨tg, iter, ifs, 0⟩] scope pos) 0 (.ref it) (.ref D) ce) (compPost (model X.prog X.w) X.A X.xe none (EP X pins σ Q) (.ref D) s3.heap.objs.size) s4 := by
      refine scK_loop (Y := X.blk s3 H3 scope ce fp) (vs := own.map (·.2)) (Qd := fun G => Q (.ref D) G) ⟨rfl, rfl, rfl, hc, rfl⟩ T pg pt pe rfl (fun {τ2 G2 s2} I' hn b hb => ?_) turn I4 st4 (fun b hb => (f3 b hb).1.1) w0 (fun G2 s6 I6 qq => ?_) fun _ _ z => z
      · exact ⟨hn b hb, (I'.ok.exf b hb).1, I'.ok.exfs b hb, .inl hb, fun x c e => (I'.ok.exf b hb).2 x c e, fun p hp => absurd (show p ∈ ([] : List (Addr × Obj)) ++ [] from hp) (by simp)⟩
      · have I7 : Inv X pins σ G2 s6 := I3.call' (ch := fp) I6.os I6.base I6.hok I6.bare fun b hb => ⟨(f3 b hb).1.2.2.2.1, (f3 b hb).1.2.1, (f3 b hb).1.2.2.2.2.1, (f3 b hb).1.2.2.2.2.2⟩
        have nC : G2 s3.heap.objs.size = none := by
          have z : G2 ce.locals = none := I6.free
          rw [cl] at z
          exact z
        obtain ⟨m, hn, _⟩ := I6.loc
        have hn : s6.heap.Ns ce.locals m := hn
        rw [cl] at hn
        refine ⟨m, hn, fun h8 sb => ?_⟩
        obtain ⟨f0, f1, f2, f3, f4, f5⟩ := I3.fpOk (Nat.le_refl _) nC
        exact ⟨.ref D, G2, I7.turned (t' := s6.toks) (fun b o hb e => (sb.2 b hb).trans e) f0 f1 f3 f4 f5, rfl, qq⟩
    exact codeAny_compStart_set lp (T.self X.A 0 _ _ _ st4 lp)
  refine goal2 _ _ cL pg pt pe I4 (T.keep _ _ _ st2 fun b _ o e => ?_)
  exact pushCells_keeps _ _ _ _ (Heap.get?_push_of_some _ (by rw [h3]; exact Heap.get?_push_of_some _ e))
def rLenSet (P : Program) (w : World) : List V → Hp → VK → Prop := fun xs H Q => ∃ a S n, xs = [V.ref a] ∧ H a = some (SetK P w a S n) ∧ Q (.int (n : Nat)) H
theorem c_lenSet : CallR X (.builtin "len") (rLenSet X.prog X.w) := by
  intro pins s σ H xs us Q I r h
  obtain ⟨a, S, n, rfl, ha, q⟩ := h
  obtain ⟨u, rfl, ru⟩ := vals1 r
  obtain rfl : u = Value.ref a := ru
  obtain ⟨ob, es, ep, t, h1, h2, h3, _, _, h6, h7, rfl⟩ := setK_get I ha
  refine call_len_set h1 h2 h3 h7 ?_ ⟨.int _, H, I.tok _, ⟨_, rfl⟩, q⟩
  have : scanBound < 2 ^ 62 := by decide
  omega
end
end SJ

/-! SJ3: d.values(); tuple(d), tuple(d.values()), *d, *d.values(). -/
namespace SJ
open PySem PySem.Spec PySem.W PyProof.Rows L2
open AutoSeq1 (wpAny_loadPart')
/-- the view of the values of the dict at d -/
def valsO (p d : Addr) : HO := .ext fun h => h.IsValuesView p d
theorem valsO_ok {P : Program} {w : World} {H : Hp} {h : Heap} {p d : Addr} (e : h.get? p = some { cls := .type "dict_values", data := .fields #[.ref d] }) : ObjOk P w H h p (valsO p d) :=
  ⟨⟨_, e, rfl, rfl⟩, ⟨_, e⟩, fun _ _ z k => let ⟨o, ho, r⟩ := z; ⟨o, k o ho, r⟩⟩
def rVals : V → List V → Hp → VK → Prop := fun x xs H Q => ∃ a kvs, x = .ref a ∧ xs = [] ∧ H a = some (.dK kvs) ∧ ∀ p, H p = none → Q (.ref p) (upd H p (valsO p a))
/-- what the walk of a dict or of its view gives, item by item -/
inductive DSrc (H : Hp) : Addr → List V → Prop
  | keys {a : Addr} {kvs : List (Key × V)} : H a = some (.dK kvs) → DSrc H a (kvs.map fun q => kV q.1)
  | vals {p a : Addr} {kvs : List (Key × V)} : H p = some (valsO p a) → H a = some (.dK kvs) → DSrc H p (kvs.map (·.2))
section
variable {X : Cx} {pins : List (Addr × Obj)} {σ : L2.St} {H : Hp} {s : Shared}
theorem mt_vals : MtR X "dict.values" rVals := by
  intro pins s σ H x xs v us Q I rx rxs h
  obtain ⟨a, kvs, rfl, rfl, ha, q⟩ := h
  cases rx
  cases rxs
  obtain ⟨z, lo, vs, rel, dd⟩ := dk_of I.hok ha
  refine call_meetsIn F.slot_dict_values dd.typeIs F.entry_dict_values (F.args_dict_values_1 _) (meets_dict_values (mixKind X.prog X.w) a lo) ⟨⟨vs, dd⟩, ?_⟩
  exact ⟨.ref s.heap.objs.size, _, I.laid (t' := s.toks) (o := valsO s.heap.objs.size a) (fun b u e => Heap.get?_push_of_some _ e) (Nat.le_refl _) (valsO_ok (Heap.get?_push_size _ rfl)), rfl, q _ (I.hok.fresh (Nat.le_refl _))⟩
theorem vals_at2 {us : List Value} {kvs : List (Key × V)} {vs : List (Key × Value)} (r : KV kvs vs) (hl : us.length = vs.length) (h : ∀ (j : Nat) (v : Value), us[j]? = some v → ∃ k, vs[j]? = some (k, v)) : Vals (kvs.map (·.2)) us := by
  rw [kdl_vals_eq us hl h]
  clear hl h us
  induction kvs generalizing vs with
  | nil => cases r; exact .nil
  | cons q kvs ih =>
    cases r with
    | cons a b => exact .cons a.2 (ih b)
/-- such a thing collected -/
theorem dsrc_run {a : Addr} {xs : List V} {E : Value → Shared → Prop} {Q : List Value → Shared → Prop} {A : Around} (I : Inv X pins σ H s) (hh : A.handled = none) (h : DSrc H a xs) (q : ∀ (us : List Value) (h2 : Heap) (tk : Nat), (∀ b o, s.heap.get? b = some o → h2.get? b = some o) → Vals xs us → us.length ≤ sizeLine → Q us { s with heap := h2, toks := tk }) :
    (∃ T, s.TypeIs (.ref a) T ∧ (T = "dict" ∨ T = "dict_values")) ∧ wpAny (model X.prog X.w) A (collect (.ref a)) Q E s := by
  cases h with
  | @keys kvs ha =>
    obtain ⟨z, lo, vs, rel, dd⟩ := dk_of I.hok ha
    obtain ⟨ep, hat⟩ := dd.dictAt
    have ek : (kvs.map fun kv => kV kv.1) = vs.map fun p => kV p.1 := by
      have e := congrArg (List.map kV) rel.keys
      rwa [List.map_map, List.map_map] at e
    refine ⟨⟨_, dd.typeIs, .inl rfl⟩, kdu_collect (kdl_dict (knd := mixKind X.prog X.w) (kvs := vs) (ep := ep) lo) hh hat (by rw [← rel.length]; exact z) fun h2 tk acc hk hacc => q _ _ _ hk ?_ ?_⟩
    · rw [ek]
      exact keys_at (by rw [Array.length_toList]; exact hacc.1) fun j v e => hacc.2 j v (by rw [← Array.getElem?_toList]; exact e)
    · rw [Array.length_toList, hacc.1, ← rel.length]; exact z
  | @vals d kvs hp hd =>
    obtain ⟨z, lo, vs, rel, dd⟩ := dk_of I.hok hd
    obtain ⟨ep, hat⟩ := dd.dictAt
    have vw : s.heap.IsValuesView a d := (I.hok _ _ hp).1
    obtain ⟨ob, w1, w2, w3⟩ := id vw
    refine ⟨⟨_, ⟨ob, w1, w2⟩, .inr rfl⟩, kdu_collect (kdl_values (knd := mixKind X.prog X.w) (r := a) (d := d) (kvs := vs) (ep := ep)) hh ⟨vw, hat⟩ (by rw [← rel.length]; exact z) fun h2 tk acc hk hacc => q _ _ _ hk ?_ ?_⟩
    · exact vals_at2 rel (by rw [Array.length_toList]; exact hacc.1) fun j v e => hacc.2 j v (by rw [← Array.getElem?_toList]; exact e)
    · rw [Array.length_toList, hacc.1, ← rel.length]; exact z
/-- *d, *d.values() -/
theorem star_dsrc {a : Addr} {xs : List V} {E : Value → Shared → Prop} {Q : List Value → Shared → Prop} (I : Inv X pins σ H s) (hc : X.calm = true) (h : DSrc H a xs) (q : ∀ us s2, Inv X pins σ H s2 → Vals xs us → Q us s2) : StarOf (model X.prog X.w) X.A E (.ref a) Q s := by
  obtain ⟨⟨T, hT, ht⟩, z⟩ := dsrc_run (E := E) (Q := Q) (A := X.A) I (I.ok.hd hc) h fun us h2 tk hk rv _ => q us _ (I.kept hk) rv
  unfold StarOf notIterableAtAll
  rcases ht with rfl | rfl
  · exact wpAny_bind (wpAny_specialOf hT F.slot_dict_iter.lookup (wpAny_pure ⟨rfl, z⟩))
  · exact wpAny_bind (wpAny_specialOf hT F.slot_dict_values_iter.lookup (wpAny_pure ⟨rfl, z⟩))
def tStarD (te : TE) (t : TA) : TA := fun σ H Q => te σ H fun x H1 => ∃ p xs, x = V.ref p ∧ DSrc H1 p xs ∧ t σ H1 fun ys H2 => Q (xs ++ ys) H2
theorem pa_starD {e : Expr} {es : List Expr} {te : TE} {t : TA} {p : Pos} (hc : X.calm = true) (he : PE X e te) (hr : PA X es t) (hs : starEach (.Starred e p :: es) X.env = (true, eval e X.env) :: starEach es X.env := by rfl) : PA X (.Starred e p :: es) (tStarD te t) := by
  refine ⟨fun pos pins s σ H Q I h => items_star (thn (he.run pins s σ H _ I h) fun v s1 ⟨y, H1, I1, ry, a, xs, ey, hx, q⟩ => ?_) hs⟩
  subst ey
  obtain rfl : v = Value.ref a := ry
  exact star_dsrc I1 hc hx fun us s2 I2 rv => thn (hr.run pos pins s2 σ H1 _ I2 q) fun ws s3 ⟨vs, H3, I3, r3, q3⟩ => ⟨xs ++ vs, H3, I3, rv.append r3, q3⟩
/-! ### tuple(d), tuple(d.values()) -/
def rTupD : List V → Hp → VK → Prop := fun xs H Q => ∃ a ys, xs = [.ref a] ∧ DSrc H a ys ∧ ∀ p, H p = none → Q (.ref p) (upd H p (.tup ys))
theorem c_tupD (hc : X.calm = true) : CallR X (.type "tuple") rTupD := by
  intro pins s σ H xs us Q I r h
  obtain ⟨a, ys, rfl, hd, q⟩ := h
  obtain ⟨u, rfl, ru⟩ := vals1 r
  obtain rfl : u = Value.ref a := ru
  refine callType_codes (Q₁ := fun obj s₁ => s₁.TypeIs obj "tuple" ∧ EP X pins σ Q obj s₁) F.called_tuple (F.typeCall_tuple_1 _) F.entry_object_init ?_ fun obj s₁ h₁ => ⟨h₁.1, F.args_object_init_2 obj _, object_init_meets F.called_tuple.init.lookup F.called_tuple.made (by decide) X.prog X.w X.A.in1 _ s₁ ⟨h₁.1, rfl, h₁.2⟩⟩
  have hcol : ∀ {A : Around} {E : Value → Shared → Prop} {Q2 : List Value → Shared → Prop}, A.handled = none → (∀ (us : List Value) (h2 : Heap) (tk : Nat), (∀ b o, s.heap.get? b = some o → h2.get? b = some o) → Vals ys us → us.length ≤ sizeLine → Q2 us { s with heap := h2, toks := tk }) → wpAny (model X.prog X.w) A (collect (.ref a)) Q2 E s := fun hh q2 => (dsrc_run I hh hd q2).2
  obtain ⟨⟨T, hT, ht⟩, _⟩ := dsrc_run (E := fun _ _ => True) (Q := fun _ _ => True) (A := X.A) I (I.ok.hd hc) hd fun _ _ _ _ _ _ => trivial
  have hh1 : X.A.in1.in1.handled = none := I.ok.hd hc
  refine codeAny_of_tree ?_
  show wpAny _ X.A.in1.in1 (checkBuiltinCall "tuple.__new__" ⟨[.type "tuple", .ref a], []⟩ >>= fun _ => again (.builtin "tuple.__new__" ⟨[.type "tuple", .ref a], []⟩)) _ _ s
  refine wpAny_bind (wpAny_of_eq (F.newCall_tuple_1 _) (wpAny_pure ⟨plainId_quiet F.plain_tuple_new _, codeAny_builtin F.entry_tuple_new ?_⟩))
  rw [Around.under_plainId F.plain_tuple_new _]
  have fin : ∀ (us : List Value) (h2 : Heap) (tk : Nat), (∀ b o, s.heap.get? b = some o → h2.get? b = some o) → Vals ys us → us.length ≤ sizeLine → EP X pins σ Q (.ref h2.objs.size) { s with heap := h2.push { cls := .type "tuple", data := .seq us.toArray }, toks := tk } := fun us h2 tk hk rv hz => by
    have I2 : Inv X pins σ H { s with heap := h2, toks := tk } := I.kept hk
    refine ⟨.ref h2.objs.size, _, I2.laid (t' := tk) (o := .tup ys) (fun b u e => Heap.get?_push_of_some _ e) (Nat.le_refl _) ⟨by rw [rv.length]; exact hz, us, rv, ⟨_, Heap.get?_push_size _ rfl, rfl, _, rfl⟩⟩, rfl, q _ (I2.hok.fresh (Nat.le_refl _))⟩
  have hsub := sub_tuple_self
  have hinit := init_tuple_lookup
  have hmh := madeHere_tuple
  rcases ht with rfl | rfl
  · wp_walk using wpAny_typeOf hT, hcol hh1
    intro us h2 tk hk rv hz
    refine wpAny_bind (m := Builtin.Tuple.tupleExact us.toArray) ?_
    unfold Builtin.Tuple.tupleExact
    exact wpAny_newObj_type (wpAny_pure ⟨⟨_, Heap.get?_push_size _ rfl, rfl⟩, fin us h2 tk hk rv hz⟩) (show us.toArray.size ≤ sizeLine by rw [List.size_toArray]; exact hz)
  · wp_walk using wpAny_typeOf hT, hcol hh1
    intro us h2 tk hk rv hz
    refine wpAny_bind (m := Builtin.Tuple.tupleExact us.toArray) ?_
    unfold Builtin.Tuple.tupleExact
    exact wpAny_newObj_type (wpAny_pure ⟨⟨_, Heap.get?_push_size _ rfl, rfl⟩, fin us h2 tk hk rv hz⟩) (show us.toArray.size ≤ sizeLine by rw [List.size_toArray]; exact hz)
end
end SJ

/-! SJ4: == and != of tuples and lists whose items are compared by the class's own __eq__; x in a tuple so. -/
namespace SJ
open PySem PySem.Spec PySem.W PyProof.Rows L2 GQ PySem.MeetsSeq3
open AutoSeq1 (wpAny_loadPart')
section
variable {prog : Program} {w : World} {A : Around} {R : Result → Shared → Prop}
/-- tuples, whatever their items answer -/
theorem tup_cmp (op : CmpOp) (nm : Bool) (l b : Addr) (items items2 : Array Value) (n n2 : Nat) (dd dd2 : Option Addr) (sl sl2 : Array (Option Value)) (hop : (op = .Eq ∧ nm = true) ∨ (op = .NotEq ∧ nm = false)) (I : Nat → Shared → Prop)
    (turn : ∀ i (h1 : i < items.size) (h2 : i < items2.size) s, I i s → wpAny (model prog w) A.in1 (eqBool items[i] items2[i]) (fun r s2 => if r = true then I (i + 1) s2 else R (.ok (.ret (.bool (!nm)))) s2) (fun e s2 => R (.error e) s2) s)
    (fin : ∀ s, I (min items.size items2.size) s → R (.ok (.ret (.bool (if nm then decide (items.size = items2.size) else !decide (items.size = items2.size))))) s) {s : Shared} (hl1 : s.heap.get? l = some { cls := .type "tuple", dict := dd, data := .seq items n, slots := sl }) (hb1 : s.heap.get? b = some { cls := .type "tuple", dict := dd2, data := .seq items2 n2, slots := sl2 }) (h : I 0 s) :
    wpAny (model prog w) A.in1 (if nm then Builtin.«tuple.__eq__» ⟨[.ref l, .ref b], []⟩ else Builtin.«tuple.__ne__» ⟨[.ref l, .ref b], []⟩) (FinOf prog w A R) (fun e s2 => R (.error e) s2) s := by
  have f2 := AutoSeq1.sub_tuple_tuple
  have hZ : (items.toList.zip items2.toList).length = min items.size items2.size := by simp
  have h0 := h
  obtain ⟨hp, g, d, tk, os⟩ := s
  have tn : ∀ (y x : Value) (rest : List (Value × Value)) (i : Nat), (y, x) :: rest = (items.toList.zip items2.toList).drop i → ∃ (h1 : i < items.size) (h2 : i < items2.size), y = items[i] ∧ x = items2[i] ∧ rest = (items.toList.zip items2.toList).drop (i + 1) ∧ i + 1 ≤ min items.size items2.size := by
    intro y x rest i hz
    have hlt : i < (items.toList.zip items2.toList).length := by
      rcases Nat.lt_or_ge i (items.toList.zip items2.toList).length with q | q
      · exact q
      · rw [List.drop_of_length_le q] at hz; cases hz
    rw [List.drop_eq_getElem_cons hlt] at hz
    injection hz with e1 e2
    have q1 := congrArg Prod.fst e1
    have q2 := congrArg Prod.snd e1
    rw [hZ] at hlt
    exact ⟨by omega, by omega, by simpa using q1, by simpa using q2, e2, by omega⟩
  have fn : ∀ i, [] = (items.toList.zip items2.toList).drop i → i ≤ min items.size items2.size → i = min items.size items2.size := by
    intro i hz hi
    rcases Nat.lt_or_ge i (items.toList.zip items2.toList).length with q | q
    · rw [List.drop_eq_getElem_cons q] at hz; cases hz
    · rw [hZ] at q; omega
  rcases hop with ⟨rfl, rfl⟩ | ⟨rfl, rfl⟩
  · simp only [if_true]
    wp_walk using wpAny_loadPart' hl1, wpAny_loadPart' hb1, wpAny_forIn_list _ (fun rest b s2 => (b.1 = none ∧ ∃ i, rest = (items.toList.zip items2.toList).drop i ∧ i ≤ min items.size items2.size ∧ I i s2)) _
    case turn =>
      rintro ⟨y, x⟩ rest b s2 ⟨_, i, hz, hi, hI⟩
      obtain ⟨h1, h2, rfl, rfl, e3, e4⟩ := tn y x rest i hz
      refine wpAny_bind (wpAny_mono (turn i h1 h2 s2 hI) (fun r s3 q3 => ?_) fun _ _ x => x)
      cases r with
      | true => wp_walk; exact ⟨rfl, i + 1, e3, e4, q3⟩
      | false => wp_walk; exact q3
    case fin =>
      rintro ⟨b1, b2⟩ s2 ⟨hb, i, hz, hi, hI⟩
      simp only at hb
      subst hb
      have q := fin s2 (fn i hz hi ▸ hI)
      wp_walk
      have e : Builtin.Tuple.tupleCompareSizes .Eq items.size items2.size = .bool (decide (items.size = items2.size)) := by
        show Value.bool (items.size == items2.size) = _
        rfl
      rw [e]
      exact q
    case h => exact ⟨rfl, 0, rfl, Nat.zero_le _, h0⟩
  · simp only [Bool.false_eq_true, if_false]
    wp_walk using wpAny_loadPart' hl1, wpAny_loadPart' hb1, wpAny_forIn_list _ (fun rest b s2 => (b.1 = none ∧ ∃ i, rest = (items.toList.zip items2.toList).drop i ∧ i ≤ min items.size items2.size ∧ I i s2)) _
    case turn =>
      rintro ⟨y, x⟩ rest b s2 ⟨_, i, hz, hi, hI⟩
      obtain ⟨h1, h2, rfl, rfl, e3, e4⟩ := tn y x rest i hz
      refine wpAny_bind (wpAny_mono (turn i h1 h2 s2 hI) (fun r s3 q3 => ?_) fun _ _ x => x)
      cases r with
      | true => wp_walk; exact ⟨rfl, i + 1, e3, e4, q3⟩
      | false => wp_walk; exact q3
    case fin =>
      rintro ⟨b1, b2⟩ s2 ⟨hb, i, hz, hi, hI⟩
      simp only at hb
      subst hb
      have q := fin s2 (fn i hz hi ▸ hI)
      wp_walk
      have e : Builtin.Tuple.tupleCompareSizes .NotEq items.size items2.size = .bool (!decide (items.size = items2.size)) := by
        show Value.bool (items.size != items2.size) = _
        rfl
      rw [e]
      exact q
    case h => exact ⟨rfl, 0, rfl, Nat.zero_le _, h0⟩
/-- both lists stand, with n1 and n2 items -/
def Two (s : Shared) (l b : Addr) (n1 n2 : Nat) (its its2 : Array Value) : Prop := its.size = n1 ∧ its2.size = n2 ∧ ∃ e1 e2 : Nat, s.heap.get? l = some { cls := .type "list", data := .seq its e1 } ∧ s.heap.get? b = some { cls := .type "list", data := .seq its2 e2 }
/-- lists: at each turn both are read anew -/
def LstI (prog : Program) (w : World) (A : Around) (Rn : Shared → Prop) (E : Value → Shared → Prop) (l b : Addr) (n1 n2 : Nat) (I : Nat → Shared → Prop) : Prop :=
  ∀ i s, I i s → ∃ its its2, Two s l b n1 n2 its its2 ∧ ∀ (h1 : i < its.size) (h2 : i < its2.size), wpAny (model prog w) A.in1 (eqBool its[i] its2[i]) (fun r s2 => (∃ jts jts2, Two s2 l b n1 n2 jts jts2) ∧ if r = true then I (i + 1) s2 else Rn s2) E s
theorem lst_loop (nm : Bool) (l b : Addr) (N : Nat) (I : Nat → Shared → Prop) (hl : LstI prog w A (R (.ok (.ret (.bool (!nm))))) (fun e s2 => R (.error e) s2) l b N N I) (fin : ∀ s, I N s → R (.ok (.ret (.bool nm))) s) (k : Nat) :
    ∀ i : Nat, N - i = k → i ≤ N → ∀ s, I i s → wpAny (model prog w) A.in1 (Builtin.«list.__eq__.loop» ⟨[.ref l, .ref b, rawInt i, rawInt (if nm then 2 else 3)], []⟩) (FinOf prog w A R) (fun e s2 => R (.error e) s2) s := by
  induction k with
  | zero =>
    intro i hk hi s h
    obtain ⟨its, its2, ⟨z1, z2, n, n2, g1, g2⟩, _⟩ := hl _ _ h
    have e : i = N := by omega
    have q := fin s (e ▸ h)
    obtain ⟨hp, g, d, tk, os⟩ := s
    have i1 : its[((i : Nat) : Int).toNat]? = none := by simp; omega
    have i2 : its2[((i : Nat) : Int).toNat]? = none := by simp; omega
    cases nm with
    | true =>
      simp only [if_true]
      wp_walk using wpAny_loadPart' g1, wpAny_loadPart' g2
      rw [i1, i2]
      wp_walk using wpAny_loadPart' g1, wpAny_loadPart' g2
      show R (.ok (.ret (.bool (its.size == its2.size)))) _
      rw [z1, z2, beq_self_eq_true]
      exact q
    | false =>
      simp only [Bool.false_eq_true, if_false]
      wp_walk using wpAny_loadPart' g1, wpAny_loadPart' g2
      rw [i1, i2]
      wp_walk using wpAny_loadPart' g1, wpAny_loadPart' g2
      show R (.ok (.ret (.bool (its.size != its2.size)))) _
      rw [z1, z2, bne_self_eq_false]
      exact q
  | succ k ih =>
    intro i hk hi s h
    obtain ⟨its, its2, ⟨z1, z2, n, n2, g1, g2⟩, turn⟩ := hl _ _ h
    have lt1 : i < its.size := by omega
    have lt2 : i < its2.size := by omega
    have ht := turn lt1 lt2
    obtain ⟨hp, g, d, tk, os⟩ := s
    have i1 : its[((i : Nat) : Int).toNat]? = some its[i] := by simp [lt1]
    have i2 : its2[((i : Nat) : Int).toNat]? = some its2[i] := by simp [lt2]
    have hc : ((i : Int) + 1) = ((i + 1 : Nat) : Int) := by omega
    cases nm with
    | true =>
      simp only [if_true] at ih ⊢
      wp_walk using wpAny_loadPart' g1, wpAny_loadPart' g2
      rw [i1, i2]
      refine wpAny_bind (wpAny_mono ht (fun r s2 q2 => ?_) fun _ _ x => x)
      obtain ⟨⟨jts, jts2, y1, y2, m1, m2, k1, k2⟩, q2⟩ := q2
      cases r with
      | true =>
        have rcc := ih (i + 1) (by omega) (by omega) s2 q2
        obtain ⟨hp2, g2, d2, tk2, os2⟩ := s2
        wp_walk
        rw [hc]
        exact ⟨plainId_quiet plain_eq_loop _, codeAny_builtin entry_eq_loop (by rw [Around.under_plainId plain_eq_loop _]; exact rcc)⟩
      | false =>
        obtain ⟨hp2, g2, d2, tk2, os2⟩ := s2
        have j1 : jts[((i : Nat) : Int).toNat]? = some (jts[i]'(by omega)) := by simp
        have j2 : jts2[((i : Nat) : Int).toNat]? = some (jts2[i]'(by omega)) := by simp
        wp_walk using wpAny_loadPart' k1, wpAny_loadPart' k2
        rw [j1, j2]
        wp_walk
        exact q2
    | false =>
      simp only [Bool.false_eq_true, if_false] at ih ⊢
      wp_walk using wpAny_loadPart' g1, wpAny_loadPart' g2
      rw [i1, i2]
      refine wpAny_bind (wpAny_mono ht (fun r s2 q2 => ?_) fun _ _ x => x)
      obtain ⟨⟨jts, jts2, y1, y2, m1, m2, k1, k2⟩, q2⟩ := q2
      cases r with
      | true =>
        have rcc := ih (i + 1) (by omega) (by omega) s2 q2
        obtain ⟨hp2, g2, d2, tk2, os2⟩ := s2
        wp_walk
        rw [hc]
        exact ⟨plainId_quiet plain_eq_loop _, codeAny_builtin entry_eq_loop (by rw [Around.under_plainId plain_eq_loop _]; exact rcc)⟩
      | false =>
        obtain ⟨hp2, g2, d2, tk2, os2⟩ := s2
        have j1 : jts[((i : Nat) : Int).toNat]? = some (jts[i]'(by omega)) := by simp
        have j2 : jts2[((i : Nat) : Int).toNat]? = some (jts2[i]'(by omega)) := by simp
        wp_walk using wpAny_loadPart' k1, wpAny_loadPart' k2
        rw [j1, j2]
        wp_walk
        exact q2
theorem lst_cmp (nm : Bool) (l b : Addr) (n1 n2 : Nat) (I : Nat → Shared → Prop) (hl : LstI prog w A (R (.ok (.ret (.bool (!nm))))) (fun e s2 => R (.error e) s2) l b n1 n2 I) (fin : n1 = n2 → ∀ s, I n1 s → R (.ok (.ret (.bool nm))) s) {s : Shared} (h : I 0 s) (hne : n1 ≠ n2 → R (.ok (.ret (.bool (!nm)))) s) :
    wpAny (model prog w) A.in1 (if nm then Builtin.«list.__eq__» ⟨[.ref l, .ref b], []⟩ else Builtin.«list.__ne__» ⟨[.ref l, .ref b], []⟩) (FinOf prog w A R) (fun e s2 => R (.error e) s2) s := by
  obtain ⟨its, its2, ⟨z1, z2, n, n9, g1, g2⟩, _⟩ := hl _ _ h
  have f3 := AutoSeq1.sub_list_list
  by_cases hsz : n1 = n2
  · subst hsz
    have rcc := lst_loop (A := A) (R := R) nm l b n1 I hl (fin rfl) _ 0 rfl (Nat.zero_le _) s h
    obtain ⟨hp, g, d, tk, os⟩ := s
    have c1 : ¬ (its.size != its2.size) = true := by simp [z1, z2]
    cases nm with
    | true =>
      simp only [if_true] at rcc ⊢
      wp_walk using wpAny_loadPart' g1, wpAny_loadPart' g2
      exact ⟨plainId_quiet plain_eq_loop _, codeAny_builtin entry_eq_loop (by rw [Around.under_plainId plain_eq_loop _]; exact rcc)⟩
    | false =>
      simp only [Bool.false_eq_true, if_false] at rcc ⊢
      wp_walk using wpAny_loadPart' g1, wpAny_loadPart' g2
      exact ⟨plainId_quiet plain_eq_loop _, codeAny_builtin entry_eq_loop (by rw [Around.under_plainId plain_eq_loop _]; exact rcc)⟩
  · have q := hne hsz
    obtain ⟨hp, g, d, tk, os⟩ := s
    have c1 : (its.size != its2.size) = true := by simp [z1, z2, hsz]
    cases nm with
    | true =>
      simp only [if_true] at ⊢
      wp_walk using wpAny_loadPart' g1, wpAny_loadPart' g2
      exact q
    | false =>
      simp only [Bool.false_eq_true, if_false] at ⊢
      wp_walk using wpAny_loadPart' g1, wpAny_loadPart' g2
      exact q
end
end SJ
namespace SJ
open PySem PySem.Spec PySem.W PyProof.Rows L2 GQ PySem.MeetsSeq3
/-! ### over the layer -/
/-- b: what x == y answers inside a container; the heap may grow -/
structure Grow (R : Hp → Hp → Prop) : Prop where
  refl : ∀ H, R H H
  trans : ∀ {H G J}, R H G → R G J → R H J
  ins : ∀ {H G a C dx fs}, R H G → H a = some (.ins C dx fs) → G a = some (.ins C dx fs)
  lst : ∀ {H G a xs}, R H G → H a = some (.lst xs) → G a = some (.lst xs)
abbrev EqB := (Hp → Hp → Prop) → V → V → Hp → Bool → Prop
structure EqOk (X : Cx) (k : Nat) (D : EqB) : Prop where
  mono : ∀ {Rl x y H H2 b}, Grow Rl → D Rl x y H b → Rl H H2 → D Rl x y H2 b
  run : ∀ (Rl : Hp → Hp → Prop) (A : Around) (pins : List (Addr × Obj)) (s : Shared) (σ : L2.St) (H : Hp) (x y : V) (u v : Value) (b : Bool) (E : Value → Shared → Prop), Grow Rl → Rm k A → A.frames = X.A.frames → Inv X pins σ H s → RelV x u → RelV y v → D Rl x y H b →
    wpAny (model X.prog X.w) A (eqBool u v) (fun r s2 => r = b ∧ ∃ H2, Inv X pins σ H2 s2 ∧ Rl H H2) E s
theorem EqOk.or {X : Cx} {k : Nat} {D D2 : EqB} (h : EqOk X k D) (h2 : EqOk X k D2) : EqOk X k fun Rl x y H b => D Rl x y H b ∨ D2 Rl x y H b :=
  ⟨fun gr d s => d.elim (fun d => .inl (h.mono gr d s)) fun d => .inr (h2.mono gr d s), fun Rl A pins s σ H x y u v b E gr hr fr I rx ry d => d.elim (h.run Rl A pins s σ H x y u v b E gr hr fr I rx ry) (h2.run Rl A pins s σ H x y u v b E gr hr fr I rx ry)⟩
theorem EqOk.up {X : Cx} {k j : Nat} {D : EqB} (h : EqOk X k D) (l : k ≤ j) : EqOk X j D := ⟨h.mono, fun Rl A pins s σ H x y u v b E gr hr => h.run Rl A pins s σ H x y u v b E gr (hr.mono l)⟩
/-- one and the same -/
def dSame : EqB := fun _ x y _ b => ∃ a, x = .ref a ∧ y = .ref a ∧ b = true
theorem eq_same {X : Cx} : EqOk X 0 dSame := by
  refine ⟨fun _ d _ => d, fun Rl A pins s σ H x y u v b E gr hr fr I rx ry d => ?_⟩
  obtain ⟨a, rfl, rfl, rfl⟩ := d
  cases rx
  cases ry
  unfold eqBool
  refine wpAny_holding ?_
  simp only [beq_self_eq_true, if_true]
  exact wpAny_bind (wpAny_rule (wpAny_pure ⟨rfl, H, I, gr.refl _⟩))
/-- by the class's own __eq__ -/
def dOwn (K : Frag) (g : Addr) (sp : Sp) : EqB := fun Rl x y H b => ∃ a c C dx fs C2 dy f2, x = .ref a ∧ y = .ref c ∧ a ≠ c ∧ H a = some (.ins C dx fs) ∧ H c = some (.ins C2 dy f2) ∧ findIn K (.ref C) "__eq__" = some (some (.ref g)) ∧ InT K C2 ∧ notFirst K C (.ref C2) = true ∧
  ∀ G : Hp, Rl H G → ∀ Q : VK, (∀ G2, Rl G G2 → Q (.bl b) G2) → sp [x, y] G Q E0
theorem eq_own {X : Cx} {k : Nat} {f : Addr} {fd : FuncData} {ps : List Str} {sp : Sp} (F : Fk X.prog X.w X.K X.mg X.base k f fd ps sp) (hf : isFn X.K (.ref f) = true) (hb : Binds X.K fd ps []) : EqOk X k (dOwn X.K f sp) := by
  refine ⟨fun gr d s => ?_, fun Rl A pins s σ H x y u v b E gr hr fr I rx ry d => ?_⟩
  · obtain ⟨a, c, C, dx, fs, C2, dy, f2, h1, h2, h3, h4, h5, h6, h7, h8, h9⟩ := d
    exact ⟨a, c, C, dx, fs, C2, dy, f2, h1, h2, h3, gr.ins s h4, gr.ins s h5, h6, h7, h8, fun G sg => h9 G (gr.trans s sg)⟩
  · obtain ⟨a, c, C, dx, fs, C2, dy, f2, rfl, rfl, hne, ha, hc, he, hT, nf, hs⟩ := d
    obtain rfl : u = Value.ref a := rx
    obtain rfl : v = Value.ref c := ry
    refine eqBool_refG hne ?_
    obtain ⟨mA, J, _⟩ := ins_get I.hok ha
    obtain ⟨od, J, _⟩ := J.look
    obtain ⟨m, hF⟩ := I.fr
    obtain ⟨Pz, Z, p, _⟩ := kit_of I (show RelV (.ref c) (.ref c) from rfl) (hT.ty hc)
    refine cmp_K (op := .Eq) hr.units0 hF I.ok.mod.kin J (Z.ty _ _ I.kIn p) nf he hf (wpAny_mono (run_at (Q := fun z G2 => z = .bl b ∧ Rl H G2) F hr fr hb I (.cons (show RelV (.ref a) (.ref a) from rfl) (.cons (show RelV (.ref c) (.ref c) from rfl) .nil)) (hs H (gr.refl _) _ fun G2 s2 => ⟨rfl, s2⟩)) (fun z s2 q => ?_) fun _ _ z => z)
    obtain ⟨z2, G2, I2, r2, rfl, sg⟩ := q
    obtain rfl : z = Value.bool b := r2
    exact ⟨b, rfl, rfl, G2, I2, sg⟩
/-- the items' answers, one by one -/
def seqB (D : V → V → Hp → Bool → Prop) (H : Hp) : List V → List V → Bool → Prop
  | x :: xs, y :: ys, b => (D x y H false ∧ b = false) ∨ (D x y H true ∧ seqB D H xs ys b)
  | [], [], b => b = true
  | _, _, b => b = false
end SJ

/-! SJ5: the rules over SJ4. -/
namespace SJ
open PySem PySem.Spec PySem.W PyProof.Rows L2 GQ PySem.MeetsSeq3
def rSeqC (K : Frag) (D : EqB) (nm : Bool) : R2 := fun x y H Q => ∃ Rl a c xs ys b, Grow Rl ∧ x = .ref a ∧ y = .ref c ∧ ((SqT K H a xs ∧ SqT K H c ys) ∨ (H a = some (.lst xs) ∧ H c = some (.lst ys) ∧ (xs.length ≠ ys.length → b = false))) ∧ seqB (D Rl) H xs ys b ∧ ∀ H2, Rl H H2 → Q (.bl (if nm then b else !b)) H2
section
variable {X : Cx} {k : Nat} {D : EqB} {Rl : Hp → Hp → Prop}
theorem seqB_step {D : V → V → Hp → Bool → Prop} {H : Hp} {xs ys : List V} {b : Bool} {i : Nat} {x y : V} (h : seqB D H (xs.drop i) (ys.drop i) b) (hx : xs[i]? = some x) (hy : ys[i]? = some y) : (D x y H false ∧ b = false) ∨ (D x y H true ∧ seqB D H (xs.drop (i + 1)) (ys.drop (i + 1)) b) := by
  have lx := (List.getElem?_eq_some_iff.mp hx).1
  have ly := (List.getElem?_eq_some_iff.mp hy).1
  rw [List.drop_eq_getElem_cons lx, List.drop_eq_getElem_cons ly] at h
  rw [List.getElem?_eq_getElem lx] at hx
  rw [List.getElem?_eq_getElem ly] at hy
  cases hx
  cases hy
  exact h
theorem seqB_end {D : V → V → Hp → Bool → Prop} {H : Hp} {xs ys : List V} {b : Bool} (h : seqB D H (xs.drop (min xs.length ys.length)) (ys.drop (min xs.length ys.length)) b) : b = decide (xs.length = ys.length) := by
  by_cases e : xs.length = ys.length
  · rw [← e, Nat.min_self, List.drop_length, e, List.drop_length] at h
    rw [decide_eq_true e]
    exact h
  · rw [decide_eq_false e]
    rcases Nat.lt_or_gt_of_ne e with l | l
    · rw [Nat.min_eq_left (by omega), List.drop_length] at h
      cases q : ys.drop xs.length with
      | nil => have := congrArg List.length q; rw [List.length_drop] at this; simp at this; omega
      | cons z zs => rw [q] at h; exact h
    · rw [Nat.min_eq_right (by omega), List.drop_length] at h
      cases q : xs.drop ys.length with
      | nil => have := congrArg List.length q; rw [List.length_drop] at this; simp at this; omega
      | cons z zs => rw [q] at h; exact h
/-- a turn of either loop -/
theorem turn_B (gr : Grow Rl) (E1 : EqOk X k D) (hr : Rm (k + 1) X.A) {pins : List (Addr × Obj)} {σ : L2.St} {H : Hp} {xs ys : List V} {b : Bool} {its its2 : Array Value} (r : Vals xs its.toList) (r2 : Vals ys its2.toList) {E : Value → Shared → Prop} {i : Nat} {s : Shared} (h1 : i < its.size) (h2 : i < its2.size)
    (hI : ∃ H2, Inv X pins σ H2 s ∧ Rl H H2 ∧ seqB (D Rl) H (xs.drop i) (ys.drop i) b) : wpAny (model X.prog X.w) X.A.in1 (eqBool its[i] its2[i]) (fun r s2 => if r = true then ∃ H2, Inv X pins σ H2 s2 ∧ Rl H H2 ∧ seqB (D Rl) H (xs.drop (i + 1)) (ys.drop (i + 1)) b else b = false ∧ ∃ H2, Inv X pins σ H2 s2 ∧ Rl H H2) E s := by
  obtain ⟨H2, I2, s2, hb⟩ := hI
  have lx : i < xs.length := by rw [r.length, Array.length_toList]; exact h1
  have ly : i < ys.length := by rw [r2.length, Array.length_toList]; exact h2
  obtain ⟨u, eu, ru⟩ := r.get (List.getElem?_eq_getElem lx)
  obtain ⟨v, ev, rv⟩ := r2.get (List.getElem?_eq_getElem ly)
  have e1 : its[i] = u := by
    rw [Array.getElem?_toList, Array.getElem?_eq_getElem h1] at eu
    exact Option.some.inj eu
  have e2 : its2[i] = v := by
    rw [Array.getElem?_toList, Array.getElem?_eq_getElem h2] at ev
    exact Option.some.inj ev
  rw [e1, e2]
  rcases seqB_step hb (List.getElem?_eq_getElem lx) (List.getElem?_eq_getElem ly) with ⟨d, e⟩ | ⟨d, e⟩
  · refine wpAny_mono (E1.run Rl X.A.in1 pins s σ H2 _ _ u v false E gr hr.in1 rfl I2 ru rv (E1.mono gr d s2)) (fun z s3 q => ?_) fun _ _ z => z
    obtain ⟨rfl, H3, I3, s3⟩ := q
    exact ⟨e, H3, I3, gr.trans s2 s3⟩
  · refine wpAny_mono (E1.run Rl X.A.in1 pins s σ H2 _ _ u v true E gr hr.in1 rfl I2 ru rv (E1.mono gr d s2)) (fun z s3 q => ?_) fun _ _ z => z
    obtain ⟨rfl, H3, I3, s3⟩ := q
    exact ⟨H3, I3, gr.trans s2 s3, e⟩
theorem seqC_run (nm : Bool) (E1 : EqOk X k D) (hr : Rm (k + 1) X.A) : OpR X (compareOp (if nm then .Eq else .NotEq)) (rSeqC X.K D nm) := by
  intro pins s σ H x y v u Q I rx ry h
  obtain ⟨Rl, a, c, xs, ys, b, gr, rfl, rfl, hk, hb, q⟩ := h
  obtain rfl : v = Value.ref a := rx
  obtain rfl : u = Value.ref c := ry
  have fin : ∀ {s2 : Shared} {H2 : Hp}, Inv X pins σ H2 s2 → Rl H H2 → EP X pins σ Q (.bool (if nm then b else !b)) s2 := fun {s2 H2} I2 s2 => ⟨.bl _, H2, I2, rfl, q _ s2⟩
  have fin2 : ∀ {s2 : Shared}, (b = false ∧ ∃ H2, Inv X pins σ H2 s2 ∧ Rl H H2) → EP X pins σ Q (.bool (!nm)) s2 := fun {s2} ⟨e, H2, I2, s2⟩ => by
    have := fin I2 s2
    rw [e] at this
    cases nm <;> exact this
  have go : wpAny (model X.prog X.w) X.A (richCompare (if nm then .Eq else .NotEq) (.ref a) (.ref c)) (EP X pins σ Q) X.xe s := by
    rcases hk with ⟨t1, t2⟩ | ⟨l1, l2, hlen⟩
    · obtain ⟨its, r, ⟨⟨cls, dd, data, sl⟩, ho, hc, n, hd⟩, _⟩ := I.tuple t1
      obtain ⟨its2, r2, ⟨⟨cls2, dd2, data2, sl2⟩, ho2, hc2, n2, hd2⟩, _⟩ := I.tuple t2
      simp only at hc hd hc2 hd2
      subst hc hd hc2 hd2
      have T := tup_cmp (A := X.A) (prog := X.prog) (w := X.w) (R := wants (fun v s2 => v ≠ .notImplemented ∧ EP X pins σ Q v s2) X.xe) (if nm then .Eq else .NotEq) nm a c its.toArray its2.toArray n n2 dd dd2 sl sl2 (by cases nm; exact .inr ⟨rfl, rfl⟩; exact .inl ⟨rfl, rfl⟩)
        (fun i s2 => ∃ H2, Inv X pins σ H2 s2 ∧ Rl H H2 ∧ seqB (D Rl) H (xs.drop i) (ys.drop i) b) (fun i h1 h2 s2 hI => wpAny_mono (turn_B gr E1 hr (its := its.toArray) (its2 := its2.toArray) (by simpa using r) (by simpa using r2) h1 h2 hI) (fun z s3 qz => by
          cases z with
          | true => exact qz
          | false => exact ⟨(fun z => nomatch z), fin2 qz⟩) fun _ _ z => z) (fun s2 ⟨H2, I2, sg, hb2⟩ => ⟨(fun z => nomatch z), ?_⟩) ho ho2 ⟨H, I, gr.refl _, hb⟩
      · cases nm with
        | true =>
          refine wpAny_richCompare_same_room (op := .Eq) ⟨_, ho, rfl⟩ ⟨_, ho2, rfl⟩ F.slot_tuple_eq (call_here F.slot_tuple_eq ⟨_, ho, rfl⟩ F.entry_tuple_eq (F.args_tuple_eq_2 _ _) ?_) hr.units0
          exact T
        | false =>
          refine wpAny_richCompare_same_room (op := .NotEq) ⟨_, ho, rfl⟩ ⟨_, ho2, rfl⟩ F.slot_tuple_ne (call_here F.slot_tuple_ne ⟨_, ho, rfl⟩ F.entry_tuple_ne (F.args_tuple_ne_2 _ _) ?_) hr.units0
          exact T
      · have e1 : its.toArray.size = xs.length := by rw [List.size_toArray, ← r.length]
        have e2 : its2.toArray.size = ys.length := by rw [List.size_toArray, ← r2.length]
        rw [e1, e2] at hb2 ⊢
        have := fin I2 sg
        rw [seqB_end hb2] at this
        exact this
    · have two : ∀ {H2 : Hp} {s2 : Shared}, Inv X pins σ H2 s2 → Rl H H2 → ∃ its its2, Two s2 a c xs.length ys.length its its2 ∧ Vals xs its.toList ∧ Vals ys its2.toList := fun {H2 s2} I2 sg => by
        obtain ⟨z, its, n, r, hz, e⟩ := I2.lstM (gr.lst sg l1)
        obtain ⟨z', its2, n2, r2, hz2, e2⟩ := I2.lstM (gr.lst sg l2)
        exact ⟨its.toArray, its2.toArray, ⟨by rw [List.size_toArray, ← r.length], by rw [List.size_toArray, ← r2.length], n, n2, e, e2⟩, by simpa using r, by simpa using r2⟩
      have T := lst_cmp (A := X.A) (prog := X.prog) (w := X.w) (R := wants (fun v s2 => v ≠ .notImplemented ∧ EP X pins σ Q v s2) X.xe) nm a c xs.length ys.length
        (fun i s2 => ∃ H2, Inv X pins σ H2 s2 ∧ Rl H H2 ∧ seqB (D Rl) H (xs.drop i) (ys.drop i) b) (fun i s2 hI => by
          obtain ⟨H2, I2, sg, hb2⟩ := hI
          obtain ⟨its, its2, tw, r, r2⟩ := two I2 sg
          refine ⟨its, its2, tw, fun h1 h2 => wpAny_mono (turn_B gr E1 hr r r2 h1 h2 ⟨H2, I2, sg, hb2⟩) (fun z s3 qz => ?_) fun _ _ z => z⟩
          cases z with
          | true =>
            obtain ⟨H3, I3, sg3, hb3⟩ := id qz
            obtain ⟨j1, j2, tw3, _⟩ := two I3 sg3
            exact ⟨⟨j1, j2, tw3⟩, qz⟩
          | false =>
            obtain ⟨_, H3, I3, sg3⟩ := id qz
            obtain ⟨j1, j2, tw3, _⟩ := two I3 sg3
            exact ⟨⟨j1, j2, tw3⟩, (fun z => nomatch z), fin2 qz⟩) (fun e s2 ⟨H2, I2, sg, hb2⟩ => ⟨(fun z => nomatch z), ?_⟩) (s := s) ⟨H, I, gr.refl _, hb⟩ (fun e => ⟨(fun z => nomatch z), fin2 ⟨hlen e, H, I, gr.refl _⟩⟩)
      · obtain ⟨its, its2, ⟨_, _, n, n2, e1, e2⟩, _⟩ := two I (gr.refl _)
        cases nm with
        | true =>
          refine wpAny_richCompare_same_room (op := .Eq) ⟨_, e1, rfl⟩ ⟨_, e2, rfl⟩ F.slot_list_eq (call_here F.slot_list_eq ⟨_, e1, rfl⟩ F.entry_list_eq (F.args_list_eq_2 _ _) ?_) hr.units0
          exact T
        | false =>
          refine wpAny_richCompare_same_room (op := .NotEq) ⟨_, e1, rfl⟩ ⟨_, e2, rfl⟩ F.slot_list_ne (call_here F.slot_list_ne ⟨_, e1, rfl⟩ F.entry_list_ne (F.args_list_ne_2 _ _) ?_) hr.units0
          exact T
      · have hb3 : b = true := by
          have z := seqB_end (D := D Rl) (H := H) (xs := xs) (ys := ys) (b := b) (by rw [← e, Nat.min_self]; rw [e] at hb2 ⊢; exact hb2)
          rw [z, decide_eq_true e]
        have := fin I2 sg
        rw [hb3] at this
        cases nm <;> exact this
  cases nm <;> exact go
end
end SJ

/-! MRa: values as trees, and slots that own what they hold. -/
namespace SJ
open PySem PySem.Spec PyProof.Rows L2 He LamX
inductive D where
  | non | bl (b : Bool) | int (i : Int) | str (s : Str) | cls (c : Str) | ty (n : String)
  | adr (a : Addr) | lst (xs : List D) | tup (xs : List D) | dct (kvs : List (Key × D)) | obj (c : Str) (fs : List (Str × D)) | exc (c : Str) (fs : List (Str × D))
mutual
inductive Rep (K : PySem.W.Frag) (F : Hp) : V → D → Prop
  | non : Rep K F .non .non
  | bl (b : Bool) : Rep K F (.bl b) (.bl b)
  | int (i : Int) : Rep K F (.int i) (.int i)
  | str (s : Str) : Rep K F (.str s) (.str s)
  | cls (c : Str) : Rep K F (.ref (ga K c)) (.cls c)
  | ty (n : String) : Rep K F (.ty n) (.ty n)
  | adr (a : Addr) : Rep K F (.ref a) (.adr a)
  | lst {a : Addr} {xs : List V} {ds : List D} : F a = some (.lst xs) → RepL K F xs ds → Rep K F (.ref a) (.lst ds)
  | tup {a : Addr} {xs : List V} {ds : List D} : SqT K F a xs → RepL K F xs ds → Rep K F (.ref a) (.tup ds)
  | dct {a : Addr} {kvs : List (Key × V)} {kds : List (Key × D)} : F a = some (.dK kvs) → kvs.map (·.1) = kds.map (·.1) → RepL K F (kvs.map (·.2)) (kds.map (·.2)) → Rep K F (.ref a) (.dct kds)
  | obj {a dx : Addr} {c : Str} {fs : List (Str × V)} {fds : List (Str × D)} : F a = some (.ins (ga K c) dx fs) → fs.map (·.1) = fds.map (·.1) → RepL K F (fs.map (·.2)) (fds.map (·.2)) → Rep K F (.ref a) (.obj c fds)
  | exc {a dd : Addr} {c : Str} {fs : List (Str × V)} {fds : List (Str × D)} : F a = some (XW a (.ref (ga K c)) (some dd)) → F dd = some (.xd fs) → fs.map (·.1) = fds.map (·.1) → RepL K F (fs.map (·.2)) (fds.map (·.2)) → Rep K F (.ref a) (.exc c fds)
inductive RepL (K : PySem.W.Frag) (F : Hp) : List V → List D → Prop
  | nil : RepL K F [] []
  | cons {v : V} {vs : List V} {d : D} {ds : List D} : Rep K F v d → RepL K F vs ds → RepL K F (v :: vs) (d :: ds)
end
def RepP {κ : Type} (K : PySem.W.Frag) (F : Hp) (kvs : List (κ × V)) (kds : List (κ × D)) : Prop := kvs.map (·.1) = kds.map (·.1) ∧ RepL K F (kvs.map (·.2)) (kds.map (·.2))
section
variable {K : PySem.W.Frag} {F F2 H : Hp} {κ : Type}
theorem sql_same (s : Same F F2) {l : Addr} {xs : List V} (h : SqL K F l xs) : SqL K F2 l xs := Same.seq s h
mutual
theorem Rep.mono (s : Same F F2) : ∀ {v : V} {d : D}, Rep K F v d → Rep K F2 v d
  | _, _, .non => .non
  | _, _, .bl b => .bl b
  | _, _, .int i => .int i
  | _, _, .str z => .str z
  | _, _, .cls z => .cls z
  | _, _, .ty z => .ty z
  | _, _, .adr z => .adr z
  | _, _, .lst h a => .lst (s _ _ h) (RepL.mono s a)
  | _, _, .tup h a => .tup (sqt_same s h) (RepL.mono s a)
  | _, _, .dct h e a => .dct (s _ _ h) e (RepL.mono s a)
  | _, _, .obj h e a => .obj (s _ _ h) e (RepL.mono s a)
  | _, _, .exc h h2 e a => .exc (s _ _ h) (s _ _ h2) e (RepL.mono s a)
theorem RepL.mono (s : Same F F2) : ∀ {vs : List V} {ds : List D}, RepL K F vs ds → RepL K F2 vs ds
  | _, _, .nil => .nil
  | _, _, .cons h a => .cons (Rep.mono s h) (RepL.mono s a)
end
theorem RepP.mono (s : Same F F2) {kvs : List (κ × V)} {kds : List (κ × D)} (h : RepP K F kvs kds) : RepP K F2 kvs kds := ⟨h.1, h.2.mono s⟩
theorem RepL.length {vs : List V} {ds : List D} (h : RepL K F vs ds) : vs.length = ds.length := by
  induction ds generalizing vs with
  | nil => cases h; rfl
  | cons d ds ih => cases h with | cons a b => rw [List.length_cons, List.length_cons, ih b]
theorem RepL.append {vs us : List V} {ds es : List D} (h : RepL K F vs ds) (g : RepL K F us es) : RepL K F (vs ++ us) (ds ++ es) := by
  induction ds generalizing vs with
  | nil => cases h; exact g
  | cons d ds ih => cases h with | cons a b => exact .cons a (ih b)
theorem RepL.one {v : V} {d : D} (h : Rep K F v d) : RepL K F [v] [d] := .cons h .nil
theorem RepL.at {vs : List V} {ds : List D} (h : RepL K F vs ds) {i : Nat} {d : D} (e : ds[i]? = some d) : ∃ v, vs[i]? = some v ∧ Rep K F v d := by
  induction ds generalizing vs i with
  | nil => cases e
  | cons d0 ds ih =>
    cases h with
    | cons a b =>
      cases i with
      | zero => cases e; exact ⟨_, rfl, a⟩
      | succ i => exact ih b e
theorem RepL.at' {vs : List V} {ds : List D} (h : RepL K F vs ds) {i : Nat} {v : V} (e : vs[i]? = some v) : ∃ d, ds[i]? = some d ∧ Rep K F v d := by
  induction ds generalizing vs i with
  | nil => cases h; cases e
  | cons d0 ds ih =>
    cases h with
    | cons a b =>
      cases i with
      | zero => cases e; exact ⟨_, rfl, a⟩
      | succ i => exact ih b e
theorem RepL.sub {vs : List V} {ds : List D} (h : RepL K F vs ds) (a b : Nat) : RepL K F ((vs.drop a).take b) ((ds.drop a).take b) := by
  induction ds generalizing vs a b with
  | nil => cases h; simp; exact .nil
  | cons d0 ds ih =>
    cases h with
    | cons x y =>
      cases a with
      | succ a => exact ih y a b
      | zero =>
        cases b with
        | zero => exact .nil
        | succ b => exact .cons x (ih y 0 b)
theorem RepL.erase {vs : List V} {ds : List D} (h : RepL K F vs ds) (i : Nat) : RepL K F (vs.eraseIdx i) (ds.eraseIdx i) := by
  induction ds generalizing vs i with
  | nil => cases h; exact .nil
  | cons d0 ds ih =>
    cases h with
    | cons x y =>
      cases i with
      | zero => exact y
      | succ i => exact .cons x (ih y i)
theorem RepL.set {vs : List V} {ds : List D} (h : RepL K F vs ds) (i : Nat) {v : V} {d : D} (r : Rep K F v d) : RepL K F (vs.set i v) (ds.set i d) := by
  induction ds generalizing vs i with
  | nil => cases h; exact .nil
  | cons d0 ds ih =>
    cases h with
    | cons x y =>
      cases i with
      | zero => exact .cons r y
      | succ i => exact .cons x (ih y i)
theorem RepL.ints {ns : List Int} : RepL K F (ns.map V.int) (ns.map D.int) := by
  induction ns with
  | nil => exact .nil
  | cons i ns ih => exact .cons (.int i) ih
theorem RepL.strs {ns : List Str} : RepL K F (ns.map V.str) (ns.map D.str) := by
  induction ns with
  | nil => exact .nil
  | cons i ns ih => exact .cons (.str i) ih
theorem RepL.strs' {vs : List V} {ns : List Str} (h : RepL K F vs (ns.map D.str)) : vs = ns.map V.str := by
  induction ns generalizing vs with
  | nil => cases h; rfl
  | cons i ns ih =>
    cases h with
    | cons a b => cases a; rw [List.map_cons, ih b]
theorem RepL.ints' {vs : List V} {ns : List Int} (h : RepL K F vs (ns.map D.int)) : vs = ns.map V.int := by
  induction ns generalizing vs with
  | nil => cases h; rfl
  | cons i ns ih =>
    cases h with
    | cons a b => cases a; rw [List.map_cons, ih b]
theorem RepL.bls' {vs : List V} {ns : List Bool} (h : RepL K F vs (ns.map D.bl)) : vs = ns.map V.bl := by
  induction ns generalizing vs with
  | nil => cases h; rfl
  | cons i ns ih =>
    cases h with
    | cons a b => cases a; rw [List.map_cons, ih b]
theorem RepP.nil : RepP K F ([] : List (κ × V)) [] := ⟨rfl, .nil⟩
theorem RepP.cons {k : κ} {v : V} {d : D} {kvs : List (κ × V)} {kds : List (κ × D)} (r : Rep K F v d) (h : RepP K F kvs kds) : RepP K F ((k, v) :: kvs) ((k, d) :: kds) := ⟨by rw [List.map_cons, List.map_cons, h.1], .cons r h.2⟩
theorem RepP.inv {kvs : List (κ × V)} {k : κ} {d : D} {kds : List (κ × D)} (h : RepP K F kvs ((k, d) :: kds)) : ∃ v r, kvs = (k, v) :: r ∧ Rep K F v d ∧ RepP K F r kds := by
  obtain ⟨h1, h2⟩ := h
  cases kvs with
  | nil => cases h1
  | cons q r =>
    obtain ⟨k2, v⟩ := q
    rw [List.map_cons, List.map_cons] at h1
    cases List.cons.inj h1 with
    | intro e1 e2 =>
      have e1 : k2 = k := e1
      subst e1
      cases h2 with
      | cons a b => exact ⟨v, r, rfl, a, e2, b⟩
theorem RepP.inv0 {kvs : List (κ × V)} (h : RepP K F kvs []) : kvs = [] := by
  cases kvs with
  | nil => rfl
  | cons q r => cases h.1
theorem RepP.lookup [BEq κ] {kvs : List (κ × V)} {kds : List (κ × D)} {k : κ} {d : D} (h : RepP K F kvs kds) (e : kds.lookup k = some d) : ∃ v, kvs.lookup k = some v ∧ Rep K F v d := by
  induction kds generalizing kvs with
  | nil => cases e
  | cons q kds ih =>
    obtain ⟨k2, d2⟩ := q
    obtain ⟨v, r, rfl, a, b⟩ := h.inv
    rw [List.lookup_cons] at e ⊢
    split at e
    · rename_i z; cases e; exact ⟨v, rfl, a⟩
    · rename_i z; exact ih b e
theorem RepP.lookupN [BEq κ] {kvs : List (κ × V)} {kds : List (κ × D)} {k : κ} (h : RepP K F kvs kds) (e : kds.lookup k = none) : kvs.lookup k = none := by
  induction kds generalizing kvs with
  | nil => rw [h.inv0]; rfl
  | cons q kds ih =>
    obtain ⟨k2, d2⟩ := q
    obtain ⟨v, r, rfl, a, b⟩ := h.inv
    rw [List.lookup_cons] at e ⊢
    split at e
    · cases e
    · exact ih b e
def putD (f : Str) (d : D) : List (Str × D) → List (Str × D)
  | [] => [(f, d)]
  | (g, x) :: r => if g = f then (g, d) :: r else (g, x) :: putD f d r
theorem RepP.putF {fs : List (Str × V)} {fds : List (Str × D)} {f : Str} {v : V} {d : D} (h : RepP K F fs fds) (r : Rep K F v d) : RepP K F (L2.putF f v fs) (putD f d fds) := by
  induction fds generalizing fs with
  | nil => rw [h.inv0]; exact RepP.cons r RepP.nil
  | cons q kds ih =>
    obtain ⟨k2, d2⟩ := q
    obtain ⟨v2, r2, rfl, a, b⟩ := h.inv
    show RepP K F (if k2 = f then (k2, v) :: r2 else (k2, v2) :: L2.putF f v r2) (if k2 = f then (k2, d) :: kds else (k2, d2) :: putD f d kds)
    by_cases e : k2 = f
    · rw [if_pos e, if_pos e]; exact RepP.cons r b
    · rw [if_neg e, if_neg e]; exact RepP.cons a (ih b)
theorem RepP.length {kvs : List (κ × V)} {kds : List (κ × D)} (h : RepP K F kvs kds) : kvs.length = kds.length := by
  have := congrArg List.length h.1
  rwa [List.length_map, List.length_map] at this
theorem Rep.dctP {a : Addr} {kds : List (Key × D)} (h : Rep K F (.ref a) (.dct kds)) : ∃ kvs, F a = some (.dK kvs) ∧ RepP K F kvs kds := by
  cases h with
  | dct h1 h2 h3 => exact ⟨_, h1, h2, h3⟩
theorem Rep.ofDct {a : Addr} {kvs : List (Key × V)} {kds : List (Key × D)} (h : F a = some (.dK kvs)) (r : RepP K F kvs kds) : Rep K F (.ref a) (.dct kds) := .dct h r.1 r.2
theorem Rep.ofObj {a dx : Addr} {c : Str} {fs : List (Str × V)} {kds : List (Str × D)} (h : F a = some (.ins (ga K c) dx fs)) (r : RepP K F fs kds) : Rep K F (.ref a) (.obj c kds) := .obj h r.1 r.2
theorem Rep.objP {v : V} {c : Str} {fds : List (Str × D)} (h : Rep K F v (.obj c fds)) : ∃ a dx fs, v = .ref a ∧ F a = some (.ins (ga K c) dx fs) ∧ RepP K F fs fds := by
  cases h with
  | obj h1 h2 h3 => exact ⟨_, _, _, rfl, h1, h2, h3⟩
theorem Rep.lstP {v : V} {ds : List D} (h : Rep K F v (.lst ds)) : ∃ a xs, v = .ref a ∧ F a = some (.lst xs) ∧ RepL K F xs ds := by
  cases h with
  | lst h1 h2 => exact ⟨_, _, rfl, h1, h2⟩
theorem Rep.tupP {v : V} {ds : List D} (h : Rep K F v (.tup ds)) : ∃ a xs, v = .ref a ∧ SqT K F a xs ∧ RepL K F xs ds := by
  cases h with
  | tup h1 h2 => exact ⟨_, _, rfl, h1, h2⟩
end
/-! ### slots -/
inductive Sl where
  | none | val (d : D) | own (d : D) | pen (n : Nat)
abbrev Ro := List Sl
def Sl.mut : Sl → Bool
  | .own _ => true
  | .pen _ => true
  | _ => false
def sl (ρ : Ro) (i : Nat) : Sl := (ρ[i]?).getD .none
def sv (σ : L2.St) (i : Nat) : Option V := (σ[i]?).getD none
def Shl (K : PySem.W.Frag) (F H : Hp) (p : Addr) : D → Prop
  | .lst ds => ∃ vs, H p = some (.lst vs) ∧ RepL K F vs ds
  | .dct kds => ∃ kvs, H p = some (.dK kvs) ∧ RepP K F kvs kds
  | .obj c fds => ∃ dx fs, H p = some (.ins (ga K c) dx fs) ∧ RepP K F fs fds
  | _ => False
def PenS (F H : Hp) (p : Addr) (n : Nat) : Prop := ∃ P : Pen, P.p = p ∧ F P.c = some (.lst (P.ns.map V.int)) ∧ ∃ a r : Int, H P.p = some (.lst [.ref P.c, .int a, .int r]) ∧ 0 ≤ a ∧ a ≤ n ∧ 0 ≤ r ∧ P.ns.length ≤ 1000
def MutOk (K : PySem.W.Frag) (F H : Hp) (p : Addr) : Sl → Prop
  | .own d => Shl K F H p d
  | .pen n => PenS F H p n
  | _ => False
def SlOk (K : PySem.W.Frag) (O : Hp) (F H : Hp) (w : Option V) (s : Sl) : Prop := match s with
  | .none => True
  | .val d => ∃ v, w = some v ∧ Rep K F v d
  | s => ∃ p, w = some (.ref p) ∧ F p = none ∧ O p = none ∧ MutOk K F H p s
/-- what lies outside and stays; what the first slot holds throughout -/
structure Oc where
  o : Hp
  w : Option V
  T : List (Addr × Str)
/-- no code object, no table of such -/
def NX (o : HO) : Prop := (∀ ps, o ≠ .tbl ps) ∧ ∀ φ, o ≠ .ext φ
theorem nx_lst {xs : List V} : NX (.lst xs) := ⟨fun _ z => (nomatch z), fun _ z => (nomatch z)⟩
theorem nx_tup {xs : List V} : NX (.tup xs) := ⟨fun _ z => (nomatch z), fun _ z => (nomatch z)⟩
theorem nx_dK {xs : List (Key × V)} : NX (.dK xs) := ⟨fun _ z => (nomatch z), fun _ z => (nomatch z)⟩
theorem nx_ins {C dx : Addr} {fs : List (Str × V)} : NX (.ins C dx fs) := ⟨fun _ z => (nomatch z), fun _ z => (nomatch z)⟩
theorem nx_xd {fs : List (Str × V)} : NX (.xd fs) := ⟨fun _ z => (nomatch z), fun _ z => (nomatch z)⟩
theorem nx_own {x : Addr} : NX (.own x) := ⟨fun _ z => (nomatch z), fun _ z => (nomatch z)⟩
theorem tabs_new {T : List (Addr × Str)} {H : Hp} {p : Addr} {o : HO} (t : Tabs T H) (h : H p = none) : Tabs T (upd H p o) := Tabs.ext t fun b u e => by rw [upd_ne (ne_of_none e h)]; exact e
theorem tabs_mut {T : List (Addr × Str)} {H : Hp} {p : Addr} {o u : HO} (t : Tabs T H) (h : H p = some o) (n : NX o) : Tabs T (upd H p u) := fun q hq => by
  obtain ⟨ps, a1, a2, a3⟩ := t q hq
  have e1 : q.1 ≠ p := fun z => by rw [z, h] at a1; exact n.1 ps (Option.some.inj a1)
  refine ⟨ps, by rw [upd_ne e1]; exact a1, a2, fun pos cv hc => ?_⟩
  obtain ⟨c, b1, b2⟩ := a3 pos cv hc
  have e2 : c ≠ p := fun z => by rw [z, h] at b2; exact n.2 _ (Option.some.inj b2)
  exact ⟨c, b1, by rw [upd_ne e2]; exact b2⟩
structure RS (K : PySem.W.Frag) (O : Oc) (F H : Hp) (σ : L2.St) (ρ : Ro) : Prop where
  fh : Same F H
  oh : Same O.o H
  dj : ∀ a o, O.o a = some o → F a = none
  tb : Tabs O.T H
  ot : ∀ a o, O.o a = some o → NX o
  ft : ∀ a o, F a = some o → ∀ ps, o ≠ .tbl ps
  w0 : ∀ v, O.w = some v → sv σ 0 = some v
  len : σ.length = ρ.length
  at_ : ∀ i, SlOk K O.o F H (sv σ i) (sl ρ i)
  ne : ∀ i j p, i ≠ j → (sl ρ i).mut = true → (sl ρ j).mut = true → sv σ i = some (.ref p) → sv σ j = some (.ref p) → False
section
variable {K : PySem.W.Frag} {F F2 H H2 : Hp} {σ : L2.St} {ρ : Ro} {p : Addr} {o : HO} {s : Sl} {w : Option V}
theorem sv_set {n i : Nat} {x : Option V} (h : n < σ.length) : sv (σ.set n x) i = if i = n then x else sv σ i := by
  unfold sv
  rw [List.getElem?_set]
  by_cases e : n = i
  · subst e; rw [if_pos rfl, if_pos h, if_pos rfl]; rfl
  · rw [if_neg e, if_neg (Ne.symm e)]
theorem sl_set {n i : Nat} {x : Sl} (h : n < ρ.length) : sl (ρ.set n x) i = if i = n then x else sl ρ i := by
  unfold sl
  rw [List.getElem?_set]
  by_cases e : n = i
  · subst e; rw [if_pos rfl, if_pos h, if_pos rfl]; rfl
  · rw [if_neg e, if_neg (Ne.symm e)]
theorem SlOk.mut_of {O : Hp} (h : SlOk K O F H w s) (m : s.mut = true) : ∃ p, w = some (.ref p) ∧ F p = none ∧ O p = none ∧ MutOk K F H p s := by
  cases s with
  | none => cases m
  | val d => cases m
  | own d => exact h
  | pen n => exact h
theorem SlOk.of_mut {O : Hp} (m : s.mut = true) (hw : w = some (.ref p)) (hF : F p = none) (hO : O p = none) (h : MutOk K F H p s) : SlOk K O F H w s := by
  cases s with
  | none => cases m
  | val d => cases m
  | own d => exact ⟨p, hw, hF, hO, h⟩
  | pen n => exact ⟨p, hw, hF, hO, h⟩
theorem MutOk.some (h : MutOk K F H p s) : ∃ o, H p = some o := by
  cases s with
  | none => cases h
  | val d => cases h
  | pen n => obtain ⟨P, rfl, _, a, r, h, _⟩ := h; exact ⟨_, h⟩
  | own d =>
    cases d with
    | lst ds => obtain ⟨_, h, _⟩ := h; exact ⟨_, h⟩
    | dct ds => obtain ⟨_, h, _⟩ := h; exact ⟨_, h⟩
    | obj c ds => obtain ⟨_, _, h, _⟩ := h; exact ⟨_, h⟩
    | _ => cases h
theorem MutOk.nx (h : MutOk K F H p s) : ∃ o, H p = Option.some o ∧ NX o := by
  cases s with
  | none => cases h
  | val d => cases h
  | pen n => obtain ⟨P, rfl, _, a, r, h, _⟩ := h; exact ⟨_, h, nx_lst⟩
  | own d =>
    cases d with
    | lst ds => obtain ⟨_, h, _⟩ := h; exact ⟨_, h, nx_lst⟩
    | dct ds => obtain ⟨_, h, _⟩ := h; exact ⟨_, h, nx_dK⟩
    | obj c ds => obtain ⟨_, _, h, _⟩ := h; exact ⟨_, h, nx_ins⟩
    | _ => cases h
/-- what a slot owns, over a heap that grew, or turned elsewhere -/
theorem MutOk.mono (h : MutOk K F H p s) (e : H2 p = H p) (g : Same F F2) : MutOk K F2 H2 p s := by
  cases s with
  | none => cases h
  | val d => cases h
  | pen n => obtain ⟨P, rfl, hc, a, r, h, z⟩ := h; exact ⟨P, rfl, g _ _ hc, a, r, by rw [e]; exact h, z⟩
  | own d =>
    cases d with
    | lst ds => obtain ⟨vs, h, r⟩ := h; exact ⟨vs, by rw [e]; exact h, r.mono g⟩
    | dct ds => obtain ⟨vs, h, r⟩ := h; exact ⟨vs, by rw [e]; exact h, r.mono g⟩
    | obj c ds => obtain ⟨dx, vs, h, r⟩ := h; exact ⟨dx, vs, by rw [e]; exact h, r.mono g⟩
    | _ => cases h
end
section
variable {K : PySem.W.Frag} {O : Oc} {F F2 H H2 : Hp} {σ : L2.St} {ρ : Ro} {p : Addr} {o : HO} {s : Sl} {w : Option V}
theorem RS.free (R : RS K O F H σ ρ) (h : H p = none) : F p = none ∧ O.o p = none := ⟨Same.free R.fh h, Same.free R.oh h⟩
theorem RS.owned (R : RS K O F H σ ρ) {i : Nat} (m : (sl ρ i).mut = true) : ∃ p, sv σ i = some (.ref p) ∧ F p = none ∧ O.o p = none ∧ MutOk K F H p (sl ρ i) := (R.at_ i).mut_of m
/-- a new frozen object -/
theorem ft_updT (R : RS K O F H σ ρ) (hx : ∀ ps, o ≠ .tbl ps) : ∀ a u, upd F p o a = some u → ∀ ps, u ≠ .tbl ps := fun a u e => by
  by_cases z : a = p
  · rw [z, upd_same] at e; cases e; exact hx
  · rw [upd_ne z] at e; exact R.ft a u e
theorem ft_upd (R : RS K O F H σ ρ) (hx : NX o) : ∀ a u, upd F p o a = some u → ∀ ps, u ≠ .tbl ps := ft_updT R hx.1
theorem RS.alloc (R : RS K O F H σ ρ) (h : H p = none) (hx : NX o) : RS K O (upd F p o) (upd H p o) σ ρ ∧ Same F (upd F p o) := by
  obtain ⟨f, q⟩ := R.free h
  have g : Same F (upd F p o) := Same.upd (Same.refl _) f
  refine ⟨⟨fun b u e => ?_, Same.upd R.oh h, fun a u e => ?_, tabs_new R.tb h, R.ot, ft_upd R hx, R.w0, R.len, fun i => ?_, R.ne⟩, g⟩
  · by_cases z : b = p
    · rw [z, upd_same] at e ⊢; exact e
    · rw [upd_ne z] at e ⊢; exact R.fh _ _ e
  · rw [upd_ne (ne_of_none e q)]; exact R.dj a u e
  · have h1 := R.at_ i
    cases es : sl ρ i with
    | none => trivial
    | val d => rw [es] at h1; obtain ⟨v, h1, h2⟩ := h1; exact ⟨v, h1, h2.mono g⟩
    | own d =>
      rw [es] at h1
      obtain ⟨a, h1, h2, h3, h4⟩ := h1
      obtain ⟨u, hu⟩ := h4.some
      have n := ne_of_none hu h
      exact ⟨a, h1, by rw [upd_ne n]; exact h2, h3, h4.mono (upd_ne n) g⟩
    | pen d =>
      rw [es] at h1
      obtain ⟨a, h1, h2, h3, h4⟩ := h1
      obtain ⟨u, hu⟩ := h4.some
      have n := ne_of_none hu h
      exact ⟨a, h1, by rw [upd_ne n]; exact h2, h3, h4.mono (upd_ne n) g⟩
/-- a new object that nobody holds yet -/
theorem RS.allocN (R : RS K O F H σ ρ) (h : H p = none) : RS K O F (upd H p o) σ ρ := by
  refine ⟨Same.upd R.fh h, Same.upd R.oh h, R.dj, tabs_new R.tb h, R.ot, R.ft, R.w0, R.len, fun i => ?_, R.ne⟩
  have h1 := R.at_ i
  by_cases m : (sl ρ i).mut = true
  · obtain ⟨a, h1, h2, h3, h4⟩ := h1.mut_of m
    obtain ⟨u, hu⟩ := h4.some
    exact SlOk.of_mut m h1 h2 h3 (h4.mono (upd_ne (ne_of_none hu h)) (Same.refl _))
  · cases es : sl ρ i with
    | none => trivial
    | val d => rw [es] at h1; exact h1
    | own d => rw [es] at m; exact absurd rfl m
    | pen d => rw [es] at m; exact absurd rfl m
/-- slot n gets a frozen value -/
theorem w_set {n : Nat} {x : Option V} (R : RS K O F H σ ρ) (hn0 : n ≠ 0) : ∀ v, O.w = some v → sv (σ.set n x) 0 = some v := fun v e => by
  rw [← R.w0 v e]
  unfold sv
  rw [List.getElem?_set_ne hn0]
theorem RS.put (R : RS K O F H σ ρ) {n : Nat} {v : V} {d : D} (hn0 : n ≠ 0) (r : Rep K F v d) : RS K O F H (σ.set n (some v)) (ρ.set n (.val d)) := by
  by_cases hn : n < σ.length
  · have hm : n < ρ.length := by rw [← R.len]; exact hn
    refine ⟨R.fh, R.oh, R.dj, R.tb, R.ot, R.ft, w_set R hn0, by rw [List.length_set, List.length_set, R.len], fun i => ?_, fun i j a ij mi mj vi vj => ?_⟩
    · rw [sv_set hn, sl_set hm]
      by_cases e : i = n
      · rw [if_pos e, if_pos e]; exact ⟨v, rfl, r⟩
      · rw [if_neg e, if_neg e]; exact R.at_ i
    · rw [sl_set hm] at mi mj
      rw [sv_set hn] at vi vj
      by_cases e : i = n
      · rw [if_pos e] at mi; cases mi
      · by_cases f : j = n
        · rw [if_pos f] at mj; cases mj
        · rw [if_neg e] at mi vi; rw [if_neg f] at mj vj; exact R.ne i j a ij mi mj vi vj
  · rw [List.set_eq_of_length_le (by omega), List.set_eq_of_length_le (by rw [← R.len]; omega)]; exact R
/-- slot n comes to own p -/
theorem RS.putO (R : RS K O F H σ ρ) {n : Nat} (hn0 : n ≠ 0) (hn : n < ρ.length) (m : s.mut = true) (hF : F p = none) (hO : O.o p = none) (h : MutOk K F H p s) (hx : ∀ i, i ≠ n → (sl ρ i).mut = true → sv σ i ≠ some (.ref p)) : RS K O F H (σ.set n (some (.ref p))) (ρ.set n s) := by
  have hs : n < σ.length := by rw [R.len]; exact hn
  refine ⟨R.fh, R.oh, R.dj, R.tb, R.ot, R.ft, w_set R hn0, by rw [List.length_set, List.length_set, R.len], fun i => ?_, fun i j a ij mi mj vi vj => ?_⟩
  · rw [sv_set hs, sl_set hn]
    by_cases e : i = n
    · rw [if_pos e, if_pos e]; exact SlOk.of_mut m rfl hF hO h
    · rw [if_neg e, if_neg e]; exact R.at_ i
  · rw [sl_set hn] at mi mj
    rw [sv_set hs] at vi vj
    by_cases e : i = n
    · rw [if_pos e] at mi vi
      by_cases f : j = n
      · exact ij (e.trans f.symm)
      · rw [if_neg f] at mj vj
        cases vi
        exact hx j f mj vj
    · rw [if_neg e] at mi vi
      by_cases f : j = n
      · rw [if_pos f] at mj vj
        cases vj
        exact hx i e mi vi
      · rw [if_neg f] at mj vj; exact R.ne i j a ij mi mj vi vj
theorem RS.no_new (R : RS K O F H σ ρ) (h : H p = none) : ∀ i, (sl ρ i).mut = true → sv σ i ≠ some (.ref p) := fun i m e => by
  obtain ⟨a, h1, _, _, h4⟩ := R.owned m
  rw [h1] at e
  cases e
  obtain ⟨o, ho⟩ := h4.some
  rw [ho] at h; cases h
/-- the object that slot n owns turns -/
theorem RS.mutO (R : RS K O F H σ ρ) {n : Nat} (m : (sl ρ n).mut = true) (hp : sv σ n = some (.ref p)) (m2 : s.mut = true) (h : MutOk K F (upd H p o) p s) : RS K O F (upd H p o) σ (ρ.set n s) := by
  obtain ⟨p2, h1, h2, h3, h4⟩ := R.owned m
  rw [hp] at h1
  cases h1
  have hn : n < ρ.length := by
    by_cases q : n < ρ.length
    · exact q
    · exfalso
      unfold sl at m
      rw [List.getElem?_eq_none (by omega)] at m
      cases m
  obtain ⟨oo, ho1, ho2⟩ := h4.nx
  refine ⟨Same.mut R.fh h2, Same.mut R.oh h3, R.dj, tabs_mut R.tb ho1 ho2, R.ot, R.ft, R.w0, by rw [List.length_set, R.len], fun i => ?_, fun i j a ij mi mj vi vj => ?_⟩
  · rw [sl_set hn]
    by_cases e : i = n
    · rw [if_pos e, e, hp]; exact SlOk.of_mut m2 rfl h2 h3 h
    · rw [if_neg e]
      have q := R.at_ i
      by_cases mi : (sl ρ i).mut = true
      · obtain ⟨b, q1, q2, q3, q4⟩ := q.mut_of mi
        have nb : b ≠ p := fun z => R.ne i n p e mi m (by rw [q1, z]) hp
        exact SlOk.of_mut mi q1 q2 q3 (q4.mono (upd_ne nb) (Same.refl _))
      · cases es : sl ρ i with
        | none => trivial
        | val d => rw [es] at q; exact q
        | own d => rw [es] at mi; exact absurd rfl mi
        | pen d => rw [es] at mi; exact absurd rfl mi
  · rw [sl_set hn] at mi mj
    refine R.ne i j a ij ?_ ?_ vi vj
    · by_cases e : i = n
      · rw [e]; exact m
      · rw [if_neg e] at mi; exact mi
    · by_cases e : j = n
      · rw [e]; exact m
      · rw [if_neg e] at mj; exact mj
/-- what is owned is frozen -/
theorem Shl.rep {d : D} (h : Shl K F H p d) (hF : F p = none) : ∃ o, H p = some o ∧ NX o ∧ Rep K (upd F p o) (.ref p) d := by
  have g : ∀ {o}, Same F (upd F p o) := fun {o} => Same.upd (Same.refl _) hF
  cases d with
  | lst ds => obtain ⟨vs, h, r⟩ := h; exact ⟨_, h, nx_lst, .lst upd_same (r.mono g)⟩
  | dct ds => obtain ⟨vs, h, r⟩ := h; exact ⟨_, h, nx_dK, .ofDct upd_same (r.mono g)⟩
  | obj c ds => obtain ⟨dx, vs, h, r⟩ := h; exact ⟨_, h, nx_ins, .ofObj upd_same (r.mono g)⟩
  | _ => cases h
theorem RS.thaw (R : RS K O F H σ ρ) (ho : H p = some o) (hnx : NX o) (hF : F p = none) (hO : O.o p = none) (hx : ∀ i, (sl ρ i).mut = true → sv σ i ≠ some (.ref p)) : RS K O (upd F p o) H σ ρ ∧ Same F (upd F p o) := by
  have g : Same F (upd F p o) := Same.upd (Same.refl _) hF
  refine ⟨⟨fun b u e => ?_, R.oh, fun a u e => ?_, R.tb, R.ot, ft_upd R hnx, R.w0, R.len, fun i => ?_, R.ne⟩, g⟩
  · by_cases z : b = p
    · rw [z, upd_same] at e; rw [z]; cases e; exact ho
    · rw [upd_ne z] at e; exact R.fh _ _ e
  · rw [upd_ne (ne_of_none e hO)]; exact R.dj a u e
  · have q := R.at_ i
    by_cases mi : (sl ρ i).mut = true
    · obtain ⟨b, q1, q2, q3, q4⟩ := q.mut_of mi
      have nb : b ≠ p := fun z => hx i mi (by rw [q1, z])
      exact SlOk.of_mut mi q1 (by rw [upd_ne nb]; exact q2) q3 (q4.mono rfl g)
    · cases es : sl ρ i with
      | none => trivial
      | val d => rw [es] at q; obtain ⟨v, q1, q2⟩ := q; exact ⟨v, q1, q2.mono g⟩
      | own d => rw [es] at mi; exact absurd rfl mi
      | pen d => rw [es] at mi; exact absurd rfl mi
theorem RS.freeze (R : RS K O F H σ ρ) {n : Nat} {d : D} (e : sl ρ n = .own d) : ∃ p F2, sv σ n = some (.ref p) ∧ Same F F2 ∧ Rep K F2 (.ref p) d ∧ RS K O F2 H σ (ρ.set n (.val d)) := by
  have m : (sl ρ n).mut = true := by rw [e]; rfl
  obtain ⟨p, h1, h2, h3, h4⟩ := R.owned m
  rw [e] at h4
  obtain ⟨o, ho, hnx, r⟩ := Shl.rep h4 h2
  have hn : n < ρ.length := by
    by_cases q : n < ρ.length
    · exact q
    · exfalso
      unfold sl at m
      rw [List.getElem?_eq_none (by omega)] at m
      cases m
  have R1 : RS K O F H σ (ρ.set n .none) := by
    refine ⟨R.fh, R.oh, R.dj, R.tb, R.ot, R.ft, R.w0, by rw [List.length_set, R.len], fun i => ?_, fun i j a ij mi mj vi vj => ?_⟩
    · rw [sl_set hn]
      by_cases q : i = n
      · rw [if_pos q]; trivial
      · rw [if_neg q]; exact R.at_ i
    · rw [sl_set hn] at mi mj
      by_cases q : i = n
      · rw [if_pos q] at mi; cases mi
      · by_cases t : j = n
        · rw [if_pos t] at mj; cases mj
        · rw [if_neg q] at mi; rw [if_neg t] at mj; exact R.ne i j a ij mi mj vi vj
  obtain ⟨R2, g⟩ := R1.thaw ho hnx h2 h3 (fun i mi vi => by
    rw [sl_set hn] at mi
    by_cases q : i = n
    · rw [if_pos q] at mi; cases mi
    · rw [if_neg q] at mi; exact R.ne i n p q mi m vi h1)
  refine ⟨p, _, h1, g, r, ?_⟩
  have hn2 : n < (ρ.set n Sl.none).length := by rw [List.length_set]; exact hn
  refine ⟨R2.fh, R2.oh, R2.dj, R2.tb, R2.ot, R2.ft, R2.w0, by rw [List.length_set, R.len], fun i => ?_, fun i j a ij mi mj vi vj => ?_⟩
  · have q := R2.at_ i
    rw [sl_set hn] at q ⊢
    by_cases e2 : i = n
    · rw [if_pos e2, e2, h1]; exact ⟨_, rfl, r⟩
    · rw [if_neg e2] at q ⊢; exact q
  · rw [sl_set hn] at mi mj
    by_cases q : i = n
    · rw [if_pos q] at mi; cases mi
    · by_cases t : j = n
      · rw [if_pos t] at mj; cases mj
      · rw [if_neg q] at mi; rw [if_neg t] at mj; exact R.ne i j a ij mi mj vi vj
theorem RS.drop (R : RS K O F H σ ρ) {O2 : Oc} (h : Same O2.o O.o) (hw : O2.w = O.w ∨ O2.w = none) (hT : O2.T = O.T) : RS K O2 F H σ ρ := by
  refine ⟨R.fh, Same.trans h R.oh, fun a o e => R.dj a o (h _ _ e), (by rw [hT]; exact R.tb), (fun a o e => R.ot a o (h _ _ e)), R.ft, (fun v e => hw.elim (fun z => R.w0 v (z ▸ e)) fun z => nomatch (z.symm.trans e)), R.len, fun i => ?_, R.ne⟩
  have q := R.at_ i
  by_cases mi : (sl ρ i).mut = true
  · obtain ⟨b, q1, q2, q3, q4⟩ := q.mut_of mi
    exact SlOk.of_mut mi q1 q2 (Same.free h q3) q4
  · cases es : sl ρ i with
    | none => trivial
    | val d => rw [es] at q; exact q
    | own d => rw [es] at mi; exact absurd rfl mi
    | pen d => rw [es] at mi; exact absurd rfl mi
end
end SJ

/-! MRb: readings without heaps, and their steps. -/
namespace SJ
open PySem PySem.Spec PyProof.Rows L2 He
inductive X where
  | val (d : D) | slot (n : Nat)
def XvR (K : PySem.W.Frag) (F : Hp) (σ : L2.St) (v : V) : X → Prop
  | .val d => Rep K F v d
  | .slot n => sv σ n = some v
def XsV (K : PySem.W.Frag) (F : Hp) (σ : L2.St) : List V → List X → Prop
  | [], [] => True
  | v :: vs, x :: xs => XvR K F σ v x ∧ XsV K F σ vs xs
  | _, _ => False
/-- what is taken as a value for good -/
def Frz (x : X) (ρ : Ro) (Q : D → Ro → Prop) : Prop := match x with
  | .val d => Q d ρ
  | .slot n => match sl ρ n with
    | .own d => Q d (ρ.set n (.val d))
    | .val d => Q d ρ
    | _ => False
def FrzL : List X → Ro → (List D → Ro → Prop) → Prop
  | [], ρ, Q => Q [] ρ
  | x :: xs, ρ, Q => Frz x ρ fun d ρ2 => FrzL xs ρ2 fun ds ρ3 => Q (d :: ds) ρ3
/-- what is only looked at -/
def See (x : X) (ρ : Ro) (Q : D → Prop) : Prop := match x with
  | .val d => Q d
  | .slot n => match sl ρ n with
    | .own d => Q d
    | .val d => Q d
    | _ => False
structure Hn where
  nx : Ro → Prop
  rt : D → Ro → Prop
  bk : Ro → Prop := fun _ => False
  ct : Ro → Prop := fun _ => False
  rf : D → Ro → Prop := fun _ _ => False
section
variable (K : PySem.W.Frag) (O : Oc) (F0 : Hp)
def Me (t : TE) (ρ : Ro) (Q : X → Ro → Prop) : Prop := ∀ (F H : Hp) (σ : L2.St) (Qh : VK), Same F0 F → RS K O F H σ ρ → (∀ v H2 F2 x ρ2, Same F F2 → RS K O F2 H2 σ ρ2 → XvR K F2 σ v x → Q x ρ2 → Qh v H2) → t σ H Qh
def Mt (t : TT) (ρ : Ro) (Q : Bool → Ro → Prop) : Prop := ∀ (F H : Hp) (σ : L2.St) (Qh : Bool → Hp → Prop), Same F0 F → RS K O F H σ ρ → (∀ b H2 F2 ρ2, Same F F2 → RS K O F2 H2 σ ρ2 → Q b ρ2 → Qh b H2) → t σ H Qh
def Ma (t : TA) (ρ : Ro) (Q : List X → Ro → Prop) : Prop := ∀ (F H : Hp) (σ : L2.St) (Qh : List V → Hp → Prop), Same F0 F → RS K O F H σ ρ → (∀ vs H2 F2 xs ρ2, Same F F2 → RS K O F2 H2 σ ρ2 → XsV K F2 σ vs xs → Q xs ρ2 → Qh vs H2) → t σ H Qh
def Mr (r : R2) (x y : X) (ρ : Ro) (Q : X → Ro → Prop) : Prop := ∀ (F H : Hp) (σ : L2.St) (u v : V) (Qh : VK), Same F0 F → RS K O F H σ ρ → XvR K F σ u x → XvR K F σ v y → (∀ v H2 F2 x ρ2, Same F F2 → RS K O F2 H2 σ ρ2 → XvR K F2 σ v x → Q x ρ2 → Qh v H2) → r u v H Qh
def Mc (r : List V → Hp → VK → Prop) (xs : List X) (ρ : Ro) (Q : X → Ro → Prop) : Prop := ∀ (F H : Hp) (σ : L2.St) (vs : List V) (Qh : VK), Same F0 F → RS K O F H σ ρ → XsV K F σ vs xs → (∀ v H2 F2 x ρ2, Same F F2 → RS K O F2 H2 σ ρ2 → XvR K F2 σ v x → Q x ρ2 → Qh v H2) → r vs H Qh
/-- a new object, nobody's yet -/
def Nw (K : PySem.W.Frag) (O : Oc) (F H : Hp) (σ : L2.St) (ρ : Ro) (p : Addr) (d : D) : Prop := F p = none ∧ O.o p = none ∧ (∀ i, (sl ρ i).mut = true → sv σ i ≠ some (.ref p)) ∧ Shl K F H p d
def Mf (t : TE) (ρ : Ro) (Q : D → Ro → Prop) : Prop := ∀ (F H : Hp) (σ : L2.St) (Qh : VK), Same F0 F → RS K O F H σ ρ → (∀ p H2 F2 d ρ2, Same F F2 → RS K O F2 H2 σ ρ2 → Nw K O F2 H2 σ ρ2 p d → Q d ρ2 → Qh (.ref p) H2) → t σ H Qh
structure EnOk (F : Hp) (E : Ends) (N : Hn) : Prop where
  nx : ∀ F2 H2 σ2 ρ2, Same F F2 → RS K O F2 H2 σ2 ρ2 → N.nx ρ2 → E.nx σ2 H2
  rt : ∀ F2 H2 σ2 ρ2 v d, Same F F2 → RS K O F2 H2 σ2 ρ2 → Rep K F2 v d → N.rt d ρ2 → E.rt v H2
  bk : ∀ F2 H2 σ2 ρ2, Same F F2 → RS K O F2 H2 σ2 ρ2 → N.bk ρ2 → E.bk σ2 H2
  ct : ∀ F2 H2 σ2 ρ2, Same F F2 → RS K O F2 H2 σ2 ρ2 → N.ct ρ2 → E.ct σ2 H2
  rf : ∀ F2 H2 σ2 ρ2 p d, Same F F2 → RS K O F2 H2 σ2 ρ2 → Nw K O F2 H2 σ2 ρ2 p d → N.rf d ρ2 → E.rt (.ref p) H2
def Ms (t : TS) (ρ : Ro) (N : Hn) : Prop := ∀ (F H : Hp) (σ : L2.St) (E : Ends), Same F0 F → RS K O F H σ ρ → EnOk K O F E N → t E σ H
/-- js: the slots that a target writes -/
def Mg (g : TG) (js : List Nat) (d : D) (ρ : Ro) (N : Ro → Prop) : Prop := ∀ (F H : Hp) (σ : L2.St) (v : V) (Qs : L2.St → Hp → Prop), Same F0 F → RS K O F H σ ρ → Rep K F v d →
  (∀ F2 H2 σ2 ρ2, Same F F2 → RS K O F2 H2 σ2 ρ2 → (∀ vs, (∀ j ∈ js, j ∈ vs) → wipe σ2 vs = wipe σ vs) → N ρ2 → Qs σ2 H2) → g v σ H Qs
/-- what is raised: the record d's fields -/
def Wr (W : WX) (Xp : Str → List (Str × D) → Ro → Prop) : Prop := ∀ (F H : Hp) (σ : L2.St) (ρ : Ro) (c : Str) (fs : List (Str × D)) (dd : Addr) (fvs : List (Str × V)), Same F0 F → H dd = some (.xd fvs) → RS K { O with o := upd O.o dd (.xd fvs) } F H σ ρ → O.o dd = none → RepP K F fvs fs → Xp c fs ρ → W (.ref (ga K c)) (some dd) σ H
/-- an iterator's walk over trees -/
def WalkD (F : Hp) (J : It) (ds : List D) : Prop := ∀ (i : Nat) (F1 H : Hp) (σ : L2.St) (ρ : Ro), Same F F1 → RS K O F1 H σ ρ → (ds.length ≤ i → J.stop i H) ∧ ∀ d, ds[i]? = some d → J.go i H ∧ ∀ x H2, J.yld i H x H2 → ∃ F2, Same F1 F2 ∧ RS K O F2 H2 σ ρ ∧ Rep K F2 x d
end
def Mi (K : PySem.W.Frag) (O : Oc) (F0 : Hp) (wi : TI) (ρ : Ro) (Q : List D → Ro → Prop) : Prop := ∀ (F H : Hp) (σ : L2.St) (R : It → Hp → Prop), Same F0 F → RS K O F H σ ρ → (∀ J H2 F2 ds ρ2, Same F F2 → RS K O F2 H2 σ ρ2 → (∀ O2 : Oc, WalkD K O2 F2 J ds) → Q ds ρ2 → R J H2) → wi σ H R
section
variable {K : PySem.W.Frag} {O : Oc} {F0 F F2 H H2 : Hp} {σ : L2.St} {ρ : Ro} {Q : X → Ro → Prop} {QT : Bool → Ro → Prop} {QA : List X → Ro → Prop} {QF : D → Ro → Prop} {ta tb te to : TE} {t u : TT} {tA tK : TA} {ts tz : TS} {r : R2} {N : Hn} {n i : Nat} {x y : X} {d : D} {g : TG}
theorem XvR.mono {v : V} (h : XvR K F σ v x) (s : Same F F2) : XvR K F2 σ v x := by
  cases x with
  | val d => exact Rep.mono s h
  | slot n => exact h
theorem XsV.mono : ∀ {vs : List V} {xs : List X}, XsV K F σ vs xs → Same F F2 → XsV K F2 σ vs xs
  | [], [], _, _ => trivial
  | _ :: _, _ :: _, h, s => ⟨h.1.mono s, h.2.mono s⟩
theorem EnOk.mono {E : Ends} (h : EnOk K O F E N) (s : Same F F2) : EnOk K O F2 E N := ⟨fun F3 H3 a b c => h.nx F3 H3 a b (Same.trans s c), fun F3 H3 a b c d e => h.rt F3 H3 a b c d (Same.trans s e), fun F3 H3 a b c => h.bk F3 H3 a b (Same.trans s c), fun F3 H3 a b c => h.ct F3 H3 a b (Same.trans s c), fun F3 H3 a b c d e => h.rf F3 H3 a b c d (Same.trans s e)⟩
theorem Wr.mono {W : WX} {Xp : Str → List (Str × D) → Ro → Prop} (h : Wr K O F W Xp) (s : Same F F2) : Wr K O F2 W Xp := fun F3 H3 a b c d e f g => h F3 H3 a b c d e f (Same.trans s g)
theorem sv_some {v : V} (h : sv σ n = some v) : σ[n]? = some (some v) := by
  unfold sv at h
  cases e : σ[n]? with
  | none => rw [e] at h; cases h
  | some w => rw [e] at h; exact congrArg some h
/-- a frozen value out of a held one -/
theorem frz_of {v : V} {P : D → Ro → Prop} (R : RS K O F H σ ρ) (h : XvR K F σ v x) (q : Frz x ρ P) : ∃ d ρ2 F2, Same F F2 ∧ RS K O F2 H σ ρ2 ∧ Rep K F2 v d ∧ P d ρ2 := by
  cases x with
  | val d => exact ⟨d, ρ, F, Same.refl _, R, h, q⟩
  | slot n =>
    have e : sv σ n = some v := h
    unfold Frz at q
    cases es : sl ρ n with
    | none => simp only [es] at q
    | pen k => simp only [es] at q
    | val d =>
      simp only [es] at q
      have a := R.at_ n
      rw [es] at a
      obtain ⟨w, a1, a2⟩ := a
      rw [e] at a1; cases a1
      exact ⟨d, ρ, F, Same.refl _, R, a2, q⟩
    | own d =>
      simp only [es] at q
      obtain ⟨p, F2, h1, h2, h3, h4⟩ := R.freeze es
      rw [e] at h1; cases h1
      exact ⟨d, _, F2, h2, h4, h3, q⟩
theorem frzL_of {vs : List V} {xs : List X} {P : List D → Ro → Prop} (R : RS K O F H σ ρ) (h : XsV K F σ vs xs) (q : FrzL xs ρ P) : ∃ ds ρ2 F2, Same F F2 ∧ RS K O F2 H σ ρ2 ∧ RepL K F2 vs ds ∧ P ds ρ2 := by
  induction xs generalizing vs ρ F P with
  | nil =>
    cases vs with
    | nil => exact ⟨[], ρ, F, Same.refl _, R, .nil, q⟩
    | cons v vs => cases h
  | cons x xs ih =>
    cases vs with
    | nil => cases h
    | cons v vs =>
      obtain ⟨d, ρ1, F1, s1, R1, r1, q1⟩ := frz_of R h.1 q
      obtain ⟨ds, ρ2, F2, s2, R2, r2, q2⟩ := ih R1 (h.2.mono s1) q1
      exact ⟨_, ρ2, F2, Same.trans s1 s2, R2, .cons (r1.mono s2) r2, q2⟩
/-- .. looked at: in the whole heap -/
theorem see_of {v : V} {P : D → Prop} (R : RS K O F H σ ρ) (h : XvR K F σ v x) (q : See x ρ P) : ∃ d, Rep K H v d ∧ P d := by
  cases x with
  | val d => exact ⟨d, Rep.mono R.fh h, q⟩
  | slot n =>
    have e : sv σ n = some v := h
    unfold See at q
    cases es : sl ρ n with
    | none => simp only [es] at q
    | pen k => simp only [es] at q
    | val d =>
      simp only [es] at q
      have a := R.at_ n
      rw [es] at a
      obtain ⟨w, a1, a2⟩ := a
      rw [e] at a1; cases a1
      exact ⟨d, a2.mono R.fh, q⟩
    | own d =>
      simp only [es] at q
      obtain ⟨p, F2, h1, h2, h3, h4⟩ := R.freeze es
      rw [e] at h1; cases h1
      exact ⟨d, h3.mono h4.fh, q⟩
/-! #### expressions -/
theorem m_var (e : sl ρ n = .val d) (k : Q (.val d) ρ) : Me K O F0 (tVar n) ρ Q := fun F H σ Qh s R c => by
  have a := R.at_ n
  rw [e] at a
  obtain ⟨w, a1, a2⟩ := a
  exact ⟨w, sv_some a1, c w H F (.val d) ρ (Same.refl _) R a2 k⟩
theorem m_varS (e : (sl ρ n).mut = true) (k : Q (.slot n) ρ) : Me K O F0 (tVar n) ρ Q := fun F H σ Qh s R c => by
  obtain ⟨p, a1, _⟩ := R.owned e
  exact ⟨_, sv_some a1, c _ H F (.slot n) ρ (Same.refl _) R a1 k⟩
theorem m_cI {i : Int} (k : Q (.val (.int i)) ρ) : Me K O F0 (tC (.int i)) ρ Q := fun F H σ Qh s R c => c _ H F (.val (.int i)) ρ (Same.refl _) R (Rep.int i) k
theorem m_cS {i : Str} (k : Q (.val (.str i)) ρ) : Me K O F0 (tC (.str i)) ρ Q := fun F H σ Qh s R c => c _ H F (.val (.str i)) ρ (Same.refl _) R (Rep.str i) k
theorem m_cB {i : Bool} (k : Q (.val (.bl i)) ρ) : Me K O F0 (tC (.bl i)) ρ Q := fun F H σ Qh s R c => c _ H F (.val (.bl i)) ρ (Same.refl _) R (Rep.bl i) k
theorem m_cN (k : Q (.val .non) ρ) : Me K O F0 (tC .non) ρ Q := fun F H σ Qh s R c => c _ H F (.val .non) ρ (Same.refl _) R Rep.non k
theorem m_cC {i : Str} (k : Q (.val (.cls i)) ρ) : Me K O F0 (tC (.ref (ga K i))) ρ Q := fun F H σ Qh s R c => c _ H F (.val (.cls i)) ρ (Same.refl _) R (Rep.cls i) k
theorem m_cT {i : String} (k : Q (.val (.ty i)) ρ) : Me K O F0 (tC (.ty i)) ρ Q := fun F H σ Qh s R c => c _ H F (.val (.ty i)) ρ (Same.refl _) R (Rep.ty i) k
theorem m_op (k : Me K O F0 ta ρ fun x ρ1 => Me K O F0 tb ρ1 fun y ρ2 => Mr K O F0 r x y ρ2 Q) : Me K O F0 (tOp r ta tb) ρ Q := fun F H σ Qh s R c =>
  k F H σ _ s R fun v1 H1 F1 x ρ1 s1 R1 r1 k1 => k1 F1 H1 σ _ (Same.trans s s1) R1 fun v2 H2 F2 y ρ2 s2 R2 r2 k2 => k2 F2 H2 σ v1 v2 Qh (Same.trans s (Same.trans s1 s2)) R2 (r1.mono s2) r2 fun v H3 F3 z ρ3 s3 R3 r3 q => c v H3 F3 z ρ3 (Same.trans s1 (Same.trans s2 s3)) R3 r3 q
theorem m_cb {r : List V → Hp → VK → Prop} (k : Ma K O F0 tA ρ fun xs ρ1 => Mc K O F0 r xs ρ1 Q) : Me K O F0 (tCB r tA) ρ Q := fun F H σ Qh s R c =>
  k F H σ _ s R fun v1 H1 F1 x ρ1 s1 R1 r1 k1 => k1 F1 H1 σ v1 Qh (Same.trans s s1) R1 r1 fun v H3 F3 z ρ3 s3 R3 r3 q => c v H3 F3 z ρ3 (Same.trans s1 s3) R3 r3 q
theorem m_nil (k : QA [] ρ) : Ma K O F0 tNil ρ QA := fun F H σ Qh s R c => c [] H F [] ρ (Same.refl _) R trivial k
theorem m_cons (k : Me K O F0 ta ρ fun x ρ1 => Ma K O F0 tA ρ1 fun xs ρ2 => QA (x :: xs) ρ2) : Ma K O F0 (tCons ta tA) ρ QA := fun F H σ Qh s R c =>
  k F H σ _ s R fun v1 H1 F1 x ρ1 s1 R1 r1 k1 => k1 F1 H1 σ _ (Same.trans s s1) R1 fun vs H2 F2 xs ρ2 s2 R2 r2 q => c (v1 :: vs) H2 F2 (x :: xs) ρ2 (Same.trans s1 s2) R2 ⟨r1.mono s2, r2⟩ q
theorem m_test (k : Me K O F0 te ρ fun x ρ1 => ∃ b, x = .val (.bl b) ∧ QT b ρ1) : Mt K O F0 (tTest te) ρ QT := fun F H σ Qh s R c =>
  k F H σ _ s R fun v H2 F2 x ρ2 s2 R2 r2 ⟨b, e, q⟩ => by
    subst e
    cases r2
    exact ⟨b, rfl, c b H2 F2 ρ2 s2 R2 q⟩
theorem m_B (k : Me K O F0 te ρ fun x ρ1 => ∃ b, x = .val (.bl b) ∧ QT b ρ1) : Mt K O F0 (tB te) ρ QT := fun F H σ Qh s R c =>
  k F H σ _ s R fun v H2 F2 x ρ2 s2 R2 r2 ⟨b, e, q⟩ => by
    subst e
    cases r2
    exact ⟨b, rfl, c b H2 F2 ρ2 s2 R2 q⟩
theorem m_bl {b : Bool} (k : QT b ρ) : ∃ c, X.val (.bl b) = X.val (.bl c) ∧ QT c ρ := ⟨b, rfl, k⟩
theorem m_and (k : Mt K O F0 t ρ fun b ρ1 => if b = true then Mt K O F0 u ρ1 QT else QT false ρ1) : Mt K O F0 (tAnd t u) ρ QT := fun F H σ Qh s R c =>
  k F H σ _ s R fun b H1 F1 ρ1 s1 R1 k1 => by
    cases b with
    | true => exact k1 F1 H1 σ _ (Same.trans s s1) R1 fun b H2 F2 ρ2 s2 R2 q => c b H2 F2 ρ2 (Same.trans s1 s2) R2 q
    | false => exact c false H1 F1 ρ1 s1 R1 k1
theorem m_or (k : Mt K O F0 t ρ fun b ρ1 => if b = true then QT true ρ1 else Mt K O F0 u ρ1 QT) : Mt K O F0 (tOr t u) ρ QT := fun F H σ Qh s R c =>
  k F H σ _ s R fun b H1 F1 ρ1 s1 R1 k1 => by
    cases b with
    | false => exact k1 F1 H1 σ _ (Same.trans s s1) R1 fun b H2 F2 ρ2 s2 R2 q => c b H2 F2 ρ2 (Same.trans s1 s2) R2 q
    | true => exact c true H1 F1 ρ1 s1 R1 k1
theorem m_not (k : Mt K O F0 t ρ fun b ρ1 => QT (!b) ρ1) : Mt K O F0 (tNot t) ρ QT := fun F H σ Qh s R c =>
  k F H σ _ s R fun b H1 F1 ρ1 s1 R1 k1 => c (!b) H1 F1 ρ1 s1 R1 k1
theorem m_andV (k : Me K O F0 ta ρ fun x ρ1 => ∃ b, x = .val (.bl b) ∧ if b = true then Me K O F0 tb ρ1 Q else Q (.val (.bl false)) ρ1) : Me K O F0 (tAndV ta tb) ρ Q := fun F H σ Qh s R c =>
  k F H σ _ s R fun v H1 F1 x ρ1 s1 R1 r1 ⟨b, e, k1⟩ => by
    subst e
    cases r1
    cases b with
    | true => exact ⟨true, rfl, k1 F1 H1 σ _ (Same.trans s s1) R1 fun b H2 F2 x2 ρ2 s2 R2 r2 q => c b H2 F2 x2 ρ2 (Same.trans s1 s2) R2 r2 q⟩
    | false => exact ⟨false, rfl, c _ H1 F1 (.val (.bl false)) ρ1 s1 R1 (Rep.bl false) k1⟩
theorem m_orV (k : Me K O F0 ta ρ fun x ρ1 => ∃ b, x = .val (.bl b) ∧ if b = true then Q (.val (.bl true)) ρ1 else Me K O F0 tb ρ1 Q) : Me K O F0 (tOrV ta tb) ρ Q := fun F H σ Qh s R c =>
  k F H σ _ s R fun v H1 F1 x ρ1 s1 R1 r1 ⟨b, e, k1⟩ => by
    subst e
    cases r1
    cases b with
    | false => exact ⟨false, rfl, k1 F1 H1 σ _ (Same.trans s s1) R1 fun b H2 F2 x2 ρ2 s2 R2 r2 q => c b H2 F2 x2 ρ2 (Same.trans s1 s2) R2 r2 q⟩
    | true => exact ⟨true, rfl, c _ H1 F1 (.val (.bl true)) ρ1 s1 R1 (Rep.bl true) k1⟩
theorem m_notV (k : Me K O F0 ta ρ fun x ρ1 => ∃ b, x = .val (.bl b) ∧ Q (.val (.bl (!b))) ρ1) : Me K O F0 (tNotV ta) ρ Q := fun F H σ Qh s R c =>
  k F H σ _ s R fun v H1 F1 x ρ1 s1 R1 r1 ⟨b, e, k1⟩ => by
    subst e
    cases r1
    exact ⟨b, rfl, c _ H1 F1 (.val (.bl _)) ρ1 s1 R1 (Rep.bl _) k1⟩
theorem m_ife (k : Mt K O F0 t ρ fun b ρ1 => if b = true then Me K O F0 ta ρ1 Q else Me K O F0 tb ρ1 Q) : Me K O F0 (tIf t ta tb) ρ Q := fun F H σ Qh s R c =>
  k F H σ _ s R fun b H1 F1 ρ1 s1 R1 k1 => by
    cases b with
    | true => exact k1 F1 H1 σ _ (Same.trans s s1) R1 fun b H2 F2 x2 ρ2 s2 R2 r2 q => c b H2 F2 x2 ρ2 (Same.trans s1 s2) R2 r2 q
    | false => exact k1 F1 H1 σ _ (Same.trans s s1) R1 fun b H2 F2 x2 ρ2 s2 R2 r2 q => c b H2 F2 x2 ρ2 (Same.trans s1 s2) R2 r2 q
/-- a fresh one frozen -/
theorem m_f (k : Mf K O F0 te ρ fun d ρ1 => Q (.val d) ρ1) : Me K O F0 te ρ Q := fun F H σ Qh s R c =>
  k F H σ Qh s R fun p H2 F2 d ρ2 s2 R2 nw q => by
    obtain ⟨n1, n2, n3, n4⟩ := nw
    obtain ⟨o, ho, hx, rp⟩ := Shl.rep n4 n1
    obtain ⟨R3, s3⟩ := R2.thaw ho hx n1 n2 n3
    exact c _ H2 _ (.val d) ρ2 (Same.trans s2 s3) R3 rp q
theorem mf_new {vs : List V} {ds : List D} {F2 : Hp} {ρ2 : Ro} {Qh : VK} {p : Addr} (R : RS K O F H σ ρ) (hp : H p = none) (r : RepL K F vs ds) (c : ∀ H2, RS K O F H2 σ ρ → Nw K O F H2 σ ρ p (.lst ds) → Qh (.ref p) H2) : Qh (.ref p) (upd H p (.lst vs)) :=
  c _ (R.allocN hp) ⟨(R.free hp).1, (R.free hp).2, R.no_new hp, vs, upd_same, r⟩
theorem mf_lst (k : Ma K O F0 tA ρ fun xs ρ1 => FrzL xs ρ1 fun ds ρ2 => ds.length ≤ 1000 ∧ QF (.lst ds) ρ2) : Mf K O F0 (tLst tA) ρ QF := fun F H σ Qh s R c =>
  k F H σ _ s R fun vs H1 F1 xs ρ1 s1 R1 r1 k1 => by
    obtain ⟨ds, ρ2, F2, s2, R2, r2, l, q⟩ := frzL_of R1 r1 k1
    refine ⟨by rw [r2.length]; exact Nat.le_trans l (by decide), fun p hp => ?_⟩
    exact mf_new (ρ2 := ρ2) (F2 := F2) R2 hp r2 fun H3 R3 nw => c p H3 F2 _ ρ2 (Same.trans s1 s2) R3 nw q
theorem m_tup (k : Ma K O F0 tA ρ fun xs ρ1 => FrzL xs ρ1 fun ds ρ2 => ds.length ≤ 1000 ∧ Q (.val (.tup ds)) ρ2) : Me K O F0 (tTup tA) ρ Q := fun F H σ Qh s R c =>
  k F H σ _ s R fun vs H1 F1 xs ρ1 s1 R1 r1 k1 => by
    obtain ⟨ds, ρ2, F2, s2, R2, r2, l, q⟩ := frzL_of R1 r1 k1
    refine ⟨by rw [r2.length]; exact Nat.le_trans l (by decide), fun p hp => ?_⟩
    obtain ⟨R3, s3⟩ := R2.alloc (o := .tup vs) hp nx_tup
    exact c _ _ _ (.val (.tup ds)) ρ2 (Same.trans s1 (Same.trans s2 s3)) R3 (Rep.tup (SqT.of upd_same) (r2.mono s3)) q
theorem m_dnew (k : QF (.dct []) ρ) : Mf K O F0 tDNewK ρ QF := fun F H σ Qh s R c p hp =>
  c p _ F (.dct []) ρ (Same.refl _) (R.allocN hp) ⟨(R.free hp).1, (R.free hp).2, R.no_new hp, [], upd_same, RepP.nil⟩ k
/-! #### statements -/
theorem ms_seq (k : Ms K O F0 ts ρ { N with nx := fun ρ1 => Ms K O F0 tz ρ1 N }) : Ms K O F0 (tSeq ts tz) ρ N := fun F H σ E s R c =>
  k F H σ _ s R ⟨fun F2 H2 σ2 ρ2 s2 R2 q => q F2 H2 σ2 E (Same.trans s s2) R2 (c.mono s2), c.rt, c.bk, c.ct, c.rf⟩
theorem ms_next (k : N.nx ρ) : Ms K O F0 tNext ρ N := fun F H σ E s R c => c.nx F H σ ρ (Same.refl _) R k
theorem ms_brk (k : N.bk ρ) : Ms K O F0 tBreak ρ N := fun F H σ E s R c => c.bk F H σ ρ (Same.refl _) R k
theorem ms_cont (k : N.ct ρ) : Ms K O F0 tCont ρ N := fun F H σ E s R c => c.ct F H σ ρ (Same.refl _) R k
theorem ms_asg (k : Me K O F0 te ρ fun x ρ1 => Frz x ρ1 fun d ρ2 => N.nx (ρ2.set n (.val d))) (hn : n ≠ 0 := by decide) : Ms K O F0 (tAsg te (gName n)) ρ N := fun F H σ E s R c =>
  k F H σ _ s R fun v H1 F1 x ρ1 s1 R1 r1 k1 => by
    obtain ⟨d, ρ2, F2, s2, R2, r2, q⟩ := frz_of R1 r1 k1
    exact c.nx F2 H1 _ _ (Same.trans s1 s2) (R2.put hn r2) q
theorem ms_asgF (k : Mf K O F0 te ρ fun d ρ1 => n < ρ1.length ∧ N.nx (ρ1.set n (.own d))) (hn : n ≠ 0 := by decide) : Ms K O F0 (tAsg te (gName n)) ρ N := fun F H σ E s R c =>
  k F H σ _ s R fun p H2 F2 d ρ2 s2 R2 nw ⟨l, q⟩ => c.nx F2 H2 _ _ s2 (R2.putO (s := .own d) hn l rfl nw.1 nw.2.1 nw.2.2.2 fun i _ m => nw.2.2.1 i m) q
theorem ms_ret (k : Me K O F0 te ρ fun x ρ1 => Frz x ρ1 fun d ρ2 => N.rt d ρ2) : Ms K O F0 (tRet te) ρ N := fun F H σ E s R c =>
  k F H σ _ s R fun v H1 F1 x ρ1 s1 R1 r1 k1 => by
    obtain ⟨d, ρ2, F2, s2, R2, r2, q⟩ := frz_of R1 r1 k1
    exact c.rt F2 H1 σ ρ2 v d (Same.trans s1 s2) R2 r2 q
theorem ms_retN (k : N.rt .non ρ) : Ms K O F0 tRetN ρ N := fun F H σ E s R c => c.rt F H σ ρ _ _ (Same.refl _) R .non k
theorem ms_drop (k : Me K O F0 te ρ fun _ ρ1 => N.nx ρ1) : Ms K O F0 (tDrop te) ρ N := fun F H σ E s R c =>
  k F H σ _ s R fun v H1 F1 x ρ1 s1 R1 r1 q => c.nx F1 H1 σ ρ1 s1 R1 q
theorem ms_if (k : Mt K O F0 t ρ fun b ρ1 => if b = true then Ms K O F0 ts ρ1 N else Ms K O F0 tz ρ1 N) : Ms K O F0 (tIfS t ts tz) ρ N := fun F H σ E s R c =>
  k F H σ _ s R fun b H1 F1 ρ1 s1 R1 k1 => by
    cases b with
    | true => exact k1 F1 H1 σ E (Same.trans s s1) R1 (c.mono s1)
    | false => exact k1 F1 H1 σ E (Same.trans s s1) R1 (c.mono s1)
theorem ms_par {i j : Nat} (k : Ma K O F0 tA ρ fun xs ρ1 => FrzL xs ρ1 fun ds ρ2 => ∃ d e, ds = [d, e] ∧ N.nx ((ρ2.set i (.val d)).set j (.val e))) (hi : i ≠ 0 := by decide) (hj : j ≠ 0 := by decide) : Ms K O F0 (tPar i j tA) ρ N := fun F H σ E s R c =>
  k F H σ _ s R fun vs H1 F1 xs ρ1 s1 R1 r1 k1 => by
    obtain ⟨ds, ρ2, F2, s2, R2, r2, d, e, rfl, q⟩ := frzL_of R1 r1 k1
    cases r2 with
    | cons a b =>
      cases b with
      | cons b z =>
        cases z
        exact ⟨_, _, rfl, c.nx F2 H1 _ _ (Same.trans s1 s2) ((R2.put hi a).put hj b) q⟩
/-! #### targets -/
theorem wipe_set {j : Nat} {w : Option V} : ∀ {vs : List Nat}, j ∈ vs → wipe (σ.set j w) vs = wipe σ vs
  | [], h => nomatch h
  | v :: vs, h => by
    show (wipe (σ.set j w) vs).set v none = (wipe σ vs).set v none
    by_cases m : j ∈ vs
    · rw [wipe_set m]
    · have e : j = v := by rcases List.mem_cons.mp h with e | e; exact e; exact absurd e m
      subst e
      have : ∀ (us : List Nat), j ∉ us → wipe (σ.set j w) us = (wipe σ us).set j w := by
        intro us
        induction us with
        | nil => intro _; rfl
        | cons a us ih =>
          intro hm
          show (wipe (σ.set j w) us).set a none = ((wipe σ us).set a none).set j w
          rw [ih (fun z => hm (List.mem_cons_of_mem _ z)), List.set_comm _ _ (fun z => hm (by rw [z]; exact List.mem_cons_self ..))]
      rw [this vs m, List.set_set]
theorem mg_name {j : Nat} {P : Ro → Prop} (k : P (ρ.set j (.val d))) (hj : j ≠ 0 := by decide) : Mg K O F0 (gName j) [j] d ρ P := fun F H σ v Qs s R r c =>
  c F H _ _ (Same.refl _) (R.put hj r) (fun vs h => wipe_set (h j (List.mem_singleton.mpr rfl))) k
end
end SJ

/-! MRc: loops and comprehensions without heaps. -/
namespace SJ
open PySem PySem.Spec PyProof.Rows L2 He
def wipeR (ρ : Ro) : List Nat → Ro
  | [] => ρ
  | v :: vs => (wipeR ρ vs).set v .none
def rst (ρ2 ρ : Ro) : List Nat → Ro
  | [] => ρ2
  | v :: vs => (rst ρ2 ρ vs).set v (sl ρ v)
section
variable {K : PySem.W.Frag} {O : Oc} {F0 F F2 F3 H H2 H3 : Hp} {σ σ2 : L2.St} {ρ ρ2 : Ro} {Q : X → Ro → Prop} {QT : Bool → Ro → Prop} {QA : List X → Ro → Prop} {QF : D → Ro → Prop} {ta tb te to : TE} {t u tt : TT} {tA tK : TA} {ts tz : TS} {r : R2} {N : Hn} {n i : Nat} {x y : X} {d : D} {g : TG} {wi : TI} {p : Addr} {o o2 : HO} {vs js : List Nat} {QL : List D → Ro → Prop}
theorem sv_none (h : σ.length ≤ i) : sv σ i = none := by unfold sv; rw [List.getElem?_eq_none h]; rfl
theorem sl_none (h : ρ.length ≤ i) : sl ρ i = .none := by unfold sl; rw [List.getElem?_eq_none h]; rfl
theorem sv_set0 {j : Nat} : sv (σ.set j none) i = if i = j then none else sv σ i := by
  by_cases h : j < σ.length
  · exact sv_set h
  · rw [List.set_eq_of_length_le (by omega)]
    by_cases e : i = j
    · rw [if_pos e, sv_none (by omega)]
    · rw [if_neg e]
theorem sl_set0 {j : Nat} {s : Sl} (h : ρ.length ≤ j → s = .none) : sl (ρ.set j s) i = if i = j then s else sl ρ i := by
  by_cases h1 : j < ρ.length
  · exact sl_set h1
  · rw [List.set_eq_of_length_le (by omega)]
    by_cases e : i = j
    · rw [if_pos e, sl_none (by omega), h (by omega)]
    · rw [if_neg e]
theorem sv_wipe : ∀ {vs : List Nat}, sv (wipe σ vs) i = if i ∈ vs then none else sv σ i
  | [] => by rw [if_neg (fun h => nomatch h)]; rfl
  | v :: vs => by
    show sv ((wipe σ vs).set v none) i = _
    rw [sv_set0, sv_wipe]
    by_cases e : i = v
    · rw [if_pos e, if_pos (by rw [e]; exact List.mem_cons_self ..)]
    · rw [if_neg e]
      by_cases m : i ∈ vs
      · rw [if_pos m, if_pos (List.mem_cons_of_mem _ m)]
      · rw [if_neg m, if_neg (fun z => by rcases List.mem_cons.mp z with q | q; exact e q; exact m q)]
theorem sl_wipe : ∀ {vs : List Nat}, sl (wipeR ρ vs) i = if i ∈ vs then .none else sl ρ i
  | [] => by rw [if_neg (fun h => nomatch h)]; rfl
  | v :: vs => by
    show sl ((wipeR ρ vs).set v .none) i = _
    rw [sl_set0 (fun _ => rfl), sl_wipe]
    by_cases e : i = v
    · rw [if_pos e, if_pos (by rw [e]; exact List.mem_cons_self ..)]
    · rw [if_neg e]
      by_cases m : i ∈ vs
      · rw [if_pos m, if_pos (List.mem_cons_of_mem _ m)]
      · rw [if_neg m, if_neg (fun z => by rcases List.mem_cons.mp z with q | q; exact e q; exact m q)]
theorem wipeR_len : ∀ {vs : List Nat}, (wipeR ρ vs).length = ρ.length
  | [] => rfl
  | v :: vs => by show ((wipeR ρ vs).set v .none).length = _; rw [List.length_set, wipeR_len]
theorem rst_len : ∀ {vs : List Nat}, (rst ρ2 ρ vs).length = ρ2.length
  | [] => rfl
  | v :: vs => by show ((rst ρ2 ρ vs).set v _).length = _; rw [List.length_set, rst_len]
theorem sl_rst (hl : ρ2.length = ρ.length) : ∀ {vs : List Nat}, sl (rst ρ2 ρ vs) i = if i ∈ vs then sl ρ i else sl ρ2 i
  | [] => by rw [if_neg (fun h => nomatch h)]; rfl
  | v :: vs => by
    show sl ((rst ρ2 ρ vs).set v (sl ρ v)) i = _
    rw [sl_set0 (fun h => sl_none (by rw [rst_len] at h; omega)), sl_rst hl]
    by_cases e : i = v
    · rw [if_pos e, if_pos (by rw [e]; exact List.mem_cons_self ..), e]
    · rw [if_neg e]
      by_cases m : i ∈ vs
      · rw [if_pos m, if_pos (List.mem_cons_of_mem _ m)]
      · rw [if_neg m, if_neg (fun z => by rcases List.mem_cons.mp z with q | q; exact e q; exact m q)]
theorem RS.wipe (R : RS K O F H σ ρ) (h0 : 0 ∉ vs) : RS K O F H (L2.wipe σ vs) (wipeR ρ vs) := by
  refine ⟨R.fh, R.oh, R.dj, R.tb, R.ot, R.ft, fun v e => by rw [sv_wipe, if_neg h0]; exact R.w0 v e, by rw [wipe_length, wipeR_len, R.len], fun i => ?_, fun i j a ij mi mj vi vj => ?_⟩
  · rw [sv_wipe, sl_wipe]
    by_cases m : i ∈ vs
    · rw [if_pos m, if_pos m]; trivial
    · rw [if_neg m, if_neg m]; exact R.at_ i
  · rw [sl_wipe] at mi mj
    rw [sv_wipe] at vi vj
    by_cases m : i ∈ vs
    · rw [if_pos m] at mi; cases mi
    · by_cases m2 : j ∈ vs
      · rw [if_pos m2] at mj; cases mj
      · rw [if_neg m] at mi vi; rw [if_neg m2] at mj vj; exact R.ne i j a ij mi mj vi vj
theorem SlOk.mono {O2 : Hp} {w : Option V} {s : Sl} (h : SlOk K O2 F H w s) (m : s.mut = false) (g : Same F F2) {O3 H3 : Hp} : SlOk K O3 F2 H3 w s := by
  cases s with
  | none => trivial
  | val d => obtain ⟨v, h1, h2⟩ := h; exact ⟨v, h1, h2.mono g⟩
  | own d => cases m
  | pen d => cases m
theorem RS.unwipe {O2 : Oc} (R : RS K O F H σ ρ) (R2 : RS K O2 F2 H2 σ2 ρ2) (g : Same F F2) (hw : L2.wipe σ2 vs = L2.wipe σ vs) (hO : O2.w = O.w) (hl : ρ2.length = ρ.length) (h0 : 0 ∉ vs) (hm : ∀ v ∈ vs, (sl ρ v).mut = false) : RS K O2 F2 H2 σ (rst ρ2 ρ vs) := by
  have es : ∀ i, i ∉ vs → sv σ2 i = sv σ i := fun i m => by
    have e : sv (L2.wipe σ2 vs) i = sv (L2.wipe σ vs) i := by rw [hw]
    rw [sv_wipe, sv_wipe, if_neg m, if_neg m] at e
    exact e
  refine ⟨R2.fh, R2.oh, R2.dj, R2.tb, R2.ot, R2.ft, fun v e => R.w0 v (by rw [← hO]; exact e), by rw [rst_len, hl, R.len], fun i => ?_, fun i j a ij mi mj vi vj => ?_⟩
  · rw [sl_rst hl]
    by_cases m : i ∈ vs
    · rw [if_pos m]; exact (R.at_ i).mono (hm i m) g
    · rw [if_neg m, ← es i m]; exact R2.at_ i
  · rw [sl_rst hl] at mi mj
    by_cases m : i ∈ vs
    · rw [if_pos m, hm i m] at mi; cases mi
    · by_cases m2 : j ∈ vs
      · rw [if_pos m2, hm j m2] at mj; cases mj
      · rw [if_neg m] at mi; rw [if_neg m2] at mj
        exact R2.ne i j a ij mi mj (by rw [es i m]; exact vi) (by rw [es j m2]; exact vj)
/-- an object that is kept apart -/
theorem ot_upd {O : Hp} (R : ∀ a u, O a = some u → NX u) (hx : NX o) : ∀ a u, upd O p o a = some u → NX u := fun a u e => by
  by_cases z : a = p
  · rw [z, upd_same] at e; cases e; exact hx
  · rw [upd_ne z] at e; exact R a u e
theorem RS.out (R : RS K O F H σ ρ) (hp : H p = some o) (hnx : NX o) (hF : F p = none) (hx : ∀ i, (sl ρ i).mut = true → sv σ i ≠ some (.ref p)) : RS K { O with o := upd O.o p o } F H σ ρ := by
  refine ⟨R.fh, fun b u (e : upd O.o p o b = some u) => ?_, fun b u (e : upd O.o p o b = some u) => ?_, R.tb, ot_upd R.ot hnx, R.ft, R.w0, R.len, fun i => ?_, R.ne⟩
  · by_cases z : b = p
    · rw [z] at e ⊢; rw [upd_same] at e; cases e; exact hp
    · rw [upd_ne z] at e; exact R.oh _ _ e
  · by_cases z : b = p
    · rw [z]; exact hF
    · rw [upd_ne z] at e; exact R.dj _ _ e
  · by_cases m : (sl ρ i).mut = true
    · obtain ⟨a, h1, h2, h3, h4⟩ := R.owned m
      have n : a ≠ p := fun z => hx i m (by rw [h1, z])
      exact SlOk.of_mut m h1 h2 (by show upd O.o p o a = none; rw [upd_ne n]; exact h3) h4
    · exact (R.at_ i).mono (by cases q : (sl ρ i).mut with | true => exact absurd q m | false => rfl) (Same.refl _)
theorem RS.turn (R : RS K { O with o := upd O.o p o } F H σ ρ) (hnx : NX o2) : RS K { O with o := upd O.o p o2 } F (upd H p o2) σ ρ := by
  have hF : F p = none := R.dj p o upd_same
  refine ⟨Same.mut R.fh hF, fun b u (e : upd O.o p o2 b = some u) => ?_, fun b u (e : upd O.o p o2 b = some u) => ?_, tabs_mut R.tb (R.oh p o upd_same) (R.ot p o upd_same), (fun a u (e : upd O.o p o2 a = some u) => by
    by_cases z : a = p
    · rw [z, upd_same] at e; cases e; exact hnx
    · rw [upd_ne z] at e; exact R.ot a u (show upd O.o p o a = some u by rw [upd_ne z]; exact e)), R.ft, R.w0, R.len, fun i => ?_, R.ne⟩
  · by_cases z : b = p
    · rw [z] at e ⊢; rw [upd_same] at e ⊢; exact e
    · rw [upd_ne z] at e; rw [upd_ne z]; exact R.oh _ _ (show upd O.o p o b = some u by rw [upd_ne z]; exact e)
  · by_cases z : b = p
    · rw [z]; exact hF
    · rw [upd_ne z] at e; exact R.dj b u (show upd O.o p o b = some u by rw [upd_ne z]; exact e)
  · by_cases m : (sl ρ i).mut = true
    · obtain ⟨a, h1, h2, h3, h4⟩ := R.owned m
      have h3 : upd O.o p o a = none := h3
      have n : a ≠ p := fun z => by rw [z, upd_same] at h3; cases h3
      rw [upd_ne n] at h3
      exact SlOk.of_mut m h1 h2 (show upd O.o p o2 a = none by rw [upd_ne n]; exact h3) (h4.mono (upd_ne n) (Same.refl _))
    · exact (R.at_ i).mono (by cases q : (sl ρ i).mut with | true => exact absurd q m | false => rfl) (Same.refl _)
theorem RS.back (R : RS K { O with o := upd O.o p o } F H σ ρ) (h : O.o p = none) : RS K O F H σ ρ ∧ F p = none ∧ H p = some o ∧ ∀ i, (sl ρ i).mut = true → sv σ i ≠ some (.ref p) := by
  refine ⟨R.drop (Same.upd (Same.refl _) h) (.inl rfl) rfl, R.dj p o upd_same, R.oh p o upd_same, fun i m e => ?_⟩
  obtain ⟨a, h1, h2, h3, h4⟩ := R.owned m
  rw [h1] at e
  cases e
  have h3 : upd O.o p o p = none := h3
  rw [upd_same] at h3; cases h3
/-! #### for -/
theorem ms_for {tb : TS} (js : List Nat) (k : Mi K O F0 wi ρ fun ds ρ1 => ∃ I : Nat → Ro → Prop, I 0 ρ1 ∧ (∀ i d ρ2, ds[i]? = some d → I i ρ2 → Mg K O F0 g js d ρ2 fun ρ3 => Ms K O F0 tb ρ3 { N with nx := I (i + 1), ct := I (i + 1), bk := N.nx }) ∧ ∀ ρ2, I ds.length ρ2 → N.nx ρ2) : Ms K O F0 (tFor wi g tb) ρ N := fun F H σ E s R c =>
  k F H σ _ s R fun J H2 F2 ds ρ2 s2 R2 wd ⟨I, i0, is, ie⟩ => by
    refine ⟨fun i m σ H => m = ds.length - i ∧ i ≤ ds.length ∧ ∃ F3 ρ3, Same F2 F3 ∧ RS K O F3 H σ ρ3 ∧ I i ρ3, ⟨ds.length, rfl, Nat.zero_le _, F2, ρ2, Same.refl _, R2, i0⟩, ?_⟩
    rintro i m σ1 H1 ⟨rfl, hi, F3, ρ3, s3, R3, q3⟩
    obtain ⟨w1, w2⟩ := wd O i F3 H1 σ1 ρ3 s3 R3
    by_cases hlt : i < ds.length
    · obtain ⟨go, yl⟩ := w2 _ (List.getElem?_eq_getElem hlt)
      refine .inr ⟨go, fun σ' H' => ∃ F4 ρ4, Same F2 F4 ∧ RS K O F4 H' σ' ρ4 ∧ I (i + 1) ρ4, fun σ' H' z => ⟨ds.length - (i + 1), by omega, rfl, hlt, z⟩, fun x H' y => ?_⟩
      obtain ⟨F4, s4, R4, r4⟩ := yl x H' y
      have s04 : Same F0 F4 := Same.trans s (Same.trans s2 (Same.trans s3 s4))
      refine is i _ ρ3 (List.getElem?_eq_getElem hlt) q3 F4 H' σ1 x _ s04 R4 r4 fun F5 H5 σ5 ρ5 s5 R5 _ ms => ?_
      refine ms F5 H5 σ5 _ (Same.trans s04 s5) R5 ⟨fun F6 H6 σ6 ρ6 s6 R6 q => ⟨F6, ρ6, Same.trans s3 (Same.trans s4 (Same.trans s5 s6)), R6, q⟩, fun F6 H6 σ6 ρ6 v d s6 => c.rt F6 H6 σ6 ρ6 v d (Same.trans s2 (Same.trans s3 (Same.trans s4 (Same.trans s5 s6)))),
        fun F6 H6 σ6 ρ6 s6 => c.nx F6 H6 σ6 ρ6 (Same.trans s2 (Same.trans s3 (Same.trans s4 (Same.trans s5 s6)))), fun F6 H6 σ6 ρ6 s6 R6 q => ⟨F6, ρ6, Same.trans s3 (Same.trans s4 (Same.trans s5 s6)), R6, q⟩, fun F6 H6 σ6 ρ6 v d s6 => c.rf F6 H6 σ6 ρ6 v d (Same.trans s2 (Same.trans s3 (Same.trans s4 (Same.trans s5 s6))))⟩
    · have e : i = ds.length := by omega
      subst e
      exact .inl ⟨w1 (Nat.le_refl _), c.nx F3 H1 σ1 ρ3 (Same.trans s2 s3) R3 (ie ρ3 q3)⟩
/-! #### comprehensions -/
theorem mf_lc (js : List Nat) (hjs : ∀ j ∈ js, j ∈ vs) (h0 : 0 ∉ vs) (k : Mi K O F0 wi ρ fun ds ρ1 => ds.length ≤ 10000 ∧ ∃ I : Nat → List D → Ro → Prop, I 0 [] ρ1 ∧
    (∀ i d acc ρ2, ds[i]? = some d → acc.length ≤ i → I i acc ρ2 → (∀ v ∈ vs, (sl ρ2 v).mut = false) ∧ ∀ (oo : Hp) (ww : Option V), Mg K ⟨oo, ww, O.T⟩ F0 g js d (wipeR ρ2 vs) fun ρ3 => ρ3.length = ρ2.length ∧ Mt K ⟨oo, ww, O.T⟩ F0 tt ρ3 fun b ρ4 => if b = true then Me K ⟨oo, ww, O.T⟩ F0 tb ρ4 fun y ρ5 => Frz y ρ5 fun e ρ6 => ρ6.length = ρ2.length ∧ I (i + 1) (acc ++ [e]) (rst ρ6 ρ2 vs) else ρ4.length = ρ2.length ∧ I (i + 1) acc (rst ρ4 ρ2 vs)) ∧
    ∀ acc ρ2, I ds.length acc ρ2 → QF (.lst acc) ρ2) : Mf K O F0 (tLc wi g tt tb vs) ρ QF := fun F H σ Qh s R c =>
  k F H σ _ s R fun J H2 F2 ds ρ2 s2 R2 wd ⟨hds, I, i0, is, ie⟩ l hl => by
    have hOl : O.o l = none := (R2.free hl).2
    have R20 : RS K { O with o := upd O.o l (.lst []) } F2 (upd H2 l (.lst [])) σ ρ2 := (R2.allocN hl).out upd_same nx_lst (R2.free hl).1 (R2.no_new hl)
    refine ⟨fun i m H => m = ds.length - i ∧ i ≤ ds.length ∧ ∃ F3 ρ3 acc us, Same F2 F3 ∧ RS K { O with o := upd O.o l (.lst us) } F3 H σ ρ3 ∧ RepL K F3 us acc ∧ acc.length ≤ i ∧ I i acc ρ3, ⟨ds.length, rfl, Nat.zero_le _, F2, ρ2, [], [], Same.refl _, R20, .nil, Nat.le_refl _, i0⟩, ?_⟩
    rintro i m H1 ⟨rfl, hi, F3, ρ3, acc, us, s3, R3, ra, hacc, q3⟩
    obtain ⟨w1, w2⟩ := wd _ i F3 H1 σ ρ3 s3 R3
    by_cases hlt : i < ds.length
    · obtain ⟨go, yl⟩ := w2 _ (List.getElem?_eq_getElem hlt)
      refine .inr ⟨go, fun H' => ∃ F4 ρ4 acc us, Same F2 F4 ∧ RS K { O with o := upd O.o l (.lst us) } F4 H' σ ρ4 ∧ RepL K F4 us acc ∧ acc.length ≤ i + 1 ∧ I (i + 1) acc ρ4, fun H' z => ⟨ds.length - (i + 1), by omega, rfl, hlt, z⟩, fun x H' y => ?_⟩
      obtain ⟨F4, s4, R4, r4⟩ := yl x H' y
      have s04 : Same F0 F4 := Same.trans s (Same.trans s2 (Same.trans s3 s4))
      obtain ⟨hm, body⟩ := is i _ acc ρ3 (List.getElem?_eq_getElem hlt) hacc q3
      refine body (upd O.o l (.lst us)) O.w F4 H' (L2.wipe σ vs) x _ s04 (R4.wipe h0) r4 fun F5 H5 σ5 ρ5 s5 R5 hw ⟨hl5, mt⟩ => ?_
      have hw5 : L2.wipe σ5 vs = L2.wipe σ vs := by
        rw [hw vs hjs]
        exact List.ext_getElem? fun j => by
          have wl : (L2.wipe (L2.wipe σ vs) vs).length = (L2.wipe σ vs).length := wipe_length _ _
          have e1 : sv (L2.wipe (L2.wipe σ vs) vs) j = sv (L2.wipe σ vs) j := by
            rw [sv_wipe]
            by_cases m : j ∈ vs
            · rw [if_pos m, sv_wipe, if_pos m]
            · rw [if_neg m]
          unfold sv at e1
          by_cases hj : j < (L2.wipe σ vs).length
          · rw [List.getElem?_eq_getElem (by rw [wl]; exact hj), List.getElem?_eq_getElem hj] at e1 ⊢
            exact congrArg some e1
          · rw [List.getElem?_eq_none (by rw [wl]; omega), List.getElem?_eq_none (by omega)]
      refine ⟨hw5, mt F5 H5 σ5 _ (Same.trans s04 s5) R5 fun b H6 F6 ρ6 s6 R6 kb => ?_⟩
      cases b with
      | true =>
        refine kb F6 H6 σ5 _ (Same.trans s04 (Same.trans s5 s6)) R6 fun v H7 F7 y ρ7 s7 R7 r7 fz => ?_
        obtain ⟨e, ρ8, F8, s8, R8, r8, hl8, q8⟩ := frz_of R7 r7 fz
        have R9 := RS.unwipe R4 R8 (Same.trans s5 (Same.trans s6 (Same.trans s7 s8))) hw5 rfl hl8 h0 hm
        refine ⟨us, R9.oh l _ upd_same, ?_, F8, _, acc ++ [e], us ++ [v], Same.trans s3 (Same.trans s4 (Same.trans s5 (Same.trans s6 (Same.trans s7 s8)))), R9.turn nx_lst, (ra.mono (Same.trans s4 (Same.trans s5 (Same.trans s6 (Same.trans s7 s8))))).append (.one r8), by rw [List.length_append]; exact Nat.succ_le_succ hacc, q8⟩
        rw [ra.length]
        exact Nat.lt_of_le_of_lt (Nat.le_trans hacc hi) (Nat.lt_of_le_of_lt hds (by decide))
      | false =>
        have R9 := RS.unwipe R4 R6 (Same.trans s5 s6) hw5 rfl kb.1 h0 hm
        exact ⟨F6, _, acc, us, Same.trans s3 (Same.trans s4 (Same.trans s5 s6)), R9, ra.mono (Same.trans s4 (Same.trans s5 s6)), Nat.le_succ_of_le hacc, kb.2⟩
    · have e : i = ds.length := by omega
      subst e
      obtain ⟨b1, b2, b3, b4⟩ := R3.back hOl
      exact .inl ⟨w1 (Nat.le_refl _), c l H1 F3 (.lst acc) ρ3 (Same.trans s2 s3) b1 ⟨b2, hOl, b4, us, b3, ra⟩ (ie acc ρ3 q3)⟩
/-- .. each element told by itself -/
theorem mf_lcM (js : List Nat) (P : D → Bool) (Fn : D → D) (hjs : ∀ j ∈ js, j ∈ vs := by decide) (h0 : 0 ∉ vs := by decide) (k : Mi K O F0 wi ρ fun ds ρ1 => ds.length ≤ 10000 ∧ (∀ v ∈ vs, (sl ρ1 v).mut = false) ∧
    (∀ d ∈ ds, ∀ (oo : Hp) (ww : Option V), Mg K ⟨oo, ww, O.T⟩ F0 g js d (wipeR ρ1 vs) fun ρ3 => ρ3.length = ρ1.length ∧ rst ρ3 ρ1 vs = ρ1 ∧ Mt K ⟨oo, ww, O.T⟩ F0 tt ρ3 fun b ρ4 => ρ4 = ρ3 ∧ b = P d ∧ (b = true → Me K ⟨oo, ww, O.T⟩ F0 tb ρ4 fun y ρ5 => y = .val (Fn d) ∧ ρ5 = ρ3)) ∧
    QF (.lst ((ds.filter P).map Fn)) ρ1) : Mf K O F0 (tLc wi g tt tb vs) ρ QF := by
  refine mf_lc js hjs h0 fun F H σ R s R0 c => k F H σ R s R0 fun J H2 F2 ds ρ2 s2 R2 wd ⟨hds, hm, hb, q⟩ => c J H2 F2 ds ρ2 s2 R2 wd ⟨hds, fun i acc ρ3 => ρ3 = ρ2 ∧ acc = ((ds.take i).filter P).map Fn, ⟨rfl, rfl⟩, fun i d acc ρ3 hd hacc ⟨e1, e2⟩ => ?_, fun acc ρ3 ⟨e1, e2⟩ => ?_⟩
  · subst e1
    refine ⟨hm, fun oo ww => ?_⟩
    intro F H σ v Qs sa Ra ra ca
    refine hb d (List.mem_of_getElem? hd) oo ww F H σ v Qs sa Ra ra fun F2 H2 σ2 ρ4 sb Rb wb ⟨l1, l2, mt⟩ => ca F2 H2 σ2 ρ4 sb Rb wb ⟨l1, ?_⟩
    intro F H σ Qh sc Rc cc
    refine mt F H σ Qh sc Rc fun b H3 F3 ρ5 sd Rd ⟨e3, e4, me⟩ => cc b H3 F3 ρ5 sd Rd ?_
    subst e3
    have ht : ds.take (i + 1) = ds.take i ++ [d] := by
      rw [List.take_add_one, hd]; rfl
    cases b with
    | true =>
      show Me K ⟨oo, ww, O.T⟩ F0 tb ρ5 _
      intro F H σ Qh se Re ce
      refine me rfl F H σ Qh se Re fun v H4 F4 y ρ6 sf Rf rf ⟨e5, e6⟩ => ce v H4 F4 y ρ6 sf Rf rf ?_
      subst e5 e6
      refine ⟨l1, l2, ?_⟩
      rw [ht, List.filter_append, List.map_append, e2]
      simp only [List.filter, ← e4, List.map]
    | false =>
      refine ⟨l1, l2, ?_⟩
      rw [ht, List.filter_append, List.map_append, e2]
      simp only [List.filter, ← e4, List.map, List.append_nil]
  · subst e1 e2
    rw [List.take_length]
    exact q
/-! #### iterators -/
theorem mi_list (k : Me K O F0 te ρ fun x ρ1 => Frz x ρ1 fun d ρ2 => ∃ ds, d = .lst ds ∧ QL ds ρ2) : Mi K O F0 (iList K te) ρ QL := fun F H σ R s R0 c =>
  k F H σ _ s R0 fun v H1 F1 x ρ1 s1 R1 r1 k1 => by
    obtain ⟨d, ρ2, F2, s2, R2, r2, ds, rfl, q⟩ := frz_of R1 r1 k1
    obtain ⟨a, xs, rfl, ha, rx⟩ := r2.lstP
    have ha : SqL K F2 a xs := SqL.of ha
    refine ⟨a, rfl, ⟨xs, Same.seq R2.fh ha⟩, c _ H1 F2 ds ρ2 (Same.trans s1 s2) R2 (fun O2 i F3 H3 σ3 ρ3 s3 R3 => ?_) q⟩
    have hs : SqL K H3 a xs := Same.seq R3.fh (Same.seq s3 ha)
    refine ⟨fun hi => ⟨xs, hs, by rw [rx.length]; exact hi⟩, fun d hd => ?_⟩
    obtain ⟨v, hv, rv⟩ := rx.at hd
    refine ⟨⟨xs, v, hs, hv⟩, fun x H4 y => ?_⟩
    obtain ⟨rfl, y⟩ := y
    have := y xs hs
    rw [hv] at this
    cases this
    exact ⟨F3, Same.refl _, R3, rv.mono s3⟩
theorem mi_tup (k : Me K O F0 te ρ fun x ρ1 => Frz x ρ1 fun d ρ2 => ∃ ds, d = .tup ds ∧ QL ds ρ2) : Mi K O F0 (iTup K te) ρ QL := fun F H σ R s R0 c =>
  k F H σ _ s R0 fun v H1 F1 x ρ1 s1 R1 r1 k1 => by
    obtain ⟨d, ρ2, F2, s2, R2, r2, ds, rfl, q⟩ := frz_of R1 r1 k1
    obtain ⟨a, xs, rfl, ha, rx⟩ := r2.tupP
    refine ⟨a, rfl, ⟨xs, sqt_same R2.fh ha⟩, c _ H1 F2 ds ρ2 (Same.trans s1 s2) R2 (fun O2 i F3 H3 σ3 ρ3 s3 R3 => ?_) q⟩
    have hs : SqT K H3 a xs := sqt_same R3.fh (sqt_same s3 ha)
    refine ⟨fun hi => ⟨xs, hs, by rw [rx.length]; exact hi⟩, fun d hd => ?_⟩
    obtain ⟨v, hv, rv⟩ := rx.at hd
    refine ⟨⟨xs, v, hs, hv⟩, fun x H4 y => ?_⟩
    obtain ⟨rfl, y⟩ := y
    have := y xs hs
    rw [hv] at this
    cases this
    exact ⟨F3, Same.refl _, R3, rv.mono s3⟩
def rngD (lo : Int) (n : Nat) : List D := (List.range n).map fun (i : Nat) => D.int (lo + (i : Int))
theorem mi_rng1 (k : Ma K O F0 tA ρ fun xs ρ1 => ∃ j : Int, xs = [.val (.int j)] ∧ (-1000000 ≤ j ∧ j ≤ 1000000) ∧ QL (rngD 0 j.toNat) ρ1) : Mi K O F0 (iRng1 tA) ρ QL := fun F H σ R s R0 c =>
  k F H σ _ s R0 fun vs H1 F1 xs ρ1 s1 R1 r1 ⟨j, e, hj, q⟩ => by
    subst e
    match vs, r1 with
    | [v], r1 =>
    obtain ⟨r1, _⟩ := r1
    cases r1
    · refine ⟨j, rfl, by omega, by omega, c _ H1 F1 _ ρ1 s1 R1 (fun O2 i F3 H3 σ3 ρ3 s3 R3 => ?_) q⟩
      have hl : (rngD 0 j.toNat).length = j.toNat := by unfold rngD; rw [List.length_map, List.length_range]
      refine ⟨fun hi => by rw [hl] at hi; exact hi, fun d hd => ?_⟩
      have hi : i < j.toNat := by rw [← hl]; exact (List.getElem?_eq_some_iff.mp hd).1
      refine ⟨hi, fun x H4 y => ?_⟩
      obtain ⟨rfl, rfl⟩ := y
      refine ⟨F3, Same.refl _, R3, ?_⟩
      unfold rngD at hd
      rw [List.getElem?_map, List.getElem?_range hi] at hd
      cases hd
      exact .int _
end
end SJ

/-! MRd: promises without heaps, calls. -/
namespace SJ
open PySem PySem.Spec PyProof.Rows L2 He
abbrev XP := Str → List (Str × D) → Ro → Prop
def spS (K : PySem.W.Frag) (T : List (Addr × Str)) (M : Ro → (D → Ro → Prop) → XP → Prop) : Sp := fun vs H Q E => ∃ (O : Oc) (F : Hp) (ρ : Ro), O.T = T ∧ RS K O F H (vs.map some) ρ ∧
  M ρ (fun d ρ2 => ∀ v H2 F2, Same F F2 → RS K O F2 H2 (vs.map some) ρ2 → Rep K F2 v d → Q v H2)
    (fun c fs ρ2 => ∀ dd H2 F2 fvs, Same F F2 → H2 dd = some (.xd fvs) → RS K { O with o := upd O.o dd (.xd fvs) } F2 H2 (vs.map some) ρ2 → O.o dd = none → RepP K F2 fvs fs → E (.ref (ga K c)) (some dd) H2)
abbrev PD := List D → (D → Prop) → (Str → List (Str × D) → Prop) → Prop
/-- all parameters are plain values -/
def pu (P : PD) : Ro → (D → Ro → Prop) → XP → Prop := fun ρ Q E => ∃ ds Qd Ed, ρ = ds.map Sl.val ∧ P ds Qd Ed ∧ (∀ d, Qd d → Q d ρ) ∧ ∀ c fs, Ed c fs → E c fs ρ
/-- the first is a pen -/
def pp (P : Nat → List D → (D → Nat → Prop) → Prop) : Ro → (D → Ro → Prop) → XP → Prop := fun ρ Q _ => ∃ n ds Qd, ρ = .pen n :: ds.map Sl.val ∧ P n ds Qd ∧ ∀ d m, Qd d m → Q d (.pen m :: ds.map Sl.val)
/-- the first is an object that is being made -/
def pin (P : Str → List D → (List (Str × D) → Prop) → (Str → List (Str × D) → Prop) → Prop) : Ro → (D → Ro → Prop) → XP → Prop := fun ρ Q E => ∃ c ds Qd Ed, ρ = .own (.obj c []) :: ds.map Sl.val ∧ P c ds Qd Ed ∧ (∀ fs, Qd fs → Q .non (.own (.obj c fs) :: ds.map Sl.val)) ∧ ∀ c2 fs, Ed c2 fs → E c2 fs ρ
section
variable {K : PySem.W.Frag} {O : Oc} {F0 F F2 F3 H H2 H3 : Hp} {σ σ2 : L2.St} {ρ ρ2 : Ro} {Q : X → Ro → Prop} {QT : Bool → Ro → Prop} {QA : List X → Ro → Prop} {QF : D → Ro → Prop} {ta tb te to : TE} {t u tt : TT} {tA tK : TA} {ts tz : TS} {r : R2} {N : Hn} {n i : Nat} {x y : X} {d : D} {g : TG} {wi : TI} {p : Addr} {o o2 : HO} {vs : List V} {ds : List D} {s : Sl} {W : WX} {Xp : XP}
theorem sl_vals {i : Nat} : sl (ds.map Sl.val) i = match ds[i]? with | some d => .val d | none => .none := by
  unfold sl
  rw [List.getElem?_map]
  cases ds[i]? <;> rfl
theorem vals_mut : (sl (ds.map Sl.val) i).mut = false := by
  rw [sl_vals]
  cases ds[i]? <;> rfl
theorem sv_map {i : Nat} : sv (vs.map some) i = vs[i]? := by
  unfold sv
  rw [List.getElem?_map]
  cases vs[i]? <;> rfl
theorem vals_ok {O2 : Hp} (h : RepL K F vs ds) : SlOk K O2 F H (sv (vs.map some) i) (sl (ds.map Sl.val) i) := by
  rw [sl_vals]
  cases e : ds[i]? with
  | none => trivial
  | some d =>
    obtain ⟨v, hv, r⟩ := h.at e
    exact ⟨v, by rw [sv_map, hv], r⟩
/-- a table or a code object -/
def tx : Option HO → Bool
  | some (.tbl _) => true
  | some (.ext _) => true
  | _ => false
theorem nx_of {o : HO} (h : tx (some o) = false) : NX o := ⟨(fun ps z => by rw [z] at h; cases h), (fun φ z => by rw [z] at h; cases h)⟩
theorem tx_no {a : Addr} {q : Oc} (R : RS K q F H σ ρ) (h : tx (H a) = true) : q.o a = none ∧ True ∧ ∀ i, (sl ρ i).mut = true → sv σ i ≠ some (.ref a) := by
  have k : ∀ o, H a = some o → NX o → False := fun o e n => by
    rw [e] at h
    cases o with
    | tbl ps => exact n.1 ps rfl
    | ext φ => exact n.2 φ rfl
    | _ => cases h
  refine ⟨?_, ?_, fun i m e => ?_⟩
  · cases z : q.o a with
    | none => rfl
    | some o => exact (k o (R.oh _ _ z) (R.ot _ _ z)).elim
  · trivial
  · obtain ⟨b, h1, _, _, h4⟩ := R.owned m
    rw [h1] at e
    cases e
    obtain ⟨o, e1, e2⟩ := h4.nx
    exact k o e1 e2
/-- the heap beside F and p -/
def beside (F H : Hp) (q : Addr → Bool) : Hp := fun a => match F a with
  | some _ => none
  | none => if q a then none else H a
theorem beside_some {q : Addr → Bool} {a : Addr} (h : beside F H q a = some o) : F a = none ∧ q a = false ∧ H a = some o := by
  unfold beside at h
  cases e : F a with
  | some z => rw [e] at h; cases h
  | none =>
    rw [e] at h
    cases e2 : q a with
    | true => simp only [e2, if_true] at h; cases h
    | false => simp only [e2] at h; exact ⟨rfl, rfl, h⟩
theorem beside_of {q : Addr → Bool} {a : Addr} (hF : F a = none) (hq : q a = false) (h : H a = some o) : beside F H q a = some o := by
  unfold beside
  rw [hF]
  simp only [hq]
  exact h
theorem beside_none {q : Addr → Bool} {a : Addr} (h : beside F H q a = none) (hF : F a = none) (hq : q a = false) : H a = none := by
  unfold beside at h
  rw [hF] at h
  simp only [hq] at h
  exact h
/-- the callee's view, all arguments plain -/
theorem RS.enter (R : RS K O F H σ ρ) (rv : RepL K F vs ds) : RS K ⟨beside F H fun a => tx (H a), none, O.T⟩ F H (vs.map some) (ds.map Sl.val) :=
  { fh := R.fh, oh := (fun a o (e : beside F H (fun a => tx (H a)) a = some o) => (beside_some e).2.2), dj := (fun a o (e : beside F H (fun a => tx (H a)) a = some o) => (beside_some e).1), tb := R.tb, ot := (fun a o (e : beside F H (fun a => tx (H a)) a = some o) => by
      obtain ⟨e1, e2, e3⟩ := beside_some e
      have e2 : tx (H a) = false := e2
      rw [e3] at e2
      exact nx_of e2), ft := R.ft, w0 := (fun v (e : (none : Option V) = some v) => nomatch e), len := (by rw [List.length_map, List.length_map, rv.length]), at_ := (fun i => vals_ok rv), ne := (fun i j a ij mi => by rw [vals_mut] at mi; cases mi) }
theorem RS.after_ {O2 : Oc} {σ2 : L2.St} {q : Addr → Bool} (R : RS K O F H σ ρ) (C : RS K O2 F2 H2 σ2 ρ2) (g : Same F F2) (h : Same (beside F H q) O2.o) (hT : O2.T = O.T) (hq : ∀ a, q a = true → H a = none ∨ (O.o a = none ∧ ∀ i, (sl ρ i).mut = true → sv σ i ≠ some (.ref a))) : RS K O F2 H2 σ ρ := by
  have key : ∀ a o, H a = some o → F a = none → (O.o a ≠ none ∨ ∃ i, (sl ρ i).mut = true ∧ sv σ i = some (.ref a)) → H2 a = some o ∧ F2 a = none := fun a o ha hf hx => by
    have e : q a = false := by
      cases e : q a with
      | false => rfl
      | true =>
        rcases hq a e with z | ⟨z1, z2⟩
        · rw [z] at ha; cases ha
        · rcases hx with y | ⟨i, y1, y2⟩
          · exact absurd z1 y
          · exact absurd y2 (z2 i y1)
    have b := h a o (beside_of hf e ha)
    exact ⟨C.oh a o b, C.dj a o b⟩
  refine ⟨C.fh, fun a o e => (key a o (R.oh a o e) (R.dj a o e) (.inl (by rw [e]; simp))).1, fun a o e => (key a o (R.oh a o e) (R.dj a o e) (.inl (by rw [e]; simp))).2, (by rw [← hT]; exact C.tb), R.ot, C.ft, R.w0, R.len, fun i => ?_, R.ne⟩
  by_cases m : (sl ρ i).mut = true
  · obtain ⟨a, h1, h2, h3, h4⟩ := R.owned m
    obtain ⟨o, ho⟩ := h4.some
    obtain ⟨k1, k2⟩ := key a o ho h2 (.inr ⟨i, m, h1⟩)
    exact SlOk.of_mut m h1 k2 h3 (h4.mono (by rw [k1, ho]) g)
  · exact (R.at_ i).mono (by cases q : (sl ρ i).mut with | true => exact absurd q m | false => rfl) g
theorem RS.after {σ2 : L2.St} (R : RS K O F H σ ρ) (C : RS K ⟨beside F H fun a => tx (H a), none, O.T⟩ F2 H2 σ2 ρ2) (g : Same F F2) : RS K O F2 H2 σ ρ := R.after_ C g (Same.refl _) rfl fun a e => .inr ⟨(tx_no R e).1, (tx_no R e).2.2⟩
theorem RS.afterX {σ2 : L2.St} {dd : Addr} {xo : HO} {O2 : Hp} {q : Addr → Bool} (R : RS K O F H σ ρ) (C : RS K ⟨upd O2 dd xo, none, O.T⟩ F2 H2 σ2 ρ2) (g : Same F F2) (hd : O2 dd = none) (h : Same (beside F H q) O2) (hq : ∀ a, q a = true → H a = none ∨ (O.o a = none ∧ ∀ i, (sl ρ i).mut = true → sv σ i ≠ some (.ref a)))
    (hqd : q dd = true → O.o dd = none ∧ ∀ i, (sl ρ i).mut = true → sv σ i ≠ some (.ref dd)) : RS K { O with o := upd O.o dd xo } F2 H2 σ ρ ∧ O.o dd = none := by
  have s2 : Same O2 (upd O2 dd xo) := Same.upd (Same.refl _) hd
  have R2 := R.after_ C g (Same.trans h s2) rfl hq
  have f2 : F2 dd = none := C.dj dd xo upd_same
  have f1 : F dd = none := Same.free g f2
  have h1 : O.o dd = none ∧ ∀ i, (sl ρ i).mut = true → sv σ i ≠ some (.ref dd) := by
    cases e : q dd with
    | true => exact hqd e
    | false =>
      have h2 : H dd = none := beside_none (q := q) (Same.free h hd) f1 e
      exact ⟨(R.free h2).2, R.no_new h2⟩
  exact ⟨R2.out (C.oh dd xo upd_same) (C.ot dd xo upd_same) f2 h1.2, h1.1⟩
/-- f(a ..), all of them plain -/
theorem call_pu {P : PD} {Qh : VK} {Qd : D → Prop} {Ed : Str → List (Str × D) → Prop} (R : RS K O F H σ ρ) (s : Same F0 F) (hW : Wr K O F0 W Xp) (rv : RepL K F vs ds) (h : P ds Qd Ed) (hq : ∀ d, Qd d → ∀ v H2 F2, Same F F2 → RS K O F2 H2 σ ρ → Rep K F2 v d → Qh v H2) (he : ∀ c fs, Ed c fs → Xp c fs ρ) : spS K O.T (pu P) vs H Qh (WE W σ) := by
  refine ⟨⟨beside F H fun a => tx (H a), none, O.T⟩, F, _, rfl, R.enter rv, ds, Qd, Ed, rfl, h, fun d q v H2 F2 s2 C r => hq d q v H2 F2 s2 (R.after C s2) r, fun c fs q dd H2 F2 fvs s2 hd C hn rp => ?_⟩
  obtain ⟨R2, z⟩ := R.afterX C s2 hn (Same.refl _) (fun a e => .inr ⟨(tx_no R e).1, (tx_no R e).2.2⟩) (fun e => ⟨(tx_no R e).1, (tx_no R e).2.2⟩)
  exact hW F2 H2 σ ρ c fs dd fvs (Same.trans s s2) hd R2 z rp (he c fs q)
theorem m_fn {P : PD} (hW : Wr K O F0 W Xp) (k : Ma K O F0 tA ρ fun xs ρ1 => FrzL xs ρ1 fun ds ρ2 => P ds (fun d => Q (.val d) ρ2) fun c fs => Xp c fs ρ2) : Me K O F0 (tFn (spS K O.T (pu P)) [] W tA) ρ Q := fun F H σ Qh s R c =>
  k F H σ _ s R fun vs H1 F1 xs ρ1 s1 R1 r1 k1 => by
    obtain ⟨ds, ρ2, F2, s2, R2, r2, q⟩ := frzL_of R1 r1 k1
    rw [List.append_nil]
    exact call_pu R2 (Same.trans s (Same.trans s1 s2)) hW r2 q (fun d qd v H3 F3 s3 R3 r3 => c v H3 F3 (.val d) ρ2 (Same.trans s1 (Same.trans s2 s3)) R3 r3 qd) fun _ _ z => z
theorem wr0 : Wr K O F0 W0 fun _ _ _ => False := fun _ _ _ _ _ _ _ _ _ _ _ _ _ z => z
/-! #### bodies -/
theorem RS.start {Nm : List Str} (R : RS K O F H (vs.map some) ρ) : RS K ⟨O.o, vs.head?, O.T⟩ F H (start Nm vs) (ρ ++ List.replicate (Nm.length - ρ.length) .none) := by
  have hl : vs.length = ρ.length := by have := R.len; rwa [List.length_map] at this
  have e1 : ∀ i, sv (L2.start Nm vs) i = sv (vs.map some) i := fun i => by
    unfold sv L2.start
    by_cases h : i < (vs.map some).length
    · rw [List.getElem?_append_left h]
    · rw [List.getElem?_append_right (by omega), List.getElem?_eq_none (by omega : (vs.map some).length ≤ i), List.getElem?_replicate]
      split <;> rfl
  have e2 : ∀ i, sl (ρ ++ List.replicate (Nm.length - ρ.length) Sl.none) i = sl ρ i := fun i => by
    unfold sl
    by_cases h : i < ρ.length
    · rw [List.getElem?_append_left h]
    · rw [List.getElem?_append_right (by omega), List.getElem?_eq_none (by omega : ρ.length ≤ i), List.getElem?_replicate]
      split <;> rfl
  refine ⟨R.fh, R.oh, R.dj, R.tb, R.ot, R.ft, fun v e => ?_, ?_, fun i => ?_, fun i j a ij mi mj vi vj => ?_⟩
  · rw [e1, sv_map, ← List.head?_eq_getElem?]; exact e
  · unfold L2.start; rw [List.length_append, List.length_append, List.length_map, List.length_replicate, List.length_replicate, hl]
  · rw [e1, e2]; exact R.at_ i
  · rw [e2] at mi mj; rw [e1] at vi vj; exact R.ne i j a ij mi mj vi vj
theorem RS.stopV {O2 : Oc} (R : RS K O F H (vs.map some) ρ) (C : RS K O2 F2 H2 σ2 ρ2) (g : Same F F2) (hO : Same O.o O2.o) (hT : O2.T = O.T) (hm : ∀ i, (sl ρ i).mut = false) : RS K O F2 H2 (vs.map some) ρ :=
  ⟨C.fh, Same.trans hO C.oh, fun a o e => C.dj a o (hO _ _ e), (by rw [← hT]; exact C.tb), R.ot, C.ft, R.w0, R.len, fun i => (R.at_ i).mono (hm i) g, fun i j a ij mi => by rw [hm i] at mi; cases mi⟩
theorem RS.stopM {O2 : Oc} {s : Sl} {ds : List D} (R : RS K O F H (vs.map some) (s :: ds.map Sl.val)) (C : RS K O2 F2 H2 σ2 ρ2) (g : Same F F2) (hO : Same O.o O2.o) (hT : O2.T = O.T) (hw : O2.w = vs.head?) : RS K O F2 H2 (vs.map some) (sl ρ2 0 :: ds.map Sl.val) := by
  have tl : ∀ i, sl (sl ρ2 0 :: ds.map Sl.val) (i + 1) = sl (ds.map Sl.val) i := fun i => rfl
  have hv : vs ≠ [] := fun e => by have := R.len; rw [e] at this; cases this
  obtain ⟨v, us, rfl⟩ := List.exists_cons_of_ne_nil hv
  have e0 : sv σ2 0 = some v := C.w0 v hw
  refine ⟨C.fh, Same.trans hO C.oh, fun a o e => C.dj a o (hO _ _ e), (by rw [← hT]; exact C.tb), R.ot, C.ft, R.w0, R.len, fun i => ?_, fun i j a ij mi mj => ?_⟩
  · cases i with
    | zero =>
      show SlOk K O.o F2 H2 (some v) (sl ρ2 0)
      have q := C.at_ 0
      rw [e0] at q
      by_cases m : (sl ρ2 0).mut = true
      · obtain ⟨b, q1, q2, q3, q4⟩ := q.mut_of m
        exact SlOk.of_mut m q1 q2 (Same.free hO q3) q4
      · exact q.mono (by cases q : (sl ρ2 0).mut with | true => exact absurd q m | false => rfl) (Same.refl _)
    | succ i =>
      have q := R.at_ (i + 1)
      have e : sl (s :: ds.map Sl.val) (i + 1) = sl (ds.map Sl.val) i := rfl
      rw [e] at q
      rw [tl]
      exact q.mono vals_mut g
  · cases i with
    | zero =>
      cases j with
      | zero => exact absurd rfl ij
      | succ j => rw [tl, vals_mut] at mj; cases mj
    | succ i => rw [tl, vals_mut] at mi; cases mi
/-- the body of a def whose parameters are plain -/
theorem body_pu {T : List (Addr × Str)} {P : PD} {Nm : List Str} {ts : TS} {Qh : VK} {E : XK} (h : spS K T (pu P) vs H Qh E)
    (k : ∀ (o : Hp) (w : Option V) (F0 : Hp) (ds : List D) (Qd : D → Prop) (Ed : Str → List (Str × D) → Prop), P ds Qd Ed → Wr K ⟨o, w, T⟩ F0 (WO E) (fun c fs _ => Ed c fs) →
      Ms K ⟨o, w, T⟩ F0 ts (ds.map Sl.val ++ List.replicate (Nm.length - ds.length) .none) { nx := fun _ => Qd .non, rt := fun d _ => Qd d }) : ts { nx := fun _ H2 => Qh .non H2, rt := Qh } (start Nm vs) H := by
  obtain ⟨O, F, ρ, rfl, R, ds, Qd, Ed, rfl, hp, q1, q2⟩ := h
  have R1 := R.start (Nm := Nm)
  rw [List.length_map] at R1
  refine k O.o vs.head? F ds Qd Ed hp (fun F2 H2 σ2 ρ2 c fs dd fvs s2 hd C hn rp e => ?_) F H _ _ (Same.refl _) R1 ⟨fun F2 H2 σ2 ρ2 s2 C q => ?_, fun F2 H2 σ2 ρ2 v d s2 C r q => ?_, fun _ _ _ _ _ _ z => z, fun _ _ _ _ _ _ z => z, fun _ _ _ _ _ _ _ _ _ z => z.elim⟩
  · refine q2 c fs e dd H2 F2 fvs s2 hd ?_ hn rp
    have R3 : RS K O F2 H2 (vs.map some) (ds.map Sl.val) := R.stopV C s2 (Same.upd (Same.refl _) hn) rfl fun i => vals_mut
    exact R3.out hd nx_xd (C.dj dd _ upd_same) fun i m => by rw [vals_mut] at m; cases m
  · exact q1 .non q .non H2 F2 s2 (R.stopV C s2 (Same.refl _) rfl fun i => vals_mut) .non
  · exact q1 d q v H2 F2 s2 (R.stopV C s2 (Same.refl _) rfl fun i => vals_mut) r
theorem len_pu {T : List (Addr × Str)} {P : PD} {Qh : VK} {E : XK} {n : Nat} (hn : ∀ ds Q E, P ds Q E → ds.length = n) (h : spS K T (pu P) vs H Qh E) : vs.length = n := by
  obtain ⟨O, F, ρ, rfl, R, ds, Qd, Ed, rfl, hp, q1, q2⟩ := h
  have := R.len
  rw [List.length_map, List.length_map] at this
  rw [this, hn ds Qd Ed hp]
/-! #### what a slot owns, handed on -/
theorem RS.lose (R : RS K O F H σ ρ) : RS K O F H σ (ρ.set i .none) := by
  refine ⟨R.fh, R.oh, R.dj, R.tb, R.ot, R.ft, R.w0, by rw [List.length_set, R.len], fun j => ?_, fun j l a jl mj ml vj vl => ?_⟩
  · rw [sl_set0 (fun _ => rfl)]
    by_cases e : j = i
    · rw [if_pos e]; trivial
    · rw [if_neg e]; exact R.at_ j
  · rw [sl_set0 (fun _ => rfl)] at mj ml
    by_cases e : j = i
    · rw [if_pos e] at mj; cases mj
    · by_cases e2 : l = i
      · rw [if_pos e2] at ml; cases ml
      · rw [if_neg e] at mj; rw [if_neg e2] at ml; exact R.ne j l a jl mj ml vj vl
theorem RS.lost (R : RS K O F H σ ρ) (m : (sl ρ i).mut = true) (hp : sv σ i = some (.ref p)) : ∀ j, (sl (ρ.set i .none) j).mut = true → sv σ j ≠ some (.ref p) := fun j mj e => by
  rw [sl_set0 (fun _ => rfl)] at mj
  by_cases z : j = i
  · rw [if_pos z] at mj; cases mj
  · rw [if_neg z] at mj; exact R.ne j i p z mj m e hp
theorem RS.regain (R : RS K O F H σ (ρ.set i .none)) (hi : i < ρ.length) (hp : sv σ i = some (.ref p)) (m : s.mut = true) (hF : F p = none) (hO : O.o p = none) (h : MutOk K F H p s) (hx : ∀ j, (sl (ρ.set i .none) j).mut = true → sv σ j ≠ some (.ref p)) : RS K O F H σ (ρ.set i s) := by
  refine ⟨R.fh, R.oh, R.dj, R.tb, R.ot, R.ft, R.w0, by rw [R.len, List.length_set, List.length_set], fun j => ?_, fun j l a jl mj ml vj vl => ?_⟩
  · rw [sl_set hi]
    by_cases e : j = i
    · rw [if_pos e, e, hp]; exact SlOk.of_mut m rfl hF hO h
    · have q := R.at_ j
      rw [sl_set hi, if_neg e] at q
      rw [if_neg e]; exact q
  · rw [sl_set hi] at mj ml
    by_cases e : j = i
    · by_cases e2 : l = i
      · exact jl (e.trans e2.symm)
      · rw [if_neg e2] at ml
        rw [e, hp] at vj
        cases vj
        exact hx l (by rw [sl_set hi, if_neg e2]; exact ml) vl
    · rw [if_neg e] at mj
      by_cases e2 : l = i
      · rw [e2, hp] at vl
        cases vl
        exact hx j (by rw [sl_set hi, if_neg e]; exact mj) vj
      · rw [if_neg e2] at ml
        exact R.ne j l a jl (by rw [sl_set hi, if_neg e]; exact mj) (by rw [sl_set hi, if_neg e2]; exact ml) vj vl
theorem RS.enterM (R : RS K O F H σ ρ) (rv : RepL K F vs ds) (m : s.mut = true) (hF : F p = none) (h : MutOk K F H p s) : RS K ⟨beside F H fun a => tx (H a) || decide (a = p), none, O.T⟩ F H ((V.ref p :: vs).map some) (s :: ds.map Sl.val) := by
  have tl : ∀ i, sl (s :: ds.map Sl.val) (i + 1) = sl (ds.map Sl.val) i := fun i => rfl
  refine ⟨R.fh, fun a o (e : beside F H (fun a => tx (H a) || decide (a = p)) a = some o) => (beside_some e).2.2, fun a o (e : beside F H (fun a => tx (H a) || decide (a = p)) a = some o) => (beside_some e).1, R.tb, fun a o (e : beside F H (fun a => tx (H a) || decide (a = p)) a = some o) => ?_, R.ft, (fun v (e : (none : Option V) = some v) => nomatch e), by rw [List.length_map, List.length_cons, List.length_cons, List.length_map, rv.length], fun i => ?_, fun i j a ij mi mj => ?_⟩
  · obtain ⟨e1, e2, e3⟩ := beside_some e
    have e2 := (Bool.or_eq_false_iff.mp e2).1
    rw [e3] at e2
    exact nx_of e2
  · cases i with
    | zero =>
      refine SlOk.of_mut m rfl hF ?_ h
      show beside F H (fun a => tx (H a) || decide (a = p)) p = none
      cases e : beside F H (fun a => tx (H a) || decide (a = p)) p with
      | none => rfl
      | some o => have := (Bool.or_eq_false_iff.mp (beside_some e).2.1).2; rw [decide_eq_true rfl] at this; cases this
    | succ i => exact vals_ok rv
  · cases i with
    | zero =>
      cases j with
      | zero => exact absurd rfl ij
      | succ j => rw [tl, vals_mut] at mj; cases mj
    | succ i => rw [tl, vals_mut] at mi; cases mi
theorem RS.afterM {s2 : Sl} (R : RS K O F H σ ρ) (C : RS K ⟨beside F H fun a => tx (H a) || decide (a = p), none, O.T⟩ F2 H2 ((V.ref p :: vs).map some) (s2 :: ρ2)) (g : Same F F2) (hO : O.o p = none) (hx : ∀ i, (sl ρ i).mut = true → sv σ i ≠ some (.ref p)) : RS K O F2 H2 σ ρ ∧ (s2.mut = true → F2 p = none ∧ MutOk K F2 H2 p s2) := by
  refine ⟨R.after_ C g (Same.refl _) rfl fun a e => .inr ?_, fun m => ?_⟩
  · rcases Bool.or_eq_true_iff.mp e with e | e
    · exact ⟨(tx_no R e).1, (tx_no R e).2.2⟩
    · obtain rfl := of_decide_eq_true e
      exact ⟨hO, hx⟩
  · obtain ⟨q, h1, h2, _, h4⟩ := C.owned (i := 0) m
    cases h1
    exact ⟨h2, h4⟩
/-- f(pen, a ..) -/
theorem m_fnP {P : Nat → List D → (D → Nat → Prop) → Prop} (k : Ma K O F0 tA ρ fun xs ρ1 => FrzL xs ρ1 fun ds ρ2 => ∃ n, sl ρ2 i = .pen n ∧ P n ds fun d m => Q (.val d) (ρ2.set i (.pen m))) (e : (sl ρ i).mut = true) : Me K O F0 (tFn (spS K O.T (pp P)) [] W (tCons (tVar i) tA)) ρ Q := fun F H σ Qh s R c => by
  obtain ⟨p, a1, _⟩ := R.owned e
  refine ⟨_, sv_some a1, ?_⟩
  refine k F H σ _ s R fun vs H1 F1 xs ρ1 s1 R1 r1 k1 => ?_
  obtain ⟨ds, ρ2, F2, s2, R2, r2, n, en, q⟩ := frzL_of R1 r1 k1
  rw [List.append_nil]
  have m : (sl ρ2 i).mut = true := by rw [en]; rfl
  obtain ⟨p2, h1, h2, h3, h4⟩ := R2.owned m
  rw [a1] at h1
  cases h1
  rw [en] at h4
  have hi : i < ρ2.length := by
    by_cases z : i < ρ2.length
    · exact z
    · rw [sl_none (by omega)] at m; cases m
  have R3 := R2.lose (i := i)
  have hx := R2.lost m a1
  refine ⟨⟨beside F2 H1 fun a => tx (H1 a) || decide (a = p), none, O.T⟩, F2, _, rfl, R2.enterM r2 rfl h2 h4, n, ds, _, rfl, q, fun d m2 qd v H4 F4 s4 C rv => ?_⟩
  obtain ⟨R4, z⟩ := R3.afterM (O := O) C s4 h3 hx
  obtain ⟨z1, z2⟩ := z rfl
  exact c v H4 F4 (.val d) _ (Same.trans s1 (Same.trans s2 s4)) (R4.regain hi a1 rfl z1 h3 z2 hx) rv qd
/-- C(a ..) -/
theorem call_pin {c : Str} {P : Str → List D → (List (Str × D) → Prop) → (Str → List (Str × D) → Prop) → Prop} {Qh : VK} {Qd : List (Str × D) → Prop} {Ed : Str → List (Str × D) → Prop} (R : RS K O F H σ ρ) (s : Same F0 F) (hW : Wr K O F0 W Xp) (rv : RepL K F vs ds) (h : P c ds Qd Ed)
    (hq : ∀ fs, Qd fs → ∀ v H2 F2, Same F F2 → RS K O F2 H2 σ ρ → Rep K F2 v (.obj c fs) → Qh v H2) (he : ∀ c2 fs, Ed c2 fs → Xp c2 fs ρ) : ∀ xx dx, H xx = none → H dx = none → dx ≠ xx →
      spS K O.T (pin P) (.ref xx :: vs) (upd (upd H dx (.own xx)) xx (.ins (ga K c) dx [])) (fun v H2 => v = .non ∧ Qh (.ref xx) H2) (WE W σ) := fun xx dx hx hd hne => by
  have R1 : RS K O F (upd H dx (.own xx)) σ ρ := R.allocN hd
  have hx1 : upd H dx (.own xx) xx = none := by rw [upd_ne (Ne.symm hne)]; exact hx
  have R2 : RS K O F (upd (upd H dx (.own xx)) xx (.ins (ga K c) dx [])) σ ρ := R1.allocN hx1
  have nx := R1.no_new hx1
  obtain ⟨f1, f2⟩ := R1.free hx1
  refine ⟨⟨beside F (upd (upd H dx (.own xx)) xx (.ins (ga K c) dx [])) fun a => tx (upd (upd H dx (.own xx)) xx (.ins (ga K c) dx []) a) || decide (a = xx), none, O.T⟩, F, _, rfl, R2.enterM rv (s := .own (.obj c [])) rfl f1 ⟨dx, [], upd_same, RepP.nil⟩, c, ds, Qd, Ed, rfl, h, fun fs q v H4 F4 s4 C r4 => ?_, fun c2 fs q dd H4 F4 fvs s4 hdd C hn rp => ?_⟩
  · cases r4
    obtain ⟨R4, z⟩ := R2.afterM C s4 f2 nx
    obtain ⟨z1, z2⟩ := z rfl
    obtain ⟨o, ho, hnx, rp⟩ := Shl.rep (d := .obj c fs) z2 z1
    obtain ⟨R5, s5⟩ := R4.thaw ho hnx z1 f2 nx
    exact ⟨rfl, hq fs q _ _ _ (Same.trans s4 s5) R5 rp⟩
  · have hz := R2.afterX C s4 hn (Same.refl _) (fun a e => .inr (by
      rcases Bool.or_eq_true_iff.mp e with e | e
      · exact ⟨(tx_no R2 e).1, (tx_no R2 e).2.2⟩
      · obtain rfl := of_decide_eq_true e
        exact ⟨f2, nx⟩)) (fun e => by
      rcases Bool.or_eq_true_iff.mp e with e | e
      · exact ⟨(tx_no R2 e).1, (tx_no R2 e).2.2⟩
      · exfalso
        obtain rfl := of_decide_eq_true e
        obtain ⟨b, b1, b2, b3, b4⟩ := C.owned (i := 0) rfl
        cases b1
        cases upd_same.symm.trans b3)
    exact hW F4 H4 σ ρ c2 fs dd fvs (Same.trans s s4) hdd hz.1 hz.2 rp (he c2 fs q)
theorem m_nw {c : Str} {P : Str → List D → (List (Str × D) → Prop) → (Str → List (Str × D) → Prop) → Prop} (hW : Wr K O F0 W Xp) (k : Ma K O F0 tA ρ fun xs ρ1 => FrzL xs ρ1 fun ds ρ2 => P c ds (fun fs => Q (.val (.obj c fs)) ρ2) fun c2 fs => Xp c2 fs ρ2) : Me K O F0 (tNw (ga K c) (spS K O.T (pin P)) [] W tA) ρ Q := fun F H σ Qh s R c =>
  k F H σ _ s R fun vs H1 F1 xs ρ1 s1 R1 r1 k1 => by
    obtain ⟨ds, ρ2, F2, s2, R2, r2, q⟩ := frzL_of R1 r1 k1
    rw [List.append_nil]
    exact call_pin R2 (Same.trans s (Same.trans s1 s2)) hW r2 q (fun fs qd v H3 F3 s3 R3 r3 => c v H3 F3 (.val (.obj _ fs)) ρ2 (Same.trans s1 (Same.trans s2 s3)) R3 r3 qd) fun _ _ z => z
end
end SJ

/-! SJ6: the law's end where defs make lambdas: the tables of their code objects are tracked from the start. isinstance with any tuple. -/
namespace SJ
open PySem PySem.Spec PyProof.Rows L2 He LamX
/-- the tables at ts, empty -/
structure TabsAt (K : PySem.W.Frag) (h : Heap) (cs : List (Addr × Addr)) : Prop where
  got : ∀ q ∈ cs, h.get? q.2 = some { cls := .none, data := .fields #[] }
  out : ∀ q ∈ cs, K.lookup q.2 = none
  code : ∀ q ∈ cs, PySem.W.CodeHd h q.1 q.2
theorem law_tab {P : Program} {w : World} {K : PySem.W.Frag} {mg mb : Str → Option Value} {k : Nat} {fa a : Addr} {cs : List (Addr × Addr)} {fd : FuncData} {x : Str} {sp : Sp} {s1 : Shared} {us : List Value} {ns : List Int}
    (KX : K.In s1.heap) (hns : s1.heap.Ns mainGlobals mg) (hbn : s1.heap.Ns builtinsNs mb) (hbb : ∀ x : Str, x ≠ "__name__" → mb x = bootBuiltins x) (hlim : s1.heap.NoLimit) (hg : s1.gens = #[]) (TC : TabsAt K s1.heap cs)
    (hbm : ∃ (bm : Addr) (ob : Obj), mg "__builtins__" = some (.ref bm) ∧ bm ≠ builtinsNs ∧ s1.heap.get? bm = some ob ∧ ob.cls = .type "module" ∧ ob.dict = some builtinsNs ∧ ob.data = .plain)
    (ha : s1.heap.get? a = some { cls := .type "list", data := .seq us.toArray }) (hi : IntsAre us ns) (hl : ns.length ≤ sizeLine) (hr : Rm k callerA)
    (F : ∀ base : Heap, K.In base → base.Ns mainGlobals mg → (∀ q ∈ cs, TabB base mg q.1 q.2) → Fk P w K mg base k fa fd [x] sp) (hbind : ∀ (s : Shared) (u : Value), BindsTo s fd ⟨[u], []⟩ [(x, u)])
    (hsp : ∀ H : Hp, (∀ q ∈ cs, H q.2 = some (.tbl #[])) → SqL K H a (ns.map V.int) → (∀ b o, H b = some o → (∃ q ∈ cs, b = q.2) ∨ b = a) → sp [.ref a] H (fun v _ => v = .bl true) fun _ _ _ => False) :
    codeAny (model P w) callerA (.call (.ref fa) ⟨[.ref a], []⟩) (fun rr s2 => rr = .ok (.ret (.bool true)) ∧ OldK s1.heap s2.heap ∧ s2.os = s1.os ∧ AllBare s2.gens) s1 := by
  have rv := vals_ints hi
  have dec : ∀ b, (∃ q ∈ cs, b = q.2) ∨ ¬ ∃ q ∈ cs, b = q.2 := fun b => Classical.em _
  have isT : ∀ {b : Addr}, (∃ q ∈ cs, b = q.2) → s1.heap.get? b = some { cls := .none, data := .fields #[] } := fun {b} ⟨q, hq, e⟩ => by rw [e]; exact TC.got q hq
  have aT : ¬ ∃ q ∈ cs, a = q.2 := fun z => by
    have e := isT z
    rw [ha] at e
    exact nomatch (show Data.seq us.toArray _ = Data.fields #[] from congrArg Obj.data (Option.some.inj e))
  have go : ∀ H : Hp, (∀ q ∈ cs, H q.2 = some (.tbl #[])) → SqL K H a (ns.map V.int) → HOk P w H s1.heap → (∀ b o, H b = some o → (∃ q ∈ cs, b = q.2) ∨ (b = a ∧ K.lookup a = none ∧ ∃ ob xs, o = .frz ob (.lst xs))) →
      codeAny (model P w) callerA (.call (.ref fa) ⟨[.ref a], []⟩) (fun rr s2 => rr = .ok (.ret (.bool true)) ∧ OldK s1.heap s2.heap ∧ s2.os = s1.os ∧ AllBare s2.gens) s1 := by
    intro H hT hS hok only
    have free : ∀ {b : Addr} {o : Obj}, s1.heap.get? b = some o → (∀ vs n, o.data ≠ .seq vs n) → o.data ≠ .fields #[] → H b = none := fun {b o} eo n1 n2 => by
      cases q : H b with
      | none => rfl
      | some u =>
        rcases only b u q with z | ⟨rfl, _⟩
        · rw [isT z] at eo; cases eo; exact (n2 rfl).elim
        · rw [ha] at eo; cases eo; exact (n1 _ _ rfl).elim
    have freeD : ∀ {b : Addr} {o : Obj} {es : Array DictEntry} {ep : Nat}, s1.heap.get? b = some o → o.data = .dict es ep → H b = none := fun {b o es ep} eo ed => free eo (fun vs n z => by rw [ed] at z; cases z) fun z => by rw [ed] at z; cases z
    have nsK : ∀ {b : Addr} {m : Str → Option Value}, s1.heap.Ns b m → (hidT s1.heap H).Ns b m := fun {b m} ⟨o, es, ep, eo, ed, rr⟩ => ⟨o, es, ep, hidT_get eo (freeD eo ed), ed, rr⟩
    have Kb : K.In (hidT s1.heap H) := fun b o e => hidT_get (KX b o e) (by
      cases q : H b with
      | none => rfl
      | some u =>
        rcases only b u q with ⟨p, hp, rfl⟩ | ⟨rfl, z, _⟩
        · rw [TC.out p hp] at e; cases e
        · rw [z] at e; cases e)
    have M : Mod K mg (hidT s1.heap H) := ⟨Kb, nsK hns, ⟨mb, nsK hbn, hbb⟩, let ⟨mc, z1, z2⟩ := hlim; ⟨mc, nsK z1, z2⟩⟩
    have TB : ∀ q ∈ cs, TabB (hidT s1.heap H) mg q.1 q.2 := fun q hq => by
      refine ⟨?_, ?_, fun z => ?_⟩
      · obtain ⟨o, vs, file, tf, flags, tg, inF, text, tt, e1, r1, r2, r3, rest⟩ := TC.code q hq
        refine ⟨o, vs, file, tf, flags, tg, inF, text, tt, hidT_get e1 (free e1 (fun vs n z => by rw [r2] at z; cases z) fun z => ?_), r1, r2, r3, rest⟩
        rw [r2] at z
        cases z
        simp at r3
      · obtain ⟨bm, ob, b1, b2, b3, b4, b5, b6⟩ := hbm
        refine ⟨bm, ob, b1, b2, fun z => ?_, fun z => ?_, hidT_get b3 (free b3 (fun vs n z => by rw [b6] at z; cases z) fun z => by rw [b6] at z; cases z), b4, b5, b6⟩
        · obtain ⟨o, es, ep, e, hd, _⟩ := hns
          rw [z, e] at b3; cases b3
          rw [hd] at b6; cases b6
        · rw [z, TC.got q hq] at b3; cases b3; cases b6
      · obtain ⟨o, es, ep, e, hd, _⟩ := hns
        rw [z, TC.got q hq] at e; cases e; cases hd
    have e0 : Env0 P w K mg (hidT s1.heap H) callerA [] s1 H := ⟨rfl, M, fun b o e => of_hidT e, Nat.le_of_eq (hidT_size _ _), trivial, fun b z => absurd (show b ∈ ([] : List Addr) from z) (by simp), hok, .of_eq hg⟩
    refine codeAny_mono ((F _ Kb (nsK hns) TB).run callerA [] s1 H ⟨[.ref a], []⟩ [.ref a] [.ref a] _ _ hr e0 (hbind s1 (.ref a)) (.cons rfl .nil) (hsp H hT hS fun b o e => (only b o e).imp id And.left)) fun rr s2 h => ?_
    cases rr with
    | error e => obtain ⟨_, _, _, _, _, _, _, _, _, _, _, _, z⟩ := h; exact z.elim
    | ok fl =>
      cases fl with
      | next => exact h.elim
      | brk => exact h.elim
      | cont => exact h.elim
      | ret u =>
        obtain ⟨v, H2, os, bare, un, hok2, r2, q⟩ := h
        obtain rfl : v = .bl true := q
        obtain rfl : u = Value.bool true := r2
        have kept : ∀ b o, (¬ ∃ q ∈ cs, b = q.2) → s1.heap.get? b = some o → s2.heap.get? b = some o := fun b o nb e => by
          cases q : H b with
          | none => exact un.keep b o e q (fun z => absurd (show b ∈ ([] : List Addr) from z) (by simp)) (by simp)
          | some u =>
            rcases only b u q with z | ⟨_, _, ob, xs, z⟩
            · exact absurd z nb
            · rw [z] at q
              obtain ⟨z1, _⟩ := hok b _ q
              obtain ⟨z2, _⟩ := hok2 b _ (un.frzs b ob _ q)
              rw [e] at z1; cases z1
              exact z2
        have grown : ∀ q ∈ cs, ∃ more : Array Value, s2.heap.get? q.2 = some { cls := .none, data := .fields more } := fun q hq => by
          obtain ⟨more, z⟩ := un.tbls q.2 #[] (hT q hq)
          exact ⟨_, hok2 q.2 _ z⟩
        refine ⟨rfl, ⟨fun b o e => ?_, fun b o e => ?_⟩, os, bare⟩
        · rcases dec b with ⟨q, hq, rfl⟩ | nb
          · obtain ⟨more, hm⟩ := grown q hq
            rw [TC.got q hq] at e
            cases e
            exact .inr (.inl ⟨((TC.code q hq).tab (TC.got q hq)).isCodeTable, rfl, #[], more, rfl, by rw [Array.empty_append]; exact hm⟩)
          · exact .inl (kept b o nb e)
        · rcases dec b with ⟨q, hq, rfl⟩ | nb
          · obtain ⟨more, hm⟩ := grown q hq
            exact ⟨_, hm⟩
          · exact ⟨o, kept b o nb e⟩
  have d2 : ∀ b, Decidable (∃ q ∈ cs, b = q.2) := fun b => Classical.propDecidable _
  by_cases hk : K.lookup a = none
  · refine go (fun b => if b = a then some (.frz { cls := .type "list", data := .seq us.toArray } (.lst (ns.map V.int))) else if ∃ q ∈ cs, b = q.2 then some (.tbl #[]) else none) (fun q hq => ?_) (.inl (.inr ⟨_, if_pos rfl⟩)) (fun b o e => ?_) (fun b o e => ?_)
    · exact (if_neg (fun z => aT ⟨q, hq, z.symm⟩)).trans (if_pos ⟨q, hq, rfl⟩)
    · by_cases eb : b = a
      · have e2 := (if_pos eb).symm.trans e
        subst eb
        cases e2
        exact ⟨ha, by rw [List.length_map]; exact hl, us, _, rv, ha⟩
      · have e2 := (if_neg eb).symm.trans e
        by_cases et : ∃ q ∈ cs, b = q.2
        · cases (if_pos et).symm.trans e2
          exact isT et
        · exact nomatch (if_neg et).symm.trans e2
    · by_cases eb : b = a
      · cases (if_pos eb).symm.trans e
        exact .inr ⟨eb, hk, _, _, rfl⟩
      · have e2 := (if_neg eb).symm.trans e
        by_cases et : ∃ q ∈ cs, b = q.2
        · exact .inl et
        · exact nomatch (if_neg et).symm.trans e2
  · obtain ⟨o, ho⟩ : ∃ o, K.lookup a = some o := by
      cases q : K.lookup a with
      | none => exact absurd q hk
      | some o => exact ⟨o, rfl⟩
    have eo := KX _ _ ho
    rw [ha] at eo
    cases eo
    refine go (fun b => if ∃ q ∈ cs, b = q.2 then some (.tbl #[]) else none) (fun q hq => if_pos ⟨q, hq, rfl⟩) (.inr ⟨_, us.toArray, _, ho, rfl, rfl, rfl, by rw [List.size_toArray, ← rv.length, List.length_map]; exact hl, rv⟩) (fun b o e => ?_) (fun b o e => ?_)
    · by_cases et : ∃ q ∈ cs, b = q.2
      · cases (if_pos et).symm.trans e
        exact isT et
      · exact nomatch (if_neg et).symm.trans e
    · by_cases et : ∃ q ∈ cs, b = q.2
      · exact .inl et
      · exact nomatch (if_neg et).symm.trans e
theorem walk_tab {l : PySem.W.OpenLaw} {n k : Nat} {q : Program} {loose : List Str} {XP : (Str → Option Value) → Heap → Prop} {YP : World → Heap → Prop} {d : DefRec} {x : Str}
    (hn : l.most = some n) (hn2 : n ≤ sizeLine) (hdf : d.params.defaults = []) (hr : Rm k callerA)
    (F : ∀ (w : World) (mg : Str → Option Value) (fa : Addr) (h : Heap), YP w h → h.Ns mainGlobals mg → mg d.name = some (.ref fa) →
      ∃ (K : PySem.W.Frag) (fd : FuncData) (cs : List (Addr × Addr)) (sp : Sp), K.In h ∧ TabsAt K h cs ∧ (∀ (s : Shared) (u : Value), BindsTo s fd ⟨[u], []⟩ [(x, u)]) ∧
        (∀ (H : Hp) (a : Addr) (ns : List Int), ns.length ≤ n → (∀ q ∈ cs, H q.2 = some (.tbl #[])) → SqL K H a (ns.map V.int) → (∀ b o, H b = some o → (∃ q ∈ cs, b = q.2) ∨ b = a) → sp [.ref a] H (fun v _ => v = .bl true) fun _ _ _ => False) ∧
        ∀ base : Heap, K.In base → base.Ns mainGlobals mg → (∀ q ∈ cs, TabB base mg q.1 q.2) → Fk l.prog w K mg base k fa fd [x] sp) :
    PySem.W.WalkO q loose XP YP l.row.toRowW d [] (fun f vs => PySem.call f vs) := by
  refine Att.attach_call hn hdf fun w s0 s1 mg mb fa o pm cd doc a vs ns G Y ho hd hcd hmg hobj hints hlen hg => ?_
  obtain ⟨K, fd, cs, sp, KX, TC, hb, hsp, hF⟩ := F w mg fa _ Y G.T.g hmg
  exact law_tab KX G.T.g G.T.b G.T.builtins G.T.nolimit hg TC G.T.bmain hobj hints (Nat.le_trans hlen hn2) hr hF hb fun H hT hS ho => hsp H a ns hlen hT hS ho
/-! ### isinstance with a tuple of classes, wherever it stands -/
def rIsiS (K : PySem.W.Frag) : List V → Hp → VK → Prop := fun xs H Q => ∃ (x : V) (tp : Addr) (cs : List V) (t : Value) (us : List Value) (b : Bool), xs = [x, .ref tp] ∧ SqT K H tp cs ∧ Paired ClsV cs us ∧ TyX K H x t ∧ PySem.W.kitAny K t us = some b ∧ Q (.bl b) H
theorem c_isiS {X : Cx} : CallR X (.builtin "isinstance") (rIsiS X.K) := by
  intro pins s σ H xs us Q I r h
  obtain ⟨x, tp, cs, t, ws, b, rfl, hT, k, ty, e, q⟩ := h
  obtain ⟨u1, u2, rfl, r1, r2⟩ := vals2 r
  obtain rfl : u2 = Value.ref tp := r2
  obtain ⟨P, Z, p, hx⟩ := kit_of I r1 ty
  obtain ⟨its, rv, ⟨⟨oc, od, dt, sl⟩, h1, h2, n, h3⟩, _⟩ := I.tuple hT
  obtain rfl := ClsV.all k rv
  simp only at h2 h3
  subst h2 h3
  exact PySem.W.kia_tup Z I.kIn p h1 e hx fun tk => ⟨.bl b, H, I.tok tk, rfl, q⟩
end SJ

/-! SJ7: the head's observation with the tables of the defs that make lambdas; defs whose code object is known. -/
namespace SJ
open PySem PySem.Spec PyProof.Rows L2 He LamX
def codeA (K : PySem.W.Frag) (a : Addr) : Addr := match K.lookup a with
  | some ⟨_, _, .func fd, _⟩ => (match fd.code with
    | .ref c => c
    | _ => 0)
  | _ => 0
def cTA (K : PySem.W.Frag) (d : DD) : Addr × Addr := (codeA K (d.ad K), tabOf K (codeA K (d.ad K)))
structure SaysW (file : Str) (fa : List Tst) (fn : List DD) (fx : List XD) (tf : List DD) (h : Heap) (K : PySem.W.Frag) : Prop where
  z : SaysZ file fa fn fx K
  hd : ∀ d ∈ tf, PySem.W.codeHdIn K (cTA K d).1 (cTA K d).2 = true
  out : ∀ d ∈ tf, K.lookup (cTA K d).2 = none
  got : ∀ d ∈ tf, h.get? (cTA K d).2 = some { cls := .none, data := .fields #[] }
def tabW (g : Addr → Option Obj) (tf : List DD) (K : PySem.W.Frag) : Bool := tf.all fun d => PySem.W.codeHdIn K (cTA K d).1 (cTA K d).2 && (match g (cTA K d).2 with
  | some o => emptyTab o
  | none => false)
abbrev AlW : Type := AlZ × Bool
def frW (g : Addr → Option Obj) (n : Nat) : PySem.W.Frag := frT g (sysModules :: asS g n)
def obsW (n : Nat) (file : Str) (fa : List Tst) (fn : List DD) (fx : List XD) (tf : List DD) (g : Addr → Option Obj) : AlW := (obsZ file fa fn fx (frW g n), tabW g tf (frW g n))
theorem saysW_of {n : Nat} {file : Str} {fa : List Tst} {fn : List DD} {fx : List XD} {tf : List DD} {h : Heap} (e : obsW n file fa fn fx tf h.get? = (valZ fn fx, true)) : SaysW file fa fn fx tf h (frW h.get? n) := by
  have e1 : obsZ file fa fn fx (frW h.get? n) = valZ fn fx := congrArg (fun q : AlW => q.1) e
  have e2 : tabW h.get? tf (frW h.get? n) = true := congrArg (fun q : AlW => q.2) e
  have key : ∀ d ∈ tf, PySem.W.codeHdIn (frW h.get? n) (cTA (frW h.get? n) d).1 (cTA (frW h.get? n) d).2 = true ∧ ∃ o, h.get? (cTA (frW h.get? n) d).2 = some o ∧ emptyTab o = true := fun d hd => by
    obtain ⟨h3, h4⟩ := ba (List.all_eq_true.mp e2 d hd)
    cases q : h.get? (cTA (frW h.get? n) d).2 with
    | none => rw [q] at h4; cases h4
    | some o => rw [q] at h4; exact ⟨h3, o, rfl, h4⟩
  refine ⟨e1, fun d hd => (key d hd).1, fun d hd => ?_, fun d hd => ?_⟩
  · obtain ⟨_, o, q, z⟩ := key d hd; exact frT_none q z
  · obtain ⟨_, o, q, z⟩ := key d hd; rw [q, emptyTab_eq z]
def hookW (n : Nat) (file : Str) (fa : List Tst) (fn : List DD) (fx : List XD) (tf : List DD) : PySem.W.Hook where
  α := AlW
  obs := fun s => obsW n file fa fn fx tf s.heap.get?
  val := fun _ => (valZ fn fx, true)
  says := fun _ h => ∃ K : PySem.W.Frag, K.In h ∧ SaysW file fa fn fx tf h K
  of := fun _ _ e => ⟨_, frT_in, saysW_of e⟩
  keeps := fun _ _ _ ⟨K, hK, c⟩ k => ⟨K, PySem.W.Frag.In.keeps hK k, ⟨c.z, c.hd, c.out, fun d hd => k _ _ (c.got d hd)⟩⟩
theorem obsW_eq {n : Nat} {file : Str} {fa : List Tst} {fn : List DD} {fx : List XD} {tf : List DD} {g : Addr → Option Obj} {s : Shared} (h : ∀ a, g a = s.heap.get? a) : obsW n file fa fn fx tf g = (hookW n file fa fn fx tf).obs s := by
  have e : g = s.heap.get? := funext h
  rw [e] <;> rfl
theorem SaysW.tabs {file : Str} {fa : List Tst} {fn : List DD} {fx : List XD} {tf : List DD} {h : Heap} {K : PySem.W.Frag} (c : SaysW file fa fn fx tf h K) (KX : K.In h) : TabsAt K h (tf.map (cTA K)) := by
  refine ⟨fun q hq => ?_, fun q hq => ?_, fun q hq => ?_⟩ <;> obtain ⟨d, hd, rfl⟩ := List.mem_map.mp hq
  · exact c.got d hd
  · exact c.out d hd
  · exact PySem.W.codeHd_of_K KX (c.hd d hd)
theorem code_at {K : PySem.W.Frag} {f : Addr} {oc cdv : Value} {od : Option Addr} {osl : Array (Option Value)} {x qual : Str} {pa : Arguments} {bo : List Stmt} {sc : Scope} {dV kV doc pm ct : Value} {an : Option Addr} (lk : K.lookup f = some ⟨oc, od, .func (PySem.W.fnOf x qual pa bo sc dV kV doc pm an cdv ct), osl⟩) (hcd : PySem.W.codeIn K cdv qual = true) : cdv = .ref (codeA K f) := by
  obtain ⟨c0, rfl⟩ := codeIn_ref hcd
  unfold codeA
  rw [lk]
/-- fk_of, fs_of, the code object known -/
theorem fkC_of {P : Program} {w : World} {K : PySem.W.Frag} {mg : Str → Option Value} {base : Heap} {x qual : Str} {pa : Arguments} {bo : List Stmt} {sc : Scope} {dvs : List V} {kws : List (Str × V)} {f : Addr} {fd : FuncData} {N ps : List Str} {k : Nat} {sp : Sp}
    (F : FunD K x qual pa bo sc dvs kws f fd) (S : FnScope N ps sc) (len : ∀ vs H Q E, sp vs H Q E → vs.length = ps.length)
    (hb : ∀ (cdv : Value), cdv = .ref (codeA K f) → ∀ (A : Around) (outer : List Env) (s : Shared) (H : Hp) (vs : List V) (Q : VK) (E : XK), Rm k (A.deeper (envOfC qual sc s.heap.objs.size f cdv)) → sp vs H Q E →
      ∃ t, PSs (cxOf (L2.CX P w) P w K mg base N qual sc f cdv A outer s H E) bo t ∧ t { nx := fun _ H2 => Q .non H2, rt := Q } (start N vs) H) : Fk P w K mg base (k + 1) f fd ps sp := by
  obtain ⟨oc, od, dV, kV, doc, pm, an, cdv, ct, osl, rfl, lk, hcd, _, _⟩ := F.ex
  have hcv : cdv = .ref (codeA K f) := code_at lk hcd
  refine ⟨len, fun A outer s H args us vs Q E hr e0 hbi rv hsp => ?_⟩
  have hl := len _ _ _ _ hsp
  have KX : K.In s.heap := e0.mod.kin.keeps fun b o z => (e0.bs b o z).1
  have lim : s.heap.NoLimit := e0.mod.nolimit.keeps fun b o z => (e0.bs b o z).1
  have kinds : ∀ y ∈ ps.zip us, sc.names.lookup y.1 = some .local ∨ (sc.names.lookup y.1 = some .cell ∧ ((cellsFrom (s.heap.objs.size + 1) sc.names []).lookup y.1).isSome = true) := fun ⟨n, v⟩ hy => by
    rcases S.par n (List.of_mem_zip hy).1 with z | z
    · exact .inl z
    · exact .inr ⟨z, PySem.W.cellsFrom_some _ _ _ (.inl z)⟩
  refine codeAny_call_function hr.r.depth (KX _ _ lk) rfl S.co S.gen rfl (PySem.W.codeRec_of KX hcd) (hbi _ _ _ _ (wpAny_newFunctionEnv_cells S.kind kinds fun env he s1 x1 => ?_))
  subst he
  refine ⟨lim.keeps x1.toInCall.keep, codeAny_func ?_⟩
  obtain ⟨t, ht, hq⟩ := hb cdv hcv A outer s H vs Q E (hr.deeper _) hsp
  have I : Inv (cxOf (L2.CX P w) P w K mg base N qual sc f cdv A outer s H E) [] (start N vs) H s1 := inv_start S hr.r.hd e0 hl rv x1
  refine wpAny_mono (ht.run [] s1 (start N vs) H _ I hq) (fun fl s2 hs => ?_) fun _ _ z => z
  cases fl with
  | ret u => obtain ⟨v, σ2, H2, J, r2, q⟩ := hs; exact ⟨v, H2, J.os, J.bare, J.base, J.hok, r2, q⟩
  | next => obtain ⟨σ2, H2, J, q⟩ := hs; exact ⟨.non, H2, J.os, J.bare, J.base, J.hok, rfl, q⟩
  | brk => obtain ⟨_, _, _, q⟩ := hs; exact q.elim
  | cont => obtain ⟨_, _, _, q⟩ := hs; exact q.elim
theorem fsC_of {P : Program} {w : World} {K : PySem.W.Frag} {mg : Str → Option Value} {base : Heap} {x qual : Str} {pa : Arguments} {bo : List Stmt} {sc : Scope} {dvs : List V} {kws : List (Str × V)} {f : Addr} {fd : FuncData} {N ps : List Str} {pv : Str} {k : Nat} {sp : Sp}
    (F : FunD K x qual pa bo sc dvs kws f fd) (S : FnScope N (ps ++ [pv]) sc)
    (hb : ∀ (cdv : Value), cdv = .ref (codeA K f) → ∀ (A : Around) (outer : List Env) (s : Shared) (H : Hp) (vs : List V) (Q : VK) (E : XK), Rm k (A.deeper (envOfC qual sc s.heap.objs.size f cdv)) → sp vs H Q E →
      ∃ t, PSs (cxOf (L2.CX P w) P w K mg base N qual sc f cdv A outer s H E) bo t ∧ t { nx := fun _ H2 => Q .non H2, rt := Q } (start N vs) H) : Fs P w K mg base (k + 1) f fd ps pv sp := by
  obtain ⟨oc, od, dV, kV, doc, pm, an, cdv, ct, osl, rfl, lk, hcd, _, _⟩ := F.ex
  have hcv : cdv = .ref (codeA K f) := code_at lk hcd
  refine ⟨fun A outer s H args us rs vs xs Q E hr e0 hbi rv rx hl hz hsp => ?_⟩
  have hn : H s.heap.objs.size = none := e0.hok.fresh (Nat.le_refl _)
  have hl1 : us.length = ps.length := by rw [← rv.length]; exact hl
  have hz1 : rs.length ≤ sizeLine := by rw [← rx.length]; exact hz
  refine StX.run_bnd lk hcd S hr.r e0 (G := fun ys H2 => ∃ p, H p = none ∧ ys = vs ++ [V.ref p] ∧ H2 = upd H p (.tup xs)) (fun A2 Ex Q2 h => ?_) fun s2 H2 ys ⟨p, hp, ey, eH⟩ _ => ?_
  · refine hbi _ _ _ _ (wpAny_bind (wpAny_newTuple (wpAny_pure ?_) hz1))
    have un := StX.un_laid (fs := frs outer) (s := s) (o := ({ cls := .type "tuple", data := .seq rs.toArray } : Obj)) (u := .tup xs) hn
    have new : ObjOk P w (upd H s.heap.objs.size (.tup xs)) (s.heap.push ({ cls := .type "tuple", data := .seq rs.toArray } : Obj)) s.heap.objs.size (.tup xs) := ⟨hz, rs, rx, ⟨_, Heap.get?_push_size _ rfl, rfl, _, rfl⟩⟩
    have z := h _ _ (vs ++ [V.ref s.heap.objs.size]) (us ++ [Value.ref s.heap.objs.size]) (StX.env0_laid e0 new) un rfl (fun e s3 => StX.cxUp outer s H _ _ E e s3 un (fun b o q => Heap.get?_push_of_some _ q) rfl) (rv.append (.cons rfl .nil))
      (by rw [List.length_append, List.length_append, hl] <;> rfl) ⟨_, hn, rfl, rfl⟩
    rw [List.zip_append hl1.symm] at z
    exact z
  · subst ey eH
    exact hb cdv hcv A outer s2 _ _ Q E (hr.deeper _) (hsp p hp)
end SJ

/-! SJ8: classmethods' addresses, binders with keyword-only defaults, C.m(k = v) without a positional value, C.NAME an int. -/
namespace SJ
open PySem PySem.Spec PyProof.Rows L2 He
/-- a classmethod's def -/
def cmA (x f : Str) (K : PySem.W.Frag) : Addr := match PySem.W.recIn K (ma K (ga K x) f) "classmethod" with
  | some (.ref g :: _) => g
  | _ => 0
def cmT (x f : Str) : Tst := fun K => PySem.W.readsIn K (ga K x) (.type "type") && (eqO (PySem.W.specialIn K (.ref (ga K x)) "__getattribute__") (some (some (.builtin "type.__getattribute__"))) && ((match PySem.W.findCls K (.ref (ga K x)) (.type "type") f with
  | some (.get (.builtin i) (.ref p) .none (.ref C)) => decide (i = "classmethod.__get__") && (decide (p = ma K (ga K x) f) && decide (C = ga K x))
  | _ => false) && ((match PySem.W.recIn K (ma K (ga K x) f) "classmethod" with
  | some (.ref _ :: _) => true
  | _ => false) && PySem.W.fnIn K (cmA x f K))))
theorem cmT_ok {K : PySem.W.Frag} {x f : Str} (c : cmT x f K = true) : ClX.CRead K (ga K x) (.type "type") ∧ ClX.CMet K (ga K x) (.type "type") f (ma K (ga K x) f) (cmA x f K) := by
  obtain ⟨c1, c⟩ := ba c
  obtain ⟨c2, c⟩ := ba c
  obtain ⟨c3, c⟩ := ba c
  obtain ⟨c4, c5⟩ := ba c
  refine ⟨⟨c1, eqO_ok c2⟩, ?_, ?_, c5⟩
  · cases q : PySem.W.findCls K (.ref (ga K x)) (.type "type") f with
    | none => rw [q] at c3; cases c3
    | some o =>
      rw [q] at c3
      cases o with
      | val v => cases c3
      | get a b d e =>
        cases a with
        | builtin i =>
          cases b with
          | ref p =>
            cases d with
            | none =>
              cases e with
              | ref C =>
                obtain ⟨e1, c3⟩ := ba (show (decide (i = "classmethod.__get__") && (decide (p = ma K (ga K x) f) && decide (C = ga K x))) = true from c3)
                obtain ⟨e2, e3⟩ := ba c3
                rw [of_decide_eq_true e1, of_decide_eq_true e2, of_decide_eq_true e3]
              | _ => cases c3
            | _ => cases c3
          | _ => cases c3
        | _ => cases c3
  · unfold cmA
    cases q : PySem.W.recIn K (ma K (ga K x) f) "classmethod" with
    | none => rw [q] at c4; cases c4
    | some l =>
      rw [q] at c4
      cases l with
      | nil => cases c4
      | cons v r =>
        cases v with
        | ref g => exact ⟨r, rfl⟩
        | _ => cases c4
/-- values by places: of the arguments, of the defaults, of the keywords -/
def pickL {α : Type} (ix : List Nat) (us mv ws : List α) : List α := ix.filterMap fun i => (us ++ mv ++ ws)[i]?
theorem pick_rel {ix : List Nat} {vs mz zs : List V} {us mv ws : List Value} (r1 : Vals vs us) (r2 : Vals mz mv) (r3 : Vals zs ws) : Vals (pickL ix vs mz zs) (pickL ix us mv ws) := by
  have r := (r1.append r2).append r3
  unfold pickL
  induction ix with
  | nil => exact .nil
  | cons i ix ih =>
    rw [List.filterMap_cons, List.filterMap_cons]
    cases q : (vs ++ mz ++ zs)[i]? with
    | none => rw [r.none_of q]; exact ih
    | some v => obtain ⟨u, e, rv⟩ := r.get q; rw [e]; exact .cons rv ih
section
variable {X : Cx} {k n : Nat} {f C q g0 : Addr} {mc : Value} {fd : FuncData} {ps ks : List Str} {sp : Sp} {W : WX} {m : Str} {apos pos : Pos} {o : Expr} {kws : List Keyword} {to : TE} {ta tk : TA} {g : List Value → List Value → List Value} {gV : List V → List V → List V} {mm : Nat} {pl : Sem Bool}
/-- C.m(k = v, ..) -/
theorem pe_cmK0 (ho : PE X o to) (r : ClX.CRead X.K C mc) (c : ClX.CMet X.K C mc m g0 f) (F : Fk X.prog X.w X.K X.mg X.base k f fd ps sp) (hr : Rm k X.A) (hb : KBn X.K fd ps 1 ks g gV) (tks : Takes X W) (hkw : PK X kws tk)
    (hall : (backToKw pos (keywordEach kws X.env)).all (·.1.isSome) = true := by rfl) (hks : (backToKw pos (keywordEach kws X.env)).filterMap (·.1) = ks := by rfl) (hmm : ks.length = mm := by rfl)
    (hpl : ((backTo pos (starEach [] X.env)).any (·.1) || (backToKw pos (keywordEach kws X.env)).any (·.1.isNone)) = false := by rfl) (ht : eval (.Call (.Attribute o m apos) [] kws pos) X.env = mcl X o m apos pl pos [] kws := by rfl) :
    PE X (.Call (.Attribute o m apos) [] kws pos) (tCmK C 0 mm sp gV W to tNil tk) := by
  refine ⟨fun pins s σ H Q I h => ?_⟩
  refine PySem.W.methodCall_KW (pl := pl) (thn (ho.run pins s σ H _ I h) fun u s1 ⟨y, H1, I1, ry, ey, q1⟩ => ?_) ht
  subst ey
  obtain rfl : u = Value.ref C := ry
  refine ClX.getmethcm_ok I1 r c fun s2 I2 => ?_
  refine PySem.W.callWith_of hpl (PySem.W.keeps_M (self := .ref C) c.fi) (PyProof.Rows.evalArgs_kw2_nil hall (thn (hkw.run pos _ s2 σ H1 _ I2 q1) fun ws s4 ⟨zs, H3, I4, rz, l1, l2, q3⟩ => ⟨⟨ClX.pin_at I4, I4.kIn⟩, ?_⟩))
  rw [hks]
  subst hmm
  exact run_met (n := 0) F hr hb tks I4 .nil rz l1 l2 q3
end
/-- C.NAME, an int -/
def cvI (x f : Str) (z : Int) : Tst := fun K => PySem.W.readsIn K (ga K x) (.type "type") && (eqO (PySem.W.specialIn K (.ref (ga K x)) "__getattribute__") (some (some (.builtin "type.__getattribute__"))) && (match PySem.W.findCls K (.ref (ga K x)) (.type "type") f with
  | some (.val (.int y _)) => decide (y = z)
  | _ => false))
theorem cvI_ok {K : PySem.W.Frag} {x f : Str} {z : Int} (c : cvI x f z K = true) : ∃ mc v, ClX.CRead K (ga K x) mc ∧ ClX.CVal K (ga K x) mc f (.int z) v := by
  obtain ⟨c1, c⟩ := ba c
  obtain ⟨c2, c3⟩ := ba c
  refine ⟨.type "type", ?_⟩
  cases q : PySem.W.findCls K (.ref (ga K x)) (.type "type") f with
  | none => rw [q] at c3; cases c3
  | some o =>
    rw [q] at c3
    cases o with
    | val v =>
      cases v with
      | int y t => exact ⟨_, ⟨c1, eqO_ok c2⟩, q, t, by rw [show y = z from of_decide_eq_true c3]⟩
      | _ => cases c3
    | _ => cases c3
end SJ

/-! MRe: operators, calls of built-ins, fields, methods without heaps. -/
namespace SJ
open PySem PySem.Spec PyProof.Rows L2 He
def seeD : X → Ro → Option D
  | .val d, _ => some d
  | .slot n, ρ => match sl ρ n with
    | .own d => some d
    | .val d => some d
    | _ => none
section
variable {K : PySem.W.Frag} {O : Oc} {F0 F F2 F3 H H2 H3 : Hp} {σ σ2 : L2.St} {ρ ρ2 : Ro} {Q : X → Ro → Prop} {QT : Bool → Ro → Prop} {QA : List X → Ro → Prop} {QF : D → Ro → Prop} {ta tb te to : TE} {t u tt : TT} {tA tK : TA} {ts tz : TS} {r : R2} {N : Hn} {n : Nat} {x y : X} {d : D} {g : TG} {wi : TI} {p : Addr} {o o2 : HO} {vs : List V} {ds es : List D} {kds : List (Key × D)} {fds : List (Str × D)} {W : WX} {Xp : XP} {i j : Int} {b c : Bool} {s z : Str} {cn : Str} {v : V}
/-- what a value held shows: its parts are frozen -/
theorem look (R : RS K O F H σ ρ) (h : XvR K F σ v x) (e : seeD x ρ = some d) : Rep K F v d ∨ ∃ p, v = .ref p ∧ Shl K F H p d := by
  cases x with
  | val d0 => cases e; exact .inl h
  | slot n =>
    have hv : sv σ n = some v := h
    have a := R.at_ n
    have e : (match sl ρ n with | .own d => some d | .val d => some d | _ => none) = some d := e
    cases es : sl ρ n with
    | none => rw [es] at e; cases e
    | pen k => rw [es] at e; cases e
    | val d0 =>
      rw [es] at e a
      cases e
      obtain ⟨w, a1, a2⟩ := a
      rw [hv] at a1; cases a1
      exact .inl a2
    | own d0 =>
      rw [es] at e a
      cases e
      obtain ⟨p, a1, a2, a3, a4⟩ := a
      rw [hv] at a1; cases a1
      exact .inr ⟨p, rfl, a4⟩
theorem look_raw (R : RS K O F H σ ρ) (h : XvR K F σ v x) (e : seeD x ρ = some (.lst ds)) : ∃ a xs, v = .ref a ∧ H a = some (.lst xs) ∧ RepL K F xs ds := by
  rcases look R h e with q | ⟨p, rfl, vs, h1, h2⟩
  · obtain ⟨a, xs, rfl, h1, h2⟩ := q.lstP; exact ⟨a, xs, rfl, R.fh _ _ h1, h2⟩
  · exact ⟨p, vs, rfl, h1, h2⟩
theorem look_lst (R : RS K O F H σ ρ) (h : XvR K F σ v x) (e : seeD x ρ = some (.lst ds)) : ∃ a xs, v = .ref a ∧ SqL K H a xs ∧ RepL K F xs ds := by
  obtain ⟨a, xs, e1, e2, e3⟩ := look_raw R h e
  exact ⟨a, xs, e1, SqL.of e2, e3⟩
theorem look_tup (R : RS K O F H σ ρ) (h : XvR K F σ v x) (e : seeD x ρ = some (.tup ds)) : ∃ a xs, v = .ref a ∧ SqT K H a xs ∧ RepL K F xs ds := by
  rcases look R h e with q | ⟨p, rfl, q⟩
  · obtain ⟨a, xs, rfl, h1, h2⟩ := q.tupP; exact ⟨a, xs, rfl, sqt_same R.fh h1, h2⟩
  · cases q
theorem look_dct (R : RS K O F H σ ρ) (h : XvR K F σ v x) (e : seeD x ρ = some (.dct kds)) : ∃ a kvs, v = .ref a ∧ H a = some (.dK kvs) ∧ RepP K F kvs kds := by
  rcases look R h e with q | ⟨p, rfl, vs, h1, h2⟩
  · cases q with
    | dct h1 h2 h3 => exact ⟨_, _, rfl, R.fh _ _ h1, h2, h3⟩
  · exact ⟨p, vs, rfl, h1, h2⟩
theorem look_obj (R : RS K O F H σ ρ) (h : XvR K F σ v x) (e : seeD x ρ = some (.obj cn fds)) : ∃ a dx fs, v = .ref a ∧ H a = some (.ins (ga K cn) dx fs) ∧ RepP K F fs fds := by
  rcases look R h e with q | ⟨p, rfl, dx, vs, h1, h2⟩
  · obtain ⟨a, dx, fs, rfl, h1, h2⟩ := q.objP; exact ⟨a, dx, fs, rfl, R.fh _ _ h1, h2⟩
  · exact ⟨p, dx, vs, rfl, h1, h2⟩
theorem look_int (h : XvR K F σ v (.val (.int i))) : v = .int i := by cases (show Rep K F v (.int i) from h); rfl
theorem look_str (h : XvR K F σ v (.val (.str s))) : v = .str s := by cases (show Rep K F v (.str s) from h); rfl
theorem look_bl (h : XvR K F σ v (.val (.bl b))) : v = .bl b := by cases (show Rep K F v (.bl b) from h); rfl
theorem look_non (h : XvR K F σ v (.val .non)) : v = .non := by cases (show Rep K F v .non from h); rfl
/-! #### scalars -/
theorem r_addI (k : Q (.val (.int (i + j))) ρ) : Mr K O F0 (rAdd K) (.val (.int i)) (.val (.int j)) ρ Q := fun F H σ u v Qh _ R hu hv q => by
  rw [look_int hu, look_int hv]; exact x_addI (q _ H F (.val (.int (i + j))) ρ (Same.refl _) R (Rep.int _) k)
theorem r_subI (k : Q (.val (.int (i - j))) ρ) : Mr K O F0 rSub (.val (.int i)) (.val (.int j)) ρ Q := fun F H σ u v Qh _ R hu hv q => by
  rw [look_int hu, look_int hv]; exact x_sub' (q _ H F (.val (.int (i - j))) ρ (Same.refl _) R (Rep.int _) k)
theorem r_mulI (h : CMul i j) (k : Q (.val (.int (i * j))) ρ) : Mr K O F0 (rMul K) (.val (.int i)) (.val (.int j)) ρ Q := fun F H σ u v Qh _ R hu hv q => by
  rw [look_int hu, look_int hv]; exact x_mulI h (q _ H F (.val (.int (i * j))) ρ (Same.refl _) R (Rep.int _) k)
theorem r_mod (h : 0 < j) (k : Q (.val (.int (i % j))) ρ) : Mr K O F0 rMod (.val (.int i)) (.val (.int j)) ρ Q := fun F H σ u v Qh _ R hu hv q => by
  rw [look_int hu, look_int hv]; exact x_mod h (q _ H F (.val (.int (i % j))) ρ (Same.refl _) R (Rep.int _) k)
theorem r_fdv (h : 0 < j) (h2 : j < 1073741824) (k : Q (.val (.int (i / j))) ρ) : Mr K O F0 rFdv (.val (.int i)) (.val (.int j)) ρ Q := fun F H σ u v Qh _ R hu hv q => by
  rw [look_int hu, look_int hv]; exact x_fdv h h2 (q _ H F (.val (.int (i / j))) ρ (Same.refl _) R (Rep.int _) k)
theorem r_pow (h : 0 ≤ j ∧ j ≤ 1000000 ∧ i.natAbs < 2 ^ 64) (k : Q (.val (.int (i ^ j.toNat))) ρ) : Mr K O F0 rPow (.val (.int i)) (.val (.int j)) ρ Q := fun F H σ u v Qh _ R hu hv q => by
  rw [look_int hu, look_int hv]; exact x_pow h (q _ H F (.val (.int (i ^ j.toNat))) ρ (Same.refl _) R (Rep.int _) k)
theorem r_addS (h : s.length + z.length ≤ 1000) (k : Q (.val (.str (s ++ z))) ρ) : Mr K O F0 (rAdd K) (.val (.str s)) (.val (.str z)) ρ Q := fun F H σ u v Qh _ R hu hv q => by
  rw [look_str hu, look_str hv]; exact x_addS h (q _ H F (.val (.str (s ++ z))) ρ (Same.refl _) R (Rep.str _) k)
theorem r_eqI (k : Q (.val (.bl (decide (i = j)))) ρ) : Mr K O F0 (rEqU K) (.val (.int i)) (.val (.int j)) ρ Q := fun F H σ u v Qh _ R hu hv q => by
  rw [look_int hu, look_int hv]; exact x_eqI (q _ H F (.val (.bl _)) ρ (Same.refl _) R (Rep.bl _) k)
theorem r_neI (k : Q (.val (.bl (!decide (i = j)))) ρ) : Mr K O F0 (rNeU K) (.val (.int i)) (.val (.int j)) ρ Q := fun F H σ u v Qh _ R hu hv q => by
  rw [look_int hu, look_int hv]; exact x_neI (q _ H F (.val (.bl _)) ρ (Same.refl _) R (Rep.bl _) k)
theorem r_eqS (k : Q (.val (.bl (decide (s = z)))) ρ) : Mr K O F0 (rEqU K) (.val (.str s)) (.val (.str z)) ρ Q := fun F H σ u v Qh _ R hu hv q => by
  rw [look_str hu, look_str hv]; exact x_eqT (q _ H F (.val (.bl _)) ρ (Same.refl _) R (Rep.bl _) k)
theorem r_neS (k : Q (.val (.bl (!decide (s = z)))) ρ) : Mr K O F0 (rNeU K) (.val (.str s)) (.val (.str z)) ρ Q := fun F H σ u v Qh _ R hu hv q => by
  rw [look_str hu, look_str hv]; exact x_neT (q _ H F (.val (.bl _)) ρ (Same.refl _) R (Rep.bl _) k)
theorem r_ltI (k : Q (.val (.bl (decide (i < j)))) ρ) : Mr K O F0 rLtU (.val (.int i)) (.val (.int j)) ρ Q := fun F H σ u v Qh _ R hu hv q => by
  rw [look_int hu, look_int hv]; exact x_ltI (q _ H F (.val (.bl _)) ρ (Same.refl _) R (Rep.bl _) k)
theorem r_leI (k : Q (.val (.bl (decide (i ≤ j)))) ρ) : Mr K O F0 rLeU (.val (.int i)) (.val (.int j)) ρ Q := fun F H σ u v Qh _ R hu hv q => by
  rw [look_int hu, look_int hv]; exact x_leI (q _ H F (.val (.bl _)) ρ (Same.refl _) R (Rep.bl _) k)
theorem r_gtI (k : Q (.val (.bl (decide (j < i)))) ρ) : Mr K O F0 rGtU (.val (.int i)) (.val (.int j)) ρ Q := fun F H σ u v Qh _ R hu hv q => by
  rw [look_int hu, look_int hv]; exact x_gtI (q _ H F (.val (.bl _)) ρ (Same.refl _) R (Rep.bl _) k)
theorem r_geI (k : Q (.val (.bl (decide (j ≤ i)))) ρ) : Mr K O F0 rGeU (.val (.int i)) (.val (.int j)) ρ Q := fun F H σ u v Qh _ R hu hv q => by
  rw [look_int hu, look_int hv]; exact x_geI (q _ H F (.val (.bl _)) ρ (Same.refl _) R (Rep.bl _) k)
def isNon : D → Bool
  | .non => true
  | _ => false
theorem rep_non (h : Rep K F v d) : decide (v = .non) = isNon d := by
  cases h <;> first | rfl | exact decide_eq_false (fun z => nomatch z)
theorem r_isN (k : Q (.val (.bl (isNon d))) ρ) : Mr K O F0 (rIsU false) (.val d) (.val .non) ρ Q := fun F H σ u v Qh _ R hu hv q => by
  rw [look_non hv]
  refine x_isN ?_
  rw [rep_non hu]
  exact q _ H F (.val (.bl _)) ρ (Same.refl _) R (Rep.bl _) k
theorem r_isnN (k : Q (.val (.bl (!isNon d))) ρ) : Mr K O F0 (rIsU true) (.val d) (.val .non) ρ Q := fun F H σ u v Qh _ R hu hv q => by
  rw [look_non hv]
  refine x_isnN ?_
  rw [rep_non hu]
  exact q _ H F (.val (.bl _)) ρ (Same.refl _) R (Rep.bl _) k
/-! #### places -/
theorem repL_atI {xs : List V} {k : Int} {e : D} (h : RepL K F xs ds) (q : atI ds k = some e) : ∃ v, atI xs k = some v ∧ Rep K F v e := by
  unfold atI at q ⊢
  rw [h.length]
  cases z : ixN ds.length k with
  | none => rw [z] at q; cases q
  | some m => rw [z] at q; exact h.at q
theorem r_ixL {e : D} (hx : seeD x ρ = some (.lst ds)) (h : atI ds i = some e) (k : Q (.val e) ρ) : Mr K O F0 (rIx K) x (.val (.int i)) ρ Q := fun F H σ u v Qh _ R hu hv q => by
  rw [look_int hv]
  obtain ⟨a, xs, rfl, h1, h2⟩ := look_lst R hu hx
  obtain ⟨w, e1, e2⟩ := repL_atI h2 h
  exact x_ixL h1 e1 (q w H F (.val e) ρ (Same.refl _) R e2 k)
theorem r_ixT {e : D} (hx : seeD x ρ = some (.tup ds)) (h : atI ds i = some e) (k : Q (.val e) ρ) : Mr K O F0 (rIx K) x (.val (.int i)) ρ Q := fun F H σ u v Qh _ R hu hv q => by
  rw [look_int hv]
  obtain ⟨a, xs, rfl, h1, h2⟩ := look_tup R hu hx
  obtain ⟨w, e1, e2⟩ := repL_atI h2 h
  exact x_ixT h1 e1 (q w H F (.val e) ρ (Same.refl _) R e2 k)
theorem r_ixS {e : Nat} (hl : s.length ≤ 10000) (h : atI s.cps.toList i = some e) (k : Q (.val (.str ⟨#[e]⟩)) ρ) : Mr K O F0 (rIx K) (.val (.str s)) (.val (.int i)) ρ Q := fun F H σ u v Qh _ R hu hv q => by
  rw [look_int hv, look_str hu]
  exact .inr (.inr ⟨s, i, e, rfl, rfl, Nat.le_trans hl (by decide), h, q _ H F (.val (.str ⟨#[e]⟩)) ρ (Same.refl _) R (Rep.str _) k⟩)
/-! #### built-ins -/
theorem one_arg (h : XsV K F σ vs [x]) : ∃ v, vs = [v] ∧ XvR K F σ v x := by
  match vs, h with
  | [v], h => exact ⟨v, rfl, h.1⟩
theorem two_args (h : XsV K F σ vs [x, y]) : ∃ v w, vs = [v, w] ∧ XvR K F σ v x ∧ XvR K F σ w y := by
  match vs, h with
  | [v, w], h => exact ⟨v, w, rfl, h.1, h.2.1⟩
theorem c_lenL (hx : seeD x ρ = some (.lst ds)) (k : Q (.val (.int (ds.length : Int))) ρ) : Mc K O F0 (rLenU K) [x] ρ Q := fun F H σ vs Qh _ R hu q => by
  obtain ⟨v, rfl, hv⟩ := one_arg hu
  obtain ⟨a, xs, rfl, h1, h2⟩ := look_lst R hv hx
  refine x_lenL h1 ?_
  rw [h2.length]
  exact q _ H F (.val (.int _)) ρ (Same.refl _) R (Rep.int _) k
theorem c_lenT (hx : seeD x ρ = some (.tup ds)) (k : Q (.val (.int (ds.length : Int))) ρ) : Mc K O F0 (rLenU K) [x] ρ Q := fun F H σ vs Qh _ R hu q => by
  obtain ⟨v, rfl, hv⟩ := one_arg hu
  obtain ⟨a, xs, rfl, h1, h2⟩ := look_tup R hv hx
  refine x_lenT' h1 ?_
  rw [h2.length]
  exact q _ H F (.val (.int _)) ρ (Same.refl _) R (Rep.int _) k
theorem c_lenD (hx : seeD x ρ = some (.dct kds)) (k : Q (.val (.int (kds.length : Int))) ρ) : Mc K O F0 (rLenU K) [x] ρ Q := fun F H σ vs Qh _ R hu q => by
  obtain ⟨v, rfl, hv⟩ := one_arg hu
  obtain ⟨a, xs, rfl, h1, h2⟩ := look_dct R hv hx
  refine .inr ⟨a, xs, rfl, h1, ?_⟩
  rw [h2.length]
  exact q _ H F (.val (.int _)) ρ (Same.refl _) R (Rep.int _) k
theorem c_lenS (hl : s.length ≤ 10000) (k : Q (.val (.int (s.length : Int))) ρ) : Mc K O F0 (rLenU K) [.val (.str s)] ρ Q := fun F H σ vs Qh _ R hu q => by
  obtain ⟨v, rfl, hv⟩ := one_arg hu
  rw [look_str hv]
  exact x_lenS hl (q _ H F (.val (.int _)) ρ (Same.refl _) R (Rep.int _) k)
theorem c_intI (k : Q (.val (.int i)) ρ) : Mc K O F0 rInt [.val (.int i)] ρ Q := fun F H σ vs Qh _ R hu q => by
  obtain ⟨v, rfl, hv⟩ := one_arg hu
  rw [look_int hv]
  exact x_intI (q _ H F (.val (.int _)) ρ (Same.refl _) R (Rep.int _) k)
theorem c_intB (k : Q (.val (.int (if b then 1 else 0))) ρ) : Mc K O F0 rInt [.val (.bl b)] ρ Q := fun F H σ vs Qh _ R hu q => by
  obtain ⟨v, rfl, hv⟩ := one_arg hu
  rw [look_bl hv]
  exact x_intBl (q _ H F (.val (.int _)) ρ (Same.refl _) R (Rep.int _) k)
theorem c_allB {bs : List Bool} (hx : seeD x ρ = some (.lst (bs.map D.bl))) (k : Q (.val (.bl (bs.all id))) ρ) : Mc K O F0 (rAll K) [x] ρ Q := fun F H σ vs Qh _ R hu q => by
  obtain ⟨v, rfl, hv⟩ := one_arg hu
  obtain ⟨a, xs, rfl, h1, h2⟩ := look_lst R hv hx
  rw [h2.bls'] at h1
  exact x_all h1 (q _ H F (.val (.bl _)) ρ (Same.refl _) R (Rep.bl _) k)
/-- the type of a tree; own classes by their records -/
def tyD (K : PySem.W.Frag) : D → Value
  | .non => .type "NoneType"
  | .bl _ => .type "bool"
  | .int _ => .type "int"
  | .str _ => .type "str"
  | .cls _ => .none
  | .ty _ => .none
  | .adr _ => .none
  | .lst _ => .type "list"
  | .tup _ => .type "tuple"
  | .dct _ => .type "dict"
  | .obj c _ => .ref (ga K c)
  | .exc _ _ => .none
def TyOk (K : PySem.W.Frag) : D → Prop
  | .obj c _ => InT K (ga K c)
  | .cls _ => False
  | .ty _ => False
  | .adr _ => False
  | .exc _ _ => False
  | _ => True
theorem ty_sql {a : Addr} {xs : List V} (h : SqL K H a xs) : TyX K H (.ref a) (.type "list") := by
  rcases h with (h | ⟨o, h⟩) | ⟨o, its, n, h1, h2, _⟩
  · exact .base (.lst h)
  · exact .base (.frz h)
  · exact .kList h1 h2
theorem ty_sqt {a : Addr} {xs : List V} (h : SqT K H a xs) : TyX K H (.ref a) (.type "tuple") := by
  rcases h with (h | ⟨o, h⟩) | ⟨o, its, n, h1, h2, _⟩
  · exact .base (.tup h)
  · exact .fTuple h
  · exact .kTuple h1 h2
theorem ty_rep (R : RS K O F H σ ρ) (h : XvR K F σ v x) (e : seeD x ρ = some d) (hd : TyOk K d) : TyX K H v (tyD K d) := by
  cases d with
  | non => rcases look R h e with q | ⟨p, _, q⟩; (cases q; exact .base .non); cases q
  | bl b => rcases look R h e with q | ⟨p, _, q⟩; (cases q; exact .base (.bl b)); cases q
  | int b => rcases look R h e with q | ⟨p, _, q⟩; (cases q; exact .base (.int b)); cases q
  | str b => rcases look R h e with q | ⟨p, _, q⟩; (cases q; exact .base (.str b)); cases q
  | cls c => cases hd
  | ty c => cases hd
  | adr c => cases hd
  | lst ds => obtain ⟨a, xs, rfl, h1, _⟩ := look_lst R h e; exact ty_sql h1
  | tup ds => obtain ⟨a, xs, rfl, h1, _⟩ := look_tup R h e; exact ty_sqt h1
  | dct ds => obtain ⟨a, xs, rfl, h1, _⟩ := look_dct R h e; exact .base (.dK h1)
  | obj c fs => obtain ⟨a, dx, fs2, rfl, h1, _⟩ := look_obj R h e; exact hd.ty h1
  | exc c fs => cases hd
theorem rep_cls {c : Str} (h : XvR K F σ v (.val (.cls c))) : v = .ref (ga K c) := by cases (show Rep K F v (.cls c) from h); rfl
/-- isinstance(x, C) -/
theorem c_isiC {c : Str} (hx : seeD x ρ = some d) (hd : TyOk K d) (hk : PySem.W.kitOne K (tyD K d) (.ref (ga K c)) = some b) (k : Q (.val (.bl b)) ρ) : Mc K O F0 (rIsi K) [x, .val (.cls c)] ρ Q := fun F H σ vs Qh _ R hu q => by
  obtain ⟨v, w, rfl, hv, hw⟩ := two_args hu
  rw [rep_cls hw]
  exact x_isi (.own _) (ty_rep R hv hx hd) hk (q _ H F (.val (.bl _)) ρ (Same.refl _) R (Rep.bl _) k)
theorem rep_ty {c : String} (h : XvR K F σ v (.val (.ty c))) : v = .ty c := by cases (show Rep K F v (.ty c) from h); rfl
/-- isinstance(x, int) -/
theorem c_isiY {c : String} (hx : seeD x ρ = some d) (hd : TyOk K d) (hk : PySem.W.kitOne K (tyD K d) (.type c) = some b) (k : Q (.val (.bl b)) ρ) : Mc K O F0 (rIsi K) [x, .val (.ty c)] ρ Q := fun F H σ vs Qh _ R hu q => by
  obtain ⟨v, w, rfl, hv, hw⟩ := two_args hu
  rw [rep_ty hw]
  exact x_isi (.ty _) (ty_rep R hv hx hd) hk (q _ H F (.val (.bl _)) ρ (Same.refl _) R (Rep.bl _) k)
/-- the classes named in a tuple -/
def clsV (K : PySem.W.Frag) : D → Value
  | .cls c => .ref (ga K c)
  | .ty n => .type n
  | _ => .none
def isCls : D → Bool
  | .cls _ => true
  | .ty _ => true
  | _ => false
theorem clsV_ok {xs : List V} (h : RepL K F xs ds) (a : ds.all isCls = true) : Paired ClsV xs (ds.map (clsV K)) := by
  induction ds generalizing xs with
  | nil => cases h; exact .nil
  | cons d ds ih =>
    cases h with
    | cons r1 r2 =>
      obtain ⟨a1, a2⟩ := Bool.and_eq_true_iff.mp (show (isCls d && ds.all isCls) = true from a)
      refine .cons ?_ (ih r2 a2)
      cases r1 with
      | cls c => exact .own _
      | ty n => exact .ty _
      | _ => cases a1
/-- isinstance(x, (C, D)) -/
theorem c_isiM (hx : seeD x ρ = some d) (hd : TyOk K d) (ha : ds.all isCls = true) (hk : PySem.W.kitAny K (tyD K d) (ds.map (clsV K)) = some b) (k : Q (.val (.bl b)) ρ) : Mc K O F0 (rIsiS K) [x, .val (.tup ds)] ρ Q := fun F H σ vs Qh _ R hu q => by
  obtain ⟨v, w, rfl, hv, hw⟩ := two_args hu
  obtain ⟨a, xs, rfl, h1, h2⟩ := look_tup R hw (ds := ds) rfl
  exact ⟨v, a, xs, _, _, b, rfl, h1, clsV_ok h2 ha, ty_rep R hv hx hd, hk, q _ H F (.val (.bl _)) ρ (Same.refl _) R (Rep.bl _) k⟩
/-! #### fields -/
/-- the class c has instances with a field f -/
def FdOk (K : PySem.W.Frag) (c f : Str) : Prop := Cls K (ga K c) ∧ NoAttr K (ga K c) f
theorem m_fld {f : Str} (k : Me K O F0 te ρ fun x ρ1 => ∃ c fds e, seeD x ρ1 = some (.obj c fds) ∧ FdOk K c f ∧ fds.lookup f = some e ∧ Q (.val e) ρ1) : Me K O F0 (tFld K te f) ρ Q := fun F H σ Qh s R c =>
  k F H σ _ s R fun v H1 F1 x ρ1 s1 R1 r1 ⟨cn, fds, e, hx, hf, hl, q⟩ => by
    obtain ⟨a, dx, fs, rfl, h1, h2⟩ := look_obj R1 r1 hx
    obtain ⟨w, e1, e2⟩ := h2.lookup hl
    exact ⟨a, _, dx, fs, w, rfl, h1, hf.1, hf.2, e1, c w H1 F1 (.val e) ρ1 s1 R1 e2 q⟩
/-- a constant of the class, read off an instance -/
def CnOk (K : PySem.W.Frag) (c f : Str) (v : V) : Prop := Cls K (ga K c) ∧ ∃ u, Con K (ga K c) f v u
theorem m_con {f : Str} (k : Me K O F0 te ρ fun x ρ1 => ∃ c fds v e, seeD x ρ1 = some (.obj c fds) ∧ CnOk K c f v ∧ fds.lookup f = none ∧ (∀ F, Rep K F v e) ∧ Q (.val e) ρ1) : Me K O F0 (tCon K te f) ρ Q := fun F H σ Qh s R c =>
  k F H σ _ s R fun v H1 F1 x ρ1 s1 R1 r1 ⟨cn, fds, w, e, hx, ⟨hc, u, hu⟩, hl, hr, q⟩ => by
    obtain ⟨a, dx, fs, rfl, h1, h2⟩ := look_obj R1 r1 hx
    exact ⟨a, _, dx, fs, w, u, rfl, h1, hc, hu, h2.lookupN hl, c w H1 F1 (.val e) ρ1 s1 R1 (hr F1) q⟩
/-- a property -/
theorem m_pr {f : Str} {gt : Addr} {P : PD} (k : Me K O F0 te ρ fun x ρ1 => Frz x ρ1 fun d ρ2 => ∃ c fds pp, d = .obj c fds ∧ Cls K (ga K c) ∧ PropOf K (ga K c) f pp gt ∧ P [d] (fun e => Q (.val e) ρ2) fun _ _ => False) : Me K O F0 (tPr K f gt (spS K O.T (pu P)) te) ρ Q := fun F H σ Qh s R c =>
  k F H σ _ s R fun v H1 F1 x ρ1 s1 R1 r1 k1 => by
    obtain ⟨d, ρ2, F2, s2, R2, r2, cn, fds, pp, rfl, hc, hp, q⟩ := frz_of R1 r1 k1
    obtain ⟨a, dx, fs, rfl, h1, h2⟩ := r2.objP
    refine ⟨a, _, dx, fs, pp, rfl, R2.fh _ _ h1, hc, hp, ?_⟩
    exact call_pu (W := W0) (Xp := fun _ _ _ => False) R2 (Same.trans s (Same.trans s1 s2)) wr0 (.cons r2 .nil) q (fun d qd v H3 F3 s3 R3 r3 => c v H3 F3 (.val d) ρ2 (Same.trans s1 (Same.trans s2 s3)) R3 r3 qd) fun _ _ z => z
/-- self.f = e, self being made -/
theorem ms_fld {f : Str} {i : Nat} (h0 : (sl ρ i).mut = true) (k : Me K O F0 te ρ fun x ρ1 => Frz x ρ1 fun d ρ2 => ∃ c fds, sl ρ2 i = .own (.obj c fds) ∧ FdOk K c f ∧ fds.length < 1000 ∧ N.nx (ρ2.set i (.own (.obj c (putD f d fds))))) : Ms K O F0 (sFld K (tVar i) te f) ρ N := fun F H σ E s R c => by
  refine k F H σ _ s R fun v H1 F1 x ρ1 s1 R1 r1 k1 => ?_
  obtain ⟨d, ρ2, F2, s2, R2, r2, cn, fds, e, hf, hl, q⟩ := frz_of R1 r1 k1
  have m : (sl ρ2 i).mut = true := by rw [e]; rfl
  obtain ⟨p, h1, h2, h3, h4⟩ := R2.owned m
  rw [e] at h4
  obtain ⟨dx, fs, a1, a2⟩ := h4
  refine ⟨_, sv_some h1, p, _, dx, fs, rfl, a1, hf.1, hf.2, by rw [a2.length]; exact hl, ?_⟩
  exact c.nx F2 _ σ _ (Same.trans s1 s2) (R2.mutO (s := .own (.obj cn (putD f d fds))) m h1 rfl ⟨dx, _, upd_same, a2.putF r2⟩) q
end
end SJ

/-! MRf: data compared, lists made and changed, dicts. -/
namespace SJ
open PySem PySem.Spec PyProof.Rows L2 He
/-! #### data -/
mutual
def pyOf : D → Option PyData
  | .non => some .none
  | .bl b => some (.bool b)
  | .int i => some (.int i)
  | .str s => some (.str s)
  | .lst ds => (pyOfL ds).map .list
  | .tup ds => (pyOfL ds).map .tuple
  | _ => none
def pyOfL : List D → Option (List PyData)
  | [] => some []
  | d :: ds => match pyOf d, pyOfL ds with
    | some p, some ps => some (p :: ps)
    | _, _ => none
end
section
variable {K : PySem.W.Frag} {H F : Hp}
mutual
theorem dp_of : ∀ {v : V} {d : D} {pd : PyData}, Rep K H v d → pyOf d = some pd → Dp K H v pd
  | _, _, _, .non, e => by cases e; exact .non
  | _, _, _, .bl b, e => by cases e; exact .bl b
  | _, _, _, .int b, e => by cases e; exact .int b
  | _, _, _, .str b, e => by cases e; exact .str b
  | _, _, _, .cls c, e => by cases e
  | _, _, _, .ty c, e => by cases e
  | _, .lst ds, _, .lst h a, e => by
    have e : (pyOfL ds).map PyData.list = some _ := e
    obtain ⟨ps, e1, rfl⟩ := Option.map_eq_some_iff.mp e
    exact .lst (SqL.of h) (dpl_of a e1)
  | _, .tup ds, _, .tup h a, e => by
    have e : (pyOfL ds).map PyData.tuple = some _ := e
    obtain ⟨ps, e1, rfl⟩ := Option.map_eq_some_iff.mp e
    exact .tup h (dpl_of a e1)
  | _, _, _, .dct _ _ _, e => by cases e
  | _, _, _, .obj _ _ _, e => by cases e
  | _, _, _, .exc _ _ _ _, e => by cases e
theorem dpl_of : ∀ {vs : List V} {ds : List D} {ps : List PyData}, RepL K H vs ds → pyOfL ds = some ps → DpAll K H vs ps
  | _, _, _, .nil, e => by cases e; exact .nil
  | _, d :: ds, _, .cons a b, e => by
    have e : (match pyOf d, pyOfL ds with | some p, some ps => some (p :: ps) | _, _ => none) = some _ := e
    cases e1 : pyOf d with
    | none => rw [e1] at e; cases e
    | some p =>
      cases e2 : pyOfL ds with
      | none => rw [e1, e2] at e; cases e
      | some ps => rw [e1, e2] at e; cases e; exact .cons (dp_of a e1) (dpl_of b e2)
end
end
section
variable {K : PySem.W.Frag} {O : Oc} {F0 F F2 F3 H H2 H3 : Hp} {σ σ2 : L2.St} {ρ ρ2 : Ro} {Q : X → Ro → Prop} {QT : Bool → Ro → Prop} {QA : List X → Ro → Prop} {QF : D → Ro → Prop} {ta tb te to : TE} {t u tt : TT} {tA tK : TA} {ts tz : TS} {r : R2} {N : Hn} {n : Nat} {x y : X} {d e : D} {g : TG} {wi : TI} {p : Addr} {o o2 : HO} {vs : List V} {ds es : List D} {kds : List (Key × D)} {fds : List (Str × D)} {W : WX} {Xp : XP} {i j : Int} {b c : Bool} {s z : Str} {cn : Str} {v : V} {pd pe : PyData}
/-- anything held is readable in the whole heap -/
theorem look_rep (R : RS K O F H σ ρ) (h : XvR K F σ v x) (e : seeD x ρ = some d) : Rep K H v d := by
  rcases look R h e with q | ⟨p, rfl, q⟩
  · exact q.mono R.fh
  · cases d with
    | lst ds => obtain ⟨vs, h1, h2⟩ := q; exact .lst h1 (h2.mono R.fh)
    | dct ds => obtain ⟨vs, h1, h2⟩ := q; exact .ofDct h1 (h2.mono R.fh)
    | obj c ds => obtain ⟨dx, vs, h1, h2⟩ := q; exact .ofObj h1 (h2.mono R.fh)
    | _ => cases q
theorem r_eqD (hx : seeD x ρ = some d) (hy : seeD y ρ = some e) (px : pyOf d = some pd) (py : pyOf e = some pe) (s1 : SeqAt.shaped pd = true) (s2 : SeqAt.shaped pe = true) (k : Q (.val (.bl (PyData.eqv pd pe))) ρ) : Mr K O F0 (rEqU K) x y ρ Q := fun F H σ u v Qh _ R hu hv q =>
  x_eqDD (dp_of (look_rep R hu hx) px) (dp_of (look_rep R hv hy) py) s1 s2 (q _ H F (.val (.bl _)) ρ (Same.refl _) R (Rep.bl _) k)
theorem r_neD (hx : seeD x ρ = some d) (hy : seeD y ρ = some e) (px : pyOf d = some pd) (py : pyOf e = some pe) (s1 : SeqAt.shaped pd = true) (s2 : SeqAt.shaped pe = true) (k : Q (.val (.bl (!PyData.eqv pd pe))) ρ) : Mr K O F0 (rNeU K) x y ρ Q := fun F H σ u v Qh _ R hu hv q =>
  x_neDD (dp_of (look_rep R hu hx) px) (dp_of (look_rep R hv hy) py) s1 s2 (q _ H F (.val (.bl _)) ρ (Same.refl _) R (Rep.bl _) k)
theorem inV_strs {zs : List Str} : inV (.str s) (zs.map V.str) = decide (s ∈ zs) := by
  induction zs with
  | nil => rfl
  | cons z zs ih =>
    show (eqV (.str z) (.str s) || inV (.str s) (zs.map V.str)) = _
    rw [ih]
    by_cases e : s = z
    · rw [decide_eq_true (show s ∈ z :: zs by rw [e]; exact List.mem_cons_self ..)]
      have : eqV (.str z) (.str s) = true := by rw [e]; exact decide_eq_true rfl
      rw [this, Bool.true_or]
    · have : eqV (.str z) (.str s) = false := decide_eq_false (fun q => e q.symm)
      rw [this, Bool.false_or]
      by_cases m : s ∈ zs
      · rw [decide_eq_true m, decide_eq_true (List.mem_cons_of_mem _ m)]
      · rw [decide_eq_false m, decide_eq_false (fun q => by rcases List.mem_cons.mp q with q | q; exact e q; exact m q)]
theorem flat_strs {zs : List Str} : (zs.map V.str).all flatV = true := by
  induction zs with
  | nil => rfl
  | cons z zs ih => exact ih
theorem r_inStrs {zs : List Str} (hy : seeD y ρ = some (.lst (zs.map D.str))) (k : Q (.val (.bl (decide (s ∈ zs)))) ρ) : Mr K O F0 (rInU K false) (.val (.str s)) y ρ Q := fun F H σ u v Qh _ R hu hv q => by
  rw [look_str hu]
  obtain ⟨a, xs, rfl, h1, h2⟩ := look_lst R hv hy
  rw [h2.strs'] at h1
  refine x_inL h1 rfl flat_strs ?_
  rw [inV_strs]
  exact q _ H F (.val (.bl _)) ρ (Same.refl _) R (Rep.bl _) k
theorem r_inStrsT {zs : List Str} (hy : seeD y ρ = some (.tup (zs.map D.str))) (k : Q (.val (.bl (decide (s ∈ zs)))) ρ) : Mr K O F0 (rInU K false) (.val (.str s)) y ρ Q := fun F H σ u v Qh _ R hu hv q => by
  rw [look_str hu]
  obtain ⟨a, xs, rfl, h1, h2⟩ := look_tup R hv hy
  rw [h2.strs'] at h1
  refine x_inT h1 rfl flat_strs ?_
  rw [inV_strs]
  exact q _ H F (.val (.bl _)) ρ (Same.refl _) R (Rep.bl _) k
theorem r_ninStrsT {zs : List Str} (hy : seeD y ρ = some (.tup (zs.map D.str))) (k : Q (.val (.bl (!decide (s ∈ zs)))) ρ) : Mr K O F0 (rInU K true) (.val (.str s)) y ρ Q := fun F H σ u v Qh _ R hu hv q => by
  rw [look_str hu]
  obtain ⟨a, xs, rfl, h1, h2⟩ := look_tup R hv hy
  rw [h2.strs'] at h1
  refine x_ninT h1 rfl flat_strs ?_
  rw [inV_strs]
  exact q _ H F (.val (.bl _)) ρ (Same.refl _) R (Rep.bl _) k
/-! #### lists made -/
theorem mf_cat (k : Me K O F0 ta ρ fun x ρ1 => Me K O F0 tb ρ1 fun y ρ2 => ∃ ds es, seeD x ρ2 = some (.lst ds) ∧ seeD y ρ2 = some (.lst es) ∧ ds.length + es.length ≤ 10000 ∧ QF (.lst (ds ++ es)) ρ2) : Mf K O F0 (tOp (rAdd K) ta tb) ρ QF := fun F H σ Qh s R c =>
  k F H σ _ s R fun v1 H1 F1 x ρ1 s1 R1 r1 k1 => k1 F1 H1 σ _ (Same.trans s s1) R1 fun v2 H2 F2 y ρ2 s2 R2 r2 ⟨ds, es, hx, hy, hl, q⟩ => by
    obtain ⟨a, xs, rfl, h1, h2⟩ := look_raw R2 (r1.mono s2) hx
    obtain ⟨b, ys, rfl, h3, h4⟩ := look_raw R2 r2 hy
    refine .inr (.inr (.inl ⟨a, b, xs, ys, rfl, rfl, h1, h3, by rw [h2.length, h4.length]; exact Nat.le_trans hl (by decide), fun p hp => ?_⟩))
    exact mf_new (ρ2 := ρ2) (F2 := F2) R2 hp (h2.append h4) fun H3 R3 nw => c p H3 F2 _ ρ2 (Same.trans s1 s2) R3 nw q
theorem mf_list (k : Me K O F0 te ρ fun x ρ1 => ∃ ds, (seeD x ρ1 = some (.lst ds) ∨ seeD x ρ1 = some (.tup ds)) ∧ QF (.lst ds) ρ1) : Mf K O F0 (tCB (rListU K) (tCons te tNil)) ρ QF := fun F H σ Qh s R c =>
  k F H σ _ s R fun v H1 F1 x ρ1 s1 R1 r1 ⟨ds, hx, q⟩ => by
    rcases hx with hx | hx
    · obtain ⟨a, xs, rfl, h1, h2⟩ := look_lst R1 r1 hx
      exact x_listL h1 fun l hl => mf_new (ρ2 := ρ1) (F2 := F1) R1 hl h2 fun H3 R3 nw => c l H3 F1 _ ρ1 s1 R3 nw q
    · obtain ⟨a, xs, rfl, h1, h2⟩ := look_tup R1 r1 hx
      exact x_listT h1 fun l hl => mf_new (ρ2 := ρ1) (F2 := F1) R1 hl h2 fun H3 R3 nw => c l H3 F1 _ ρ1 s1 R3 nw q
/-- tuple(xs) -/
theorem m_tuple (k : Me K O F0 te ρ fun x ρ1 => ∃ ds, (seeD x ρ1 = some (.lst ds) ∨ x = .val (.tup ds)) ∧ Q (.val (.tup ds)) ρ1) : Me K O F0 (tCB (rTupU K) (tCons te tNil)) ρ Q := fun F H σ Qh s R c =>
  k F H σ _ s R fun v H1 F1 x ρ1 s1 R1 r1 ⟨ds, hx, q⟩ => by
    rcases hx with hx | hx
    · obtain ⟨a, xs, rfl, h1, h2⟩ := look_lst R1 r1 hx
      refine ⟨a, xs, rfl, .inl ⟨h1, fun l hl => ?_⟩⟩
      obtain ⟨R3, s3⟩ := R1.alloc (o := .tup xs) hl nx_tup
      exact c _ _ _ (.val (.tup ds)) ρ1 (Same.trans s1 s3) R3 (Rep.tup (SqT.of upd_same) (h2.mono s3)) q
    · subst hx
      obtain ⟨a, xs, rfl, h1, h2⟩ := look_tup R1 r1 (ds := ds) rfl
      exact ⟨a, xs, rfl, .inr ⟨h1, c _ H1 F1 (.val (.tup ds)) ρ1 s1 R1 r1 q⟩⟩
/-! #### lists changed -/
theorem ms_append {i : Nat} (h0 : sl ρ i = .own (.lst ds)) (k : Me K O F0 te ρ fun x ρ1 => Frz x ρ1 fun e ρ2 => ∃ es, sl ρ2 i = .own (.lst es) ∧ es.length < 10000 ∧ N.nx (ρ2.set i (.own (.lst (es ++ [e]))))) : Ms K O F0 (tDrop (tBM K "list" rAppend (tVar i) (tCons te tNil))) ρ N := fun F H σ E s R c => by
  have m0 : (sl ρ i).mut = true := by rw [h0]; rfl
  obtain ⟨p, a1, a2, a3, a4⟩ := R.owned m0
  rw [h0] at a4
  obtain ⟨vs0, a4, _⟩ := a4
  refine ⟨_, sv_some a1, .inl ⟨rfl, vs0, SqL.of a4⟩, ?_⟩
  refine k F H σ _ s R fun v H1 F1 x ρ1 s1 R1 r1 k1 => ?_
  obtain ⟨e, ρ2, F2, s2, R2, r2, es, he, hl, q⟩ := frz_of R1 r1 k1
  have m : (sl ρ2 i).mut = true := by rw [he]; rfl
  obtain ⟨p2, b1, b2, b3, b4⟩ := R2.owned m
  rw [a1] at b1
  cases b1
  rw [he] at b4
  obtain ⟨vs, b4, b5⟩ := b4
  refine ⟨p, vs, v, rfl, rfl, b4, by rw [b5.length]; exact Nat.lt_of_lt_of_le hl (by decide), ?_⟩
  exact c.nx F2 _ σ _ (Same.trans s1 s2) (R2.mutO (s := .own (.lst (es ++ [e]))) m a1 rfl ⟨_, upd_same, b5.append (.one r2)⟩) q
theorem m_popAt {i : Nat} (h0 : sl ρ i = .own (.lst ds)) (k : Me K O F0 te ρ fun x ρ1 => ∃ (j : Nat) (es : List D) (e : D), x = .val (.int j) ∧ sl ρ1 i = .own (.lst es) ∧ j < 1000000 ∧ es[j]? = some e ∧ Q (.val e) (ρ1.set i (.own (.lst (es.eraseIdx j))))) : Me K O F0 (tBM K "list" rPopAt (tVar i) (tCons te tNil)) ρ Q := fun F H σ Qh s R c => by
  have m0 : (sl ρ i).mut = true := by rw [h0]; rfl
  obtain ⟨p, a1, a2, a3, a4⟩ := R.owned m0
  rw [h0] at a4
  obtain ⟨vs0, a4, _⟩ := a4
  refine ⟨_, sv_some a1, .inl ⟨rfl, vs0, SqL.of a4⟩, ?_⟩
  refine k F H σ _ s R fun v H1 F1 x ρ1 s1 R1 r1 ⟨j, es, e, ex, he, hj, hje, q⟩ => ?_
  subst ex
  rw [look_int r1]
  have m : (sl ρ1 i).mut = true := by rw [he]; rfl
  obtain ⟨p2, b1, b2, b3, b4⟩ := R1.owned m
  rw [a1] at b1
  cases b1
  rw [he] at b4
  obtain ⟨vs, b4, b5⟩ := b4
  obtain ⟨w, w1, w2⟩ := b5.at hje
  have hlt : j < vs.length := (List.getElem?_eq_some_iff.mp w1).1
  have hix : seqIndex? (j : Int) vs.length = some j := by
    have z : ixN vs.length (j : Int) = some j := by
      unfold ixN
      rw [if_pos (Int.natCast_nonneg j), if_pos (by omega)]
      rfl
    exact (ixN_seq z).1
  refine ⟨p, vs, j, j, w, rfl, rfl, b4, by omega, by omega, hix, w1, ?_⟩
  exact c w _ F1 (.val e) _ s1 (R1.mutO (s := .own (.lst (es.eraseIdx j))) m a1 rfl ⟨_, upd_same, b5.erase j⟩) w2 q
/-! #### dicts -/
def keyD : D → Option Key
  | .int i => some (.inl i)
  | .str s => some (.inr s)
  | _ => none
theorem rep_key {k : Key} (h : Rep K F v d) (e : keyD d = some k) : v = kV k := by
  cases h <;> first | (cases e; rfl) | cases e
def valD (kds : List (Key × D)) (k : Key) : Option D := (kds.find? fun kv => decide (kv.1 = k)).map (·.2)
theorem valV_rep {kvs : List (Key × V)} {k : Key} (h : RepP K F kvs kds) : (∀ d, valD kds k = some d → ∃ v, valV kvs k = some v ∧ Rep K F v d) ∧ (valD kds k = none → valV kvs k = none) := by
  induction kds generalizing kvs with
  | nil => rw [h.inv0]; exact ⟨(fun d e => nomatch e), fun _ => rfl⟩
  | cons q kds ih =>
    obtain ⟨k2, d2⟩ := q
    obtain ⟨v, r, rfl, a, b⟩ := h.inv
    unfold valD valV
    rw [List.find?_cons, List.find?_cons]
    by_cases e : k2 = k
    · simp only [decide_eq_true e]
      exact ⟨fun d z => by cases z; exact ⟨v, rfl, a⟩, fun z => nomatch z⟩
    · simp only [decide_eq_false e]
      exact ih b
theorem m_dget {td ty : TE} (k : Me K O F0 td ρ fun x ρ1 => Me K O F0 ty ρ1 fun y ρ2 => ∃ kds kd e, seeD x ρ2 = some (.dct kds) ∧ (∃ d, y = .val d ∧ keyD d = some kd) ∧ valD kds kd = some e ∧ Q (.val e) ρ2) : Me K O F0 (tDGet td ty) ρ Q := fun F H σ Qh s R c =>
  k F H σ _ s R fun v1 H1 F1 x ρ1 s1 R1 r1 k1 => k1 F1 H1 σ _ (Same.trans s s1) R1 fun v2 H2 F2 y ρ2 s2 R2 r2 ⟨kds, kd, e, hx, ⟨d, ey, hd⟩, hv, q⟩ => by
    subst ey
    obtain ⟨a, kvs, rfl, h1, h2⟩ := look_dct R2 (r1.mono s2) hx
    rw [rep_key r2 hd]
    obtain ⟨w, w1, w2⟩ := (valV_rep h2).1 e hv
    exact ⟨a, w, rfl, by rw [← w1]; exact DGet.k h1, c w H2 F2 (.val e) ρ2 (Same.trans s1 s2) R2 w2 q⟩
theorem m_din {td ty : TE} (k : Me K O F0 ty ρ fun y ρ1 => Me K O F0 td ρ1 fun x ρ2 => ∃ kds kd, seeD x ρ2 = some (.dct kds) ∧ (∃ d, y = .val d ∧ keyD d = some kd) ∧ Q (.val (.bl (valD kds kd).isSome)) ρ2) : Me K O F0 (tDIn ty td) ρ Q := fun F H σ Qh s R c =>
  k F H σ _ s R fun v1 H1 F1 y ρ1 s1 R1 r1 k1 => k1 F1 H1 σ _ (Same.trans s s1) R1 fun v2 H2 F2 x ρ2 s2 R2 r2 ⟨kds, kd, hx, ⟨d, ey, hd⟩, q⟩ => by
    subst ey
    obtain ⟨a, kvs, rfl, h1, h2⟩ := look_dct R2 r2 hx
    rw [rep_key (show Rep K F2 v1 d from (r1.mono s2)) hd]
    refine ⟨a, valV kvs kd, rfl, DGet.k h1, ?_⟩
    have e : (valV kvs kd).isSome = (valD kds kd).isSome := by
      cases z : valD kds kd with
      | none => rw [(valV_rep h2).2 z]; rfl
      | some d2 => obtain ⟨w, w1, _⟩ := (valV_rep h2).1 d2 z; rw [w1]; rfl
    rw [e]
    exact c _ H2 F2 (.val (.bl _)) ρ2 (Same.trans s1 s2) R2 (Rep.bl _) q
end
end SJ

/-! MRg: more steps; calls by keywords; own operators; raising. -/
namespace SJ
open PySem PySem.Spec PyProof.Rows L2 He
section
variable {K : PySem.W.Frag} {F F2 H : Hp} {vs us : List V} {ds es : List D} {κ : Type}
theorem RepL.reverse (h : RepL K F vs ds) : RepL K F vs.reverse ds.reverse := by
  induction ds generalizing vs with
  | nil => cases h; exact .nil
  | cons d ds ih =>
    cases h with
    | cons a b => rw [List.reverse_cons, List.reverse_cons]; exact (ih b).append (.one a)
theorem RepP.zip {fs : List κ} (h : RepL K F vs ds) : RepP K F (fs.zip vs) (fs.zip ds) := by
  induction fs generalizing vs ds with
  | nil => exact ⟨rfl, .nil⟩
  | cons f fs ih =>
    cases h with
    | nil => exact ⟨rfl, .nil⟩
    | cons a b => exact RepP.cons a (ih b)
theorem RepP.reverse {kvs : List (κ × V)} {kds : List (κ × D)} (h : RepP K F kvs kds) : RepP K F kvs.reverse kds.reverse := ⟨by rw [List.map_reverse, List.map_reverse, h.1], by rw [List.map_reverse, List.map_reverse]; exact h.2.reverse⟩
theorem RepL.filterGet {ix : List Nat} (h : RepL K F vs ds) : RepL K F (ix.filterMap fun i => vs[i]?) (ix.filterMap fun i => ds[i]?) := by
  induction ix with
  | nil => exact .nil
  | cons i ix ih =>
    rw [List.filterMap_cons, List.filterMap_cons]
    cases e : ds[i]? with
    | none =>
      have : vs[i]? = none := by rw [List.getElem?_eq_none_iff] at e ⊢; rw [h.length]; exact e
      rw [this]; exact ih
    | some d =>
      obtain ⟨v, hv, r⟩ := h.at e
      rw [hv]
      exact .cons r ih
theorem RepL.pick {ix : List Nat} {ms zs : List V} {md zd : List D} (h1 : RepL K F vs ds) (h2 : RepL K F ms md) (h3 : RepL K F zs zd) : RepL K F (pickL ix vs ms zs) (pickL ix ds md zd) := ((h1.append h2).append h3).filterGet
theorem pick_self {ix : List Nat} {x : V} {ms zs : List V} (h : ix.all (fun i => decide (1 ≤ i)) = true) : pickL (0 :: ix) [x] ms zs = x :: pickL (ix.map (· - 1)) [] ms zs := by
  have e : ∀ ix : List Nat, ix.all (fun i => decide (1 ≤ i)) = true → (ix.filterMap fun i => ([x] ++ ms ++ zs)[i]?) = (ix.map (· - 1)).filterMap fun i => ([] ++ ms ++ zs)[i]? := by
    intro ix
    induction ix with
    | nil => intro _; rfl
    | cons i ix ih =>
      intro h
      obtain ⟨h1, h2⟩ := Bool.and_eq_true_iff.mp (show (decide (1 ≤ i) && ix.all fun i => decide (1 ≤ i)) = true from h)
      have h1 := of_decide_eq_true h1
      obtain ⟨j, rfl⟩ : ∃ j, i = j + 1 := ⟨i - 1, by omega⟩
      rw [List.map_cons, List.filterMap_cons, List.filterMap_cons, ih h2]
      rfl
  unfold pickL
  rw [List.filterMap_cons, e ix h]
  rfl
end
section
variable {K : PySem.W.Frag} {O : Oc} {F0 F F2 F3 H H2 H3 : Hp} {σ σ2 : L2.St} {ρ ρ2 : Ro} {Q : X → Ro → Prop} {QT : Bool → Ro → Prop} {QA : List X → Ro → Prop} {QF : D → Ro → Prop} {QL : List D → Ro → Prop} {ta tb te to tc : TE} {t u tt : TT} {tA tK : TA} {ts tz : TS} {r r2 : R2} {N : Hn} {n : Nat} {x y : X} {d e : D} {g : TG} {wi : TI} {p : Addr} {o o2 : HO} {vs : List V} {ds es : List D} {kds : List (Key × D)} {fds : List (Str × D)} {W : WX} {Xp : XP} {i j : Int} {b c : Bool} {s z : Str} {cn : Str} {v : V} {gf : Addr} {P : PD}
theorem m_chain (k : Me K O F0 ta ρ fun x ρ1 => Me K O F0 tb ρ1 fun y ρ2 => Mr K O F0 r x y ρ2 fun z ρ3 => ∃ b, z = .val (.bl b) ∧ if b = true then Me K O F0 tc ρ3 fun w ρ4 => Mr K O F0 r2 y w ρ4 Q else Q (.val (.bl false)) ρ3) : Me K O F0 (tChain r r2 ta tb tc) ρ Q := fun F H σ Qh s R c =>
  k F H σ _ s R fun v1 H1 F1 x ρ1 s1 R1 r1 k1 => k1 F1 H1 σ _ (Same.trans s s1) R1 fun v2 H2 F2 y ρ2 s2 R2 r2 k2 => k2 F2 H2 σ v1 v2 _ (Same.trans s (Same.trans s1 s2)) R2 (r1.mono s2) r2 fun v3 H3 F3 z ρ3 s3 R3 r3 ⟨b, e, k3⟩ => by
    subst e
    rw [look_bl r3]
    have s03 := Same.trans s (Same.trans s1 (Same.trans s2 s3))
    have s13 := Same.trans s1 (Same.trans s2 s3)
    refine ⟨b, rfl, ?_⟩
    cases b with
    | false => exact c _ H3 F3 (.val (.bl false)) ρ3 s13 R3 (Rep.bl false) k3
    | true => exact k3 F3 H3 σ _ s03 R3 fun v4 H4 F4 w ρ4 s4 R4 r4 k4 => k4 F4 H4 σ v2 v4 Qh (Same.trans s03 s4) R4 ((r2.mono s3).mono s4) r4 fun v H5 F5 z ρ5 s5 R5 r5 q => c v H5 F5 z ρ5 (Same.trans s13 (Same.trans s4 s5)) R5 r5 q
/-- the signs of a text -/
def signsD (s : Str) : List D := s.cps.toList.map fun c => D.str ⟨#[c]⟩
theorem mi_str (k : Me K O F0 te ρ fun x ρ1 => ∃ s, x = .val (.str s) ∧ QL (signsD s) ρ1) : Mi K O F0 (iStr te) ρ QL := fun F H σ R s R0 c =>
  k F H σ _ s R0 fun v H1 F1 x ρ1 s1 R1 r1 ⟨z, ex, q⟩ => by
    subst ex
    refine ⟨z, look_str r1, c _ H1 F1 (signsD z) ρ1 s1 R1 (fun O2 i F3 H3 σ3 ρ3 s3 R3 => ?_) q⟩
    have hl : (signsD z).length = z.cps.size := by unfold signsD; rw [List.length_map, Array.length_toList]
    refine ⟨fun hi => by rw [hl] at hi; exact hi, fun d hd => ?_⟩
    have hi : i < z.cps.size := by rw [← hl]; exact (List.getElem?_eq_some_iff.mp hd).1
    refine ⟨hi, fun x H4 y => ?_⟩
    obtain ⟨rfl, c0, hc, rfl⟩ := y
    refine ⟨F3, Same.refl _, R3, ?_⟩
    unfold signsD at hd
    rw [List.getElem?_map, Array.getElem?_toList, hc] at hd
    cases hd
    exact .str _
theorem r_inSign {c0 : Nat} (k : Q (.val (.bl (decide (c0 ∈ z.cps.toList)))) ρ) : Mr K O F0 rInS (.val (.str ⟨#[c0]⟩)) (.val (.str z)) ρ Q := fun F H σ u v Qh _ R hu hv q =>
  ⟨c0, z, look_str hu, look_str hv, q _ H F (.val (.bl _)) ρ (Same.refl _) R (Rep.bl _) k⟩
/-- raise C(a ..) -/
theorem ms_rz {c : Str} {fs : List Str} (hW : Wr K O F0 W Xp) (k : Ma K O F0 tA ρ fun xs ρ1 => FrzL xs ρ1 fun ds ρ2 => ds.length = fs.length ∧ Xp c (fs.zip ds).reverse ρ2) : Ms K O F0 (tRz (ga K c) fs W tA) ρ N := fun F H σ E s R _ =>
  k F H σ _ s R fun vs H1 F1 xs ρ1 s1 R1 r1 k1 => by
    obtain ⟨ds, ρ2, F2, s2, R2, r2, l, q⟩ := frzL_of R1 r1 k1
    refine ⟨by rw [r2.length]; exact l, fun dd hd => ?_⟩
    exact hW F2 _ σ ρ2 c _ dd _ (Same.trans s (Same.trans s1 s2)) upd_same ((R2.allocN hd).out upd_same nx_xd (R2.free hd).1 (R2.no_new hd)) (R2.free hd).2 (RepP.zip r2).reverse q
/-! #### own operators -/
theorem frz2_of {u v : V} {P : D → D → Ro → Prop} (R : RS K O F H σ ρ) (hu : XvR K F σ u x) (hv : XvR K F σ v y) (q : Frz x ρ fun d ρ1 => Frz y ρ1 fun e ρ2 => P d e ρ2) : ∃ d e ρ2 F2, Same F F2 ∧ RS K O F2 H σ ρ2 ∧ Rep K F2 u d ∧ Rep K F2 v e ∧ P d e ρ2 := by
  obtain ⟨d, ρ1, F1, s1, R1, r1, q1⟩ := frz_of R hu q
  obtain ⟨e, ρ2, F2, s2, R2, r2, q2⟩ := frz_of R1 (hv.mono s1) q1
  exact ⟨d, e, ρ2, F2, Same.trans s1 s2, R2, r1.mono s2, r2, q2⟩
def OwnOp (K : PySem.W.Frag) (c : Str) (f : Str) (g : Addr) : Prop := PySem.W.findIn K (.ref (ga K c)) f = some (some (.ref g))
theorem r_ownIn {neg : Bool} (k : Frz x ρ fun e ρ1 => Frz y ρ1 fun d ρ2 => ∃ c fds, d = .obj c fds ∧ OwnOp K c "__contains__" gf ∧ P [d, e] (fun z => ∃ b, z = .bl b ∧ Q (.val (.bl (if neg then !b else b))) ρ2) fun _ _ => False) : Mr K O F0 (rOwnIn K gf (spS K O.T (pu P)) neg) x y ρ Q := fun F H σ u v Qh s R hu hv c => by
  obtain ⟨e, d, ρ2, F2, s2, R2, r1, r2, cn, fds, rfl, ho, q⟩ := frz2_of R hu hv k
  obtain ⟨a, dx, fs, rfl, h1, h2⟩ := r2.objP
  refine ⟨a, _, dx, fs, rfl, R2.fh _ _ h1, ho, ?_⟩
  refine call_pu (W := W0) (Xp := fun _ _ _ => False) (σ := σ) R2 (Same.trans s s2) wr0 (.cons r2 (.cons r1 .nil)) q (fun d qd v H3 F3 s3 R3 r3 => ?_) fun _ _ z => z
  obtain ⟨b, rfl, qd⟩ := qd
  cases r3
  exact ⟨b, rfl, c _ H3 F3 (.val (.bl _)) ρ2 (Same.trans s2 s3) R3 (Rep.bl _) qd⟩
theorem m_ownGet (hW : Wr K O F0 W Xp) (k : Me K O F0 ta ρ fun x ρ1 => Me K O F0 tb ρ1 fun y ρ2 => Frz x ρ2 fun d ρ3 => Frz y ρ3 fun e ρ4 => ∃ c fds, d = .obj c fds ∧ OwnOp K c "__getitem__" gf ∧ P [d, e] (fun z => Q (.val z) ρ4) fun c fs => Xp c fs ρ4) : Me K O F0 (tOwnGet K gf (spS K O.T (pu P)) W ta tb) ρ Q := fun F H σ Qh s R c =>
  k F H σ _ s R fun v1 H1 F1 x ρ1 s1 R1 r1 k1 => k1 F1 H1 σ _ (Same.trans s s1) R1 fun v2 H2 F2 y ρ2 s2 R2 r2 k2 => by
    obtain ⟨d, e, ρ3, F3, s3, R3, r3, r4, cn, fds, rfl, ho, q⟩ := frz2_of R2 (r1.mono s2) r2 k2
    obtain ⟨a, dx, fs, rfl, h1, h2⟩ := r3.objP
    refine ⟨a, _, dx, fs, rfl, R3.fh _ _ h1, ho, ?_⟩
    exact call_pu R3 (Same.trans s (Same.trans s1 (Same.trans s2 s3))) hW (.cons r3 (.cons r4 .nil)) q (fun d qd v H4 F4 s4 R4 r5 => c v H4 F4 (.val d) ρ3 (Same.trans s1 (Same.trans s2 (Same.trans s3 s4))) R4 r5 qd) fun _ _ z => z
theorem c_ownLen (k : Frz x ρ fun d ρ2 => ∃ c fds, d = .obj c fds ∧ OwnOp K c "__len__" gf ∧ P [d] (fun z => ∃ i : Int, z = .int i ∧ 0 ≤ i ∧ i < 2 ^ 63 ∧ Q (.val (.int i)) ρ2) fun _ _ => False) : Mc K O F0 (rOwnLen K gf (spS K O.T (pu P))) [x] ρ Q := fun F H σ vs Qh s R hu c => by
  obtain ⟨v, rfl, hv⟩ := one_arg hu
  obtain ⟨d, ρ2, F2, s2, R2, r2, cn, fds, rfl, ho, q⟩ := frz_of R hv k
  obtain ⟨a, dx, fs, rfl, h1, h2⟩ := r2.objP
  refine ⟨a, _, dx, fs, rfl, R2.fh _ _ h1, ho, ?_⟩
  refine call_pu (W := W0) (Xp := fun _ _ _ => False) (σ := σ) R2 (Same.trans s s2) wr0 (.cons r2 .nil) q (fun d qd v H3 F3 s3 R3 r3 => ?_) fun _ _ z => z
  obtain ⟨i, rfl, h1, h2, qd⟩ := qd
  cases r3
  exact ⟨i, rfl, h1, h2, c _ H3 F3 (.val (.int _)) ρ2 (Same.trans s2 s3) R3 (Rep.int _) qd⟩
theorem r_ownEq (k : Frz x ρ fun d ρ1 => Frz y ρ1 fun e ρ2 => ∃ c fds, d = .obj c fds ∧ OwnOp K c "__eq__" gf ∧ TyOk K e ∧ PySem.W.notFirst K (ga K c) (tyD K e) = true ∧ P [d, e] (fun z => Q (.val z) ρ2) fun _ _ => False) : Mr K O F0 (rOwnEq K gf (spS K O.T (pu P))) x y ρ Q := fun F H σ u v Qh s R hu hv c => by
  obtain ⟨d, e, ρ2, F2, s2, R2, r1, r2, cn, fds, rfl, ho, ht, hn, q⟩ := frz2_of R hu hv k
  have ty := ty_rep (x := .val e) R2 r2 rfl ht
  obtain ⟨a, dx, fs, rfl, h1, h2⟩ := r1.objP
  refine ⟨a, _, dx, fs, rfl, R2.fh _ _ h1, ho, .inl ⟨_, ty, hn, ?_⟩⟩
  exact call_pu (W := W0) (Xp := fun _ _ _ => False) (σ := σ) R2 (Same.trans s s2) wr0 (.cons r1 (.cons r2 .nil)) q (fun d qd v H3 F3 s3 R3 r3 => c v H3 F3 (.val d) ρ2 (Same.trans s2 s3) R3 r3 qd) fun _ _ z => z
def OwnNe (K : PySem.W.Frag) (c : Str) : Prop := PySem.W.findIn K (.ref (ga K c)) "__ne__" = some (some (.builtin "object.__ne__")) ∧ PySem.W.mroIn K (ga K c) (.type "object") = some true
theorem r_ownNe (k : Frz x ρ fun d ρ1 => Frz y ρ1 fun e ρ2 => ∃ c fds, d = .obj c fds ∧ OwnOp K c "__eq__" gf ∧ OwnNe K c ∧ TyOk K e ∧ PySem.W.notFirst K (ga K c) (tyD K e) = true ∧ P [d, e] (fun z => ∃ b, z = .bl b ∧ Q (.val (.bl (!b))) ρ2) fun _ _ => False) : Mr K O F0 (rOwnNe K gf (spS K O.T (pu P))) x y ρ Q := fun F H σ u v Qh s R hu hv c => by
  obtain ⟨d, e, ρ2, F2, s2, R2, r1, r2, cn, fds, rfl, ho, hne, ht, hn, q⟩ := frz2_of R hu hv k
  have ty := ty_rep (x := .val e) R2 r2 rfl ht
  obtain ⟨a, dx, fs, rfl, h1, h2⟩ := r1.objP
  refine ⟨a, _, dx, fs, rfl, R2.fh _ _ h1, ho, hne.1, hne.2, .inl ⟨_, ty, hn, ?_⟩⟩
  refine call_pu (W := W0) (Xp := fun _ _ _ => False) (σ := σ) R2 (Same.trans s s2) wr0 (.cons r1 (.cons r2 .nil)) q (fun d qd v H3 F3 s3 R3 r3 => ?_) fun _ _ z => z
  obtain ⟨b, rfl, qd⟩ := qd
  cases r3
  exact ⟨b, rfl, c _ H3 F3 (.val (.bl _)) ρ2 (Same.trans s2 s3) R3 (Rep.bl _) qd⟩
/-! #### calls by keywords -/
theorem XsV.append : ∀ {vs ws : List V} {xs zs : List X}, XsV K F σ vs xs → XsV K F σ ws zs → XsV K F σ (vs ++ ws) (xs ++ zs)
  | [], _, [], _, _, h => h
  | _ :: _, _, _ :: _, _, a, h => ⟨a.1, a.2.append h⟩
  | [], _, _ :: _, _, a, _ => a.elim
  | _ :: _, _, [], _, a, _ => a.elim
theorem XsV.length : ∀ {vs : List V} {xs : List X}, XsV K F σ vs xs → vs.length = xs.length
  | [], [], _ => rfl
  | _ :: _, _ :: _, a => congrArg (· + 1) a.2.length
  | [], _ :: _, a => a.elim
  | _ :: _, [], a => a.elim
theorem RepL.split {ws : List V} : ∀ {vs : List V} {es zs : List D}, RepL K F (vs ++ ws) (es ++ zs) → vs.length = es.length → RepL K F vs es ∧ RepL K F ws zs
  | [], [], _, h, _ => ⟨.nil, h⟩
  | _ :: _, _ :: _, _, .cons a b, l => let ⟨x, y⟩ := RepL.split b (Nat.succ.inj l); ⟨.cons a x, y⟩
theorem m_cmK {C : Str} {n l : Nat} {ix : List Nat} {ms : List V} (md : List D) (hm : ∀ F, RepL K F ms md) (hW : Wr K O F0 W Xp)
    (k : Me K O F0 to ρ fun x ρ1 => x = .val (.cls C) ∧ Ma K O F0 tA ρ1 fun xs ρ2 => Ma K O F0 tK ρ2 fun zs ρ3 => FrzL (xs ++ zs) ρ3 fun ds ρ4 => ∃ es zs2, ds = es ++ zs2 ∧ es.length = n ∧ zs2.length = l ∧ xs.length = n ∧ P (pickL ix (.cls C :: es) md zs2) (fun d => Q (.val d) ρ4) fun c fs => Xp c fs ρ4) :
    Me K O F0 (tCmK (ga K C) n l (spS K O.T (pu P)) (fun vs zs => pickL ix vs ms zs) W to tA tK) ρ Q := fun F H σ Qh s R c =>
  k F H σ _ s R fun v0 H0 F0' x ρ0 s0 R0 r0 ⟨ex, k0⟩ => by
    subst ex
    refine ⟨rep_cls r0, k0 F0' H0 σ _ (Same.trans s s0) R0 fun vs H1 F1 xs ρ1 s1 R1 r1 k1 => k1 F1 H1 σ _ (Same.trans s (Same.trans s0 s1)) R1 fun ws H2 F2 zs ρ2 s2 R2 r2 k2 => ?_⟩
    obtain ⟨ds, ρ3, F3, s3, R3, r3, es, zs2, rfl, l1, l2, l3, q⟩ := frzL_of R2 ((r1.mono s2).append r2) k2
    have hl : vs.length = n := by rw [r1.length, l3]
    obtain ⟨q1, q2⟩ := RepL.split r3 (by rw [hl, l1])
    refine ⟨hl, by rw [q2.length, l2], ?_⟩
    exact call_pu R3 (Same.trans s (Same.trans s0 (Same.trans s1 (Same.trans s2 s3)))) hW (RepL.pick (.cons (.cls C) q1) (hm F3) q2) q (fun d qd v H4 F4 s4 R4 r5 => c v H4 F4 (.val d) ρ3 (Same.trans s0 (Same.trans s1 (Same.trans s2 (Same.trans s3 s4)))) R4 r5 qd) fun _ _ z => z
/-- an object that is being made, handed to its __init__ -/
theorem call_pinG {c : Str} {P : Str → List D → (List (Str × D) → Prop) → (Str → List (Str × D) → Prop) → Prop} {Qh : VK} {Qd : List (Str × D) → Prop} {Ed : Str → List (Str × D) → Prop} {xx dx : Addr} (R2 : RS K O F H σ ρ) (hx : H xx = some (.ins (ga K c) dx [])) (f1 : F xx = none) (f2 : O.o xx = none) (nx : ∀ i, (sl ρ i).mut = true → sv σ i ≠ some (.ref xx)) (s : Same F0 F) (hW : Wr K O F0 W Xp) (rv : RepL K F vs ds) (h : P c ds Qd Ed)
    (hq : ∀ fs, Qd fs → ∀ v H2 F2, Same F F2 → RS K O F2 H2 σ ρ → Rep K F2 v (.obj c fs) → Qh v H2) (he : ∀ c2 fs, Ed c2 fs → Xp c2 fs ρ) :
      spS K O.T (pin P) (.ref xx :: vs) H (fun v H2 => v = .non ∧ Qh (.ref xx) H2) (WE W σ) := by
  refine ⟨⟨beside F H fun a => tx (H a) || decide (a = xx), none, O.T⟩, F, _, rfl, R2.enterM rv (s := .own (.obj c [])) rfl f1 ⟨dx, [], hx, RepP.nil⟩, c, ds, Qd, Ed, rfl, h, fun fs q v H4 F4 s4 C r4 => ?_, fun c2 fs q dd H4 F4 fvs s4 hdd C hn rp => ?_⟩
  · cases r4
    obtain ⟨R4, z⟩ := R2.afterM C s4 f2 nx
    obtain ⟨z1, z2⟩ := z rfl
    obtain ⟨o, ho, hnx, rp⟩ := Shl.rep (d := .obj c fs) z2 z1
    obtain ⟨R5, s5⟩ := R4.thaw ho hnx z1 f2 nx
    exact ⟨rfl, hq fs q _ _ _ (Same.trans s4 s5) R5 rp⟩
  · have hz := R2.afterX C s4 hn (Same.refl _) (fun a e => .inr (by
      rcases Bool.or_eq_true_iff.mp e with e | e
      · exact ⟨(tx_no R2 e).1, (tx_no R2 e).2.2⟩
      · obtain rfl := of_decide_eq_true e
        exact ⟨f2, nx⟩)) (fun e => by
      rcases Bool.or_eq_true_iff.mp e with e | e
      · exact ⟨(tx_no R2 e).1, (tx_no R2 e).2.2⟩
      · exfalso
        obtain rfl := of_decide_eq_true e
        obtain ⟨b, b1, b2, b3, b4⟩ := C.owned (i := 0) rfl
        cases b1
        cases upd_same.symm.trans b3)
    exact hW F4 H4 σ ρ c2 fs dd fvs (Same.trans s s4) hdd hz.1 hz.2 rp (he c2 fs q)
abbrev PI1 := Str → List D → (List (Str × D) → Prop) → (Str → List (Str × D) → Prop) → Prop
/-- C(*y, k = v ..): the star's tuple comes last -/
theorem nwS_of {P : PI1} {C : Str} {ix : List Nat} {ms xs zs : List V} {md : List D} {Qh : VK} (hix : ix.all (fun i => decide (1 ≤ i)) = true) (hm : ∀ F, RepL K F ms md) (R : RS K O F H σ ρ) (s : Same F0 F) (hW : Wr K O F0 W Xp) (rx : RepL K F xs ds) (rz : RepL K F zs es) (hl : ds.length ≤ 1000)
    (h : P C (pickL (ix.map (· - 1)) [] md es ++ [.tup ds]) (fun fs => Q (.val (.obj C fs)) ρ) fun c fs => Xp c fs ρ) (c : ∀ v H2 F2 x ρ2, Same F F2 → RS K O F2 H2 σ ρ2 → XvR K F2 σ v x → Q x ρ2 → Qh v H2) : gNwS (ga K C) (spS K O.T (pin P)) (fun vs zs => pickL (0 :: ix) vs ms zs) W σ xs zs H Qh := by
  refine ⟨by rw [rx.length]; exact Nat.le_trans hl (by decide), fun x dx p hx hd hne hp hpx hpd => ?_⟩
  show spS K O.T (pin P) (pickL (0 :: ix) [V.ref x] ms zs ++ [V.ref p]) _ _ _
  rw [pick_self hix]
  have R1 : RS K O F (upd H dx (.own x)) σ ρ := R.allocN hd
  have hx1 : upd H dx (.own x) x = none := by rw [upd_ne (Ne.symm hne)]; exact hx
  have R2 : RS K O F (upd (upd H dx (.own x)) x (.ins (ga K C) dx [])) σ ρ := R1.allocN hx1
  have nx := R1.no_new hx1
  obtain ⟨f1, f2⟩ := R1.free hx1
  have hp2 : upd (upd H dx (.own x)) x (.ins (ga K C) dx []) p = none := by rw [upd_ne hpx, upd_ne hpd]; exact hp
  obtain ⟨R3, s3⟩ := R2.alloc (o := .tup xs) hp2 nx_tup
  refine call_pinG (xx := x) (dx := dx) R3 (by rw [upd_ne (Ne.symm hpx), upd_same]) (by rw [upd_ne (Ne.symm hpx)]; exact f1) f2 nx (Same.trans s s3) hW ((RepL.pick .nil ((hm F).mono s3) (rz.mono s3)).append (.one (.tup (SqT.of upd_same) (rx.mono s3)))) h (fun fs qd v H4 F4 s4 R4 r4 => c v H4 F4 (.val (.obj C fs)) ρ (Same.trans s3 s4) R4 r4 qd) fun _ _ z => z
theorem m_nwSs {P : PI1} {C : Str} {m : Nat} {ix : List Nat} {ms : List V} (md : List D) (hm : ∀ F, RepL K F ms md) (hW : Wr K O F0 W Xp) (k : Me K O F0 te ρ fun x ρ1 => Ma K O F0 tK ρ1 fun zs ρ2 => FrzL zs ρ2 fun es ρ3 => es.length = m ∧ ∃ ds, (seeD x ρ3 = some (.lst ds) ∨ seeD x ρ3 = some (.tup ds)) ∧ ds.length ≤ 1000 ∧ P C (pickL (ix.map (· - 1)) [] md es ++ [.tup ds]) (fun fs => Q (.val (.obj C fs)) ρ3) fun c fs => Xp c fs ρ3) (hix : ix.all (fun i => decide (1 ≤ i)) = true := by rfl) :
    Me K O F0 (tNwSs K (ga K C) m (spS K O.T (pin P)) (fun vs zs => pickL (0 :: ix) vs ms zs) W te tK) ρ Q := fun F H σ Qh s R c =>
  k F H σ _ s R fun v H1 F1 x ρ1 s1 R1 r1 k1 => k1 F1 H1 σ _ (Same.trans s s1) R1 fun ws H2 F2 zs ρ2 s2 R2 r2 k2 => by
    obtain ⟨es, ρ3, F3, s3, R3, r3, l, ds, hx, hl, q⟩ := frzL_of R2 r2 k2
    refine ⟨by rw [r3.length, l], ?_⟩
    have rx := (r1.mono s2).mono s3
    have s13 := Same.trans s1 (Same.trans s2 s3)
    rcases hx with hx | hx
    · obtain ⟨a, xs, rfl, h1, h2⟩ := look_lst R3 rx hx
      exact ⟨a, xs, rfl, .inr h1, nwS_of hix hm R3 (Same.trans s s13) hW h2 r3 hl q fun v H4 F4 z ρ4 s4 R4 r4 qz => c v H4 F4 z ρ4 (Same.trans s13 s4) R4 r4 qz⟩
    · obtain ⟨a, xs, rfl, h1, h2⟩ := look_tup R3 rx hx
      exact ⟨a, xs, rfl, .inl h1, nwS_of hix hm R3 (Same.trans s s13) hW h2 r3 hl q fun v H4 F4 z ρ4 s4 R4 r4 qz => c v H4 F4 z ρ4 (Same.trans s13 s4) R4 r4 qz⟩
theorem m_nwS {P : PI1} {C : Str} {m : Nat} {ix : List Nat} {ms : List V} (md : List D) (hm : ∀ F, RepL K F ms md) (hW : Wr K O F0 W Xp) (k : Ma K O F0 tA ρ fun xs ρ1 => Ma K O F0 tK ρ1 fun zs ρ2 => FrzL (xs ++ zs) ρ2 fun ds ρ3 => ∃ es fs, ds = es ++ fs ∧ es.length = xs.length ∧ fs.length = m ∧ es.length ≤ 1000 ∧ P C (pickL (ix.map (· - 1)) [] md fs ++ [.tup es]) (fun fs => Q (.val (.obj C fs)) ρ3) fun c fs => Xp c fs ρ3) (hix : ix.all (fun i => decide (1 ≤ i)) = true := by rfl) :
    Me K O F0 (tNwS (ga K C) m (spS K O.T (pin P)) (fun vs zs => pickL (0 :: ix) vs ms zs) W tA tK) ρ Q := fun F H σ Qh s R c =>
  k F H σ _ s R fun vs H1 F1 xs ρ1 s1 R1 r1 k1 => k1 F1 H1 σ _ (Same.trans s s1) R1 fun ws H2 F2 zs ρ2 s2 R2 r2 k2 => by
    obtain ⟨ds, ρ3, F3, s3, R3, r3, es, fs, rfl, l1, l2, hl, q⟩ := frzL_of R2 ((r1.mono s2).append r2) k2
    obtain ⟨q1, q2⟩ := RepL.split r3 (by rw [r1.length, l1])
    have s13 := Same.trans s1 (Same.trans s2 s3)
    exact ⟨by rw [q2.length, l2], nwS_of hix hm R3 (Same.trans s s13) hW q1 q2 hl q fun v H4 F4 z ρ4 s4 R4 r4 qz => c v H4 F4 z ρ4 (Same.trans s13 s4) R4 r4 qz⟩
theorem m_at {C : Str} {i : Nat} (h : sl ρ i = .val (.cls C)) (k : Me K O F0 te ρ Q) : Me K O F0 (tAt i (ga K C) te) ρ Q := fun F H σ Qh s R c => by
  refine ⟨?_, k F H σ Qh s R c⟩
  have a := R.at_ i
  rw [h] at a
  obtain ⟨w, a1, a2⟩ := a
  cases a2
  exact sv_some a1
end
end SJ

/-! MRh: keys and values of dicts, tuples joined, sorting, slices, repr, try. -/
namespace SJ
open PySem PySem.Spec PyProof.Rows L2 He
def keyOf : Key → D
  | .inl i => .int i
  | .inr s => .str s
section
variable {K : PySem.W.Frag} {F F2 H : Hp} {vs us : List V} {ds es : List D} {κ : Type}
theorem rep_kV {k : Key} : Rep K F (kV k) (keyOf k) := by
  cases k with
  | inl i => exact .int i
  | inr s => exact .str s
theorem RepL.keys {kvs : List (Key × V)} {kds : List (Key × D)} (h : RepP K F kvs kds) : RepL K F (kvs.map fun q => kV q.1) (kds.map fun q => keyOf q.1) := by
  induction kds generalizing kvs with
  | nil => rw [h.inv0]; exact .nil
  | cons q kds ih =>
    obtain ⟨k, d⟩ := q
    obtain ⟨v, r, rfl, a, b⟩ := h.inv
    exact .cons rep_kV (ih b)
/-- a place in a dict, or at its end -/
def putKD (kds : List (Key × D)) (k : Key) (d : D) : List (Key × D) := if (kds.any fun kv => decide (kv.1 = k)) = true then kds.map (fun kv => if kv.1 = k then (kv.1, d) else kv) else kds ++ [(k, d)]
theorem RepP.any {kvs : List (Key × V)} {kds : List (Key × D)} {k : Key} (h : RepP K F kvs kds) : (kvs.any fun kv => decide (kv.1 = k)) = kds.any fun kv => decide (kv.1 = k) := by
  induction kds generalizing kvs with
  | nil => rw [h.inv0]; rfl
  | cons q kds ih =>
    obtain ⟨k2, d⟩ := q
    obtain ⟨v, r, rfl, a, b⟩ := h.inv
    rw [List.any_cons, List.any_cons, ih b]
theorem RepP.append {kvs kws : List (κ × V)} {kds kes : List (κ × D)} (h : RepP K F kvs kds) (g : RepP K F kws kes) : RepP K F (kvs ++ kws) (kds ++ kes) := ⟨by rw [List.map_append, List.map_append, h.1, g.1], by rw [List.map_append, List.map_append]; exact h.2.append g.2⟩
theorem RepP.putK {kvs : List (Key × V)} {kds : List (Key × D)} {k : Key} {v : V} {d : D} (h : RepP K F kvs kds) (r : Rep K F v d) : RepP K F (L2.putK kvs k v) (putKD kds k d) := by
  unfold L2.putK putKD
  rw [h.any]
  split
  · rename_i z
    clear z
    induction kds generalizing kvs with
    | nil => rw [h.inv0]; exact RepP.nil
    | cons q kds ih =>
      obtain ⟨k2, d2⟩ := q
      obtain ⟨v2, r2, rfl, a, b⟩ := h.inv
      rw [List.map_cons, List.map_cons]
      by_cases e : k2 = k
      · simp only [e, if_pos]; exact RepP.cons r (ih b)
      · simp only [e, if_neg, if_false]; exact RepP.cons a (ih b)
  · exact h.append (RepP.cons r RepP.nil)
end
section
variable {K : PySem.W.Frag} {O : Oc} {F0 F F2 F3 H H2 H3 : Hp} {σ σ2 : L2.St} {ρ ρ2 : Ro} {Q : X → Ro → Prop} {QT : Bool → Ro → Prop} {QA : List X → Ro → Prop} {QF : D → Ro → Prop} {QL : List D → Ro → Prop} {ta tb te to tc : TE} {t u tt : TT} {tA tK : TA} {ts tz : TS} {r r2 : R2} {N : Hn} {n : Nat} {x y : X} {d e : D} {g : TG} {wi : TI} {p : Addr} {o o2 : HO} {vs : List V} {ds es : List D} {kds : List (Key × D)} {fds : List (Str × D)} {W : WX} {Xp : XP} {i j : Int} {b c : Bool} {s z : Str} {cn : Str} {v : V} {gf : Addr} {P : PD}
/-- tuple(d) -/
theorem m_tupK (k : Me K O F0 te ρ fun x ρ1 => ∃ kds, seeD x ρ1 = some (.dct kds) ∧ Q (.val (.tup (kds.map fun q => keyOf q.1))) ρ1) : Me K O F0 (tCB rTupD (tCons te tNil)) ρ Q := fun F H σ Qh s R c =>
  k F H σ _ s R fun v H1 F1 x ρ1 s1 R1 r1 ⟨kds, hx, q⟩ => by
    obtain ⟨a, kvs, rfl, h1, h2⟩ := look_dct R1 r1 hx
    refine ⟨a, _, rfl, .keys h1, fun l hl => ?_⟩
    obtain ⟨R3, s3⟩ := R1.alloc (o := .tup (kvs.map fun q => kV q.1)) hl nx_tup
    exact c _ _ _ (.val (.tup _)) ρ1 (Same.trans s1 s3) R3 (Rep.tup (SqT.of upd_same) (RepL.keys (h2.mono s3))) q
/-- tuple(d.values()) -/
theorem m_tupV (k : Me K O F0 te ρ fun x ρ1 => ∃ kds, seeD x ρ1 = some (.dct kds) ∧ Q (.val (.tup (kds.map (·.2)))) ρ1) : Me K O F0 (tCB rTupD (tCons (tBM0 K "dict" rVals te) tNil)) ρ Q := fun F H σ Qh s R c =>
  k F H σ _ s R fun v H1 F1 x ρ1 s1 R1 r1 ⟨kds, hx, q⟩ => by
    obtain ⟨a, kvs, rfl, h1, h2⟩ := look_dct R1 r1 hx
    refine ⟨.inr (.inr (.inl ⟨rfl, .inl ⟨kvs, h1⟩⟩)), a, kvs, rfl, rfl, h1, fun w hw => ?_⟩
    have R2 : RS K O F1 (upd H1 w (valsO w a)) σ ρ1 := R1.allocN hw
    refine ⟨w, _, rfl, .vals upd_same (by rw [upd_ne (ne_of_none h1 hw)]; exact h1), fun l hl => ?_⟩
    obtain ⟨R3, s3⟩ := R2.alloc (o := .tup (kvs.map (·.2))) hl nx_tup
    exact c _ _ _ (.val (.tup _)) ρ1 (Same.trans s1 s3) R3 (Rep.tup (SqT.of upd_same) (h2.2.mono s3)) q
theorem r_rep01 (hd : ds ≠ []) (k : Q (.val (.tup (if b = true then ds else []))) ρ) : Mr K O F0 (rRep01 K) (.val (.tup ds)) (.val (.int (if b = true then 1 else 0))) ρ Q := fun F H σ u v Qh _ R hu hv q => by
  rw [look_int hv]
  obtain ⟨a, xs, rfl, h1, h2⟩ := look_tup R hu (ds := ds) rfl
  refine ⟨a, xs, rfl, h1, fun z => hd (by have := h2.length; rw [z] at this; exact List.eq_nil_of_length_eq_zero this.symm), ?_⟩
  cases b with
  | true => exact .inl ⟨rfl, q _ H F (.val (.tup ds)) ρ (Same.refl _) R hu k⟩
  | false =>
    refine .inr ⟨rfl, fun p hp => ?_⟩
    obtain ⟨R3, s3⟩ := R.alloc (o := .tup []) hp nx_tup
    exact q _ _ _ (.val (.tup [])) ρ s3 R3 (Rep.tup (SqT.of upd_same) .nil) k
theorem r_catT (hl : ds.length + es.length ≤ 10000) (k : Q (.val (.tup (ds ++ es))) ρ) : Mr K O F0 (rAdd K) (.val (.tup ds)) (.val (.tup es)) ρ Q := fun F H σ u v Qh _ R hu hv q => by
  have hu0 := hu
  have hv0 := hv
  obtain ⟨a, xs, rfl, h1, h2⟩ := look_tup R hu (ds := ds) rfl
  obtain ⟨b, ys, rfl, h3, h4⟩ := look_tup R hv (ds := es) rfl
  refine .inr (.inr (.inr ⟨a, b, xs, ys, rfl, rfl, h1, h3, by rw [h2.length, h4.length]; exact Nat.le_trans hl (by decide), fun e => ?_, fun _ e => ?_, fun _ _ p hp => ?_⟩))
  · subst e
    cases h2
    exact q _ H F (.val (.tup es)) ρ (Same.refl _) R hv0 k
  · subst e
    cases h4
    rw [List.append_nil] at k
    exact q _ H F (.val (.tup ds)) ρ (Same.refl _) R hu0 k
  · obtain ⟨R3, s3⟩ := R.alloc (o := .tup (xs ++ ys)) hp nx_tup
    exact q _ _ _ (.val (.tup (ds ++ es))) ρ s3 R3 (Rep.tup (SqT.of upd_same) ((h2.append h4).mono s3)) k
/-- sorted(texts) -/
theorem mf_sortS (k : Me K O F0 te ρ fun x ρ1 => ∃ zs : List Str, seeD x ρ1 = some (.lst (zs.map D.str)) ∧ zs.length < 64 ∧ ∀ ys : List Str, ys.Perm zs → sortedS ys = true → QF (.lst (ys.map D.str)) ρ1) : Mf K O F0 (tCB (rSortedS K) (tCons te tNil)) ρ QF := fun F H σ Qh s R c =>
  k F H σ _ s R fun v H1 F1 x ρ1 s1 R1 r1 ⟨zs, hx, hl, q⟩ => by
    obtain ⟨a, xs, rfl, h1, h2⟩ := look_lst R1 r1 hx
    rw [h2.strs'] at h1
    exact ⟨a, zs, rfl, h1, hl, fun ys p hp hs hn => mf_new (ρ2 := ρ1) (F2 := F1) R1 hn RepL.strs fun H3 R3 nw => c p H3 F1 _ ρ1 s1 R3 nw (q ys hp hs)⟩
/-! #### argument lists with stars -/
theorem ma_star (k : Me K O F0 te ρ fun x ρ1 => Frz x ρ1 fun d ρ2 => ∃ ds, (d = .tup ds ∨ d = .lst ds) ∧ Ma K O F0 tA ρ2 fun ys ρ3 => QA (ds.map X.val ++ ys) ρ3) : Ma K O F0 (StX.tStar K te tA) ρ QA := fun F H σ Qh s R c =>
  k F H σ _ s R fun v H1 F1 x ρ1 s1 R1 r1 k1 => by
    obtain ⟨d, ρ2, F2, s2, R2, r2, ds, hd, q⟩ := frz_of R1 r1 k1
    have mk : ∀ {F : Hp} {xs : List V} {ds : List D}, RepL K F xs ds → XsV K F σ xs (ds.map X.val) := by
      intro F xs ds h
      induction ds generalizing xs with
      | nil => cases h; trivial
      | cons d ds ih => cases h with | cons a b => exact ⟨a, ih b⟩
    rcases hd with rfl | rfl
    · obtain ⟨a, xs, rfl, h1, h2⟩ := r2.tupP
      refine ⟨a, xs, rfl, .inl (sqt_same R2.fh h1), q F2 H1 σ _ (Same.trans s (Same.trans s1 s2)) R2 fun ws H3 F3 ys ρ3 s3 R3 r3 qz => ?_⟩
      exact c _ H3 F3 _ ρ3 (Same.trans s1 (Same.trans s2 s3)) R3 ((mk (h2.mono s3)).append r3) qz
    · obtain ⟨a, xs, rfl, h1, h2⟩ := r2.lstP
      refine ⟨a, xs, rfl, .inr (SqL.of (R2.fh _ _ h1)), q F2 H1 σ _ (Same.trans s (Same.trans s1 s2)) R2 fun ws H3 F3 ys ρ3 s3 R3 r3 qz => ?_⟩
      exact c _ H3 F3 _ ρ3 (Same.trans s1 (Same.trans s2 s3)) R3 ((mk (h2.mono s3)).append r3) qz
/-- *d: its keys -/
theorem ma_starK (k : Me K O F0 te ρ fun x ρ1 => ∃ kds, seeD x ρ1 = some (.dct kds) ∧ Ma K O F0 tA ρ1 fun ys ρ3 => QA ((kds.map fun q => X.val (keyOf q.1)) ++ ys) ρ3) : Ma K O F0 (tStarD te tA) ρ QA := fun F H σ Qh s R c =>
  k F H σ _ s R fun v H1 F1 x ρ1 s1 R1 r1 ⟨kds, hx, q⟩ => by
    obtain ⟨a, kvs, rfl, h1, h2⟩ := look_dct R1 r1 hx
    refine ⟨a, _, rfl, .keys h1, q F1 H1 σ _ (Same.trans s s1) R1 fun ws H3 F3 ys ρ3 s3 R3 r3 qz => ?_⟩
    refine c _ H3 F3 _ ρ3 (Same.trans s1 s3) R3 (XsV.append ?_ r3) qz
    have mk : ∀ {kvs : List (Key × V)} {kds : List (Key × D)}, RepP K F3 kvs kds → XsV K F3 σ (kvs.map fun q => kV q.1) (kds.map fun q => X.val (keyOf q.1)) := by
      intro kvs kds h
      induction kds generalizing kvs with
      | nil => rw [h.inv0]; trivial
      | cons q kds ih =>
        obtain ⟨k2, d⟩ := q
        obtain ⟨v, r, rfl, a, b⟩ := h.inv
        exact ⟨rep_kV, ih b⟩
    exact mk (h2.mono s3)
/-! #### slices -/
def cutD (xs : List D) (lo hi : Option Int) : List D := (xs.drop (HT.sIx xs.length 0 lo)).take (HT.sIx xs.length xs.length hi - HT.sIx xs.length 0 lo)
def Mo (K : PySem.W.Frag) (O : Oc) (F0 : Hp) (t : TO) (ρ : Ro) (Q : Option Int → Ro → Prop) : Prop := ∀ (F H : Hp) (σ : L2.St) (Qh : Option Int → Hp → Prop), Same F0 F → RS K O F H σ ρ → (∀ v H2 F2 ρ2, Same F F2 → RS K O F2 H2 σ ρ2 → Q v ρ2 → Qh v H2) → t σ H Qh
theorem mo_no {QO : Option Int → Ro → Prop} (k : QO none ρ) : Mo K O F0 tNoPart ρ QO := fun F H σ Qh s R c => c none H F ρ (Same.refl _) R k
theorem mo_part {QO : Option Int → Ro → Prop} (k : Me K O F0 te ρ fun x ρ1 => ∃ i, x = .val (.int i) ∧ QO (some i) ρ1) : Mo K O F0 (tPart te) ρ QO := fun F H σ Qh s R c =>
  k F H σ _ s R fun v H1 F1 x ρ1 s1 R1 r1 ⟨i, ex, q⟩ => by
    subst ex
    exact ⟨i, look_int r1, c (some i) H1 F1 ρ1 s1 R1 q⟩
theorem mf_sl {tl th : TO} (k : Me K O F0 te ρ fun x ρ1 => Mo K O F0 tl ρ1 fun lo ρ2 => Mo K O F0 th ρ2 fun hi ρ3 => ∃ ds, seeD x ρ3 = some (.lst ds) ∧ QF (.lst (cutD ds lo hi)) ρ3) : Mf K O F0 (tSl (rSlU K) te tl th) ρ QF := fun F H σ Qh s R c =>
  k F H σ _ s R fun v H1 F1 x ρ1 s1 R1 r1 k1 => k1 F1 H1 σ _ (Same.trans s s1) R1 fun lo H2 F2 ρ2 s2 R2 k2 => k2 F2 H2 σ _ (Same.trans s (Same.trans s1 s2)) R2 fun hi H3 F3 ρ3 s3 R3 ⟨ds, hx, q⟩ => by
    obtain ⟨a, xs, rfl, h1, h2⟩ := look_lst R3 ((r1.mono s2).mono s3) hx
    refine .inl ⟨a, xs, rfl, h1, fun p hp => ?_⟩
    have e : RepL K F3 (cutV xs lo hi) (cutD ds lo hi) := by
      unfold cutV cutD
      rw [h2.length]
      exact h2.sub _ _
    exact mf_new (ρ2 := ρ3) (F2 := F3) R3 hp e fun H4 R4 nw => c p H4 F3 _ ρ3 (Same.trans s1 (Same.trans s2 s3)) R4 nw q
/-- repr of plain data -/
theorem c_reprD {pd : PyData} (hx : seeD x ρ = some d) (hp : pyOf d = some pd) (sh : pd.showable = true) (dp : pd.depth ≤ 100) (sz : pd.shown.length ≤ 10000) (k : Q (.val (.str pd.shown)) ρ) : Mc K O F0 (rReprU K) [x] ρ Q := fun F H σ vs Qh _ R hu q => by
  obtain ⟨v, rfl, hv⟩ := one_arg hu
  exact .inl ⟨v, pd, rfl, dp_of (look_rep R hv hx) hp, sh, dp, Nat.le_trans sz (by decide), q _ H F (.val (.str _)) ρ (Same.refl _) R (Rep.str _) k⟩
theorem c_reprN (sz : i.natAbs.log2 < 1920) (k : Q (.val (.str (toString i))) ρ) : Mc K O F0 (rReprU K) [.val (.int i)] ρ Q := fun F H σ vs Qh _ R hu q => by
  obtain ⟨v, rfl, hv⟩ := one_arg hu
  rw [look_int hv]
  exact .inr (.inr ⟨i, rfl, sz, q _ H F (.val (.str _)) ρ (Same.refl _) R (Rep.str _) k⟩)
end
end SJ

/-! MRi: sorting by a field, dict comprehensions, items. -/
namespace SJ
open PySem PySem.Spec PySem.W PySem.Calls PyProof.Rows L2 LamX
section
variable {K : PySem.W.Frag} {O : Oc} {F0 F F2 F3 H H2 H3 : Hp} {σ σ2 : L2.St} {ρ ρ2 : Ro} {Q : X → Ro → Prop} {QT : Bool → Ro → Prop} {QA : List X → Ro → Prop} {QF : D → Ro → Prop} {QL : List D → Ro → Prop} {ta tb te to tc tk tv : TE} {t u tt : TT} {tA tK : TA} {ts tz : TS} {r r2 : R2} {N : Hn} {n : Nat} {x y : X} {d e : D} {g : TG} {wi : TI} {p : Addr} {o o2 : HO} {ds es : List D} {kds : List (Key × D)} {fds : List (Str × D)} {W : WX} {Xp : XP} {i j : Int} {b c : Bool} {s z : Str} {cn : Str} {v : V} {gf : Addr} {P : PD}
/-- the heap grew, tables turned -/
theorem RS.extN (R : RS K O F H σ ρ) (e : ExtN H H2) (t : Tabs O.T H2) : RS K O F H2 σ ρ := by
  refine ⟨fun a o h => e a o (R.fh a o h) (R.ft a o h), fun a o h => e a o (R.oh a o h) (R.ot a o h).1, R.dj, t, R.ot, R.ft, R.w0, R.len, fun i => ?_, R.ne⟩
  by_cases m : (sl ρ i).mut = true
  · obtain ⟨a, h1, h2, h3, h4⟩ := R.owned m
    obtain ⟨o, q1, q2⟩ := h4.nx
    exact SlOk.of_mut m h1 h2 h3 (h4.mono (by rw [q1, e a o q1 q2.1]) (Same.refl _))
  · exact (R.at_ i).mono (by cases q : (sl ρ i).mut with | true => exact absurd q m | false => rfl) (Same.refl _)
def HasD (K : PySem.W.Frag) (f : Str) (d : D) (z : Str) : Prop := ∃ c fds, d = .obj c fds ∧ FdOk K c f ∧ fds.lookup f = some (.str z)
def sortD (ds : List D) (zs : List Str) : List D := ((ds.zip zs).mergeSort (dataLe false fun q => PyData.str q.2)).map (·.1)
theorem hasS_of {xs : List V} {zs : List Str} {f : Str} (h : RepL K H xs ds) (q : Paired (HasD K f) ds zs) : Paired (HasS K H f) xs zs := by
  induction ds generalizing xs zs with
  | nil => cases h; cases q; exact .nil
  | cons d ds ih =>
    cases h with
    | cons a b =>
      cases q with
      | cons c d =>
        refine .cons ?_ (ih b d)
        obtain ⟨cn, fds, rfl, hf, hl⟩ := c
        obtain ⟨p, dx, fs, rfl, h1, h2⟩ := a.objP
        obtain ⟨w, w1, w2⟩ := h2.lookup hl
        cases w2
        exact ⟨p, _, dx, fs, rfl, h1, hf.1, hf.2, w1⟩
theorem rep_sort {xs : List V} {zs : List Str} (h : RepL K F xs ds) : RepL K F (sortV xs zs) (sortD ds zs) := by
  have key : ∀ (xs : List V) (ds : List D) (zs : List Str), RepL K F xs ds → ∃ l : List ((V × D) × Str), (∀ q ∈ l, Rep K F q.1.1 q.1.2) ∧ xs.zip zs = l.map (fun q => (q.1.1, q.2)) ∧ ds.zip zs = l.map (fun q => (q.1.2, q.2)) := by
    intro xs ds
    induction ds generalizing xs with
    | nil => intro zs h; cases h; exact ⟨[], (fun q hq => nomatch hq), rfl, rfl⟩
    | cons d ds ih =>
      intro zs h
      cases h with
      | cons a b =>
        cases zs with
        | nil => exact ⟨[], (fun q hq => nomatch hq), rfl, rfl⟩
        | cons z zs =>
          obtain ⟨l, l1, l2, l3⟩ := ih _ zs b
          refine ⟨((_, d), z) :: l, fun q hq => ?_, by rw [List.zip_cons_cons, l2]; rfl, by rw [List.zip_cons_cons, l3]; rfl⟩
          rcases List.mem_cons.mp hq with rfl | hq
          · exact a
          · exact l1 q hq
  obtain ⟨l, l1, l2, l3⟩ := key xs ds zs h
  unfold sortV sortD
  have m1 := List.map_mergeSort (r := dataLe false fun q : (V × D) × Str => PyData.str q.2) (s := dataLe false fun q : V × Str => PyData.str q.2) (f := fun q => (q.1.1, q.2)) (l := l) (fun a _ b _ => rfl)
  have m2 := List.map_mergeSort (r := dataLe false fun q : (V × D) × Str => PyData.str q.2) (s := dataLe false fun q : D × Str => PyData.str q.2) (f := fun q => (q.1.2, q.2)) (l := l) (fun a _ b _ => rfl)
  rw [l2, l3, ← m1, ← m2, List.map_map, List.map_map]
  have hm : ∀ q ∈ l.mergeSort (dataLe false fun q : (V × D) × Str => PyData.str q.2), Rep K F q.1.1 q.1.2 := fun q hq => l1 q (List.mem_mergeSort.mp hq)
  generalize l.mergeSort (dataLe false fun q : (V × D) × Str => PyData.str q.2) = m at hm
  induction m with
  | nil => exact .nil
  | cons q m ih => exact .cons (hm q (List.mem_cons_self ..)) (ih fun q hq => hm q (List.mem_cons_of_mem _ hq))
/-- sorted(xs, key=lambda x: x.f) -/
theorem mf_sortA {f : Str} (k : Me K O F0 te ρ fun x ρ1 => ∃ ds zs, (seeD x ρ1 = some (.tup ds) ∨ seeD x ρ1 = some (.lst ds)) ∧ ds.length ≤ 1000 ∧ Paired (HasD K f) ds zs ∧ QF (.lst (sortD ds zs)) ρ1) : Mf K O F0 (tSortA K O.T f (tCons te tNil)) ρ QF := fun F H σ Qh s R c =>
  k F H σ _ s R fun v H1 F1 x ρ1 s1 R1 r1 ⟨ds, zs, hx, hl, hp, q⟩ => by
    refine ⟨v, rfl, R1.tb, ?_⟩
    have fin : ∀ xs : List V, RepL K F1 xs ds → ∀ H2 p, ExtN H1 H2 → Tabs O.T H2 → H2 p = none → Qh (.ref p) (upd H2 p (.lst (sortV xs zs))) := fun xs hr H2 p he ht hn =>
      mf_new (ρ2 := ρ1) (F2 := F1) (R1.extN he ht) hn (rep_sort hr) fun H3 R3 nw => c p H3 F1 _ ρ1 s1 R3 nw q
    rcases hx with hx | hx
    · obtain ⟨a, xs, rfl, h1, h2⟩ := look_tup R1 r1 hx
      exact ⟨a, xs, zs, rfl, .inl h1, by rw [h2.length]; exact hl, hasS_of (h2.mono R1.fh) hp, fin xs h2⟩
    · obtain ⟨a, xs, rfl, h1, h2⟩ := look_lst R1 r1 hx
      exact ⟨a, xs, zs, rfl, .inr h1, by rw [h2.length]; exact hl, hasS_of (h2.mono R1.fh) hp, fin xs h2⟩
/-! #### dict comprehensions -/
theorem putKD_len {acc : List (Key × D)} {k : Key} {e : D} : (putKD acc k e).length ≤ acc.length + 1 := by
  unfold putKD
  split
  · rw [List.length_map]; exact Nat.le_succ _
  · rw [List.length_append]; exact Nat.le_refl _
theorem wipe_wipe {σ : L2.St} {vs : List Nat} : L2.wipe (L2.wipe σ vs) vs = L2.wipe σ vs := List.ext_getElem? fun j => by
  have wl : (L2.wipe (L2.wipe σ vs) vs).length = (L2.wipe σ vs).length := wipe_length _ _
  have e1 : sv (L2.wipe (L2.wipe σ vs) vs) j = sv (L2.wipe σ vs) j := by
    rw [sv_wipe]
    by_cases m : j ∈ vs
    · rw [if_pos m, sv_wipe, if_pos m]
    · rw [if_neg m]
  unfold sv at e1
  by_cases hj : j < (L2.wipe σ vs).length
  · rw [List.getElem?_eq_getElem (by rw [wl]; exact hj), List.getElem?_eq_getElem hj] at e1 ⊢
    exact congrArg some e1
  · rw [List.getElem?_eq_none (by rw [wl]; omega), List.getElem?_eq_none (by omega)]
theorem mf_dc {vs : List Nat} (js : List Nat) (hjs : ∀ j ∈ js, j ∈ vs) (h0 : 0 ∉ vs) (k : Mi K O F0 wi ρ fun ds ρ1 => ds.length ≤ 10000 ∧ ∃ I : Nat → List (Key × D) → Ro → Prop, I 0 [] ρ1 ∧
    (∀ i d acc ρ2, ds[i]? = some d → acc.length ≤ i → I i acc ρ2 → (∀ v ∈ vs, (sl ρ2 v).mut = false) ∧ ∀ (oo : Hp) (ww : Option V), Mg K ⟨oo, ww, O.T⟩ F0 g js d (wipeR ρ2 vs) fun ρ3 => ρ3.length = ρ2.length ∧ Mt K ⟨oo, ww, O.T⟩ F0 tt ρ3 fun b ρ4 => if b = true then Me K ⟨oo, ww, O.T⟩ F0 tk ρ4 fun y ρ5 => ∃ dy kd, y = .val dy ∧ keyD dy = some kd ∧ Me K ⟨oo, ww, O.T⟩ F0 tv ρ5 fun z ρ6 => Frz z ρ6 fun e ρ7 => ρ7.length = ρ2.length ∧ I (i + 1) (putKD acc kd e) (rst ρ7 ρ2 vs) else ρ4.length = ρ2.length ∧ I (i + 1) acc (rst ρ4 ρ2 vs)) ∧
    ∀ acc ρ2, I ds.length acc ρ2 → QF (.dct acc) ρ2) : Mf K O F0 (tDc wi g tt tk tv vs) ρ QF := fun F H σ Qh s R c =>
  k F H σ _ s R fun J H2 F2 ds ρ2 s2 R2 wd ⟨hds, I, i0, is, ie⟩ l hl => by
    have hOl : O.o l = none := (R2.free hl).2
    have R20 : RS K { O with o := upd O.o l (.dK []) } F2 (upd H2 l (.dK [])) σ ρ2 := (R2.allocN hl).out upd_same nx_dK (R2.free hl).1 (R2.no_new hl)
    refine ⟨fun i m H => m = ds.length - i ∧ i ≤ ds.length ∧ ∃ F3 ρ3 acc us, Same F2 F3 ∧ RS K { O with o := upd O.o l (.dK us) } F3 H σ ρ3 ∧ RepP K F3 us acc ∧ acc.length ≤ i ∧ I i acc ρ3, ⟨ds.length, rfl, Nat.zero_le _, F2, ρ2, [], [], Same.refl _, R20, RepP.nil, Nat.le_refl _, i0⟩, ?_⟩
    rintro i m H1 ⟨rfl, hi, F3, ρ3, acc, us, s3, R3, ra, hacc, q3⟩
    obtain ⟨w1, w2⟩ := wd _ i F3 H1 σ ρ3 s3 R3
    by_cases hlt : i < ds.length
    · obtain ⟨go, yl⟩ := w2 _ (List.getElem?_eq_getElem hlt)
      refine .inr ⟨go, fun H' => ∃ F4 ρ4 acc us, Same F2 F4 ∧ RS K { O with o := upd O.o l (.dK us) } F4 H' σ ρ4 ∧ RepP K F4 us acc ∧ acc.length ≤ i + 1 ∧ I (i + 1) acc ρ4, fun H' z => ⟨ds.length - (i + 1), by omega, rfl, hlt, z⟩, fun x H' y => ?_⟩
      obtain ⟨F4, s4, R4, r4⟩ := yl x H' y
      have s04 : Same F0 F4 := Same.trans s (Same.trans s2 (Same.trans s3 s4))
      obtain ⟨hm, body⟩ := is i _ acc ρ3 (List.getElem?_eq_getElem hlt) hacc q3
      refine body (upd O.o l (.dK us)) O.w F4 H' (L2.wipe σ vs) x _ s04 (R4.wipe h0) r4 fun F5 H5 σ5 ρ5 s5 R5 hw ⟨hl5, mt⟩ => ?_
      have hw5 : L2.wipe σ5 vs = L2.wipe σ vs := by rw [hw vs hjs, wipe_wipe]
      refine ⟨hw5, mt F5 H5 σ5 _ (Same.trans s04 s5) R5 fun b H6 F6 ρ6 s6 R6 kb => ?_⟩
      cases b with
      | true =>
        refine kb F6 H6 σ5 _ (Same.trans s04 (Same.trans s5 s6)) R6 fun v H7 F7 y ρ7 s7 R7 r7 ⟨dy, kd, ey, hk, kv⟩ => ?_
        subst ey
        refine kv F7 H7 σ5 _ (Same.trans s04 (Same.trans s5 (Same.trans s6 s7))) R7 fun v2 H8 F8 z ρ8 s8 R8 r8 fz => ?_
        obtain ⟨e, ρ9, F9, s9, R9, r9, hl9, q9⟩ := frz_of R8 r8 fz
        have s49 := Same.trans s5 (Same.trans s6 (Same.trans s7 (Same.trans s8 s9)))
        have R10 := RS.unwipe R4 R9 s49 hw5 rfl hl9 h0 hm
        refine ⟨us, kd, rep_key r7 hk, R10.oh l _ upd_same, ?_, F9, _, putKD acc kd e, L2.putK us kd v2, Same.trans s3 (Same.trans s4 s49), R10.turn nx_dK, (ra.mono (Same.trans s4 s49)).putK r9, Nat.le_trans putKD_len (Nat.succ_le_succ hacc), q9⟩
        rw [ra.length]
        exact Nat.lt_of_le_of_lt (Nat.le_trans hacc hi) (Nat.lt_of_le_of_lt hds (by decide))
      | false =>
        have R9 := RS.unwipe R4 R6 (Same.trans s5 s6) hw5 rfl kb.1 h0 hm
        exact ⟨F6, _, acc, us, Same.trans s3 (Same.trans s4 (Same.trans s5 s6)), R9, ra.mono (Same.trans s4 (Same.trans s5 s6)), Nat.le_succ_of_le hacc, kb.2⟩
    · have e : i = ds.length := by omega
      subst e
      obtain ⟨b1, b2, b3, b4⟩ := R3.back hOl
      exact .inl ⟨w1 (Nat.le_refl _), c l H1 F3 (.dct acc) ρ3 (Same.trans s2 s3) b1 ⟨b2, hOl, b4, us, b3, ra⟩ (ie acc ρ3 q3)⟩
/-- .. each element told by itself -/
def dcD (Kn : D → Key) (Fn : D → D) (ds : List D) : List (Key × D) := ds.foldl (fun acc d => putKD acc (Kn d) (Fn d)) []
theorem mf_dcM {vs : List Nat} (js : List Nat) (Kn : D → Key) (Fn : D → D) (hjs : ∀ j ∈ js, j ∈ vs := by decide) (h0 : 0 ∉ vs := by decide) (k : Mi K O F0 wi ρ fun ds ρ1 => ds.length ≤ 10000 ∧ (∀ v ∈ vs, (sl ρ1 v).mut = false) ∧
    (∀ d ∈ ds, ∀ (oo : Hp) (ww : Option V), Mg K ⟨oo, ww, O.T⟩ F0 g js d (wipeR ρ1 vs) fun ρ3 => ρ3.length = ρ1.length ∧ rst ρ3 ρ1 vs = ρ1 ∧ Me K ⟨oo, ww, O.T⟩ F0 tk ρ3 fun y ρ5 => ρ5 = ρ3 ∧ (∃ dy, y = .val dy ∧ keyD dy = some (Kn d)) ∧ Me K ⟨oo, ww, O.T⟩ F0 tv ρ5 fun z ρ6 => z = .val (Fn d) ∧ ρ6 = ρ3) ∧
    QF (.dct (dcD Kn Fn ds)) ρ1) : Mf K O F0 (tDc wi g tYes tk tv vs) ρ QF := by
  refine mf_dc js hjs h0 fun F H σ R s R0 c => k F H σ R s R0 fun J H2 F2 ds ρ2 s2 R2 wd ⟨hds, hm, hb, q⟩ => c J H2 F2 ds ρ2 s2 R2 wd ⟨hds, fun i acc ρ3 => ρ3 = ρ2 ∧ acc = dcD Kn Fn (ds.take i), ⟨rfl, rfl⟩, fun i d acc ρ3 hd hacc ⟨e1, e2⟩ => ?_, fun acc ρ3 ⟨e1, e2⟩ => ?_⟩
  · subst e1
    refine ⟨hm, fun oo ww => ?_⟩
    intro F H σ v Qs sa Ra ra ca
    refine hb d (List.mem_of_getElem? hd) oo ww F H σ v Qs sa Ra ra fun F2 H2 σ2 ρ4 sb Rb wb ⟨l1, l2, me⟩ => ca F2 H2 σ2 ρ4 sb Rb wb ⟨l1, ?_⟩
    intro F H σ Qh sc Rc cc
    refine cc true H F ρ4 (Same.refl _) Rc ?_
    show Me K ⟨oo, ww, O.T⟩ F0 tk ρ4 _
    intro F H σ Qh se Re ce
    refine me F H σ Qh se Re fun v H4 F4 y ρ6 sf Rf rf ⟨e5, ⟨dy, e6, e7⟩, mv⟩ => ce v H4 F4 y ρ6 sf Rf rf ⟨dy, _, e6, e7, ?_⟩
    intro F H σ Qh sg Rg cg
    refine mv F H σ Qh sg Rg fun v2 H5 F5 z ρ7 sh Rh rh ⟨e8, e9⟩ => cg v2 H5 F5 z ρ7 sh Rh rh ?_
    subst e8 e9
    have ht : ds.take (i + 1) = ds.take i ++ [d] := by
      rw [List.take_add_one, hd]; rfl
    refine ⟨l1, l2, ?_⟩
    unfold dcD at e2 ⊢
    rw [ht, List.foldl_append, e2]
    rfl
  · subst e1 e2
    rw [List.take_length]
    exact q
/-! #### targets -/
theorem mg_pair {i j : Nat} {a b : D} {Pn : Ro → Prop} (k : Pn ((ρ.set i (.val a)).set j (.val b))) (hi : i ≠ 0 := by decide) (hj : j ≠ 0 := by decide) : Mg K O F0 (gTup K 2 (gCons (gName i) (gCons (gName j) gNil))) [i, j] (.tup [a, b]) ρ Pn := fun F H σ v Qs s R r c => by
  obtain ⟨p, xs, rfl, h1, h2⟩ := r.tupP
  cases h2 with
  | cons ra rb =>
    cases rb with
    | cons rb z =>
      cases z
      refine ⟨p, _, rfl, sqt_same R.fh h1, rfl, _, _, rfl, _, _, rfl, rfl, ?_⟩
      refine c F H _ _ (Same.refl _) ((R.put hi ra).put hj rb) (fun vs h => ?_) k
      rw [wipe_set (h j (by simp)), wipe_set (h i (by simp))]
end
end SJ

/-! MRj: items of a dict, errors caught, sequences compared, bodies. -/
namespace SJ
open PySem PySem.Spec PyProof.Rows L2 He LamX
mutual
def noD : D → Bool
  | .lst ds => noDL ds
  | .tup ds => noDL ds
  | .dct _ => false
  | .obj _ fs => noDF fs
  | .exc _ _ => false
  | _ => true
def noDL : List D → Bool
  | [] => true
  | d :: ds => noD d && noDL ds
def noDF : List (Str × D) → Bool
  | [] => true
  | (_, d) :: ds => noD d && noDF ds
end
theorem noDF_map : ∀ {fs : List (Str × D)}, noDF fs = noDL (fs.map (·.2))
  | [] => by simp only [noDF, noDL, List.map_nil]
  | (f, d) :: fs => by simp only [noDF, noDL, List.map_cons, noDF_map]
section
variable {K : PySem.W.Frag} {F F2 : Hp} {q : Addr}
/-- heaps that differ at q alone, which holds a dict, locked or not -/
def OffD (F F2 : Hp) (q : Addr) : Prop := (∀ a o, a ≠ q → F a = some o → F2 a = some o) ∧ ((∃ kvs, F q = some (.dK kvs)) ∨ ∃ od kvs, F q = some (.frz od (.dK kvs)))
theorem OffD.ne {o : HO} {a : Addr} (h : OffD F F2 q) (e : F a = some o) (h1 : ∀ kvs, o ≠ .dK kvs) (h2 : ∀ od kvs, o ≠ .frz od (.dK kvs)) : F2 a = some o := h.1 a o (fun z => by
  subst z
  rcases h.2 with ⟨kvs, g⟩ | ⟨od, kvs, g⟩
  · rw [g] at e; exact h1 kvs (Option.some.inj e).symm
  · rw [g] at e; exact h2 od kvs (Option.some.inj e).symm) e
theorem OffD.sqt {a : Addr} {xs : List V} (h : OffD F F2 q) (e : SqT K F a xs) : SqT K F2 a xs := by
  rcases e with (e | ⟨o, e⟩) | e
  · exact .inl (.inl (h.ne e (fun _ z => nomatch z) fun _ _ z => nomatch z))
  · refine .inl (.inr ⟨o, h.ne e (fun _ z => nomatch z) fun _ _ z => ?_⟩)
    injection z with z1 z2
    cases z2
  · exact .inr e
mutual
theorem Rep.off (s : OffD F F2 q) : ∀ {v : V} {d : D}, Rep K F v d → noD d = true → Rep K F2 v d
  | _, _, .non, _ => .non
  | _, _, .bl b, _ => .bl b
  | _, _, .int i, _ => .int i
  | _, _, .str z, _ => .str z
  | _, _, .cls z, _ => .cls z
  | _, _, .ty z, _ => .ty z
  | _, _, .adr z, _ => .adr z
  | _, .lst ds, .lst h a, e => .lst (s.ne h (fun _ z => nomatch z) fun _ _ z => nomatch z) (RepL.off s a (by simpa only [noD] using e))
  | _, .tup ds, .tup h a, e => .tup (s.sqt h) (RepL.off s a (by simpa only [noD] using e))
  | _, .dct kds, .dct _ _ _, e => by simp only [noD] at e; cases e
  | _, .obj c fs, .obj h z a, e => .obj (s.ne h (fun _ z => nomatch z) fun _ _ z => nomatch z) z (RepL.off s a (by rw [← noDF_map]; simpa only [noD] using e))
  | _, .exc c fs, .exc _ _ _ _, e => by simp only [noD] at e; cases e
theorem RepL.off (s : OffD F F2 q) : ∀ {vs : List V} {ds : List D}, RepL K F vs ds → noDL ds = true → RepL K F2 vs ds
  | _, _, .nil, _ => .nil
  | _, d :: ds, .cons h a, e => by
    have e : (noD d && noDL ds) = true := by simpa only [noDL] using e
    obtain ⟨e1, e2⟩ := Bool.and_eq_true_iff.mp e
    exact .cons (Rep.off s h e1) (RepL.off s a e2)
end
theorem noDL_all {ds : List D} (h : ∀ d ∈ ds, noD d = true) : noDL ds = true := by
  induction ds with
  | nil => simp only [noDL]
  | cons d ds ih => simp only [noDL, h d (List.mem_cons_self ..), ih fun e he => h e (List.mem_cons_of_mem _ he), Bool.and_self]
end
section
variable {K : PySem.W.Frag} {O : Oc} {F0 F F2 F3 H H2 H3 : Hp} {σ σ2 : L2.St} {ρ ρ2 : Ro} {Q : X → Ro → Prop} {QT : Bool → Ro → Prop} {QA : List X → Ro → Prop} {QF : D → Ro → Prop} {QL : List D → Ro → Prop} {ta tb te to tc tk tv : TE} {t u tt : TT} {tA tK : TA} {ts tz : TS} {r r2 : R2} {N : Hn} {n : Nat} {x y : X} {d e : D} {g : TG} {wi : TI} {p : Addr} {o o2 : HO} {ds es : List D} {kds : List (Key × D)} {fds : List (Str × D)} {W : WX} {Xp : XP} {i j : Int} {b c : Bool} {s z : Str} {cn : Str} {v : V} {gf : Addr} {P : PD}
def itemsD (kds : List (Key × D)) : List D := kds.map fun q => .tup [keyOf q.1, q.2]
/-- the walk of a locked dict's items -/
theorem walk_items {dq : Addr} {od : Obj} {kvs : List (Key × V)} (hF : F dq = some (.frz od (.dK kvs))) (h : RepP K F kvs kds) : ∀ O2 : Oc, WalkD K O2 F (Iti dq od kvs) (itemsD kds) := fun O2 i F1 H σ ρ s R => by
  have hd : H dq = some (.frz od (.dK kvs)) := R.fh _ _ (s _ _ hF)
  have hl : (itemsD kds).length = kvs.length := by unfold itemsD; rw [List.length_map, h.length]
  refine ⟨fun hi => ⟨hd, by rw [← hl]; exact hi⟩, fun d he => ?_⟩
  have hi : i < kvs.length := by rw [← hl]; exact (List.getElem?_eq_some_iff.mp he).1
  refine ⟨⟨hd, hi⟩, fun x H2 y => ?_⟩
  obtain ⟨T, k, v, h1, rfl, h2, rfl⟩ := y
  obtain ⟨R3, s3⟩ := R.alloc (o := .tup [kV k, v]) h2 nx_tup
  refine ⟨_, s3, R3, ?_⟩
  unfold itemsD at he
  rw [List.getElem?_map] at he
  have hkd : ∃ e, kds[i]? = some (k, e) ∧ Rep K F v e := by
    clear he hi hd hl hF R R3 s3
    induction kds generalizing kvs i with
    | nil => rw [h.inv0] at h1; cases h1
    | cons q kds ih =>
      obtain ⟨k2, d2⟩ := q
      obtain ⟨w, r, rfl, a, b⟩ := h.inv
      cases i with
      | zero => cases h1; exact ⟨d2, rfl, a⟩
      | succ i => exact ih b i h1
  obtain ⟨e, e1, e2⟩ := hkd
  rw [e1] at he
  cases he
  exact Rep.tup (SqT.of upd_same) (.cons rep_kV (.cons ((e2.mono s).mono s3) .nil))
theorem nones_ok {m i : Nat} {w : Option V} {Oh : Hp} : SlOk K Oh F H w (sl (List.replicate m Sl.none) i) := by
  have : sl (List.replicate m Sl.none) i = .none := by
    unfold sl
    rw [List.getElem?_replicate]
    split <;> rfl
  rw [this]; trivial
theorem nones_mut {m i : Nat} : (sl (List.replicate m Sl.none) i).mut = false := by
  have : sl (List.replicate m Sl.none) i = .none := by
    unfold sl
    rw [List.getElem?_replicate]
    split <;> rfl
  rw [this]; rfl
/-- [.. for k, v in self.f.items() if ..] -/
theorem mf_items {f c : Str} {vs : List Nat} (js : List Nat) (Pf : D → Bool) (Fn : D → D) (h0 : sl ρ 0 = .val (.obj c fds)) (hf : FdOk K c f) (hl : fds.lookup f = some (.dct kds)) (hz : kds.length ≤ 10000) (hn : ∀ q ∈ kds, noD q.2 = true) (hr : ∀ q ∈ itemsD kds, noD (Fn q) = true)
    (hb : ∀ d ∈ itemsD kds, ∀ (oo : Hp) (ww : Option V), Mg K ⟨oo, ww, O.T⟩ (fun _ => none) g js d (wipeR (List.replicate ρ.length .none) vs) fun ρ3 => ρ3.length = ρ.length ∧ rst ρ3 (List.replicate ρ.length .none) vs = List.replicate ρ.length .none ∧ Mt K ⟨oo, ww, O.T⟩ (fun _ => none) tt ρ3 fun b ρ4 => ρ4 = ρ3 ∧ b = Pf d ∧ (b = true → Me K ⟨oo, ww, O.T⟩ (fun _ => none) tb ρ4 fun y ρ5 => y = .val (Fn d) ∧ ρ5 = ρ3))
    (k : QF (.lst (((itemsD kds).filter Pf).map Fn)) ρ) (hjs : ∀ j ∈ js, j ∈ vs := by decide) (hv0 : 0 ∉ vs := by decide) : Mf K O F0 (tLockE (tLc (iItems (tFld K (tVar 0) f)) g tt tb vs)) ρ QF := fun F H σ Qh s R cc => by
  have a0 := R.at_ 0
  rw [h0] at a0
  obtain ⟨v0, e0, r0⟩ := a0
  obtain ⟨a, dx, fs, rfl, ha, hfs⟩ := r0.objP
  obtain ⟨w, w1, w2⟩ := hfs.lookup hl
  cases w2 with
  | @dct dq kvs _ hd1 hd2 hd3 =>
  have hP : RepP K F kvs kds := ⟨hd2, hd3⟩
  have hne : a ≠ dq := fun z => by rw [z, hd1] at ha; cases ha
  refine ⟨dq, .dK kvs, R.fh _ _ hd1, trivial, fun od => ?_⟩
  have off : OffD F (upd F dq (.frz od (.dK kvs))) dq := ⟨fun b o n e => by rw [upd_ne n]; exact e, .inl ⟨kvs, hd1⟩⟩
  have hnx : NX (.frz od (.dK kvs)) := ⟨(fun _ z => nomatch z), (fun _ z => nomatch z)⟩
  let F' := upd F dq (.frz od (.dK kvs))
  let H' := upd H dq (.frz od (.dK kvs))
  have fh' : Same F' H' := fun b o e => by
    by_cases z : b = dq
    · rw [z]; rw [z] at e; rw [show F' dq = _ from upd_same] at e; rw [← e]; exact upd_same
    · rw [show F' b = F b from upd_ne z] at e; rw [show H' b = H b from upd_ne z]; exact R.fh _ _ e
  have tb' : Tabs O.T H' := tabs_mut R.tb (R.fh _ _ hd1) nx_dK
  have R' : RS K ⟨beside F' H' fun a => tx (H' a), some (.ref a), O.T⟩ F' H' σ (List.replicate ρ.length .none) :=
    { fh := fh', oh := (fun b o (e : beside F' H' (fun a => tx (H' a)) b = some o) => (beside_some e).2.2), dj := (fun b o (e : beside F' H' (fun a => tx (H' a)) b = some o) => (beside_some e).1), tb := tb', ot := (fun b o (e : beside F' H' (fun a => tx (H' a)) b = some o) => by
        obtain ⟨e1, e2, e3⟩ := beside_some e
        have e2 : tx (H' b) = false := e2
        rw [e3] at e2
        exact nx_of e2), ft := ft_upd R hnx, w0 := (fun v e => by cases e; exact e0), len := (by rw [List.length_replicate, R.len]), at_ := (fun i => nones_ok), ne := (fun i j b ij mi => by rw [nones_mut] at mi; cases mi) }
  have hP' : RepP K F' kvs kds := ⟨hd2, RepL.off off hd3 (noDL_all fun e he => by
    obtain ⟨q, hq, rfl⟩ := List.mem_map.mp he
    exact hn q hq)⟩
  have hFa : F' a = some (.ins (ga K c) dx fs) := by rw [show F' a = F a from upd_ne hne]; exact ha
  have hFd : F' dq = some (.frz od (.dK kvs)) := upd_same
  refine mf_lcM (K := K) (O := ⟨beside F' H' fun a => tx (H' a), some (.ref a), O.T⟩) (F0 := F') (ρ := List.replicate ρ.length .none) (vs := vs) (tb := tb) (QF := fun e ρ2 => e = .lst (((itemsD kds).filter Pf).map Fn)) js Pf Fn hjs hv0 ?_ F' H' σ _ (Same.refl _) R' ?_
  · intro F1 H1 σ1 Rr s1 R1 c1
    refine ⟨.ref a, sv_some (R1.w0 _ rfl), a, _, dx, fs, .ref dq, rfl, R1.fh _ _ (s1 _ _ hFa), hf.1, hf.2, w1, dq, od, kvs, rfl, R1.fh _ _ (s1 _ _ hFd), ?_⟩
    refine c1 _ H1 F1 (itemsD kds) _ (Same.refl _) R1 (walk_items (s1 _ _ hFd) (hP'.mono s1)) ⟨by unfold itemsD; rw [List.length_map]; exact hz, fun v _ => nones_mut, fun d hd oo ww => ?_, rfl⟩
    have hb1 := hb d hd oo ww
    intro F2 H2 σ2 v Qs s2 R2 r2 c2
    refine hb1 F2 H2 σ2 v Qs (fun _ _ z => nomatch z) R2 r2 fun F3 H3 σ3 ρ3 s3 R3 w3 ⟨l1, l2, mt⟩ => c2 F3 H3 σ3 ρ3 s3 R3 w3 ⟨by rw [List.length_replicate]; exact l1, l2, ?_⟩
    intro F4 H4 σ4 Qt s4 R4 c4
    refine mt F4 H4 σ4 Qt (fun _ _ z => nomatch z) R4 fun b H5 F5 ρ5 s5 R5 ⟨e1, e2, me⟩ => c4 b H5 F5 ρ5 s5 R5 ⟨e1, e2, fun hbt => ?_⟩
    intro F6 H6 σ6 Qe s6 R6 c6
    exact me hbt F6 H6 σ6 Qe (fun _ _ z => nomatch z) R6 c6
  · intro l H2 F2 dd ρ2 s2 R2 nw edd
    subst edd
    have hFd2 : F2 dq = some (.frz od (.dK kvs)) := s2 _ _ hFd
    have hHd2 : H2 dq = some (.frz od (.dK kvs)) := R2.fh _ _ hFd2
    refine ⟨hHd2, ?_⟩
    have off2 : OffD F2 (upd F2 dq (.dK kvs)) dq := ⟨fun b o n e => by rw [upd_ne n]; exact e, .inr ⟨od, kvs, hFd2⟩⟩
    have s3 : Same F (upd F2 dq (.dK kvs)) := fun b o e => by
      by_cases z : b = dq
      · rw [z] at e ⊢; rw [upd_same, ← hd1]; exact e
      · rw [upd_ne z]; exact s2 _ _ (by rw [show F' b = F b from upd_ne z]; exact e)
    have key : ∀ b o, H b = some o → F b = none → tx (H b) = false → H2 b = some o ∧ F2 b = none := fun b o hb1 hb2 hb3 => by
      have z : b ≠ dq := fun z => by rw [z, hd1] at hb2; cases hb2
      have e1 : H' b = some o := by rw [show H' b = H b from upd_ne z]; exact hb1
      have e2 : beside F' H' (fun a => tx (H' a)) b = some o := beside_of (by rw [show F' b = F b from upd_ne z]; exact hb2) (by show tx (H' b) = false; rw [show H' b = H b from upd_ne z]; exact hb3) e1
      exact ⟨R2.oh b o e2, R2.dj b o e2⟩
    have txo : ∀ o, NX o → tx (some o) = false := fun o n => by
      cases o with
      | tbl ps => exact (n.1 ps rfl).elim
      | ext φ => exact (n.2 φ rfl).elim
      | _ => rfl
    have hHF : Same (upd F2 dq (.dK kvs)) (upd H2 dq (.dK kvs)) := fun b o e => by
      by_cases z : b = dq
      · rw [z] at e ⊢; rw [upd_same] at e ⊢; exact e
      · rw [upd_ne z] at e ⊢; exact R2.fh _ _ e
    have RR : RS K O (upd F2 dq (.dK kvs)) (upd H2 dq (.dK kvs)) σ ρ := by
      refine ⟨hHF, fun b o e => ?_, fun b o e => ?_, tabs_mut R2.tb hHd2 hnx, R.ot, ft_upd R2 nx_dK, R.w0, R.len, fun i => ?_, R.ne⟩
      · have z : b ≠ dq := fun z => by have := R.dj b o e; rw [z, hd1] at this; cases this
        rw [upd_ne z]
        exact (key b o (R.oh b o e) (R.dj b o e) (by rw [R.oh b o e]; exact txo o (R.ot b o e))).1
      · have z : b ≠ dq := fun z => by have := R.dj b o e; rw [z, hd1] at this; cases this
        rw [upd_ne z]
        exact (key b o (R.oh b o e) (R.dj b o e) (by rw [R.oh b o e]; exact txo o (R.ot b o e))).2
      · by_cases m : (sl ρ i).mut = true
        · obtain ⟨b, h1, h2, h3, h4⟩ := R.owned m
          obtain ⟨o, q1, q2⟩ := h4.nx
          have z : b ≠ dq := fun z => by rw [z, hd1] at h2; cases h2
          obtain ⟨k1, k2⟩ := key b o q1 h2 (by rw [q1]; exact txo o q2)
          exact SlOk.of_mut m h1 (by rw [upd_ne z]; exact k2) h3 (h4.mono (by rw [upd_ne z, k1, q1]) s3)
        · exact (R.at_ i).mono (by cases q : (sl ρ i).mut with | true => exact absurd q m | false => rfl) s3
    obtain ⟨n1, n2, n3, us, n4, n5⟩ := nw
    have zl : l ≠ dq := fun z => by rw [z, hFd2] at n1; cases n1
    refine cc l (upd H2 dq (.dK kvs)) (upd F2 dq (.dK kvs)) (.lst (((itemsD kds).filter Pf).map Fn)) ρ s3 RR ⟨by rw [upd_ne zl]; exact n1, ?_, fun i m e => ?_, us, by rw [upd_ne zl]; exact n4, RepL.off off2 n5 (noDL_all fun e he => ?_)⟩ k
    · cases ho : O.o l with
      | none => rfl
      | some o =>
        have k1 := key l o (R.oh l o ho) (R.dj l o ho) (by rw [R.oh l o ho]; exact txo o (R.ot l o ho))
        have e2 : beside F' H' (fun a => tx (H' a)) l = some o := beside_of (by rw [show F' l = F l from upd_ne zl]; exact R.dj l o ho) (by show tx (H' l) = false; rw [show H' l = H l from upd_ne zl, R.oh l o ho]; exact txo o (R.ot l o ho)) (by rw [show H' l = H l from upd_ne zl]; exact R.oh l o ho)
        rw [show (beside F' H' fun a => tx (H' a)) l = none from n2] at e2
        cases e2
    · obtain ⟨b, h1, h2, h3, h4⟩ := R.owned m
      rw [h1] at e
      cases e
      obtain ⟨o, q1, q2⟩ := h4.nx
      have e2 : beside F' H' (fun a => tx (H' a)) l = some o := beside_of (by rw [show F' l = F l from upd_ne zl]; exact h2) (by show tx (H' l) = false; rw [show H' l = H l from upd_ne zl, q1]; exact txo o q2) (by rw [show H' l = H l from upd_ne zl]; exact q1)
      rw [show (beside F' H' fun a => tx (H' a)) l = none from n2] at e2
      cases e2
    · obtain ⟨q, hq, rfl⟩ := List.mem_map.mp he
      exact hr q (List.mem_filter.mp hq).1
end
end SJ

/-! MRk: errors caught, sequences compared, sets counted, bodies, the pen. -/
namespace SJ
open PySem PySem.Spec PyProof.Rows L2 He LamX
section
variable {K : PySem.W.Frag} {O : Oc} {F0 F F2 F3 H H2 H3 : Hp} {σ σ2 : L2.St} {ρ ρ2 : Ro} {Q : X → Ro → Prop} {QT : Bool → Ro → Prop} {QA : List X → Ro → Prop} {QF : D → Ro → Prop} {QL : List D → Ro → Prop} {ta tb te to tc tk tv : TE} {t u tt : TT} {tA tK : TA} {ts tz : TS} {r r2 : R2} {N : Hn} {n : Nat} {x y : X} {d e : D} {g : TG} {wi : TI} {p : Addr} {o o2 : HO} {ds es : List D} {kds : List (Key × D)} {fds : List (Str × D)} {W : WX} {Xp : XP} {b c : Bool} {s z : Str} {cn : Str} {v : V} {gf : Addr} {P : PD} {vs : List V}
/-! #### errors -/
/-- an object that nobody holds is frozen, whatever it is -/
theorem RS.thawT (R : RS K O F H σ ρ) (ho : H p = some o) (hnx : ∀ ps, o ≠ .tbl ps) (hF : F p = none) (hO : O.o p = none) (hx : ∀ i, (sl ρ i).mut = true → sv σ i ≠ some (.ref p)) : RS K O (upd F p o) H σ ρ ∧ Same F (upd F p o) := by
  have g : Same F (upd F p o) := Same.upd (Same.refl _) hF
  refine ⟨⟨fun b u e => ?_, R.oh, fun a u e => ?_, R.tb, R.ot, ft_updT R hnx, R.w0, R.len, fun i => ?_, R.ne⟩, g⟩
  · by_cases z : b = p
    · rw [z, upd_same] at e; rw [z]; cases e; exact ho
    · rw [upd_ne z] at e; exact R.fh _ _ e
  · rw [upd_ne (ne_of_none e hO)]; exact R.dj a u e
  · by_cases mi : (sl ρ i).mut = true
    · obtain ⟨b, q1, q2, q3, q4⟩ := R.owned mi
      have nb : b ≠ p := fun z => hx i mi (by rw [q1, z])
      exact SlOk.of_mut mi q1 (by rw [upd_ne nb]; exact q2) q3 (q4.mono rfl g)
    · exact (R.at_ i).mono (by cases q : (sl ρ i).mut with | true => exact absurd q mi | false => rfl) g
def ExM (K : PySem.W.Frag) (c2 c : Str) (b : Bool) : Prop := PySem.W.exmOne K (.ref (ga K c2)) (.ref (ga K c)) = some b
/-- try: .. except C as e: x = e -/
theorem ms_tryE {c : Str} {i j : Nat} {tb : WX → TS} {Wo : WX} (hi : i ≠ 0) (hj : j ≠ 0) (hij : i ≠ j) (hil : i < ρ.length)
    (k : ∀ F1, Same F0 F1 → ∀ W : WX, Wr K O F1 W (fun c2 fs ρ2 => ρ2.length = ρ.length ∧ ExM K c2 c true ∧ N.nx ((ρ2.set j (.val (.exc c2 fs))).set i .none)) → Ms K O F1 (tb W) ρ N) : Ms K O F0 (tTryK K (ga K c) i tb (fun _ _ _ => tAsg (tVar i) (gName j)) Wo) ρ N := fun F H σ E s R cc => by
  refine k F s _ (fun F1 H1 σ1 ρ1 c2 fs dd fvs s1 hd R1 hn rp ⟨hlen, hex, q⟩ => ?_) F H σ E (Same.refl _) R cc
  refine ⟨true, hex, fun _ a ha => ?_, fun z => nomatch z⟩
  obtain ⟨B1, B2, B3, B4⟩ := R1.back hn
  obtain ⟨R2, s2⟩ := B1.thawT (o := .xd fvs) B3 (fun ps z => nomatch z) B2 hn B4
  have hdd : dd ≠ a := fun z => by rw [← z, hd] at ha; cases ha
  have R3 : RS K O (upd F1 dd (.xd fvs)) (upd H1 a (XW a (.ref (ga K c2)) (some dd))) σ1 ρ1 := R2.allocN ha
  obtain ⟨f1, f2⟩ := R2.free ha
  obtain ⟨R4, s4⟩ := R3.thawT (p := a) (o := XW a (.ref (ga K c2)) (some dd)) upd_same (fun ps z => nomatch z) f1 f2 (R2.no_new ha)
  have hl : i < σ1.length := by rw [R1.len, hlen]; exact hil
  have rv : Rep K (upd (upd F1 dd (.xd fvs)) a (XW a (.ref (ga K c2)) (some dd))) (.ref a) (.exc c2 fs) := .exc upd_same (by rw [upd_ne hdd, upd_same]) (rp.mono (Same.trans s2 s4)).1 (rp.mono (Same.trans s2 s4)).2
  have R5 := (R4.put hj rv).wipe (vs := [i]) (fun z => by rcases List.mem_cons.mp z with z | z; exact hi z.symm; cases z)
  refine ⟨.ref a, ?_, ?_⟩
  · rw [List.getElem?_set_self hl]
  · have es : (((σ1.set i (some (V.ref a))).set j (some (V.ref a))).set i none) = L2.wipe (σ1.set j (some (V.ref a))) [i] := by
      show _ = (σ1.set j (some (V.ref a))).set i none
      rw [List.set_comm _ _ hij, List.set_set]
    show E.nx (((σ1.set i (some (V.ref a))).set j (some (V.ref a))).set i none) _
    rw [es]
    exact cc.nx _ _ _ _ (Same.trans s1 (Same.trans s2 s4)) R5 q
def XcOk (K : PySem.W.Frag) (c f : Str) : Prop := XfC K (ga K c) ∧ PySem.W.findIn K (.ref (ga K c)) f = some none
theorem m_xv {f : Str} (k : Me K O F0 te ρ fun x ρ1 => ∃ c fs e, x = .val (.exc c fs) ∧ XcOk K c f ∧ fs.lookup f = some e ∧ Q (.val e) ρ1) : Me K O F0 (tXv K f te) ρ Q := fun F H σ Qh s R c =>
  k F H σ _ s R fun v H1 F1 x ρ1 s1 R1 r1 ⟨cn, fs, e, ex, hx, hl, q⟩ => by
    subst ex
    cases (show Rep K F1 v (.exc cn fs) from r1) with
    | exc h1 h2 h3 h4 =>
      obtain ⟨w, w1, w2⟩ := RepP.lookup ⟨h3, h4⟩ hl
      exact ⟨_, _, _, _, w, rfl, hx.1, hx.2, .inr (R1.fh _ _ h1), .inr (R1.fh _ _ h2), w1, c w H1 F1 (.val e) ρ1 s1 R1 w2 q⟩
/-! #### bodies -/
theorem body_pin {T : List (Addr × Str)} {P : PI1} {Nm : List Str} {ts : TS} {Qh : VK} {E : XK} (h : spS K T (pin P) vs H Qh E)
    (k : ∀ (o : Hp) (w : Option V) (F0 : Hp) (c : Str) (ds : List D) (Qd : List (Str × D) → Prop) (Ed : Str → List (Str × D) → Prop), P c ds Qd Ed → Wr K ⟨o, w, T⟩ F0 (WO E) (fun c2 fs ρ => sl ρ 0 = .own (.obj c []) ∧ Ed c2 fs) →
      Ms K ⟨o, w, T⟩ F0 ts ((Sl.own (.obj c []) :: ds.map Sl.val) ++ List.replicate (Nm.length - (ds.length + 1)) .none) { nx := fun ρ => ∃ fs, sl ρ 0 = .own (.obj c fs) ∧ Qd fs, rt := fun d ρ => d = .non ∧ ∃ fs, sl ρ 0 = .own (.obj c fs) ∧ Qd fs }) : ts { nx := fun _ H2 => Qh .non H2, rt := Qh } (start Nm vs) H := by
  obtain ⟨O, F, ρ, rfl, R, c, ds, Qd, Ed, rfl, hp, q1, q2⟩ := h
  have R1 := R.start (Nm := Nm)
  rw [List.length_cons, List.length_map] at R1
  refine k O.o vs.head? F c ds Qd Ed hp (fun F2 H2 σ2 ρ2 c2 fs dd fvs s2 hd C hn rp ⟨h0, e⟩ => ?_) F H _ _ (Same.refl _) R1 ⟨fun F2 H2 σ2 ρ2 s2 C ⟨fs, h0, q⟩ => ?_, fun F2 H2 σ2 ρ2 v d s2 C r ⟨hdn, fs, h0, q⟩ => ?_, fun _ _ _ _ _ _ z => z, fun _ _ _ _ _ _ z => z, fun _ _ _ _ _ _ _ _ _ z => z.elim⟩
  · refine q2 c2 fs e dd H2 F2 fvs s2 hd ?_ hn rp
    have R3 := R.stopM C s2 (Same.upd (Same.refl _) hn) rfl rfl
    rw [h0] at R3
    refine R3.out hd nx_xd (C.dj dd _ upd_same) fun i m e2 => ?_
    obtain ⟨b, b1, b2, b3, b4⟩ := R3.owned m
    cases i with
    | zero =>
      obtain ⟨b', c1, c2', c3, c4⟩ := C.owned (i := 0) (by rw [h0]; rfl)
      have : sv σ2 0 = sv (vs.map some) 0 := by
        have hv : vs ≠ [] := fun z => by have := R.len; rw [z] at this; cases this
        obtain ⟨v, us, rfl⟩ := List.exists_cons_of_ne_nil hv
        exact C.w0 v rfl
      rw [this, e2] at c1
      cases c1
      cases upd_same.symm.trans c3
    | succ i => rw [show sl (Sl.own (.obj c []) :: ds.map Sl.val) (i + 1) = sl (ds.map Sl.val) i from rfl, vals_mut] at m; cases m
  · have R3 := R.stopM C s2 (Same.refl _) rfl rfl
    rw [h0] at R3
    exact q1 fs q .non H2 F2 s2 R3 .non
  · have R3 := R.stopM C s2 (Same.refl _) rfl rfl
    rw [h0] at R3
    subst hdn
    exact q1 fs q v H2 F2 s2 R3 r
theorem len_pin {T : List (Addr × Str)} {P : PI1} {Qh : VK} {E : XK} {n : Nat} (hn : ∀ c ds Q E, P c ds Q E → ds.length + 1 = n) (h : spS K T (pin P) vs H Qh E) : vs.length = n := by
  obtain ⟨O, F, ρ, rfl, R, c, ds, Qd, Ed, rfl, hp, q1, q2⟩ := h
  have := R.len
  rw [List.length_map, List.length_cons, List.length_map] at this
  rw [this, hn c ds Qd Ed hp]
abbrev PP1 := Nat → List D → (D → Nat → Prop) → Prop
theorem body_pp {T : List (Addr × Str)} {P : PP1} {Nm : List Str} {ts : TS} {Qh : VK} {E : XK} (h : spS K T (pp P) vs H Qh E)
    (k : ∀ (o : Hp) (w : Option V) (F0 : Hp) (m : Nat) (ds : List D) (Qd : D → Nat → Prop), P m ds Qd →
      Ms K ⟨o, w, T⟩ F0 ts ((Sl.pen m :: ds.map Sl.val) ++ List.replicate (Nm.length - (ds.length + 1)) .none) { nx := fun ρ => ∃ j, sl ρ 0 = .pen j ∧ Qd .non j, rt := fun d ρ => ∃ j, sl ρ 0 = .pen j ∧ Qd d j }) : ts { nx := fun _ H2 => Qh .non H2, rt := Qh } (start Nm vs) H := by
  obtain ⟨O, F, ρ, rfl, R, m, ds, Qd, rfl, hp, q1⟩ := h
  have R1 := R.start (Nm := Nm)
  rw [List.length_cons, List.length_map] at R1
  refine k O.o vs.head? F m ds Qd hp F H _ _ (Same.refl _) R1 ⟨fun F2 H2 σ2 ρ2 s2 C ⟨j, h0, q⟩ => ?_, fun F2 H2 σ2 ρ2 v d s2 C r ⟨j, h0, q⟩ => ?_, fun _ _ _ _ _ _ z => z, fun _ _ _ _ _ _ z => z, fun _ _ _ _ _ _ _ _ _ z => z.elim⟩
  · have R3 := R.stopM C s2 (Same.refl _) rfl rfl
    rw [h0] at R3
    exact q1 .non j q .non H2 F2 s2 R3 .non
  · have R3 := R.stopM C s2 (Same.refl _) rfl rfl
    rw [h0] at R3
    exact q1 d j q v H2 F2 s2 R3 r
theorem len_pp {T : List (Addr × Str)} {P : PP1} {Qh : VK} {E : XK} {n : Nat} (hn : ∀ m ds Q, P m ds Q → ds.length + 1 = n) (h : spS K T (pp P) vs H Qh E) : vs.length = n := by
  obtain ⟨O, F, ρ, rfl, R, m, ds, Qd, rfl, hp, q1⟩ := h
  have := R.len
  rw [List.length_map, List.length_cons, List.length_map] at this
  rw [this, hn m ds Qd hp]
/-! #### the pen -/
theorem RS.penned {ds : List D} {m m2 : Nat} {Pn : Pen} {us : List V} (R : RS K O F H ((V.ref Pn.p :: us).map some) (.pen m :: ds.map Sl.val)) (s : Same (L2.del H Pn.p) (L2.del H2 Pn.p)) (h : PenAt H2 Pn m2) (hc : F Pn.c = some (.lst (Pn.ns.map V.int))) : RS K O F H2 ((V.ref Pn.p :: us).map some) (.pen m2 :: ds.map Sl.val) := by
  obtain ⟨p2, h1, h2, h3, h4⟩ := R.owned (i := 0) rfl
  cases h1
  obtain ⟨o, e1, e2⟩ := h4.nx
  have kp : ∀ a u, a ≠ Pn.p → H a = some u → H2 a = some u := fun a u n e => del_sub (s a u (by rw [del_ne n]; exact e))
  have tl : ∀ i, sl (Sl.pen m2 :: ds.map Sl.val) (i + 1) = sl (ds.map Sl.val) i := fun i => rfl
  refine ⟨fun a u e => kp a u (fun z => by rw [z, h2] at e; cases e) (R.fh _ _ e), fun a u e => kp a u (fun z => by rw [z, h3] at e; cases e) (R.oh _ _ e), R.dj, fun q hq => ?_, R.ot, R.ft, R.w0, R.len, fun i => ?_, fun i j a ij mi mj => ?_⟩
  · obtain ⟨ps, a1, a2, a3⟩ := R.tb q hq
    have n1 : q.1 ≠ Pn.p := fun z => by rw [z, e1] at a1; exact e2.1 ps (Option.some.inj a1)
    refine ⟨ps, kp _ _ n1 a1, a2, fun pos cv hcv => ?_⟩
    obtain ⟨c, b1, b2⟩ := a3 pos cv hcv
    exact ⟨c, b1, kp _ _ (fun z => by rw [z, e1] at b2; exact e2.2 _ (Option.some.inj b2)) b2⟩
  · cases i with
    | zero =>
      obtain ⟨a, r, g1, g2, g3, g4, g5, g6⟩ := h
      exact ⟨Pn.p, rfl, h2, h3, Pn, rfl, hc, a, r, g1, g3, g4, g5, g6⟩
    | succ i =>
      have q := R.at_ (i + 1)
      rw [show sl (Sl.pen m :: ds.map Sl.val) (i + 1) = sl (ds.map Sl.val) i from rfl] at q
      rw [tl]
      exact q.mono vals_mut (Same.refl _)
  · cases i with
    | zero =>
      cases j with
      | zero => exact absurd rfl ij
      | succ j => rw [tl, vals_mut] at mj; cases mj
    | succ i => rw [tl, vals_mut] at mi; cases mi
theorem RS.penAt {ds : List D} {m : Nat} (R : RS K O F H (vs.map some) (.pen m :: ds.map Sl.val)) : ∃ (Pn : Pen) (us : List V), vs = .ref Pn.p :: us ∧ PenAt H Pn m ∧ F Pn.c = some (.lst (Pn.ns.map V.int)) ∧ F Pn.p = none ∧ RepL K F us ds := by
  obtain ⟨p2, h1, h2, h3, h4⟩ := R.owned (i := 0) rfl
  obtain ⟨Pn, rfl, hc, a, r, g1, g3, g4, g5, g6⟩ := h4
  have hl := R.len
  match vs, h1, hl with
  | v :: us, h1, hl =>
  cases (show some v = some (.ref Pn.p) from h1)
  have hne : Pn.c ≠ Pn.p := fun z => by rw [z, h2] at hc; cases hc
  refine ⟨Pn, us, rfl, ⟨a, r, g1, by rw [del_ne hne]; exact R.fh _ _ hc, g3, g4, g5, g6⟩, hc, h2, ?_⟩
  have key : ∀ (us : List V) (ds : List D), us.length = ds.length → (∀ i, SlOk K O.o F H (sv (us.map some) i) (sl (ds.map Sl.val) i)) → RepL K F us ds := by
    intro us ds
    induction ds generalizing us with
    | nil => intro l _; rw [List.eq_nil_of_length_eq_zero l]; exact .nil
    | cons d ds ih =>
      intro l q
      match us, l with
      | u :: us, l =>
      obtain ⟨w, w1, w2⟩ := (show SlOk K O.o F H (some u) (.val d) from q 0)
      cases w1
      exact .cons w2 (ih us (Nat.succ.inj l) fun i => q (i + 1))
  refine key us ds ?_ fun i => R.at_ (i + 1)
  rw [List.map_cons, List.length_cons, List.length_cons, List.length_map, List.length_map] at hl
  exact Nat.succ.inj hl
/-- what a draw promises -/
def PDraw : PP1 := fun n ds Q => ∃ m : Int, ds = [.int m] ∧ n < 100000 ∧ 0 < m ∧ m < 1073741824 ∧ ∀ r : Int, 0 ≤ r → r < m → Q (.int r) (n + 1)
theorem draw_of {T : List (Addr × Str)} {Qh : VK} {E : XK} (h : spS K T (pp PDraw) vs H Qh E) : spDraw vs H Qh E := by
  obtain ⟨O, F, ρ, rfl, R, n, ds, Qd, rfl, ⟨m, rfl, h1, h2, h3, h4⟩, q1⟩ := h
  obtain ⟨Pn, us, rfl, hp, hc, hF, rl⟩ := R.penAt
  cases rl with
  | cons a b =>
    cases a
    cases b
    exact ⟨Pn, m, n, rfl, hp, h1, h2, h3, fun H2 r r1 r2 p2 sd => q1 _ _ (h4 r r1 r2) _ H2 F (Same.refl _) (R.penned sd p2 hc) (.int r)⟩
/-- what a pick promises -/
def PPick : PP1 := fun n ds Q => ∃ es : List D, (ds = [.lst es] ∨ ds = [.tup es]) ∧ n < 100000 ∧ es ≠ [] ∧ es.length ≤ 1000 ∧ ∀ e ∈ es, Q e (n + 1)
theorem pick_of {T : List (Addr × Str)} {Qh : VK} {E : XK} (h : spS K T (pp PPick) vs H Qh E) : spPick K vs H Qh E := by
  obtain ⟨O, F, ρ, rfl, R, n, ds, Qd, rfl, ⟨es, hd, h1, h2, h3, h4⟩, q1⟩ := h
  obtain ⟨Pn, us, rfl, hp, hc, hF, rl⟩ := R.penAt
  have go : ∀ (l : Addr) (xs : List V), (SqL K (L2.del H Pn.p) l xs ∨ SqT K (L2.del H Pn.p) l xs) → RepL K F xs es → us = [.ref l] → spPick K (.ref Pn.p :: us) H Qh E := fun l xs hs rx eu => by
    subst eu
    refine ⟨Pn, l, n, xs, rfl, hp, h1, hs, fun z => h2 (by have := rx.length; rw [z] at this; exact List.eq_nil_of_length_eq_zero this.symm), by rw [rx.length]; exact h3, fun H2 i v hv p2 sd => ?_⟩
    obtain ⟨e, he, re⟩ := rx.at' hv
    exact q1 _ _ (h4 e (List.mem_of_getElem? he)) v H2 F (Same.refl _) (R.penned sd p2 hc) re
  have sF : Same F (L2.del H Pn.p) := fun a u e => by rw [del_ne (fun z => by rw [z, hF] at e; cases e)]; exact R.fh _ _ e
  rcases hd with rfl | rfl
  · cases rl with
    | cons a b =>
      cases b
      obtain ⟨l, xs, rfl, h5, h6⟩ := a.lstP
      exact go l xs (.inl (SqL.of (sF _ _ h5))) h6 rfl
  · cases rl with
    | cons a b =>
      cases b
      obtain ⟨l, xs, rfl, h5, h6⟩ := a.tupP
      exact go l xs (.inr (sqt_same sF h5)) h6 rfl
end
end SJ

/-! MRl: sequences compared item by item, sets counted. -/
namespace SJ
open PySem PySem.Spec PyProof.Rows L2 He LamX
def dSeq (K : PySem.W.Frag) (g : Addr) (sp : Sp) : EqB := fun Rl x y H b => dSame Rl x y H b ∨ dOwn K g sp Rl x y H b
/-- all stays but sets and tables; F and the tables stay good -/
def Sm (T : List (Addr × Str)) (F : Hp) : Hp → Hp → Prop := fun H G => (∀ a o, H a = some o → NX o → G a = some o) ∧ (Same F H ∧ Tabs T H → Same F G ∧ Tabs T G)
theorem sm_grow {T : List (Addr × Str)} {F : Hp} : Grow (Sm T F) where
  refl := fun H => ⟨fun _ _ e _ => e, fun q => q⟩
  trans := fun a b => ⟨fun x o e n => b.1 x o (a.1 x o e n) n, fun q => b.2 (a.2 q)⟩
  ins := fun a e => a.1 _ _ e nx_ins
  lst := fun a e => a.1 _ _ e nx_lst
def scal : D → Bool
  | .non => true
  | .bl _ => true
  | .int _ => true
  | .str _ => true
  | _ => false
def seqEq (eqf : D → D → Bool) : List D → List D → Bool
  | x :: xs, y :: ys => eqf x y && seqEq eqf xs ys
  | [], [] => true
  | _, _ => false
section
variable {K : PySem.W.Frag} {O : Oc} {F0 F F2 F3 H H2 H3 : Hp} {σ σ2 : L2.St} {ρ ρ2 : Ro} {Q : X → Ro → Prop} {QF : D → Ro → Prop} {ta tb te : TE} {N : Hn} {n : Nat} {x y : X} {d e : D} {p : Addr} {o o2 : HO} {ds es : List D} {fds : List (Str × D)} {b c : Bool} {s z : Str} {cn : Str} {v : V} {gf : Addr} {P : PD} {vs : List V} {T : List (Addr × Str)}
theorem scal_inj (h1 : Rep K F v d) (h2 : Rep K F v e) (s1 : scal d = true) (s2 : scal e = true) : d = e := by
  cases h1 <;> first | (cases s1; done) | (cases h2 <;> first | rfl | (cases s2; done))
theorem scalF_inj {fs : List (Str × V)} {f1 f2 : List (Str × D)} (h1 : RepP K F fs f1) (h2 : RepP K F fs f2) (s1 : f1.all (fun q => scal q.2) = true) (s2 : f2.all (fun q => scal q.2) = true) : f1 = f2 := by
  induction f1 generalizing fs f2 with
  | nil =>
    rw [h1.inv0] at h2
    cases f2 with
    | nil => rfl
    | cons q f2 => cases h2.1
  | cons q f1 ih =>
    obtain ⟨k, d⟩ := q
    obtain ⟨v, r, rfl, a, b⟩ := h1.inv
    cases f2 with
    | nil => cases h2.1
    | cons q2 f2 =>
      obtain ⟨k2, d2⟩ := q2
      obtain ⟨v2, r2, e, a2, b2⟩ := h2.inv
      cases e
      obtain ⟨x1, x2⟩ := Bool.and_eq_true_iff.mp (show (scal d && f1.all fun q => scal q.2) = true from s1)
      obtain ⟨y1, y2⟩ := Bool.and_eq_true_iff.mp (show (scal d2 && f2.all fun q => scal q.2) = true from s2)
      rw [scal_inj a a2 x1 y1, ih b b2 x2 y2]
/-- two objects of plain fields whose class compares by gf -/
def EqP (K : PySem.W.Frag) (g : Addr) (P : PD) (eqf : D → D → Bool) (d e : D) : Prop := ∃ c fds c2 fds2, d = .obj c fds ∧ e = .obj c2 fds2 ∧ fds.all (fun q => scal q.2) = true ∧ fds2.all (fun q => scal q.2) = true ∧ OwnOp K c "__eq__" g ∧ InT K (ga K c2) ∧ PySem.W.notFirst K (ga K c) (.ref (ga K c2)) = true ∧
  P [d, e] (fun z => z = .bl (eqf d e)) (fun _ _ => False) ∧ (ga K c = ga K c2 → fds = fds2 → eqf d e = true)
theorem promise_sm (sF : Same F H) (t : Tabs T H) (ft : ∀ a o, F a = some o → ∀ ps, o ≠ .tbl ps) {xs : List V} (r : RepL K F xs ds) (h : P ds (fun z => z = .bl b) fun _ _ => False) {G : Hp} (hg : Sm T F H G) {Qh : VK} (hq : ∀ G2, Sm T F G G2 → Qh (.bl b) G2) : spS K T (pu P) xs G Qh E0 := by
  obtain ⟨g1, g2⟩ := hg.2 ⟨sF, t⟩
  have R : RS K ⟨beside F G fun a => tx (G a), none, T⟩ F G (xs.map some) (ds.map Sl.val) :=
    { fh := g1, oh := (fun a o (e : beside F G (fun a => tx (G a)) a = some o) => (beside_some e).2.2), dj := (fun a o (e : beside F G (fun a => tx (G a)) a = some o) => (beside_some e).1), tb := g2, ot := (fun a o (e : beside F G (fun a => tx (G a)) a = some o) => by
        obtain ⟨e1, e2, e3⟩ := beside_some e
        have e2 : tx (G a) = false := e2
        rw [e3] at e2
        exact nx_of e2), ft := ft, w0 := (fun v (e : (none : Option V) = some v) => nomatch e), len := (by rw [List.length_map, List.length_map, r.length]), at_ := (fun i => vals_ok r), ne := (fun i j a ij mi => by rw [vals_mut] at mi; cases mi) }
  refine ⟨⟨beside F G fun a => tx (G a), none, T⟩, F, _, rfl, R, ds, _, _, rfl, h, fun dd qd v H2 F2 s2 C r2 => ?_, fun _ _ z => z.elim⟩
  subst qd
  cases r2
  refine hq H2 ⟨fun a o e n => ?_, fun _ => ⟨Same.trans s2 C.fh, C.tb⟩⟩
  cases z : F a with
  | some o2 => rw [g1 _ _ z] at e; cases e; exact C.fh _ _ (s2 _ _ z)
  | none =>
    refine C.oh a o (show beside F G (fun a => tx (G a)) a = some o from beside_of z ?_ e)
    show tx (G a) = false
    rw [e]
    cases o with
    | tbl ps => exact (n.1 ps rfl).elim
    | ext φ => exact (n.2 φ rfl).elim
    | _ => rfl
theorem seqB_of {eqf : D → D → Bool} (sF : Same F H) (t : Tabs T H) (ft : ∀ a o, F a = some o → ∀ ps, o ≠ .tbl ps) : ∀ {xs ys : List V} {ds es : List D}, RepL K F xs ds → RepL K F ys es → (∀ d ∈ ds, ∀ e ∈ es, EqP K gf P eqf d e) → seqB (dSeq K gf (spS K T (pu P)) (Sm T F)) H xs ys (seqEq eqf ds es)
  | _, _, [], [], .nil, .nil, _ => rfl
  | _, _, [], _ :: _, .nil, .cons _ _, _ => rfl
  | _, _, _ :: _, [], .cons _ _, .nil, _ => rfl
  | x :: xs, y :: ys, d :: ds, e :: es, .cons a1 b1, .cons a2 b2, hP => by
    have one : dSeq K gf (spS K T (pu P)) (Sm T F) x y H (eqf d e) := by
      obtain ⟨c, fds, c2, fds2, rfl, rfl, f1, f2, ho, hi, hn, hp, hs⟩ := hP d (List.mem_cons_self ..) e (List.mem_cons_self ..)
      obtain ⟨a, dx, fs, rfl, h1, h2⟩ := a1.objP
      obtain ⟨a', dx', fs', rfl, h3, h4⟩ := a2.objP
      by_cases z : a = a'
      · subst z
        rw [h1] at h3
        injection h3 with h3
        injection h3 with q1 q2 q3
        subst q3
        exact .inl ⟨a, rfl, rfl, hs q1 (scalF_inj h2 h4 f1 f2)⟩
      · exact .inr ⟨a, a', _, dx, fs, _, dx', fs', rfl, rfl, z, sF _ _ h1, sF _ _ h3, ho, hi, hn, fun G hg Qh hq => promise_sm sF t ft (.cons a1 (.cons a2 .nil)) hp hg hq⟩
    have tail := seqB_of sF t ft b1 b2 fun d hd e he => hP d (List.mem_cons_of_mem _ hd) e (List.mem_cons_of_mem _ he)
    show (_ ∧ _) ∨ (_ ∧ _)
    rw [show seqEq eqf (d :: ds) (e :: es) = (eqf d e && seqEq eqf ds es) from rfl]
    cases q : eqf d e with
    | true => rw [q] at one; exact .inr ⟨one, by rw [Bool.true_and]; exact tail⟩
    | false => rw [q] at one; exact .inl ⟨one, rfl⟩
theorem seqEq_len {eqf : D → D → Bool} : ∀ {ds es : List D}, ds.length ≠ es.length → seqEq eqf ds es = false
  | [], [], h => (h rfl).elim
  | [], _ :: _, _ => rfl
  | _ :: _, [], _ => rfl
  | d :: ds, e :: es, h => by
    show (eqf d e && seqEq eqf ds es) = false
    rw [seqEq_len (fun z => h (by rw [List.length_cons, List.length_cons, z])), Bool.and_false]
theorem RS.sm (R : RS K O F H σ ρ) (h : Sm O.T F H H2) : RS K O F H2 σ ρ := by
  obtain ⟨g1, g2⟩ := h.2 ⟨R.fh, R.tb⟩
  refine ⟨g1, fun a o e => h.1 a o (R.oh a o e) (R.ot a o e), R.dj, g2, R.ot, R.ft, R.w0, R.len, fun i => ?_, R.ne⟩
  by_cases m : (sl ρ i).mut = true
  · obtain ⟨a, h1, h2, h3, h4⟩ := R.owned m
    obtain ⟨o, q1, q2⟩ := h4.nx
    exact SlOk.of_mut m h1 h2 h3 (h4.mono (by rw [q1, h.1 a o q1 q2]) (Same.refl _))
  · exact (R.at_ i).mono (by cases q : (sl ρ i).mut with | true => exact absurd q m | false => rfl) (Same.refl _)
theorem r_seq {nm : Bool} (eqf : D → D → Bool) (hx : (seeD x ρ = some (.tup ds) ∧ seeD y ρ = some (.tup es)) ∨ (seeD x ρ = some (.lst ds) ∧ seeD y ρ = some (.lst es))) (hP : ∀ d ∈ ds, ∀ e ∈ es, EqP K gf P eqf d e) (k : Q (.val (.bl (if nm then seqEq eqf ds es else !seqEq eqf ds es))) ρ) : Mr K O F0 (rSeqC K (dSeq K gf (spS K O.T (pu P))) nm) x y ρ Q := fun F H σ u v Qh _ R hu hv q => by
  have fin : ∀ H2, Sm O.T F H H2 → Qh (.bl (if nm then seqEq eqf ds es else !seqEq eqf ds es)) H2 := fun H2 hs => q _ H2 F (.val (.bl _)) ρ (Same.refl _) (R.sm hs) (Rep.bl _) k
  rcases hx with ⟨e1, e2⟩ | ⟨e1, e2⟩
  · obtain ⟨a, xs, rfl, h1, h2⟩ := look_tup R hu e1
    obtain ⟨c, ys, rfl, h3, h4⟩ := look_tup R hv e2
    exact ⟨Sm O.T F, a, c, xs, ys, _, sm_grow, rfl, rfl, .inl ⟨h1, h3⟩, seqB_of R.fh R.tb R.ft h2 h4 hP, fin⟩
  · obtain ⟨a, xs, rfl, h1, h2⟩ := look_raw R hu e1
    obtain ⟨c, ys, rfl, h3, h4⟩ := look_raw R hv e2
    exact ⟨Sm O.T F, a, c, xs, ys, _, sm_grow, rfl, rfl, .inr ⟨h1, h3, fun z => seqEq_len (by rw [← h2.length, ← h4.length]; exact z)⟩, seqB_of R.fh R.tb R.ft h2 h4 hP, fin⟩
/-! #### sets counted -/
def setS (zs : List Str) : Key → Bool := zs.foldl (fun S z => addS S (.inr z)) fun _ => false
def setN : List Str → Nat := fun zs => (zs.foldl (fun (q : (Key → Bool) × Nat) z => (addS q.1 (.inr z), addN q.1 (.inr z) q.2)) ((fun _ => false), 0)).2
theorem setS_eq (zs : List Str) : ((zs.foldl (fun (q : (Key → Bool) × Nat) z => (addS q.1 (.inr z), addN q.1 (.inr z) q.2)) ((fun _ => false), 0)).1) = setS zs := by
  have : ∀ (zs : List Str) (q : (Key → Bool) × Nat), (zs.foldl (fun (q : (Key → Bool) × Nat) z => (addS q.1 (.inr z), addN q.1 (.inr z) q.2)) q).1 = zs.foldl (fun S z => addS S (.inr z)) q.1 := by
    intro zs
    induction zs with
    | nil => intro q; rfl
    | cons z zs ih => intro q; rw [List.foldl_cons, List.foldl_cons, ih]
  exact this zs _
theorem setS_app {zs : List Str} {z : Str} : setS (zs ++ [z]) = addS (setS zs) (.inr z) := by unfold setS; rw [List.foldl_append]; rfl
theorem setN_app {zs : List Str} {z : Str} : setN (zs ++ [z]) = addN (setS zs) (.inr z) (setN zs) := by
  rw [← setS_eq]
  unfold setN
  rw [List.foldl_append]
  rfl
theorem setN_le {zs : List Str} : setN zs ≤ zs.length := by
  have : ∀ (zs : List Str) (q : (Key → Bool) × Nat), (zs.foldl (fun (q : (Key → Bool) × Nat) z => (addS q.1 (.inr z), addN q.1 (.inr z) q.2)) q).2 ≤ q.2 + zs.length := by
    intro zs
    induction zs with
    | nil => intro q; exact Nat.le_refl _
    | cons z zs ih =>
      intro q
      rw [List.foldl_cons, List.length_cons]
      refine Nat.le_trans (ih _) ?_
      show addN q.1 (.inr z) q.2 + zs.length ≤ _
      unfold addN
      split <;> omega
  have := this zs ((fun _ => false), 0)
  rw [Nat.zero_add] at this
  exact this
theorem paired_at {α β : Type} {R : α → β → Prop} {xs : List α} {ys : List β} (h : Paired R xs ys) : ∀ {i : Nat} {x : α}, xs[i]? = some x → ∃ y, ys[i]? = some y ∧ R x y := by
  induction h with
  | nil => intro i x e; cases e
  | cons a b ih =>
    intro i x e
    cases i with
    | zero => cases e; exact ⟨_, rfl, a⟩
    | succ i => exact ih e
theorem paired_len {α β : Type} {R : α → β → Prop} : ∀ {xs : List α} {ys : List β}, Paired R xs ys → xs.length = ys.length
  | _, _, .nil => rfl
  | _, _, .cons a b => congrArg (· + 1) (paired_len b)
theorem m_lenSc {Pr : Program} {w : World} {f : Str} {j : Nat} (hj : j ≠ 0) (k : Me K O F0 te ρ fun x ρ1 => Frz x ρ1 fun d ρ2 => ∃ ds zs, d = .tup ds ∧ ds.length ≤ 1000 ∧ j < ρ2.length ∧ Paired (HasD K f) ds zs ∧ Q (.val (.int (setN zs : Int))) ρ2) : Me K O F0 (tCB (rLenSet Pr w) (tCons (tScK Pr w (iTup K te) (gName j) tYes (tFld K (tVar j) f) [j]) tNil)) ρ Q := fun F H σ Qh s R c =>
  k F H σ _ s R fun v H1 F1 x ρ1 s1 R1 r1 k1 => by
    obtain ⟨d, ρ2, F2, s2, R2, r2, ds, zs, rfl, hl, hjl, hp, q⟩ := frz_of R1 r1 k1
    obtain ⟨a, xs, rfl, ha, rx⟩ := r2.tupP
    have hz := paired_len hp
    refine ⟨a, rfl, ⟨xs, sqt_same R2.fh ha⟩, fun D hD => ?_⟩
    have RG : ∀ S m, RS K O F2 (upd H1 D (SetK Pr w D S m)) σ ρ2 := fun S m => R2.allocN hD
    have sq : ∀ S m, SqT K (upd H1 D (SetK Pr w D S m)) a xs := fun S m => sqt_same (RG S m).fh ha
    refine ⟨fun i m G => m = ds.length - i ∧ i ≤ ds.length ∧ G = upd H1 D (SetK Pr w D (setS (zs.take i)) (setN (zs.take i))), ⟨ds.length, rfl, Nat.zero_le _, rfl⟩, ?_⟩
    rintro i m G ⟨rfl, hi, rfl⟩
    by_cases hlt : i < ds.length
    · have hxl : i < xs.length := by rw [rx.length]; exact hlt
      refine .inr ⟨⟨xs, xs[i], sq _ _, List.getElem?_eq_getElem hxl⟩, fun G => G = upd H1 D (SetK Pr w D (setS (zs.take (i + 1))) (setN (zs.take (i + 1)))), fun G1 e => ⟨ds.length - (i + 1), by omega, rfl, hlt, e⟩, fun x G1 y => ?_⟩
      obtain ⟨rfl, y⟩ := y
      have hx := y xs (sq _ _)
      obtain ⟨dd, hd, rd⟩ := rx.at' hx
      obtain ⟨z, hz1, cn, fds, rfl, hf, hlk⟩ := paired_at hp hd
      obtain ⟨p, dx, fs, rfl, h1, h2⟩ := rd.objP
      obtain ⟨w2, e1, e2⟩ := h2.lookup hlk
      cases e2
      have jl : j < (L2.wipe σ [j]).length := by rw [wipe_length, R2.len]; exact hjl
      have ht : zs.take (i + 1) = zs.take i ++ [z] := by rw [List.take_add_one, hz1]; rfl
      refine ⟨?_, ?_⟩
      · rw [wipe_set (List.mem_singleton.mpr rfl), wipe_wipe]
      · refine ⟨.ref p, List.getElem?_set_self jl, p, _, dx, fs, .str z, rfl, (RG _ _).fh _ _ h1, hf.1, hf.2, e1, .inr z, _, _, rfl, upd_same, ?_, ?_⟩
        · have := setN_le (zs := zs.take i)
          rw [List.length_take] at this
          exact Nat.lt_of_le_of_lt (Nat.succ_le_succ (Nat.le_trans this (Nat.le_trans (Nat.min_le_right _ _) (by rw [← hz]; exact hl)))) (by decide)
        · rw [ht, setS_app, setN_app]
          exact L2.upd_upd
    · have e : i = ds.length := by omega
      subst e
      refine .inl ⟨⟨xs, sq _ _, by rw [rx.length]; exact Nat.le_refl _⟩, ?_⟩
      rw [show zs.take ds.length = zs by rw [hz, List.take_length]]
      exact ⟨D, _, _, rfl, upd_same, c _ _ F2 (.val (.int _)) ρ2 (Same.trans s1 s2) (RG _ _) (Rep.int _) q⟩
end
end SJ

/-! MRm: rows of texts, of truths compared. -/
namespace SJ
open PySem PySem.Spec PyProof.Rows L2 He
theorem pyOf_strs : ∀ zs : List Str, pyOfL (zs.map D.str) = some (zs.map PyData.str)
  | [] => by simp only [List.map_nil, pyOfL]
  | z :: zs => by simp only [List.map_cons, pyOfL, pyOf, pyOf_strs zs]
theorem pyOf_bls : ∀ zs : List Bool, pyOfL (zs.map D.bl) = some (zs.map PyData.bool)
  | [] => by simp only [List.map_nil, pyOfL]
  | z :: zs => by simp only [List.map_cons, pyOfL, pyOf, pyOf_bls zs]
theorem eqv_strs : ∀ zs ys : List Str, PyData.eqvAll (zs.map PyData.str) (ys.map PyData.str) = decide (zs = ys)
  | [], [] => by simp only [List.map_nil, PyData.eqvAll, decide_true]
  | [], y :: ys => by simp only [List.map_nil, List.map_cons, PyData.eqvAll]; rfl
  | z :: zs, [] => by simp only [List.map_nil, List.map_cons, PyData.eqvAll]; rfl
  | z :: zs, y :: ys => by
    simp only [List.map_cons, PyData.eqvAll, PyData.eqv, eqv_strs zs ys]
    by_cases h1 : z = y
    · by_cases h2 : zs = ys
      · rw [decide_eq_true h2, Bool.and_true, h1, beq_self_eq_true, h2, decide_eq_true rfl]
      · rw [decide_eq_false h2, Bool.and_false, decide_eq_false (fun e => h2 (List.cons.inj e).2)]
    · rw [beq_false_of_ne h1, Bool.false_and, decide_eq_false (fun e => h1 (List.cons.inj e).1)]
theorem eqv_blsL : ∀ zs ys : List Bool, PyData.eqvAll (zs.map PyData.bool) (ys.map PyData.bool) = decide (zs = ys)
  | [], [] => by simp only [List.map_nil, PyData.eqvAll, decide_true]
  | [], y :: ys => by simp only [List.map_nil, List.map_cons, PyData.eqvAll]; rfl
  | z :: zs, [] => by simp only [List.map_nil, List.map_cons, PyData.eqvAll]; rfl
  | z :: zs, y :: ys => by
    simp only [List.map_cons, PyData.eqvAll, PyData.eqv, eqv_blsL zs ys]
    by_cases h1 : z = y
    · by_cases h2 : zs = ys
      · rw [decide_eq_true h2, Bool.and_true, h1, beq_self_eq_true, h2, decide_eq_true rfl]
      · rw [decide_eq_false h2, Bool.and_false, decide_eq_false (fun e => h2 (List.cons.inj e).2)]
    · rw [beq_false_of_ne h1, Bool.false_and, decide_eq_false (fun e => h1 (List.cons.inj e).1)]
def TxtOk (zs : List Str) : Prop := ∀ z ∈ zs, PyData.strOk z = true
theorem sh_strsT {zs : List Str} (h : TxtOk zs) : SeqAt.shaped (.tuple (zs.map PyData.str)) = true := (Lay.tup (n := 0) fun d m => by obtain ⟨c, hc, rfl⟩ := List.mem_map.mp m; exact .str (h c hc)).sh (by omega)
theorem sh_strsL {zs : List Str} (h : TxtOk zs) : SeqAt.shaped (.list (zs.map PyData.str)) = true := (Lay.lst (n := 0) fun d m => by obtain ⟨c, hc, rfl⟩ := List.mem_map.mp m; exact .str (h c hc)).sh (by omega)
theorem sh_bls {zs : List Bool} : SeqAt.shaped (.list (zs.map PyData.bool)) = true := (Lay.lst (n := 0) fun d m => by obtain ⟨c, hc, rfl⟩ := List.mem_map.mp m; exact .bl).sh (by omega)
section
variable {K : PySem.W.Frag} {O : Oc} {F0 : Hp} {ρ : Ro} {Q : X → Ro → Prop} {x y : X} {zs ys : List Str} {bs cs : List Bool}
theorem r_neStrsT (hx : seeD x ρ = some (.tup (zs.map D.str))) (hy : seeD y ρ = some (.tup (ys.map D.str))) (h1 : TxtOk zs) (h2 : TxtOk ys) (k : Q (.val (.bl (!decide (zs = ys)))) ρ) : Mr K O F0 (rNeU K) x y ρ Q := by
  refine r_neD hx hy (by simp only [pyOf, pyOf_strs, Option.map_some]) (by simp only [pyOf, pyOf_strs, Option.map_some]) (sh_strsT h1) (sh_strsT h2) ?_
  have e : PyData.eqv (.tuple (zs.map PyData.str)) (.tuple (ys.map PyData.str)) = decide (zs = ys) := by simp only [PyData.eqv]; exact eqv_strs zs ys
  rw [e]; exact k
theorem r_neStrsL (hx : seeD x ρ = some (.lst (zs.map D.str))) (hy : seeD y ρ = some (.lst (ys.map D.str))) (h1 : TxtOk zs) (h2 : TxtOk ys) (k : Q (.val (.bl (!decide (zs = ys)))) ρ) : Mr K O F0 (rNeU K) x y ρ Q := by
  refine r_neD hx hy (by simp only [pyOf, pyOf_strs, Option.map_some]) (by simp only [pyOf, pyOf_strs, Option.map_some]) (sh_strsL h1) (sh_strsL h2) ?_
  have e : PyData.eqv (.list (zs.map PyData.str)) (.list (ys.map PyData.str)) = decide (zs = ys) := by simp only [PyData.eqv]; exact eqv_strs zs ys
  rw [e]; exact k
theorem r_neBls (hx : seeD x ρ = some (.lst (bs.map D.bl))) (hy : seeD y ρ = some (.lst (cs.map D.bl))) (k : Q (.val (.bl (!decide (bs = cs)))) ρ) : Mr K O F0 (rNeU K) x y ρ Q := by
  refine r_neD hx hy (by simp only [pyOf, pyOf_bls, Option.map_some]) (by simp only [pyOf, pyOf_bls, Option.map_some]) (sh_bls (zs := bs)) (sh_bls (zs := cs)) ?_
  have e : PyData.eqv (.list (bs.map PyData.bool)) (.list (cs.map PyData.bool)) = decide (bs = cs) := by simp only [PyData.eqv]; exact eqv_blsL bs cs
  rw [e]; exact k
end
end SJ

/-! MRn: fresh results, lists lent to a callee, the law's start. -/
namespace SJ
open PySem PySem.Spec PyProof.Rows L2 He LamX
section
variable {K : PySem.W.Frag} {O : Oc} {F0 F F1 F2 F3 H H1 H2 H3 : Hp} {σ σ2 : L2.St} {ρ ρ2 : Ro} {Q : X → Ro → Prop} {QT : Bool → Ro → Prop} {QA : List X → Ro → Prop} {QF : D → Ro → Prop} {ta tb te to : TE} {t u tt : TT} {tA tK : TA} {ts tz : TS} {r : R2} {N : Hn} {n : Nat} {x y : X} {d e : D} {g : TG} {wi : TI} {p q : Addr} {o o2 : HO} {vs : List V} {ds es : List D} {kds : List (Key × D)} {fds : List (Str × D)} {W : WX} {Xp : XP} {b c : Bool} {s z : Str} {cn : Str} {v : V}
/-! #### ends -/
theorem q_v {P : D → Ro → Prop} (k : P d ρ) : Frz (.val d) ρ P := k
theorem q_own {P : D → Ro → Prop} (e : sl ρ n = .own d) (k : P d (ρ.set n (.val d))) : Frz (.slot n) ρ P := by
  unfold Frz; simp only [e]; exact k
theorem q_n {PL : List D → Ro → Prop} (k : PL [] ρ) : FrzL [] ρ PL := k
theorem q_c {PL : List D → Ro → Prop} {xs : List X} (k : Frz x ρ fun d ρ2 => FrzL xs ρ2 fun ds ρ3 => PL (d :: ds) ρ3) : FrzL (x :: xs) ρ PL := k
theorem q_t {A B : Prop} (k : A) : if (true = true) then A else B := k
theorem q_f {A B : Prop} (k : B) : if (false = true) then A else B := k
theorem q_b {A B : Prop} {b : Bool} (k1 : b = true → A) (k2 : b = false → B) : if b = true then A else B := by
  cases b with
  | true => exact k1 rfl
  | false => exact k2 rfl
theorem q_bl {Pb : Bool → Prop} (k : Pb b) : ∃ c, X.val (.bl b) = X.val (.bl c) ∧ Pb c := ⟨b, rfl, k⟩
theorem q_int {Pb : Int → Prop} {i : Int} (k : Pb i) : ∃ c, X.val (.int i) = X.val (.int c) ∧ Pb c := ⟨i, rfl, k⟩
theorem q_lst {Pb : List D → Prop} (k : Pb ds) : ∃ c, D.lst ds = .lst c ∧ Pb c := ⟨ds, rfl, k⟩
theorem q_tup {Pb : List D → Prop} (k : Pb ds) : ∃ c, D.tup ds = .tup c ∧ Pb c := ⟨ds, rfl, k⟩
theorem m_yes (k : QT true ρ) : Mt K O F0 tYes ρ QT := fun F H σ Qh s R c => c true H F ρ (Same.refl _) R k
/-! #### fresh -/
theorem mf_own (e : sl ρ n = .own d) (k : QF d (ρ.set n .none)) : Mf K O F0 (tVar n) ρ QF := fun F H σ Qh s R c => by
  have m : (sl ρ n).mut = true := by rw [e]; rfl
  obtain ⟨p, a1, a2, a3, a4⟩ := R.owned m
  rw [e] at a4
  exact ⟨_, sv_some a1, c p H F d _ (Same.refl _) R.lose ⟨a2, a3, R.lost m a1, a4⟩ k⟩
theorem ms_retF (k : Mf K O F0 te ρ fun d ρ1 => N.rf d ρ1) : Ms K O F0 (tRet te) ρ N := fun F H σ E s R c =>
  k F H σ _ s R fun p H2 F2 d ρ2 s2 R2 nw q => c.rf F2 H2 σ ρ2 p d s2 R2 nw q
theorem Shl.held (h : Shl K F H p d) : ∃ o, H p = some o ∧ NX o := MutOk.nx (s := .own d) h
theorem Shl.mono (h : Shl K F H p d) (e : H2 p = H p) (g : Same F F2) : Shl K F2 H2 p d := MutOk.mono (s := .own d) h e g
/-- i, j = e, f: both fresh -/
theorem ms_parFF {i j : Nat} (hi : i ≠ 0) (hj : j ≠ 0) (hij : i ≠ j) (k : Mf K O F0 ta ρ fun d ρ1 => ∀ oo ww, Mf K ⟨oo, ww, O.T⟩ F0 tb ρ1 fun e ρ2 => i < ρ2.length ∧ j < ρ2.length ∧ N.nx ((ρ2.set i (.own d)).set j (.own e))) : Ms K O F0 (tPar i j (tCons ta (tCons tb tNil))) ρ N := fun F H σ E s R c =>
  k F H σ _ s R fun p H1 F1 d ρ1 s1 R1 nw k1 => by
    obtain ⟨n1, n2, n3, n4⟩ := nw
    obtain ⟨ho, h1, hx⟩ := n4.held
    have R1o := R1.out h1 hx n1 n3
    refine k1 _ _ F1 H1 σ _ (Same.trans s s1) R1o fun q H2 F2 e ρ2 s2 R2 nw2 ⟨l1, l2, qq⟩ => ?_
    obtain ⟨m1, m2, m3, m4⟩ := nw2
    obtain ⟨b1, b2, b3, b4⟩ := R2.back n2
    have qp : q ≠ p := fun z => by
      have m2 : upd O.o p ho q = none := m2
      rw [z, upd_same] at m2; cases m2
    have hq : O.o q = none := by
      have m2 : upd O.o p ho q = none := m2
      rw [upd_ne qp] at m2; exact m2
    have S1 : Shl K F2 H2 p d := n4.mono (by rw [b3, h1]) s2
    have R3 := b1.putO (n := i) (s := .own d) hi l1 rfl b2 n2 S1 fun i' _ m => b4 i' m
    have hx3 : ∀ i', i' ≠ j → (sl (ρ2.set i (.own d)) i').mut = true → sv (σ.set i (some (V.ref p))) i' ≠ some (.ref q) := fun i' _ m z => by
      have hil : i < σ.length := by rw [b1.len]; exact l1
      rw [sl_set l1] at m
      rw [sv_set hil] at z
      by_cases e : i' = i
      · rw [if_pos e] at z; cases z; exact qp rfl
      · rw [if_neg e] at m z; exact m3 i' m z
    have R4 := R3.putO (n := j) (s := .own e) hj (by rw [List.length_set]; exact l2) rfl m1 hq m4 hx3
    exact ⟨_, _, rfl, c.nx F2 H2 _ _ (Same.trans s1 s2) R4 qq⟩
/-- .. the first fresh, the second plain -/
theorem ms_parFV {i j : Nat} (hi : i ≠ 0) (hj : j ≠ 0) (hij : i ≠ j) (k : Mf K O F0 ta ρ fun d ρ1 => ∀ oo ww, Me K ⟨oo, ww, O.T⟩ F0 tb ρ1 fun y ρ2 => Frz y ρ2 fun e ρ3 => i < ρ3.length ∧ N.nx ((ρ3.set i (.own d)).set j (.val e))) : Ms K O F0 (tPar i j (tCons ta (tCons tb tNil))) ρ N := fun F H σ E s R c =>
  k F H σ _ s R fun p H1 F1 d ρ1 s1 R1 nw k1 => by
    obtain ⟨n1, n2, n3, n4⟩ := nw
    obtain ⟨ho, h1, hx⟩ := n4.held
    have R1o := R1.out h1 hx n1 n3
    refine k1 _ _ F1 H1 σ _ (Same.trans s s1) R1o fun w H2 F2 y ρ2 s2 R2 ry fz => ?_
    obtain ⟨e, ρ3, F3, s3, R3, re, l1, qq⟩ := frz_of R2 ry fz
    obtain ⟨b1, b2, b3, b4⟩ := R3.back n2
    have S1 : Shl K F3 H2 p d := n4.mono (by rw [b3, h1]) (Same.trans s2 s3)
    have R4 := b1.putO (n := i) (s := .own d) hi l1 rfl b2 n2 S1 fun i' _ m => b4 i' m
    exact ⟨_, _, rfl, c.nx F3 H2 _ _ (Same.trans s1 (Same.trans s2 s3)) (R4.put hj re) qq⟩
/-! #### promises whose result is new -/
def spN (K : PySem.W.Frag) (T : List (Addr × Str)) (M : Ro → (D → Ro → Prop) → Prop) : Sp := fun vs H Q _ => ∃ (O : Oc) (F : Hp) (ρ : Ro), O.T = T ∧ RS K O F H (vs.map some) ρ ∧
  M ρ fun d ρ2 => ∀ p H2 F2, Same F F2 → RS K O F2 H2 (vs.map some) ρ2 → Nw K O F2 H2 (vs.map some) ρ2 p d → Q (.ref p) H2
def ppN (P : PP1) : Ro → (D → Ro → Prop) → Prop := fun ρ Q => ∃ n ds Qd, ρ = .pen n :: ds.map Sl.val ∧ P n ds Qd ∧ ∀ d m, Qd d m → Q d (.pen m :: ds.map Sl.val)
theorem body_ppN {T : List (Addr × Str)} {P : PP1} {Nm : List Str} {ts : TS} {Qh : VK} {E : XK} (h : spN K T (ppN P) vs H Qh E)
    (k : ∀ (o : Hp) (w : Option V) (F0 : Hp) (m : Nat) (ds : List D) (Qd : D → Nat → Prop), P m ds Qd →
      Ms K ⟨o, w, T⟩ F0 ts ((Sl.pen m :: ds.map Sl.val) ++ List.replicate (Nm.length - (ds.length + 1)) .none) { nx := fun _ => False, rt := fun _ _ => False, rf := fun d ρ => ∃ j, sl ρ 0 = .pen j ∧ Qd d j }) : ts { nx := fun _ H2 => Qh .non H2, rt := Qh } (start Nm vs) H := by
  obtain ⟨O, F, ρ, rfl, R, m, ds, Qd, rfl, hp, q1⟩ := h
  have R1 := R.start (Nm := Nm)
  rw [List.length_cons, List.length_map] at R1
  obtain ⟨pa, hp0, _⟩ := R.owned (i := 0) rfl
  rw [sv_map] at hp0
  refine k O.o vs.head? F m ds Qd hp F H _ _ (Same.refl _) R1 ⟨(fun _ _ _ _ _ _ z => z.elim), (fun _ _ _ _ _ _ _ _ _ z => z.elim), (fun _ _ _ _ _ _ z => z.elim), (fun _ _ _ _ _ _ z => z.elim), fun F2 H2 σ2 ρ2 p d s2 C nw ⟨j, h0, q⟩ => ?_⟩
  have R3 := R.stopM C s2 (Same.refl _) rfl rfl
  rw [h0] at R3
  refine q1 d j q p H2 F2 s2 R3 ⟨nw.1, nw.2.1, fun i mi => ?_, nw.2.2.2⟩
  cases i with
  | zero =>
    have z := nw.2.2.1 0 (by rw [h0]; rfl)
    have w := C.w0 _ (by rw [List.head?_eq_getElem?]; exact hp0)
    rw [w] at z
    rw [sv_map, hp0]
    exact z
  | succ i =>
    have : sl (Sl.pen j :: ds.map Sl.val) (i + 1) = sl (ds.map Sl.val) i := rfl
    rw [this, vals_mut] at mi; cases mi
theorem len_ppN {T : List (Addr × Str)} {P : PP1} {Qh : VK} {E : XK} {n : Nat} (hn : ∀ m ds Q, P m ds Q → ds.length + 1 = n) (h : spN K T (ppN P) vs H Qh E) : vs.length = n := by
  obtain ⟨O, F, ρ, rfl, R, m, ds, Qd, rfl, hp, q1⟩ := h
  have := R.len
  rw [List.length_map, List.length_cons, List.length_map] at this
  rw [this, hn m ds Qd hp]
/-- what is new to the callee is new to the caller -/
theorem nw_after {f : Addr → Bool} (R : RS K O F H σ ρ) (hb : beside F H f q = none) (hF : F q = none) (hq : ∀ a, f a = true → tx (H a) = true ∨ a = p) (hqp : q ≠ p) : O.o q = none ∧ ∀ i, (sl ρ i).mut = true → sv σ i ≠ some (.ref q) := by
  have key : ∀ o, H q = some o → NX o → False := fun o ho hx => by
    have hf : f q = false := by
      cases e : f q with
      | false => rfl
      | true =>
        rcases hq q e with z | z
        · rw [ho] at z
          cases o <;> first | (cases z; done) | exact absurd rfl (hx.1 _) | exact absurd rfl (hx.2 _)
        · exact absurd z hqp
    rw [beside_of hF hf ho] at hb; cases hb
  refine ⟨?_, fun i m e => ?_⟩
  · cases e : O.o q with
    | none => rfl
    | some o => exact (key o (R.oh _ _ e) (R.ot _ _ e)).elim
  · obtain ⟨a, h1, _, _, h4⟩ := R.owned m
    rw [e] at h1
    cases h1
    obtain ⟨o, ho, hx⟩ := h4.nx
    exact key o ho hx
theorem mf_fnPN {i : Nat} {P : PP1} (k : Ma K O F0 tA ρ fun xs ρ1 => FrzL xs ρ1 fun ds ρ2 => ∃ n, sl ρ2 i = .pen n ∧ P n ds fun d m => QF d (ρ2.set i (.pen m))) (e : (sl ρ i).mut = true) : Mf K O F0 (tFn (spN K O.T (ppN P)) [] W (tCons (tVar i) tA)) ρ QF := fun F H σ Qh s R c => by
  obtain ⟨p, a1, _⟩ := R.owned e
  refine ⟨_, sv_some a1, ?_⟩
  refine k F H σ _ s R fun vs H1 F1 xs ρ1 s1 R1 r1 k1 => ?_
  obtain ⟨ds, ρ2, F2, s2, R2, r2, n, en, q⟩ := frzL_of R1 r1 k1
  rw [List.append_nil]
  have m : (sl ρ2 i).mut = true := by rw [en]; rfl
  obtain ⟨p2, h1, h2, h3, h4⟩ := R2.owned m
  rw [a1] at h1
  cases h1
  rw [en] at h4
  have hi : i < ρ2.length := by
    by_cases z : i < ρ2.length
    · exact z
    · rw [sl_none (by omega)] at m; cases m
  have R3 := R2.lose (i := i)
  have hx := R2.lost m a1
  refine ⟨⟨beside F2 H1 fun a => tx (H1 a) || decide (a = p), none, O.T⟩, F2, _, rfl, R2.enterM r2 rfl h2 h4, n, ds, _, rfl, q, fun d m2 qd pq H4 F4 s4 C nw => ?_⟩
  obtain ⟨R4, z⟩ := R3.afterM (O := O) C s4 h3 hx
  obtain ⟨z1, z2⟩ := z rfl
  have R5 := R4.regain hi a1 (s := .pen m2) rfl z1 h3 z2 hx
  have hqp : pq ≠ p := fun z => nw.2.2.1 0 rfl (by rw [z]; rfl)
  obtain ⟨y1, y2⟩ := nw_after (p := p) (f := fun a => tx (H1 a) || decide (a = p)) R2 nw.2.1 (Same.free s4 nw.1) (fun a ha => by
    cases h : tx (H1 a) with
    | true => exact .inl rfl
    | false =>
      have ha : (tx (H1 a) || decide (a = p)) = true := ha
      rw [h, Bool.false_or] at ha; exact .inr (of_decide_eq_true ha)) hqp
  refine c pq H4 F4 d _ (Same.trans s1 (Same.trans s2 s4)) R5 ⟨nw.1, y1, fun j mj => ?_, nw.2.2.2⟩ qd
  rw [sl_set hi] at mj
  by_cases ej : j = i
  · rw [ej, a1]; exact fun z => hqp (by cases z; rfl)
  · rw [if_neg ej] at mj; exact y2 j mj
/-! #### a list lent to a callee whose result has no lists in it -/
mutual
def noL : D → Bool
  | .lst _ => false
  | .tup ds => noLL ds
  | .dct kvs => noLK kvs
  | .obj _ fs => noLF fs
  | .exc _ _ => false
  | .adr _ => false
  | _ => true
def noLL : List D → Bool
  | [] => true
  | d :: ds => noL d && noLL ds
def noLF : List (Str × D) → Bool
  | [] => true
  | (_, d) :: ds => noL d && noLF ds
def noLK : List (Key × D) → Bool
  | [] => true
  | (_, d) :: ds => noL d && noLK ds
end
theorem noLF_map : ∀ {fs : List (Str × D)}, noLF fs = noLL (fs.map (·.2))
  | [] => by simp only [noLF, noLL, List.map_nil]
  | (f, d) :: fs => by simp only [noLF, noLL, List.map_cons, noLF_map]
theorem noLK_map : ∀ {fs : List (Key × D)}, noLK fs = noLL (fs.map (·.2))
  | [] => by simp only [noLK, noLL, List.map_nil]
  | (f, d) :: fs => by simp only [noLK, noLL, List.map_cons, noLK_map]
theorem noLL_all {ds : List D} (h : ∀ d ∈ ds, noL d = true) : noLL ds = true := by
  induction ds with
  | nil => simp only [noLL]
  | cons d ds ih => simp only [noLL, h d (List.mem_cons_self ..), ih fun e m => h e (List.mem_cons_of_mem _ m), Bool.and_self]
def OffL (F F2 : Hp) (q : Addr) : Prop := (∀ a o, a ≠ q → F a = some o → F2 a = some o) ∧ ∃ xs, F q = some (.lst xs)
theorem OffL.ne {o : HO} {a : Addr} (h : OffL F F2 q) (e : F a = some o) (h1 : ∀ xs, o ≠ .lst xs) : F2 a = some o := h.1 a o (fun z => by
  subst z
  obtain ⟨xs, g⟩ := h.2
  rw [g] at e; exact h1 xs (Option.some.inj e).symm) e
theorem OffL.sqt {a : Addr} {xs : List V} (h : OffL F F2 q) (e : SqT K F a xs) : SqT K F2 a xs := by
  rcases e with (e | ⟨o, e⟩) | e
  · exact .inl (.inl (h.ne e (fun _ z => nomatch z)))
  · exact .inl (.inr ⟨o, h.ne e (fun _ z => nomatch z)⟩)
  · exact .inr e
mutual
theorem Rep.offL (s : OffL F F2 q) : ∀ {v : V} {d : D}, Rep K F v d → noL d = true → Rep K F2 v d
  | _, _, .non, _ => .non
  | _, _, .bl b, _ => .bl b
  | _, _, .int i, _ => .int i
  | _, _, .str z, _ => .str z
  | _, _, .cls z, _ => .cls z
  | _, _, .ty z, _ => .ty z
  | _, .adr _, .adr z, e => by simp only [noL] at e; cases e
  | _, .lst ds, .lst h a, e => by simp only [noL] at e; cases e
  | _, .tup ds, .tup h a, e => .tup (s.sqt h) (RepL.offL s a (by simpa only [noL] using e))
  | _, .dct kds, .dct h z a, e => .dct (s.ne h (fun _ z => nomatch z)) z (RepL.offL s a (by rw [← noLK_map]; simpa only [noL] using e))
  | _, .obj c fs, .obj h z a, e => .obj (s.ne h (fun _ z => nomatch z)) z (RepL.offL s a (by rw [← noLF_map]; simpa only [noL] using e))
  | _, .exc c fs, .exc _ _ _ _, e => by simp only [noL] at e; cases e
theorem RepL.offL (s : OffL F F2 q) : ∀ {vs : List V} {ds : List D}, RepL K F vs ds → noLL ds = true → RepL K F2 vs ds
  | _, _, .nil, _ => .nil
  | _, _, .cons h a, e => .cons (Rep.offL s h (by simp only [noLL, Bool.and_eq_true] at e; exact e.1)) (RepL.offL s a (by simp only [noLL, Bool.and_eq_true] at e; exact e.2))
end
theorem call_puB {P : PD} {Qh : VK} {Qd : D → Prop} {xs : List V} {E : XK} (R : RS K O F H σ ρ) (hp : H p = some (.lst xs)) (hF : F p = none) (rv : RepL K (upd F p (.lst xs)) vs ds) (h : P ds Qd fun _ _ => False)
    (hq : ∀ d, Qd d → noL d = true ∧ ∀ v H2 F2, Same F F2 → RS K O F2 H2 σ ρ → Rep K F2 v d → Qh v H2) : spS K O.T (pu P) vs H Qh E := by
  have g0 : Same F (upd F p (.lst xs)) := Same.upd (Same.refl _) hF
  have R0 : RS K ⟨fun _ => none, none, O.T⟩ (upd F p (.lst xs)) H [] [] := by
    refine ⟨fun a o e => ?_, (fun a o e => nomatch (show (none : Option HO) = some o from e)), (fun a o e => nomatch (show (none : Option HO) = some o from e)), R.tb, (fun a o e => nomatch (show (none : Option HO) = some o from e)), ft_upd R nx_lst, (fun v e => nomatch e), rfl, fun i => ?_, fun i j a ij mi => ?_⟩
    · by_cases z : a = p
      · rw [z, upd_same] at e; rw [z, hp]; exact e
      · rw [upd_ne z] at e; exact R.fh _ _ e
    · have : sl ([] : Ro) i = .none := by unfold sl; rw [List.getElem?_nil]; rfl
      rw [this]; trivial
    · have : sl ([] : Ro) i = .none := by unfold sl; rw [List.getElem?_nil]; rfl
      rw [this] at mi; cases mi
  refine ⟨⟨beside (upd F p (.lst xs)) H fun a => tx (H a), none, O.T⟩, upd F p (.lst xs), _, rfl, R0.enter rv, ds, Qd, fun _ _ => False, rfl, h, fun d qd v H2 F2 s2 C r => ?_, fun _ _ z => z.elim⟩
  obtain ⟨nl, fin⟩ := hq d qd
  have e2 : F2 p = some (.lst xs) := s2 _ _ upd_same
  have OL : OffL F2 (L2.del F2 p) p := ⟨fun a o ha e => by rw [del_ne ha]; exact e, xs, e2⟩
  have s3 : Same F (L2.del F2 p) := fun a o e => by
    have : a ≠ p := ne_of_none e hF
    rw [del_ne this]
    exact s2 _ _ (by rw [upd_ne this]; exact e)
  refine fin v H2 (L2.del F2 p) s3 ?_ (Rep.offL OL r nl)
  have C2 : RS K ⟨upd (beside (upd F p (.lst xs)) H fun a => tx (H a)) p (.lst xs), none, O.T⟩ (L2.del F2 p) H2 [] [] := by
    refine ⟨fun a o e => C.fh _ _ (del_sub e), fun a o (e : upd _ p _ a = some o) => ?_, fun a o (e : upd _ p _ a = some o) => ?_, C.tb, ot_upd C.ot nx_lst, fun a o e => C.ft a o (del_sub e), (fun v e => nomatch e), rfl, fun i => ?_, fun i j a ij mi => ?_⟩
    · by_cases z : a = p
      · rw [z, upd_same] at e; rw [z, ← e]; exact C.fh _ _ e2
      · rw [upd_ne z] at e; exact C.oh _ _ e
    · by_cases z : a = p
      · rw [z]; exact del_same
      · rw [upd_ne z] at e; rw [del_ne z]; exact C.dj _ _ e
    · have : sl ([] : Ro) i = .none := by unfold sl; rw [List.getElem?_nil]; rfl
      rw [this]; trivial
    · have : sl ([] : Ro) i = .none := by unfold sl; rw [List.getElem?_nil]; rfl
      rw [this] at mi; cases mi
  refine R.after_ (q := fun a => tx (H a)) C2 s3 (fun a o e => ?_) rfl fun a e => .inr ⟨(tx_no R e).1, (tx_no R e).2.2⟩
  obtain ⟨f1, f2, f3⟩ := beside_some e
  by_cases z : a = p
  · rw [z] at f3 ⊢; rw [hp] at f3; show upd _ p _ p = _; rw [upd_same]; exact f3
  · show upd _ p _ a = _
    rw [upd_ne z]
    exact beside_of (by rw [upd_ne z]; exact f1) f2 f3
/-- C.m(k = xs, ..) with xs owned, and owned behind it -/
theorem m_cmKB {P : PD} {C : Str} {l i : Nat} {ix : List Nat} {ms : List V} (md : List D) (hm : ∀ F, RepL K F ms md)
    (h0 : (sl ρ i).mut = true) (k : Me K O F0 to ρ fun x ρ1 => x = .val (.cls C) ∧ (sl ρ1 i).mut = true ∧ Ma K O F0 tK ρ1 fun zs ρ3 => FrzL zs ρ3 fun ds ρ4 => ∃ es, sl ρ4 i = .own (.lst es) ∧ ds.length + 1 = l ∧ P (pickL ix [.cls C] md (.lst es :: ds)) (fun d => noL d = true ∧ Q (.val d) ρ4) fun _ _ => False) :
    Me K O F0 (tCmK (ga K C) 0 l (spS K O.T (pu P)) (fun vs zs => pickL ix vs ms zs) W to tNil (tCons (tVar i) tK)) ρ Q := fun F H σ Qh s R c =>
  k F H σ _ s R fun v0 H0 F0' x ρ0 s0 R0 r0 ⟨ex, hm0, k0⟩ => by
    subst ex
    obtain ⟨p, a1, _⟩ := R0.owned hm0
    refine ⟨rep_cls r0, _, sv_some a1, k0 F0' H0 σ _ (Same.trans s s0) R0 fun ws H2 F2 zs ρ2 s2 R2 r2 k2 => ?_⟩
    obtain ⟨ds, ρ3, F3, s3, R3, r3, es, e3, l2, q⟩ := frzL_of R2 r2 k2
    have m : (sl ρ3 i).mut = true := by rw [e3]; rfl
    obtain ⟨p2, h1, h2, h3, h4⟩ := R3.owned m
    rw [a1] at h1
    cases h1
    rw [e3] at h4
    obtain ⟨xs, h4, h5⟩ := h4
    have g0 : Same F3 (upd F3 p (.lst xs)) := Same.upd (Same.refl _) h2
    refine ⟨rfl, by rw [List.length_cons, r3.length, l2], ?_⟩
    have rp : RepL K (upd F3 p (.lst xs)) (V.ref p :: ws) (.lst es :: ds) := .cons (.lst upd_same (h5.mono g0)) (r3.mono g0)
    exact call_puB R3 h4 h2 (RepL.pick (.cons (.cls C) .nil) (hm _) rp) q fun d qd => ⟨qd.1, fun v H4 F4 s4 R4 r5 => c v H4 F4 (.val d) ρ3 (Same.trans s0 (Same.trans s2 (Same.trans s3 s4))) R4 r5 qd.2⟩
/-! #### class constants; the law's start -/
theorem m_cval {C f : Str} {w : V} (hc : ClX.CRead K (ga K C) (.type "type") ∧ ∃ u, ClX.CVal K (ga K C) (.type "type") f w u) (hd : ∀ F, Rep K F w d) (k : Me K O F0 te ρ fun x ρ1 => x = .val (.cls C) ∧ Q (.val d) ρ1) : Me K O F0 (ClX.tCVal K te f) ρ Q := fun F H σ Qh s R c =>
  k F H σ _ s R fun v0 H0 F1 x ρ0 s0 R0 r0 ⟨ex, q⟩ => by
    subst ex
    obtain ⟨h1, u, h2⟩ := hc
    exact ⟨_, _, _, u, rep_cls r0, h1, h2, c _ H0 F1 (.val d) ρ0 s0 R0 (hd _) q⟩
def spLaw (K : PySem.W.Frag) (T : List (Addr × Str)) : Sp := fun vs H Q _ => ∃ (a : Addr) (ns : List Int), vs = [.ref a] ∧ SqL K H a (ns.map V.int) ∧ ns.length ≤ 63 ∧ Tabs T H ∧ ∀ H2, Q (.bl true) H2
theorem len_law {T : List (Addr × Str)} {Q : VK} {E : XK} (h : spLaw K T vs H Q E) : vs.length = 1 := by obtain ⟨a, ns, rfl, _⟩ := h; rfl
theorem body_law {T : List (Addr × Str)} {Nm : List Str} {Qh : VK} {E : XK} (h : spLaw K T vs H Qh E) (hN : 2 ≤ Nm.length)
    (k : ∀ (o : Hp) (w : Option V) (F0 : Hp), Ms K ⟨o, w, T⟩ F0 ts (.none :: .pen 0 :: List.replicate (Nm.length - 2) .none) { nx := fun _ => False, rt := fun d _ => d = .bl true }) :
    tSeq (tAsg (tFn (spPen K) [] W0 (tCons (tVar 0) tNil)) (gName 1)) ts { nx := fun _ H2 => Qh .non H2, rt := Qh } (start Nm vs) H := by
  obtain ⟨a, ns, rfl, hS, hl, hT, hQ⟩ := h
  refine ⟨.ref a, rfl, a, ns, rfl, hS, hl, fun P H2 hP sH pen => ?_⟩
  have hc := pen.cell
  have hcp : P.c ≠ P.p := del_ne_of hc
  have hc2 : H2 P.c = some (.lst (P.ns.map V.int)) := del_sub hc
  let F : Hp := fun b => if b = P.c then some (.lst (P.ns.map V.int)) else none
  have Fc : F P.c = some (.lst (P.ns.map V.int)) := if_pos rfl
  have Fs : ∀ b o, F b = some o → b = P.c ∧ o = .lst (P.ns.map V.int) := fun b o e => by
    by_cases z : b = P.c
    · subst z; rw [Fc] at e; exact ⟨rfl, (Option.some.inj e).symm⟩
    · have : F b = none := if_neg z
      rw [this] at e; cases e
  have es : ∀ i, sv ((start Nm [V.ref a]).set 1 (some (V.ref P.p))) i = if i = 1 then some (.ref P.p) else if i = 0 then some (.ref a) else none := fun i => by
    rw [sv_set (by unfold L2.start; rw [List.length_append, List.length_map, List.length_replicate]; simp only [List.length_cons, List.length_nil]; omega)]
    by_cases h1 : i = 1
    · rw [if_pos h1, if_pos h1]
    · rw [if_neg h1, if_neg h1]
      unfold sv L2.start
      cases i with
      | zero => rfl
      | succ i =>
        rw [if_neg (by omega)]
        show ((List.replicate _ none)[i]?).getD none = none
        rw [List.getElem?_replicate]
        split <;> rfl
  have el : ∀ i, sl (Sl.none :: Sl.pen 0 :: List.replicate (Nm.length - 2) Sl.none) i = if i = 1 then .pen 0 else .none := fun i => by
    match i with
    | 0 => rfl
    | 1 => rfl
    | i + 2 =>
      rw [if_neg (by omega)]
      show ((List.replicate _ Sl.none)[i]?).getD .none = .none
      rw [List.getElem?_replicate]
      split <;> rfl
  refine k (fun _ => none) none F F H2 _ _ (Same.refl _) ?_ ⟨(fun _ _ _ _ _ _ z => z.elim), (fun F3 H3 σ3 ρ3 v d s3 R3 r3 z => ?_), (fun _ _ _ _ _ _ z => z.elim), (fun _ _ _ _ _ _ z => z.elim), (fun _ _ _ _ _ _ _ _ _ z => z.elim)⟩
  · refine ⟨fun b o e => ?_, (fun b o e => nomatch (show (none : Option HO) = some o from e)), (fun b o e => nomatch (show (none : Option HO) = some o from e)), Tabs.ext hT sH, (fun b o e => nomatch (show (none : Option HO) = some o from e)), fun b o e ps => ?_, (fun v e => nomatch (show (none : Option V) = some v from e)), ?_, fun i => ?_, fun i j p ij mi mj => ?_⟩
    · obtain ⟨rfl, rfl⟩ := Fs b o e; exact hc2
    · obtain ⟨_, rfl⟩ := Fs b o e; exact fun z => nomatch z
    · rw [List.length_set]; unfold L2.start; rw [List.length_append, List.length_map, List.length_replicate]; simp only [List.length_cons, List.length_nil, List.length_replicate]; omega
    · rw [es, el]
      by_cases h1 : i = 1
      · rw [if_pos h1, if_pos h1]
        obtain ⟨x, y, z1, z2, z3, z4, z5, z6⟩ := pen
        exact ⟨P.p, rfl, if_neg (Ne.symm hcp), rfl, P, rfl, Fc, x, y, z1, z3, z4, z5, z6⟩
      · rw [if_neg h1]
        rw [if_neg h1]
        trivial
    · rw [el] at mi mj
      by_cases h1 : i = 1
      · by_cases h2 : j = 1
        · exact absurd (h1.trans h2.symm) ij
        · rw [if_neg h2] at mj; cases mj
      · rw [if_neg h1] at mi; cases mi
  · subst z
    cases r3
    exact hQ H3
end
end SJ

/-! MRo: texts in order, steps, dict displays, a dict of two lists that grow. -/
namespace SJ
open PySem PySem.Spec PyProof.Rows L2 He LamX
/-! #### texts in order -/
theorem ltCps_lt : ∀ x y : List Nat, ltCps x y = decide (x < y)
  | [], [] => by simp [ltCps]
  | [], _ :: _ => by simp [ltCps]
  | _ :: _, [] => by simp [ltCps]
  | a :: r, b :: t => by
    by_cases h1 : a < b <;> by_cases h2 : a = b <;> by_cases h3 : r < t <;> simp [ltCps, ltCps_lt r t, List.cons_lt_cons_iff, h1, h2, h3]
def leS (a b : Str) : Prop := a.cps.toList ≤ b.cps.toList
theorem leS_trans {a b c : Str} (h : leS a b) (g : leS b c) : leS a c := List.le_trans h g
theorem str_eq {x y : Str} (h : x.cps.toList = y.cps.toList) : x = y := by
  have hc : x.cps = y.cps := Array.toList_inj.mp h
  cases x
  cases y
  simp only [Str.mk.injEq]
  exact hc
theorem leS_anti {a b : Str} (h : leS a b) (g : leS b a) : a = b := str_eq (List.le_antisymm h g)
theorem rising_pw : ∀ (p : Str) (l : List Str), risingS p l = true → (p :: l).Pairwise leS
  | p, [], _ => List.pairwise_cons.mpr ⟨(fun _ h => nomatch h), List.Pairwise.nil⟩
  | p, x :: r, h => by
    obtain ⟨h1, h2⟩ := Bool.and_eq_true_iff.mp (show (!ltCps x.cps.toList p.cps.toList && risingS x r) = true from h)
    have px : leS p x := by
      rw [ltCps_lt] at h1
      unfold leS
      have h3 : ¬ x.cps.toList < p.cps.toList := fun q => by rw [decide_eq_true q] at h1; cases h1
      exact List.not_lt.mp h3
    have ih := rising_pw x r h2
    refine List.pairwise_cons.mpr ⟨fun y hy => ?_, ih⟩
    rcases List.mem_cons.mp hy with rfl | hy
    · exact px
    · exact leS_trans px ((List.pairwise_cons.mp ih).1 y hy)
theorem sorted_pw : ∀ {l : List Str}, sortedS l = true → l.Pairwise leS
  | [], _ => List.Pairwise.nil
  | x :: r, h => rising_pw x r h
theorem pw_unique {xs ys : List Str} (h : xs.Perm ys) (h1 : xs.Pairwise leS) (h2 : ys.Pairwise leS) : xs = ys := List.Perm.eq_of_pairwise (fun a b _ _ p q => leS_anti p q) h1 h2 h
theorem srt_unique {xs ys : List Str} (h : xs.Perm ys) (h1 : sortedS xs = true) (h2 : sortedS ys = true) : xs = ys := pw_unique h (sorted_pw h1) (sorted_pw h2)
theorem pw_msort {α : Type} (k : α → Str) (l : List α) : (l.mergeSort (PySem.W.dataLe false fun q => PyData.str (k q))).Pairwise fun a b => leS (k a) (k b) := by
  rw [PySem.W.dataLe_str]
  have h := List.pairwise_mergeSort (le := fun a b : α => decide ((k a).cps.toList ≤ (k b).cps.toList)) (fun a b c p q => decide_eq_true (List.le_trans (of_decide_eq_true p) (of_decide_eq_true q))) (fun a b => by
    rcases List.le_total (k a).cps.toList (k b).cps.toList with q | q
    · rw [decide_eq_true q, Bool.true_or]
    · rw [decide_eq_true q, Bool.or_true]) l
  exact h.imp fun q => of_decide_eq_true q
section
variable {K : PySem.W.Frag} {O : Oc} {F0 F F1 F2 F3 H H1 H2 H3 : Hp} {σ σ2 : L2.St} {ρ ρ2 : Ro} {Q : X → Ro → Prop} {QT : Bool → Ro → Prop} {QA : List X → Ro → Prop} {QF : D → Ro → Prop} {ta tb te to : TE} {t u tt : TT} {tA tK : TA} {ts tz : TS} {r : R2} {N : Hn} {n : Nat} {x y : X} {d e : D} {g : TG} {wi : TI} {p q : Addr} {o o2 : HO} {vs : List V} {ds es : List D} {kds : List (Key × D)} {fds : List (Str × D)} {W : WX} {Xp : XP} {b c : Bool} {s z : Str} {cn : Str} {v : V}
/-! #### guards: what a step is meant for -/
theorem s_asg (k : Me K O F0 te ρ fun x ρ1 => Frz x ρ1 fun d ρ2 => N.nx (ρ2.set (n + 1) (.val d))) : Ms K O F0 (tAsg te (gName (n + 1))) ρ N := ms_asg k (Nat.succ_ne_zero n)
theorem s_asgF (k : Mf K O F0 te ρ fun d ρ1 => n + 1 < ρ1.length ∧ N.nx (ρ1.set (n + 1) (.own d))) : Ms K O F0 (tAsg te (gName (n + 1))) ρ N := ms_asgF k (Nat.succ_ne_zero n)
theorem g_var (k : Me K O F0 (tVar n) ρ Q) : Me K O F0 (tVar n) ρ Q := k
theorem g_fn {sp : Sp} {dv : List V} (k : Me K O F0 (tFn sp dv W tA) ρ Q) : Me K O F0 (tFn sp dv W tA) ρ Q := k
theorem g_nw {sp : Sp} {a : Addr} {dv : List V} (k : Me K O F0 (tNw a sp dv W tA) ρ Q) : Me K O F0 (tNw a sp dv W tA) ρ Q := k
theorem g_app {i : Nat} (k : Ms K O F0 (tDrop (tBM K "list" rAppend (tVar i) (tCons te tNil))) ρ N) : Ms K O F0 (tDrop (tBM K "list" rAppend (tVar i) (tCons te tNil))) ρ N := k
theorem g_pop {i : Nat} (k : Me K O F0 (tBM K "list" rPopAt (tVar i) (tCons te tNil)) ρ Q) : Me K O F0 (tBM K "list" rPopAt (tVar i) (tCons te tNil)) ρ Q := k
theorem g_fld {f : Str} {c : Str} {P : D → Prop} (k : ∃ c fds e, seeD x ρ = some (.obj c fds) ∧ FdOk K c f ∧ fds.lookup f = some e ∧ P e) : ∃ c fds e, seeD x ρ = some (.obj c fds) ∧ FdOk K c f ∧ fds.lookup f = some e ∧ P e := k
theorem g_slot {P : D → Ro → Prop} (k : Frz (.slot n) ρ P) : Frz (.slot n) ρ P := k
/-! #### O told otherwise -/
theorem RS.turnG (R : RS K O F H σ ρ) (h : O.o p = some o) (hnx : NX o2) : RS K { O with o := upd O.o p o2 } F (upd H p o2) σ ρ := by
  have e : O = { O with o := upd O.o p o } := by
    have : O.o = upd O.o p o := by
      funext a
      by_cases z : a = p
      · rw [z, h, upd_same]
      · rw [upd_ne z]
    cases O
    simp only at this ⊢
    rw [← this]
  have R2 := R
  rw [e] at R2
  have R3 := R2.turn (o2 := o2) hnx
  have e2 : upd (upd O.o p o) p o2 = upd O.o p o2 := by
    funext a
    by_cases z : a = p
    · rw [z, upd_same, upd_same]
    · rw [upd_ne z, upd_ne z, upd_ne z]
  exact R3
theorem RS.nobody (R : RS K O F H σ ρ) (h : O.o p = some o) : ∀ i, (sl ρ i).mut = true → sv σ i ≠ some (.ref p) := fun i m e => by
  obtain ⟨a, h1, h2, h3, h4⟩ := R.owned m
  rw [h1] at e
  cases e
  rw [h] at h3; cases h3
theorem set_held {j : Nat} (h : sv σ j = some v) : σ.set j (some v) = σ := by
  have e := sv_some h
  apply List.ext_getElem?
  intro i
  by_cases z : i = j
  · subst z
    have hl : i < σ.length := (List.getElem?_eq_some_iff.mp e).1
    rw [List.getElem?_set_self hl, e]
  · rw [List.getElem?_set_ne (Ne.symm z)]
/-! #### dict displays with texts for keys -/
def MpK (K : PySem.W.Frag) (O : Oc) (F0 : Hp) : List (Str × TE) → Ro → (List (Key × D) → Ro → Prop) → Prop
  | [], ρ, Q => Q [] ρ
  | (k, te) :: r, ρ, Q => Me K O F0 te ρ fun x ρ1 => Frz x ρ1 fun d ρ2 => MpK K O F0 r ρ2 fun kds ρ3 => Q ((.inr k, d) :: kds) ρ3
theorem pairs_of {trs : List (Str × TE)} {QP : List (Key × D) → Ro → Prop} (k : MpK K O F0 trs ρ QP) (s : Same F0 F) (R : RS K O F H σ ρ) {Qh : List (V × V) → Hp → Prop}
    (c : ∀ kvs H2 F2 kds ρ2, Same F F2 → RS K O F2 H2 σ ρ2 → RepP K F2 kvs kds → QP kds ρ2 → Qh (kvs.map fun kv => (kV kv.1, kv.2)) H2) : tPairs (trs.map fun q => (tC (.str q.1), q.2)) σ H Qh := by
  induction trs generalizing F H ρ QP Qh with
  | nil => exact c [] H F [] ρ (Same.refl _) R RepP.nil k
  | cons q trs ih =>
    obtain ⟨kk, te⟩ := q
    show tC (.str kk) σ H fun x H1 => te σ H1 fun y H2 => tPairs (trs.map fun q => (tC (.str q.1), q.2)) σ H2 fun ps H3 => Qh ((x, y) :: ps) H3
    show te σ H fun y H2 => tPairs (trs.map fun q => (tC (.str q.1), q.2)) σ H2 fun ps H3 => Qh ((.str kk, y) :: ps) H3
    refine k F H σ _ s R fun v H1 F1 x ρ1 s1 R1 r1 k1 => ?_
    obtain ⟨d, ρ2, F2, s2, R2, r2, q⟩ := frz_of R1 r1 k1
    refine ih q (Same.trans s (Same.trans s1 s2)) R2 fun kvs H3 F3 kds ρ3 s3 R3 r3 qq => ?_
    exact c ((.inr kk, v) :: kvs) H3 F3 ((.inr kk, d) :: kds) ρ3 (Same.trans s1 (Same.trans s2 s3)) R3 (RepP.cons (r2.mono s3) r3) qq
theorem mergeK_new : ∀ {more kvs : List (Key × V)}, ((kvs ++ more).map (·.1)).Nodup → mergeK kvs more = kvs ++ more
  | [], kvs, _ => by rw [List.append_nil]; rfl
  | m :: more, kvs, h => by
    have e : putK kvs m.1 m.2 = kvs ++ [m] := by
      have hn : ∀ kv ∈ kvs, kv.1 ≠ m.1 := fun kv hk z => by
        rw [List.map_append, List.nodup_append] at h
        exact h.2.2 kv.1 (List.mem_map.mpr ⟨kv, hk, rfl⟩) m.1 (by rw [List.map_cons]; exact List.mem_cons_self ..) z
      unfold putK
      rw [if_neg]
      intro z
      obtain ⟨kv, hk, e⟩ := List.any_eq_true.mp z
      exact hn kv hk (by simpa using e)
    show mergeK (putK kvs m.1 m.2) more = _
    rw [e, mergeK_new (by rw [List.append_assoc]; exact h), List.append_assoc]
    rfl
theorem mf_disp {trs : List (Str × TE)} (k : ∀ oo ww, MpK K ⟨oo, ww, O.T⟩ F0 trs ρ fun kds ρ1 => kds.length ≤ 15 ∧ (kds.map (·.1)).Nodup ∧ QF (.dct kds) ρ1) : Mf K O F0 (tDisp (trs.map fun q => (tC (.str q.1), q.2))) ρ QF := fun F H σ Qh s R c p hp => by
  have R0 : RS K { O with o := upd O.o p (.dK []) } F (upd H p (.dK [])) σ ρ := (R.allocN hp).out upd_same nx_dK (R.free hp).1 (R.no_new hp)
  refine pairs_of (k (upd O.o p (.dK [])) O.w) s R0 fun kvs H2 F2 kds ρ2 s2 R2 r2 ⟨h1, h2, q⟩ => ?_
  have hOp := (R.free hp).2
  refine ⟨R2.oh p _ upd_same, kvs, rfl, by rw [r2.length]; exact h1, ?_⟩
  have em : mergeK [] kvs = kvs := mergeK_new (kvs := []) (by rw [List.nil_append, r2.1]; exact h2)
  rw [em]
  have R3 := (R2.turn (o2 := .dK kvs) nx_dK).back hOp
  exact c p _ F2 (.dct kds) ρ2 s2 R3.1 ⟨R3.2.1, hOp, R3.2.2.2, kvs, upd_same, r2⟩ q
theorem ms_dput {j : Nat} {kk : Str} (k : Me K O F0 te ρ fun x ρ1 => Frz x ρ1 fun d ρ2 => ∃ kds, sl ρ2 j = .own (.dct kds) ∧ kds.length ≤ 10000 ∧ N.nx (ρ2.set j (.own (.dct (putKD kds (.inr kk) d))))) : Ms K O F0 (sDPut (tVar j) (tC (.str kk)) te) ρ N := fun F H σ E s R c =>
  k F H σ _ s R fun v H1 F1 x ρ1 s1 R1 r1 k1 => by
    obtain ⟨d, ρ2, F2, s2, R2, r2, kds, hj, hl, q⟩ := frz_of R1 r1 k1
    have m : (sl ρ2 j).mut = true := by rw [hj]; rfl
    obtain ⟨p, a1, a2, a3, a4⟩ := R2.owned m
    rw [hj] at a4
    obtain ⟨kvs, a4, a5⟩ := a4
    refine ⟨_, sv_some a1, p, _, rfl, DPut.k (k := .inr kk) (v := v) a4 (by rw [a5.length]; exact Nat.lt_of_le_of_lt hl (by decide)), ?_⟩
    exact c.nx F2 _ σ _ (Same.trans s1 s2) (R2.mutO (s := .own (.dct (putKD kds (.inr kk) d))) m a1 rfl ⟨_, upd_same, a5.putK r2⟩) q
end
end SJ

/-! MRp: a dict of two lists that grow in a loop. -/
namespace SJ
open PySem PySem.Spec PyProof.Rows L2 He LamX
def dk3 (v0 : V) (a b : Addr) : List (Key × V) := [(.inr "top", v0), (.inr "drivers", .ref a), (.inr "listeners", .ref b)]
structure TwoL (K : PySem.W.Frag) (O : Oc) (F H : Hp) (σ : L2.St) (ρ : Ro) (j : Nat) (p a b : Addr) (v0 : V) (us ws : List V) : Prop where
  ex : ∃ O2 : Oc, RS K O2 F H σ ρ ∧ O2.w = O.w ∧ O2.T = O.T ∧ Same O.o O2.o ∧ O2.o p = some (.dK (dk3 v0 a b)) ∧ O2.o a = some (.lst us) ∧ O2.o b = some (.lst ws)
  ab : a ≠ b
  np : O.o p = none
  na : O.o a = none
  nb : O.o b = none
  sj : sl ρ j = .val (.adr p)
def Tw (K : PySem.W.Frag) (O : Oc) (j : Nat) (p a b : Addr) (v0 : V) (F H : Hp) (σ : L2.St) (ρ : Ro) (dl ll : List D) : Prop := ∃ us ws, TwoL K O F H σ ρ j p a b v0 us ws ∧ RepL K F us dl ∧ RepL K F ws ll
/-- statements beside the two lists -/
def MsT (K : PySem.W.Frag) (O : Oc) (F0 : Hp) (j : Nat) (p a b : Addr) (v0 : V) (t : TS) (dl ll : List D) (ρ : Ro) (Q : List D → List D → Ro → Prop) : Prop := ∀ (F H : Hp) (σ : L2.St) (E : Ends), Same F0 F → Tw K O j p a b v0 F H σ ρ dl ll →
  (∀ F2 H2 σ2 ρ2 dl2 ll2, Same F F2 → Tw K O j p a b v0 F2 H2 σ2 ρ2 dl2 ll2 → Q dl2 ll2 ρ2 → E.nx σ2 H2) → t E σ H
section
variable {K : PySem.W.Frag} {O : Oc} {F0 F F1 F2 F3 H H1 H2 H3 : Hp} {σ σ2 : L2.St} {ρ ρ2 : Ro} {Q : X → Ro → Prop} {ta tb te to e0 : TE} {ts tz : TS} {N : Hn} {x y : X} {d e : D} {wi : TI} {p a b : Addr} {o o2 : HO} {vs us ws : List V} {ds es dl ll : List D} {v v0 : V} {j n : Nat} {QT : List D → List D → Ro → Prop}
theorem TwoL.ne (h : TwoL K O F H σ ρ j p a b v0 us ws) : p ≠ a ∧ p ≠ b := by
  obtain ⟨O2, R, e1, e2, s, hp, ha, hb⟩ := h.ex
  exact ⟨(fun z => by rw [z, ha] at hp; cases hp), (fun z => by rw [z, hb] at hp; cases hp)⟩
theorem mt_seq (k : MsT K O F0 j p a b v0 ts dl ll ρ fun dl2 ll2 ρ2 => MsT K O F0 j p a b v0 tz dl2 ll2 ρ2 QT) : MsT K O F0 j p a b v0 (tSeq ts tz) dl ll ρ QT := fun F H σ E s h c =>
  k F H σ _ s h fun F2 H2 σ2 ρ2 dl2 ll2 s2 h2 q => q F2 H2 σ2 E (Same.trans s s2) h2 fun F3 H3 σ3 ρ3 dl3 ll3 s3 => c F3 H3 σ3 ρ3 dl3 ll3 (Same.trans s2 s3)
theorem mt_asg (hn : n ≠ 0) (hj : n ≠ j) (k : ∀ oo ww, Me K ⟨oo, ww, O.T⟩ F0 te ρ fun x ρ1 => Frz x ρ1 fun d ρ2 => sl ρ2 j = .val (.adr p) ∧ QT dl ll (ρ2.set n (.val d))) : MsT K O F0 j p a b v0 (tAsg te (gName n)) dl ll ρ QT := fun F H σ E s ⟨us, ws, h, r1, r2⟩ c => by
  obtain ⟨O2, R, e1, e2, sO, hp, ha, hb⟩ := h.ex
  have kk := k O2.o O2.w
  rw [← e2] at kk
  refine kk F H σ _ s R fun v H1 F1 x ρ1 s1 R1 rx k1 => ?_
  obtain ⟨d, ρ2, F2, s2, R2, rd, hsj, q⟩ := frz_of R1 rx k1
  refine c F2 H1 _ _ dl ll (Same.trans s1 s2) ⟨us, ws, ⟨⟨O2, R2.put hn rd, e1, e2, sO, hp, ha, hb⟩, h.ab, h.np, h.na, h.nb, ?_⟩, r1.mono (Same.trans s1 s2), r2.mono (Same.trans s1 s2)⟩ q
  unfold sl
  rw [List.getElem?_set_ne hj]
  exact hsj
theorem TwoL.turnA (h : TwoL K O F H σ ρ j p a b v0 us ws) {us2 : List V} : TwoL K O F (upd H a (.lst us2)) σ ρ j p a b v0 us2 ws := by
  obtain ⟨O2, R, e1, e2, sO, hp, ha, hb⟩ := h.ex
  refine ⟨⟨_, R.turnG ha nx_lst, e1, e2, fun x o e => ?_, ?_, upd_same, ?_⟩, h.ab, h.np, h.na, h.nb, h.sj⟩
  · show upd O2.o a _ x = _
    rw [upd_ne (ne_of_none e h.na)]; exact sO x o e
  · show upd O2.o a _ p = _
    rw [upd_ne h.ne.1]; exact hp
  · show upd O2.o a _ b = _
    rw [upd_ne (Ne.symm h.ab)]; exact hb
theorem TwoL.turnB (h : TwoL K O F H σ ρ j p a b v0 us ws) {ws2 : List V} : TwoL K O F (upd H b (.lst ws2)) σ ρ j p a b v0 us ws2 := by
  obtain ⟨O2, R, e1, e2, sO, hp, ha, hb⟩ := h.ex
  refine ⟨⟨_, R.turnG hb nx_lst, e1, e2, fun x o e => ?_, ?_, ?_, upd_same⟩, h.ab, h.np, h.na, h.nb, h.sj⟩
  · show upd O2.o b _ x = _
    rw [upd_ne (ne_of_none e h.nb)]; exact sO x o e
  · show upd O2.o b _ p = _
    rw [upd_ne h.ne.2]; exact hp
  · show upd O2.o b _ a = _
    rw [upd_ne h.ab]; exact ha
/-- d[key].append(e) -/
theorem mt_app (k : ∀ oo ww, Me K ⟨oo, ww, O.T⟩ F0 tb ρ fun x ρ1 => ∃ z : Str, x = .val (.str z) ∧ (z = "drivers" ∨ z = "listeners") ∧ Me K ⟨oo, ww, O.T⟩ F0 te ρ1 fun y ρ2 => Frz y ρ2 fun d ρ3 => sl ρ3 j = .val (.adr p) ∧ (z = "drivers" → dl.length < 10000 ∧ QT (dl ++ [d]) ll ρ3) ∧ (z = "listeners" → ll.length < 10000 ∧ QT dl (ll ++ [d]) ρ3)) :
    MsT K O F0 j p a b v0 (tDrop (tBM K "list" rAppend (tDGet (tVar j) tb) (tCons te tNil))) dl ll ρ QT := fun F H σ E s ⟨us, ws, h, r1, r2⟩ c => by
  obtain ⟨O2, R, e1, e2, sO, hp, ha, hb⟩ := h.ex
  have aj := R.at_ j
  rw [h.sj] at aj
  obtain ⟨vj, aj1, aj2⟩ := aj
  cases aj2
  have kk := k O2.o O2.w
  rw [← e2] at kk
  refine ⟨_, sv_some aj1, ?_⟩
  refine kk F H σ _ s R fun v H1 F1 x ρ1 s1 R1 rx ⟨z, ex, hz, k1⟩ => ?_
  subst ex
  cases (show Rep K F1 v (.str z) from rx)
  have hp1 := R1.oh _ _ hp
  rcases hz with rfl | rfl
  · refine ⟨p, .ref a, rfl, DGet.k (k := .inr "drivers") hp1, .inl ⟨rfl, us, SqL.of (R1.oh _ _ ha)⟩, ?_⟩
    refine k1 F1 H1 σ _ (Same.trans s s1) R1 fun v2 H2 F2 y ρ2 s2 R2 ry fz => ?_
    obtain ⟨d, ρ3, F3, s3, R3, rd, hsj, q, _⟩ := frz_of R2 ry fz
    obtain ⟨hl, q⟩ := q rfl
    have s13 := Same.trans s1 (Same.trans s2 s3)
    refine ⟨a, us, v2, rfl, rfl, R3.oh _ _ ha, by rw [r1.length]; exact Nat.lt_of_lt_of_le hl (by decide), ?_⟩
    have h3 : TwoL K O F3 H2 σ ρ3 j p a b v0 us ws := ⟨⟨O2, R3, e1, e2, sO, hp, ha, hb⟩, h.ab, h.np, h.na, h.nb, hsj⟩
    exact c F3 _ σ ρ3 _ _ s13 ⟨_, ws, h3.turnA, (r1.mono s13).append (.one rd), r2.mono s13⟩ q
  · refine ⟨p, .ref b, rfl, DGet.k (k := .inr "listeners") hp1, .inl ⟨rfl, ws, SqL.of (R1.oh _ _ hb)⟩, ?_⟩
    refine k1 F1 H1 σ _ (Same.trans s s1) R1 fun v2 H2 F2 y ρ2 s2 R2 ry fz => ?_
    obtain ⟨d, ρ3, F3, s3, R3, rd, hsj, _, q⟩ := frz_of R2 ry fz
    obtain ⟨hl, q⟩ := q rfl
    have s13 := Same.trans s1 (Same.trans s2 s3)
    refine ⟨b, ws, v2, rfl, rfl, R3.oh _ _ hb, by rw [r2.length]; exact Nat.lt_of_lt_of_le hl (by decide), ?_⟩
    have h3 : TwoL K O F3 H2 σ ρ3 j p a b v0 us ws := ⟨⟨O2, R3, e1, e2, sO, hp, ha, hb⟩, h.ab, h.np, h.na, h.nb, hsj⟩
    exact c F3 _ σ ρ3 _ _ s13 ⟨us, _, h3.turnB, r1.mono s13, (r2.mono s13).append (.one rd)⟩ q
/-- the end: all frozen but the dict, which slot j owns -/
theorem Tw.done (h : Tw K O j p a b v0 F H σ ρ dl ll) (hj : j ≠ 0) {d0 : D} (r0 : Rep K F v0 d0) : ∃ F2, Same F F2 ∧ RS K O F2 H σ (ρ.set j (.own (.dct [(.inr "top", d0), (.inr "drivers", .lst dl), (.inr "listeners", .lst ll)]))) := by
  obtain ⟨us, ws, h, r1, r2⟩ := h
  obtain ⟨O2, R, e1, e2, sO, hp, ha, hb⟩ := h.ex
  have hO : RS K O F H σ ρ := R.drop sO (.inl e1.symm) e2.symm
  obtain ⟨RA, sA⟩ := hO.thaw (p := a) (R.oh _ _ ha) nx_lst (R.dj _ _ ha) h.na (R.nobody ha)
  have hFb : upd F a (.lst us) b = none := by rw [upd_ne (Ne.symm h.ab)]; exact R.dj _ _ hb
  obtain ⟨RB, sB⟩ := RA.thaw (p := b) (R.oh _ _ hb) nx_lst hFb h.nb (R.nobody hb)
  have s2 := Same.trans sA sB
  refine ⟨_, s2, ?_⟩
  have aj := R.at_ j
  rw [h.sj] at aj
  obtain ⟨vj, aj1, aj2⟩ := aj
  cases aj2
  have hl : j < ρ.length := by
    by_cases q : j < ρ.length
    · exact q
    · have := h.sj
      rw [sl_none (by omega)] at this; cases this
  have hFp : upd (upd F a (.lst us)) b (.lst ws) p = none := by rw [upd_ne h.ne.2, upd_ne h.ne.1]; exact R.dj _ _ hp
  have R5 := RB.putO (n := j) (p := p) (s := .own (.dct [(.inr "top", d0), (.inr "drivers", .lst dl), (.inr "listeners", .lst ll)])) hj hl rfl hFp h.np ⟨dk3 v0 a b, R.oh _ _ hp, RepP.cons (r0.mono s2) (RepP.cons (.lst (sB _ _ upd_same) (r1.mono s2)) (RepP.cons (.lst upd_same (r2.mono s2)) RepP.nil))⟩ (fun i _ m => R.nobody hp i m)
  rwa [set_held aj1] at R5
theorem ms_two {i : Nat} {tb rest : TS} (hi : i ≠ 0) (hij : i ≠ j) (hj : j ≠ 0) (hjl : j < ρ.length) (k : ∀ oo ww, Me K ⟨oo, ww, O.T⟩ F0 e0 ρ fun x ρ1 => Frz x ρ1 fun d0 ρ2 => j < ρ2.length ∧ ∀ p a b v0 oo ww, Mi K ⟨oo, ww, O.T⟩ F0 wi (ρ2.set j (.val (.adr p))) fun ds ρ3 => ds.length ≤ 1000 ∧ sl ρ3 j = .val (.adr p) ∧
      ∃ I : Nat → List D → List D → Ro → Prop, I 0 [] [] ρ3 ∧
      (∀ m d dl ll ρ4, ds[m]? = some d → I m dl ll ρ4 → sl ρ4 j = .val (.adr p) → MsT K O F0 j p a b v0 tb dl ll (ρ4.set i (.val d)) fun dl2 ll2 ρ5 => I (m + 1) dl2 ll2 ρ5) ∧
      ∀ dl ll ρ4, I ds.length dl ll ρ4 → Ms K O F0 rest (ρ4.set j (.own (.dct [(.inr "top", d0), (.inr "drivers", .lst dl), (.inr "listeners", .lst ll)]))) N) :
    Ms K O F0 (tSeq (tAsg (tDisp [(tC (.str "top"), e0), (tC (.str "drivers"), tLst tNil), (tC (.str "listeners"), tLst tNil)]) (gName j)) (tSeq (tFor wi (gName i) tb) rest)) ρ N := fun F H σ E s R c => by
  intro p hp
  have fp := R.free hp
  have R0 : RS K { O with o := upd O.o p (.dK []) } F (upd H p (.dK [])) σ ρ := (R.allocN hp).out upd_same nx_dK fp.1 (R.no_new hp)
  refine k _ O.w F _ σ _ s R0 fun v0 H1 F1 x ρ1 s1 R1 r1 k1 => ?_
  obtain ⟨d0, ρ2, F2, s2, R2, r2, hjl2, k2⟩ := frz_of R1 r1 k1
  refine ⟨Nat.zero_le _, fun a ha => ⟨Nat.zero_le _, fun b hb => ?_⟩⟩
  have R3 := (R2.allocN (o := .lst []) ha).out upd_same nx_lst (R2.free ha).1 (R2.no_new ha)
  have R4 := (R3.allocN (o := .lst []) hb).out upd_same nx_lst (R3.free hb).1 (R3.no_new hb)
  have hOa : upd O.o p (.dK []) a = none := (R2.free ha).2
  have hOb : upd (upd O.o p (.dK [])) a (.lst []) b = none := (R3.free hb).2
  have nap : p ≠ a := fun z => by rw [← z, upd_same] at hOa; cases hOa
  have nab : a ≠ b := fun z => by rw [← z, upd_same] at hOb; cases hOb
  have nbp : p ≠ b := fun z => by rw [← z, upd_ne nap, upd_same] at hOb; cases hOb
  have hp4 : upd (upd (upd O.o p (.dK [])) a (.lst [])) b (.lst []) p = some (.dK []) := by rw [upd_ne nbp, upd_ne nap, upd_same]
  refine ⟨R4.oh p _ hp4, dk3 v0 a b, rfl, by show 3 ≤ 15; decide, ?_⟩
  have em : mergeK [] (dk3 v0 a b) = dk3 v0 a b := mergeK_new (kvs := []) (by
    show ([.inr "top", .inr "drivers", .inr "listeners"] : List Key).Nodup
    decide)
  rw [em]
  have R5 := R4.turnG (o2 := .dK (dk3 v0 a b)) hp4 nx_dK
  have hna : O.o a = none := by rw [upd_ne (Ne.symm nap)] at hOa; exact hOa
  have hnb : O.o b = none := by rw [upd_ne (Ne.symm nab), upd_ne (Ne.symm nbp)] at hOb; exact hOb
  have R6 := R5.put (n := j) hj (Rep.adr (K := K) (F := F2) p)
  have sO : Same O.o (upd (upd (upd (upd O.o p (.dK [])) a (.lst [])) b (.lst [])) p (.dK (dk3 v0 a b))) := fun z u e => by
    rw [upd_ne (ne_of_none e fp.2), upd_ne (ne_of_none e hnb), upd_ne (ne_of_none e hna), upd_ne (ne_of_none e fp.2)]; exact e
  have s12 := Same.trans s1 s2
  show tFor wi (gName i) tb { E with nx := rest E } (σ.set j (some (.ref p))) _
  refine k2 p a b v0 _ O.w F2 _ _ _ (Same.trans s s12) R6 fun J H3 F3 ds ρ3 s3 R7 wd ⟨hds, sj3, I, i0, is, ie⟩ => ?_
  have T0 : Tw K O j p a b v0 F3 H3 (σ.set j (some (.ref p))) ρ3 [] [] := ⟨[], [], ⟨⟨_, R7, rfl, rfl, sO, upd_same, (show upd (upd (upd (upd O.o p (.dK [])) a (.lst [])) b (.lst [])) p (.dK (dk3 v0 a b)) a = some (.lst []) by rw [upd_ne (Ne.symm nap), upd_ne nab, upd_same]), (show upd (upd (upd (upd O.o p (.dK [])) a (.lst [])) b (.lst [])) p (.dK (dk3 v0 a b)) b = some (.lst []) by rw [upd_ne (Ne.symm nbp), upd_same])⟩, nab, fp.2, hna, hnb, sj3⟩, .nil, .nil⟩
  refine ⟨fun i m σ H => m = ds.length - i ∧ i ≤ ds.length ∧ ∃ F4 ρ4 dl ll, Same F3 F4 ∧ Tw K O j p a b v0 F4 H σ ρ4 dl ll ∧ I i dl ll ρ4, ⟨ds.length, rfl, Nat.zero_le _, F3, ρ3, [], [], Same.refl _, T0, i0⟩, ?_⟩
  rintro i' m σ1 H4 ⟨rfl, hi', F4, ρ4, dl, ll, s4, T4, q4⟩
  obtain ⟨us, ws, h4, ru, rw_⟩ := T4
  obtain ⟨O2, R8, e1, e2, sO2, hp2, ha2, hb2⟩ := h4.ex
  obtain ⟨w1, w2⟩ := wd O2 i' F4 H4 σ1 ρ4 s4 R8
  have s04 : Same F F4 := Same.trans s12 (Same.trans s3 s4)
  by_cases hlt : i' < ds.length
  · obtain ⟨go, yl⟩ := w2 _ (List.getElem?_eq_getElem hlt)
    refine .inr ⟨go, fun σ' H' => ∃ F5 ρ5 dl ll, Same F3 F5 ∧ Tw K O j p a b v0 F5 H' σ' ρ5 dl ll ∧ I (i' + 1) dl ll ρ5, fun σ' H' z => ⟨ds.length - (i' + 1), by omega, rfl, hlt, z⟩, fun x H' y => ?_⟩
    obtain ⟨F5, s5, R9, r9⟩ := yl x H' y
    have R10 := R9.put hi r9
    have hsj : sl (ρ4.set i (.val ds[i'])) j = .val (.adr p) := by
      unfold sl
      rw [List.getElem?_set_ne hij]
      exact h4.sj
    refine is i' _ dl ll ρ4 (List.getElem?_eq_getElem hlt) q4 h4.sj F5 H' _ _ (Same.trans s (Same.trans s04 s5)) ⟨us, ws, ⟨⟨O2, R10, e1, e2, sO2, hp2, ha2, hb2⟩, h4.ab, h4.np, h4.na, h4.nb, hsj⟩, ru.mono s5, rw_.mono s5⟩ fun F6 H6 σ6 ρ6 dl6 ll6 s6 T6 q6 => ⟨F6, ρ6, dl6, ll6, Same.trans s4 (Same.trans s5 s6), T6, q6⟩
  · have e : i' = ds.length := by omega
    subst e
    obtain ⟨F5, s5, R9⟩ := Tw.done (h := ⟨us, ws, h4, ru, rw_⟩) hj (r2.mono (Same.trans s3 s4))
    exact .inl ⟨w1 (Nat.le_refl _), ie dl ll ρ4 q4 F5 H4 σ1 E (Same.trans s (Same.trans s04 s5)) R9 (c.mono (Same.trans s04 s5))⟩
end
end SJ

/-! MRq: lists made by operators and calls, taken as values; guards. -/
namespace SJ
open PySem PySem.Spec PyProof.Rows L2 He LamX
section
variable {K : PySem.W.Frag} {O : Oc} {F0 F F1 F2 F3 H H1 H2 H3 : Hp} {σ σ2 : L2.St} {ρ ρ2 : Ro} {Q : X → Ro → Prop} {QT : Bool → Ro → Prop} {QA : List X → Ro → Prop} {QF : D → Ro → Prop} {QL : List D → Ro → Prop} {ta tb te to : TE} {t u tt : TT} {tA tK : TA} {ts tz : TS} {r : R2} {N : Hn} {n : Nat} {x y : X} {d e : D} {g : TG} {wi : TI} {p q : Addr} {o o2 : HO} {vs : List V} {ds es : List D} {kds : List (Key × D)} {fds : List (Str × D)} {W : WX} {Xp : XP} {b c : Bool} {s z : Str} {cn : Str} {v : V} {tl th : TO} {wv : List Nat}
theorem r_catL (hx : seeD x ρ = some (.lst ds)) (hy : seeD y ρ = some (.lst es)) (hl : ds.length + es.length ≤ 10000) (k : Q (.val (.lst (ds ++ es))) ρ) : Mr K O F0 (rAdd K) x y ρ Q := fun F H σ u v Qh _ R hu hv q => by
  obtain ⟨a, xs, rfl, h1, h2⟩ := look_raw R hu hx
  obtain ⟨b, ys, rfl, h3, h4⟩ := look_raw R hv hy
  refine .inr (.inr (.inl ⟨a, b, xs, ys, rfl, rfl, h1, h3, by rw [h2.length, h4.length]; exact Nat.le_trans hl (by decide), fun p hp => ?_⟩))
  obtain ⟨R3, s3⟩ := R.alloc (o := .lst (xs ++ ys)) hp nx_lst
  exact q _ _ _ (.val (.lst (ds ++ es))) ρ s3 R3 (Rep.lst upd_same ((h2.append h4).mono s3)) k
theorem c_listv (hx : seeD x ρ = some (.lst ds) ∨ seeD x ρ = some (.tup ds)) (k : Q (.val (.lst ds)) ρ) : Mc K O F0 (rListU K) [x] ρ Q := fun F H σ vs Qh _ R hu q => by
  obtain ⟨v, rfl, hv⟩ := one_arg hu
  have fin : ∀ xs, RepL K F xs ds → ∀ l, H l = none → Qh (.ref l) (upd H l (.lst xs)) := fun xs h2 l hl => by
    obtain ⟨R3, s3⟩ := R.alloc (o := .lst xs) hl nx_lst
    exact q _ _ _ (.val (.lst ds)) ρ s3 R3 (Rep.lst upd_same (h2.mono s3)) k
  rcases hx with hx | hx
  · obtain ⟨a, xs, rfl, h1, h2⟩ := look_lst R hv hx
    exact x_listL h1 (fin xs h2)
  · obtain ⟨a, xs, rfl, h1, h2⟩ := look_tup R hv hx
    exact x_listT h1 (fin xs h2)
theorem c_tupleL (hx : seeD x ρ = some (.lst ds)) (k : Q (.val (.tup ds)) ρ) : Mc K O F0 (rTupU K) [x] ρ Q := fun F H σ vs Qh _ R hu q => by
  obtain ⟨v, rfl, hv⟩ := one_arg hu
  obtain ⟨a, xs, rfl, h1, h2⟩ := look_lst R hv hx
  refine ⟨a, xs, rfl, .inl ⟨h1, fun l hl => ?_⟩⟩
  obtain ⟨R3, s3⟩ := R.alloc (o := .tup xs) hl nx_tup
  exact q _ _ _ (.val (.tup ds)) ρ s3 R3 (Rep.tup (SqT.of upd_same) (h2.mono s3)) k
theorem c_tupleT (k : Q (.val (.tup ds)) ρ) : Mc K O F0 (rTupU K) [.val (.tup ds)] ρ Q := fun F H σ vs Qh _ R hu q => by
  obtain ⟨v, rfl, hv⟩ := one_arg hu
  have hv0 := hv
  obtain ⟨a, xs, rfl, h1, h2⟩ := look_tup R hv (ds := ds) rfl
  exact ⟨a, xs, rfl, .inr ⟨h1, q _ H F (.val (.tup ds)) ρ (Same.refl _) R hv0 k⟩⟩
theorem c_sortS {zs : List Str} (hx : seeD x ρ = some (.lst (zs.map D.str))) (hl : zs.length < 64) (k : ∀ ys : List Str, ys.Perm zs → sortedS ys = true → Q (.val (.lst (ys.map D.str))) ρ) : Mc K O F0 (rSortedS K) [x] ρ Q := fun F H σ vs Qh _ R hu q => by
  obtain ⟨v, rfl, hv⟩ := one_arg hu
  obtain ⟨a, xs, rfl, h1, h2⟩ := look_lst R hv hx
  rw [h2.strs'] at h1
  refine ⟨a, zs, rfl, h1, hl, fun ys p hp hs hn => ?_⟩
  obtain ⟨R3, s3⟩ := R.alloc (o := .lst (ys.map V.str)) hn nx_lst
  exact q _ _ _ (.val (.lst (ys.map D.str))) ρ s3 R3 (Rep.lst upd_same RepL.strs) (k ys hp hs)
/-! #### guards -/
theorem g_lst (k : Me K O F0 (tLst tA) ρ Q) : Me K O F0 (tLst tA) ρ Q := k
theorem g_le {P : Prop} (k : ds.length ≤ 1000 ∧ P) : ds.length ≤ 1000 ∧ P := k
theorem g_dget (k : Me K O F0 (tDGet ta tb) ρ Q) : Me K O F0 (tDGet ta tb) ρ Q := k
theorem g_sl (k : Me K O F0 (tSl (rSlU K) te tl th) ρ Q) : Me K O F0 (tSl (rSlU K) te tl th) ρ Q := k
theorem v_lst (k : Ma K O F0 tA ρ fun xs ρ1 => FrzL xs ρ1 fun ds ρ2 => ds.length ≤ 1000 ∧ Q (.val (.lst ds)) ρ2) : Me K O F0 (tLst tA) ρ Q := m_f (mf_lst k)
theorem v_sl (k : Me K O F0 te ρ fun x ρ1 => Mo K O F0 tl ρ1 fun lo ρ2 => Mo K O F0 th ρ2 fun hi ρ3 => ∃ ds, seeD x ρ3 = some (.lst ds) ∧ Q (.val (.lst (cutD ds lo hi))) ρ3) : Me K O F0 (tSl (rSlU K) te tl th) ρ Q := m_f (mf_sl k)
theorem v_dnew (k : Q (.val (.dct [])) ρ) : Me K O F0 tDNewK ρ Q := m_f (m_dnew k)
theorem v_lcM (js : List Nat) (P : D → Bool) (Fn : D → D) (hjs : ∀ j ∈ js, j ∈ wv := by decide) (h0 : 0 ∉ wv := by decide) (k : Mi K O F0 wi ρ fun ds ρ1 => ds.length ≤ 10000 ∧ (∀ v ∈ wv, (sl ρ1 v).mut = false) ∧
    (∀ d ∈ ds, ∀ (oo : Hp) (ww : Option V), Mg K ⟨oo, ww, O.T⟩ F0 g js d (wipeR ρ1 wv) fun ρ3 => ρ3.length = ρ1.length ∧ rst ρ3 ρ1 wv = ρ1 ∧ Mt K ⟨oo, ww, O.T⟩ F0 tt ρ3 fun b ρ4 => ρ4 = ρ3 ∧ b = P d ∧ (b = true → Me K ⟨oo, ww, O.T⟩ F0 tb ρ4 fun y ρ5 => y = .val (Fn d) ∧ ρ5 = ρ3)) ∧
    Q (.val (.lst ((ds.filter P).map Fn))) ρ1) : Me K O F0 (tLc wi g tt tb wv) ρ Q := m_f (mf_lcM js P Fn hjs h0 k)
theorem get_str {P : D → Prop} {kk : Str} (hx : seeD x ρ = some (.dct kds)) (hv : valD kds (.inr kk) = some e) (k : P e) : ∃ kds kd e, seeD x ρ = some (.dct kds) ∧ (∃ d, X.val (.str kk) = .val d ∧ keyD d = some kd) ∧ valD kds kd = some e ∧ P e := ⟨kds, .inr kk, e, hx, ⟨_, rfl, rfl⟩, hv, k⟩
theorem all_tt {ds : List D} : ds.filter (fun _ => true) = ds := List.filter_eq_self.mpr fun _ _ => rfl
theorem one_free {ρ : Ro} {n : Nat} (h : (sl ρ n).mut = false) : ∀ v ∈ [n], (sl ρ v).mut = false := fun v hv => by
  rcases List.mem_cons.mp hv with rfl | hv
  · exact h
  · cases hv
end
end SJ

/-! SJ9: more tests of the head. -/
namespace SJ
open PySem PySem.Spec PyProof.Rows L2 He
/-- a whole number that is a class's constant -/
def conI (x f : Str) (z : Int) : Tst := fun K => (match PySem.W.findIn K (.ref (ga K x)) f with
  | some (some (.int y t)) => decide (y = z) && eqO (PySem.W.specialIn K (.int y t) "__get__") (some none)
  | _ => false) && !PySem.W.copiedNames.contains f
theorem conI_ok {K : PySem.W.Frag} {x f : Str} {z : Int} (c : conI x f z K = true) : ∃ t, Con K (ga K x) f (.int z) (.int z t) := by
  have c1 := (Bool.and_eq_true_iff.mp c).1
  have c2 := (Bool.and_eq_true_iff.mp c).2
  generalize q : PySem.W.findIn K (.ref (ga K x)) f = r at c1
  match r, c1 with
  | some (some (.int y t)), c1 =>
    have e := of_decide_eq_true (Bool.and_eq_true_iff.mp c1).1
    subst e
    exact ⟨t, q, ⟨t, rfl⟩, eqO_ok (Bool.and_eq_true_iff.mp c1).2, by cases z : PySem.W.copiedNames.contains f with | true => rw [z] at c2; cases c2 | false => rfl⟩
def kaT (t : PySem.W.Frag → Value) (cs : PySem.W.Frag → List Value) (b : Bool) : Tst := fun K => decide (PySem.W.kitAny K (t K) (cs K) = some b)
theorem kaT_ok {K : PySem.W.Frag} {t : PySem.W.Frag → Value} {cs : PySem.W.Frag → List Value} {b : Bool} (h : kaT t cs b K = true) : PySem.W.kitAny K (t K) (cs K) = some b := of_decide_eq_true h
def xfT (x : Str) : Tst := fun K => xfB K (ga K x)
end SJ

/-! SJI: x in a tuple of things that decline: x's own __eq__ is asked of each. -/
namespace SJ
open PySem PySem.Spec PySem.W PyProof.Rows L2 GQ PySem.MeetsSeq3
open AutoSeq1 (wpAny_loadPart')
section
variable {prog : Program} {w : World} {A : Around} {E : Value → Shared → Prop} {s : Shared} {K : Frag} {x C f : Addr} {ox : Obj} {od : Option Obj}
/-- the left one declines, the right one's own == answers -/
theorem cmp_aft {b : Value} {T : String} {Q : Value → Shared → Prop} (hu : A.units < cLine) (X : K.In s.heap) (I : InstAt s.heap x ox C od) (hb : s.TypeIs b T) (hs : subIn K (.ref C) (.type T) = some false)
    (hd : ∀ {Q2 : Option Value → Shared → Prop}, Q2 none s → wpAny (model prog w) A (tryCompare b "__eq__" (.ref x)) Q2 E s)
    (he : findIn K (.ref C) "__eq__" = some (some (.ref f))) (hf : isFn K (.ref f) = true)
    (h : wpAny (model prog w) A (call (.ref f) [.ref x, b]) (PySem.W.CmpBack Q) E s) : wpAny (model prog w) A (richCompare .Eq b (.ref x)) Q E s := by
  have one : wpAny (model prog w) A (tryCompare (.ref x) (cmpInfo .Eq).2.2 b) (fun r s' => ∃ v, r = some v ∧ Q v s') E s := by
    unfold tryCompare
    refine wpAny_bind (ifBound_K X I he hf (wpAny_mono h (fun v s' hv => ?_) fun _ _ e => e))
    cases v <;> first | exact hv.elim | exact wpAny_pure ⟨_, rfl, hv⟩
  unfold richCompare
  simp only [oneThing_ref, hb.oneThing_none]
  refine wpAny_holding (wpAny_bind (wpAny_cRoomFor hu ?_))
  refine wpAny_bind (wpAny_typeOf hb (wpAny_bind (I.type.here ?_)))
  have nb : (Value.type T != Value.ref C) = true := rfl
  rw [nb]
  refine wpAny_bind ((looks_subIn X hs).here ?_)
  simp only [Bool.false_eq_true, if_false, Bool.not_false, if_true]
  refine wpAny_bind (hd ?_)
  refine wpAny_bind (wpAny_mono one (fun rr s2 z => ?_) fun _ _ z => z)
  obtain ⟨v, rfl, hq⟩ := z
  exact wpAny_pure hq
theorem none_declines {Q2 : Option Value → Shared → Prop} (h : Q2 none s) : wpAny (model prog w) A (tryCompare .none "__eq__" (.ref x)) Q2 E s :=
  wpAny_tryCompare_declines (T := "NoneType") rfl F.slot_NoneType_eq (call_gives F.slot_NoneType_eq rfl F.entry_NoneType_eq (F.args_NoneType_eq_2 _ _) (SeqAt.NoneType___eq___none_ref_0 x) ⟨rfl, h⟩)
theorem tuple_declines {t : Addr} {items : Array Value} {Q2 : Option Value → Shared → Prop} (ht : s.heap.IsTuple t items) (X : K.In s.heap) (I : InstAt s.heap x ox C od) (hs : subIn K (.ref C) (.type "tuple") = some false) (h : Q2 none s) : wpAny (model prog w) A (tryCompare (.ref t) "__eq__" (.ref x)) Q2 E s := by
  obtain ⟨⟨cls, dd, data, sl⟩, ho, hc, n, hd⟩ := ht
  simp only at hc hd
  subst hc hd
  refine wpAny_tryCompare_declines (T := "tuple") ⟨_, ho, rfl⟩ F.slot_tuple_eq (call_here F.slot_tuple_eq ⟨_, ho, rfl⟩ F.entry_tuple_eq (F.args_tuple_eq_2 _ _) ?_)
  have hi : ∀ {A : Around} {Q : Bool → Shared → Prop} {E : Value → Shared → Prop}, Q false s → wpAny (model prog w) A (isInstance (.ref x) (.type "tuple")) Q E s := fun {A Q E} q => by
    unfold isInstance
    exact wpAny_bind (I.type.here ((looks_subIn X hs).here q))
  wp_walk using hi, wpAny_loadPart' ho
  exact ⟨rfl, h⟩
theorem eqBool_ne {u v : Value} {Q : Bool → Shared → Prop} (hne : (u == v) = false) (hf : ∀ n t, u ≠ .float n t) (h : wpAny (model prog w) A (richCompare .Eq u v) (fun v s' => ∃ r, v = .bool r ∧ Q r s') E s) : wpAny (model prog w) A (eqBool u v) Q E s := by
  unfold eqBool
  refine wpAny_holding ?_
  simp only [hne, Bool.false_eq_true, if_false]
  cases u with
  | float n t => exact absurd rfl (hf n t)
  | _ =>
    refine wpAny_bind (wpAny_mono h (fun v s' hv => ?_) fun _ _ x => x)
    obtain ⟨r, rfl, q⟩ := hv
    exact wpAny_truthy_bool q
end
/-- heaps that keep objects and tuples -/
structure GrowT (K : Frag) (R : Hp → Hp → Prop) : Prop where
  refl : ∀ H, R H H
  trans : ∀ {H G J}, R H G → R G J → R H J
  ins : ∀ {H G a C dx fs}, R H G → H a = some (.ins C dx fs) → G a = some (.ins C dx fs)
  tup : ∀ {H G a xs}, R H G → SqT K H a xs → SqT K G a xs
def declT (K : Frag) (H : Hp) (C : Addr) (i : V) : Prop := (i = .non ∧ subIn K (.ref C) (.type "NoneType") = some false) ∨ ∃ b us, i = .ref b ∧ SqT K H b us ∧ subIn K (.ref C) (.type "tuple") = some false
def rInAft (K : Frag) (g : Addr) (sp : Sp) : R2 := fun x y H Q => ∃ Rl a C dx fs l is, GrowT K Rl ∧ x = .ref a ∧ y = .ref l ∧ SqT K H l is ∧ H a = some (.ins C dx fs) ∧ findIn K (.ref C) "__eq__" = some (some (.ref g)) ∧ (∀ i ∈ is, declT K H C i) ∧
  (∀ i ∈ is, ∀ G, Rl H G → ∀ Q2 : VK, (∀ G2, Rl G G2 → Q2 (.bl false) G2) → sp [x, i] G Q2 E0) ∧ ∀ H2, Rl H H2 → Q (.bl false) H2
section
variable {X : Cx} {k : Nat} {f : Addr} {fd : FuncData} {ps : List Str} {sp : Sp}
theorem o_inAft (F : Fk X.prog X.w X.K X.mg X.base k f fd ps sp) (hr : Rm (k + 1) X.A) (hf : isFn X.K (.ref f) = true) (hb : Binds X.K fd ps []) : OpR X (compareOp .In) (rInAft X.K f sp) := by
  intro pins s σ H x y v u Q I rx ry h
  obtain ⟨Rl, a, C, dx, fs, l, is, gr, rfl, rfl, hl, ha, he, hd, hsp, q⟩ := h
  obtain rfl : v = Value.ref a := rx
  obtain rfl : u = Value.ref l := ry
  obtain ⟨its, r, ht, _⟩ := I.tuple hl
  have ht' := ht
  obtain ⟨o0, ho0, hc0, n0, hd0⟩ := ht'
  have tT : s.TypeIs (.ref l) "tuple" := ⟨o0, ho0, hc0⟩
  show wpAny _ _ (do return Value.bool (← contains (.ref l) (.ref a)) : Sem Value) _ _ s
  have main : wpAny (model X.prog X.w) X.A (contains (.ref l) (.ref a)) (fun b s2 => b = false ∧ ∃ H2, Inv X pins σ H2 s2 ∧ Rl H H2) X.xe s := ?_
  · refine wpAny_bind (wpAny_mono main (fun b s2 z => ?_) fun _ _ z => z)
    obtain ⟨rfl, H2, I2, g2⟩ := z
    exact wpAny_pure ⟨.bl false, H2, I2, rfl, q H2 g2⟩
  unfold contains
  refine wpAny_holding ?_
  refine wpAny_bind (wpAny_specialOf tT PyProof.Rows.slot_tuple_contains.lookup ?_)
  rw [if_neg (by decide)]
  refine wpAny_bind (wpAny_callSpecialUnlessNone?_slot (name := Str.ofString "__contains__") tT PyProof.Rows.slot_tuple_contains (call_here PyProof.Rows.slot_tuple_contains tT PyProof.Rows.entry_tuple_contains (PyProof.Rows.args_tuple_contains _ _) ?_))
  show wpAny _ _ (Builtin.Tuple.tupleItemsOf (.ref l) >>= _) _ _ s
  refine wpAny_bind (tupleItemsOf_ ht ?_)
  refine wpAny_bind (forIn_array_ _ (fun rest b s' => b.1 = none ∧ ∃ H2 js, Inv X pins σ H2 s' ∧ Rl H H2 ∧ Vals js rest ∧ ∀ j ∈ js, j ∈ is) _ ?_ ?_ its.toArray _ ⟨rfl, H, is, I, gr.refl _, by simpa using r, fun j m => m⟩)
  · rintro y rest b s' ⟨hb0, H2, js, I2, g2, rv, hm⟩
    cases rv with
    | @cons i _ js _ ri rv =>
      have mi : i ∈ is := hm i (List.mem_cons_self ..)
      have ha2 := gr.ins g2 ha
      obtain ⟨mA, J, _⟩ := ins_get I2.hok ha2
      obtain ⟨od, J, _⟩ := J.look
      have key : wpAny (model X.prog X.w) X.A.in1 (eqBool y (.ref a)) (fun r s2 => r = false ∧ ∃ H3, Inv X pins σ H3 s2 ∧ Rl H2 H3) X.xe s' := by
        have run : wpAny (model X.prog X.w) X.A.in1 (call (.ref f) [.ref a, y]) (PySem.W.CmpBack fun v s2 => ∃ r, v = Value.bool r ∧ r = false ∧ ∃ H3, Inv X pins σ H3 s2 ∧ Rl H2 H3) X.xe s' := by
          refine wpAny_mono (run_at (Q := fun z G2 => z = .bl false ∧ Rl H2 G2) F hr.in1 rfl hb I2 (.cons (show RelV (.ref a) (.ref a) from rfl) (.cons ri .nil)) (hsp i mi H2 g2 _ fun G2 s2 => ⟨rfl, s2⟩)) (fun z s2 q => ?_) fun _ _ z => z
          obtain ⟨z2, G2, I3, r2, rfl, sg⟩ := q
          obtain rfl : z = Value.bool false := r2
          exact ⟨false, rfl, rfl, G2, I3, sg⟩
        rcases hd i mi with ⟨rfl, hs⟩ | ⟨b2, us, rfl, hb2, hs⟩
        · obtain rfl : y = Value.none := ri
          exact eqBool_ne rfl (fun _ _ z => nomatch z) (cmp_aft hr.in1.units0 I2.kIn J rfl hs (fun q => none_declines q) he hf run)
        · obtain rfl : y = Value.ref b2 := ri
          obtain ⟨jts, _, ht2, _⟩ := I2.tuple (gr.tup g2 hb2)
          have ht3 := ht2
          obtain ⟨o1, ho1, hc1, _⟩ := ht3
          have hne : b2 ≠ a := fun z => by
            subst z
            have e1 := J.at_
            have e2 := J.cls
            rw [ho1] at e1
            cases e1
            rw [hc1] at e2; cases e2
          exact eqBool_ne (by simpa using hne) (fun _ _ z => nomatch z) (cmp_aft hr.in1.units0 I2.kIn J ⟨o1, ho1, hc1⟩ hs (fun q => tuple_declines ht2 I2.kIn J hs q) he hf run)
      refine wpAny_bind (wpAny_mono key (fun r s2 z => ?_) fun _ _ z => z)
      obtain ⟨rfl, H3, I3, g3⟩ := z
      exact wpAny_pure ⟨rfl, H3, js, I3, gr.trans g2 g3, rv, fun j m => hm j (List.mem_cons_of_mem _ m)⟩
  · rintro ⟨b1, b2⟩ s' ⟨hb0, H2, js, I2, g2, rv, hm⟩
    simp only at hb0
    subst hb0
    exact wpAny_pure (wpAny_truthy_bool ⟨rfl, H2, I2, g2⟩)
end
end SJ

/-! MRr: an own object in a tuple of things that decline. -/
namespace SJ
open PySem PySem.Spec PyProof.Rows L2 He LamX
theorem sm_growT {K : PySem.W.Frag} {T : List (Addr × Str)} {F : Hp} : GrowT K (Sm T F) where
  refl := sm_grow.refl
  trans := sm_grow.trans
  ins := sm_grow.ins
  tup := fun a e => by
    rcases e with (e | ⟨o, e⟩) | e
    · exact .inl (.inl (a.1 _ _ e nx_tup))
    · exact .inl (.inr ⟨o, a.1 _ _ e ⟨(fun _ z => nomatch z), fun _ z => nomatch z⟩⟩)
    · exact .inr e
def declD (K : PySem.W.Frag) (c : Str) (i : D) : Prop := (i = .non ∧ PySem.W.subIn K (.ref (ga K c)) (.type "NoneType") = some false) ∨ (∃ us, i = .tup us) ∧ PySem.W.subIn K (.ref (ga K c)) (.type "tuple") = some false
section
variable {K : PySem.W.Frag} {O : Oc} {F0 F F2 F3 H H2 H3 : Hp} {σ σ2 : L2.St} {ρ ρ2 : Ro} {Q : X → Ro → Prop} {x y : X} {d e : D} {gf : Addr} {P : PD}
theorem r_inAft (k : Frz x ρ fun d ρ1 => Frz y ρ1 fun e ρ2 => ∃ c fds es, d = .obj c fds ∧ e = .tup es ∧ OwnOp K c "__eq__" gf ∧ (∀ i ∈ es, declD K c i) ∧ (∀ i ∈ es, P [d, i] (fun z => z = .bl false) fun _ _ => False) ∧ Q (.val (.bl false)) ρ2) : Mr K O F0 (rInAft K gf (spS K O.T (pu P))) x y ρ Q := fun F H σ u v Qh s R hu hv q => by
  obtain ⟨d, e, ρ2, F2, s2, R2, r1, r2, c, fds, es, rfl, rfl, ho, hd, hp, qq⟩ := frz2_of R hu hv k
  obtain ⟨a, dx, fs, rfl, h1, h2⟩ := r1.objP
  obtain ⟨l, is, rfl, h3, h4⟩ := r2.tupP
  have h3' := sqt_same R2.fh h3
  refine ⟨Sm O.T F2, a, _, dx, fs, l, is, sm_growT, rfl, rfl, h3', R2.fh _ _ h1, ho, fun i hi => ?_, fun i hi G hg Q2 hq => ?_, fun H2 hs => q _ H2 F2 (.val (.bl false)) ρ2 s2 (R2.sm hs) (Rep.bl _) qq⟩
  · obtain ⟨n, hn⟩ := List.getElem?_of_mem hi
    obtain ⟨e, he, re⟩ := h4.at' hn
    rcases hd e (List.mem_of_getElem? he) with ⟨rfl, z⟩ | ⟨⟨us, rfl⟩, z⟩
    · cases re; exact .inl ⟨rfl, z⟩
    · obtain ⟨b, xs, rfl, q1, q2⟩ := re.tupP
      exact .inr ⟨b, xs, rfl, sqt_same R2.fh q1, z⟩
  · obtain ⟨n, hn⟩ := List.getElem?_of_mem hi
    obtain ⟨e, he, re⟩ := h4.at' hn
    exact promise_sm R2.fh R2.tb R2.ft (.cons r1 (.cons re .nil)) (hp e (List.mem_of_getElem? he)) hg hq
end
end SJ

/-! MRs: repr of data with empty dicts; sizes. -/
namespace SJ
open PySem PySem.Spec PyProof.Rows L2 He LamX
mutual
def pyQ : D → Option PyData
  | .non => some .none
  | .bl b => some (.bool b)
  | .int i => some (.int i)
  | .str s => some (.str s)
  | .lst ds => (pyQL ds).map .list
  | .tup ds => (pyQL ds).map .tuple
  | .dct [] => some (.dict [])
  | _ => none
def pyQL : List D → Option (List PyData)
  | [] => some []
  | d :: ds => match pyQ d, pyQL ds with
    | some p, some ps => some (p :: ps)
    | _, _ => none
end
section
variable {K : PySem.W.Frag} {H F : Hp}
mutual
theorem dq_of : ∀ {v : V} {d : D} {pd : PyData}, Rep K H v d → pyQ d = some pd → Dq K H v pd
  | _, .non, _, .non, e => by simp only [pyQ] at e; cases e; exact .non
  | _, .bl _, _, .bl b, e => by simp only [pyQ] at e; cases e; exact .bl b
  | _, .int _, _, .int b, e => by simp only [pyQ] at e; cases e; exact .int b
  | _, .str _, _, .str b, e => by simp only [pyQ] at e; cases e; exact .str b
  | _, .cls _, _, .cls c, e => by simp only [pyQ] at e; cases e
  | _, .ty _, _, .ty c, e => by simp only [pyQ] at e; cases e
  | _, .adr _, _, .adr c, e => by simp only [pyQ] at e; cases e
  | _, .lst ds, _, .lst h a, e => by
    simp only [pyQ] at e
    obtain ⟨ps, e1, rfl⟩ := Option.map_eq_some_iff.mp e
    exact .lst h (dql_of a e1)
  | _, .tup ds, _, .tup h a, e => by
    simp only [pyQ] at e
    obtain ⟨ps, e1, rfl⟩ := Option.map_eq_some_iff.mp e
    exact .tup h (dql_of a e1)
  | _, .dct [], _, .dct h1 h2 h3, e => by
    simp only [pyQ] at e
    cases e
    rename_i a kvs
    cases kvs with
    | nil => exact .dic h1
    | cons _ _ => cases h2
  | _, .dct (_ :: _), _, .dct _ _ _, e => by simp only [pyQ] at e; cases e
  | _, .obj _ _, _, .obj _ _ _, e => by simp only [pyQ] at e; cases e
  | _, .exc _ _, _, .exc _ _ _ _, e => by simp only [pyQ] at e; cases e
theorem dql_of : ∀ {vs : List V} {ds : List D} {ps : List PyData}, RepL K H vs ds → pyQL ds = some ps → DqAll K H vs ps
  | _, [], _, .nil, e => by simp only [pyQL] at e; cases e; exact .nil
  | _, d :: ds, _, .cons a b, e => by
    simp only [pyQL] at e
    cases e1 : pyQ d with
    | none => rw [e1] at e; cases e
    | some p =>
      cases e2 : pyQL ds with
      | none => rw [e1, e2] at e; cases e
      | some ps => rw [e1, e2] at e; cases e; exact .cons (dq_of a e1) (dql_of b e2)
end
end
/-- data that may be shown -/
def ReprQ (d : D) (pd : PyData) : Prop := pyQ d = some pd ∧ ∃ n w, Sh n w pd ∧ n ≤ 100 ∧ w ≤ 100000
section
variable {K : PySem.W.Frag} {O : Oc} {F0 : Hp} {ρ : Ro} {Q : X → Ro → Prop} {x y : X} {d : D} {pd : PyData} {s : Str}
theorem c_reprQD (hx : seeD x ρ = some d) (hp : ReprQ d pd) (k : Q (.val (.str pd.shown)) ρ) : Mc K O F0 (rReprU K) [x] ρ Q := fun F H σ vs Qh _ R hu q => by
  obtain ⟨v, rfl, hv⟩ := one_arg hu
  obtain ⟨p1, n, w, sh, hn, hw⟩ := hp
  exact x_reprS (dq_of (look_rep R hv hx) p1) sh hn hw (q _ H _ (.val (.str _)) ρ (Same.refl _) R (Rep.str _) k)
theorem shp_str {z : Str} {w : Nat} (h : (PyData.str z).shown.length ≤ w) {n : Nat} : Sh n w (.str z) := ⟨rfl, by simp only [PyData.depth]; exact Nat.zero_le _, h⟩
theorem shp_bl {b : Bool} {n w : Nat} (h : 5 ≤ w) : Sh n w (.bool b) := ⟨rfl, by simp only [PyData.depth]; exact Nat.zero_le _, by cases b <;> (refine Nat.le_trans (Nat.le_of_ble_eq_true rfl) h)⟩
theorem g_len (k : Mc K O F0 (rLenU K) [x] ρ Q) : Mc K O F0 (rLenU K) [x] ρ Q := k
theorem g_list (k : Mc K O F0 (rListU K) [x] ρ Q) : Mc K O F0 (rListU K) [x] ρ Q := k
theorem g_tupU (k : Mc K O F0 (rTupU K) [x] ρ Q) : Mc K O F0 (rTupU K) [x] ρ Q := k
theorem g_inS {neg : Bool} (k : Mr K O F0 (rInU K neg) (.val (.str s)) y ρ Q) : Mr K O F0 (rInU K neg) (.val (.str s)) y ρ Q := k
end
end SJ

/-! MRt: guards, steps for frequent shapes. -/
namespace SJ
open PySem PySem.Spec PyProof.Rows L2 He LamX
section
variable {K : PySem.W.Frag} {O : Oc} {F0 : Hp} {ρ : Ro} {Q : X → Ro → Prop} {QF : D → Ro → Prop} {ta tb te : TE} {x y : X} {d : D} {s : Str} {gf : Addr} {sp : Sp} {f : Str} {W : WX} {N : Hn} {neg : Bool}
theorem g_pr (k : Me K O F0 (tPr K f gf sp te) ρ Q) : Me K O F0 (tPr K f gf sp te) ρ Q := k
theorem g_ownIn (k : Mr K O F0 (rOwnIn K gf sp neg) x y ρ Q) : Mr K O F0 (rOwnIn K gf sp neg) x y ρ Q := k
theorem g_ownGet (k : Me K O F0 (tOwnGet K gf sp W ta tb) ρ Q) : Me K O F0 (tOwnGet K gf sp W ta tb) ρ Q := k
theorem m_cvalE {C f : Str} {w : V} (hc : ∃ mc u, ClX.CRead K (ga K C) mc ∧ ClX.CVal K (ga K C) mc f w u) (hd : ∀ F, Rep K F w d) (k : Me K O F0 te ρ fun x ρ1 => x = .val (.cls C) ∧ Q (.val d) ρ1) : Me K O F0 (ClX.tCVal K te f) ρ Q := fun F H σ Qh s R c =>
  k F H σ _ s R fun v0 H0 F1 x ρ0 s0 R0 r0 ⟨ex, q⟩ => by
    subst ex
    obtain ⟨mc, u, h1, h2⟩ := hc
    exact ⟨_, _, _, u, rep_cls r0, h1, h2, c _ H0 F1 (.val d) ρ0 s0 R0 (hd _) q⟩
end
end SJ

/-! SJJ: own binary operators that may raise; except (A, B) as n; a lambda without parameters handed to a def. -/
namespace SJ
open PySem PySem.Spec PySem.Calls PyProof.Rows L2 He
/-! ### a op b by the left one's own def -/
/-- whether the type fills the number slot of that name -/
def SlotF (K : PySem.W.Frag) (nm : String) (t : Value) (r : Bool) : Prop := match t with
  | .type T => ∃ fo ro, PySem.W.findIn K (.type T) (PySem.dunder nm) = some fo ∧ PySem.W.findIn K (.type T) (dunderR nm) = some ro ∧ r = ((fo.isSome && !isSeqSlot fo) || (ro.isSome && !isSeqSlot ro))
  | .ref D => r = false ∧ ∃ cd, PySem.W.clsIn K D = some cd ∧ ∀ c ∈ cd.mro, PySem.W.findIn K c (PySem.dunder nm) = some none ∧ PySem.W.findIn K c (dunderR nm) = some none
  | _ => False
/-- the own def of C is asked first -/
def BinOk (K : PySem.W.Frag) (nm : String) (C : Addr) (t : Value) : Prop := t = .ref C ∨ (t ≠ .ref C ∧ ∃ r, SlotF K nm t r ∧ (r = true → PySem.W.subIn K t (.ref C) = some false ∧ ∃ T, t = .type T))
section
variable {M : Model} {h : Heap} {K : PySem.W.Frag} {nm : String} {t : Value} {r : Bool}
theorem any_no {α : Type} {f : α → Sem Bool} : ∀ {l : List α}, (∀ c ∈ l, PySem.W.Looks M h (f c) false) → PySem.W.Looks M h (l.anyM f) false
  | [], _ => .now
  | c :: l, g => by
    rw [List.anyM_cons]
    exact (g c (List.mem_cons_self ..)).andThen (any_no fun d hd => g d (List.mem_cons_of_mem _ hd))
theorem slotF_looks (X : K.In h) (s : SlotF K nm t r) : PySem.W.Looks M h (fillsNumberSlot t nm) r := by
  cases t with
  | type T =>
    obtain ⟨fo, ro, h1, h2, rfl⟩ := s
    exact PySem.W.ksp_fillsT X h1 h2
  | ref D =>
    obtain ⟨rfl, cd, hc, hall⟩ := s
    have Lm : PySem.W.Looks M h (mroOf (.ref D)) cd.mro := (PySem.W.looks_clsIn X hc).andThen (f := fun cd => pure cd.mro) .now
    unfold fillsNumberSlot
    refine Lm.andThen ?_
    refine any_no fun c hcm => ?_
    obtain ⟨e1, e2⟩ := hall c hcm
    have L1 : PySem.W.Looks M h (typeLookup c (PySem.dunder nm)) none := PySem.W.looks_findIn X e1
    have L2 : PySem.W.Looks M h (typeLookup c (dunderR nm)) none := PySem.W.looks_findIn X e2
    have two : PySem.W.Looks M h ([PySem.dunder nm, dunderR nm].anyM fun name => do
        let some x ← typeLookup c name | return false
        if !ownNameWrapper x name then return true
        return !(← inheritsSeqSlot c name)) false := by
      refine any_no fun z hz => ?_
      rcases List.mem_cons.mp hz with rfl | hz
      · exact L1.andThen .now
      · rcases List.mem_cons.mp hz with rfl | hz
        · exact L2.andThen .now
        · cases hz
    cases c with
    | type T => exact L1.andThen (L2.andThen .now)
    | _ => exact two
  | _ => exact s.elim
end
section
variable {prog : Program} {w : World} {A : Around} {E : Value → Shared → Prop} {s : Shared} {K : PySem.W.Frag} {x C L f : Addr} {h₀ : Heap} {m : Str → Option Value} {ox : Obj} {od : Option Obj} {nm T : String}
theorem own_bin {op : Operator} {b tb : Value} {Q : Value → Shared → Prop} (F : PyProof.Rows.Fr h₀ L s.heap m) (X₀ : K.In h₀) (I : PySem.W.InstAt s.heap x ox C od) (hb : PySem.W.Looks (model prog w) s.heap (typeOf b) tb) (hc : PySem.W.selfFirst K C = true)
    (hs : PySem.W.findIn K (.ref C) (PySem.dunder op.info.2) = some (some (.ref f))) (hr : PySem.W.findIn K (.ref C) (dunderR op.info.2) = some none) (hf : PySem.W.isFn K (.ref f) = true) (ok : BinOk K op.info.2 C tb)
    (hcall : wpAny (model prog w) A (call (.ref f) [.ref x, b]) (PySem.W.CmpBack Q) E s) : wpAny (model prog w) A (binaryOp op (.ref x) b) Q E s := by
  rcases ok with rfl | ⟨hne, right, hsl, hright⟩
  · exact PySem.W.binop_K F X₀ I hb hc hs hf hcall
  have X := X₀.keeps F.keep
  obtain ⟨cd, rest, hcd, hm⟩ := PySem.W.ksp_first hc
  rcases hi : op.info with ⟨sym, nm'⟩
  rw [hi] at hs hr hsl
  dsimp only at hs hr hsl
  have one := PySem.W.ksp_try X I hs hf hcall
  have G3 : PySem.W.Looks (model prog w) s.heap (fillsNumberSlot (.ref C) nm') true := PySem.W.fills_K X hcd hm hs
  have G4 : PySem.W.Looks (model prog w) s.heap (fillsNumberSlot tb nm') right := slotF_looks X hsl
  have G6 : PySem.W.Looks (model prog w) s.heap (numberSlotInPython (.ref C) nm') true := PySem.W.ksp_inPy X hs hr (.inl rfl)
  have hne' : (Value.ref C == tb) = false := Bool.eq_false_iff.mpr fun q => hne (beq_iff_eq.mp q).symm
  have fin : ∀ {tk : Option Value}, wpAny (model prog w) A (do
      if let some v ← tryMethod (.ref x) (PySem.dunder nm') b then return some v
      return none : Sem (Option Value)) (fun r s2 => ∃ v, r = some v ∧ Q v s2) E s := fun {tk} => wpAny_bind (wpAny_mono one (fun r s2 z => by obtain ⟨v, rfl, q⟩ := z; exact wpAny_pure ⟨v, rfl, q⟩) fun _ _ z => z)
  have T1 := I.type (M := model prog w)
  cases right with
  | false =>
    obtain ⟨hh, g, d, tt, os⟩ := s
    simp only [binaryOp, hi]
    refine wpAny_holding (wpAny_bind ?_)
    unfold binaryOp1
    refine wpAny_bind (T1.at (wpAny_bind (hb.at (wpAny_bind (G3.at ?_)))))
    simp only [hne', Bool.false_eq_true, if_false]
    ksp_lk
    refine wpAny_mono one (fun r s' z => ?_) fun _ _ e => e
    obtain ⟨v, rfl, hq⟩ := z
    ksp_lk
    exact hq
  | true =>
    obtain ⟨hsub, T, rfl⟩ := hright rfl
    obtain ⟨fo, ro, z1, z2, z3⟩ := hsl
    have G5 : PySem.W.Looks (model prog w) s.heap (isSubtype (.type T) (.ref C)) false := PySem.W.looks_subIn X hsub
    have G7 : PySem.W.Looks (model prog w) s.heap (numberSlotInPython (.type T) nm') false := PySem.W.Looks.of_pure rfl
    have G8 : PySem.W.Looks (model prog w) s.heap (typeLookup (.type T) (dunderR nm')) ro := PySem.W.looks_findIn X z2
    obtain ⟨hh, g, d, tt, os⟩ := s
    simp only [binaryOp, hi]
    refine wpAny_holding (wpAny_bind ?_)
    unfold binaryOp1
    refine wpAny_bind (T1.at (wpAny_bind (hb.at (wpAny_bind (G3.at ?_)))))
    simp only [hne', Bool.false_eq_true, if_false]
    ksp_lk
    refine wpAny_mono one (fun r s' z => ?_) fun _ _ e => e
    obtain ⟨v, rfl, hq⟩ := z
    ksp_lk
    exact hq
end
/-- a op b, the left one's own def, which may raise; what it gives is an object -/
def tOwnBin (K : PySem.W.Frag) (nm : String) (g : Addr) (sp : Sp) (W : WX) (ta tb : TE) : TE := fun σ H Q => ta σ H fun x H1 => tb σ H1 fun y H2 => ∃ a C dx fs t, x = .ref a ∧ H2 a = some (.ins C dx fs) ∧ PySem.W.findIn K (.ref C) (PySem.dunder nm) = some (some (.ref g)) ∧
  PySem.W.findIn K (.ref C) (dunderR nm) = some none ∧ PySem.W.selfFirst K C = true ∧ TyX K H2 y t ∧ BinOk K nm C t ∧ sp [x, y] H2 Q (WE W σ)
section
variable {X : Cx} {k : Nat} {f : Addr} {fd : FuncData} {ps : List Str} {sp : Sp}
theorem pe_ownBin {op : Operator} {nm sy : String} {a b : Expr} {ta tb : TE} {pos : Pos} {W : WX} (F : Fk X.prog X.w X.K X.mg X.base k f fd ps sp) (hr : Rm (k + 1) X.A) (hfn : PySem.W.isFn X.K (.ref f) = true) (hb : Binds X.K fd ps []) (tks : Takes X W) (ha : PE X a ta) (hbb : PE X b tb)
    (hop : op.info = (sy, nm) := by rfl) : PE X (.BinOp a op b pos) (tOwnBin X.K nm f sp W ta tb) := by
  refine ⟨fun pins s σ H Q I h => wpAny_BinOp (thn (ha.run pins s σ H _ I h) fun v s1 ⟨x, H1, I1, rx, q1⟩ => thn (hbb.run pins s1 σ H1 _ I1 q1) fun u s2 ⟨y, H2, I2, ry, q2⟩ => ?_)⟩
  obtain ⟨c, C, dx, fs, t, rfl, hc, he, her, hsf, ty, ok, hs⟩ := q2
  obtain rfl : v = Value.ref c := rx
  obtain ⟨mA, J, _⟩ := ins_get I2.hok hc
  obtain ⟨od, J, _⟩ := J.look
  obtain ⟨m, hF⟩ := I2.fr
  obtain ⟨P, Z, p, _⟩ := kit_of I2 ry ty
  have hn : op.info.2 = nm := by rw [hop]
  have rv : Vals [V.ref c, y] [Value.ref c, u] := .cons rfl (.cons ry .nil)
  have hl : [Value.ref c, u].length = ps.length := by rw [← rv.length]; exact F.len _ _ _ _ hs
  have bb := hb s2 [Value.ref c, u] I2.kIn (by rw [List.append_nil]; exact hl)
  rw [List.append_nil] at bb
  have e0 := I2.env0
  refine own_bin hF I2.ok.mod.kin J (Z.ty _ _ I2.kIn p) hsf (by rw [hn]; exact he) (by rw [hn]; exact her) hfn (by rw [hn]; exact ok) ?_
  refine wpAny_mono (wpAny_call (codeAny_mono (F.run _ X.stack s2 H2 ⟨[Value.ref c, u], []⟩ _ _ Q (WE W σ) (hr.mono (Nat.le_succ _)) e0 bb rv hs) fun rr s3 hq => ?_) (Q := EP X pins σ Q)) (fun v s3 q => back_of q) fun _ _ z => z
  cases rr with
  | error er => exact passAt tks σ pins H2 s2 er s3 I2 hq
  | ok fl =>
    cases fl with
    | ret w => exact I2.after hq
    | next => exact hq.elim
    | brk => exact hq.elim
    | cont => exact hq.elim
end
/-! ### except T as n, T any expression that tells classes -/
/-- the clause's expression, asked of an error of the class cls -/
def HTst (X : Cx) (te : Expr) (m : Value → Option Bool) : Prop := ∀ (a : Addr) (pn : List (Addr × Obj)) (σ : L2.St) (H : Hp) (s : Shared) (cls : Value) (b : Bool) (Q E : Value → Shared → Prop), Inv (X.suite a pn) [] σ H s → PySem.W.Looks (model X.prog X.w) s.heap (typeOf (.ref a)) cls → m cls = some b →
  (∀ c h4, (∀ d o, s.heap.get? d = some o → h4.get? d = some o) → PySem.W.Looks (model X.prog X.w) h4 (excMatches (.ref a) c) b → Q c { s with heap := h4 }) → wpAny (model X.prog X.w) (X.A.mark (some (.ref a))) (eval te X.env) Q E s
section
variable {X : Cx} {x y : Str} {c d : Addr} {p1 p2 pos : Pos}
theorem htst_one (hg : Gl X x) (hm : X.mg x = some (.ref c)) (hdb : (x == ("__debug__" : Str)) = false := by decide) : HTst X (.Name x p1) (fun cls => PySem.W.exmOne X.K cls (.ref c)) := by
  intro a pn σ H s cls b Q E S LT hb k
  exact ld_glob (X := X.suite a pn) S hg hm (k _ s.heap (fun _ _ e => e) (PySem.W.exm_one S.kIn LT hb)) hdb
theorem htst_two {x1} (hg : Gl X x) (hm : X.mg x = some (.ref c)) (hg2 : Gl X y) (hm2 : X.mg y = some (.ref d)) (hdb : (x == ("__debug__" : Str)) = false := by decide) (hdb2 : (y == ("__debug__" : Str)) = false := by decide) :
    HTst X (.Tuple [.Name x p1, .Name y p2] x1 pos) (fun cls => PySem.W.exmAny X.K cls [.ref c, .ref d]) := by
  intro a pn σ H s cls b Q E S LT hb k
  refine wpAny_Tuple_spliced ?_
  show wpAny _ _ (spliced ((false, eval (.Name x p1) X.env) :: backTo pos (starEach [.Name y p2] X.env))) _ _ s
  refine Calls.spliced_cons (ld_glob (X := X.suite a pn) S hg hm ?_ hdb)
  refine Calls.spliced_cons (ld_glob (X := X.suite a pn) S hg2 hm2 ?_ hdb2)
  refine Calls.spliced_nil ⟨by show 2 ≤ sizeLine; decide, ?_⟩
  have kp : ∀ e o, s.heap.get? e = some o → (s.heap.push { cls := .type "tuple", data := .seq [Value.ref c, Value.ref d].toArray }).get? e = some o := fun e o z => Heap.get?_push_of_some _ z
  exact k _ _ kp (PySem.W.exm_tup2 (fun e o z => kp e o (S.kIn e o z)) (LT.keeps kp) (Heap.get?_push_size _ rfl) hb)
end
theorem flying_grow {B h h4 : Heap} {l : List Env} {a : Addr} {Z : Obj → Prop} (f : HandSPX.FlyingZ B l a Z h) (k : ∀ d o, h.get? d = some o → h4.get? d = some o) : HandSPX.FlyingZ B l a Z h4 := by
  obtain ⟨f1, f2, f3, oe, vs, T, oT, ts, q1, q2, q3, q4, q5, q6, q7, q8, q9⟩ := f
  exact ⟨fun d o e => k d o (f1 d o e), f2, f3.of_keeps fun d o e _ => ⟨o, k d o e, rfl⟩, oe, vs, T, oT, ts, k _ _ q1, q2, q3, q4, q5, q6, k _ _ q7, q8, q9⟩
/-- the wish: the clause takes it, then the object stays tracked -/
def wKeepT (m : Value → Option Bool) (i : Nat) (ts : Addr → Value → Option Addr → TS) (Wout : WX) (D : Ends) : WX := fun cls d σ H =>
  ∃ b, m cls = some b ∧ (b = true → ∀ a, H a = none → ts a cls d { nx := fun s2 H2 => D.nx (s2.set i none) (upd H2 a (XW a cls d)), rt := fun v H2 => D.rt v (upd H2 a (XW a cls d)), bk := fun s2 H2 => D.bk (s2.set i none) (upd H2 a (XW a cls d)), ct := fun s2 H2 => D.ct (s2.set i none) (upd H2 a (XW a cls d)) } (σ.set i (some (.ref a))) H) ∧ (b = false → Wout cls d σ H)
def tTryT (m : Value → Option Bool) (i : Nat) (tb : WX → TS) (ts : Addr → Value → Option Addr → TS) (Wout : WX) : TS := fun D σ H => tb (wKeepT m i ts Wout D) D σ H
section
variable {X : Cx} {n : Str} {m : Value → Option Bool} {i : Nat} {body suite : List Stmt} {b0 : Stmt} {te : Expr} {pos pos2 : Pos} {tb : WX → TS} {ts : Addr → Value → Option Addr → TS} {Wo : WX}
theorem ps_tryT (hs : X.stack = X.env :: X.outer) (hf : X.env.frame = some X.env.locals) (hN : X.N.Nodup) (hi : X.N[i]? = some n) (hln : X.env.kindOf n = some .local) (ht : HTst X te m) (tk : Takes X Wo)
    (hb : ∀ (W : WX) (pn : List (Addr × Obj)) (xe : Value → Shared → Prop), Takes (X.tr pn xe) W → PassesOwn (model X.prog X.w) X.A X.env xe → PSs (X.tr pn xe) body (tb W))
    (hsu : ∀ (a : Addr) (oe : Obj) (cls : Value) (d : Option Addr) (pn : List (Addr × Obj)), Zc cls d oe → (∃ vs, oe.data = .fields vs) → PSs (X.suite a ((a, oe) :: pn)) (b0 :: suite) (ts a cls d)) (hex : X.ex = [] := by rfl) :
    PS X (.Try body [.ExceptHandler (some te) (some n) (b0 :: suite) pos2] [] [] pos) (tTryT m i tb ts Wo) := by
  refine ⟨fun pins s σ H D I h => ?_⟩
  have ok := I.ok
  have efr : X.A.frames = some (X.env :: X.outer) := by rw [ok.frames, hs]
  have eloc : Loc X.env.scope n := .inl hln
  refine wpAny_Try_except (wpAny_mono ((hb (wKeepT m i ts Wo D) (X.pn ++ pins) (fun er s1 => wpAny (model X.prog X.w) X.A (noteFrame er X.env) (fun _ s2 => wpAny (model X.prog X.w) X.A (setFlight er none) (fun _ s3 =>
    wpAny (model X.prog X.w) X.A (handleBy er X.env [.ExceptHandler (some te) (some n) (b0 :: suite) pos2]) (SP X pins D) X.xe s3) X.xe s2) X.xe s1) (fun u s2 xx => ?_) PassesOwn.looking).run [] s σ H D (I.toTry _) h) (fun f s1 hsp => ?_) (fun _ _ z => z))
  · obtain ⟨a, B, sI, pins2, σ2, H2, cls, d, rfl, J0, nb, up, sky, na, os, ag, b, hb1, yes, no⟩ := xx
    have J : Inv X pins σ2 H2 sI := J0.ofTry ok
    have sky2 : Sky B (X.env :: X.outer) a (Zc cls d) X.env.locals s2.heap := by rw [← hs]; exact sky
    show wpAny (model X.prog X.w) X.A (noteFrame (.ref a) X.env) _ _ _
    refine Sky.land Zc.steady efr hf sky2 fun h3 fl3 up3 => ?_
    have J3 : Inv X pins σ2 H2 { s2 with heap := h3 } := J.landed nb fl3.1 (up.trans up3) os ag
    obtain ⟨o3, v3, g3, z3, d3⟩ := fl3.there
    have nfr : a ∉ frs (X.env :: X.outer) := fun hm => by
      obtain ⟨_, o4, g4, hnf⟩ := fl3.2.2.1.mem hm
      rw [g3] at g4; cases g4
      exact hnf _ d3
    have nL : a ≠ X.env.locals := fun z => nfr (List.mem_filterMap.mpr ⟨X.env, List.mem_cons_self, by rw [hf, z]⟩)
    have nF : a ∉ X.fs := fun hm => by
      obtain ⟨en, he, q⟩ := List.mem_filterMap.mp hm
      exact nfr (List.mem_filterMap.mpr ⟨en, List.mem_cons_of_mem _ he, q⟩)
    have nB : B.get? a = none := fl3.2.1
    have nI : ∀ o, sI.heap.get? a ≠ some o := fun o z => by
      have y := nb a o z (by rw [hs]; exact nfr)
      rw [nB] at y; cases y
    have S3 := J3.suite g3 d3 na nL nF
    refine wpAny_handleBy_cons (codeAny_handlers_test ?_) (by intro q; cases q)
    have LT : PySem.W.Looks (model X.prog X.w) h3 (typeOf (.ref a)) cls := fun A Q E s k q => wpAny_typeOf_ref (k _ _ g3) (by rw [z3.1]; exact q)
    refine ht a ((a, o3) :: (X.pn ++ pins)) _ _ _ cls b _ _ S3 LT hb1 fun cc h3' kp LM => ?_
    have fl3b := flying_grow fl3 kp
    have up3b : s2.heap.UpToSlots h3' := fun e o z n1 => by
      obtain ⟨sl, q⟩ := up3 e o z n1
      exact ⟨sl, kp _ _ q⟩
    clear LT S3 J3
    obtain ⟨o3, v3, g3, z3, d3⟩ := fl3b.there
    clear up3
    have fl3 := fl3b
    have up3 := up3b
    refine LM.here ?_
    cases b with
    | true =>
      refine codeAny_handlers_suite_as (HandSPX.lands_againZ fl3 fun h4 fl4 up4 => ?_)
      have J4 : Inv X pins σ2 H2 { s2 with heap := h4 } := J.landed nb fl4.1 ((up.trans up3).trans up4) os ag
      obtain ⟨o4, v4, g4, z4, d4⟩ := fl4.there
      have S4 := J4.suite g4 d4 na nL nF
      refine store_ok (X := X.suite a ((a, o4) :: (X.pn ++ pins))) (v := .ref a) S4 hN hi eloc rfl (fun s5 S5 => ?_) (.inr hln)
      refine wpAny_mono ((hsu a o4 cls d (X.pn ++ pins) z4 ⟨_, d4⟩).run [] s5 _ H2 _ S5 (yes rfl a na)) (fun f s6 hsp => ?_) (fun _ _ z => False.elim z)
      have n0 : X.s_0.heap.get? a = none := by
        cases q : X.s_0.heap.get? a with
        | none => rfl
        | some o =>
          obtain ⟨o5, q5⟩ := J.base.there a o q (by rw [hex]; exact List.not_mem_nil)
          exact absurd q5 (nI o5)
      have npn : ∀ p ∈ X.pn ++ pins, p.1 ≠ a := fun p hp e => by
        have q := (J.pin p hp).1
        rw [e] at q
        exact nI _ q
      have fin : ∀ {σ6 : L2.St} {H6 : Hp} {Q : Shared → Prop}, Inv (X.suite a ((a, o4) :: (X.pn ++ pins))) [] σ6 H6 s6 → (∀ s7, Inv X pins (σ6.set i none) (upd H6 a (XW a cls d)) s7 → Q s7) →
          wpAny (model X.prog X.w) X.A (do bindName X.env n .none; unbindBehindTheSuite X.env n pos2) (fun _ s7 => Q s7) X.xe s6 := fun {σ6 H6 Q} S6 hq => by
        obtain ⟨p1, p2, _⟩ := S6.pin (a, o4) (List.mem_append_left _ List.mem_cons_self)
        exact gone_ok (inv_track (S6.unsuite ok) p2 n0 p1 d4 z4 nL npn) hN hi hln hq
      cases f with
      | next => obtain ⟨σ6, H6, S6, q6⟩ := hsp; exact fin S6 fun s7 J7 => ⟨_, _, J7, q6⟩
      | brk => obtain ⟨σ6, H6, S6, q6⟩ := hsp; exact fin S6 fun s7 J7 => ⟨_, _, J7, q6⟩
      | cont => obtain ⟨σ6, H6, S6, q6⟩ := hsp; exact fin S6 fun s7 J7 => ⟨_, _, J7, q6⟩
      | ret u => obtain ⟨v6, σ6, H6, S6, r6, q6⟩ := hsp; exact fin S6 fun s7 J7 => ⟨_, _, _, J7, r6, q6⟩
    | false =>
      show wpAny _ X.A (handleBy (.ref a) X.env []) _ _ _
      refine wpAny_handleBy_nil ?_
      obtain ⟨k1, k2, k3, o5, v5, T5, oT, t5, g5, z5, d5, w5, r5⟩ := id fl3
      unfold PySem.passOn
      refine wpAny_bind (wpAny_field g5 d5 w5 ?_)
      rw [if_neg (show ¬ ((Value.ref T5 == Value.none) = true) from by simp)]
      have fin : wpAny (model X.prog X.w) X.A (setFlight (.ref a) X.env.frame) (fun _ s4 => wpAny (model X.prog X.w) X.A (throw (.ref a) : Sem Flow) (SP X pins D) X.xe s4) X.xe { s2 with heap := h3' } := by
        rw [hf]
        exact HandSPX.setFlight_upZ fl3 fun h4 hh4 up4 => wpAny_throw (tk _ _ ⟨a, B, sI, pins, σ2, H2, cls, d, rfl, J, nb, (up.trans up3).trans up4, .inr (.inr (by rw [hs]; exact hh4)), na, os, ag, no rfl⟩)
      first
        | exact wpAny_bind (wpAny_pure (wpAny_bind fin))
        | exact wpAny_bind fin
  · cases f with
    | next => obtain ⟨σ2, H2, J0, q⟩ := hsp; exact wpAny_execs_nil ⟨σ2, H2, J0.ofTry ok, q⟩
    | brk => obtain ⟨σ2, H2, J0, q⟩ := hsp; exact ⟨σ2, H2, J0.ofTry ok, q⟩
    | cont => obtain ⟨σ2, H2, J0, q⟩ := hsp; exact ⟨σ2, H2, J0.ofTry ok, q⟩
    | ret u => obtain ⟨v, σ2, H2, J0, r, q⟩ := hsp; exact ⟨v, σ2, H2, J0.ofTry ok, r, q⟩
end
/-! ### g(lambda: e) -/
open LamX
/-- a(), in the def that got the lambda -/
def tAct (f c : Addr) (q : Str) (W : WX) (tl : XK → Hp → VK → Prop) : TE := fun σ H Q => ∃ E : XK, (∀ cls d H2, E cls d H2 → W cls d σ H2) ∧ σ[0]? = some (some (.ref f)) ∧ H c = some (CodeO c q) ∧ tl E H Q
section
variable {X : Cx} {pins : List (Addr × Obj)} {σ : L2.St} {H : Hp} {s : Shared}
theorem act_of {Ng : List Str} {qg an : Str} {sg sc : Scope} {g fl cl : Addr} {cdg pm ctv : Value} {pa : Arguments} {bo : Expr} {k : Nat} {pn : List (Addr × Obj)} {xe : Value → Shared → Prop} {W : WX} {tb : XK → TE} {p1 p2 : Pos}
    (J : Inv X pins σ H s) (L : LamS X.env.scope sc) (hob : s.heap.get? fl = some (PySem.W.kla_obj "<lambda>" (X.env.qual ++ "<lambda>") pa bo sc (cloFrom X.env.cells sc.names []) pm cl ctv)) (hno : H fl = none) (hnf : fl ∉ frs X.stack)
    (hbi : bindArgs (PySem.W.kla_fn "<lambda>" (X.env.qual ++ "<lambda>") pa bo sc (cloFrom X.env.cells sc.names []) pm (.ref cl) ctv) ⟨[], []⟩ = pure [])
    (tk : Takes ((cxOf (L2.CX X.prog X.w) X.prog X.w X.K X.mg X.base Ng qg sg g cdg X.A X.stack s H E0).tr pn xe) W) (hr : Rm (k + 1) (X.A.deeper (envOfC qg sg s.heap.objs.size g cdg)))
    (hbody : ∀ (A : Around) (o2 : List Env) (s2 : Shared) (H2 : Hp) (E : XK), Rm k (A.deeper (lamEnv X sc s2.heap.objs.size fl cl)) → PE (lamCx X A o2 s2 H2 E sc fl cl) bo (tb E))
    (hN : Ng[0]? = some an) (hv : Vis sg an) (hd : (an == ("__debug__" : Str)) = false := by decide) (hcd : (an == ("__classdict__" : Str)) = false := by decide) :
    PE ((cxOf (L2.CX X.prog X.w) X.prog X.w X.K X.mg X.base Ng qg sg g cdg X.A X.stack s H E0).tr pn xe) (.Call (.Name an p1) [] [] p2) (tAct fl cl (X.env.qual ++ "<lambda>") W fun E H2 Q => tb E σ H2 Q) := by
  refine ⟨fun pz sz σz Hz Q JZ h => ?_⟩
  obtain ⟨E, hW, hs, hc, ht⟩ := h
  refine wpAny_Call_Name_kw (thn ((pe_var (pos := p1) (i := 0) hN hv hd hcd).run pz sz σz Hz (fun v G => v = .ref fl ∧ G = Hz) JZ ⟨.ref fl, hs, rfl, rfl⟩) fun u t1 ⟨v, G, J1, rr, qv, qG⟩ => ?_)
  subst qv qG
  obtain rfl : u = Value.ref fl := rr
  have of1 := J1.base.keep fl _ hob hno hnf fun z => absurd (show fl ∈ ([] : List Addr) from z) (by simp)
  have un : Un (frs X.stack) [] H G s.heap t1.heap := J1.base
  obtain ⟨⟨oc, vs, tt, c1, c2, c3⟩, _, _⟩ := J1.hok cl _ hc
  refine PySem.W.callWith_F0 ⟨_, _, _, _, of1⟩ (wpAny_call (codeAny_mono (?_ : codeAny (model X.prog X.w) (X.A.deeper (envOfC qg sg s.heap.objs.size g cdg)) (.call (.ref fl) ⟨[], []⟩) (CR (L2.CX X.prog X.w) (envOfC qg sg s.heap.objs.size g cdg :: X.stack) X.prog X.w G t1 Q E) t1) fun r t2 hq => ?_))
  · refine PySem.W.kla_callFunE hr.r.depth of1 rfl L.co L.gen rfl ⟨cl, oc, vs, tt, rfl, c1, c2, c3⟩ ?_
    rw [hbi]
    refine wpAny_pure (wpAny_newFunctionEnv (fun y hy => (L.own y hy).2) (fun y hy => nomatch hy) (fun g1 hns hsb => ⟨J1.nolimit.fresh _ hsb, ?_⟩) L.kind)
    have kp : ∀ b o, t1.heap.get? b = some o → g1.get? b = some o := fun b o e => hsb.extBut b o (Nat.ne_of_lt (Heap.lt_size e)) (Heap.get?_push_of_some _ e)
    have J2 : Inv (lamCx X (X.A.deeper (envOfC qg sg s.heap.objs.size g cdg)) (envOfC qg sg s.heap.objs.size g cdg :: X.stack) t1 G E sc fl cl) [] σ G { t1 with heap := g1, toks := t1.toks + ([] : List (Str × Value)).length } := lam_start2 J L J1.env0 hr.r.hd un hns kp
    show codeAny _ _ (.expr bo (lamEnv X sc t1.heap.objs.size fl cl)) _ _
    refine PySem.W.kla_codeExpr (wpAny_mono ((hbody _ _ t1 G E (hr.deeper _)).run [] _ _ G Q J2 ht) (fun v t3 ⟨z, G3, J3, rv, q⟩ => ⟨z, G3, J3.os, J3.bare, J3.base, J3.hok, rv, q⟩) fun _ _ z => z)
  · cases r with
    | error e => exact tk e t2 (XE.of_call J1 (fun cls d G2 z => hW cls d G2 z) hq)
    | ok fl2 =>
      cases fl2 with
      | ret u => exact J1.after hq
      | next => exact hq.elim
      | brk => exact hq.elim
      | cont => exact hq.elim
end
/-- the def that calls what it got; TT: what it makes of that -/
def GivesR (X : Cx) (k : Nat) (Ng : List Str) (qg : Str) (sg : Scope) (g : Addr) (cdg : Value) (bg : List Stmt) (an q : Str) (TT : (XK → Hp → VK → Prop) → Hp → VK → Prop) : Prop :=
  ∀ (f c : Addr) (s : Shared) (H : Hp) (Q : VK) (tl : XK → Hp → VK → Prop), Rm (k + 1) (X.A.deeper (envOfC qg sg s.heap.objs.size g cdg)) →
    (∀ (W : WX) (pn : List (Addr × Obj)) (xe : Value → Shared → Prop) (p1 p2 : Pos), Takes ((cxOf (L2.CX X.prog X.w) X.prog X.w X.K X.mg X.base Ng qg sg g cdg X.A X.stack s H E0).tr pn xe) W →
      PE ((cxOf (L2.CX X.prog X.w) X.prog X.w X.K X.mg X.base Ng qg sg g cdg X.A X.stack s H E0).tr pn xe) (.Call (.Name an p1) [] [] p2) (tAct f c q W tl)) →
    H c = some (CodeO c q) → TT tl H Q →
    ∃ t, PSs (cxOf (L2.CX X.prog X.w) X.prog X.w X.K X.mg X.base Ng qg sg g cdg X.A X.stack s H E0) bg t ∧ t { nx := fun _ H2 => Q .non H2, rt := Q } (start Ng [.ref f]) H
/-- the readings of a lambda's body: what it raises is told at the very names -/
def tS (t : WX → TE) : XK → TE := fun E σ H Q => t (fun cls d σ2 H2 => σ2 = σ ∧ E cls d H2) σ H Q
theorem pe_tS {X : Cx} {e : Expr} {t : WX → TE} {E : XK} (tk : Takes X (WO E)) (h : ∀ W, Takes X W → PE X e (t W)) : PE X e (tS t E) := by
  refine ⟨fun pins s σ H Q I q => (h (fun cls d σ2 H2 => σ2 = σ ∧ E cls d H2) (fun u s2 ⟨a, B, sI, pz, σ3, H3, cls, d, q1, q2, q3, q4, q5, q6, q7, q8, _, q9⟩ => tk u s2 ⟨a, B, sI, pz, σ3, H3, cls, d, q1, q2, q3, q4, q5, q6, q7, q8, q9⟩)).run pins s σ H Q I q⟩
section
variable {X : Cx}
theorem takes_lam {A : Around} {o2 : List Env} {s2 : Shared} {H2 : Hp} {E : XK} {sc : Scope} {fl cl : Addr} : Takes (lamCx X A o2 s2 H2 E sc fl cl) (WO E) := takes_of rfl rfl rfl rfl
theorem pe_lamR {T : List (Addr × Str)} {TT : (XK → Hp → VK → Prop) → Hp → VK → Prop} {x qg an : Str} {g c P : Addr} {k : Nat} {pg pa : Arguments} {bg : List Stmt} {sg sc : Scope} {dvs : List V} {kws : List (Str × V)} {fd : FuncData} {Ng : List Str}
    {bo : Expr} {t : XK → TE} {p lp pos : Pos} (D : FunD X.K x qg pg bg sg dvs kws g fd) (hg : Gl X x) (hm : X.mg x = some (.ref g)) (hk : PySem.W.keepIn X.K (.ref g) = true) (hb : L2.Binds X.K fd [an] []) (Sg : FnScope Ng [an] sg) (hN : Ng[0]? = some an) (hv : Vis sg an)
    (hG : ∀ cdv, GivesR X k Ng qg sg g cdv bg an (X.env.qual ++ "<lambda>") TT) (TB : TabB X.base X.mg c P) (hcode : X.env.code = .ref c) (hmT : (P, X.env.qual ++ "<lambda>") ∈ T) (hu : ∀ p ∈ T, p.1 = P → p.2 = X.env.qual ++ "<lambda>") (hr : Rm (k + 2) X.A) (L : LamS X.env.scope sc)
    (hdf : defaultsOf pa X.env = ([], [])) (hbi : ∀ (q : Str) (cl : List (Str × Addr)) (pm cv ctv : Value), bindArgs (PySem.W.kla_fn "<lambda>" q pa bo sc cl pm cv ctv) ⟨[], []⟩ = pure [])
    (hbody : ∀ (A : Around) (o2 : List Env) (s2 : Shared) (H2 : Hp) (E : XK) (fl cl : Addr), Rm k (A.deeper (lamEnv X sc s2.heap.objs.size fl cl)) → PE (lamCx X A o2 s2 H2 E sc fl cl) bo (t E))
    (hdb : (x == ("__debug__" : Str)) = false := by decide) (hd : (an == ("__debug__" : Str)) = false := by decide) (hcd : (an == ("__classdict__" : Str)) = false := by decide) :
    PE X (.Call (.Name x p) [.Lambda pa bo sc lp] [] pos) (tLam T TT t) := by
  refine ⟨fun pins s σ H Q I ⟨hT, h⟩ => wpAny_Call_Name_kw (ld_glob I hg hm (PySem.W.callWith_K (h₀ := X.base) I.ok.mod.kin hk ?_ (by rfl) (by rfl)) hdb)⟩
  show wpAny _ _ (spliced ((false, eval (.Lambda pa bo sc lp) X.env) :: backTo pos (starEach [] X.env))) _ _ s
  refine Calls.spliced_cons (lam_make2 I TB hcode hmT hu hT hdf (L.has I.ok) fun f cl pm2 ctv H1 s2 I1 eN T1 hf hfn hfr hco => Calls.spliced_nil ⟨I1.kIn, ?_⟩)
  obtain ⟨oc, od, dV, kV, doc, pm, an0, cdv, ct, osl, rfl, lk, hcg, _, _⟩ := D.ex
  have e0 := I1.env0
  have KX : X.K.In s2.heap := e0.mod.kin.keeps fun b o z => (e0.bs b o z).1
  have lim : s2.heap.NoLimit := e0.mod.nolimit.keeps fun b o z => (e0.bs b o z).1
  have rv : Vals [V.ref f] [Value.ref f] := .cons rfl .nil
  have kinds : ∀ y ∈ [an].zip [Value.ref f], sg.names.lookup y.1 = some .local ∨ (sg.names.lookup y.1 = some .cell ∧ ((cellsFrom (s2.heap.objs.size + 1) sg.names []).lookup y.1).isSome = true) := fun ⟨n, v⟩ hy => by
    rcases Sg.par n (List.of_mem_zip hy).1 with z | z
    · exact .inl z
    · exact .inr ⟨z, PySem.W.cellsFrom_some _ _ _ (.inl z)⟩
  have rc : codeAny (model X.prog X.w) X.A (.call (.ref g) ⟨[.ref f], []⟩) (CR (L2.CX X.prog X.w) X.stack X.prog X.w H1 s2 Q E0) s2 := by
    refine codeAny_call_function hr.r.depth (KX _ _ lk) rfl Sg.co Sg.gen rfl (PySem.W.codeRec_of KX hcg) (hb s2 [.ref f] I1.kIn rfl _ _ _ _ (wpAny_newFunctionEnv_cells Sg.kind kinds fun env he s3 x1 => ?_))
    subst he
    refine ⟨lim.keeps x1.toInCall.keep, codeAny_func ?_⟩
    obtain ⟨t2, ht, hq⟩ := hG cdv f cl s2 H1 Q (fun E H2 Q2 => t E σ H2 Q2) (hr.deeper _) (fun W pn xe p1 p2 tk => act_of I1 L hf hfn hfr (hbi _ _ _ _ _) tk (hr.deeper _) (fun A o2 s4 H4 E hr2 => hbody A o2 s4 H4 E f cl hr2) hN hv hd hcd) hco (h H1 eN T1)
    have I3 : Inv (cxOf (L2.CX X.prog X.w) X.prog X.w X.K X.mg X.base Ng qg sg g cdv X.A X.stack s2 H1 E0) [] (start Ng [.ref f]) H1 s3 := inv_start Sg hr.r.hd e0 rfl rv x1
    refine wpAny_mono (ht.run [] s3 (start Ng [.ref f]) H1 _ I3 hq) (fun fl s4 hs => ?_) fun _ _ z => z
    cases fl with
    | ret u => obtain ⟨v, σ2, H2, J, r2, q⟩ := hs; exact ⟨v, H2, J.os, J.bare, J.base, J.hok, r2, q⟩
    | next => obtain ⟨σ2, H2, J, q⟩ := hs; exact ⟨.non, H2, J.os, J.bare, J.base, J.hok, rfl, q⟩
    | brk => obtain ⟨_, _, _, q⟩ := hs; exact q.elim
    | cont => obtain ⟨_, _, _, q⟩ := hs; exact q.elim
  refine wpAny_call (codeAny_mono rc fun r s3 hq => ?_)
  cases r with
  | error er => obtain ⟨_, _, _, _, _, _, _, _, _, _, _, _, z⟩ := hq; exact z.elim
  | ok fl =>
    cases fl with
    | ret w => exact I1.after hq
    | next => exact hq.elim
    | brk => exact hq.elim
    | cont => exact hq.elim
end
end SJ

/-! MRu: own binary operators, a lambda handed to a def that tries it. -/
namespace SJ
open PySem PySem.Spec PyProof.Rows L2 He LamX
section
variable (K : PySem.W.Frag) (O : Oc) (F0 : Hp)
/-- what is raised, and what is told, at one row of names -/
def WrA (W : WX) (σ : L2.St) (Xp : XP) : Prop := ∀ (F H : Hp) (ρ : Ro) (c : Str) (fs : List (Str × D)) (dd : Addr) (fvs : List (Str × V)), Same F0 F → H dd = some (.xd fvs) → RS K { O with o := upd O.o dd (.xd fvs) } F H σ ρ → O.o dd = none → RepP K F fvs fs → Xp c fs ρ → W (.ref (ga K c)) (some dd) σ H
def MeA (σ : L2.St) (t : TE) (ρ : Ro) (Q : X → Ro → Prop) : Prop := ∀ (F H : Hp) (Qh : VK), Same F0 F → RS K O F H σ ρ → (∀ v H2 F2 x ρ2, Same F F2 → RS K O F2 H2 σ ρ2 → XvR K F2 σ v x → Q x ρ2 → Qh v H2) → t σ H Qh
end
def OwnBn (K : PySem.W.Frag) (c : Str) (nm : String) (g : Addr) : Prop := PySem.W.findIn K (.ref (ga K c)) (PySem.dunder nm) = some (some (.ref g)) ∧ PySem.W.findIn K (.ref (ga K c)) (dunderR nm) = some none ∧ PySem.W.selfFirst K (ga K c) = true
section
variable {K : PySem.W.Frag} {O : Oc} {F0 F F2 F3 H H2 H3 : Hp} {σ σ2 : L2.St} {ρ ρ2 : Ro} {Q : X → Ro → Prop} {QA : List X → Ro → Prop} {ta tb te : TE} {tA : TA} {ts tz : TS} {N : Hn} {n : Nat} {x y : X} {d e : D} {p : Addr} {o o2 : HO} {ds es : List D} {W : WX} {Xp : XP} {s z : Str} {cn : Str} {v : V} {gf : Addr} {P : PD} {nm : String} {vs : List V}
theorem MeA.of (h : Me K O F0 te ρ Q) : MeA K O F0 σ te ρ Q := fun F H Qh s R c => h F H σ Qh s R c
theorem WrA.of (h : Wr K O F0 W Xp) : WrA K O F0 W σ Xp := fun F H ρ c fs dd fvs a b d e f g => h F H σ ρ c fs dd fvs a b d e f g
theorem wrF : Wr K O F0 W fun _ _ _ => False := fun _ _ _ _ _ _ _ _ _ _ _ _ _ z => z.elim
theorem call_puA {P : PD} {Qh : VK} {Qd : D → Prop} {Ed : Str → List (Str × D) → Prop} (R : RS K O F H σ ρ) (s : Same F0 F) (hW : WrA K O F0 W σ Xp) (rv : RepL K F vs ds) (h : P ds Qd Ed) (hq : ∀ d, Qd d → ∀ v H2 F2, Same F F2 → RS K O F2 H2 σ ρ → Rep K F2 v d → Qh v H2) (he : ∀ c fs, Ed c fs → Xp c fs ρ) : spS K O.T (pu P) vs H Qh (WE W σ) := by
  refine ⟨⟨beside F H fun a => tx (H a), none, O.T⟩, F, _, rfl, R.enter rv, ds, Qd, Ed, rfl, h, fun d q v H2 F2 s2 C r => hq d q v H2 F2 s2 (R.after C s2) r, fun c fs q dd H2 F2 fvs s2 hd C hn rp => ?_⟩
  obtain ⟨R2, z⟩ := R.afterX C s2 hn (Same.refl _) (fun a e => .inr ⟨(tx_no R e).1, (tx_no R e).2.2⟩) (fun e => ⟨(tx_no R e).1, (tx_no R e).2.2⟩)
  exact hW F2 H2 ρ c fs dd fvs (Same.trans s s2) hd R2 z rp (he c fs q)
theorem ma_ownBin (hW : WrA K O F0 W σ Xp) (k : Me K O F0 ta ρ fun x ρ1 => Me K O F0 tb ρ1 fun y ρ2 => Frz x ρ2 fun d ρ3 => Frz y ρ3 fun e ρ4 => ∃ c fds, d = .obj c fds ∧ OwnBn K c nm gf ∧ TyOk K e ∧ BinOk K nm (ga K c) (tyD K e) ∧ P [d, e] (fun z => Q (.val z) ρ4) fun c fs => Xp c fs ρ4) :
    MeA K O F0 σ (tOwnBin K nm gf (spS K O.T (pu P)) W ta tb) ρ Q := fun F H Qh s R c =>
  k F H σ _ s R fun v1 H1 F1 x ρ1 s1 R1 r1 k1 => k1 F1 H1 σ _ (Same.trans s s1) R1 fun v2 H2 F2 y ρ2 s2 R2 r2 k2 => by
    obtain ⟨d, e, ρ3, F3, s3, R3, r3, r4, cn, fds, rfl, ho, ht, hbn, q⟩ := frz2_of R2 (r1.mono s2) r2 k2
    have ty := ty_rep (x := .val e) R3 r4 rfl ht
    obtain ⟨a, dx, fs, rfl, h1, h2⟩ := r3.objP
    refine ⟨a, _, dx, fs, _, rfl, R3.fh _ _ h1, ho.1, ho.2.1, ho.2.2, ty, hbn, ?_⟩
    exact call_puA R3 (Same.trans s (Same.trans s1 (Same.trans s2 s3))) hW (.cons r3 (.cons r4 .nil)) q (fun d qd v H4 F4 s4 R4 r5 => c v H4 F4 (.val d) ρ3 (Same.trans s1 (Same.trans s2 (Same.trans s3 s4))) R4 r5 qd) fun _ _ z => z
theorem m_ownBin (hW : Wr K O F0 W Xp) (k : Me K O F0 ta ρ fun x ρ1 => Me K O F0 tb ρ1 fun y ρ2 => Frz x ρ2 fun d ρ3 => Frz y ρ3 fun e ρ4 => ∃ c fds, d = .obj c fds ∧ OwnBn K c nm gf ∧ TyOk K e ∧ BinOk K nm (ga K c) (tyD K e) ∧ P [d, e] (fun z => Q (.val z) ρ4) fun c fs => Xp c fs ρ4) :
    Me K O F0 (tOwnBin K nm gf (spS K O.T (pu P)) W ta tb) ρ Q := fun F H σ Qh s R c => ma_ownBin (WrA.of hW) k F H Qh s R c
/-! #### g(lambda: e), g trying it -/
abbrev OutE := Option (Str × List (Str × D))
/-- what g makes of what its argument does; CR o Qd: of the outcome o it tells what Qd holds of -/
def TTm (K : PySem.W.Frag) (T : List (Addr × Str)) (CR : OutE → (D → Prop) → Prop) : (XK → Hp → VK → Prop) → Hp → VK → Prop := fun tl H Q => ∀ (E : XK) (Kq : VK),
  (∀ cls d H2, (∃ c fs o2 F2 fvs dd Qd, cls = .ref (ga K c) ∧ d = some dd ∧ H2 dd = some (.xd fvs) ∧ RS K ⟨upd o2 dd (.xd fvs), none, T⟩ F2 H2 [] [] ∧ o2 dd = none ∧ RepP K F2 fvs fs ∧ CR (some (c, fs)) Qd ∧
      ∀ e v H3 F3, Qd e → Same F2 F3 → RS K ⟨o2, none, T⟩ F3 H3 [] [] → Rep K F3 v e → Q v H3) → E cls d H2) →
  (∀ v H2, (∃ o2 F2 Qd, RS K ⟨o2, none, T⟩ F2 H2 [] [] ∧ CR none Qd ∧ ∀ e v H3 F3, Qd e → Same F2 F3 → RS K ⟨o2, none, T⟩ F3 H3 [] [] → Rep K F3 v e → Q v H3) → Kq v H2) → tl E H Kq
theorem m_lam {CR : OutE → (D → Prop) → Prop} {t : WX → TE}
    (k : ∀ (W : WX) (σ : L2.St) (F1 : Hp), Same F0 F1 → WrA K O F1 W σ (fun c fs ρ2 => CR (some (c, fs)) fun e => Q (.val e) ρ2) → MeA K O F1 σ (t W) ρ fun _ ρ2 => CR none fun e => Q (.val e) ρ2) : Me K O F0 (tLam O.T (TTm K O.T CR) (tS t)) ρ Q := fun F H σ Qh s R c => by
  refine ⟨R.tb, fun H1 hE hT E Kq hE2 hK2 => ?_⟩
  have R1 := R.extN hE hT
  refine k _ σ F s (fun F2 H2 ρ2 c2 fs dd fvs s2 hd R2 hn rp q => ⟨rfl, hE2 _ _ _ ?_⟩) F H1 _ (Same.refl _) R1 fun v H2 F2 x ρ2 s2 R2 r2 q => hK2 _ _ ?_
  · exact ⟨beside F2 H2 fun a => tx (H2 a), F2, _, R2.enter (vs := []) (ds := []) .nil, q, fun e v3 H3 F3 qe s3 C r3 => c v3 H3 F3 (.val e) ρ2 (Same.trans s2 s3) (R2.after C s3) r3 qe⟩
  · obtain ⟨B1, B2, B3, B4⟩ := R2.back hn
    have C0 := R2.enter (vs := []) (ds := []) .nil
    refine ⟨c2, fs, beside F2 H2 fun a => tx (H2 a) || decide (a = dd), F2, fvs, dd, _, rfl, rfl, hd, ?_, ?_, rp, q, fun e v H3 F3 qe s3 C r3 => ?_⟩
    · have ot : ∀ a o, beside F2 H2 (fun a => tx (H2 a) || decide (a = dd)) a = some o → NX o := fun a o z => by
        obtain ⟨e1, e2, e3⟩ := beside_some z
        have e4 : (tx (H2 a) || decide (a = dd)) = false := e2
        rw [e3] at e4
        exact nx_of (Bool.or_eq_false_iff.mp e4).1
      have C1 : RS K ⟨beside F2 H2 fun a => tx (H2 a) || decide (a = dd), none, O.T⟩ F2 H2 [] [] := ⟨C0.fh, (fun a o z => (beside_some (q := fun a => tx (H2 a) || decide (a = dd)) z).2.2), (fun a o z => (beside_some (q := fun a => tx (H2 a) || decide (a = dd)) z).1), C0.tb, ot, C0.ft, (fun v e => nomatch e), rfl, fun i => trivial, fun i j a _ m => nomatch m⟩
      exact C1.out hd nx_xd B2 fun i m => nomatch m
    · show beside F2 H2 (fun a => tx (H2 a) || decide (a = dd)) dd = none
      unfold beside
      rw [B2]
      simp
    · refine c v H3 F3 (.val e) ρ2 (Same.trans s2 s3) (B1.after_ C s3 (Same.refl _) rfl fun a ha => .inr ?_) r3 qe
      rcases Bool.or_eq_true_iff.mp ha with z | z
      · exact ⟨(tx_no B1 z).1, (tx_no B1 z).2.2⟩
      · obtain rfl := of_decide_eq_true z
        exact ⟨hn, B4⟩
/-- names that hold plain values alone -/
theorem RS.names (R : RS K O F H [] []) (hw : O.w = none) (hl : σ.length = ρ.length) (h : ∀ i, (sl ρ i).mut = false ∧ SlOk K O.o F H (sv σ i) (sl ρ i)) : RS K O F H σ ρ :=
  ⟨R.fh, R.oh, R.dj, R.tb, R.ot, R.ft, (fun v e => by rw [hw] at e; cases e), hl, fun i => (h i).2, fun i j a _ m => by rw [(h i).1] at m; cases m⟩
theorem RS.nowt (R : RS K O F H σ ρ) : RS K { O with w := none } F H [] [] :=
  ⟨R.fh, R.oh, R.dj, R.tb, R.ot, R.ft, (fun v e => nomatch e), rfl, fun i => trivial, fun i j a _ m => nomatch m⟩
def outD : OutE → D
  | none => .non
  | some (c, fs) => .exc c fs
/-- x = None; try: a() except .. as e: x = e; what follows looks at x -/
theorem gives_try {T : List (Addr × Str)} {CR : OutE → (D → Prop) → Prop} {tl : XK → Hp → VK → Prop} {m : Value → Option Bool} {rest : TS} {f c : Addr} {q : Str} {Qh : VK} {n1 n2 n3 : Str} (h : TTm K T CR tl H Qh) (hc : H c = some (CodeO c q))
    (hm : ∀ cn fs Qd, CR (some (cn, fs)) Qd → m (.ref (ga K cn)) = some true)
    (hrest : ∀ (o2 : Hp) (F1 : Hp) (o : OutE) (Qd : D → Prop), CR o Qd → Ms K ⟨o2, none, T⟩ F1 rest [.none, .val (outD o), .none] { nx := fun _ => Qd .non, rt := fun e _ => Qd e }) :
    tSeq (tAsg (tC .non) (gName 1)) (tSeq (tTryT m 2 (fun W => tDrop (tAct f c q W tl)) (fun _ _ _ => tAsg (tVar 2) (gName 1)) W0) rest) { nx := fun _ H2 => Qh .non H2, rt := Qh } (start [n1, n2, n3] [.ref f]) H := by
  have key : ∀ (o2 F2 H2 : Hp) (o : OutE) (Qd : D → Prop) (v : V), RS K ⟨o2, none, T⟩ F2 H2 [] [] → Rep K F2 v (outD o) → CR o Qd → (∀ e v H3 F3, Qd e → Same F2 F3 → RS K ⟨o2, none, T⟩ F3 H3 [] [] → Rep K F3 v e → Qh v H3) →
      rest { nx := fun _ H2 => Qh .non H2, rt := Qh } [some (.ref f), some v, none] H2 := fun o2 F2 H2 o Qd v R rv hcr hq => by
    refine hrest o2 F2 o Qd hcr F2 H2 _ _ (Same.refl _) (R.names rfl rfl fun i => ?_) ⟨fun F3 H3 σ3 ρ3 s3 C z => hq _ _ H3 F3 z s3 C.nowt .non, fun F3 H3 σ3 ρ3 v3 d3 s3 C r3 z => hq _ _ H3 F3 z s3 C.nowt r3, fun _ _ _ _ _ _ z => z.elim, fun _ _ _ _ _ _ z => z.elim, fun _ _ _ _ _ _ _ _ _ z => z.elim⟩
    match i with
    | 0 => exact ⟨rfl, trivial⟩
    | 1 => exact ⟨rfl, v, rfl, rv⟩
    | 2 => exact ⟨rfl, trivial⟩
    | i + 3 => exact ⟨rfl, trivial⟩
  refine ⟨fun cls d H2 => wKeepT m 2 (fun _ _ _ => tAsg (tVar 2) (gName 1)) W0 { nx := rest { nx := fun _ H2 => Qh .non H2, rt := Qh }, rt := Qh } cls d (List.set (start [n1, n2, n3] [V.ref f]) 1 (some V.non)) H2, fun cls d H2 z => z, rfl, hc, h _ _ (fun cls d H2 hx => ?_) fun v H2 hx => ?_⟩
  · obtain ⟨cn, fs, o2, F2, fvs, dd, Qd, rfl, rfl, hd, R2, hn, rp, hcr, hq⟩ := hx
    refine ⟨true, hm _ _ _ hcr, fun _ a ha => ?_, fun z => nomatch z⟩
    obtain ⟨B1, B2, B3, B4⟩ := R2.back (O := ⟨o2, none, T⟩) hn
    obtain ⟨R3, s3⟩ := B1.thawT (o := .xd fvs) B3 (fun ps z => nomatch z) B2 hn B4
    have hdd : dd ≠ a := fun z => by rw [← z, hd] at ha; cases ha
    have R4 : RS K ⟨o2, none, T⟩ (upd F2 dd (.xd fvs)) (upd H2 a (XW a (.ref (ga K cn)) (some dd))) [] [] := R3.allocN ha
    obtain ⟨f1, f2⟩ := R3.free ha
    obtain ⟨R5, s5⟩ := R4.thawT (p := a) (o := XW a (.ref (ga K cn)) (some dd)) upd_same (fun ps z => nomatch z) f1 f2 (R3.no_new ha)
    have rv : Rep K (upd (upd F2 dd (.xd fvs)) a (XW a (.ref (ga K cn)) (some dd))) (.ref a) (.exc cn fs) := .exc upd_same (by rw [upd_ne hdd, upd_same]) (rp.mono (Same.trans s3 s5)).1 (rp.mono (Same.trans s3 s5)).2
    refine ⟨.ref a, rfl, ?_⟩
    exact key o2 _ _ (some (cn, fs)) Qd (.ref a) R5 rv hcr fun e v H3 F3 qe s6 => hq e v H3 F3 qe (Same.trans s3 (Same.trans s5 s6))
  · obtain ⟨o2, F2, Qd, R2, hcr, hq⟩ := hx
    exact key o2 F2 H2 none Qd .non R2 .non hcr hq
end
end SJ

/-! SJL: tests of own operators and of clauses with several classes; dict(d). -/
namespace SJ
open PySem PySem.Spec PyProof.Rows L2 He
def slotB (K : PySem.W.Frag) (nm : String) (C : Addr) (t : Value) : Bool := match t with
  | .type T => (match PySem.W.findIn K (.type T) (PySem.dunder nm), PySem.W.findIn K (.type T) (dunderR nm) with
    | some fo, some ro => !((fo.isSome && !isSeqSlot fo) || (ro.isSome && !isSeqSlot ro)) || decide (PySem.W.subIn K (.type T) (.ref C) = some false)
    | _, _ => false)
  | .ref D => (match PySem.W.clsIn K D with
    | some cd => cd.mro.all fun c => decide (PySem.W.findIn K c (PySem.dunder nm) = some none) && decide (PySem.W.findIn K c (dunderR nm) = some none)
    | none => false)
  | _ => false
def bnT (nm : String) (c : Str) (t : PySem.W.Frag → Value) : Tst := fun K => decide (t K = .ref (ga K c)) || (!decide (t K = .ref (ga K c)) && slotB K nm (ga K c) (t K))
theorem bnT_ok {K : PySem.W.Frag} {nm : String} {c : Str} {t : PySem.W.Frag → Value} (h : bnT nm c t K = true) : BinOk K nm (ga K c) (t K) := by
  unfold bnT at h
  rcases Bool.or_eq_true_iff.mp h with h | h
  · exact .inl (of_decide_eq_true h)
  · obtain ⟨h1, h2⟩ := Bool.and_eq_true_iff.mp h
    refine .inr ⟨(fun e => by rw [decide_eq_true e] at h1; cases h1), ?_⟩
    generalize t K = tv at h2
    unfold slotB at h2
    cases tv with
    | type T =>
      simp only at h2
      cases e1 : PySem.W.findIn K (.type T) (PySem.dunder nm) with
      | none => rw [e1] at h2; cases h2
      | some fo =>
        cases e2 : PySem.W.findIn K (.type T) (dunderR nm) with
        | none => rw [e1, e2] at h2; cases h2
        | some ro =>
          rw [e1, e2] at h2
          refine ⟨_, ⟨fo, ro, e1, e2, rfl⟩, fun hr => ?_⟩
          simp only at h2
          rw [hr] at h2
          exact ⟨of_decide_eq_true h2, T, rfl⟩
    | ref D =>
      simp only at h2
      cases e1 : PySem.W.clsIn K D with
      | none => rw [e1] at h2; cases h2
      | some cd =>
        rw [e1] at h2
        refine ⟨false, ⟨rfl, cd, e1, fun d hd => ?_⟩, fun z => nomatch z⟩
        obtain ⟨z1, z2⟩ := Bool.and_eq_true_iff.mp (List.all_eq_true.mp h2 d hd)
        exact ⟨of_decide_eq_true z1, of_decide_eq_true z2⟩
    | _ => cases h2
def exaT (t : PySem.W.Frag → Value) (cs : PySem.W.Frag → List Value) (b : Bool) : Tst := fun K => decide (PySem.W.exmAny K (t K) (cs K) = some b)
theorem exaT_ok {K : PySem.W.Frag} {t : PySem.W.Frag → Value} {cs : PySem.W.Frag → List Value} {b : Bool} (h : exaT t cs b K = true) : PySem.W.exmAny K (t K) (cs K) = some b := of_decide_eq_true h
def rDictD : List V → Hp → VK → Prop := fun xs H Q => ∃ (a : Addr) (kvs : List (Key × V)), xs = [.ref a] ∧ Rd H a (.dK kvs) ∧ ∀ p, H p = none → Q (.ref p) (upd H p (.dK kvs))
theorem c_dictD {X : Cx} : CallR X (.type "dict") rDictD := call_dictD
end SJ

/-! MRv: errors asked for their class, dict(d), targets of two names. -/
namespace SJ
open PySem PySem.Spec PyProof.Rows L2 He
section
variable {K : PySem.W.Frag} {O : Oc} {F0 F F2 F3 H H2 H3 : Hp} {σ σ2 : L2.St} {ρ ρ2 : Ro} {Q : X → Ro → Prop} {QF : D → Ro → Prop} {te : TE} {N : Hn} {x y : X} {d e : D} {g : TG} {js : List Nat} {kds : List (Key × D)} {b : Bool} {c cn : Str} {fs : List (Str × D)}
theorem c_isiCU (hx : seeD x ρ = some d) (hd : TyOk K d) (hk : PySem.W.kitOne K (tyD K d) (.ref (ga K c)) = some b) (k : Q (.val (.bl b)) ρ) : Mc K O F0 (rIsiU K) [x, .val (.cls c)] ρ Q := fun F H σ vs Qh s R hu q => .inl (c_isiC hx hd hk k F H σ vs Qh s R hu q)
theorem c_isiXU (hc : L2.ExcC K (ga K cn)) (hk : PySem.W.kitOne K (.ref (ga K cn)) (.ref (ga K c)) = some b) (k : Q (.val (.bl b)) ρ) : Mc K O F0 (rIsiU K) [.val (.exc cn fs), .val (.cls c)] ρ Q := fun F H σ vs Qh s R hu q => by
  obtain ⟨v, w, rfl, h1, h2⟩ := two_args hu
  obtain rfl := rep_cls h2
  cases (show Rep K F v (.exc cn fs) from h1) with
  | exc e1 e2 e3 e4 => exact .inr ⟨_, ga K cn, _, _, _, b, rfl, .own _, hc, .inr (R.fh _ _ e1), (fun dd z => by cases z; exact ⟨_, .inr (R.fh _ _ e2)⟩), hk, q _ H F (.val (.bl b)) ρ (Same.refl _) R (Rep.bl b) k⟩
theorem mf_dictD (k : Me K O F0 te ρ fun x ρ1 => ∃ kds, seeD x ρ1 = some (.dct kds) ∧ Frz x ρ1 fun d ρ2 => d = .dct kds ∧ QF (.dct kds) ρ2) : Mf K O F0 (tCB rDictD (tCons te tNil)) ρ QF := fun F H σ Qh s R c =>
  k F H σ _ s R fun v H1 F1 x ρ1 s1 R1 r1 ⟨kds, _, q⟩ => by
    obtain ⟨d, ρ2, F2, s2, R2, r2, rfl, q2⟩ := frz_of R1 r1 q
    cases r2 with
    | dct h1 h2 h3 =>
      refine ⟨_, _, rfl, .inl (R2.fh _ _ h1), fun p hp => c p _ F2 (.dct kds) ρ2 (Same.trans s1 s2) (R2.allocN hp) ⟨(R2.free hp).1, (R2.free hp).2, R2.no_new hp, _, upd_same, h2, h3⟩ q2⟩
theorem ms_dputV {j : Nat} {tk : TE} (k : Me K O F0 te ρ fun x ρ1 => Frz x ρ1 fun d ρ2 => ∃ kds kk, sl ρ2 j = .own (.dct kds) ∧ kds.length ≤ 10000 ∧ (∀ O2 F2, Me K O2 F2 tk ρ2 fun y ρ3 => y = .val (.str kk) ∧ ρ3 = ρ2) ∧ N.nx (ρ2.set j (.own (.dct (putKD kds (.inr kk) d))))) : Ms K O F0 (sDPut (tVar j) tk te) ρ N := fun F H σ E s R c =>
  k F H σ _ s R fun v H1 F1 x ρ1 s1 R1 r1 k1 => by
    obtain ⟨d, ρ2, F2, s2, R2, r2, kds, kk, hj, hl, hk, q⟩ := frz_of R1 r1 k1
    have m : (sl ρ2 j).mut = true := by rw [hj]; rfl
    obtain ⟨p, a1, _, _, _⟩ := R2.owned m
    refine ⟨_, sv_some a1, ?_⟩
    refine hk O F2 F2 H1 σ _ (Same.refl _) R2 fun w H3 F3 y ρ3 s3 R3 r3 ⟨e1, e2⟩ => ?_
    subst e1 e2
    rw [look_str r3]
    obtain ⟨p2, b1, b2, b3, b4⟩ := R3.owned m
    rw [a1] at b1
    cases b1
    rw [hj] at b4
    obtain ⟨kvs, a4, a5⟩ := b4
    refine ⟨p, _, rfl, DPut.k (k := .inr kk) (v := v) a4 (by rw [a5.length]; exact Nat.lt_of_le_of_lt hl (by decide)), ?_⟩
    exact c.nx F3 _ σ _ (Same.trans s1 (Same.trans s2 s3)) (R3.mutO (s := .own (.dct (putKD kds (.inr kk) d))) m a1 rfl ⟨_, upd_same, a5.putK (r2.mono s3)⟩) q
theorem ms_asgG (k : Me K O F0 te ρ fun x ρ1 => Frz x ρ1 fun d ρ2 => Mg K O F0 g js d ρ2 N.nx) : Ms K O F0 (tAsg te g) ρ N := fun F H σ E s R c =>
  k F H σ _ s R fun v H1 F1 x ρ1 s1 R1 r1 k1 => by
    obtain ⟨d, ρ2, F2, s2, R2, r2, q⟩ := frz_of R1 r1 k1
    exact q F2 H1 σ v _ (Same.trans s (Same.trans s1 s2)) R2 r2 fun F3 H3 σ3 ρ3 s3 R3 _ q3 => c.nx F3 H3 σ3 ρ3 (Same.trans s1 (Same.trans s2 s3)) R3 q3
/-- *d.values() -/
theorem ma_starV {tA : TA} {QA : List X → Ro → Prop} (k : Me K O F0 te ρ fun x ρ1 => ∃ kds, seeD x ρ1 = some (.dct kds) ∧ Ma K O F0 tA ρ1 fun ys ρ3 => QA ((kds.map fun q => X.val q.2) ++ ys) ρ3) : Ma K O F0 (tStarD (tBM0 K "dict" rVals te) tA) ρ QA := fun F H σ Qh s R c =>
  k F H σ _ s R fun v H1 F1 x ρ1 s1 R1 r1 ⟨kds, hx, q⟩ => by
    obtain ⟨a, kvs, rfl, h1, h2⟩ := look_dct R1 r1 hx
    refine ⟨.inr (.inr (.inl ⟨rfl, .inl ⟨kvs, h1⟩⟩)), a, kvs, rfl, rfl, h1, fun w hw => ?_⟩
    have R2 : RS K O F1 (upd H1 w (valsO w a)) σ ρ1 := R1.allocN hw
    refine ⟨w, _, rfl, .vals upd_same (by rw [upd_ne (ne_of_none h1 hw)]; exact h1), q F1 _ σ _ (Same.trans s s1) R2 fun ws H3 F3 ys ρ3 s3 R3 r3 qz => ?_⟩
    refine c _ H3 F3 _ ρ3 (Same.trans s1 s3) R3 (XsV.append ?_ r3) qz
    have mk : ∀ {kvs : List (Key × V)} {kds : List (Key × D)}, RepP K F3 kvs kds → XsV K F3 σ (kvs.map (·.2)) (kds.map fun q => X.val q.2) := by
      intro kvs kds h
      induction kds generalizing kvs with
      | nil => rw [h.inv0]; trivial
      | cons q kds ih =>
        obtain ⟨k2, d⟩ := q
        obtain ⟨v, r, rfl, a, b⟩ := h.inv
        exact ⟨a, ih b⟩
    exact mk (RepP.mono s3 h2)
end
end SJ

/-! MRw: own lists stored into, inserted into; zip of two lists; targets of four names; lists repeated. -/
namespace SJ
open PySem PySem.Spec PyProof.Rows L2 He
def rInsert : V → List V → Hp → VK → Prop := fun x vs H Q => ∃ (l : Addr) (xs : List V) (i : Int) (y : V), x = .ref l ∧ vs = [.int i, y] ∧ H l = some (.lst xs) ∧ xs.length < sizeLine ∧ 0 ≤ i ∧ i < 2 ^ 63 ∧ Q .non (upd H l (.lst (xs.take i.toNat ++ [y] ++ xs.drop i.toNat)))
theorem mt_ins {X : Cx} : MtR X "list.insert" rInsert := mt_insert
section
variable {K : PySem.W.Frag} {O : Oc} {F0 F F2 F3 H H2 H3 : Hp} {σ σ2 : L2.St} {ρ ρ2 : Ro} {Q : X → Ro → Prop} {QF : D → Ro → Prop} {QL : List D → Ro → Prop} {te ti ta tb : TE} {tA : TA} {N : Hn} {x y : X} {d e : D} {ds es : List D} {n : Nat}
theorem RepL.take {vs : List V} (h : RepL K F vs ds) (k : Nat) : RepL K F (vs.take k) (ds.take k) := by
  have := h.sub 0 k
  rwa [List.drop_zero, List.drop_zero] at this
theorem RepL.drop {vs : List V} (h : RepL K F vs ds) (k : Nat) : RepL K F (vs.drop k) (ds.drop k) := by
  have := h.sub k (ds.length)
  rw [List.take_of_length_le (by rw [List.length_drop, h.length]; omega), List.take_of_length_le (by rw [List.length_drop]; omega)] at this
  exact this
/-- x[i] = e, x an own list -/
theorem ms_setL (h0 : (sl ρ n).mut = true) (k : Me K O F0 te ρ fun x ρ1 => Frz x ρ1 fun d ρ2 => Me K O F0 ti ρ2 fun y ρ3 => ∃ i j es, y = .val (.int i) ∧ sl ρ3 n = .own (.lst es) ∧ ixN es.length i = some j ∧ N.nx (ρ3.set n (.own (.lst (es.set j d))))) : Ms K O F0 (tAsg te (gSub (tVar n) ti rSetL)) ρ N := fun F H σ E s R c => by
  obtain ⟨p, a1, _, _, _⟩ := R.owned h0
  refine k F H σ _ s R fun v H1 F1 x ρ1 s1 R1 r1 k1 => ?_
  obtain ⟨d, ρ2, F2, s2, R2, r2, k2⟩ := frz_of R1 r1 k1
  refine ⟨_, sv_some a1, ?_⟩
  refine k2 F2 H1 σ _ (Same.trans s (Same.trans s1 s2)) R2 fun u H3 F3 y ρ3 s3 R3 r3 ⟨i, j, es, ey, he, hj, q⟩ => ?_
  subst ey
  rw [look_int r3]
  have m : (sl ρ3 n).mut = true := by rw [he]; rfl
  obtain ⟨p2, b1, b2, b3, b4⟩ := R3.owned m
  rw [a1] at b1
  cases b1
  rw [he] at b4
  obtain ⟨vs, b4, b5⟩ := b4
  refine ⟨p, vs, i, j, rfl, rfl, b4, by rw [b5.length]; exact hj, ?_⟩
  exact c.nx F3 _ σ _ (Same.trans s1 (Same.trans s2 s3)) (R3.mutO (s := .own (.lst (es.set j d))) m a1 rfl ⟨_, upd_same, b5.set j (r2.mono s3)⟩) q
/-- x.insert(i, e), x an own list -/
theorem ms_insert (h0 : sl ρ n = .own (.lst ds)) (k : Me K O F0 ti ρ fun y ρ1 => Me K O F0 te ρ1 fun x ρ2 => Frz x ρ2 fun e ρ3 => ∃ (i : Int) (es : List D), y = .val (.int i) ∧ sl ρ3 n = .own (.lst es) ∧ es.length < 10000 ∧ 0 ≤ i ∧ i < 2 ^ 63 ∧ N.nx (ρ3.set n (.own (.lst (es.take i.toNat ++ [e] ++ es.drop i.toNat))))) :
    Ms K O F0 (tDrop (tBM K "list" rInsert (tVar n) (tCons ti (tCons te tNil)))) ρ N := fun F H σ E s R c => by
  have m0 : (sl ρ n).mut = true := by rw [h0]; rfl
  obtain ⟨p, a1, a2, a3, a4⟩ := R.owned m0
  rw [h0] at a4
  obtain ⟨vs0, a4, _⟩ := a4
  refine ⟨_, sv_some a1, .inl ⟨rfl, vs0, SqL.of a4⟩, ?_⟩
  refine k F H σ _ s R fun u H1 F1 y ρ1 s1 R1 r1 k1 => k1 F1 H1 σ _ (Same.trans s s1) R1 fun v H2 F2 x ρ2 s2 R2 r2 k2 => ?_
  obtain ⟨e, ρ3, F3, s3, R3, r3, i, es, ey, he, hl, i0, i1, q⟩ := frz_of R2 r2 k2
  subst ey
  rw [look_int r1]
  have m : (sl ρ3 n).mut = true := by rw [he]; rfl
  obtain ⟨p2, b1, b2, b3, b4⟩ := R3.owned m
  rw [a1] at b1
  cases b1
  rw [he] at b4
  obtain ⟨vs, b4, b5⟩ := b4
  refine ⟨p, vs, i, v, rfl, rfl, b4, by rw [b5.length]; exact Nat.lt_of_lt_of_le hl (by decide), i0, i1, ?_⟩
  exact c.nx F3 _ σ _ (Same.trans s1 (Same.trans s2 s3)) (R3.mutO (s := .own (.lst (es.take i.toNat ++ [e] ++ es.drop i.toNat))) m a1 rfl ⟨_, upd_same, ((b5.take _).append (.cons r3 .nil)).append (b5.drop _)⟩) q
/-- zip(xs, ys) -/
def zipD (ds es : List D) : List D := (ds.zip es).map fun q => .tup [q.1, q.2]
theorem mi_zip (k : Ma K O F0 tA ρ fun xs ρ1 => FrzL xs ρ1 fun zs ρ2 => ∃ ds es, zs = [.lst ds, .lst es] ∧ QL (zipD ds es) ρ2) : Mi K O F0 (iZip K tA) ρ QL := fun F H σ R s R0 c =>
  k F H σ _ s R0 fun vs H1 F1 xs ρ1 s1 R1 r1 k1 => by
    obtain ⟨zs, ρ2, F2, s2, R2, r2, ds, es, rfl, q⟩ := frzL_of R1 r1 k1
    cases r2 with
    | cons ra r2 =>
      cases r2 with
      | cons rb r2 =>
        cases r2
        obtain ⟨a, as, rfl, ha, rx⟩ := ra.lstP
        obtain ⟨b, bs, rfl, hb, ry⟩ := rb.lstP
        have ha : SqL K F2 a as := SqL.of ha
        have hb : SqL K F2 b bs := SqL.of hb
        have hzl : (zipD ds es).length = min ds.length es.length := by unfold zipD; rw [List.length_map, List.length_zip]
        refine ⟨a, b, as, bs, rfl, Same.seq R2.fh ha, Same.seq R2.fh hb, c _ H1 F2 (zipD ds es) ρ2 (Same.trans s1 s2) R2 (fun O2 i F3 H3 σ3 ρ3 s3 R3 => ?_) q⟩
        have h1 : SqL K H3 a as := Same.seq R3.fh (Same.seq s3 ha)
        have h2 : SqL K H3 b bs := Same.seq R3.fh (Same.seq s3 hb)
        refine ⟨fun hi => ⟨as, bs, h1, h2, by rw [rx.length, ry.length]; omega⟩, fun d hd => ?_⟩
        unfold zipD at hd
        rw [List.getElem?_map] at hd
        obtain ⟨w, hw, rfl⟩ := Option.map_eq_some_iff.mp hd
        obtain ⟨hw1, hw2⟩ := List.getElem?_zip_eq_some.mp hw
        obtain ⟨v1, g1, rv1⟩ := rx.at hw1
        obtain ⟨v2, g2, rv2⟩ := ry.at hw2
        refine ⟨⟨as, bs, v1, v2, h1, h2, g1, g2⟩, fun x H4 y => ?_⟩
        obtain ⟨t, x1, x2, rfl, ht, rfl, y1, y2⟩ := y
        have e1 := y1 as h1
        have e2 := y2 bs h2
        rw [g1] at e1
        rw [g2] at e2
        cases e1
        cases e2
        obtain ⟨R4, s4⟩ := R3.alloc (o := .tup [v1, v2]) ht nx_tup
        exact ⟨_, s4, R4, Rep.tup (SqT.of upd_same) (.cons ((rv1.mono s3).mono s4) (.cons ((rv2.mono s3).mono s4) .nil))⟩
/-- four names -/
theorem mg_four {i j l m : Nat} {a b a2 b2 : D} {Pn : Ro → Prop} (k : Pn ((((ρ.set i (.val a)).set j (.val b)).set l (.val a2)).set m (.val b2))) (hi : i ≠ 0 := by decide) (hj : j ≠ 0 := by decide) (hl : l ≠ 0 := by decide) (hm : m ≠ 0 := by decide) :
    Mg K O F0 (gTup K 4 (gCons (gName i) (gCons (gName j) (gCons (gName l) (gCons (gName m) gNil))))) [i, j, l, m] (.tup [a, b, a2, b2]) ρ Pn := fun F H σ v Qs s R r c => by
  obtain ⟨p, xs, rfl, h1, h2⟩ := r.tupP
  cases h2 with
  | cons ra h2 =>
    cases h2 with
    | cons rb h2 =>
      cases h2 with
      | cons rc h2 =>
        cases h2 with
        | cons rd h2 =>
          cases h2
          refine ⟨p, _, rfl, sqt_same R.fh h1, rfl, _, _, rfl, _, _, rfl, _, _, rfl, _, _, rfl, rfl, ?_⟩
          refine c F H _ _ (Same.refl _) ((((R.put hi ra).put hj rb).put hl rc).put hm rd) (fun vs h => ?_) k
          rw [wipe_set (h m (by simp)), wipe_set (h l (by simp)), wipe_set (h j (by simp)), wipe_set (h i (by simp))]
/-- xs * k, a new list -/
theorem v_repL (k : Me K O F0 ta ρ fun x ρ1 => Me K O F0 tb ρ1 fun y ρ2 => ∃ (ds : List D) (i : Int), seeD x ρ2 = some (.lst ds) ∧ y = .val (.int i) ∧ 0 ≤ i ∧ i ≤ 1000 ∧ ds.length ≤ 1000 ∧ Frz x ρ2 fun d ρ3 => d = .lst ds ∧ Q (.val (.lst (List.replicate i.toNat ds).flatten)) ρ3) : Me K O F0 (tOp (rMul K) ta tb) ρ Q := fun F H σ Qh s R c =>
  k F H σ _ s R fun v1 H1 F1 x ρ1 s1 R1 r1 k1 => k1 F1 H1 σ _ (Same.trans s s1) R1 fun v2 H2 F2 y ρ2 s2 R2 r2 ⟨ds, i, hx, ey, i0, i1, hl, q⟩ => by
    subst ey
    rw [look_int r2]
    obtain ⟨d, ρ3, F3, s3, R3, r3, rfl, q2⟩ := frz_of R2 (r1.mono s2) q
    obtain ⟨a, xs, rfl, ha, rx⟩ := r3.lstP
    refine .inr (.inr (.inl ⟨a, i, xs, rfl, rfl, R3.fh _ _ ha, by omega, by omega, ?_, fun p hp => ?_⟩))
    · rw [rx.length]
      exact Nat.le_trans (Nat.mul_le_mul hl (show i.toNat ≤ 1000 by omega)) (by decide)
    · have rr : ∀ m : Nat, RepL K F3 (List.replicate m xs).flatten (List.replicate m ds).flatten := by
        intro m
        induction m with
        | zero => exact .nil
        | succ m ih => rw [List.replicate_succ, List.replicate_succ, List.flatten_cons, List.flatten_cons]; exact rx.append ih
      obtain ⟨R4, s4⟩ := R3.alloc (o := .lst (List.replicate i.toNat xs).flatten) hp nx_lst
      exact c _ _ _ (.val (.lst _)) ρ3 (Same.trans s1 (Same.trans s2 (Same.trans s3 s4))) R4 (Rep.lst upd_same ((rr _).mono s4)) q2
/-! #### calls that may raise, at one row of names -/
def wAt (W : WX) (σ0 : L2.St) : WX := fun cls d σ2 H2 => σ2 = σ0 → W cls d σ2 H2
theorem WE_at {W : WX} : WE (wAt W σ) σ = WE W σ := by
  funext cls d H
  exact propext ⟨fun h => h rfl, fun h _ => h⟩
theorem WrA.wr {W : WX} {Xp : XP} (h : WrA K O F0 W σ Xp) : Wr K O F0 (wAt W σ) Xp := fun F H σ2 ρ c fs dd fvs a b d e f g e2 => by
  subst e2
  exact h F H ρ c fs dd fvs a b d e f g
theorem ma_cmK {W : WX} {Xp : XP} {P : PD} {C : Str} {n l : Nat} {ix : List Nat} {ms : List V} {to : TE} {tK : TA} (md : List D) (hm : ∀ F, RepL K F ms md) (hW : WrA K O F0 W σ Xp)
    (k : Me K O F0 to ρ fun x ρ1 => x = .val (.cls C) ∧ Ma K O F0 tA ρ1 fun xs ρ2 => Ma K O F0 tK ρ2 fun zs ρ3 => FrzL (xs ++ zs) ρ3 fun ds ρ4 => ∃ es zs2, ds = es ++ zs2 ∧ es.length = n ∧ zs2.length = l ∧ xs.length = n ∧ P (pickL ix (.cls C :: es) md zs2) (fun d => Q (.val d) ρ4) fun c fs => Xp c fs ρ4) :
    MeA K O F0 σ (tCmK (ga K C) n l (spS K O.T (pu P)) (fun vs zs => pickL ix vs ms zs) W to tA tK) ρ Q := fun F H Qh s R c => by
  have h := m_cmK md hm hW.wr k F H σ Qh s R c
  unfold tCmK at h ⊢
  rwa [WE_at] at h
theorem ma_nwS {W : WX} {Xp : XP} {P : PI1} {C : Str} {m : Nat} {ix : List Nat} {ms : List V} {tK : TA} (md : List D) (hm : ∀ F, RepL K F ms md) (hW : WrA K O F0 W σ Xp)
    (k : Ma K O F0 tA ρ fun xs ρ1 => Ma K O F0 tK ρ1 fun zs ρ2 => FrzL (xs ++ zs) ρ2 fun ds ρ3 => ∃ es fs, ds = es ++ fs ∧ es.length = xs.length ∧ fs.length = m ∧ es.length ≤ 1000 ∧ P C (pickL (ix.map (· - 1)) [] md fs ++ [.tup es]) (fun fs => Q (.val (.obj C fs)) ρ3) fun c fs => Xp c fs ρ3) (hix : ix.all (fun i => decide (1 ≤ i)) = true := by rfl) :
    MeA K O F0 σ (tNwS (ga K C) m (spS K O.T (pin P)) (fun vs zs => pickL (0 :: ix) vs ms zs) W tA tK) ρ Q := fun F H Qh s R c => by
  have h := m_nwS md hm hW.wr k hix F H σ Qh s R c
  unfold tNwS gNwS at h ⊢
  rwa [WE_at] at h
theorem c_isiXT {cn : Str} {fs : List (Str × D)} {tn : String} {b : Bool} (hc : L2.ExcC K (ga K cn)) (hk : PySem.W.kitOne K (.ref (ga K cn)) (.type tn) = some b) (k : Q (.val (.bl b)) ρ) : Mc K O F0 (rIsiU K) [.val (.exc cn fs), .val (.ty tn)] ρ Q := fun F H σ vs Qh s R hu q => by
  obtain ⟨v, w, rfl, h1, h2⟩ := two_args hu
  obtain rfl := rep_ty h2
  cases (show Rep K F v (.exc cn fs) from h1) with
  | exc e1 e2 e3 e4 => exact .inr ⟨_, ga K cn, _, _, _, b, rfl, .ty _, hc, .inr (R.fh _ _ e1), (fun dd z => by cases z; exact ⟨_, .inr (R.fh _ _ e2)⟩), hk, q _ H F (.val (.bl b)) ρ (Same.refl _) R (Rep.bl b) k⟩
end
end SJ

namespace K04
open PySem PySem.Spec PyProof.Rows L2 He SJ
open LamX (CodeO lamS_by Tabs tLam)
def top (i : Nat) : Stmt := PySem.Challenge.pw_strayjoins_k04_frames_refused.main.body.getD i (.Pass ⟨0, 0, 0, 0⟩)
abbrev s_wall : Stmt := top 0
abbrev s_InvalidFrame_init : Stmt := inClass (top 3) 0
abbrev s_NoLeg_init : Stmt := inClass (top 5) 0
abbrev s_is_integer : Stmt := top 12
abbrev s_is_between : Stmt := top 13
abbrev s_is_name : Stmt := top 14
abbrev s_Leg_init : Stmt := inClass (top 16) 1
abbrev s_Leg_drives : Stmt := inClass (top 16) 2
abbrev s_Leg_eq : Stmt := inClass (top 16) 3
abbrev s_Leg_str : Stmt := inClass (top 16) 4
abbrev s_Leg_repr : Stmt := inClass (top 16) 5
abbrev s_fault_of : Stmt := top 21
abbrev s_Frame_init : Stmt := inClass (top 22) 1
abbrev s_Frame_of : Stmt := inClass (top 22) 2
abbrev s_Frame_legs : Stmt := inClass (top 22) 3
abbrev s_Frame_names : Stmt := inClass (top 22) 4
abbrev s_Frame_drivers : Stmt := inClass (top 22) 5
abbrev s_Frame_listeners : Stmt := inClass (top 22) 6
abbrev s_Frame_rails : Stmt := inClass (top 22) 7
abbrev s_Frame_members : Stmt := inClass (top 22) 8
abbrev s_Frame_contains : Stmt := inClass (top 22) 9
abbrev s_Frame_getitem : Stmt := inClass (top 22) 10
abbrev s_Frame_iter : Stmt := inClass (top 22) 11
abbrev s_Frame_len : Stmt := inClass (top 22) 12
abbrev s_Frame_eq : Stmt := inClass (top 22) 13
abbrev s_Frame_add : Stmt := inClass (top 22) 14
abbrev s_Frame_sub : Stmt := inClass (top 22) 15
abbrev s_Lpen : Stmt := top 24
abbrev s_Ldraw : Stmt := top 25
abbrev s_Lpick : Stmt := top 26
abbrev s_Ltags : Stmt := top 27
abbrev s_Lheard : Stmt := top 28
abbrev s_Ldrawn : Stmt := top 29
abbrev s_law : Stmt := top 30
def a_is_integer : PySem.W.Frag → Addr := fun K => ga K "is_integer"
def a_is_between : PySem.W.Frag → Addr := fun K => ga K "is_between"
def a_is_name : PySem.W.Frag → Addr := fun K => ga K "is_name"
def a_Leg_init : PySem.W.Frag → Addr := fun K => ma K (ga K "Leg") "__init__"
def a_Leg_eq : PySem.W.Frag → Addr := fun K => ma K (ga K "Leg") "__eq__"
def a_fault_of : PySem.W.Frag → Addr := fun K => ga K "fault_of"
def a_Frame_init : PySem.W.Frag → Addr := fun K => ma K (ga K "Frame") "__init__"
def a_Frame_of : PySem.W.Frag → Addr := cmA "Frame" "of"
def a_Lpen : PySem.W.Frag → Addr := fun K => ga K "_law_pen"
def a_Ldraw : PySem.W.Frag → Addr := fun K => ga K "_law_draw"
def a_Lpick : PySem.W.Frag → Addr := fun K => ga K "_law_pick"
def a_Ltags : PySem.W.Frag → Addr := fun K => ga K "_law_tags"
def a_Lheard : PySem.W.Frag → Addr := fun K => ga K "_law_heard"
def a_Ldrawn : PySem.W.Frag → Addr := fun K => ga K "_law_drawn"
def a_law : PySem.W.Frag → Addr := fun K => ga K "law"
theorem sc_is_integer : FnScope ["value"] ["value"] (defScope s_is_integer) := ⟨rfl, rfl, rfl, by decide +kernel, rfl, by decide +kernel, by decide +kernel⟩
theorem sc_is_between : FnScope ["value", "least", "most"] ["value", "least", "most"] (defScope s_is_between) := ⟨rfl, rfl, rfl, by decide +kernel, rfl, by decide +kernel, by decide +kernel⟩
theorem sc_is_name : FnScope ["value", "letter"] ["value"] (defScope s_is_name) := ⟨rfl, rfl, rfl, by decide +kernel, rfl, by decide +kernel, by decide +kernel⟩
theorem sc_Leg_init : FnScope ["self", "name"] ["self", "name"] (defScope s_Leg_init) := ⟨rfl, rfl, rfl, by decide +kernel, rfl, by decide +kernel, by decide +kernel⟩
theorem sc_Leg_eq : FnScope ["self", "other"] ["self", "other"] (defScope s_Leg_eq) := ⟨rfl, rfl, rfl, by decide +kernel, rfl, by decide +kernel, by decide +kernel⟩
theorem sc_fault_of : FnScope ["legs", "most", "top", "rails", "leg", "rail"] ["legs", "most", "top", "rails"] (defScope s_fault_of) := ⟨rfl, rfl, rfl, by decide +kernel, rfl, by decide +kernel, by decide +kernel⟩
theorem sc_Frame_init : FnScope ["self", "top", "ground", "power", "legs", "fault", "leg"] ["self", "top", "ground", "power", "legs"] (defScope s_Frame_init) := ⟨rfl, rfl, rfl, by decide +kernel, rfl, by decide +kernel, by decide +kernel⟩
theorem sc_Frame_of : FnScope ["cls", "legs", "top", "ground", "power"] ["cls", "legs", "top", "ground", "power"] (defScope s_Frame_of) := ⟨rfl, rfl, rfl, by decide +kernel, rfl, by decide +kernel, by decide +kernel⟩
theorem sc_Lpen : FnScope ["_law_script"] ["_law_script"] (defScope s_Lpen) := ⟨rfl, rfl, rfl, by decide +kernel, rfl, by decide +kernel, by decide +kernel⟩
theorem sc_Ldraw : FnScope ["_law_pen_here", "_law_many", "_law_digit", "_law_at", "_law_cell", "_law_great", "_law_mixed"] ["_law_pen_here", "_law_many"] (defScope s_Ldraw) := ⟨rfl, rfl, rfl, by decide +kernel, rfl, by decide +kernel, by decide +kernel⟩
theorem sc_Lpick : FnScope ["_law_pen_here", "_law_some"] ["_law_pen_here", "_law_some"] (defScope s_Lpick) := ⟨rfl, rfl, rfl, by decide +kernel, rfl, by decide +kernel, by decide +kernel⟩
theorem sc_Ltags : FnScope ["_law_pen_here", "_law_many", "_law_pool", "_law_turn"] ["_law_pen_here", "_law_many"] (defScope s_Ltags) := ⟨rfl, rfl, rfl, by decide +kernel, rfl, by decide +kernel, by decide +kernel⟩
theorem sc_Lheard : FnScope ["_law_ask", "_law_caught", "error"] ["_law_ask"] (defScope s_Lheard) := ⟨rfl, rfl, rfl, by decide +kernel, rfl, by decide +kernel, by decide +kernel⟩
theorem sc_Ldrawn : FnScope ["_law_pen_here", "_law_legs_so", "_law_tag", "_law_wrong", "_law_turn", "_law_k", "_law_odd", "_law_far", "_law_rails_so", "_law_reasons", "_law_word", "_law_is_wrong"] ["_law_pen_here"] (defScope s_Ldrawn) := ⟨rfl, rfl, rfl, by decide +kernel, rfl, by decide +kernel, by decide +kernel⟩
theorem sc_law : FnScope ["_law_script", "_law_pen_here", "_law_turn", "_law_legs_so", "_law_far", "_law_rails_so", "_law_due", "_law_told", "_law_pair", "_law_is_wrong", "_law_one", "_law_odd"] ["_law_script"] (defScope s_law) := ⟨rfl, rfl, rfl, by decide +kernel, rfl, by decide +kernel, by decide +kernel⟩
def d_is_integer : DD := ⟨a_is_integer, "is_integer", "is_integer", defArgs s_is_integer, defBody s_is_integer, defScope s_is_integer, [], []⟩
abbrev Fn_is_integer (K : PySem.W.Frag) (fd : FuncData) : Prop := FunD K "is_integer" "is_integer" (defArgs s_is_integer) (defBody s_is_integer) (defScope s_is_integer) [] [] (a_is_integer K) fd
def d_is_between : DD := ⟨a_is_between, "is_between", "is_between", defArgs s_is_between, defBody s_is_between, defScope s_is_between, [], []⟩
abbrev Fn_is_between (K : PySem.W.Frag) (fd : FuncData) : Prop := FunD K "is_between" "is_between" (defArgs s_is_between) (defBody s_is_between) (defScope s_is_between) [] [] (a_is_between K) fd
def d_is_name : DD := ⟨a_is_name, "is_name", "is_name", defArgs s_is_name, defBody s_is_name, defScope s_is_name, [], []⟩
abbrev Fn_is_name (K : PySem.W.Frag) (fd : FuncData) : Prop := FunD K "is_name" "is_name" (defArgs s_is_name) (defBody s_is_name) (defScope s_is_name) [] [] (a_is_name K) fd
def d_Leg_init : DD := ⟨a_Leg_init, "__init__", "Leg.__init__", defArgs s_Leg_init, defBody s_Leg_init, defScope s_Leg_init, [], []⟩
abbrev Fn_Leg_init (K : PySem.W.Frag) (fd : FuncData) : Prop := FunD K "__init__" "Leg.__init__" (defArgs s_Leg_init) (defBody s_Leg_init) (defScope s_Leg_init) [] [] (a_Leg_init K) fd
def d_Leg_eq : DD := ⟨a_Leg_eq, "__eq__", "Leg.__eq__", defArgs s_Leg_eq, defBody s_Leg_eq, defScope s_Leg_eq, [], []⟩
abbrev Fn_Leg_eq (K : PySem.W.Frag) (fd : FuncData) : Prop := FunD K "__eq__" "Leg.__eq__" (defArgs s_Leg_eq) (defBody s_Leg_eq) (defScope s_Leg_eq) [] [] (a_Leg_eq K) fd
def d_fault_of : DD := ⟨a_fault_of, "fault_of", "fault_of", defArgs s_fault_of, defBody s_fault_of, defScope s_fault_of, [], []⟩
abbrev Fn_fault_of (K : PySem.W.Frag) (fd : FuncData) : Prop := FunD K "fault_of" "fault_of" (defArgs s_fault_of) (defBody s_fault_of) (defScope s_fault_of) [] [] (a_fault_of K) fd
def d_Frame_init : DD := ⟨a_Frame_init, "__init__", "Frame.__init__", defArgs s_Frame_init, defBody s_Frame_init, defScope s_Frame_init, [], [("top", .int 1), ("ground", .bl false), ("power", .bl false)]⟩
abbrev Fn_Frame_init (K : PySem.W.Frag) (fd : FuncData) : Prop := FunD K "__init__" "Frame.__init__" (defArgs s_Frame_init) (defBody s_Frame_init) (defScope s_Frame_init) [] [("top", .int 1), ("ground", .bl false), ("power", .bl false)] (a_Frame_init K) fd
def d_Frame_of : DD := ⟨a_Frame_of, "of", "Frame.of", defArgs s_Frame_of, defBody s_Frame_of, defScope s_Frame_of, [], [("top", .int 1), ("ground", .bl false), ("power", .bl false)]⟩
abbrev Fn_Frame_of (K : PySem.W.Frag) (fd : FuncData) : Prop := FunD K "of" "Frame.of" (defArgs s_Frame_of) (defBody s_Frame_of) (defScope s_Frame_of) [] [("top", .int 1), ("ground", .bl false), ("power", .bl false)] (a_Frame_of K) fd
def d_Lpen : DD := ⟨a_Lpen, "_law_pen", "_law_pen", defArgs s_Lpen, defBody s_Lpen, defScope s_Lpen, [], []⟩
abbrev Fn_Lpen (K : PySem.W.Frag) (fd : FuncData) : Prop := FunD K "_law_pen" "_law_pen" (defArgs s_Lpen) (defBody s_Lpen) (defScope s_Lpen) [] [] (a_Lpen K) fd
def d_Ldraw : DD := ⟨a_Ldraw, "_law_draw", "_law_draw", defArgs s_Ldraw, defBody s_Ldraw, defScope s_Ldraw, [], []⟩
abbrev Fn_Ldraw (K : PySem.W.Frag) (fd : FuncData) : Prop := FunD K "_law_draw" "_law_draw" (defArgs s_Ldraw) (defBody s_Ldraw) (defScope s_Ldraw) [] [] (a_Ldraw K) fd
def d_Lpick : DD := ⟨a_Lpick, "_law_pick", "_law_pick", defArgs s_Lpick, defBody s_Lpick, defScope s_Lpick, [], []⟩
abbrev Fn_Lpick (K : PySem.W.Frag) (fd : FuncData) : Prop := FunD K "_law_pick" "_law_pick" (defArgs s_Lpick) (defBody s_Lpick) (defScope s_Lpick) [] [] (a_Lpick K) fd
def d_Ltags : DD := ⟨a_Ltags, "_law_tags", "_law_tags", defArgs s_Ltags, defBody s_Ltags, defScope s_Ltags, [], []⟩
abbrev Fn_Ltags (K : PySem.W.Frag) (fd : FuncData) : Prop := FunD K "_law_tags" "_law_tags" (defArgs s_Ltags) (defBody s_Ltags) (defScope s_Ltags) [] [] (a_Ltags K) fd
def d_Lheard : DD := ⟨a_Lheard, "_law_heard", "_law_heard", defArgs s_Lheard, defBody s_Lheard, defScope s_Lheard, [], []⟩
abbrev Fn_Lheard (K : PySem.W.Frag) (fd : FuncData) : Prop := FunD K "_law_heard" "_law_heard" (defArgs s_Lheard) (defBody s_Lheard) (defScope s_Lheard) [] [] (a_Lheard K) fd
def d_Ldrawn : DD := ⟨a_Ldrawn, "_law_drawn", "_law_drawn", defArgs s_Ldrawn, defBody s_Ldrawn, defScope s_Ldrawn, [], []⟩
abbrev Fn_Ldrawn (K : PySem.W.Frag) (fd : FuncData) : Prop := FunD K "_law_drawn" "_law_drawn" (defArgs s_Ldrawn) (defBody s_Ldrawn) (defScope s_Ldrawn) [] [] (a_Ldrawn K) fd
def d_law : DD := ⟨a_law, "law", "law", defArgs s_law, defBody s_law, defScope s_law, [], []⟩
abbrev Fn_law (K : PySem.W.Frag) (fd : FuncData) : Prop := FunD K "law" "law" (defArgs s_law) (defBody s_law) (defScope s_law) [] [] (a_law K) fd
def d_InvalidFrame_init : XD := ⟨"InvalidFrame", "InvalidFrame.__init__", defArgs s_InvalidFrame_init, defBody s_InvalidFrame_init, defScope s_InvalidFrame_init⟩
def a_InvalidFrame_init : PySem.W.Frag → Addr := fun K => ma K (ga K "InvalidFrame") "__init__"
def d_NoLeg_init : XD := ⟨"NoLeg", "NoLeg.__init__", defArgs s_NoLeg_init, defBody s_NoLeg_init, defScope s_NoLeg_init⟩
def a_NoLeg_init : PySem.W.Frag → Addr := fun K => ma K (ga K "NoLeg") "__init__"
def fn : List DD := [d_is_integer, d_is_between, d_is_name, d_Leg_init, d_Leg_eq, d_fault_of, d_Frame_init, d_Frame_of, d_Lpen, d_Ldraw, d_Lpick, d_Ltags, d_Lheard, d_Ldrawn, d_law]
def fx : List XD := [d_InvalidFrame_init, d_NoLeg_init]
def tf : List DD := [d_Frame_init, d_law]
def TB (K : PySem.W.Frag) : List (Addr × Str) := [((cTA K d_Frame_init).2, ("Frame.__init__" : Str) ++ ".<locals>." ++ "<lambda>"), ((cTA K d_law).2, ("law" : Str) ++ ".<locals>." ++ "<lambda>")]
theorem mem_tab_Frame_init {K : PySem.W.Frag} : cTA K d_Frame_init ∈ tf.map (cTA K) := List.mem_of_getElem? (i := 0) rfl
theorem mem_tab_law {K : PySem.W.Frag} : cTA K d_law ∈ tf.map (cTA K) := List.mem_of_getElem? (i := 1) rfl
structure Tx (K : PySem.W.Frag) (mg : Str → Option Value) : Prop where
  f_LookupError : mg "LookupError" = none
  f_TypeError : mg "TypeError" = none
  f_ValueError : mg "ValueError" = none
  f_abs : mg "abs" = none
  f_all : mg "all" = none
  f_bool : mg "bool" = none
  f_int : mg "int" = none
  f_isinstance : mg "isinstance" = none
  f_len : mg "len" = none
  f_list : mg "list" = none
  f_range : mg "range" = none
  f_sorted : mg "sorted" = none
  f_str : mg "str" = none
  f_super : mg "super" = none
  f_tuple : mg "tuple" = none
  f_zip : mg "zip" = none
  g_wall : mg "_wall" = some (.ref (ga K "_wall"))
  g_JoinError : mg "JoinError" = some (.ref (ga K "JoinError"))
  g_InvalidFrame : mg "InvalidFrame" = some (.ref (ga K "InvalidFrame"))
  g_MissingError : mg "MissingError" = some (.ref (ga K "MissingError"))
  g_NoLeg : mg "NoLeg" = some (.ref (ga K "NoLeg"))
  g_LETTERS : ∃ t, mg "LETTERS" = some (.str "abcdefghijklmnopqrstuvwxyz" t)
  g_MOST_LETTERS : ∃ t, mg "MOST_LETTERS" = some (.int 8 t)
  g_GROUND : ∃ t, mg "GROUND" = some (.str "ground" t)
  g_POWER : ∃ t, mg "POWER" = some (.str "power" t)
  g_NOTHING : ∃ t, mg "NOTHING" = some (.str "nothing" t)
  g_is_integer : mg "is_integer" = some (.ref (ga K "is_integer"))
  g_is_between : mg "is_between" = some (.ref (ga K "is_between"))
  g_is_name : mg "is_name" = some (.ref (ga K "is_name"))
  g_Leg : mg "Leg" = some (.ref (ga K "Leg"))
  g_Driver : mg "Driver" = some (.ref (ga K "Driver"))
  g_Listener : mg "Listener" = some (.ref (ga K "Listener"))
  g_MOST_TOP : ∃ t, mg "MOST_TOP" = some (.int 3 t)
  g_fault_of : mg "fault_of" = some (.ref (ga K "fault_of"))
  g_Frame : mg "Frame" = some (.ref (ga K "Frame"))
  g_Lpen : mg "_law_pen" = some (.ref (ga K "_law_pen"))
  g_Ldraw : mg "_law_draw" = some (.ref (ga K "_law_draw"))
  g_Lpick : mg "_law_pick" = some (.ref (ga K "_law_pick"))
  g_Ltags : mg "_law_tags" = some (.ref (ga K "_law_tags"))
  g_Lheard : mg "_law_heard" = some (.ref (ga K "_law_heard"))
  g_Ldrawn : mg "_law_drawn" = some (.ref (ga K "_law_drawn"))
  g_law : mg "law" = some (.ref (ga K "law"))
  x_InvalidFrame : ExT K "InvalidFrame" "ValueError" "ValueError.__new__" "ValueError.__init__" [.type "ValueError", .type "Exception", .type "BaseException", .type "object"] ["reason"]
  x_NoLeg : ExT K "NoLeg" "LookupError" "LookupError.__new__" "LookupError.__init__" [.type "LookupError", .type "Exception", .type "BaseException", .type "object"] ["name"]
  sys : (K.lookup sysModules).isSome = true
  xc_JoinError : L2.ExcC K (ga K "JoinError")
  xc_InvalidFrame : L2.ExcC K (ga K "InvalidFrame")
  xc_MissingError : L2.ExcC K (ga K "MissingError")
  xc_NoLeg : L2.ExcC K (ga K "NoLeg")
  in_Leg : InT K (ga K "Leg")
  mk_Leg : Mk K (ga K "Leg") (a_Leg_init K)
  in_Driver : InT K (ga K "Driver")
  mk_Driver : Mk K (ga K "Driver") (a_Leg_init K)
  in_Listener : InT K (ga K "Listener")
  mk_Listener : Mk K (ga K "Listener") (a_Leg_init K)
  in_Frame : InT K (ga K "Frame")
  mk_Frame : Mk K (ga K "Frame") (a_Frame_init K)
  fn_Leg_init : PySem.W.isFn K (.ref (a_Leg_init K)) = true
  fn_Leg_eq : PySem.W.isFn K (.ref (a_Leg_eq K)) = true
  fn_Frame_init : PySem.W.isFn K (.ref (a_Frame_init K)) = true
  n_Leg : NoAttr K (ga K "Leg") "name"
  ka_Leg : PySem.W.kitAny K (.ref (ga K "Leg")) [.ref (ga K "Driver"), .ref (ga K "Listener")] = some false
  n_Driver : NoAttr K (ga K "Driver") "name"
  ka_Driver : PySem.W.kitAny K (.ref (ga K "Driver")) [.ref (ga K "Driver"), .ref (ga K "Listener")] = some true
  n_Listener : NoAttr K (ga K "Listener") "name"
  ka_Listener : PySem.W.kitAny K (.ref (ga K "Listener")) [.ref (ga K "Driver"), .ref (ga K "Listener")] = some true
  n_Ftop : NoAttr K (ga K "Frame") "top"
  n_Fground : NoAttr K (ga K "Frame") "ground"
  n_Fpower : NoAttr K (ga K "Frame") "power"
  n_Fown_legs : NoAttr K (ga K "Frame") "own_legs"
  m_Frame : ∃ t, Con K (ga K "Frame") "MOST" (.int 40) (.int 40 t)
  ka_NoneType : PySem.W.kitAny K (.type "NoneType") [.ref (ga K "Driver"), .ref (ga K "Listener")] = some false
  ka_int : PySem.W.kitAny K (.type "int") [.ref (ga K "Driver"), .ref (ga K "Listener")] = some false
  ka_str : PySem.W.kitAny K (.type "str") [.ref (ga K "Driver"), .ref (ga K "Listener")] = some false
  ka_tuple : PySem.W.kitAny K (.type "tuple") [.ref (ga K "Driver"), .ref (ga K "Listener")] = some false
  ki_NoneType : PySem.W.kitOne K (.type "NoneType") (.type "int") = some false
  kb_NoneType : PySem.W.kitOne K (.type "NoneType") (.type "bool") = some false
  kl_NoneType : PySem.W.kitAny K (.type "NoneType") [.type "list", .type "tuple"] = some false
  ki_bool : PySem.W.kitOne K (.type "bool") (.type "int") = some true
  kb_bool : PySem.W.kitOne K (.type "bool") (.type "bool") = some true
  kl_bool : PySem.W.kitAny K (.type "bool") [.type "list", .type "tuple"] = some false
  ki_int : PySem.W.kitOne K (.type "int") (.type "int") = some true
  kb_int : PySem.W.kitOne K (.type "int") (.type "bool") = some false
  kl_int : PySem.W.kitAny K (.type "int") [.type "list", .type "tuple"] = some false
  ki_str : PySem.W.kitOne K (.type "str") (.type "int") = some false
  kb_str : PySem.W.kitOne K (.type "str") (.type "bool") = some false
  kl_str : PySem.W.kitAny K (.type "str") [.type "list", .type "tuple"] = some false
  ki_list : PySem.W.kitOne K (.type "list") (.type "int") = some false
  kb_list : PySem.W.kitOne K (.type "list") (.type "bool") = some false
  kl_list : PySem.W.kitAny K (.type "list") [.type "list", .type "tuple"] = some true
  ki_tuple : PySem.W.kitOne K (.type "tuple") (.type "int") = some false
  kb_tuple : PySem.W.kitOne K (.type "tuple") (.type "bool") = some false
  kl_tuple : PySem.W.kitAny K (.type "tuple") [.type "list", .type "tuple"] = some true
  ki_dict : PySem.W.kitOne K (.type "dict") (.type "int") = some false
  kb_dict : PySem.W.kitOne K (.type "dict") (.type "bool") = some false
  kl_dict : PySem.W.kitAny K (.type "dict") [.type "list", .type "tuple"] = some false
  kl_Driver : PySem.W.kitAny K (.ref (ga K "Driver")) [.type "list", .type "tuple"] = some false
  ks_str : PySem.W.kitOne K (.type "str") (.type "str") = some true
  exm : PySem.W.exmOne K (.ref (ga K "InvalidFrame")) (.ref (ga K "JoinError")) = some true
  kx : PySem.W.kitOne K (.ref (ga K "InvalidFrame")) (.ref (ga K "InvalidFrame")) = some true
  kv : PySem.W.kitOne K (.ref (ga K "InvalidFrame")) (.type "ValueError") = some true
  xn_InvalidFrame : PySem.W.findIn K (.ref (ga K "InvalidFrame")) "reason" = some none
  cm_Frame_of : ClX.CRead K (ga K "Frame") (.type "type") ∧ ClX.CMet K (ga K "Frame") (.type "type") "of" (ma K (ga K "Frame") "of") (a_Frame_of K)
  ta_Frame_init_law : (cTA K d_Frame_init).2 ≠ (cTA K d_law).2
  d_is_integer : ∃ fd, Fn_is_integer K fd
  d_is_between : ∃ fd, Fn_is_between K fd
  d_is_name : ∃ fd, Fn_is_name K fd
  d_Leg_init : ∃ fd, Fn_Leg_init K fd
  d_Leg_eq : ∃ fd, Fn_Leg_eq K fd
  d_fault_of : ∃ fd, Fn_fault_of K fd
  d_Frame_init : ∃ fd, Fn_Frame_init K fd
  d_Frame_of : ∃ fd, Fn_Frame_of K fd
  d_Lpen : ∃ fd, Fn_Lpen K fd
  d_Ldraw : ∃ fd, Fn_Ldraw K fd
  d_Lpick : ∃ fd, Fn_Lpick K fd
  d_Ltags : ∃ fd, Fn_Ltags K fd
  d_Lheard : ∃ fd, Fn_Lheard K fd
  d_Ldrawn : ∃ fd, Fn_Ldrawn K fd
  d_law : ∃ fd, Fn_law K fd
  e_InvalidFrame_init : fnXA K (d_InvalidFrame_init.ad K) = d_InvalidFrame_init.val ∧ d_InvalidFrame_init.ok PySem.Challenge.pw_strayjoins_k04_frames_refused.main.file K = true
  e_NoLeg_init : fnXA K (d_NoLeg_init.ad K) = d_NoLeg_init.val ∧ d_NoLeg_init.ok PySem.Challenge.pw_strayjoins_k04_frames_refused.main.file K = true
def fa : List Tst := [fun K => (Fa.free "LookupError").ok K,
  fun K => (Fa.free "TypeError").ok K,
  fun K => (Fa.free "ValueError").ok K,
  fun K => (Fa.free "abs").ok K,
  fun K => (Fa.free "all").ok K,
  fun K => (Fa.free "bool").ok K,
  fun K => (Fa.free "int").ok K,
  fun K => (Fa.free "isinstance").ok K,
  fun K => (Fa.free "len").ok K,
  fun K => (Fa.free "list").ok K,
  fun K => (Fa.free "range").ok K,
  fun K => (Fa.free "sorted").ok K,
  fun K => (Fa.free "str").ok K,
  fun K => (Fa.free "super").ok K,
  fun K => (Fa.free "tuple").ok K,
  fun K => (Fa.free "zip").ok K,
  fun K => (Fa.glo "_wall").ok K,
  fun K => (Fa.glo "JoinError").ok K,
  fun K => (Fa.glo "InvalidFrame").ok K,
  fun K => (Fa.glo "MissingError").ok K,
  fun K => (Fa.glo "NoLeg").ok K,
  fun K => (Fa.str "LETTERS" "abcdefghijklmnopqrstuvwxyz").ok K,
  fun K => (Fa.int "MOST_LETTERS" 8).ok K,
  fun K => (Fa.str "GROUND" "ground").ok K,
  fun K => (Fa.str "POWER" "power").ok K,
  fun K => (Fa.str "NOTHING" "nothing").ok K,
  fun K => (Fa.glo "is_integer").ok K,
  fun K => (Fa.glo "is_between").ok K,
  fun K => (Fa.glo "is_name").ok K,
  fun K => (Fa.glo "Leg").ok K,
  fun K => (Fa.glo "Driver").ok K,
  fun K => (Fa.glo "Listener").ok K,
  fun K => (Fa.int "MOST_TOP" 3).ok K,
  fun K => (Fa.glo "fault_of").ok K,
  fun K => (Fa.glo "Frame").ok K,
  fun K => (Fa.glo "_law_pen").ok K,
  fun K => (Fa.glo "_law_draw").ok K,
  fun K => (Fa.glo "_law_pick").ok K,
  fun K => (Fa.glo "_law_tags").ok K,
  fun K => (Fa.glo "_law_heard").ok K,
  fun K => (Fa.glo "_law_drawn").ok K,
  fun K => (Fa.glo "law").ok K,
  exT "InvalidFrame" "ValueError" "ValueError.__new__" "ValueError.__init__" [.type "ValueError", .type "Exception", .type "BaseException", .type "object"] ["reason"],
  exT "NoLeg" "LookupError" "LookupError.__new__" "LookupError.__init__" [.type "LookupError", .type "Exception", .type "BaseException", .type "object"] ["name"],
  sysT,
  xcT "JoinError",
  xcT "InvalidFrame",
  xcT "MissingError",
  xcT "NoLeg",
  inT "Leg",
  mkT "Leg" a_Leg_init,
  inT "Driver",
  mkT "Driver" a_Leg_init,
  inT "Listener",
  mkT "Listener" a_Leg_init,
  inT "Frame",
  mkT "Frame" a_Frame_init,
  fun K => PySem.W.isFn K (.ref (a_Leg_init K)),
  fun K => PySem.W.isFn K (.ref (a_Leg_eq K)),
  fun K => PySem.W.isFn K (.ref (a_Frame_init K)),
  finT "Leg" "name" (fun _ => none),
  kaT (fun K => .ref (ga K "Leg")) (fun K => [.ref (ga K "Driver"), .ref (ga K "Listener")]) false,
  finT "Driver" "name" (fun _ => none),
  kaT (fun K => .ref (ga K "Driver")) (fun K => [.ref (ga K "Driver"), .ref (ga K "Listener")]) true,
  finT "Listener" "name" (fun _ => none),
  kaT (fun K => .ref (ga K "Listener")) (fun K => [.ref (ga K "Driver"), .ref (ga K "Listener")]) true,
  finT "Frame" "top" (fun _ => none),
  finT "Frame" "ground" (fun _ => none),
  finT "Frame" "power" (fun _ => none),
  finT "Frame" "own_legs" (fun _ => none),
  conI "Frame" "MOST" 40,
  kaT (fun K => .type "NoneType") (fun K => [.ref (ga K "Driver"), .ref (ga K "Listener")]) false,
  kaT (fun K => .type "int") (fun K => [.ref (ga K "Driver"), .ref (ga K "Listener")]) false,
  kaT (fun K => .type "str") (fun K => [.ref (ga K "Driver"), .ref (ga K "Listener")]) false,
  kaT (fun K => .type "tuple") (fun K => [.ref (ga K "Driver"), .ref (ga K "Listener")]) false,
  kitT (fun K => .type "NoneType") (fun K => .type "int") false,
  kitT (fun K => .type "NoneType") (fun K => .type "bool") false,
  kaT (fun K => .type "NoneType") (fun K => [.type "list", .type "tuple"]) false,
  kitT (fun K => .type "bool") (fun K => .type "int") true,
  kitT (fun K => .type "bool") (fun K => .type "bool") true,
  kaT (fun K => .type "bool") (fun K => [.type "list", .type "tuple"]) false,
  kitT (fun K => .type "int") (fun K => .type "int") true,
  kitT (fun K => .type "int") (fun K => .type "bool") false,
  kaT (fun K => .type "int") (fun K => [.type "list", .type "tuple"]) false,
  kitT (fun K => .type "str") (fun K => .type "int") false,
  kitT (fun K => .type "str") (fun K => .type "bool") false,
  kaT (fun K => .type "str") (fun K => [.type "list", .type "tuple"]) false,
  kitT (fun K => .type "list") (fun K => .type "int") false,
  kitT (fun K => .type "list") (fun K => .type "bool") false,
  kaT (fun K => .type "list") (fun K => [.type "list", .type "tuple"]) true,
  kitT (fun K => .type "tuple") (fun K => .type "int") false,
  kitT (fun K => .type "tuple") (fun K => .type "bool") false,
  kaT (fun K => .type "tuple") (fun K => [.type "list", .type "tuple"]) true,
  kitT (fun K => .type "dict") (fun K => .type "int") false,
  kitT (fun K => .type "dict") (fun K => .type "bool") false,
  kaT (fun K => .type "dict") (fun K => [.type "list", .type "tuple"]) false,
  kaT (fun K => .ref (ga K "Driver")) (fun K => [.type "list", .type "tuple"]) false,
  kitT (fun K => .type "str") (fun K => .type "str") true,
  exmT (fun K => .ref (ga K "InvalidFrame")) (fun K => .ref (ga K "JoinError")) true,
  kitT (fun K => .ref (ga K "InvalidFrame")) (fun K => .ref (ga K "InvalidFrame")) true,
  kitT (fun K => .ref (ga K "InvalidFrame")) (fun K => .type "ValueError") true,
  finT "InvalidFrame" "reason" (fun _ => none),
  cmT "Frame" "of",
  fun K => decide ((cTA K d_Frame_init).2 ≠ (cTA K d_law).2)]
theorem tx_of {K : PySem.W.Frag} {h : Heap} {mg : Str → Option Value} (X : K.In h) (G : h.Ns mainGlobals mg) (c : SaysZ PySem.Challenge.pw_strayjoins_k04_frames_refused.main.file fa fn fx K) : Tx K mg where
  f_LookupError := free_ok X G (c.fact 0)
  f_TypeError := free_ok X G (c.fact 1)
  f_ValueError := free_ok X G (c.fact 2)
  f_abs := free_ok X G (c.fact 3)
  f_all := free_ok X G (c.fact 4)
  f_bool := free_ok X G (c.fact 5)
  f_int := free_ok X G (c.fact 6)
  f_isinstance := free_ok X G (c.fact 7)
  f_len := free_ok X G (c.fact 8)
  f_list := free_ok X G (c.fact 9)
  f_range := free_ok X G (c.fact 10)
  f_sorted := free_ok X G (c.fact 11)
  f_str := free_ok X G (c.fact 12)
  f_super := free_ok X G (c.fact 13)
  f_tuple := free_ok X G (c.fact 14)
  f_zip := free_ok X G (c.fact 15)
  g_wall := glo_ok X G (c.fact 16)
  g_JoinError := glo_ok X G (c.fact 17)
  g_InvalidFrame := glo_ok X G (c.fact 18)
  g_MissingError := glo_ok X G (c.fact 19)
  g_NoLeg := glo_ok X G (c.fact 20)
  g_LETTERS := str_ok X G (c.fact 21)
  g_MOST_LETTERS := int_ok X G (c.fact 22)
  g_GROUND := str_ok X G (c.fact 23)
  g_POWER := str_ok X G (c.fact 24)
  g_NOTHING := str_ok X G (c.fact 25)
  g_is_integer := glo_ok X G (c.fact 26)
  g_is_between := glo_ok X G (c.fact 27)
  g_is_name := glo_ok X G (c.fact 28)
  g_Leg := glo_ok X G (c.fact 29)
  g_Driver := glo_ok X G (c.fact 30)
  g_Listener := glo_ok X G (c.fact 31)
  g_MOST_TOP := int_ok X G (c.fact 32)
  g_fault_of := glo_ok X G (c.fact 33)
  g_Frame := glo_ok X G (c.fact 34)
  g_Lpen := glo_ok X G (c.fact 35)
  g_Ldraw := glo_ok X G (c.fact 36)
  g_Lpick := glo_ok X G (c.fact 37)
  g_Ltags := glo_ok X G (c.fact 38)
  g_Lheard := glo_ok X G (c.fact 39)
  g_Ldrawn := glo_ok X G (c.fact 40)
  g_law := glo_ok X G (c.fact 41)
  x_InvalidFrame := exT_ok (c.fact 42)
  x_NoLeg := exT_ok (c.fact 43)
  sys := id (c.fact 44)
  xc_JoinError := xcT_ok (c.fact 45)
  xc_InvalidFrame := xcT_ok (c.fact 46)
  xc_MissingError := xcT_ok (c.fact 47)
  xc_NoLeg := xcT_ok (c.fact 48)
  in_Leg := inT_ok (c.fact 49)
  mk_Leg := mkT_ok (c.fact 50)
  in_Driver := inT_ok (c.fact 51)
  mk_Driver := mkT_ok (c.fact 52)
  in_Listener := inT_ok (c.fact 53)
  mk_Listener := mkT_ok (c.fact 54)
  in_Frame := inT_ok (c.fact 55)
  mk_Frame := mkT_ok (c.fact 56)
  fn_Leg_init := id (c.fact 57)
  fn_Leg_eq := id (c.fact 58)
  fn_Frame_init := id (c.fact 59)
  n_Leg := finT_ok (v := fun _ => none) (c.fact 60)
  ka_Leg := kaT_ok (t := fun K => .ref (ga K "Leg")) (cs := fun K => [.ref (ga K "Driver"), .ref (ga K "Listener")]) (c.fact 61)
  n_Driver := finT_ok (v := fun _ => none) (c.fact 62)
  ka_Driver := kaT_ok (t := fun K => .ref (ga K "Driver")) (cs := fun K => [.ref (ga K "Driver"), .ref (ga K "Listener")]) (c.fact 63)
  n_Listener := finT_ok (v := fun _ => none) (c.fact 64)
  ka_Listener := kaT_ok (t := fun K => .ref (ga K "Listener")) (cs := fun K => [.ref (ga K "Driver"), .ref (ga K "Listener")]) (c.fact 65)
  n_Ftop := finT_ok (v := fun _ => none) (c.fact 66)
  n_Fground := finT_ok (v := fun _ => none) (c.fact 67)
  n_Fpower := finT_ok (v := fun _ => none) (c.fact 68)
  n_Fown_legs := finT_ok (v := fun _ => none) (c.fact 69)
  m_Frame := conI_ok (c.fact 70)
  ka_NoneType := kaT_ok (t := fun K => .type "NoneType") (cs := fun K => [.ref (ga K "Driver"), .ref (ga K "Listener")]) (c.fact 71)
  ka_int := kaT_ok (t := fun K => .type "int") (cs := fun K => [.ref (ga K "Driver"), .ref (ga K "Listener")]) (c.fact 72)
  ka_str := kaT_ok (t := fun K => .type "str") (cs := fun K => [.ref (ga K "Driver"), .ref (ga K "Listener")]) (c.fact 73)
  ka_tuple := kaT_ok (t := fun K => .type "tuple") (cs := fun K => [.ref (ga K "Driver"), .ref (ga K "Listener")]) (c.fact 74)
  ki_NoneType := kitT_ok (t := fun K => .type "NoneType") (c := fun K => .type "int") (c.fact 75)
  kb_NoneType := kitT_ok (t := fun K => .type "NoneType") (c := fun K => .type "bool") (c.fact 76)
  kl_NoneType := kaT_ok (t := fun K => .type "NoneType") (cs := fun K => [.type "list", .type "tuple"]) (c.fact 77)
  ki_bool := kitT_ok (t := fun K => .type "bool") (c := fun K => .type "int") (c.fact 78)
  kb_bool := kitT_ok (t := fun K => .type "bool") (c := fun K => .type "bool") (c.fact 79)
  kl_bool := kaT_ok (t := fun K => .type "bool") (cs := fun K => [.type "list", .type "tuple"]) (c.fact 80)
  ki_int := kitT_ok (t := fun K => .type "int") (c := fun K => .type "int") (c.fact 81)
  kb_int := kitT_ok (t := fun K => .type "int") (c := fun K => .type "bool") (c.fact 82)
  kl_int := kaT_ok (t := fun K => .type "int") (cs := fun K => [.type "list", .type "tuple"]) (c.fact 83)
  ki_str := kitT_ok (t := fun K => .type "str") (c := fun K => .type "int") (c.fact 84)
  kb_str := kitT_ok (t := fun K => .type "str") (c := fun K => .type "bool") (c.fact 85)
  kl_str := kaT_ok (t := fun K => .type "str") (cs := fun K => [.type "list", .type "tuple"]) (c.fact 86)
  ki_list := kitT_ok (t := fun K => .type "list") (c := fun K => .type "int") (c.fact 87)
  kb_list := kitT_ok (t := fun K => .type "list") (c := fun K => .type "bool") (c.fact 88)
  kl_list := kaT_ok (t := fun K => .type "list") (cs := fun K => [.type "list", .type "tuple"]) (c.fact 89)
  ki_tuple := kitT_ok (t := fun K => .type "tuple") (c := fun K => .type "int") (c.fact 90)
  kb_tuple := kitT_ok (t := fun K => .type "tuple") (c := fun K => .type "bool") (c.fact 91)
  kl_tuple := kaT_ok (t := fun K => .type "tuple") (cs := fun K => [.type "list", .type "tuple"]) (c.fact 92)
  ki_dict := kitT_ok (t := fun K => .type "dict") (c := fun K => .type "int") (c.fact 93)
  kb_dict := kitT_ok (t := fun K => .type "dict") (c := fun K => .type "bool") (c.fact 94)
  kl_dict := kaT_ok (t := fun K => .type "dict") (cs := fun K => [.type "list", .type "tuple"]) (c.fact 95)
  kl_Driver := kaT_ok (t := fun K => .ref (ga K "Driver")) (cs := fun K => [.type "list", .type "tuple"]) (c.fact 96)
  ks_str := kitT_ok (t := fun K => .type "str") (c := fun K => .type "str") (c.fact 97)
  exm := exmT_ok (t := fun K => .ref (ga K "InvalidFrame")) (c := fun K => .ref (ga K "JoinError")) (c.fact 98)
  kx := kitT_ok (t := fun K => .ref (ga K "InvalidFrame")) (c := fun K => .ref (ga K "InvalidFrame")) (c.fact 99)
  kv := kitT_ok (t := fun K => .ref (ga K "InvalidFrame")) (c := fun K => .type "ValueError") (c.fact 100)
  xn_InvalidFrame := finT_ok (v := fun _ => none) (c.fact 101)
  cm_Frame_of := cmT_ok (c.fact 102)
  ta_Frame_init_law := of_decide_eq_true (c.fact 103)
  d_is_integer := c.def_ 0
  d_is_between := c.def_ 1
  d_is_name := c.def_ 2
  d_Leg_init := c.def_ 3
  d_Leg_eq := c.def_ 4
  d_fault_of := c.def_ 5
  d_Frame_init := c.def_ 6
  d_Frame_of := c.def_ 7
  d_Lpen := c.def_ 8
  d_Ldraw := c.def_ 9
  d_Lpick := c.def_ 10
  d_Ltags := c.def_ 11
  d_Lheard := c.def_ 12
  d_Ldrawn := c.def_ 13
  d_law := c.def_ 14
  e_InvalidFrame_init := c.exc 0
  e_NoLeg_init := c.exc 1
/-! ### the data -/
structure Lg where
  drv : Bool
  nm : Str
def lc (b : Bool) : Str := if b then "Driver" else "Listener"
def legD (l : Lg) : D := .obj (lc l.drv) [("name", .str l.nm)]
def letters : List Nat := ("abcdefghijklmnopqrstuvwxyz" : Str).cps.toList
/-- is the text a name -/
def nameB (z : Str) : Bool := decide (1 ≤ z.length) && (decide (z.length ≤ 8) && ((z.cps.toList.all fun c => decide (c ∈ letters)) && !decide (z ∈ (["ground", "power", "nothing"] : List Str))))
def sortL (ls : List Lg) : List Lg := ((ls.zip (ls.map (·.nm))).mergeSort (PySem.W.dataLe false fun q => PyData.str q.2)).map (·.1)
/-- values without objects -/
def flatD : D → Bool
  | .non => true
  | .bl _ => true
  | .int _ => true
  | .str _ => true
  | .lst _ => true
  | .tup _ => true
  | .dct _ => true
  | _ => false
def isIntD : D → Bool
  | .int _ => true
  | _ => false
def isBlD : D → Bool
  | .bl _ => true
  | _ => false
def btw (lo hi : Int) : D → Bool
  | .int v => decide (lo ≤ v) && decide (v ≤ hi)
  | _ => false
def isLegD : D → Bool
  | .obj c _ => decide (c = "Driver") || decide (c = "Listener")
  | _ => false
def AnyD : D → Prop
  | .non => True
  | .int _ => True
  | .str _ => True
  | .tup _ => True
  | .obj c fs => (c = "Leg" ∨ c = "Driver" ∨ c = "Listener") ∧ ∃ z : Str, fs = ([("name", D.str z)] : List (Str × D)) ∧ z.length ≤ 1000
  | _ => False
def nmOf : D → Str
  | .obj _ ((_, .str z) :: _) => z
  | _ => ""
/-- the first reason why values make no frame -/
def faultOf (es : List D) (top rg rp : D) : Option Str :=
  if es.all isLegD = false then some "legs" else if 40 < es.length then some "many" else if ¬ (es.map nmOf).Nodup then some "name" else if btw 1 3 top = false then some "top" else if (isBlD rg && isBlD rp) = false then some "rails" else none
def outF : Option Str → D
  | none => .non
  | some s => .str s
structure Asked (es : List D) (top rg rp : D) : Prop where
  le : es.length ≤ 1000
  an : ∀ e ∈ es, AnyD e
  tp : flatD top = true
  rg : flatD rg = true
  rp : flatD rp = true
/-! ### promises -/
def P_is_integer : PD := fun ds Q _ => ∃ d, ds = [d] ∧ flatD d = true ∧ Q (.bl (isIntD d))
def P_is_between : PD := fun ds Q _ => ∃ (d : D) (lo hi : Int), ds = [d, .int lo, .int hi] ∧ flatD d = true ∧ Q (.bl (btw lo hi d))
def P_is_name : PD := fun ds Q _ => ∃ z : Str, ds = [.str z] ∧ z.length ≤ 1000 ∧ Q (.bl (nameB z))
def P_Leg_init : PI1 := fun c ds Q _ => (∃ b z, c = lc b ∧ ds = [.str z] ∧ z.length ≤ 1000 ∧ nameB z = true ∧ Q [("name", .str z)]) ∨ ∃ z, c = "Leg" ∧ ds = [.str z] ∧ z.length ≤ 1000 ∧ nameB z = true ∧ Q [("name", .str z)]
def P_Leg_eq : PD := fun ds Q _ => ∃ l m : Lg, ds = [legD l, legD m] ∧ False
def P_fault_of : PD := fun ds Q _ => ∃ (es : List D) (top rg rp : D), ds = [.tup es, .int 40, top, .tup [rg, rp]] ∧ Asked es top rg rp ∧ Q (outF (faultOf es top rg rp))
def P_Frame_init : PI1 := fun c ds Q E => ∃ (es : List D) (top rg rp : D), c = "Frame" ∧ ds = [top, rg, rp, .tup es] ∧ Asked es top rg rp ∧ (faultOf es top rg rp = none → ∀ fs, Q fs) ∧ ∀ s, faultOf es top rg rp = some s → E "InvalidFrame" [("reason", .str s)]
/-- values that are no lists and no tuples -/
def noSeq : D → Prop
  | .non => True
  | .bl _ => True
  | .int _ => True
  | .str _ => True
  | .dct _ => True
  | .obj c _ => c = "Driver"
  | _ => False
def P_Frame_of : PD := fun ds Q E => ∃ (x top rg rp : D), ds = [.cls "Frame", x, top, rg, rp] ∧ ((∃ es, (x = .lst es ∨ x = .tup es) ∧ Asked es top rg rp ∧ (faultOf es top rg rp = none → ∀ d, Q d) ∧ ∀ s, faultOf es top rg rp = some s → E "InvalidFrame" [("reason", .str s)]) ∨ (noSeq x ∧ E "InvalidFrame" [("reason", .str "legs")]))
/-! ### the law's own -/
def pool : List Str := ["a", "frame", "b", "rest", "self", "c", "zzzzzzzz", "word", "d", "e", "reads", "leg", "x", "grounds", "q", "cls"]
def P_Lpick : PP1 := PPick
def P_Ldraw : PP1 := PDraw
def P_Ltags : PP1 := fun n ds Q => ∃ m : Nat, ds = [.int m] ∧ m ≤ 16 ∧ n + m < 100000 ∧ ∀ zs : List Str, zs.length = m → zs.Nodup → (∀ z ∈ zs, z ∈ pool) → Q (.lst (zs.map D.str)) (n + m)
/-- what is told of an error -/
def CR_heard : OutE → (D → Prop) → Prop
  | none, Qd => Qd .non
  | some (c, fs), Qd => c = "InvalidFrame" ∧ ∃ r : Str, fs = ([("reason", D.str r)] : List (Str × D)) ∧ Qd (.str r)
def P_Ldrawn : PP1 := fun n ds Q => ds = [] ∧ n < 90000 ∧ ∀ es top rg rp n2, Asked es top rg rp → es.length ≤ 60 → n2 ≤ n + 60 → Q (.tup [.lst es, top, .lst [rg, rp], outF (faultOf es top rg rp)]) n2
def sp_is_integer (K : PySem.W.Frag) : Sp := spS K (TB K) (pu P_is_integer)
def sp_is_between (K : PySem.W.Frag) : Sp := spS K (TB K) (pu P_is_between)
def sp_is_name (K : PySem.W.Frag) : Sp := spS K (TB K) (pu P_is_name)
def sp_Leg_init (K : PySem.W.Frag) : Sp := spS K (TB K) (pin P_Leg_init)
def sp_Leg_eq (K : PySem.W.Frag) : Sp := spS K (TB K) (pu P_Leg_eq)
def sp_fault_of (K : PySem.W.Frag) : Sp := spS K (TB K) (pu P_fault_of)
def sp_Frame_init (K : PySem.W.Frag) : Sp := spS K (TB K) (pin P_Frame_init)
def sp_Frame_of (K : PySem.W.Frag) : Sp := spS K (TB K) (pu P_Frame_of)
def sp_Lpen (K : PySem.W.Frag) : Sp := spPen K
def sp_Ldraw (K : PySem.W.Frag) : Sp := spS K (TB K) (pp P_Ldraw)
def sp_Lpick (K : PySem.W.Frag) : Sp := spS K (TB K) (pp P_Lpick)
def sp_Ltags (K : PySem.W.Frag) : Sp := spS K (TB K) (pp P_Ltags)
def TT_Lheard (K : PySem.W.Frag) : (XK → Hp → VK → Prop) → Hp → VK → Prop := TTm K (TB K) CR_heard
def sp_Ldrawn (K : PySem.W.Frag) : Sp := spS K (TB K) (pp P_Ldrawn)
def sp_law (K : PySem.W.Frag) : Sp := spLaw K (TB K)
abbrev gks_Frame_init_top : List V → List V → List V := fun vs zs => pickL [0, 3, 1, 2] vs [(.bl false : V), (.bl false : V)] zs
theorem gks_Frame_init_top_len : ∀ (a : V) (zs : List V), zs.length = 1 → (gks_Frame_init_top [a] zs).length = 4 := fun a zs h => match zs, h with | [_], _ => rfl
theorem tks_Frame_init_top {K : PySem.W.Frag} {fd : FuncData} (F : Fn_Frame_init K fd) : ∃ mv : List Value, KSn K fd ["self", "top", "ground", "power"] "legs" 1 ["top"] (fun us ws => pickL [0, 3, 1, 2] us mv ws) gks_Frame_init_top := by
  refine ksn_of F 1 ["top"] [("ground", .bl false), ("power", .bl false)] (pickL [0, 3, 1, 2]) (fun e => nomatch e) (by simp) pick_rel (fun D doc pm an cdv ct us mv ws rest l1 l2 l3 => ?_)
  match us, mv, ws, l1, l2, l3 with
  | [a0], [b0, b1], [c0], _, _, _ =>
    cases rest with
    | nil => exact ⟨_, _, _, _, _, _, rfl, rfl, _, _, _, _, _, _, rfl, rfl, rfl⟩
    | cons r rs => exact ⟨_, _, _, _, _, _, rfl, rfl, _, _, _, _, _, _, rfl, rfl, rfl⟩
abbrev gks_Frame_init_top_ground_power : List V → List V → List V := fun vs zs => pickL [0, 1, 2, 3] vs [] zs
theorem gks_Frame_init_top_ground_power_len : ∀ (a : V) (zs : List V), zs.length = 3 → (gks_Frame_init_top_ground_power [a] zs).length = 4 := fun a zs h => match zs, h with | [_, _, _], _ => rfl
theorem tks_Frame_init_top_ground_power {K : PySem.W.Frag} {fd : FuncData} (F : Fn_Frame_init K fd) : ∃ mv : List Value, KSn K fd ["self", "top", "ground", "power"] "legs" 1 ["top", "ground", "power"] (fun us ws => pickL [0, 1, 2, 3] us mv ws) gks_Frame_init_top_ground_power := by
  refine ksn_of F 1 ["top", "ground", "power"] [] (pickL [0, 1, 2, 3]) (fun e => nomatch e) (by simp) pick_rel (fun D doc pm an cdv ct us mv ws rest l1 l2 l3 => ?_)
  match us, mv, ws, l1, l2, l3 with
  | [a0], [], [c0, c1, c2], _, _, _ =>
    cases rest with
    | nil => exact rfl
    | cons r rs => exact rfl
abbrev gkbm_Frame_of_2_power_ground_top : List V → List V → List V := fun vs zs => pickL [0, 1, 4, 3, 2] vs [] zs
theorem tkbm_Frame_of_2_power_ground_top {K : PySem.W.Frag} {fd : FuncData} (F : Fn_Frame_of K fd) : ∃ mv : List Value, KBn K fd ["cls", "legs", "top", "ground", "power"] 2 ["power", "ground", "top"] (fun us ws => pickL [0, 1, 4, 3, 2] us mv ws) gkbm_Frame_of_2_power_ground_top := by
  refine FunD.kbinds0 F 2 ["power", "ground", "top"] [] (pickL [0, 1, 4, 3, 2]) (fun e => nomatch e) (by simp) pick_rel (fun D doc pm an cdv ct us mv ws l1 l2 l3 => ?_)
  match us, mv, ws, l1, l2, l3 with
  | [a0, a1], [], [c0, c1, c2], _, _, _ => exact rfl
abbrev gkbm_Frame_of_2_top : List V → List V → List V := fun vs zs => pickL [0, 1, 4, 2, 3] vs [(.bl false : V), (.bl false : V)] zs
theorem tkbm_Frame_of_2_top {K : PySem.W.Frag} {fd : FuncData} (F : Fn_Frame_of K fd) : ∃ mv : List Value, KBn K fd ["cls", "legs", "top", "ground", "power"] 2 ["top"] (fun us ws => pickL [0, 1, 4, 2, 3] us mv ws) gkbm_Frame_of_2_top := by
  refine FunD.kbinds0 F 2 ["top"] [("ground", .bl false), ("power", .bl false)] (pickL [0, 1, 4, 2, 3]) (fun e => nomatch e) (by simp) pick_rel (fun D doc pm an cdv ct us mv ws l1 l2 l3 => ?_)
  match us, mv, ws, l1, l2, l3 with
  | [a0, a1], [b0, b1], [c0], _, _, _ => exact ⟨_, _, _, _, _, _, rfl, rfl, _, _, _, _, _, _, rfl, rfl, rfl⟩
abbrev gkbm_Frame_of_2_top_ground_power : List V → List V → List V := fun vs zs => pickL [0, 1, 2, 3, 4] vs [] zs
theorem tkbm_Frame_of_2_top_ground_power {K : PySem.W.Frag} {fd : FuncData} (F : Fn_Frame_of K fd) : ∃ mv : List Value, KBn K fd ["cls", "legs", "top", "ground", "power"] 2 ["top", "ground", "power"] (fun us ws => pickL [0, 1, 2, 3, 4] us mv ws) gkbm_Frame_of_2_top_ground_power := by
  refine FunD.kbinds0 F 2 ["top", "ground", "power"] [] (pickL [0, 1, 2, 3, 4]) (fun e => nomatch e) (by simp) pick_rel (fun D doc pm an cdv ct us mv ws l1 l2 l3 => ?_)
  match us, mv, ws, l1, l2, l3 with
  | [a0, a1], [], [c0, c1, c2], _, _, _ => exact rfl
def t_is_integer (K : PySem.W.Frag) : TS := (tRet (tAndV (tCB (rIsi K) (tCons (tVar 0) (tCons (tC (.ty "int")) tNil))) (tNotV (tCB (rIsi K) (tCons (tVar 0) (tCons (tC (.ty "bool")) tNil))))))
def t_is_between (K : PySem.W.Frag) : TS := (tRet (tAndV (tFn (sp_is_integer K) [] W0 (tCons (tVar 0) tNil)) (tChain rLeU rLeU (tVar 1) (tVar 0) (tVar 2))))
def t_is_name (K : PySem.W.Frag) : TS := (tSeq (tIfS (tOr (tNot (tB (tCB (rIsi K) (tCons (tVar 0) (tCons (tC (.ty "str")) tNil))))) (tNot (tTest (tChain rLeU rLeU (tC (.int 1)) (tCB (rLenU K) (tCons (tVar 0) tNil)) (tC (.int 8)))))) (tRet (tC (.bl false))) tNext) (tRet (tAndV (tCB (rAll K) (tCons (tLc (iStr (tVar 0)) (gName 1) tYes (tOp rInS (tVar 1) (tC (.str "abcdefghijklmnopqrstuvwxyz"))) [1]) tNil)) (tOp (rInU K true) (tVar 0) (tTup (tCons (tC (.str "ground")) (tCons (tC (.str "power")) (tCons (tC (.str "nothing")) tNil))))))))
def t_Leg_init (K : PySem.W.Frag) (E : XK) : TS := (tSeq (tIfS (tNot (tB (tFn (sp_is_name K) [] (WO E) (tCons (tVar 1) tNil)))) (tRz (ga K "InvalidFrame") ["reason"] (WO E) (tCons (tC (.str "name")) tNil)) tNext) (sFld K (tVar 0) (tVar 1) "name"))
def t_Leg_eq (K : PySem.W.Frag) : TS := (tRet (tAndV (tCB (rIsi K) (tCons (tVar 1) (tCons (tC (.ref (ga K "Leg"))) tNil))) (tAndV (tOp (rEqU K) (tCon K (tVar 0) "KIND") (tCon K (tVar 1) "KIND")) (tOp (rEqU K) (tFld K (tVar 0) "name") (tFld K (tVar 1) "name")))))
def t_fault_of (K : PySem.W.Frag) (P : Program) (w : World) : TS := (tSeq (tIfS (tNot (tB (tCB (rAll K) (tCons (tLc (iTup K (tVar 0)) (gName 4) tYes (tCB (rIsiS K) (tCons (tVar 4) (tCons (tTup (tCons (tC (.ref (ga K "Driver"))) (tCons (tC (.ref (ga K "Listener"))) tNil))) tNil))) [4]) tNil)))) (tRet (tC (.str "legs"))) tNext) (tSeq (tIfS (tTest (tOp rGtU (tCB (rLenU K) (tCons (tVar 0) tNil)) (tVar 1))) (tRet (tC (.str "many"))) tNext) (tSeq (tIfS (tTest (tOp rLtU (tCB (rLenSet P w) (tCons (tScK P w (iTup K (tVar 0)) (gName 4) tYes (tFld K (tVar 4) "name") [4]) tNil)) (tCB (rLenU K) (tCons (tVar 0) tNil)))) (tRet (tC (.str "name"))) tNext) (tSeq (tIfS (tNot (tB (tFn (sp_is_between K) [] W0 (tCons (tVar 2) (tCons (tC (.int 1)) (tCons (tC (.int 3)) tNil)))))) (tRet (tC (.str "top"))) tNext) (tRet (tIf (tB (tCB (rAll K) (tCons (tLc (iTup K (tVar 3)) (gName 5) tYes (tCB (rIsi K) (tCons (tVar 5) (tCons (tC (.ty "bool")) tNil))) [5]) tNil))) (tC .non) (tC (.str "rails"))))))))
def t_Frame_init (K : PySem.W.Frag) (E : XK) : TS := (tSeq (tAsg (tFn (sp_fault_of K) [] (WO E) (tCons (tVar 4) (tCons (tCon K (tVar 0) "MOST") (tCons (tVar 1) (tCons (tTup (tCons (tVar 2) (tCons (tVar 3) tNil))) tNil))))) (gName 5)) (tSeq (tIfS (tTest (tOp (rIsU true) (tVar 5) (tC .non))) (tRz (ga K "InvalidFrame") ["reason"] (WO E) (tCons (tVar 5) tNil)) tNext) (tSeq (sFld K (tVar 0) (tVar 1) "top") (tSeq (sFld K (tVar 0) (tVar 2) "ground") (tSeq (sFld K (tVar 0) (tVar 3) "power") (sFld K (tVar 0) (tDc (iList K (tSortA K (TB K) "name" (tCons (tVar 4) tNil))) (gName 6) tYes (tFld K (tVar 6) "name") (tVar 6) [6]) "own_legs"))))))
def t_Frame_of (K : PySem.W.Frag) (E : XK) : TS := (tSeq (tIfS (tNot (tB (tCB (rIsiS K) (tCons (tVar 1) (tCons (tTup (tCons (tC (.ty "list")) (tCons (tC (.ty "tuple")) tNil))) tNil))))) (tRz (ga K "InvalidFrame") ["reason"] (WO E) (tCons (tC (.str "legs")) tNil)) tNext) (tRet (tAt 0 (ga K "Frame") (tNwSs K (ga K "Frame") 3 (sp_Frame_init K) gks_Frame_init_top_ground_power (WO E) (tVar 1) (tCons (tVar 2) (tCons (tVar 3) (tCons (tVar 4) tNil)))))))
def t_Lpen (K : PySem.W.Frag) : TS := (tRet (tLst (tCons (tCB (rListU K) (tCons (tSl (rSlU K) (tVar 0) tNoPart (tPart (tC (.int 63)))) tNil)) (tCons (tC (.int 0)) (tCons (tC (.int 0)) tNil)))))
def t_Ldraw (K : PySem.W.Frag) : TS := (tSeq (tIfS (tTest (tOp rGtU (tOp (rIx K) (tVar 0) (tC (.int 2))) (tC (.int 0)))) (tSeq (tAsg (tOp rMod (tCB rInt (tCons (tOp (rIx K) (tVar 0) (tC (.int 2))) tNil)) (tVar 1)) (gName 2)) (tSeq (tAsg (tOp rFdv (tCB rInt (tCons (tOp (rIx K) (tVar 0) (tC (.int 2))) tNil)) (tVar 1)) (gSub (tVar 0) (tC (.int 2)) rSetL)) (tRet (tVar 2)))) tNext) (tSeq (tAsg (tOp (rIx K) (tVar 0) (tC (.int 1))) (gName 3)) (tSeq (tAsg (tOp (rAdd K) (tVar 3) (tC (.int 1))) (gSub (tVar 0) (tC (.int 1)) rSetL)) (tSeq (tAsg (tOp (rAdd K) (tOp (rMul K) (tC (.int 51059)) (tVar 3)) (tC (.int 109))) (gName 4)) (tSeq (tIfS (tTest (tOp (rNeU K) (tOp (rIx K) (tVar 0) (tC (.int 0))) (tLst tNil))) (tAsg (tOp (rIx K) (tOp (rIx K) (tVar 0) (tC (.int 0))) (tOp rMod (tCB rInt (tCons (tVar 3) tNil)) (tCB (rLenU K) (tCons (tOp (rIx K) (tVar 0) (tC (.int 0))) tNil)))) (gName 4)) tNext) (tSeq (tIfS (tAnd (tTest (tOp rLtU (tVar 3) (tCB (rLenU K) (tCons (tOp (rIx K) (tVar 0) (tC (.int 0))) tNil)))) (tTest (tOp rGeU (tCB rAbs (tCons (tVar 4) tNil)) (tOp rPow (tC (.int 10)) (tC (.int 18)))))) (tSeq (tAsg (tOp (rAdd K) (tOp (rMul K) (tC (.int 2)) (tCB rAbs (tCons (tVar 4) tNil))) (tCB rInt (tCons (tOp rLtU (tVar 4) (tC (.int 0))) tNil))) (gName 5)) (tSeq (tAsg (tOp rFdv (tCB rInt (tCons (tVar 5) tNil)) (tVar 1)) (gSub (tVar 0) (tC (.int 2)) rSetL)) (tRet (tOp rMod (tCB rInt (tCons (tVar 5) tNil)) (tVar 1))))) tNext) (tSeq (tAsg (tOp rMod (tOp rPow (tCB rInt (tCons (tOp (rAdd K) (tOp (rAdd K) (tOp rMod (tCB rInt (tCons (tVar 4) tNil)) (tC (.int 2147483563))) (tOp (rMul K) (tC (.int 48079)) (tVar 3))) (tC (.int 17))) tNil)) (tC (.int 5))) (tC (.int 2147483579))) (gName 6)) (tSeq (tAsg (tOp rMod (tOp rPow (tCB rInt (tCons (tOp (rAdd K) (tOp (rAdd K) (tOp (rMul K) (tVar 6) (tOp (rAdd K) (tOp (rMul K) (tC (.int 2)) (tVar 3)) (tC (.int 21)))) (tOp (rMul K) (tOp (rMul K) (tC (.int 50069)) (tVar 3)) (tVar 3))) (tC (.int 19))) tNil)) (tC (.int 3))) (tC (.int 2147483629))) (gName 6)) (tRet (tOp rMod (tCB rInt (tCons (tOp rFdv (tVar 6) (tC (.int 16))) tNil)) (tVar 1)))))))))))
def t_Lpick (K : PySem.W.Frag) : TS := (tRet (tOp (rIx K) (tVar 1) (tFn (sp_Ldraw K) [] W0 (tCons (tVar 0) (tCons (tCB (rLenU K) (tCons (tVar 1) tNil)) tNil)))))
def t_Ltags (K : PySem.W.Frag) : TS := (tSeq (tAsg (tLst (tCons (tC (.str "a")) (tCons (tC (.str "frame")) (tCons (tC (.str "b")) (tCons (tC (.str "rest")) (tCons (tC (.str "self")) (tCons (tC (.str "c")) (tCons (tC (.str "zzzzzzzz")) (tCons (tC (.str "word")) (tCons (tC (.str "d")) tNil)))))))))) (gName 2)) (tSeq (tAsg (tOp (rAdd K) (tVar 2) (tLst (tCons (tC (.str "e")) (tCons (tC (.str "reads")) (tCons (tC (.str "leg")) (tCons (tC (.str "x")) (tCons (tC (.str "grounds")) (tCons (tC (.str "q")) (tCons (tC (.str "cls")) tNil))))))))) (gName 2)) (tRet (tLc (iRng1 (tCons (tVar 1) tNil)) (gName 3) tYes (tBM K "list" rPopAt (tVar 2) (tCons (tFn (sp_Ldraw K) [] W0 (tCons (tVar 0) (tCons (tCB (rLenU K) (tCons (tVar 2) tNil)) tNil))) tNil)) [3]))))
def t_Lheard (K : PySem.W.Frag) (f c : Addr) (q : Str) (tl : XK → Hp → VK → Prop) : TS := (tSeq (tAsg (tC .non) (gName 1)) (tSeq (tTryK K (ga K "JoinError") 2 (fun W => (tDrop (tAct f c q W tl))) (fun a cls d => (tAsg (tVar 2) (gName 1))) W0) (tSeq (tIfS (tTest (tOp (rIsU false) (tVar 1) (tC .non))) (tRet (tC .non)) tNext) (tRet (tIf (tAnd (tB (tCB (rIsiU K) (tCons (tVar 1) (tCons (tC (.ref (ga K "InvalidFrame"))) tNil)))) (tB (tCB (rIsiU K) (tCons (tVar 1) (tCons (tC (.ty "ValueError")) tNil))))) (tXv K "reason" (tVar 1)) (tC (.str "odd")))))))
def t_Ldrawn (K : PySem.W.Frag) : TS := (tSeq (tAsg (tLc (iList K (tFn (sp_Ltags K) [] W0 (tCons (tVar 0) (tCons (tFn (sp_Ldraw K) [] W0 (tCons (tVar 0) (tCons (tC (.int 4)) tNil))) tNil)))) (gName 2) tYes (tNw (ga K "Driver") (sp_Leg_init K) [] W0 (tCons (tVar 2) tNil)) [2]) (gName 1)) (tSeq (tAsg (tLc (iRng1 (tCons (tC (.int 5)) tNil)) (gName 4) tYes (tOp (rEqU K) (tFn (sp_Ldraw K) [] W0 (tCons (tVar 0) (tCons (tC (.int 4)) tNil))) (tC (.int 0))) [4]) (gName 3)) (tSeq (tIfS (tB (tOp (rIx K) (tVar 3) (tC (.int 1)))) (tAsg (tOp (rAdd K) (tVar 1) (tLc (iRng1 (tCons (tC (.int 41)) tNil)) (gName 5) tYes (tNw (ga K "Listener") (sp_Leg_init K) [] W0 (tCons (tOp (rAdd K) (tOp (rAdd K) (tC (.str "z")) (tOp (rIx K) (tC (.str "abcdef")) (tOp rFdv (tVar 5) (tC (.int 7))))) (tOp (rIx K) (tC (.str "stuvwxy")) (tOp rMod (tCB rInt (tCons (tVar 5) tNil)) (tC (.int 7))))) tNil)) [5])) (gName 1)) tNext) (tSeq (tIfS (tB (tOp (rIx K) (tVar 3) (tC (.int 2)))) (tAsg (tOp (rAdd K) (tVar 1) (tLst (tCons (tNw (ga K "Driver") (sp_Leg_init K) [] W0 (tCons (tC (.str "double")) tNil)) (tCons (tNw (ga K "Listener") (sp_Leg_init K) [] W0 (tCons (tC (.str "double")) tNil)) tNil)))) (gName 1)) tNext) (tSeq (tIfS (tB (tOp (rIx K) (tVar 3) (tC (.int 0)))) (tSeq (tAsg (tFn (sp_Lpick K) [] W0 (tCons (tVar 0) (tCons (tLst (tCons (tC .non) (tCons (tC (.str "a")) (tCons (tNw (ga K "Leg") (sp_Leg_init K) [] W0 (tCons (tC (.str "zz")) tNil)) (tCons (tC (.int 1)) (tCons (tTup tNil) (tCons (tC (.str "driver a")) tNil))))))) tNil))) (gName 6)) (tDrop (tBM K "list" rInsert (tVar 1) (tCons (tFn (sp_Ldraw K) [] W0 (tCons (tVar 0) (tCons (tOp (rAdd K) (tCB (rLenU K) (tCons (tVar 1) tNil)) (tC (.int 1))) tNil))) (tCons (tVar 6) tNil))))) tNext) (tSeq (tAsg (tIf (tB (tOp (rIx K) (tVar 3) (tC (.int 3)))) (tFn (sp_Lpick K) [] W0 (tCons (tVar 0) (tCons (tLst (tCons (tC (.int 0)) (tCons (tC (.int 4)) (tCons (tUn (rU fun i => .int (-i)) (tC (.int 1))) (tCons (tC (.bl true)) (tCons (tC .non) (tCons (tC (.str "1")) (tCons (tTup (tCons (tC (.int 1)) tNil)) (tCons (tOp rPow (tC (.int 10)) (tC (.int 30))) tNil))))))))) tNil))) (tOp (rAdd K) (tC (.int 1)) (tFn (sp_Ldraw K) [] W0 (tCons (tVar 0) (tCons (tC (.int 3)) tNil))))) (gName 7)) (tSeq (tAsg (tLst (tCons (tOp (rEqU K) (tFn (sp_Ldraw K) [] W0 (tCons (tVar 0) (tCons (tC (.int 2)) tNil))) (tC (.int 0))) (tCons (tOp (rEqU K) (tFn (sp_Ldraw K) [] W0 (tCons (tVar 0) (tCons (tC (.int 2)) tNil))) (tC (.int 0))) tNil))) (gName 8)) (tSeq (tIfS (tB (tOp (rIx K) (tVar 3) (tC (.int 4)))) (tAsg (tFn (sp_Lpick K) [] W0 (tCons (tVar 0) (tCons (tLst (tCons (tC (.int 0)) (tCons (tC (.int 1)) (tCons (tC .non) (tCons (tC (.str "")) (tCons (tC (.str "ground")) (tCons (tTup tNil) (tCons (tLst tNil) tNil)))))))) tNil))) (gSub (tVar 8) (tFn (sp_Ldraw K) [] W0 (tCons (tVar 0) (tCons (tC (.int 2)) tNil))) rSetL)) tNext) (tSeq (tAsg (tLc (iZip K (tCons (tLst (tCons (tC (.str "legs")) (tCons (tC (.str "many")) (tCons (tC (.str "name")) (tCons (tC (.str "top")) (tCons (tC (.str "rails")) tNil)))))) (tCons (tVar 3) tNil))) (gTup K 2 (gCons (gName 10) (gCons (gName 11) gNil))) (tB (tVar 11)) (tVar 10) [10, 11]) (gName 9)) (tRet (tTup (tCons (tVar 1) (tCons (tVar 7) (tCons (tVar 8) (tCons (tOp (rIx K) (tOp (rAdd K) (tVar 9) (tLst (tCons (tC .non) tNil))) (tC (.int 0))) tNil)))))))))))))))
def t_law (K : PySem.W.Frag) : TS := (tSeq (tAsg (tFn (sp_Lpen K) [] W0 (tCons (tVar 0) tNil)) (gName 1)) (tSeq (tFor (iRng1 (tCons (tC (.int 10)) tNil)) (gName 2) (tSeq (tAsg (tFn (sp_Ldrawn K) [] W0 (tCons (tVar 1) tNil)) (gTup K 4 (gCons (gName 3) (gCons (gName 4) (gCons (gName 5) (gCons (gName 6) gNil)))))) (tSeq (tAsg (tLst (tCons (tLam (TB K) (TT_Lheard K) (tS fun W => (tCmK (ga K "Frame") 1 3 (sp_Frame_of K) gkbm_Frame_of_2_top_ground_power W (tC (.ref (ga K "Frame"))) (tCons (tVar 3) tNil) (tCons (tVar 4) (tCons (tOp (rIx K) (tVar 5) (tC (.int 0))) (tCons (tOp (rIx K) (tVar 5) (tC (.int 1))) tNil)))))) tNil)) (gName 7)) (tSeq (tDrop (tBM K "list" rAppend (tVar 7) (tCons (tLam (TB K) (TT_Lheard K) (tS fun W => (tCmK (ga K "Frame") 1 3 (sp_Frame_of K) gkbm_Frame_of_2_power_ground_top W (tC (.ref (ga K "Frame"))) (tCons (tCB (rTupU K) (tCons (tVar 3) tNil)) tNil) (tCons (tOp (rIx K) (tVar 5) (tC (.int 1))) (tCons (tOp (rIx K) (tVar 5) (tC (.int 0))) (tCons (tVar 4) tNil)))))) tNil))) (tSeq (tIfS (tTest (tOp (rNeU K) (tVar 7) (tOp (rMul K) (tLst (tCons (tVar 6) tNil)) (tC (.int 2))))) (tRet (tC (.bl false))) tNext) (tSeq (tAsg (tSl (rSlU K) (tOp (rAdd K) (tVar 3) (tLst (tCons (tC .non) (tCons (tC .non) tNil)))) tNoPart (tPart (tC (.int 2)))) (gName 8)) (tSeq (tAsg (tOp (rSeqC K (dSeq K (a_Leg_eq K) (sp_Leg_eq K)) false) (tLc (iList K (tVar 8)) (gName 10) (tNot (tB (tCB (rIsiS K) (tCons (tVar 10) (tCons (tTup (tCons (tC (.ref (ga K "Driver"))) (tCons (tC (.ref (ga K "Listener"))) tNil))) tNil))))) (tVar 10) [10]) (tLst tNil)) (gName 9)) (tIfS (tAnd (tB (tVar 9)) (tTest (tOp (rNeU K) (tLam (TB K) (TT_Lheard K) (tS fun W => (tNwS (ga K "Frame") 1 (sp_Frame_init K) gks_Frame_init_top W (tCons (tOp (rIx K) (tVar 8) (tC (.int 0))) (tCons (tOp (rIx K) (tVar 8) (tC (.int 1))) tNil)) (tCons (tVar 4) tNil)))) (tC (.str "legs"))))) (tRet (tC (.bl false))) tNext)))))))) (tSeq (tFor (iTup K (tTup (tCons (tC .non) (tCons (tC (.str "a")) (tCons (tNw (ga K "Driver") (sp_Leg_init K) [] W0 (tCons (tC (.str "a")) tNil)) (tCons tDNewK (tCons (tC (.int 3)) (tCons (tC (.bl true)) tNil)))))))) (gName 11) (tIfS (tTest (tOp (rNeU K) (tLam (TB K) (TT_Lheard K) (tS fun W => (tCmK (ga K "Frame") 1 1 (sp_Frame_of K) gkbm_Frame_of_2_top W (tC (.ref (ga K "Frame"))) (tCons (tVar 11) tNil) (tCons (tC (.int 0)) tNil)))) (tC (.str "legs")))) (tRet (tC (.bl false))) tNext)) (tRet (tOp (rEqU K) (tLam (TB K) (TT_Lheard K) (tS fun W => (tNwS (ga K "Frame") 1 (sp_Frame_init K) gks_Frame_init_top W (tCons (tNw (ga K "Driver") (sp_Leg_init K) [] W (tCons (tC (.str "a")) tNil)) (tCons (tNw (ga K "Listener") (sp_Leg_init K) [] W (tCons (tC (.str "a")) tNil)) tNil)) (tCons (tC (.int 0)) tNil)))) (tC (.str "name")))))))
end K04

namespace K04
open PySem PySem.Spec PyProof.Rows L2 He SJ
open LamX (CodeO lamS_by Tabs tLam)
/-! ### steps -/
section
variable {ρ : Ro} {d : D} {P : D → Ro → Prop} {PL : List D → Ro → Prop} {x : X} {xs : List X} {n : Nat}
theorem frz_v (k : P d ρ) : Frz (.val d) ρ P := k
theorem frz_n (k : PL [] ρ) : FrzL [] ρ PL := k
theorem frz_c (k : Frz x ρ fun d ρ2 => FrzL xs ρ2 fun ds ρ3 => PL (d :: ds) ρ3) : FrzL (x :: xs) ρ PL := k
theorem ite_t {A B : Prop} (k : A) : if (true = true) then A else B := k
theorem ite_f {A B : Prop} (k : B) : if (false = true) then A else B := k
theorem bl_v {b : Bool} {Pb : Bool → Prop} (k : Pb b) : ∃ c, X.val (.bl b) = X.val (.bl c) ∧ Pb c := ⟨b, rfl, k⟩
end
section
variable {K : PySem.W.Frag} {mg : Str → Option Value} {vs : List V} {H : Hp} {Q : VK} {E : XK}
theorem leg_fld (T : Tx K mg) (b : Bool) : FdOk K (lc b) "name" := by
  cases b with
  | true => exact ⟨T.in_Driver.cl, T.n_Driver⟩
  | false => exact ⟨T.in_Listener.cl, T.n_Listener⟩
theorem flat_int (T : Tx K mg) {d : D} (h : flatD d = true) : TyOk K d ∧ (∃ b, PySem.W.kitOne K (tyD K d) (.type "int") = some b ∧ (b && !isBlD d) = isIntD d) ∧ PySem.W.kitOne K (tyD K d) (.type "bool") = some (isBlD d) := by
  cases d with
  | non => exact ⟨trivial, ⟨false, T.ki_NoneType, rfl⟩, T.kb_NoneType⟩
  | bl b => exact ⟨trivial, ⟨true, T.ki_bool, rfl⟩, T.kb_bool⟩
  | int b => exact ⟨trivial, ⟨true, T.ki_int, rfl⟩, T.kb_int⟩
  | str b => exact ⟨trivial, ⟨false, T.ki_str, rfl⟩, T.kb_str⟩
  | lst b => exact ⟨trivial, ⟨false, T.ki_list, rfl⟩, T.kb_list⟩
  | tup b => exact ⟨trivial, ⟨false, T.ki_tuple, rfl⟩, T.kb_tuple⟩
  | dct b => exact ⟨trivial, ⟨false, T.ki_dict, rfl⟩, T.kb_dict⟩
  | _ => cases h
theorem pure_is_integer (T : Tx K mg) (h : sp_is_integer K vs H Q E) : t_is_integer K { nx := fun _ H2 => Q .non H2, rt := Q } (start ["value"] vs) H := by
  refine body_pu h fun o w F0 ds Qd Ed ⟨d, e, hf, q⟩ hW => ?_
  subst e
  obtain ⟨t, ⟨b, k1, k2⟩, k3⟩ := flat_int T hf
  refine ms_ret (m_andV (m_cb (m_cons (m_var rfl (m_cons (m_cT (m_nil (c_isiY rfl t k1 (bl_v ?_)))))))))
  cases b with
  | false =>
    rw [Bool.false_and] at k2
    rw [← k2] at q
    exact ite_f (frz_v q)
  | true =>
    rw [Bool.true_and] at k2
    rw [← k2] at q
    exact ite_t (m_notV (m_cb (m_cons (m_var rfl (m_cons (m_cT (m_nil (c_isiY rfl t k3 (bl_v (frz_v q))))))))))
theorem pure_is_between (T : Tx K mg) (h : sp_is_between K vs H Q E) : t_is_between K { nx := fun _ H2 => Q .non H2, rt := Q } (start ["value", "least", "most"] vs) H := by
  refine body_pu h fun o w F0 ds Qd Ed ⟨d, lo, hi, e, hf, q⟩ hW => ?_
  subst e
  refine ms_ret (m_andV (m_fn wr0 (m_cons (m_var rfl (m_nil ⟨d, rfl, hf, bl_v ?_⟩)))))
  cases d with
  | int v =>
    refine ite_t (m_chain (m_var rfl (m_var rfl (r_leI (bl_v ?_)))))
    have q : Qd (.bl (decide (lo ≤ v) && decide (v ≤ hi))) := q
    by_cases h1 : lo ≤ v
    · rw [if_pos (decide_eq_true h1)]
      refine m_var rfl (r_leI (frz_v ?_))
      rw [decide_eq_true h1, Bool.true_and] at q
      exact q
    · rw [if_neg (by rw [decide_eq_false h1]; exact Bool.false_ne_true)]
      rw [decide_eq_false h1, Bool.false_and] at q
      exact frz_v q
  | _ => first | exact ite_f (frz_v q) | cases hf
end
section
variable {K : PySem.W.Frag} {mg : Str → Option Value} {vs : List V} {H : Hp} {Q : VK} {E : XK}
theorem m_yes {O : Oc} {F0 : Hp} {ρ : Ro} {QT : Bool → Ro → Prop} (k : QT true ρ) : Mt K O F0 tYes ρ QT := fun F H σ Qh s R c => c true H F ρ (Same.refl _) R k
def letF : D → D
  | .str s => .bl (s.cps.toList.all fun c => decide (c ∈ letters))
  | _ => .non
theorem letF_map (z : Str) : ((signsD z).filter fun _ => true).map letF = (z.cps.toList.map fun c => decide (c ∈ letters)).map D.bl := by
  rw [List.filter_eq_self.mpr (fun _ _ => rfl)]
  unfold signsD
  rw [List.map_map, List.map_map]
  refine List.map_congr_left fun c _ => ?_
  show D.bl (([c] : List Nat).all fun c => decide (c ∈ letters)) = D.bl _
  rw [List.all_cons, List.all_nil, Bool.and_true]
theorem pure_is_name (T : Tx K mg) (h : sp_is_name K vs H Q E) : t_is_name K { nx := fun _ H2 => Q .non H2, rt := Q } (start ["value", "letter"] vs) H := by
  refine body_pu h fun o w F0 ds Qd Ed ⟨z, e, hz, q⟩ hW => ?_
  subst e
  refine ms_seq (ms_if (m_or (m_not (m_B (m_cb (m_cons (m_var rfl (m_cons (m_cT (m_nil (c_isiY rfl trivial T.ks_str (bl_v ?_))))))))))))
  refine m_not (m_test (m_chain (m_cI (m_cb (m_cons (m_var rfl (m_nil (c_lenS (by omega) (r_leI (bl_v ?_))))))))))
  have go : ∀ b : Bool, (decide (1 ≤ z.length) && decide (z.length ≤ 8)) = b → (b = false → Qd (.bl false)) := fun b hb e => by
    subst e
    unfold nameB at q
    rw [← Bool.and_assoc, hb, Bool.false_and] at q
    exact q
  have fin : decide (1 ≤ z.length) = true → decide (z.length ≤ 8) = true → Ms K ⟨o, w, TB K⟩ F0 (tRet (tAndV (tCB (rAll K) (tCons (tLc (iStr (tVar 0)) (gName 1) tYes (tOp rInS (tVar 1) (tC (.str "abcdefghijklmnopqrstuvwxyz"))) [1]) tNil)) (tOp (rInU K true) (tVar 0) (tTup (tCons (tC (.str "ground")) (tCons (tC (.str "power")) (tCons (tC (.str "nothing")) tNil))))))) [.val (.str z), .none] { nx := fun _ => Qd .non, rt := fun d _ => Qd d } := fun h1 h2 => by
    refine ms_ret (m_andV (m_cb (m_cons (m_f (mf_lcM [1] (fun _ => true) letF (by decide) (by decide) (mi_str (m_var rfl ⟨z, rfl, ?_, ?_, fun d hd oo ww => ?_, m_nil ?_⟩)))))))
    · unfold signsD; rw [List.length_map, Array.length_toList]; exact Nat.le_trans hz (by decide)
    · intro v hv
      rcases List.mem_cons.mp hv with rfl | hv
      · rfl
      · cases hv
    · obtain ⟨c, hc, rfl⟩ := List.mem_map.mp hd
      refine mg_name ⟨rfl, rfl, m_yes ⟨rfl, rfl, fun _ => m_op (m_var rfl (m_cS (r_inSign ⟨?_, rfl⟩)))⟩⟩
      show X.val (.bl _) = X.val (.bl (([c] : List Nat).all fun c => decide (c ∈ letters)))
      rw [List.all_cons, List.all_nil, Bool.and_true]
      rfl
    · refine c_allB (bs := z.cps.toList.map fun c => decide (c ∈ letters)) (by rw [letF_map]; rfl) (bl_v ?_)
      have ea : (z.cps.toList.map fun c => decide (c ∈ letters)).all id = z.cps.toList.all fun c => decide (c ∈ letters) := by rw [List.all_map]; rfl
      rw [ea]
      unfold nameB at q
      rw [h1, h2, Bool.true_and, Bool.true_and] at q
      cases hb : z.cps.toList.all fun c => decide (c ∈ letters) with
      | false =>
        rw [hb, Bool.false_and] at q
        exact q
      | true =>
        rw [hb, Bool.true_and] at q
        refine m_op (m_var rfl (m_tup (m_cons (m_cS (m_cons (m_cS (m_cons (m_cS (m_nil ⟨by decide, r_ninStrsT (zs := ["ground", "power", "nothing"]) rfl (frz_v ?_)⟩)))))))))
        exact q
  cases h1 : decide (1 ≤ z.length) with
  | false =>
    have e1 : decide ((1 : Int) ≤ (z.length : Int)) = false := by
      have := of_decide_eq_false h1
      exact decide_eq_false (by omega)
    rw [e1]
    refine ite_f (bl_v (ite_t (ms_ret (m_cB (frz_v ?_)))))
    exact go false (by rw [h1]; rfl) rfl
  | true =>
    have e1 : decide ((1 : Int) ≤ (z.length : Int)) = true := by
      have := of_decide_eq_true h1
      exact decide_eq_true (by omega)
    rw [e1]
    refine ite_t (m_cI (r_leI (bl_v ?_)))
    cases h2 : decide (z.length ≤ 8) with
    | false =>
      have e2 : decide ((z.length : Int) ≤ 8) = false := by
        have := of_decide_eq_false h2
        exact decide_eq_false (by omega)
      rw [e2]
      refine ite_t (ms_ret (m_cB (frz_v ?_)))
      exact go false (by rw [h1, h2]; rfl) rfl
    | true =>
      have e2 : decide ((z.length : Int) ≤ 8) = true := by
        have := of_decide_eq_true h2
        exact decide_eq_true (by omega)
      rw [e2]
      exact ite_f (ms_next (fin h1 h2))
end

end K04

namespace K04
open PySem PySem.Spec PyProof.Rows L2 He SJ
open LamX (CodeO lamS_by Tabs tLam)
section
variable {K : PySem.W.Frag} {mg : Str → Option Value} {vs : List V} {H : Hp} {Q : VK} {E : XK}
theorem pure_Leg_init (T : Tx K mg) (h : sp_Leg_init K vs H Q E) : t_Leg_init K E { nx := fun _ H2 => Q .non H2, rt := Q } (start ["self", "name"] vs) H := by
  refine body_pin h fun o w F0 c ds Qd Ed hp hW => ?_
  have hp2 : ∃ z, FdOk K c "name" ∧ ds = [.str z] ∧ z.length ≤ 1000 ∧ nameB z = true ∧ Qd [("name", .str z)] := by
    rcases hp with ⟨b, z, rfl, h⟩ | ⟨z, rfl, h⟩
    · exact ⟨z, leg_fld T b, h⟩
    · exact ⟨z, ⟨T.in_Leg.cl, T.n_Leg⟩, h⟩
  obtain ⟨z, hf, e, hz, hn, q⟩ := hp2
  subst e
  refine ms_seq (ms_if (m_not (m_B (m_fn hW (m_cons (m_var rfl (m_nil ⟨z, rfl, hz, bl_v ?_⟩)))))))
  rw [hn]
  refine ite_f (ms_next (ms_fld rfl (m_var rfl (frz_v ⟨c, [], rfl, hf, by decide, _, rfl, q⟩))))
theorem setN_nodup {zs : List Str} (h : zs.Nodup) : setN zs = zs.length := by
  have : ∀ (zs : List Str) (q : (Key → Bool) × Nat), zs.Nodup → (∀ z ∈ zs, q.1 (.inr z) = false) → (zs.foldl (fun (q : (Key → Bool) × Nat) z => (addS q.1 (.inr z), addN q.1 (.inr z) q.2)) q).2 = q.2 + zs.length := by
    intro zs
    induction zs with
    | nil => intro q _ _; rfl
    | cons z zs ih =>
      intro q hn hq
      obtain ⟨h1, h2⟩ := List.nodup_cons.mp hn
      rw [List.foldl_cons, ih _ h2 (fun y hy => ?_), List.length_cons]
      · show addN q.1 (.inr z) q.2 + zs.length = _
        unfold addN
        rw [if_neg (by rw [hq z (List.mem_cons_self ..)]; exact Bool.false_ne_true)]
        omega
      · show (q.1 (.inr y) || decide ((.inr y : Key) = .inr z)) = false
        rw [hq y (List.mem_cons_of_mem _ hy), Bool.false_or]
        exact decide_eq_false (fun e => h1 (by injection e with e; rw [← e]; exact hy))
  have := this zs ((fun _ => false), 0) h (fun _ _ => rfl)
  rw [Nat.zero_add] at this
  exact this
theorem any_leg (T : Tx K mg) {d : D} (h : AnyD d) : TyOk K d ∧ PySem.W.kitAny K (tyD K d) ([D.cls "Driver", D.cls "Listener"].map (clsV K)) = some (isLegD d) := by
  cases d with
  | non => exact ⟨trivial, T.ka_NoneType⟩
  | int i => exact ⟨trivial, T.ka_int⟩
  | str z => exact ⟨trivial, T.ka_str⟩
  | tup xs => exact ⟨trivial, T.ka_tuple⟩
  | obj c fs =>
    obtain ⟨hc, _⟩ := h
    rcases hc with rfl | rfl | rfl
    · exact ⟨T.in_Leg, T.ka_Leg⟩
    · exact ⟨T.in_Driver, T.ka_Driver⟩
    · exact ⟨T.in_Listener, T.ka_Listener⟩
  | _ => cases h
/-- legs are what they look like -/
theorem legs_of {es : List D} (h : ∀ e ∈ es, AnyD e) (h2 : es.all isLegD = true) : ∃ ls : List Lg, es = ls.map legD ∧ es.map nmOf = ls.map (·.nm) ∧ ∀ l ∈ ls, l.nm.length ≤ 1000 := by
  induction es with
  | nil => exact ⟨[], rfl, rfl, fun l hl => nomatch hl⟩
  | cons e es ih =>
    rw [List.all_cons] at h2
    obtain ⟨k1, k2⟩ := Bool.and_eq_true_iff.mp h2
    obtain ⟨ls, e1, e2, e3⟩ := ih (fun x hx => h x (List.mem_cons_of_mem _ hx)) k2
    have ha := h e (List.mem_cons_self ..)
    have key : ∃ l : Lg, e = legD l ∧ l.nm.length ≤ 1000 := by
      cases e with
      | obj c fs =>
        obtain ⟨hc, z, rfl, hz⟩ := ha
        rcases hc with rfl | rfl | rfl
        · exact absurd k1 (by show ¬ (decide (("Leg" : Str) = "Driver") || decide (("Leg" : Str) = "Listener")) = true; decide)
        · exact ⟨⟨true, z⟩, rfl, hz⟩
        · exact ⟨⟨false, z⟩, rfl, hz⟩
      | _ => cases k1
    obtain ⟨l, rfl, hl⟩ := key
    refine ⟨l :: ls, by rw [e1]; rfl, by rw [List.map_cons, e2]; rfl, fun m hm => ?_⟩
    rcases List.mem_cons.mp hm with rfl | hm
    · exact hl
    · exact e3 m hm
theorem has_legs (T : Tx K mg) : ∀ ls : List Lg, Paired (HasD K "name") (ls.map legD) (ls.map (·.nm))
  | [] => .nil
  | l :: ls => .cons ⟨lc l.drv, _, rfl, leg_fld T l.drv, rfl⟩ (has_legs T ls)
theorem all_true {α : Type} (xs : List α) : (xs.map fun _ => true).all id = true := by rw [List.all_map]; exact List.all_eq_true.mpr fun _ _ => rfl
theorem map_true (ds : List D) : (ds.filter fun _ => true).map (fun _ => D.bl true) = (ds.map fun _ => true).map D.bl := by
  rw [List.filter_eq_self.mpr (fun _ _ => rfl), List.map_map]; rfl
theorem map_any (ds : List D) (f : D → Bool) : (ds.filter fun _ => true).map (fun d => D.bl (f d)) = (ds.map f).map D.bl := by
  rw [List.filter_eq_self.mpr (fun _ _ => rfl), List.map_map]; rfl
theorem one_free {ρ : Ro} {n : Nat} (h : (sl ρ n).mut = false) : ∀ v ∈ [n], (sl ρ v).mut = false := fun v hv => by
  rcases List.mem_cons.mp hv with rfl | hv
  · exact h
  · cases hv
theorem setN_le {zs : List Str} (h : ¬ zs.Nodup) : setN zs < zs.length := by
  have : ∀ (zs : List Str) (q : (Key → Bool) × Nat), (zs.foldl (fun (q : (Key → Bool) × Nat) z => (addS q.1 (.inr z), addN q.1 (.inr z) q.2)) q).2 ≤ q.2 + zs.length ∧ ((zs.foldl (fun (q : (Key → Bool) × Nat) z => (addS q.1 (.inr z), addN q.1 (.inr z) q.2)) q).2 = q.2 + zs.length → zs.Nodup ∧ ∀ z ∈ zs, q.1 (.inr z) = false) := by
    intro zs
    induction zs with
    | nil => intro q; exact ⟨Nat.le_refl _, fun _ => ⟨List.nodup_nil, fun z hz => nomatch hz⟩⟩
    | cons z zs ih =>
      intro q
      obtain ⟨h1, h2⟩ := ih (addS q.1 (.inr z), addN q.1 (.inr z) q.2)
      have hle : addN q.1 (.inr z) q.2 ≤ q.2 + 1 := by unfold addN; split <;> omega
      rw [List.foldl_cons, List.length_cons]
      refine ⟨by show _ ≤ _; have h1 : _ ≤ addN q.1 (.inr z) q.2 + zs.length := h1; omega, fun e => ?_⟩
      have h1 : _ ≤ addN q.1 (.inr z) q.2 + zs.length := h1
      have h2 : _ = addN q.1 (.inr z) q.2 + zs.length → _ := h2
      have hz : q.1 (.inr z) = false := by
        cases hq : q.1 (.inr z) with
        | false => rfl
        | true =>
          have : addN q.1 (.inr z) q.2 = q.2 := by unfold addN; rw [if_pos hq]
          omega
      have ha : addN q.1 (.inr z) q.2 = q.2 + 1 := by unfold addN; rw [if_neg (by rw [hz]; exact Bool.false_ne_true)]
      obtain ⟨n1, n2⟩ := h2 (by omega)
      have n3 : ∀ y ∈ zs, q.1 (.inr y) = false ∧ ¬ (.inr y : Key) = .inr z := fun y hy => by
        have := n2 y hy
        have : (q.1 (.inr y) || decide ((.inr y : Key) = .inr z)) = false := this
        obtain ⟨m1, m2⟩ := Bool.or_eq_false_iff.mp this
        exact ⟨m1, of_decide_eq_false m2⟩
      refine ⟨List.nodup_cons.mpr ⟨fun hm => (n3 z hm).2 rfl, n1⟩, fun y hy => ?_⟩
      rcases List.mem_cons.mp hy with rfl | hy
      · exact hz
      · exact (n3 y hy).1
  obtain ⟨h1, h2⟩ := this zs ((fun _ => false), 0)
  rw [Nat.zero_add] at h1 h2
  rcases Nat.lt_or_eq_of_le h1 with z | z
  · exact z
  · exact absurd (h2 z).1 h
theorem pure_fault_of {P : Program} {w : World} (T : Tx K mg) (h : sp_fault_of K vs H Q E) : t_fault_of K P w { nx := fun _ H2 => Q .non H2, rt := Q } (start ["legs", "most", "top", "rails", "leg", "rail"] vs) H := by
  refine body_pu h fun o w F0 ds Qd Ed ⟨es, top, rg, rp, e, hA, q⟩ hW => ?_
  subst e
  unfold faultOf at q
  refine ms_seq (ms_if (m_not (m_B (m_cb (m_cons (m_f (mf_lcM [4] (fun _ => true) (fun d => .bl (isLegD d)) (by decide) (by decide) (mi_tup (m_var rfl (frz_v ⟨_, rfl, Nat.le_trans hA.le (by decide), one_free rfl, fun d hd oo ww => ?_, m_nil ?_⟩))))))))))
  · obtain ⟨a1, a2⟩ := any_leg T (hA.an d hd)
    exact mg_name ⟨rfl, rfl, m_yes ⟨rfl, rfl, fun _ => m_cb (m_cons (m_var rfl (m_cons (m_tup (m_cons (m_cC (m_cons (m_cC (m_nil ⟨by decide, m_nil (c_isiM rfl a1 rfl a2 ⟨rfl, rfl⟩)⟩)))))))))⟩⟩
  · rw [map_any]
    refine c_allB rfl (bl_v ?_)
    have ea : (es.map isLegD).all id = es.all isLegD := by rw [List.all_map]; rfl
    rw [ea]
    cases hall : es.all isLegD with
    | false =>
      rw [hall, if_pos rfl] at q
      exact ite_t (ms_ret (m_cS (frz_v q)))
    | true =>
      rw [hall, if_neg (by simp)] at q
      obtain ⟨ls, rfl, e2, e3⟩ := legs_of hA.an hall
      have hl : (ls.map legD).length = ls.length := List.length_map ..
      have hle := hA.le
      refine ite_f (ms_next ?_)
      refine ms_seq (ms_if (m_test (m_op (m_cb (m_cons (m_var rfl (m_nil (c_lenT rfl (m_var rfl (r_gtI (bl_v ?_)))))))))))
      by_cases h40 : 40 < (ls.map legD).length
      · rw [if_pos h40] at q
        rw [decide_eq_true (show ((40 : Int) < ((ls.map legD).length : Int)) by omega)]
        exact ite_t (ms_ret (m_cS (frz_v q)))
      · rw [if_neg h40, e2] at q
        rw [decide_eq_false (show ¬ ((40 : Int) < ((ls.map legD).length : Int)) by omega)]
        refine ite_f (ms_next ?_)
        refine ms_seq (ms_if (m_test (m_op (m_lenSc (j := 4) (by decide) (m_var rfl (frz_v ⟨_, _, rfl, hle, show 4 < 6 by decide, has_legs T ls, m_cb (m_cons (m_var rfl (m_nil (c_lenT rfl (r_ltI (bl_v ?_))))))⟩))))))
        by_cases hn : (ls.map (·.nm)).Nodup
        · rw [if_neg (fun z => z hn)] at q
          rw [setN_nodup hn, List.length_map, hl, decide_eq_false (Int.lt_irrefl _)]
          refine ite_f (ms_next ?_)
          refine ms_seq (ms_if (m_not (m_B (m_fn wr0 (m_cons (m_var rfl (m_cons (m_cI (m_cons (m_cI (m_nil ⟨top, 1, 3, rfl, hA.tp, bl_v ?_⟩)))))))))))
          cases hb : btw 1 3 top with
          | false =>
            rw [hb, if_pos rfl] at q
            exact ite_t (ms_ret (m_cS (frz_v q)))
          | true =>
            rw [hb, if_neg (by simp)] at q
            refine ite_f (ms_next ?_)
            refine ms_ret (m_ife (m_B (m_cb (m_cons (m_f (mf_lcM [5] (fun _ => true) (fun d => .bl (isBlD d)) (by decide) (by decide) (mi_tup (m_var rfl (frz_v ⟨_, rfl, show 2 ≤ 10000 by decide, one_free rfl, fun d hd oo ww => ?_, m_nil ?_⟩)))))))))
            · have hb : flatD d = true := by
                rcases List.mem_cons.mp hd with rfl | hd
                · exact hA.rg
                · rcases List.mem_cons.mp hd with rfl | hd
                  · exact hA.rp
                  · cases hd
              obtain ⟨k1, _, k3⟩ := flat_int T hb
              exact mg_name ⟨rfl, rfl, m_yes ⟨rfl, rfl, fun _ => m_cb (m_cons (m_var rfl (m_cons (m_cT (m_nil (c_isiY rfl k1 k3 ⟨rfl, rfl⟩))))))⟩⟩
            · rw [map_any]
              refine c_allB rfl (bl_v ?_)
              have e5 : ([rg, rp].map isBlD).all id = (isBlD rg && isBlD rp) := by
                show (isBlD rg && (isBlD rp && true)) = _
                rw [Bool.and_true]
              rw [e5]
              cases hr : (isBlD rg && isBlD rp) with
              | true =>
                rw [hr, if_neg (by simp)] at q
                exact ite_t (m_cN (frz_v q))
              | false =>
                rw [hr, if_pos rfl] at q
                exact ite_f (m_cS (frz_v q))
        · rw [if_pos hn] at q
          have hs := setN_le hn
          rw [List.length_map] at hs
          rw [hl, decide_eq_true (by omega)]
          exact ite_t (ms_ret (m_cS (frz_v q)))
end

end K04

namespace K04
open PySem PySem.Spec PyProof.Rows L2 He SJ
open LamX (CodeO lamS_by Tabs tLam)
section
variable {K : PySem.W.Frag} {mg : Str → Option Value} {vs : List V} {H : Hp} {Q : VK} {E : XK}
theorem zip_self {α β : Type} (f : α → β) : ∀ ls : List α, (ls.zip (ls.map f)).map (·.1) = ls
  | [] => rfl
  | l :: ls => by rw [List.map_cons, List.zip_cons_cons, List.map_cons, zip_self f ls]
theorem sortL_perm (ls : List Lg) : (sortL ls).Perm ls := by
  have h := (List.mergeSort_perm (ls.zip (ls.map (·.nm))) (PySem.W.dataLe false fun q => PyData.str q.2)).map (·.1)
  rw [zip_self] at h
  exact h
theorem zip_leg : ∀ (ls : List Lg) (zs : List Str), (ls.map legD).zip zs = (ls.zip zs).map fun q => (legD q.1, q.2)
  | [], _ => rfl
  | l :: ls, [] => rfl
  | l :: ls, z :: zs => by rw [List.map_cons, List.zip_cons_cons, List.zip_cons_cons, List.map_cons, zip_leg ls zs]
theorem sortD_legs (ls : List Lg) : sortD (ls.map legD) (ls.map (·.nm)) = (sortL ls).map legD := by
  unfold sortD sortL
  have m1 := List.map_mergeSort (r := PySem.W.dataLe false fun q : Lg × Str => PyData.str q.2) (s := PySem.W.dataLe false fun q : D × Str => PyData.str q.2) (f := fun q => (legD q.1, q.2)) (l := ls.zip (ls.map (·.nm))) (fun a _ b _ => rfl)
  rw [zip_leg, ← m1, List.map_map, List.map_map]
  rfl
def nmK : D → Key
  | .obj _ ((_, .str z) :: _) => .inr z
  | _ => .inl 0
theorem dc_legs (ms : List Lg) (h : (ms.map (·.nm)).Nodup) : dcD nmK id (ms.map legD) = ms.map fun l => ((.inr l.nm : Key), legD l) := by
  have key : ∀ (ms : List Lg) (acc : List (Key × D)), (ms.map (·.nm)).Nodup → (∀ m ∈ ms, (acc.any fun kv => decide (kv.1 = (.inr m.nm : Key))) = false) → (ms.map legD).foldl (fun acc d => putKD acc (nmK d) (id d)) acc = acc ++ ms.map fun l => ((.inr l.nm : Key), legD l) := by
    intro ms
    induction ms with
    | nil => intro acc _ _; rw [List.map_nil, List.foldl_nil, List.map_nil, List.append_nil]
    | cons m ms ih =>
      intro acc hn ha
      rw [List.map_cons] at hn
      obtain ⟨h1, h2⟩ := List.nodup_cons.mp hn
      have e : putKD acc (nmK (legD m)) (id (legD m)) = acc ++ [((.inr m.nm : Key), legD m)] := by
        show putKD acc (.inr m.nm) (legD m) = _
        unfold putKD
        rw [if_neg (by rw [ha m (List.mem_cons_self ..)]; exact Bool.false_ne_true)]
      rw [List.map_cons, List.foldl_cons, e, ih _ h2 (fun y hy => ?_), List.map_cons, List.append_assoc]
      · rfl
      · rw [List.any_append, ha y (List.mem_cons_of_mem _ hy), Bool.false_or, List.any_cons, List.any_nil, Bool.or_false]
        exact decide_eq_false (fun z => h1 (by injection z with z; rw [z]; exact List.mem_map.mpr ⟨y, hy, rfl⟩))
  exact key ms [] h (fun _ _ => rfl)
theorem fr_fld (T : Tx K mg) : FdOk K "Frame" "top" ∧ FdOk K "Frame" "ground" ∧ FdOk K "Frame" "power" ∧ FdOk K "Frame" "own_legs" := ⟨⟨T.in_Frame.cl, T.n_Ftop⟩, ⟨T.in_Frame.cl, T.n_Fground⟩, ⟨T.in_Frame.cl, T.n_Fpower⟩, ⟨T.in_Frame.cl, T.n_Fown_legs⟩⟩
theorem fault_no {es : List D} {top rg rp : D} (h : faultOf es top rg rp = none) : es.all isLegD = true ∧ es.length ≤ 40 ∧ (es.map nmOf).Nodup := by
  unfold faultOf at h
  by_cases h1 : es.all isLegD = false
  · rw [if_pos h1] at h; cases h
  · rw [if_neg h1] at h
    by_cases h2 : 40 < es.length
    · rw [if_pos h2] at h; cases h
    · rw [if_neg h2] at h
      by_cases h3 : (es.map nmOf).Nodup
      · exact ⟨by cases q : es.all isLegD with | true => rfl | false => exact absurd q h1, by omega, h3⟩
      · rw [if_pos h3] at h; cases h
theorem pure_Frame_init (T : Tx K mg) (h : sp_Frame_init K vs H Q E) : t_Frame_init K E { nx := fun _ H2 => Q .non H2, rt := Q } (start ["self", "top", "ground", "power", "legs", "fault", "leg"] vs) H := by
  refine body_pin h fun o w F0 c ds Qd Ed ⟨es, top, rg, rp, ec, e, hA, q, qe⟩ hW => ?_
  subst e ec
  refine ms_seq (ms_asg (m_fn hW (m_cons (m_var rfl (m_cons (m_con (m_varS rfl ⟨"Frame", [], .int 40, .int 40, rfl, ⟨T.in_Frame.cl, T.m_Frame.elim fun t h => ⟨_, h⟩⟩, rfl, fun F => .int _, m_cons (m_var rfl (m_cons (m_tup (m_cons (m_var rfl (m_cons (m_var rfl (m_nil ⟨show 2 ≤ 1000 by decide, m_nil ⟨es, top, rg, rp, rfl, hA, frz_v ?_⟩⟩))))))))⟩)))))))
  cases hr : faultOf es top rg rp with
  | some s =>
    refine ms_seq (ms_if (m_test (m_op (m_var rfl (m_cN (r_isnN (bl_v (ite_t ?_))))))))
    exact ms_rz hW (m_cons (m_var rfl (m_nil (frz_c (frz_v (frz_n ⟨rfl, rfl, qe s hr⟩))))))
  | none =>
    obtain ⟨f1, f2, f3⟩ := fault_no hr
    obtain ⟨ls, rfl, e2, e3⟩ := legs_of hA.an f1
    rw [e2] at f3
    have hl : (ls.map legD).length = ls.length := List.length_map ..
    have hs : ((sortL ls).map legD).length = ls.length := by rw [List.length_map, (sortL_perm ls).length_eq]
    refine ms_seq (ms_if (m_test (m_op (m_var rfl (m_cN (r_isnN (bl_v (ite_f (ms_next ?_)))))))))
    refine ms_seq (ms_fld rfl (m_var rfl (frz_v ⟨"Frame", [], rfl, (fr_fld T).1, by decide, ?_⟩)))
    refine ms_seq (ms_fld rfl (m_var rfl (frz_v ⟨"Frame", _, rfl, (fr_fld T).2.1, show 1 < 1000 by decide, ?_⟩)))
    refine ms_seq (ms_fld rfl (m_var rfl (frz_v ⟨"Frame", _, rfl, (fr_fld T).2.2.1, show 2 < 1000 by decide, ?_⟩)))
    refine ms_fld rfl (m_f (mf_dcM [6] nmK id (by decide) (by decide) (mi_list (m_f (mf_sortA (m_var rfl ⟨_, _, .inl rfl, hA.le, has_legs T ls, frz_v ⟨_, rfl, ?_, one_free rfl, fun d hd oo ww => ?_, ?_⟩⟩))))))
    · rw [sortD_legs, hs]; omega
    · rw [sortD_legs] at hd
      obtain ⟨l, hl, rfl⟩ := List.mem_map.mp hd
      exact mg_name ⟨rfl, rfl, m_fld (m_var rfl ⟨lc l.drv, _, _, rfl, leg_fld T l.drv, rfl, rfl, ⟨_, rfl, rfl⟩, m_var rfl ⟨rfl, rfl⟩⟩)⟩
    · exact frz_v ⟨"Frame", _, rfl, (fr_fld T).2.2.2, show 3 < 1000 by decide, _, rfl, q hr _⟩
theorem seq_kit (T : Tx K mg) {x : D} (h : noSeq x) : TyOk K x ∧ PySem.W.kitAny K (tyD K x) ([D.ty "list", D.ty "tuple"].map (clsV K)) = some false := by
  cases x with
  | non => exact ⟨trivial, T.kl_NoneType⟩
  | bl b => exact ⟨trivial, T.kl_bool⟩
  | int b => exact ⟨trivial, T.kl_int⟩
  | str b => exact ⟨trivial, T.kl_str⟩
  | dct b => exact ⟨trivial, T.kl_dict⟩
  | obj c fs =>
    have hc : c = "Driver" := h
    subst hc
    exact ⟨T.in_Driver, T.kl_Driver⟩
  | _ => exact h.elim
theorem pure_Frame_of (T : Tx K mg) (h : sp_Frame_of K vs H Q E) : t_Frame_of K E { nx := fun _ H2 => Q .non H2, rt := Q } (start ["cls", "legs", "top", "ground", "power"] vs) H := by
  refine body_pu h fun o w F0 ds Qd Ed ⟨x, top, rg, rp, e, hx⟩ hW => ?_
  subst e
  rcases hx with ⟨es, hx, hA, q, qe⟩ | ⟨hx, qe⟩
  · have hk : PySem.W.kitAny K (tyD K x) ([D.ty "list", D.ty "tuple"].map (clsV K)) = some true := by
      rcases hx with rfl | rfl
      · exact T.kl_list
      · exact T.kl_tuple
    have ht : TyOk K x := by rcases hx with rfl | rfl <;> trivial
    refine ms_seq (ms_if (m_not (m_B (m_cb (m_cons (m_var rfl (m_cons (m_tup (m_cons (m_cT (m_cons (m_cT (m_nil ⟨by decide, m_nil (c_isiM rfl ht rfl hk (bl_v (ite_f (ms_next ?_))))⟩)))))))))))))
    refine ms_ret (m_at rfl (m_nwSs [] (fun F => .nil) hW (m_var rfl (m_cons (m_var rfl (m_cons (m_var rfl (m_cons (m_var rfl (m_nil ⟨rfl, es, ?_, hA.le, es, top, rg, rp, rfl, rfl, hA, (fun hr fs => q hr _), fun s hs => qe s hs⟩))))))))))
    rcases hx with rfl | rfl
    · exact .inl rfl
    · exact .inr rfl
  · obtain ⟨ht, hk⟩ := seq_kit T hx
    refine ms_seq (ms_if (m_not (m_B (m_cb (m_cons (m_var rfl (m_cons (m_tup (m_cons (m_cT (m_cons (m_cT (m_nil ⟨by decide, m_nil (c_isiM rfl ht rfl hk (bl_v (ite_t ?_)))⟩)))))))))))))
    exact ms_rz hW (m_cons (m_cS (m_nil (frz_c (frz_v (frz_n ⟨rfl, qe⟩))))))
end

end K04

namespace K04
open PySem PySem.Spec PyProof.Rows L2 He SJ
open LamX (CodeO lamS_by Tabs tLam)
local macro_rules | `(tactic| walk_at "mr") => `(tactic| repeat' (first
  | with_reducible apply ms_seq | with_reducible apply ms_if | with_reducible apply ms_ret | with_reducible apply ms_next | with_reducible apply s_asg
  | ((with_reducible apply g_var); first | refine m_var rfl ?_ | refine m_varS rfl ?_)
  | with_reducible apply m_cI | with_reducible apply m_cS | with_reducible apply m_cB | with_reducible apply m_cN | with_reducible apply m_cC | with_reducible apply m_cT
  | with_reducible apply m_op | with_reducible apply m_cb | with_reducible apply m_nil | with_reducible apply m_cons | with_reducible apply m_test | with_reducible apply m_B | with_reducible apply q_bl
  | with_reducible apply m_and | with_reducible apply m_or | with_reducible apply m_not | with_reducible apply m_andV | with_reducible apply m_orV | with_reducible apply m_notV | with_reducible apply m_ife | with_reducible apply m_chain
  | with_reducible apply q_v | ((with_reducible apply g_slot); refine q_own rfl ?_) | with_reducible apply q_n | with_reducible apply q_c | with_reducible apply q_t | with_reducible apply q_f | with_reducible apply m_yes
  | with_reducible apply r_addI | with_reducible apply r_subI | with_reducible apply r_eqI | with_reducible apply r_neI | with_reducible apply r_eqS | with_reducible apply r_neS | with_reducible apply r_ltI | with_reducible apply r_leI | with_reducible apply r_gtI | with_reducible apply r_geI
  | with_reducible apply r_isN | with_reducible apply r_isnN | with_reducible apply c_intI | with_reducible apply c_intB | with_reducible apply v_lst | with_reducible apply m_tup | ((with_reducible apply g_le); refine ⟨Nat.le_of_ble_eq_true rfl, ?_⟩) | with_reducible apply v_sl | with_reducible apply v_dnew
  | ((with_reducible apply g_dget); refine m_dget ?_) | refine get_str rfl rfl ?_
  | with_reducible apply m_fld | with_reducible apply m_con | refine ⟨_, _, _, rfl, by walk_at "fd", rfl, ?_⟩
  | ((with_reducible apply g_fn); first | refine m_fn wr0 ?_ | refine m_fn (by assumption) ?_ | refine m_fnP ?_ rfl)
  | ((with_reducible apply g_nw); refine m_nw wr0 ?_) | ((with_reducible apply g_ownGet); refine m_ownGet wr0 ?_) | ((with_reducible apply g_ownIn); refine r_ownIn ?_)
  | ((with_reducible apply g_inS); first | refine r_inStrs rfl ?_ | refine r_inStrsT rfl ?_ | refine r_ninStrsT rfl ?_) | ((with_reducible apply g_len); first | refine c_lenL rfl ?_ | refine c_lenT rfl ?_ | refine c_lenD rfl ?_)
  | ((with_reducible apply g_list); first | refine c_listv (.inl rfl) ?_ | refine c_listv (.inr rfl) ?_) | ((with_reducible apply g_tupU); first | refine c_tupleL rfl ?_ | refine c_tupleT ?_) | ((with_reducible apply g_pr); refine m_pr ?_) | refine ⟨_, _, _, rfl, by walk_at "cl", by walk_at "pr", ?_⟩ | refine ⟨_, rfl, ?_⟩ | fail))
local macro_rules | `(tactic| walk_at "me") => `(tactic| repeat' (first
  | ((with_reducible apply g_var); first | refine m_var rfl ?_ | refine m_varS rfl ?_)
  | with_reducible apply m_cI | with_reducible apply m_cS | with_reducible apply m_cB | with_reducible apply m_cN | with_reducible apply m_cC | with_reducible apply m_cT
  | with_reducible apply m_op | with_reducible apply m_cb | with_reducible apply m_nil | with_reducible apply m_cons | with_reducible apply m_test | with_reducible apply m_B | with_reducible apply q_bl
  | with_reducible apply m_and | with_reducible apply m_or | with_reducible apply m_not | with_reducible apply m_andV | with_reducible apply m_orV | with_reducible apply m_notV | with_reducible apply m_ife | with_reducible apply m_chain
  | with_reducible apply q_v | ((with_reducible apply g_slot); refine q_own rfl ?_) | with_reducible apply q_n | with_reducible apply q_c | with_reducible apply q_t | with_reducible apply q_f | with_reducible apply m_yes
  | with_reducible apply r_addI | with_reducible apply r_subI | with_reducible apply r_eqI | with_reducible apply r_neI | with_reducible apply r_eqS | with_reducible apply r_neS | with_reducible apply r_ltI | with_reducible apply r_leI | with_reducible apply r_gtI | with_reducible apply r_geI
  | with_reducible apply r_isN | with_reducible apply r_isnN | with_reducible apply c_intI | with_reducible apply c_intB | with_reducible apply v_lst | with_reducible apply m_tup | ((with_reducible apply g_le); refine ⟨Nat.le_of_ble_eq_true rfl, ?_⟩) | with_reducible apply v_sl | with_reducible apply v_dnew
  | ((with_reducible apply g_dget); refine m_dget ?_) | refine get_str rfl rfl ?_
  | with_reducible apply m_fld | with_reducible apply m_con | refine ⟨_, _, _, rfl, by walk_at "fd", rfl, ?_⟩
  | ((with_reducible apply g_fn); first | refine m_fn wr0 ?_ | refine m_fn (by assumption) ?_ | refine m_fnP ?_ rfl)
  | ((with_reducible apply g_nw); refine m_nw wr0 ?_) | ((with_reducible apply g_ownGet); refine m_ownGet wr0 ?_) | ((with_reducible apply g_ownIn); refine r_ownIn ?_)
  | ((with_reducible apply g_inS); first | refine r_inStrs rfl ?_ | refine r_inStrsT rfl ?_ | refine r_ninStrsT rfl ?_) | ((with_reducible apply g_len); first | refine c_lenL rfl ?_ | refine c_lenT rfl ?_ | refine c_lenD rfl ?_)
  | ((with_reducible apply g_list); first | refine c_listv (.inl rfl) ?_ | refine c_listv (.inr rfl) ?_) | ((with_reducible apply g_tupU); first | refine c_tupleL rfl ?_ | refine c_tupleT ?_) | ((with_reducible apply g_pr); refine m_pr ?_) | refine ⟨_, _, _, rfl, by walk_at "cl", by walk_at "pr", ?_⟩ | refine ⟨_, rfl, ?_⟩ | fail))
local macro_rules | `(tactic| walk_at "fd") => `(tactic| first | exact (fr_fld (by assumption)).1 | exact (fr_fld (by assumption)).2.1 | exact (fr_fld (by assumption)).2.2.1 | exact (fr_fld (by assumption)).2.2.2 | exact leg_fld (by assumption) _ | fail)
local macro_rules | `(tactic| walk_at "cl") => `(tactic| fail)
local macro_rules | `(tactic| walk_at "pr") => `(tactic| fail)
section
variable {K : PySem.W.Frag} {mg : Str → Option Value} {vs : List V} {H : Hp} {Q : VK} {E : XK}
theorem pure_Leg_eq (T : Tx K mg) (h : sp_Leg_eq K vs H Q E) : t_Leg_eq K { nx := fun _ H2 => Q .non H2, rt := Q } (start ["self", "other"] vs) H := by
  refine body_pu h fun o w F0 ds Qd Ed ⟨l, m, e, z⟩ hW => ?_
  exact z.elim
theorem pure_Lpen (T : Tx K mg) (h : sp_Lpen K vs H Q E) : t_Lpen K { nx := fun _ H2 => Q .non H2, rt := Q } (start ["_law_script"] vs) H := pen_ok h
theorem pure_Ldraw (T : Tx K mg) (h : sp_Ldraw K vs H Q E) : t_Ldraw K { nx := fun _ H2 => Q .non H2, rt := Q } (start ["_law_pen_here", "_law_many", "_law_digit", "_law_at", "_law_cell", "_law_great", "_law_mixed"] vs) H :=
  draw_ok (c1 := 51059) (c2 := 109) (m1 := 2147483563) (c3 := 48079) (c4 := 17) (m2 := 2147483579) (c5 := 21) (c6 := 50069) (c7 := 19) (m3 := 2147483629) (draw_of h) (by decide) (by decide) (by decide) (by decide) (by decide) (by decide) (by decide) (by decide) (by decide)
theorem pure_Lpick (T : Tx K mg) (h : sp_Lpick K vs H Q E) : t_Lpick K { nx := fun _ H2 => Q .non H2, rt := Q } (start ["_law_pen_here", "_law_some"] vs) H := by
  refine body_pp h fun o w F0 m ds Qd ⟨es, hd, h1, h2, h3, q⟩ => ?_
  have hpos : 0 < es.length := Nat.pos_of_ne_zero fun z => h2 (List.eq_nil_of_length_eq_zero z)
  rcases hd with rfl | rfl
  · refine ms_ret (m_op (m_var rfl (m_fnP (m_cons (m_cb (m_cons (m_var rfl (m_nil (c_lenL rfl (m_nil ⟨_, rfl, _, rfl, h1, by omega, by omega, fun r r0 r1 => ?_⟩))))))) rfl)))
    obtain ⟨e, e1, e2⟩ := atI_in r0 r1
    exact r_ixL rfl e2 (q_v ⟨_, rfl, q e (List.mem_of_getElem? e1)⟩)
  · refine ms_ret (m_op (m_var rfl (m_fnP (m_cons (m_cb (m_cons (m_var rfl (m_nil (c_lenT rfl (m_nil ⟨_, rfl, _, rfl, h1, by omega, by omega, fun r r0 r1 => ?_⟩))))))) rfl)))
    obtain ⟨e, e1, e2⟩ := atI_in r0 r1
    exact r_ixT rfl e2 (q_v ⟨_, rfl, q e (List.mem_of_getElem? e1)⟩)
theorem pool_nd : pool.Nodup := by decide
theorem pure_Ltags (T : Tx K mg) (h : sp_Ltags K vs H Q E) : t_Ltags K { nx := fun _ H2 => Q .non H2, rt := Q } (start ["_law_pen_here", "_law_many", "_law_pool", "_law_turn"] vs) H := by
  refine body_pp h fun o w F0 n ds Qd ⟨m, e, hm, hn, q⟩ => ?_
  subst e
  refine ms_seq (s_asg ?_)
  walk_at "me"
  refine ms_seq (s_asgF (mf_cat ?_))
  walk_at "me"
  refine ⟨_, _, rfl, rfl, by decide, by show 2 < 4; decide, ?_⟩
  have key : Mf K ⟨o, w, TB K⟩ F0 (tLc (iRng1 (tCons (tVar 1) tNil)) (gName 3) tYes (tBM K "list" rPopAt (tVar 2) (tCons (tFn (sp_Ldraw K) [] W0 (tCons (tVar 0) (tCons (tCB (rLenU K) (tCons (tVar 2) tNil)) tNil))) tNil)) [3]) [.pen n, .val (.int m), .own (.lst (pool.map D.str)), .none] fun d ρ => ∃ zs : List Str, d = .lst (zs.map D.str) ∧ zs.length = m ∧ zs.Nodup ∧ (∀ z ∈ zs, z ∈ pool) ∧ sl ρ 0 = .pen (n + m) := by
    refine mf_lc [3] (by decide) (by decide) (mi_rng1 (m_cons (m_var rfl (m_nil ⟨m, rfl, by omega, ?_⟩))))
    have hl : (rngD 0 (m : Int).toNat).length = m := by unfold rngD; rw [List.length_map, List.length_range]; omega
    refine ⟨by omega, fun i acc ρ => ∃ zs rest : List Str, acc = zs.map D.str ∧ zs.length = i ∧ (zs ++ rest).Perm pool ∧ ρ = [.pen (n + i), .val (.int m), .own (.lst (rest.map D.str)), .none], ⟨[], pool, rfl, rfl, List.Perm.refl _, rfl⟩, fun i d acc ρ2 hd _ hI => ?_, fun acc ρ2 hI => ?_⟩
    · obtain ⟨zs, rest, rfl, hz, hp, rfl⟩ := hI
      have hi : i < m := by rw [← hl]; exact (List.getElem?_eq_some_iff.mp hd).1
      have hr : rest.length = 16 - i := by
        have := hp.length_eq
        rw [List.length_append, hz] at this
        have h16 : pool.length = 16 := rfl
        omega
      refine ⟨one_free rfl, fun oo ww => mg_name ⟨rfl, m_yes (q_t (m_popAt rfl (m_fnP (m_cons (m_cb (m_cons (m_varS rfl (m_nil (c_lenL rfl (m_nil ⟨n + i, rfl, _, rfl, by omega, ?_, ?_, fun r r0 r1 => ?_⟩))))))) rfl)))⟩⟩
      · rw [List.length_map, hr]; omega
      · rw [List.length_map, hr]; omega
      · rw [List.length_map, hr] at r1
        obtain ⟨j, rfl⟩ := Int.eq_ofNat_of_zero_le r0
        have hj : j < rest.length := by omega
        refine ⟨j, rest.map D.str, .str rest[j], rfl, rfl, by omega, by rw [List.getElem?_map, List.getElem?_eq_getElem hj]; rfl, q_v ⟨rfl, zs ++ [rest[j]], rest.eraseIdx j, by rw [List.map_append]; rfl, by rw [List.length_append, hz]; rfl, perm_pop hp (List.getElem?_eq_getElem hj), ?_⟩⟩
        rw [erase_map]
        rfl
    · obtain ⟨zs, rest, rfl, hz, hp, rfl⟩ := hI
      rw [hl] at hz ⊢
      have hnd : (zs ++ rest).Nodup := hp.nodup_iff.mpr pool_nd
      exact ⟨zs, rfl, hz, (List.nodup_append.mp hnd).1, fun z hz => hp.mem_iff.mp (List.mem_append_left _ hz), rfl⟩
  refine ms_ret (m_f ?_)
  refine fun F H σ Qh s R c => key F H σ Qh s R fun p H2 F2 d ρ2 s2 R2 nw ⟨zs, ed, h1, h2, h3, h4⟩ => c p H2 F2 d ρ2 s2 R2 nw ?_
  subst ed
  exact q_v ⟨_, h4, q zs h1 h2 h3⟩
end

end K04

namespace K04
open PySem PySem.Spec PyProof.Rows L2 He SJ
open LamX (CodeO lamS_by Tabs tLam)
local macro_rules | `(tactic| walk_at "mr") => `(tactic| repeat' (first
  | with_reducible apply ms_seq | with_reducible apply ms_if | with_reducible apply ms_ret | with_reducible apply ms_next | with_reducible apply s_asg
  | ((with_reducible apply g_var); first | refine m_var rfl ?_ | refine m_varS rfl ?_)
  | with_reducible apply m_cI | with_reducible apply m_cS | with_reducible apply m_cB | with_reducible apply m_cN | with_reducible apply m_cC | with_reducible apply m_cT
  | with_reducible apply m_op | with_reducible apply m_cb | with_reducible apply m_nil | with_reducible apply m_cons | with_reducible apply m_test | with_reducible apply m_B | with_reducible apply q_bl
  | with_reducible apply m_and | with_reducible apply m_or | with_reducible apply m_not | with_reducible apply m_andV | with_reducible apply m_orV | with_reducible apply m_notV | with_reducible apply m_ife | with_reducible apply m_chain
  | with_reducible apply q_v | ((with_reducible apply g_slot); refine q_own rfl ?_) | with_reducible apply q_n | with_reducible apply q_c | with_reducible apply q_t | with_reducible apply q_f | with_reducible apply m_yes
  | with_reducible apply r_addI | with_reducible apply r_subI | with_reducible apply r_eqI | with_reducible apply r_neI | with_reducible apply r_eqS | with_reducible apply r_neS | with_reducible apply r_ltI | with_reducible apply r_leI | with_reducible apply r_gtI | with_reducible apply r_geI
  | with_reducible apply r_isN | with_reducible apply r_isnN | with_reducible apply c_intI | with_reducible apply c_intB | with_reducible apply v_lst | with_reducible apply m_tup | ((with_reducible apply g_le); refine ⟨Nat.le_of_ble_eq_true rfl, ?_⟩) | with_reducible apply v_sl | with_reducible apply v_dnew
  | ((with_reducible apply g_dget); refine m_dget ?_) | refine get_str rfl rfl ?_
  | with_reducible apply m_fld | with_reducible apply m_con | refine ⟨_, _, _, rfl, by walk_at "fd", rfl, ?_⟩
  | ((with_reducible apply g_fn); first | refine m_fn wr0 ?_ | refine m_fn (by assumption) ?_ | refine m_fnP ?_ rfl)
  | ((with_reducible apply g_nw); refine m_nw wr0 ?_) | ((with_reducible apply g_ownGet); refine m_ownGet wr0 ?_) | ((with_reducible apply g_ownIn); refine r_ownIn ?_)
  | ((with_reducible apply g_inS); first | refine r_inStrs rfl ?_ | refine r_inStrsT rfl ?_ | refine r_ninStrsT rfl ?_) | ((with_reducible apply g_len); first | refine c_lenL rfl ?_ | refine c_lenT rfl ?_ | refine c_lenD rfl ?_)
  | ((with_reducible apply g_list); first | refine c_listv (.inl rfl) ?_ | refine c_listv (.inr rfl) ?_) | ((with_reducible apply g_tupU); first | refine c_tupleL rfl ?_ | refine c_tupleT ?_) | ((with_reducible apply g_pr); refine m_pr ?_) | refine ⟨_, _, _, rfl, by walk_at "cl", by walk_at "pr", ?_⟩ | refine ⟨_, rfl, ?_⟩ | fail))
local macro_rules | `(tactic| walk_at "me") => `(tactic| repeat' (first
  | ((with_reducible apply g_var); first | refine m_var rfl ?_ | refine m_varS rfl ?_)
  | with_reducible apply m_cI | with_reducible apply m_cS | with_reducible apply m_cB | with_reducible apply m_cN | with_reducible apply m_cC | with_reducible apply m_cT
  | with_reducible apply m_op | with_reducible apply m_cb | with_reducible apply m_nil | with_reducible apply m_cons | with_reducible apply m_test | with_reducible apply m_B | with_reducible apply q_bl
  | with_reducible apply m_and | with_reducible apply m_or | with_reducible apply m_not | with_reducible apply m_andV | with_reducible apply m_orV | with_reducible apply m_notV | with_reducible apply m_ife | with_reducible apply m_chain
  | with_reducible apply q_v | ((with_reducible apply g_slot); refine q_own rfl ?_) | with_reducible apply q_n | with_reducible apply q_c | with_reducible apply q_t | with_reducible apply q_f | with_reducible apply m_yes
  | with_reducible apply r_addI | with_reducible apply r_subI | with_reducible apply r_eqI | with_reducible apply r_neI | with_reducible apply r_eqS | with_reducible apply r_neS | with_reducible apply r_ltI | with_reducible apply r_leI | with_reducible apply r_gtI | with_reducible apply r_geI
  | with_reducible apply r_isN | with_reducible apply r_isnN | with_reducible apply c_intI | with_reducible apply c_intB | with_reducible apply v_lst | with_reducible apply m_tup | ((with_reducible apply g_le); refine ⟨Nat.le_of_ble_eq_true rfl, ?_⟩) | with_reducible apply v_sl | with_reducible apply v_dnew
  | ((with_reducible apply g_dget); refine m_dget ?_) | refine get_str rfl rfl ?_
  | with_reducible apply m_fld | with_reducible apply m_con | refine ⟨_, _, _, rfl, by walk_at "fd", rfl, ?_⟩
  | ((with_reducible apply g_fn); first | refine m_fn wr0 ?_ | refine m_fn (by assumption) ?_ | refine m_fnP ?_ rfl)
  | ((with_reducible apply g_nw); refine m_nw wr0 ?_) | ((with_reducible apply g_ownGet); refine m_ownGet wr0 ?_) | ((with_reducible apply g_ownIn); refine r_ownIn ?_)
  | ((with_reducible apply g_inS); first | refine r_inStrs rfl ?_ | refine r_inStrsT rfl ?_ | refine r_ninStrsT rfl ?_) | ((with_reducible apply g_len); first | refine c_lenL rfl ?_ | refine c_lenT rfl ?_ | refine c_lenD rfl ?_)
  | ((with_reducible apply g_list); first | refine c_listv (.inl rfl) ?_ | refine c_listv (.inr rfl) ?_) | ((with_reducible apply g_tupU); first | refine c_tupleL rfl ?_ | refine c_tupleT ?_) | ((with_reducible apply g_pr); refine m_pr ?_) | refine ⟨_, _, _, rfl, by walk_at "cl", by walk_at "pr", ?_⟩ | refine ⟨_, rfl, ?_⟩ | fail))
local macro_rules | `(tactic| walk_at "fd") => `(tactic| first | exact (fr_fld (by assumption)).1 | exact (fr_fld (by assumption)).2.1 | exact (fr_fld (by assumption)).2.2.1 | exact (fr_fld (by assumption)).2.2.2 | exact leg_fld (by assumption) _ | fail)
local macro_rules | `(tactic| walk_at "cl") => `(tactic| fail)
local macro_rules | `(tactic| walk_at "pr") => `(tactic| fail)
section
variable {K : PySem.W.Frag} {mg : Str → Option Value} {vs : List V} {H : Hp} {Q : VK} {E : XK}
theorem pure_Lheard (T : Tx K mg) {f c : Addr} {q : Str} {tl : XK → Hp → VK → Prop} (h : TT_Lheard K tl H Q) (hc : H c = some (CodeO c q)) : t_Lheard K f c q tl { nx := fun _ H2 => Q .non H2, rt := Q } (start ["_law_ask", "_law_caught", "error"] [.ref f]) H := by
  refine gives_try (m := fun cls => PySem.W.exmOne K cls (.ref (ga K "JoinError"))) h hc (fun cn fs Qd hcr => ?_) fun o2 F1 o Qd hcr => ?_
  · obtain ⟨rfl, _⟩ := hcr
    exact T.exm
  cases o with
  | none =>
    have hcr : Qd .non := hcr
    refine ms_seq (ms_if (m_test (m_op (m_var rfl (m_cN (r_isN (q_bl (q_t ?_))))))))
    exact ms_ret (m_cN (q_v hcr))
  | some p =>
    obtain ⟨cn, fs⟩ := p
    obtain ⟨rfl, r, rfl, hq⟩ := hcr
    refine ms_seq (ms_if (m_test (m_op (m_var rfl (m_cN (r_isN (q_bl (q_f (ms_next ?_)))))))))
    refine ms_ret (m_ife (m_and (m_B (m_cb (m_cons (m_var rfl (m_cons (m_cC (m_nil (c_isiXU T.xc_InvalidFrame T.kx (q_bl (q_t ?_))))))))))))
    refine m_B (m_cb (m_cons (m_var rfl (m_cons (m_cT (m_nil (c_isiXT T.xc_InvalidFrame T.kv (q_bl (q_t ?_)))))))))
    exact m_xv (m_var rfl ⟨"InvalidFrame", _, .str r, rfl, ⟨T.x_InvalidFrame.xf, T.xn_InvalidFrame⟩, rfl, q_v hq⟩)
end

end K04

namespace K04
open PySem PySem.Spec PyProof.Rows L2 He SJ
open LamX (CodeO lamS_by Tabs tLam)
local macro_rules | `(tactic| walk_at "mr") => `(tactic| repeat' (first
  | with_reducible apply ms_seq | with_reducible apply ms_if | with_reducible apply ms_ret | with_reducible apply ms_next | with_reducible apply s_asg
  | ((with_reducible apply g_var); first | refine m_var rfl ?_ | refine m_varS rfl ?_)
  | with_reducible apply m_cI | with_reducible apply m_cS | with_reducible apply m_cB | with_reducible apply m_cN | with_reducible apply m_cC | with_reducible apply m_cT
  | with_reducible apply m_op | with_reducible apply m_cb | with_reducible apply m_nil | with_reducible apply m_cons | with_reducible apply m_test | with_reducible apply m_B | with_reducible apply q_bl
  | with_reducible apply m_and | with_reducible apply m_or | with_reducible apply m_not | with_reducible apply m_andV | with_reducible apply m_orV | with_reducible apply m_notV | with_reducible apply m_ife | with_reducible apply m_chain
  | with_reducible apply q_v | ((with_reducible apply g_slot); refine q_own rfl ?_) | with_reducible apply q_n | with_reducible apply q_c | with_reducible apply q_t | with_reducible apply q_f | with_reducible apply m_yes
  | with_reducible apply r_addI | with_reducible apply r_subI | with_reducible apply r_eqI | with_reducible apply r_neI | with_reducible apply r_eqS | with_reducible apply r_neS | with_reducible apply r_ltI | with_reducible apply r_leI | with_reducible apply r_gtI | with_reducible apply r_geI
  | with_reducible apply r_isN | with_reducible apply r_isnN | with_reducible apply c_intI | with_reducible apply c_intB | with_reducible apply v_lst | with_reducible apply m_tup | ((with_reducible apply g_le); refine ⟨Nat.le_of_ble_eq_true rfl, ?_⟩) | with_reducible apply v_sl | with_reducible apply v_dnew
  | ((with_reducible apply g_dget); refine m_dget ?_) | refine get_str rfl rfl ?_
  | with_reducible apply m_fld | with_reducible apply m_con | refine ⟨_, _, _, rfl, by walk_at "fd", rfl, ?_⟩
  | ((with_reducible apply g_fn); first | refine m_fn wr0 ?_ | refine m_fn (by assumption) ?_ | refine m_fnP ?_ rfl)
  | ((with_reducible apply g_nw); refine m_nw wr0 ?_) | ((with_reducible apply g_ownGet); refine m_ownGet wr0 ?_) | ((with_reducible apply g_ownIn); refine r_ownIn ?_)
  | ((with_reducible apply g_inS); first | refine r_inStrs rfl ?_ | refine r_inStrsT rfl ?_ | refine r_ninStrsT rfl ?_) | ((with_reducible apply g_len); first | refine c_lenL rfl ?_ | refine c_lenT rfl ?_ | refine c_lenD rfl ?_)
  | ((with_reducible apply g_list); first | refine c_listv (.inl rfl) ?_ | refine c_listv (.inr rfl) ?_) | ((with_reducible apply g_tupU); first | refine c_tupleL rfl ?_ | refine c_tupleT ?_) | ((with_reducible apply g_pr); refine m_pr ?_) | refine ⟨_, _, _, rfl, by walk_at "cl", by walk_at "pr", ?_⟩ | refine ⟨_, rfl, ?_⟩ | fail))
local macro_rules | `(tactic| walk_at "me") => `(tactic| repeat' (first
  | ((with_reducible apply g_var); first | refine m_var rfl ?_ | refine m_varS rfl ?_)
  | with_reducible apply m_cI | with_reducible apply m_cS | with_reducible apply m_cB | with_reducible apply m_cN | with_reducible apply m_cC | with_reducible apply m_cT
  | with_reducible apply m_op | with_reducible apply m_cb | with_reducible apply m_nil | with_reducible apply m_cons | with_reducible apply m_test | with_reducible apply m_B | with_reducible apply q_bl
  | with_reducible apply m_and | with_reducible apply m_or | with_reducible apply m_not | with_reducible apply m_andV | with_reducible apply m_orV | with_reducible apply m_notV | with_reducible apply m_ife | with_reducible apply m_chain
  | with_reducible apply q_v | ((with_reducible apply g_slot); refine q_own rfl ?_) | with_reducible apply q_n | with_reducible apply q_c | with_reducible apply q_t | with_reducible apply q_f | with_reducible apply m_yes
  | with_reducible apply r_addI | with_reducible apply r_subI | with_reducible apply r_eqI | with_reducible apply r_neI | with_reducible apply r_eqS | with_reducible apply r_neS | with_reducible apply r_ltI | with_reducible apply r_leI | with_reducible apply r_gtI | with_reducible apply r_geI
  | with_reducible apply r_isN | with_reducible apply r_isnN | with_reducible apply c_intI | with_reducible apply c_intB | with_reducible apply v_lst | with_reducible apply m_tup | ((with_reducible apply g_le); refine ⟨Nat.le_of_ble_eq_true rfl, ?_⟩) | with_reducible apply v_sl | with_reducible apply v_dnew
  | ((with_reducible apply g_dget); refine m_dget ?_) | refine get_str rfl rfl ?_
  | with_reducible apply m_fld | with_reducible apply m_con | refine ⟨_, _, _, rfl, by walk_at "fd", rfl, ?_⟩
  | ((with_reducible apply g_fn); first | refine m_fn wr0 ?_ | refine m_fn (by assumption) ?_ | refine m_fnP ?_ rfl)
  | ((with_reducible apply g_nw); refine m_nw wr0 ?_) | ((with_reducible apply g_ownGet); refine m_ownGet wr0 ?_) | ((with_reducible apply g_ownIn); refine r_ownIn ?_)
  | ((with_reducible apply g_inS); first | refine r_inStrs rfl ?_ | refine r_inStrsT rfl ?_ | refine r_ninStrsT rfl ?_) | ((with_reducible apply g_len); first | refine c_lenL rfl ?_ | refine c_lenT rfl ?_ | refine c_lenD rfl ?_)
  | ((with_reducible apply g_list); first | refine c_listv (.inl rfl) ?_ | refine c_listv (.inr rfl) ?_) | ((with_reducible apply g_tupU); first | refine c_tupleL rfl ?_ | refine c_tupleT ?_) | ((with_reducible apply g_pr); refine m_pr ?_) | refine ⟨_, _, _, rfl, by walk_at "cl", by walk_at "pr", ?_⟩ | refine ⟨_, rfl, ?_⟩ | fail))
local macro_rules | `(tactic| walk_at "fd") => `(tactic| first | exact (fr_fld (by assumption)).1 | exact (fr_fld (by assumption)).2.1 | exact (fr_fld (by assumption)).2.2.1 | exact (fr_fld (by assumption)).2.2.2 | exact leg_fld (by assumption) _ | fail)
local macro_rules | `(tactic| walk_at "cl") => `(tactic| fail)
local macro_rules | `(tactic| walk_at "pr") => `(tactic| fail)
/-! what is wrong with drawn values -/
def firstR (b0 b1 b2 b3 b4 : Bool) : Option Str := if b0 = true then some "legs" else if b1 = true then some "many" else if b2 = true then some "name" else if b3 = true then some "top" else if b4 = true then some "rails" else none
/-- drawn legs: b0 one is none, b1 they are too many, b2 a name is there twice -/
structure Legs3 (b0 b1 b2 : Bool) (es : List D) : Prop where
  an : ∀ e ∈ es, AnyD e
  al : es.all isLegD = !b0
  le : es.length ≤ 60
  mn : b0 = false → b1 = true → 40 < es.length
  fw : b0 = false → b1 = false → es.length ≤ 40
  tw : b0 = false → b2 = true → ¬ (es.map nmOf).Nodup
  nt : b0 = false → b2 = false → (es.map nmOf).Nodup
theorem due_of {b0 b1 b2 b3 b4 : Bool} {es : List D} {top rg rp : D} (h : Legs3 b0 b1 b2 es) (h3 : btw 1 3 top = !b3) (h4 : (isBlD rg && isBlD rp) = !b4) : faultOf es top rg rp = firstR b0 b1 b2 b3 b4 := by
  unfold faultOf firstR
  rw [h.al, h3, h4]
  cases b0 with
  | true => rfl
  | false =>
    rw [if_neg (by simp), if_neg Bool.false_ne_true]
    cases b1 with
    | true => rw [if_pos (h.mn rfl rfl), if_pos rfl]
    | false =>
      rw [if_neg (by have := h.fw rfl rfl; omega), if_neg Bool.false_ne_true]
      cases b2 with
      | true => rw [if_pos (h.tw rfl rfl), if_pos rfl]
      | false =>
        rw [if_neg (fun z => z (h.nt rfl rfl)), if_neg Bool.false_ne_true]
        cases b3 <;> cases b4 <;> rfl
theorem any_legD {l : Lg} (h : l.nm.length ≤ 1000) : AnyD (legD l) ∧ isLegD (legD l) = true ∧ nmOf (legD l) = l.nm := by
  obtain ⟨b, z⟩ := l
  cases b
  · exact ⟨⟨.inr (.inr rfl), z, rfl, h⟩, rfl, rfl⟩
  · exact ⟨⟨.inr (.inl rfl), z, rfl, h⟩, rfl, rfl⟩
theorem map_nm (ls : List Lg) : (ls.map legD).map nmOf = ls.map (·.nm) := by
  rw [List.map_map]
  refine List.map_congr_left fun l _ => ?_
  obtain ⟨b, z⟩ := l
  cases b <;> rfl
theorem legs3_of {ls : List Lg} {b1 b2 : Bool} (hz : ∀ l ∈ ls, l.nm.length ≤ 1000) (hl : ls.length ≤ 59) (h1 : b1 = true → 40 < ls.length) (h2 : b1 = false → ls.length ≤ 40) (h3 : b2 = true → ¬ (ls.map (·.nm)).Nodup) (h4 : b2 = false → (ls.map (·.nm)).Nodup) : Legs3 false b1 b2 (ls.map legD) := by
  refine ⟨fun e he => ?_, ?_, by rw [List.length_map]; omega, fun _ h => by rw [List.length_map]; exact h1 h, fun _ h => by rw [List.length_map]; exact h2 h, fun _ h => by rw [map_nm]; exact h3 h, fun _ h => by rw [map_nm]; exact h4 h⟩
  · obtain ⟨l, hl, rfl⟩ := List.mem_map.mp he
    exact (any_legD (hz l hl)).1
  · refine List.all_eq_true.mpr fun e he => ?_
    obtain ⟨l, hl, rfl⟩ := List.mem_map.mp he
    exact (any_legD (hz l hl)).2.1
/-- a value that is no leg put among them -/
theorem legs3_odd {es : List D} {b1 b2 : Bool} (h : Legs3 false b1 b2 es) (hl : es.length ≤ 59) {d : D} (hd : AnyD d) (hn : isLegD d = false) (i : Nat) : Legs3 true b1 b2 (es.take i ++ [d] ++ es.drop i) := by
  have hm : ∀ e, e ∈ es.take i ++ [d] ++ es.drop i → e = d ∨ e ∈ es := fun e he => by
    rcases List.mem_append.mp he with he | he
    · rcases List.mem_append.mp he with he | he
      · exact .inr (List.mem_of_mem_take he)
      · rcases List.mem_cons.mp he with he | he
        · exact .inl he
        · cases he
    · exact .inr (List.mem_of_mem_drop he)
  refine ⟨fun e he => ?_, ?_, ?_, (fun z => nomatch z), (fun z => nomatch z), (fun z => nomatch z), (fun z => nomatch z)⟩
  · rcases hm e he with rfl | he
    · exact hd
    · exact h.an e he
  · cases q : (es.take i ++ [d] ++ es.drop i).all isLegD with
    | false => rfl
    | true =>
      have := List.all_eq_true.mp q d (by simp)
      rw [hn] at this
      cases this
  · rw [List.length_append, List.length_append, List.length_take, List.length_drop]
    show min i es.length + 1 + (es.length - i) ≤ 60
    omega
theorem asked_of {b0 b1 b2 : Bool} {es : List D} {top rg rp : D} (h : Legs3 b0 b1 b2 es) (h1 : flatD top = true) (h2 : flatD rg = true) (h3 : flatD rp = true) : Asked es top rg rp := ⟨Nat.le_trans h.le (by decide), h.an, h1, h2, h3⟩
/-! the names drawn -/
def nmk (i : Nat) : Str := (("z" : Str) ++ ⟨#[97 + i / 7]⟩) ++ ⟨#[115 + i % 7]⟩
def L41 : List Lg := (List.range 41).map fun i => ⟨false, nmk i⟩
theorem nmk_ok : ∀ i, i < 41 → nameB (nmk i) = true ∧ (nmk i).length ≤ 1000 ∧ nmk i ∉ pool ∧ nmk i ≠ "double" := by decide
theorem nm_41 : (L41.map (·.nm)).Nodup := by decide
theorem dbl_ok : nameB "double" = true ∧ ("double" : Str).length ≤ 1000 ∧ ("double" : Str) ∉ pool ∧ nameB "zz" = true ∧ ("zz" : Str).length ≤ 1000 ∧ nameB "a" = true ∧ ("a" : Str).length ≤ 1000 := by decide
def dbl : List Lg := [⟨true, "double"⟩, ⟨false, "double"⟩]
theorem pool_name : ∀ z ∈ pool, nameB z = true ∧ z.length ≤ 8 := by decide
/-- the legs drawn, none of them odd -/
theorem legs_drawn {zs : List Str} (hl : zs.length ≤ 3) (hn : zs.Nodup) (hp : ∀ z ∈ zs, z ∈ pool) (b1 b2 : Bool) : Legs3 false b1 b2 (((zs.map fun z => (⟨true, z⟩ : Lg)) ++ (if b1 = true then L41 else []) ++ (if b2 = true then dbl else [])).map legD) ∧
    ((zs.map fun z => (⟨true, z⟩ : Lg)) ++ (if b1 = true then L41 else []) ++ (if b2 = true then dbl else [])).length ≤ 59 := by
  have e1 : ((zs.map fun z => (⟨true, z⟩ : Lg)).map (·.nm)) = zs := by rw [List.map_map]; show zs.map id = zs; rw [List.map_id]
  have h41 : L41.length = 41 := rfl
  have n1 : ((zs.map fun z => (⟨true, z⟩ : Lg)) ++ (if b1 = true then L41 else [])).map (·.nm) = zs ++ (if b1 = true then L41.map (·.nm) else []) := by
    rw [List.map_append, e1]
    cases b1 <;> rfl
  have nd1 : (zs ++ (if b1 = true then L41.map (·.nm) else [])).Nodup := by
    cases b1 with
    | false => rw [if_neg Bool.false_ne_true, List.append_nil]; exact hn
    | true =>
      rw [if_pos rfl]
      refine List.nodup_append.mpr ⟨hn, nm_41, fun x hx y hy e => ?_⟩
      obtain ⟨l, hl, rfl⟩ := List.mem_map.mp hy
      obtain ⟨i, hi, rfl⟩ := List.mem_map.mp hl
      have := (nmk_ok i (List.mem_range.mp hi)).2.2.1
      exact this (by show nmk i ∈ pool; rw [show nmk i = x from e.symm]; exact hp x hx)
  have len : ((zs.map fun z => (⟨true, z⟩ : Lg)) ++ (if b1 = true then L41 else []) ++ (if b2 = true then dbl else [])).length = zs.length + (if b1 = true then 41 else 0) + (if b2 = true then 2 else 0) := by
    rw [List.length_append, List.length_append, List.length_map]
    cases b1 <;> cases b2 <;> rfl
  have hz : ∀ l ∈ (zs.map fun z => (⟨true, z⟩ : Lg)) ++ (if b1 = true then L41 else []) ++ (if b2 = true then dbl else []), l.nm.length ≤ 1000 := fun l hl => by
    rcases List.mem_append.mp hl with hl | hl
    · rcases List.mem_append.mp hl with hl | hl
      · obtain ⟨z, hz, rfl⟩ := List.mem_map.mp hl
        exact Nat.le_trans (pool_name z (hp z hz)).2 (by decide)
      · cases b1 with
        | false => cases hl
        | true =>
          obtain ⟨i, hi, rfl⟩ := List.mem_map.mp (show l ∈ L41 from hl)
          exact (nmk_ok i (List.mem_range.mp hi)).2.1
    · cases b2 with
      | false => cases hl
      | true =>
        rcases List.mem_cons.mp (show l ∈ dbl from hl) with rfl | hl
        · exact dbl_ok.2.1
        · rcases List.mem_cons.mp hl with rfl | hl
          · exact dbl_ok.2.1
          · cases hl
  refine ⟨legs3_of hz (by rw [len]; cases b1 <;> cases b2 <;> simp <;> omega) (fun h => by rw [len, h]; simp; omega) (fun h => by rw [len, h]; cases b2 <;> simp <;> omega) (fun h => ?_) (fun h => ?_), by rw [len]; cases b1 <;> cases b2 <;> simp <;> omega⟩
  · subst h
    rw [List.map_append, n1]
    intro q
    have := (List.nodup_append.mp q).2.1
    exact absurd this (by decide)
  · subst h
    rw [if_neg Bool.false_ne_true, List.append_nil, n1]
    exact nd1

end K04

namespace K04
open PySem PySem.Spec PyProof.Rows L2 He SJ
open LamX (CodeO lamS_by Tabs tLam)
local macro_rules | `(tactic| walk_at "mr") => `(tactic| repeat' (first
  | with_reducible apply ms_seq | with_reducible apply ms_if | with_reducible apply ms_ret | with_reducible apply ms_next | with_reducible apply s_asg
  | ((with_reducible apply g_var); first | refine m_var rfl ?_ | refine m_varS rfl ?_)
  | with_reducible apply m_cI | with_reducible apply m_cS | with_reducible apply m_cB | with_reducible apply m_cN | with_reducible apply m_cC | with_reducible apply m_cT
  | with_reducible apply m_op | with_reducible apply m_cb | with_reducible apply m_nil | with_reducible apply m_cons | with_reducible apply m_test | with_reducible apply m_B | with_reducible apply q_bl
  | with_reducible apply m_and | with_reducible apply m_or | with_reducible apply m_not | with_reducible apply m_andV | with_reducible apply m_orV | with_reducible apply m_notV | with_reducible apply m_ife | with_reducible apply m_chain
  | with_reducible apply q_v | ((with_reducible apply g_slot); refine q_own rfl ?_) | with_reducible apply q_n | with_reducible apply q_c | with_reducible apply q_t | with_reducible apply q_f | with_reducible apply m_yes
  | with_reducible apply r_addI | with_reducible apply r_subI | with_reducible apply r_eqI | with_reducible apply r_neI | with_reducible apply r_eqS | with_reducible apply r_neS | with_reducible apply r_ltI | with_reducible apply r_leI | with_reducible apply r_gtI | with_reducible apply r_geI
  | with_reducible apply r_isN | with_reducible apply r_isnN | with_reducible apply c_intI | with_reducible apply c_intB | with_reducible apply v_lst | with_reducible apply m_tup | ((with_reducible apply g_le); refine ⟨Nat.le_of_ble_eq_true rfl, ?_⟩) | with_reducible apply v_sl | with_reducible apply v_dnew
  | ((with_reducible apply g_dget); refine m_dget ?_) | refine get_str rfl rfl ?_
  | with_reducible apply m_fld | with_reducible apply m_con | refine ⟨_, _, _, rfl, by walk_at "fd", rfl, ?_⟩
  | ((with_reducible apply g_fn); first | refine m_fn wr0 ?_ | refine m_fn (by assumption) ?_ | refine m_fnP ?_ rfl)
  | ((with_reducible apply g_nw); refine m_nw wr0 ?_) | ((with_reducible apply g_ownGet); refine m_ownGet wr0 ?_) | ((with_reducible apply g_ownIn); refine r_ownIn ?_)
  | ((with_reducible apply g_inS); first | refine r_inStrs rfl ?_ | refine r_inStrsT rfl ?_ | refine r_ninStrsT rfl ?_) | ((with_reducible apply g_len); first | refine c_lenL rfl ?_ | refine c_lenT rfl ?_ | refine c_lenD rfl ?_)
  | ((with_reducible apply g_list); first | refine c_listv (.inl rfl) ?_ | refine c_listv (.inr rfl) ?_) | ((with_reducible apply g_tupU); first | refine c_tupleL rfl ?_ | refine c_tupleT ?_) | ((with_reducible apply g_pr); refine m_pr ?_) | refine ⟨_, _, _, rfl, by walk_at "cl", by walk_at "pr", ?_⟩ | refine ⟨_, rfl, ?_⟩ | fail))
local macro_rules | `(tactic| walk_at "me") => `(tactic| repeat' (first
  | ((with_reducible apply g_var); first | refine m_var rfl ?_ | refine m_varS rfl ?_)
  | with_reducible apply m_cI | with_reducible apply m_cS | with_reducible apply m_cB | with_reducible apply m_cN | with_reducible apply m_cC | with_reducible apply m_cT
  | with_reducible apply m_op | with_reducible apply m_cb | with_reducible apply m_nil | with_reducible apply m_cons | with_reducible apply m_test | with_reducible apply m_B | with_reducible apply q_bl
  | with_reducible apply m_and | with_reducible apply m_or | with_reducible apply m_not | with_reducible apply m_andV | with_reducible apply m_orV | with_reducible apply m_notV | with_reducible apply m_ife | with_reducible apply m_chain
  | with_reducible apply q_v | ((with_reducible apply g_slot); refine q_own rfl ?_) | with_reducible apply q_n | with_reducible apply q_c | with_reducible apply q_t | with_reducible apply q_f | with_reducible apply m_yes
  | with_reducible apply r_addI | with_reducible apply r_subI | with_reducible apply r_eqI | with_reducible apply r_neI | with_reducible apply r_eqS | with_reducible apply r_neS | with_reducible apply r_ltI | with_reducible apply r_leI | with_reducible apply r_gtI | with_reducible apply r_geI
  | with_reducible apply r_isN | with_reducible apply r_isnN | with_reducible apply c_intI | with_reducible apply c_intB | with_reducible apply v_lst | with_reducible apply m_tup | ((with_reducible apply g_le); refine ⟨Nat.le_of_ble_eq_true rfl, ?_⟩) | with_reducible apply v_sl | with_reducible apply v_dnew
  | ((with_reducible apply g_dget); refine m_dget ?_) | refine get_str rfl rfl ?_
  | with_reducible apply m_fld | with_reducible apply m_con | refine ⟨_, _, _, rfl, by walk_at "fd", rfl, ?_⟩
  | ((with_reducible apply g_fn); first | refine m_fn wr0 ?_ | refine m_fn (by assumption) ?_ | refine m_fnP ?_ rfl)
  | ((with_reducible apply g_nw); refine m_nw wr0 ?_) | ((with_reducible apply g_ownGet); refine m_ownGet wr0 ?_) | ((with_reducible apply g_ownIn); refine r_ownIn ?_)
  | ((with_reducible apply g_inS); first | refine r_inStrs rfl ?_ | refine r_inStrsT rfl ?_ | refine r_ninStrsT rfl ?_) | ((with_reducible apply g_len); first | refine c_lenL rfl ?_ | refine c_lenT rfl ?_ | refine c_lenD rfl ?_)
  | ((with_reducible apply g_list); first | refine c_listv (.inl rfl) ?_ | refine c_listv (.inr rfl) ?_) | ((with_reducible apply g_tupU); first | refine c_tupleL rfl ?_ | refine c_tupleT ?_) | ((with_reducible apply g_pr); refine m_pr ?_) | refine ⟨_, _, _, rfl, by walk_at "cl", by walk_at "pr", ?_⟩ | refine ⟨_, rfl, ?_⟩ | fail))
local macro_rules | `(tactic| walk_at "fd") => `(tactic| first | exact (fr_fld (by assumption)).1 | exact (fr_fld (by assumption)).2.1 | exact (fr_fld (by assumption)).2.2.1 | exact (fr_fld (by assumption)).2.2.2 | exact leg_fld (by assumption) _ | fail)
local macro_rules | `(tactic| walk_at "cl") => `(tactic| fail)
local macro_rules | `(tactic| walk_at "pr") => `(tactic| fail)
section
variable {K : PySem.W.Frag} {mg : Str → Option Value} {vs : List V} {H : Hp} {Q : VK} {E : XK}
def dr9 (K : PySem.W.Frag) : TS := (tRet (tTup (tCons (tVar 1) (tCons (tVar 7) (tCons (tVar 8) (tCons (tOp (rIx K) (tOp (rAdd K) (tVar 9) (tLst (tCons (tC .non) tNil))) (tC (.int 0))) tNil))))))
def dr8 (K : PySem.W.Frag) : TS := (tSeq (tAsg (tLc (iZip K (tCons (tLst (tCons (tC (.str "legs")) (tCons (tC (.str "many")) (tCons (tC (.str "name")) (tCons (tC (.str "top")) (tCons (tC (.str "rails")) tNil)))))) (tCons (tVar 3) tNil))) (gTup K 2 (gCons (gName 10) (gCons (gName 11) gNil))) (tB (tVar 11)) (tVar 10) [10, 11]) (gName 9)) (dr9 K))
def dr7 (K : PySem.W.Frag) : TS := (tSeq (tIfS (tB (tOp (rIx K) (tVar 3) (tC (.int 4)))) (tAsg (tFn (sp_Lpick K) [] W0 (tCons (tVar 0) (tCons (tLst (tCons (tC (.int 0)) (tCons (tC (.int 1)) (tCons (tC .non) (tCons (tC (.str "")) (tCons (tC (.str "ground")) (tCons (tTup tNil) (tCons (tLst tNil) tNil)))))))) tNil))) (gSub (tVar 8) (tFn (sp_Ldraw K) [] W0 (tCons (tVar 0) (tCons (tC (.int 2)) tNil))) rSetL)) tNext) (dr8 K))
def dr6 (K : PySem.W.Frag) : TS := (tSeq (tAsg (tLst (tCons (tOp (rEqU K) (tFn (sp_Ldraw K) [] W0 (tCons (tVar 0) (tCons (tC (.int 2)) tNil))) (tC (.int 0))) (tCons (tOp (rEqU K) (tFn (sp_Ldraw K) [] W0 (tCons (tVar 0) (tCons (tC (.int 2)) tNil))) (tC (.int 0))) tNil))) (gName 8)) (dr7 K))
def dr5 (K : PySem.W.Frag) : TS := (tSeq (tAsg (tIf (tB (tOp (rIx K) (tVar 3) (tC (.int 3)))) (tFn (sp_Lpick K) [] W0 (tCons (tVar 0) (tCons (tLst (tCons (tC (.int 0)) (tCons (tC (.int 4)) (tCons (tUn (rU fun i => .int (-i)) (tC (.int 1))) (tCons (tC (.bl true)) (tCons (tC .non) (tCons (tC (.str "1")) (tCons (tTup (tCons (tC (.int 1)) tNil)) (tCons (tOp rPow (tC (.int 10)) (tC (.int 30))) tNil))))))))) tNil))) (tOp (rAdd K) (tC (.int 1)) (tFn (sp_Ldraw K) [] W0 (tCons (tVar 0) (tCons (tC (.int 3)) tNil))))) (gName 7)) (dr6 K))
def dr4 (K : PySem.W.Frag) : TS := (tSeq (tIfS (tB (tOp (rIx K) (tVar 3) (tC (.int 0)))) (tSeq (tAsg (tFn (sp_Lpick K) [] W0 (tCons (tVar 0) (tCons (tLst (tCons (tC .non) (tCons (tC (.str "a")) (tCons (tNw (ga K "Leg") (sp_Leg_init K) [] W0 (tCons (tC (.str "zz")) tNil)) (tCons (tC (.int 1)) (tCons (tTup tNil) (tCons (tC (.str "driver a")) tNil))))))) tNil))) (gName 6)) (tDrop (tBM K "list" rInsert (tVar 1) (tCons (tFn (sp_Ldraw K) [] W0 (tCons (tVar 0) (tCons (tOp (rAdd K) (tCB (rLenU K) (tCons (tVar 1) tNil)) (tC (.int 1))) tNil))) (tCons (tVar 6) tNil))))) tNext) (dr5 K))
def dr3 (K : PySem.W.Frag) : TS := (tSeq (tIfS (tB (tOp (rIx K) (tVar 3) (tC (.int 2)))) (tAsg (tOp (rAdd K) (tVar 1) (tLst (tCons (tNw (ga K "Driver") (sp_Leg_init K) [] W0 (tCons (tC (.str "double")) tNil)) (tCons (tNw (ga K "Listener") (sp_Leg_init K) [] W0 (tCons (tC (.str "double")) tNil)) tNil)))) (gName 1)) tNext) (dr4 K))
def dr2 (K : PySem.W.Frag) : TS := (tSeq (tIfS (tB (tOp (rIx K) (tVar 3) (tC (.int 1)))) (tAsg (tOp (rAdd K) (tVar 1) (tLc (iRng1 (tCons (tC (.int 41)) tNil)) (gName 5) tYes (tNw (ga K "Listener") (sp_Leg_init K) [] W0 (tCons (tOp (rAdd K) (tOp (rAdd K) (tC (.str "z")) (tOp (rIx K) (tC (.str "abcdef")) (tOp rFdv (tVar 5) (tC (.int 7))))) (tOp (rIx K) (tC (.str "stuvwxy")) (tOp rMod (tCB rInt (tCons (tVar 5) tNil)) (tC (.int 7))))) tNil)) [5])) (gName 1)) tNext) (dr3 K))
/-- what is given back -/
abbrev drN (Qd : D → Nat → Prop) : Hn := { nx := fun ρ => ∃ j, sl ρ 0 = .pen j ∧ Qd .non j, rt := fun d ρ => ∃ j, sl ρ 0 = .pen j ∧ Qd d j }
def reasons (b0 b1 b2 b3 b4 : Bool) : List D := (((([("legs" : Str), "many", "name", "top", "rails"].map D.str).zip [b0, b1, b2, b3, b4]).filter fun q => q.2).map fun q => q.1)
theorem first_eq (b0 b1 b2 b3 b4 : Bool) : ∃ r, reasons b0 b1 b2 b3 b4 ++ [D.non] = outF (firstR b0 b1 b2 b3 b4) :: r := by
  cases b0 <;> cases b1 <;> cases b2 <;> cases b3 <;> cases b4 <;> exact ⟨_, rfl⟩
def sndB : D → Bool
  | .tup [_, .bl b] => b
  | _ => false
def fstD : D → D
  | .tup (a :: _) => a
  | _ => .non
theorem zip_eq (b0 b1 b2 b3 b4 : Bool) : ((zipD ([("legs" : Str), "many", "name", "top", "rails"].map D.str) ([b0, b1, b2, b3, b4].map D.bl)).filter sndB).map fstD = reasons b0 b1 b2 b3 b4 := by
  cases b0 <;> cases b1 <;> cases b2 <;> cases b3 <;> cases b4 <;> rfl
theorem dr8_ok (T : Tx K mg) {o : Hp} {w : Option V} {F0 : Hp} {n n0 : Nat} {s2 s4 s5 s6 s9 s10 s11 : Sl} {b0 b1 b2 b3 b4 : Bool} {es : List D} {top rg rp : D} {Qd : D → Nat → Prop} (hm10 : s10.mut = false) (hm11 : s11.mut = false)
    (hL : Legs3 b0 b1 b2 es) (h1 : flatD top = true) (h2 : flatD rg = true) (h3 : flatD rp = true) (ht : btw 1 3 top = !b3) (hr : (isBlD rg && isBlD rp) = !b4) (hn : n ≤ n0 + 60)
    (q : ∀ es top rg rp n2, Asked es top rg rp → es.length ≤ 60 → n2 ≤ n0 + 60 → Qd (.tup [.lst es, top, .lst [rg, rp], outF (faultOf es top rg rp)]) n2) :
    Ms K ⟨o, w, TB K⟩ F0 (dr8 K) [.pen n, .own (.lst es), s2, .val (.lst ([b0, b1, b2, b3, b4].map D.bl)), s4, s5, s6, .val top, .own (.lst [rg, rp]), s9, s10, s11] (drN Qd) := by
  obtain ⟨r, hf⟩ := first_eq b0 b1 b2 b3 b4
  refine ms_seq (s_asg (v_lcM [10, 11] sndB fstD (by decide) (by decide) (mi_zip (m_cons (v_lst ?_)))))
  walk_at "me"
  refine ⟨_, _, rfl, ?_, fun v hv => ?_, fun d hd oo ww => ?_, ?_⟩
  · exact Nat.le_of_ble_eq_true rfl
  · rcases List.mem_cons.mp hv with rfl | hv
    · exact hm10
    · rcases List.mem_cons.mp hv with rfl | hv
      · exact hm11
      · cases hv
  · obtain ⟨u, hu, rfl⟩ := List.mem_map.mp hd
    have hb : ∃ b, u.2 = .bl b := by
      have := (List.of_mem_zip (show (u.1, u.2) ∈ _ from hu)).2
      obtain ⟨b, _, e⟩ := List.mem_map.mp (show u.2 ∈ [b0, b1, b2, b3, b4].map D.bl from this)
      exact ⟨b, e.symm⟩
    obtain ⟨u1, u2⟩ := u
    obtain ⟨b, hb⟩ := hb
    have hb : u2 = .bl b := hb
    subst hb
    exact mg_pair ⟨rfl, rfl, m_B (m_var rfl (q_bl ⟨rfl, rfl, fun _ => m_var rfl ⟨rfl, rfl⟩⟩))⟩
  · have e : List.map fstD (List.filter sndB (zipD [D.str "legs", D.str "many", D.str "name", D.str "top", D.str "rails"] (List.map D.bl [b0, b1, b2, b3, b4]))) = reasons b0 b1 b2 b3 b4 := zip_eq b0 b1 b2 b3 b4
    rw [e]
    refine q_v ?_
    refine ms_ret (m_tup ?_)
    walk_at "me"
    have hl : (reasons b0 b1 b2 b3 b4).length ≤ 5 := by cases b0 <;> cases b1 <;> cases b2 <;> cases b3 <;> cases b4 <;> decide
    refine r_catL rfl rfl (by show (reasons b0 b1 b2 b3 b4).length + 1 ≤ 10000; omega) ?_
    rw [hf]
    have a0 : atI (outF (firstR b0 b1 b2 b3 b4) :: r) 0 = some (outF (firstR b0 b1 b2 b3 b4)) := by
      obtain ⟨v, e1, e2⟩ := atI_in (xs := outF (firstR b0 b1 b2 b3 b4) :: r) (i := 0) (Int.le_refl _) (by rw [List.length_cons]; omega)
      cases e1
      exact e2
    refine m_cI (r_ixL (i := 0) rfl a0 (m_nil ?_))
    refine q_c (q_own rfl (q_c (q_v (q_c (q_own rfl (q_c (q_v (q_n ⟨by show 4 ≤ 1000; decide, q_v ⟨n, rfl, ?_⟩⟩))))))))
    rw [← due_of hL ht hr]
    exact q es top rg rp n (asked_of hL h1 h2 h3) hL.le hn
end

end K04

/-! MRx: -n. -/
namespace SJ
open PySem PySem.Spec PyProof.Rows L2 He
section
variable {K : PySem.W.Frag} {O : Oc} {F0 : Hp} {ρ : Ro} {Q : X → Ro → Prop} {te : TE}
theorem m_neg (k : Me K O F0 te ρ fun x ρ1 => ∃ i : Int, x = .val (.int i) ∧ Q (.val (.int (-i))) ρ1) : Me K O F0 (tUn (rU fun i => .int (-i)) te) ρ Q := fun F H σ Qh s R c =>
  k F H σ _ s R fun v H1 F1 x ρ1 s1 R1 r1 ⟨i, ex, q⟩ => by
    subst ex
    rw [look_int r1]
    exact ⟨i, rfl, c _ H1 F1 (.val (.int (-i))) ρ1 s1 R1 (Rep.int _) q⟩
end
end SJ

namespace K04
open PySem PySem.Spec PyProof.Rows L2 He SJ
open LamX (CodeO lamS_by Tabs tLam)
local macro_rules | `(tactic| walk_at "mr") => `(tactic| repeat' (first
  | with_reducible apply ms_seq | with_reducible apply ms_if | with_reducible apply ms_ret | with_reducible apply ms_next | with_reducible apply s_asg
  | ((with_reducible apply g_var); first | refine m_var rfl ?_ | refine m_varS rfl ?_)
  | with_reducible apply m_cI | with_reducible apply m_cS | with_reducible apply m_cB | with_reducible apply m_cN | with_reducible apply m_cC | with_reducible apply m_cT
  | with_reducible apply m_op | with_reducible apply m_cb | with_reducible apply m_nil | with_reducible apply m_cons | with_reducible apply m_test | with_reducible apply m_B | with_reducible apply q_bl
  | with_reducible apply m_and | with_reducible apply m_or | with_reducible apply m_not | with_reducible apply m_andV | with_reducible apply m_orV | with_reducible apply m_notV | with_reducible apply m_ife | with_reducible apply m_chain
  | with_reducible apply q_v | ((with_reducible apply g_slot); refine q_own rfl ?_) | with_reducible apply q_n | with_reducible apply q_c | with_reducible apply q_t | with_reducible apply q_f | with_reducible apply m_yes
  | with_reducible apply r_addI | with_reducible apply r_subI | with_reducible apply r_eqI | with_reducible apply r_neI | with_reducible apply r_eqS | with_reducible apply r_neS | with_reducible apply r_ltI | with_reducible apply r_leI | with_reducible apply r_gtI | with_reducible apply r_geI
  | with_reducible apply r_isN | with_reducible apply r_isnN | with_reducible apply c_intI | with_reducible apply c_intB | with_reducible apply v_lst | with_reducible apply m_tup | ((with_reducible apply g_le); refine ⟨Nat.le_of_ble_eq_true rfl, ?_⟩) | with_reducible apply v_sl | with_reducible apply v_dnew
  | ((with_reducible apply g_dget); refine m_dget ?_) | refine get_str rfl rfl ?_
  | with_reducible apply m_fld | with_reducible apply m_con | refine ⟨_, _, _, rfl, by walk_at "fd", rfl, ?_⟩
  | ((with_reducible apply g_fn); first | refine m_fn wr0 ?_ | refine m_fn (by assumption) ?_ | refine m_fnP ?_ rfl)
  | ((with_reducible apply g_nw); refine m_nw wr0 ?_) | ((with_reducible apply g_ownGet); refine m_ownGet wr0 ?_) | ((with_reducible apply g_ownIn); refine r_ownIn ?_)
  | ((with_reducible apply g_inS); first | refine r_inStrs rfl ?_ | refine r_inStrsT rfl ?_ | refine r_ninStrsT rfl ?_) | ((with_reducible apply g_len); first | refine c_lenL rfl ?_ | refine c_lenT rfl ?_ | refine c_lenD rfl ?_)
  | ((with_reducible apply g_list); first | refine c_listv (.inl rfl) ?_ | refine c_listv (.inr rfl) ?_) | ((with_reducible apply g_tupU); first | refine c_tupleL rfl ?_ | refine c_tupleT ?_) | ((with_reducible apply g_pr); refine m_pr ?_) | refine ⟨_, _, _, rfl, by walk_at "cl", by walk_at "pr", ?_⟩ | refine ⟨_, rfl, ?_⟩ | fail))
local macro_rules | `(tactic| walk_at "me") => `(tactic| repeat' (first
  | ((with_reducible apply g_var); first | refine m_var rfl ?_ | refine m_varS rfl ?_)
  | with_reducible apply m_cI | with_reducible apply m_cS | with_reducible apply m_cB | with_reducible apply m_cN | with_reducible apply m_cC | with_reducible apply m_cT
  | with_reducible apply m_op | with_reducible apply m_cb | with_reducible apply m_nil | with_reducible apply m_cons | with_reducible apply m_test | with_reducible apply m_B | with_reducible apply q_bl
  | with_reducible apply m_and | with_reducible apply m_or | with_reducible apply m_not | with_reducible apply m_andV | with_reducible apply m_orV | with_reducible apply m_notV | with_reducible apply m_ife | with_reducible apply m_chain
  | with_reducible apply q_v | ((with_reducible apply g_slot); refine q_own rfl ?_) | with_reducible apply q_n | with_reducible apply q_c | with_reducible apply q_t | with_reducible apply q_f | with_reducible apply m_yes
  | with_reducible apply r_addI | with_reducible apply r_subI | with_reducible apply r_eqI | with_reducible apply r_neI | with_reducible apply r_eqS | with_reducible apply r_neS | with_reducible apply r_ltI | with_reducible apply r_leI | with_reducible apply r_gtI | with_reducible apply r_geI
  | with_reducible apply r_isN | with_reducible apply r_isnN | with_reducible apply c_intI | with_reducible apply c_intB | with_reducible apply v_lst | with_reducible apply m_tup | ((with_reducible apply g_le); refine ⟨Nat.le_of_ble_eq_true rfl, ?_⟩) | with_reducible apply v_sl | with_reducible apply v_dnew
  | ((with_reducible apply g_dget); refine m_dget ?_) | refine get_str rfl rfl ?_
  | with_reducible apply m_fld | with_reducible apply m_con | refine ⟨_, _, _, rfl, by walk_at "fd", rfl, ?_⟩
  | ((with_reducible apply g_fn); first | refine m_fn wr0 ?_ | refine m_fn (by assumption) ?_ | refine m_fnP ?_ rfl)
  | ((with_reducible apply g_nw); refine m_nw wr0 ?_) | ((with_reducible apply g_ownGet); refine m_ownGet wr0 ?_) | ((with_reducible apply g_ownIn); refine r_ownIn ?_)
  | ((with_reducible apply g_inS); first | refine r_inStrs rfl ?_ | refine r_inStrsT rfl ?_ | refine r_ninStrsT rfl ?_) | ((with_reducible apply g_len); first | refine c_lenL rfl ?_ | refine c_lenT rfl ?_ | refine c_lenD rfl ?_)
  | ((with_reducible apply g_list); first | refine c_listv (.inl rfl) ?_ | refine c_listv (.inr rfl) ?_) | ((with_reducible apply g_tupU); first | refine c_tupleL rfl ?_ | refine c_tupleT ?_) | ((with_reducible apply g_pr); refine m_pr ?_) | refine ⟨_, _, _, rfl, by walk_at "cl", by walk_at "pr", ?_⟩ | refine ⟨_, rfl, ?_⟩ | fail))
local macro_rules | `(tactic| walk_at "fd") => `(tactic| first | exact (fr_fld (by assumption)).1 | exact (fr_fld (by assumption)).2.1 | exact (fr_fld (by assumption)).2.2.1 | exact (fr_fld (by assumption)).2.2.2 | exact leg_fld (by assumption) _ | fail)
local macro_rules | `(tactic| walk_at "cl") => `(tactic| fail)
local macro_rules | `(tactic| walk_at "pr") => `(tactic| fail)
section
variable {K : PySem.W.Frag} {mg : Str → Option Value} {vs : List V} {H : Hp} {Q : VK} {E : XK}
theorem at5 (b0 b1 b2 b3 b4 : Bool) : atI ([b0, b1, b2, b3, b4].map D.bl) 0 = some (.bl b0) ∧ atI ([b0, b1, b2, b3, b4].map D.bl) 1 = some (.bl b1) ∧ atI ([b0, b1, b2, b3, b4].map D.bl) 2 = some (.bl b2) ∧ atI ([b0, b1, b2, b3, b4].map D.bl) 3 = some (.bl b3) ∧ atI ([b0, b1, b2, b3, b4].map D.bl) 4 = some (.bl b4) := ⟨rfl, rfl, rfl, rfl, rfl⟩
theorem rail_odd {e : D} (he : e ∈ [D.int 0, .int 1, .non, .str "", .str "ground", .tup [], .lst []]) : flatD e = true ∧ isBlD e = false := by
  simp only [List.mem_cons, List.not_mem_nil, or_false] at he
  rcases he with rfl | rfl | rfl | rfl | rfl | rfl | rfl <;> exact ⟨rfl, rfl⟩
theorem top_odd {e : D} (he : e ∈ [D.int 0, .int 4, .int (-1), .bl true, .non, .str "1", .tup [.int 1], .int (10 ^ (30 : Int).toNat)]) : flatD e = true ∧ btw 1 3 e = false := by
  simp only [List.mem_cons, List.not_mem_nil, or_false] at he
  rcases he with rfl | rfl | rfl | rfl | rfl | rfl | rfl | rfl <;> exact ⟨rfl, by decide⟩
theorem dr7_ok (T : Tx K mg) {o : Hp} {w : Option V} {F0 : Hp} {n n0 : Nat} {s2 s4 s5 s6 s9 s10 s11 : Sl} {b0 b1 b2 b3 b4 x y : Bool} {es : List D} {top : D} {Qd : D → Nat → Prop} (hm10 : s10.mut = false) (hm11 : s11.mut = false)
    (hL : Legs3 b0 b1 b2 es) (h1 : flatD top = true) (ht : btw 1 3 top = !b3) (hn : n ≤ n0 + 58) (h0 : n0 < 90000)
    (q : ∀ es top rg rp n2, Asked es top rg rp → es.length ≤ 60 → n2 ≤ n0 + 60 → Qd (.tup [.lst es, top, .lst [rg, rp], outF (faultOf es top rg rp)]) n2) :
    Ms K ⟨o, w, TB K⟩ F0 (dr7 K) [.pen n, .own (.lst es), s2, .val (.lst ([b0, b1, b2, b3, b4].map D.bl)), s4, s5, s6, .val top, .own (.lst [.bl x, .bl y]), s9, s10, s11] (drN Qd) := by
  refine ms_seq (ms_if (m_B (m_op (m_var rfl (m_cI (r_ixL (i := 4) rfl (at5 b0 b1 b2 b3 b4).2.2.2.2 (q_bl ?_)))))))
  cases b4 with
  | false => exact q_f (ms_next (dr8_ok T hm10 hm11 hL h1 rfl rfl ht rfl (by omega) q))
  | true =>
    refine q_t (ms_setL rfl (m_fnP ?_ rfl))
    walk_at "me"
    refine ⟨_, .inl rfl, by omega, (fun z => nomatch z), Nat.le_of_ble_eq_true rfl, fun e he => ?_⟩
    obtain ⟨r1, r2⟩ := rail_odd he
    refine q_v (m_fnP (m_cons (m_cI (m_nil ⟨n + 1, rfl, 2, rfl, by omega, by decide, by decide, fun t t0 t1 => ?_⟩))) rfl)
    have ht2 : t = 0 ∨ t = 1 := by omega
    rcases ht2 with rfl | rfl
    · exact ⟨0, 0, _, rfl, rfl, rfl, dr8_ok T hm10 hm11 hL h1 r1 rfl ht (by rw [r2]; rfl) (by omega) q⟩
    · exact ⟨1, 1, _, rfl, rfl, rfl, dr8_ok T hm10 hm11 hL h1 rfl r1 ht (by rw [r2, Bool.and_false]; rfl) (by omega) q⟩
theorem dr6_ok (T : Tx K mg) {o : Hp} {w : Option V} {F0 : Hp} {n n0 : Nat} {s2 s4 s5 s6 s8 s9 s10 s11 : Sl} {b0 b1 b2 b3 b4 : Bool} {es : List D} {top : D} {Qd : D → Nat → Prop} (hm10 : s10.mut = false) (hm11 : s11.mut = false)
    (hL : Legs3 b0 b1 b2 es) (h1 : flatD top = true) (ht : btw 1 3 top = !b3) (hn : n ≤ n0 + 56) (h0 : n0 < 90000)
    (q : ∀ es top rg rp n2, Asked es top rg rp → es.length ≤ 60 → n2 ≤ n0 + 60 → Qd (.tup [.lst es, top, .lst [rg, rp], outF (faultOf es top rg rp)]) n2) :
    Ms K ⟨o, w, TB K⟩ F0 (dr6 K) [.pen n, .own (.lst es), s2, .val (.lst ([b0, b1, b2, b3, b4].map D.bl)), s4, s5, s6, .val top, s8, s9, s10, s11] (drN Qd) := by
  refine ms_seq (s_asgF (mf_lst (m_cons (m_op (m_fnP (m_cons (m_cI (m_nil ⟨n, rfl, 2, rfl, by omega, by decide, by decide, fun t t0 t1 => ?_⟩))) rfl)))))
  refine m_cI (r_eqI (m_cons (m_op (m_fnP (m_cons (m_cI (m_nil ⟨n + 1, rfl, 2, rfl, by omega, by decide, by decide, fun u u0 u1 => ?_⟩))) rfl))))
  refine m_cI (r_eqI (m_nil (q_c (q_v (q_c (q_v (q_n ⟨Nat.le_of_ble_eq_true rfl, by show 8 < 12; decide, ?_⟩)))))))
  exact dr7_ok T hm10 hm11 hL h1 ht (by omega) h0 q
theorem dr5_ok (T : Tx K mg) {o : Hp} {w : Option V} {F0 : Hp} {n n0 : Nat} {s2 s4 s5 s6 s7 s8 s9 s10 s11 : Sl} {b0 b1 b2 b3 b4 : Bool} {es : List D} {Qd : D → Nat → Prop} (hm10 : s10.mut = false) (hm11 : s11.mut = false)
    (hL : Legs3 b0 b1 b2 es) (hn : n ≤ n0 + 55) (h0 : n0 < 90000)
    (q : ∀ es top rg rp n2, Asked es top rg rp → es.length ≤ 60 → n2 ≤ n0 + 60 → Qd (.tup [.lst es, top, .lst [rg, rp], outF (faultOf es top rg rp)]) n2) :
    Ms K ⟨o, w, TB K⟩ F0 (dr5 K) [.pen n, .own (.lst es), s2, .val (.lst ([b0, b1, b2, b3, b4].map D.bl)), s4, s5, s6, s7, s8, s9, s10, s11] (drN Qd) := by
  refine ms_seq (s_asg (m_ife (m_B (m_op (m_var rfl (m_cI (r_ixL (i := 3) rfl (at5 b0 b1 b2 b3 b4).2.2.2.1 (q_bl ?_))))))))
  cases b3 with
  | true =>
    refine q_t (m_fnP ?_ rfl)
    walk_at "me"
    refine m_neg (m_cI ⟨1, rfl, ?_⟩)
    walk_at "me"
    refine r_pow (i := 10) (j := 30) ⟨by decide, by decide, by decide⟩ ?_
    walk_at "me"
    refine ⟨_, .inl rfl, by omega, (fun z => nomatch z), Nat.le_of_ble_eq_true rfl, fun e he => ?_⟩
    obtain ⟨r1, r2⟩ := top_odd he
    exact q_v (dr6_ok T hm10 hm11 hL r1 (by rw [r2]; rfl) (by omega) h0 q)
  | false =>
    refine q_f (m_op (m_cI (m_fnP (m_cons (m_cI (m_nil ⟨n, rfl, 3, rfl, by omega, by decide, by decide, fun t t0 t1 => ?_⟩))) rfl)))
    refine r_addI (q_v ?_)
    exact dr6_ok T hm10 hm11 hL rfl (by show (decide ((1 : Int) ≤ 1 + t) && decide (1 + t ≤ 3)) = true; rw [decide_eq_true (by omega), decide_eq_true (by omega)]; rfl) (by omega) h0 q
end

end K04

namespace K04
open PySem PySem.Spec PyProof.Rows L2 He SJ
open LamX (CodeO lamS_by Tabs tLam)
local macro_rules | `(tactic| walk_at "mr") => `(tactic| repeat' (first
  | with_reducible apply ms_seq | with_reducible apply ms_if | with_reducible apply ms_ret | with_reducible apply ms_next | with_reducible apply s_asg
  | ((with_reducible apply g_var); first | refine m_var rfl ?_ | refine m_varS rfl ?_)
  | with_reducible apply m_cI | with_reducible apply m_cS | with_reducible apply m_cB | with_reducible apply m_cN | with_reducible apply m_cC | with_reducible apply m_cT
  | with_reducible apply m_op | with_reducible apply m_cb | with_reducible apply m_nil | with_reducible apply m_cons | with_reducible apply m_test | with_reducible apply m_B | with_reducible apply q_bl
  | with_reducible apply m_and | with_reducible apply m_or | with_reducible apply m_not | with_reducible apply m_andV | with_reducible apply m_orV | with_reducible apply m_notV | with_reducible apply m_ife | with_reducible apply m_chain
  | with_reducible apply q_v | ((with_reducible apply g_slot); refine q_own rfl ?_) | with_reducible apply q_n | with_reducible apply q_c | with_reducible apply q_t | with_reducible apply q_f | with_reducible apply m_yes
  | with_reducible apply r_addI | with_reducible apply r_subI | with_reducible apply r_eqI | with_reducible apply r_neI | with_reducible apply r_eqS | with_reducible apply r_neS | with_reducible apply r_ltI | with_reducible apply r_leI | with_reducible apply r_gtI | with_reducible apply r_geI
  | with_reducible apply r_isN | with_reducible apply r_isnN | with_reducible apply c_intI | with_reducible apply c_intB | with_reducible apply v_lst | with_reducible apply m_tup | ((with_reducible apply g_le); refine ⟨Nat.le_of_ble_eq_true rfl, ?_⟩) | with_reducible apply v_sl | with_reducible apply v_dnew
  | ((with_reducible apply g_dget); refine m_dget ?_) | refine get_str rfl rfl ?_
  | with_reducible apply m_fld | with_reducible apply m_con | refine ⟨_, _, _, rfl, by walk_at "fd", rfl, ?_⟩
  | ((with_reducible apply g_fn); first | refine m_fn wr0 ?_ | refine m_fn (by assumption) ?_ | refine m_fnP ?_ rfl)
  | ((with_reducible apply g_nw); refine m_nw wr0 ?_) | ((with_reducible apply g_ownGet); refine m_ownGet wr0 ?_) | ((with_reducible apply g_ownIn); refine r_ownIn ?_)
  | ((with_reducible apply g_inS); first | refine r_inStrs rfl ?_ | refine r_inStrsT rfl ?_ | refine r_ninStrsT rfl ?_) | ((with_reducible apply g_len); first | refine c_lenL rfl ?_ | refine c_lenT rfl ?_ | refine c_lenD rfl ?_)
  | ((with_reducible apply g_list); first | refine c_listv (.inl rfl) ?_ | refine c_listv (.inr rfl) ?_) | ((with_reducible apply g_tupU); first | refine c_tupleL rfl ?_ | refine c_tupleT ?_) | ((with_reducible apply g_pr); refine m_pr ?_) | refine ⟨_, _, _, rfl, by walk_at "cl", by walk_at "pr", ?_⟩ | refine ⟨_, rfl, ?_⟩ | fail))
local macro_rules | `(tactic| walk_at "me") => `(tactic| repeat' (first
  | ((with_reducible apply g_var); first | refine m_var rfl ?_ | refine m_varS rfl ?_)
  | with_reducible apply m_cI | with_reducible apply m_cS | with_reducible apply m_cB | with_reducible apply m_cN | with_reducible apply m_cC | with_reducible apply m_cT
  | with_reducible apply m_op | with_reducible apply m_cb | with_reducible apply m_nil | with_reducible apply m_cons | with_reducible apply m_test | with_reducible apply m_B | with_reducible apply q_bl
  | with_reducible apply m_and | with_reducible apply m_or | with_reducible apply m_not | with_reducible apply m_andV | with_reducible apply m_orV | with_reducible apply m_notV | with_reducible apply m_ife | with_reducible apply m_chain
  | with_reducible apply q_v | ((with_reducible apply g_slot); refine q_own rfl ?_) | with_reducible apply q_n | with_reducible apply q_c | with_reducible apply q_t | with_reducible apply q_f | with_reducible apply m_yes
  | with_reducible apply r_addI | with_reducible apply r_subI | with_reducible apply r_eqI | with_reducible apply r_neI | with_reducible apply r_eqS | with_reducible apply r_neS | with_reducible apply r_ltI | with_reducible apply r_leI | with_reducible apply r_gtI | with_reducible apply r_geI
  | with_reducible apply r_isN | with_reducible apply r_isnN | with_reducible apply c_intI | with_reducible apply c_intB | with_reducible apply v_lst | with_reducible apply m_tup | ((with_reducible apply g_le); refine ⟨Nat.le_of_ble_eq_true rfl, ?_⟩) | with_reducible apply v_sl | with_reducible apply v_dnew
  | ((with_reducible apply g_dget); refine m_dget ?_) | refine get_str rfl rfl ?_
  | with_reducible apply m_fld | with_reducible apply m_con | refine ⟨_, _, _, rfl, by walk_at "fd", rfl, ?_⟩
  | ((with_reducible apply g_fn); first | refine m_fn wr0 ?_ | refine m_fn (by assumption) ?_ | refine m_fnP ?_ rfl)
  | ((with_reducible apply g_nw); refine m_nw wr0 ?_) | ((with_reducible apply g_ownGet); refine m_ownGet wr0 ?_) | ((with_reducible apply g_ownIn); refine r_ownIn ?_)
  | ((with_reducible apply g_inS); first | refine r_inStrs rfl ?_ | refine r_inStrsT rfl ?_ | refine r_ninStrsT rfl ?_) | ((with_reducible apply g_len); first | refine c_lenL rfl ?_ | refine c_lenT rfl ?_ | refine c_lenD rfl ?_)
  | ((with_reducible apply g_list); first | refine c_listv (.inl rfl) ?_ | refine c_listv (.inr rfl) ?_) | ((with_reducible apply g_tupU); first | refine c_tupleL rfl ?_ | refine c_tupleT ?_) | ((with_reducible apply g_pr); refine m_pr ?_) | refine ⟨_, _, _, rfl, by walk_at "cl", by walk_at "pr", ?_⟩ | refine ⟨_, rfl, ?_⟩ | fail))
local macro_rules | `(tactic| walk_at "fd") => `(tactic| first | exact (fr_fld (by assumption)).1 | exact (fr_fld (by assumption)).2.1 | exact (fr_fld (by assumption)).2.2.1 | exact (fr_fld (by assumption)).2.2.2 | exact leg_fld (by assumption) _ | fail)
local macro_rules | `(tactic| walk_at "cl") => `(tactic| fail)
local macro_rules | `(tactic| walk_at "pr") => `(tactic| fail)
section
variable {K : PySem.W.Frag} {mg : Str → Option Value} {vs : List V} {H : Hp} {Q : VK} {E : XK}
theorem leg_odd {e : D} (he : e ∈ [D.non, .str "a", .obj "Leg" [("name", .str "zz")], .int 1, .tup [], .str "driver a"]) : AnyD e ∧ isLegD e = false := by
  simp only [List.mem_cons, List.not_mem_nil, or_false] at he
  rcases he with rfl | rfl | rfl | rfl | rfl | rfl
  · exact ⟨trivial, rfl⟩
  · exact ⟨trivial, rfl⟩
  · exact ⟨⟨.inl rfl, "zz", rfl, by decide⟩, rfl⟩
  · exact ⟨trivial, rfl⟩
  · exact ⟨trivial, rfl⟩
  · exact ⟨trivial, rfl⟩
theorem dr4_ok (T : Tx K mg) {o : Hp} {w : Option V} {F0 : Hp} {n n0 : Nat} {s2 s4 s5 s6 s7 s8 s9 s10 s11 : Sl} {b0 b1 b2 b3 b4 : Bool} {es : List D} {Qd : D → Nat → Prop} (hm10 : s10.mut = false) (hm11 : s11.mut = false)
    (hL : Legs3 false b1 b2 es) (hl : es.length ≤ 59) (hn : n ≤ n0 + 53) (h0 : n0 < 90000)
    (q : ∀ es top rg rp n2, Asked es top rg rp → es.length ≤ 60 → n2 ≤ n0 + 60 → Qd (.tup [.lst es, top, .lst [rg, rp], outF (faultOf es top rg rp)]) n2) :
    Ms K ⟨o, w, TB K⟩ F0 (dr4 K) [.pen n, .own (.lst es), s2, .val (.lst ([b0, b1, b2, b3, b4].map D.bl)), s4, s5, s6, s7, s8, s9, s10, s11] (drN Qd) := by
  refine ms_seq (ms_if (m_B (m_op (m_var rfl (m_cI (r_ixL (i := 0) rfl (at5 b0 b1 b2 b3 b4).1 (q_bl ?_)))))))
  cases b0 with
  | false => exact q_f (ms_next (dr5_ok T hm10 hm11 hL (by omega) h0 q))
  | true =>
    refine q_t (ms_seq (s_asg (m_fnP ?_ rfl)))
    walk_at "me"
    refine .inr ⟨"zz", rfl, rfl, dbl_ok.2.2.2.2.1, dbl_ok.2.2.2.1, ?_⟩
    walk_at "me"
    refine ⟨_, .inl rfl, by omega, (fun z => nomatch z), Nat.le_of_ble_eq_true rfl, fun e he => ?_⟩
    obtain ⟨r1, r2⟩ := leg_odd he
    refine q_v (ms_insert rfl (m_fnP (m_cons (m_op (m_cb (m_cons (m_varS rfl (m_nil (c_lenL rfl (m_cI (r_addI (m_nil ⟨n + 1, rfl, (es.length : Int) + 1, rfl, by omega, by omega, by omega, fun t t0 t1 => ?_⟩)))))))))) rfl))
    exact m_var rfl (q_v ⟨t, es, rfl, rfl, by omega, t0, by omega, dr5_ok T hm10 hm11 (legs3_odd hL hl r1 r2 t.toNat) (by omega) h0 q⟩)
def E0 (zs : List Str) : List Lg := zs.map fun z => ⟨true, z⟩
theorem dr3_ok (T : Tx K mg) {o : Hp} {w : Option V} {F0 : Hp} {n n0 : Nat} {s2 s4 s5 s6 s7 s8 s9 s10 s11 : Sl} {b0 b1 b2 b3 b4 : Bool} {zs : List Str} {Qd : D → Nat → Prop} (hm10 : s10.mut = false) (hm11 : s11.mut = false)
    (hz : zs.length ≤ 3) (hnd : zs.Nodup) (hp : ∀ z ∈ zs, z ∈ pool) (hn : n ≤ n0 + 53) (h0 : n0 < 90000)
    (q : ∀ es top rg rp n2, Asked es top rg rp → es.length ≤ 60 → n2 ≤ n0 + 60 → Qd (.tup [.lst es, top, .lst [rg, rp], outF (faultOf es top rg rp)]) n2) :
    Ms K ⟨o, w, TB K⟩ F0 (dr3 K) [.pen n, .own (.lst ((E0 zs ++ (if b1 = true then L41 else [])).map legD)), s2, .val (.lst ([b0, b1, b2, b3, b4].map D.bl)), s4, s5, s6, s7, s8, s9, s10, s11] (drN Qd) := by
  obtain ⟨hL, hl⟩ := legs_drawn hz hnd hp b1 b2
  refine ms_seq (ms_if (m_B (m_op (m_var rfl (m_cI (r_ixL (i := 2) rfl (at5 b0 b1 b2 b3 b4).2.2.1 (q_bl ?_)))))))
  cases b2 with
  | false =>
    refine q_f (ms_next ?_)
    rw [if_neg Bool.false_ne_true, List.append_nil] at hL hl
    exact dr4_ok T hm10 hm11 hL (by rw [List.length_map]; exact hl) hn h0 q
  | true =>
    refine q_t (s_asgF (mf_cat ?_))
    walk_at "me"
    refine .inl ⟨true, _, rfl, rfl, dbl_ok.2.1, dbl_ok.1, ?_⟩
    walk_at "me"
    refine .inl ⟨false, _, rfl, rfl, dbl_ok.2.1, dbl_ok.1, ?_⟩
    walk_at "me"
    rw [if_pos rfl] at hL hl
    rw [List.map_append] at hL
    rw [List.length_append] at hl
    have hl2 : (E0 zs ++ (if b1 = true then L41 else [])).length + 2 ≤ 59 := hl
    refine ⟨_, _, rfl, rfl, by rw [List.length_map]; show _ + 2 ≤ 10000; omega, by show 1 < 12; decide, ?_⟩
    exact dr4_ok T hm10 hm11 hL (by rw [List.length_append, List.length_map]; exact hl2) hn h0 q
end

end K04

namespace K04
open PySem PySem.Spec PyProof.Rows L2 He SJ
open LamX (CodeO lamS_by Tabs tLam)
local macro_rules | `(tactic| walk_at "mr") => `(tactic| repeat' (first
  | with_reducible apply ms_seq | with_reducible apply ms_if | with_reducible apply ms_ret | with_reducible apply ms_next | with_reducible apply s_asg
  | ((with_reducible apply g_var); first | refine m_var rfl ?_ | refine m_varS rfl ?_)
  | with_reducible apply m_cI | with_reducible apply m_cS | with_reducible apply m_cB | with_reducible apply m_cN | with_reducible apply m_cC | with_reducible apply m_cT
  | with_reducible apply m_op | with_reducible apply m_cb | with_reducible apply m_nil | with_reducible apply m_cons | with_reducible apply m_test | with_reducible apply m_B | with_reducible apply q_bl
  | with_reducible apply m_and | with_reducible apply m_or | with_reducible apply m_not | with_reducible apply m_andV | with_reducible apply m_orV | with_reducible apply m_notV | with_reducible apply m_ife | with_reducible apply m_chain
  | with_reducible apply q_v | ((with_reducible apply g_slot); refine q_own rfl ?_) | with_reducible apply q_n | with_reducible apply q_c | with_reducible apply q_t | with_reducible apply q_f | with_reducible apply m_yes
  | with_reducible apply r_addI | with_reducible apply r_subI | with_reducible apply r_eqI | with_reducible apply r_neI | with_reducible apply r_eqS | with_reducible apply r_neS | with_reducible apply r_ltI | with_reducible apply r_leI | with_reducible apply r_gtI | with_reducible apply r_geI
  | with_reducible apply r_isN | with_reducible apply r_isnN | with_reducible apply c_intI | with_reducible apply c_intB | with_reducible apply v_lst | with_reducible apply m_tup | ((with_reducible apply g_le); refine ⟨Nat.le_of_ble_eq_true rfl, ?_⟩) | with_reducible apply v_sl | with_reducible apply v_dnew
  | ((with_reducible apply g_dget); refine m_dget ?_) | refine get_str rfl rfl ?_
  | with_reducible apply m_fld | with_reducible apply m_con | refine ⟨_, _, _, rfl, by walk_at "fd", rfl, ?_⟩
  | ((with_reducible apply g_fn); first | refine m_fn wr0 ?_ | refine m_fn (by assumption) ?_ | refine m_fnP ?_ rfl)
  | ((with_reducible apply g_nw); refine m_nw wr0 ?_) | ((with_reducible apply g_ownGet); refine m_ownGet wr0 ?_) | ((with_reducible apply g_ownIn); refine r_ownIn ?_)
  | ((with_reducible apply g_inS); first | refine r_inStrs rfl ?_ | refine r_inStrsT rfl ?_ | refine r_ninStrsT rfl ?_) | ((with_reducible apply g_len); first | refine c_lenL rfl ?_ | refine c_lenT rfl ?_ | refine c_lenD rfl ?_)
  | ((with_reducible apply g_list); first | refine c_listv (.inl rfl) ?_ | refine c_listv (.inr rfl) ?_) | ((with_reducible apply g_tupU); first | refine c_tupleL rfl ?_ | refine c_tupleT ?_) | ((with_reducible apply g_pr); refine m_pr ?_) | refine ⟨_, _, _, rfl, by walk_at "cl", by walk_at "pr", ?_⟩ | refine ⟨_, rfl, ?_⟩ | fail))
local macro_rules | `(tactic| walk_at "me") => `(tactic| repeat' (first
  | ((with_reducible apply g_var); first | refine m_var rfl ?_ | refine m_varS rfl ?_)
  | with_reducible apply m_cI | with_reducible apply m_cS | with_reducible apply m_cB | with_reducible apply m_cN | with_reducible apply m_cC | with_reducible apply m_cT
  | with_reducible apply m_op | with_reducible apply m_cb | with_reducible apply m_nil | with_reducible apply m_cons | with_reducible apply m_test | with_reducible apply m_B | with_reducible apply q_bl
  | with_reducible apply m_and | with_reducible apply m_or | with_reducible apply m_not | with_reducible apply m_andV | with_reducible apply m_orV | with_reducible apply m_notV | with_reducible apply m_ife | with_reducible apply m_chain
  | with_reducible apply q_v | ((with_reducible apply g_slot); refine q_own rfl ?_) | with_reducible apply q_n | with_reducible apply q_c | with_reducible apply q_t | with_reducible apply q_f | with_reducible apply m_yes
  | with_reducible apply r_addI | with_reducible apply r_subI | with_reducible apply r_eqI | with_reducible apply r_neI | with_reducible apply r_eqS | with_reducible apply r_neS | with_reducible apply r_ltI | with_reducible apply r_leI | with_reducible apply r_gtI | with_reducible apply r_geI
  | with_reducible apply r_isN | with_reducible apply r_isnN | with_reducible apply c_intI | with_reducible apply c_intB | with_reducible apply v_lst | with_reducible apply m_tup | ((with_reducible apply g_le); refine ⟨Nat.le_of_ble_eq_true rfl, ?_⟩) | with_reducible apply v_sl | with_reducible apply v_dnew
  | ((with_reducible apply g_dget); refine m_dget ?_) | refine get_str rfl rfl ?_
  | with_reducible apply m_fld | with_reducible apply m_con | refine ⟨_, _, _, rfl, by walk_at "fd", rfl, ?_⟩
  | ((with_reducible apply g_fn); first | refine m_fn wr0 ?_ | refine m_fn (by assumption) ?_ | refine m_fnP ?_ rfl)
  | ((with_reducible apply g_nw); refine m_nw wr0 ?_) | ((with_reducible apply g_ownGet); refine m_ownGet wr0 ?_) | ((with_reducible apply g_ownIn); refine r_ownIn ?_)
  | ((with_reducible apply g_inS); first | refine r_inStrs rfl ?_ | refine r_inStrsT rfl ?_ | refine r_ninStrsT rfl ?_) | ((with_reducible apply g_len); first | refine c_lenL rfl ?_ | refine c_lenT rfl ?_ | refine c_lenD rfl ?_)
  | ((with_reducible apply g_list); first | refine c_listv (.inl rfl) ?_ | refine c_listv (.inr rfl) ?_) | ((with_reducible apply g_tupU); first | refine c_tupleL rfl ?_ | refine c_tupleT ?_) | ((with_reducible apply g_pr); refine m_pr ?_) | refine ⟨_, _, _, rfl, by walk_at "cl", by walk_at "pr", ?_⟩ | refine ⟨_, rfl, ?_⟩ | fail))
local macro_rules | `(tactic| walk_at "fd") => `(tactic| first | exact (fr_fld (by assumption)).1 | exact (fr_fld (by assumption)).2.1 | exact (fr_fld (by assumption)).2.2.1 | exact (fr_fld (by assumption)).2.2.2 | exact leg_fld (by assumption) _ | fail)
local macro_rules | `(tactic| walk_at "cl") => `(tactic| fail)
local macro_rules | `(tactic| walk_at "pr") => `(tactic| fail)
section
variable {K : PySem.W.Frag} {mg : Str → Option Value} {vs : List V} {H : Hp} {Q : VK} {E : XK}
def mk41 : D → D
  | .int i => legD ⟨false, nmk i.toNat⟩
  | d => d
theorem ix7 : ∀ j, (j < 6 → ("abcdef" : Str).cps.toList[j]? = some (97 + j)) ∧ (j < 7 → ("stuvwxy" : Str).cps.toList[j]? = some (115 + j)) := by
  intro j
  constructor
  · intro h
    have : j = 0 ∨ j = 1 ∨ j = 2 ∨ j = 3 ∨ j = 4 ∨ j = 5 := by omega
    rcases this with rfl | rfl | rfl | rfl | rfl | rfl <;> rfl
  · intro h
    have : j = 0 ∨ j = 1 ∨ j = 2 ∨ j = 3 ∨ j = 4 ∨ j = 5 ∨ j = 6 := by omega
    rcases this with rfl | rfl | rfl | rfl | rfl | rfl | rfl <;> rfl
theorem at_nat {xs : List Nat} {j e : Nat} (h : xs[j]? = some e) : atI xs ((j : Nat) : Int) = some e := by
  have hl : j < xs.length := (List.getElem?_eq_some_iff.mp h).1
  obtain ⟨v, h1, h2⟩ := atI_in (xs := xs) (i := (j : Int)) (by omega) (by omega)
  rw [Int.toNat_natCast, h] at h1
  cases h1
  exact h2
theorem map41 : ((rngD 0 (41 : Int).toNat).filter fun _ => true).map mk41 = L41.map legD := by
  rw [all_tt]
  unfold rngD L41
  rw [List.map_map, List.map_map]
  refine List.map_congr_left fun i _ => ?_
  show mk41 (.int (0 + (i : Int))) = legD ⟨false, nmk i⟩
  rw [Int.zero_add]
  rfl
theorem dr2_ok (T : Tx K mg) {o : Hp} {w : Option V} {F0 : Hp} {n n0 : Nat} {s2 s4 s5 s6 s7 s8 s9 s10 s11 : Sl} {b0 b1 b2 b3 b4 : Bool} {zs : List Str} {Qd : D → Nat → Prop} (hm5 : s5.mut = false) (hm10 : s10.mut = false) (hm11 : s11.mut = false)
    (hz : zs.length ≤ 3) (hnd : zs.Nodup) (hp : ∀ z ∈ zs, z ∈ pool) (hn : n ≤ n0 + 53) (h0 : n0 < 90000)
    (q : ∀ es top rg rp n2, Asked es top rg rp → es.length ≤ 60 → n2 ≤ n0 + 60 → Qd (.tup [.lst es, top, .lst [rg, rp], outF (faultOf es top rg rp)]) n2) :
    Ms K ⟨o, w, TB K⟩ F0 (dr2 K) [.pen n, .own (.lst ((E0 zs).map legD)), s2, .val (.lst ([b0, b1, b2, b3, b4].map D.bl)), s4, s5, s6, s7, s8, s9, s10, s11] (drN Qd) := by
  refine ms_seq (ms_if (m_B (m_op (m_var rfl (m_cI (r_ixL (i := 1) rfl (at5 b0 b1 b2 b3 b4).2.1 (q_bl ?_)))))))
  cases b1 with
  | false =>
    refine q_f (ms_next ?_)
    have := dr3_ok (b0 := b0) (b1 := false) (b2 := b2) (b3 := b3) (b4 := b4) (s2 := s2) (s4 := s4) (s5 := s5) (s6 := s6) (s7 := s7) (s8 := s8) (s9 := s9) (o := o) (w := w) (F0 := F0) T hm10 hm11 hz hnd hp hn h0 q
    rw [if_neg Bool.false_ne_true, List.append_nil] at this
    exact this
  | true =>
    refine q_t (s_asgF (mf_cat (m_varS rfl (v_lcM [5] (fun _ => true) mk41 (by decide) (by decide) (mi_rng1 (m_cons (m_cI (m_nil ⟨41, rfl, by decide, Nat.le_of_ble_eq_true rfl, one_free hm5, fun d hd oo ww => ?_, ?_⟩))))))))
    · obtain ⟨i, hi, rfl⟩ := List.mem_map.mp hd
      have hi : i < 41 := List.mem_range.mp hi
      rw [Int.zero_add]
      obtain ⟨n1, n2, _, _⟩ := nmk_ok i hi
      have a1 : atI ("abcdef" : Str).cps.toList ((i : Int) / 7) = some (97 + i / 7) := by
        rw [show (i : Int) / 7 = ((i / 7 : Nat) : Int) by omega]
        exact at_nat ((ix7 (i / 7)).1 (by omega))
      have a2 : atI ("stuvwxy" : Str).cps.toList ((i : Int) % 7) = some (115 + i % 7) := by
        rw [show (i : Int) % 7 = ((i % 7 : Nat) : Int) by omega]
        exact at_nat ((ix7 (i % 7)).2 (by omega))
      refine mg_name ⟨rfl, rfl, m_yes ⟨rfl, rfl, fun _ => m_nw wr0 (m_cons ?_)⟩⟩
      walk_at "me"
      refine r_fdv (by decide) (by decide) (r_ixS (by decide) a1 (r_addS (Nat.le_of_ble_eq_true rfl) ?_))
      walk_at "me"
      refine r_mod (by decide) (r_ixS (by decide) a2 (r_addS (Nat.le_of_ble_eq_true rfl) (m_nil (.inl ⟨false, _, rfl, rfl, n2, n1, rfl, rfl⟩))))
    · rw [map41]
      have hz2 : (E0 zs).length ≤ 3 := by unfold E0; rw [List.length_map]; exact hz
      have h41 : L41.length = 41 := rfl
      refine ⟨_, _, rfl, rfl, by rw [List.length_map, List.length_map]; omega, by show 1 < 12; decide, ?_⟩
      have := dr3_ok (b0 := b0) (b1 := true) (b2 := b2) (b3 := b3) (b4 := b4) (s2 := s2) (s4 := s4) (s5 := s5) (s6 := s6) (s7 := s7) (s8 := s8) (s9 := s9) (o := o) (w := w) (F0 := F0) T hm10 hm11 hz hnd hp hn h0 q
      rw [if_pos rfl, List.map_append] at this
      exact this
end

end K04

namespace K04
open PySem PySem.Spec PyProof.Rows L2 He SJ
open LamX (CodeO lamS_by Tabs tLam)
local macro_rules | `(tactic| walk_at "mr") => `(tactic| repeat' (first
  | with_reducible apply ms_seq | with_reducible apply ms_if | with_reducible apply ms_ret | with_reducible apply ms_next | with_reducible apply s_asg
  | ((with_reducible apply g_var); first | refine m_var rfl ?_ | refine m_varS rfl ?_)
  | with_reducible apply m_cI | with_reducible apply m_cS | with_reducible apply m_cB | with_reducible apply m_cN | with_reducible apply m_cC | with_reducible apply m_cT
  | with_reducible apply m_op | with_reducible apply m_cb | with_reducible apply m_nil | with_reducible apply m_cons | with_reducible apply m_test | with_reducible apply m_B | with_reducible apply q_bl
  | with_reducible apply m_and | with_reducible apply m_or | with_reducible apply m_not | with_reducible apply m_andV | with_reducible apply m_orV | with_reducible apply m_notV | with_reducible apply m_ife | with_reducible apply m_chain
  | with_reducible apply q_v | ((with_reducible apply g_slot); refine q_own rfl ?_) | with_reducible apply q_n | with_reducible apply q_c | with_reducible apply q_t | with_reducible apply q_f | with_reducible apply m_yes
  | with_reducible apply r_addI | with_reducible apply r_subI | with_reducible apply r_eqI | with_reducible apply r_neI | with_reducible apply r_eqS | with_reducible apply r_neS | with_reducible apply r_ltI | with_reducible apply r_leI | with_reducible apply r_gtI | with_reducible apply r_geI
  | with_reducible apply r_isN | with_reducible apply r_isnN | with_reducible apply c_intI | with_reducible apply c_intB | with_reducible apply v_lst | with_reducible apply m_tup | ((with_reducible apply g_le); refine ⟨Nat.le_of_ble_eq_true rfl, ?_⟩) | with_reducible apply v_sl | with_reducible apply v_dnew
  | ((with_reducible apply g_dget); refine m_dget ?_) | refine get_str rfl rfl ?_
  | with_reducible apply m_fld | with_reducible apply m_con | refine ⟨_, _, _, rfl, by walk_at "fd", rfl, ?_⟩
  | ((with_reducible apply g_fn); first | refine m_fn wr0 ?_ | refine m_fn (by assumption) ?_ | refine m_fnP ?_ rfl)
  | ((with_reducible apply g_nw); refine m_nw wr0 ?_) | ((with_reducible apply g_ownGet); refine m_ownGet wr0 ?_) | ((with_reducible apply g_ownIn); refine r_ownIn ?_)
  | ((with_reducible apply g_inS); first | refine r_inStrs rfl ?_ | refine r_inStrsT rfl ?_ | refine r_ninStrsT rfl ?_) | ((with_reducible apply g_len); first | refine c_lenL rfl ?_ | refine c_lenT rfl ?_ | refine c_lenD rfl ?_)
  | ((with_reducible apply g_list); first | refine c_listv (.inl rfl) ?_ | refine c_listv (.inr rfl) ?_) | ((with_reducible apply g_tupU); first | refine c_tupleL rfl ?_ | refine c_tupleT ?_) | ((with_reducible apply g_pr); refine m_pr ?_) | refine ⟨_, _, _, rfl, by walk_at "cl", by walk_at "pr", ?_⟩ | refine ⟨_, rfl, ?_⟩ | fail))
local macro_rules | `(tactic| walk_at "me") => `(tactic| repeat' (first
  | ((with_reducible apply g_var); first | refine m_var rfl ?_ | refine m_varS rfl ?_)
  | with_reducible apply m_cI | with_reducible apply m_cS | with_reducible apply m_cB | with_reducible apply m_cN | with_reducible apply m_cC | with_reducible apply m_cT
  | with_reducible apply m_op | with_reducible apply m_cb | with_reducible apply m_nil | with_reducible apply m_cons | with_reducible apply m_test | with_reducible apply m_B | with_reducible apply q_bl
  | with_reducible apply m_and | with_reducible apply m_or | with_reducible apply m_not | with_reducible apply m_andV | with_reducible apply m_orV | with_reducible apply m_notV | with_reducible apply m_ife | with_reducible apply m_chain
  | with_reducible apply q_v | ((with_reducible apply g_slot); refine q_own rfl ?_) | with_reducible apply q_n | with_reducible apply q_c | with_reducible apply q_t | with_reducible apply q_f | with_reducible apply m_yes
  | with_reducible apply r_addI | with_reducible apply r_subI | with_reducible apply r_eqI | with_reducible apply r_neI | with_reducible apply r_eqS | with_reducible apply r_neS | with_reducible apply r_ltI | with_reducible apply r_leI | with_reducible apply r_gtI | with_reducible apply r_geI
  | with_reducible apply r_isN | with_reducible apply r_isnN | with_reducible apply c_intI | with_reducible apply c_intB | with_reducible apply v_lst | with_reducible apply m_tup | ((with_reducible apply g_le); refine ⟨Nat.le_of_ble_eq_true rfl, ?_⟩) | with_reducible apply v_sl | with_reducible apply v_dnew
  | ((with_reducible apply g_dget); refine m_dget ?_) | refine get_str rfl rfl ?_
  | with_reducible apply m_fld | with_reducible apply m_con | refine ⟨_, _, _, rfl, by walk_at "fd", rfl, ?_⟩
  | ((with_reducible apply g_fn); first | refine m_fn wr0 ?_ | refine m_fn (by assumption) ?_ | refine m_fnP ?_ rfl)
  | ((with_reducible apply g_nw); refine m_nw wr0 ?_) | ((with_reducible apply g_ownGet); refine m_ownGet wr0 ?_) | ((with_reducible apply g_ownIn); refine r_ownIn ?_)
  | ((with_reducible apply g_inS); first | refine r_inStrs rfl ?_ | refine r_inStrsT rfl ?_ | refine r_ninStrsT rfl ?_) | ((with_reducible apply g_len); first | refine c_lenL rfl ?_ | refine c_lenT rfl ?_ | refine c_lenD rfl ?_)
  | ((with_reducible apply g_list); first | refine c_listv (.inl rfl) ?_ | refine c_listv (.inr rfl) ?_) | ((with_reducible apply g_tupU); first | refine c_tupleL rfl ?_ | refine c_tupleT ?_) | ((with_reducible apply g_pr); refine m_pr ?_) | refine ⟨_, _, _, rfl, by walk_at "cl", by walk_at "pr", ?_⟩ | refine ⟨_, rfl, ?_⟩ | fail))
local macro_rules | `(tactic| walk_at "fd") => `(tactic| first | exact (fr_fld (by assumption)).1 | exact (fr_fld (by assumption)).2.1 | exact (fr_fld (by assumption)).2.2.1 | exact (fr_fld (by assumption)).2.2.2 | exact leg_fld (by assumption) _ | fail)
local macro_rules | `(tactic| walk_at "cl") => `(tactic| fail)
local macro_rules | `(tactic| walk_at "pr") => `(tactic| fail)
section
variable {K : PySem.W.Frag} {mg : Str → Option Value} {vs : List V} {H : Hp} {Q : VK} {E : XK}
def strT : D → D
  | .str z => legD ⟨true, z⟩
  | d => d
theorem strT_map (zs : List Str) : ((zs.map D.str).filter fun _ => true).map strT = (E0 zs).map legD := by
  rw [all_tt, List.map_map]
  unfold E0
  rw [List.map_map]
  rfl
theorem five {bs : List Bool} (h : bs.length = 5) : ∃ b0 b1 b2 b3 b4, bs = [b0, b1, b2, b3, b4] := by
  match bs, h with
  | [b0, b1, b2, b3, b4], _ => exact ⟨b0, b1, b2, b3, b4, rfl⟩
theorem wrong_ok (T : Tx K mg) {o : Hp} {w : Option V} {F0 : Hp} {n : Nat} {D1 : D} (hn : n < 95000) : Mf K ⟨o, w, TB K⟩ F0 (tLc (iRng1 (tCons (tC (.int 5)) tNil)) (gName 4) tYes (tOp (rEqU K) (tFn (sp_Ldraw K) [] W0 (tCons (tVar 0) (tCons (tC (.int 4)) tNil))) (tC (.int 0))) [4]) [.pen n, .own D1, .none, .none, .none, .none, .none, .none, .none, .none, .none, .none] fun d ρ => ∃ bs : List Bool, d = .lst (bs.map D.bl) ∧ bs.length = 5 ∧ ρ = [.pen (n + 5), .own D1, .none, .none, .none, .none, .none, .none, .none, .none, .none, .none] := by
  refine mf_lc [4] (by decide) (by decide) (mi_rng1 (m_cons (m_cI (m_nil ⟨5, rfl, by decide, ?_⟩))))
  have hl : (rngD 0 (5 : Int).toNat).length = 5 := rfl
  refine ⟨by decide, fun i acc ρ => ∃ bs : List Bool, acc = bs.map D.bl ∧ bs.length = i ∧ ρ = [.pen (n + i), .own D1, .none, .none, .none, .none, .none, .none, .none, .none, .none, .none], ⟨[], rfl, rfl, rfl⟩, fun i d acc ρ2 hd _ hI => ?_, fun acc ρ2 hI => ?_⟩
  · obtain ⟨bs, rfl, hb, rfl⟩ := hI
    have hi : i < 5 := by rw [← hl]; exact (List.getElem?_eq_some_iff.mp hd).1
    refine ⟨one_free rfl, fun oo ww => mg_name ⟨rfl, m_yes (q_t (m_op (m_fnP (m_cons (m_cI (m_nil ⟨n + i, rfl, 4, rfl, by omega, by decide, by decide, fun t t0 t1 => ?_⟩))) rfl)))⟩⟩
    exact m_cI (r_eqI (q_v ⟨rfl, bs ++ [decide (t = 0)], by rw [List.map_append]; rfl, by rw [List.length_append, hb]; rfl, rfl⟩))
  · obtain ⟨bs, rfl, hb, rfl⟩ := hI
    rw [hl] at hb ⊢
    exact ⟨bs, rfl, hb, rfl⟩
theorem pure_Ldrawn (T : Tx K mg) (h : sp_Ldrawn K vs H Q E) : t_Ldrawn K { nx := fun _ H2 => Q .non H2, rt := Q } (start ["_law_pen_here", "_law_legs_so", "_law_tag", "_law_wrong", "_law_turn", "_law_k", "_law_odd", "_law_far", "_law_rails_so", "_law_reasons", "_law_word", "_law_is_wrong"] vs) H := by
  refine body_pp h fun o w F0 n ds Qd ⟨e, hn, q⟩ => ?_
  subst e
  refine ms_seq (s_asgF (mf_lcM [2] (fun _ => true) strT (by decide) (by decide) (mi_list (m_fnP (m_cons (m_fnP (m_cons (m_cI (m_nil ⟨n, rfl, 4, rfl, by omega, by decide, by decide, fun r r0 r1 => ?_⟩))) rfl)) rfl))))
  obtain ⟨k, rfl⟩ := Int.eq_ofNat_of_zero_le r0
  refine m_nil ⟨n + 1, rfl, k, rfl, by omega, by omega, fun zs z1 z2 z3 => q_v (q_lst ⟨by rw [List.length_map]; omega, one_free rfl, fun d hd oo ww => ?_, ?_⟩)⟩
  · obtain ⟨z, hz, rfl⟩ := List.mem_map.mp hd
    obtain ⟨n1, n2⟩ := pool_name z (z3 z hz)
    exact mg_name ⟨rfl, rfl, m_yes ⟨rfl, rfl, fun _ => m_nw wr0 (m_cons (m_var rfl (m_nil (q_c (q_v (q_n (.inl ⟨true, z, rfl, rfl, Nat.le_trans n2 (by decide), n1, rfl, rfl⟩)))))))⟩⟩
  rw [strT_map]
  refine ⟨by show 1 < 12; decide, ?_⟩
  refine ms_seq (s_asg (m_f ?_))
  refine fun F H σ Qh s R c => wrong_ok T (n := n + 1 + k) (by omega) F H σ Qh s R fun p H2 F2 d ρ2 s2 R2 nw ⟨bs, ed, hb, er⟩ => c p H2 F2 d ρ2 s2 R2 nw ?_
  subst ed er
  obtain ⟨b0, b1, b2, b3, b4, rfl⟩ := five hb
  exact q_v (dr2_ok (n0 := n) T rfl rfl rfl (by omega) z2 z3 (by omega) hn q)
end

end K04

namespace K04
open PySem PySem.Spec PyProof.Rows L2 He SJ
open LamX (CodeO lamS_by Tabs tLam)
local macro_rules | `(tactic| walk_at "mr") => `(tactic| repeat' (first
  | with_reducible apply ms_seq | with_reducible apply ms_if | with_reducible apply ms_ret | with_reducible apply ms_next | with_reducible apply s_asg
  | ((with_reducible apply g_var); first | refine m_var rfl ?_ | refine m_varS rfl ?_)
  | with_reducible apply m_cI | with_reducible apply m_cS | with_reducible apply m_cB | with_reducible apply m_cN | with_reducible apply m_cC | with_reducible apply m_cT
  | with_reducible apply m_op | with_reducible apply m_cb | with_reducible apply m_nil | with_reducible apply m_cons | with_reducible apply m_test | with_reducible apply m_B | with_reducible apply q_bl
  | with_reducible apply m_and | with_reducible apply m_or | with_reducible apply m_not | with_reducible apply m_andV | with_reducible apply m_orV | with_reducible apply m_notV | with_reducible apply m_ife | with_reducible apply m_chain
  | with_reducible apply q_v | ((with_reducible apply g_slot); refine q_own rfl ?_) | with_reducible apply q_n | with_reducible apply q_c | with_reducible apply q_t | with_reducible apply q_f | with_reducible apply m_yes
  | with_reducible apply r_addI | with_reducible apply r_subI | with_reducible apply r_eqI | with_reducible apply r_neI | with_reducible apply r_eqS | with_reducible apply r_neS | with_reducible apply r_ltI | with_reducible apply r_leI | with_reducible apply r_gtI | with_reducible apply r_geI
  | with_reducible apply r_isN | with_reducible apply r_isnN | with_reducible apply c_intI | with_reducible apply c_intB | with_reducible apply v_lst | with_reducible apply m_tup | ((with_reducible apply g_le); refine ⟨Nat.le_of_ble_eq_true rfl, ?_⟩) | with_reducible apply v_sl | with_reducible apply v_dnew
  | ((with_reducible apply g_dget); refine m_dget ?_) | refine get_str rfl rfl ?_
  | with_reducible apply m_fld | with_reducible apply m_con | refine ⟨_, _, _, rfl, by walk_at "fd", rfl, ?_⟩
  | ((with_reducible apply g_fn); first | refine m_fn wr0 ?_ | refine m_fn (by assumption) ?_ | refine m_fnP ?_ rfl)
  | ((with_reducible apply g_nw); refine m_nw wr0 ?_) | ((with_reducible apply g_ownGet); refine m_ownGet wr0 ?_) | ((with_reducible apply g_ownIn); refine r_ownIn ?_)
  | ((with_reducible apply g_inS); first | refine r_inStrs rfl ?_ | refine r_inStrsT rfl ?_ | refine r_ninStrsT rfl ?_) | ((with_reducible apply g_len); first | refine c_lenL rfl ?_ | refine c_lenT rfl ?_ | refine c_lenD rfl ?_)
  | ((with_reducible apply g_list); first | refine c_listv (.inl rfl) ?_ | refine c_listv (.inr rfl) ?_) | ((with_reducible apply g_tupU); first | refine c_tupleL rfl ?_ | refine c_tupleT ?_) | ((with_reducible apply g_pr); refine m_pr ?_) | refine ⟨_, _, _, rfl, by walk_at "cl", by walk_at "pr", ?_⟩ | refine ⟨_, rfl, ?_⟩ | fail))
local macro_rules | `(tactic| walk_at "me") => `(tactic| repeat' (first
  | ((with_reducible apply g_var); first | refine m_var rfl ?_ | refine m_varS rfl ?_)
  | with_reducible apply m_cI | with_reducible apply m_cS | with_reducible apply m_cB | with_reducible apply m_cN | with_reducible apply m_cC | with_reducible apply m_cT
  | with_reducible apply m_op | with_reducible apply m_cb | with_reducible apply m_nil | with_reducible apply m_cons | with_reducible apply m_test | with_reducible apply m_B | with_reducible apply q_bl
  | with_reducible apply m_and | with_reducible apply m_or | with_reducible apply m_not | with_reducible apply m_andV | with_reducible apply m_orV | with_reducible apply m_notV | with_reducible apply m_ife | with_reducible apply m_chain
  | with_reducible apply q_v | ((with_reducible apply g_slot); refine q_own rfl ?_) | with_reducible apply q_n | with_reducible apply q_c | with_reducible apply q_t | with_reducible apply q_f | with_reducible apply m_yes
  | with_reducible apply r_addI | with_reducible apply r_subI | with_reducible apply r_eqI | with_reducible apply r_neI | with_reducible apply r_eqS | with_reducible apply r_neS | with_reducible apply r_ltI | with_reducible apply r_leI | with_reducible apply r_gtI | with_reducible apply r_geI
  | with_reducible apply r_isN | with_reducible apply r_isnN | with_reducible apply c_intI | with_reducible apply c_intB | with_reducible apply v_lst | with_reducible apply m_tup | ((with_reducible apply g_le); refine ⟨Nat.le_of_ble_eq_true rfl, ?_⟩) | with_reducible apply v_sl | with_reducible apply v_dnew
  | ((with_reducible apply g_dget); refine m_dget ?_) | refine get_str rfl rfl ?_
  | with_reducible apply m_fld | with_reducible apply m_con | refine ⟨_, _, _, rfl, by walk_at "fd", rfl, ?_⟩
  | ((with_reducible apply g_fn); first | refine m_fn wr0 ?_ | refine m_fn (by assumption) ?_ | refine m_fnP ?_ rfl)
  | ((with_reducible apply g_nw); refine m_nw wr0 ?_) | ((with_reducible apply g_ownGet); refine m_ownGet wr0 ?_) | ((with_reducible apply g_ownIn); refine r_ownIn ?_)
  | ((with_reducible apply g_inS); first | refine r_inStrs rfl ?_ | refine r_inStrsT rfl ?_ | refine r_ninStrsT rfl ?_) | ((with_reducible apply g_len); first | refine c_lenL rfl ?_ | refine c_lenT rfl ?_ | refine c_lenD rfl ?_)
  | ((with_reducible apply g_list); first | refine c_listv (.inl rfl) ?_ | refine c_listv (.inr rfl) ?_) | ((with_reducible apply g_tupU); first | refine c_tupleL rfl ?_ | refine c_tupleT ?_) | ((with_reducible apply g_pr); refine m_pr ?_) | refine ⟨_, _, _, rfl, by walk_at "cl", by walk_at "pr", ?_⟩ | refine ⟨_, rfl, ?_⟩ | fail))
local macro_rules | `(tactic| walk_at "fd") => `(tactic| first | exact (fr_fld (by assumption)).1 | exact (fr_fld (by assumption)).2.1 | exact (fr_fld (by assumption)).2.2.1 | exact (fr_fld (by assumption)).2.2.2 | exact leg_fld (by assumption) _ | fail)
local macro_rules | `(tactic| walk_at "cl") => `(tactic| fail)
local macro_rules | `(tactic| walk_at "pr") => `(tactic| fail)
section
variable {K : PySem.W.Frag} {mg : Str → Option Value} {vs : List V} {H : Hp} {Q : VK} {E : XK}
theorem pf_of {es : List D} {x top rg rp : D} {Qx : D → Prop} (hA : Asked es top rg rp) (hx : x = .lst es ∨ x = .tup es) (k : Qx (outF (faultOf es top rg rp))) : P_Frame_of [.cls "Frame", x, top, rg, rp] (fun _ => CR_heard none Qx) (fun c fs => CR_heard (some (c, fs)) Qx) :=
  ⟨x, top, rg, rp, rfl, .inl ⟨es, hx, hA, fun hr _ => by rw [hr] at k; exact k, fun s hs => ⟨rfl, s, rfl, by rw [hs] at k; exact k⟩⟩⟩
theorem pf_no {x top rg rp : D} {Qx : D → Prop} (hx : noSeq x) (k : Qx (.str "legs")) : P_Frame_of [.cls "Frame", x, top, rg, rp] (fun _ => CR_heard none Qx) (fun c fs => CR_heard (some (c, fs)) Qx) :=
  ⟨x, top, rg, rp, rfl, .inr ⟨hx, rfl, "legs", rfl, k⟩⟩
theorem pi_of {es : List D} {top rg rp : D} {Qx : D → Prop} (hA : Asked es top rg rp) (k : Qx (outF (faultOf es top rg rp))) : P_Frame_init "Frame" [top, rg, rp, .tup es] (fun _ => CR_heard none Qx) (fun c fs => CR_heard (some (c, fs)) Qx) :=
  ⟨es, top, rg, rp, rfl, rfl, hA, fun hr _ => by rw [hr] at k; exact k, fun s hs => ⟨rfl, s, rfl, by rw [hs] at k; exact k⟩⟩
def Word (f : Option Str) : Prop := f = none ∨ f = some ("legs" : Str) ∨ f = some ("many" : Str) ∨ f = some ("name" : Str) ∨ f = some ("top" : Str) ∨ f = some ("rails" : Str)
theorem fault_word (es : List D) (top rg rp : D) : Word (faultOf es top rg rp) := by
  unfold faultOf
  split
  · exact .inr (.inl rfl)
  · split
    · exact .inr (.inr (.inl rfl))
    · split
      · exact .inr (.inr (.inr (.inl rfl)))
      · split
        · exact .inr (.inr (.inr (.inr (.inl rfl))))
        · split
          · exact .inr (.inr (.inr (.inr (.inr rfl))))
          · exact .inl rfl
theorem told_same {O : Oc} {F0 : Hp} {ρ : Ro} {Qx : X → Ro → Prop} {x y : X} {f : Option Str} (hf : Word f) (hx : seeD x ρ = some (.lst [outF f, outF f])) (hy : seeD y ρ = some (.lst [outF f, outF f])) (k : Qx (.val (.bl false)) ρ) : Mr K O F0 (rNeU K) x y ρ Qx := by
  have go : ∀ pd : PyData, pyOf (.lst [outF f, outF f]) = some pd → SeqAt.shaped pd = true → Mr K O F0 (rNeU K) x y ρ Qx := fun pd h1 h2 => by
    refine r_neD hx hy h1 h1 h2 h2 ?_
    rw [SeqAt.eqv_refl _ (SeqAt.canLay_of_shaped h2)]
    exact k
  rcases hf with rfl | rfl | rfl | rfl | rfl | rfl
  · exact go (.list [.none, .none]) (by simp only [outF, pyOf, pyOfL, Option.map_some]) (by decide)
  · exact go (.list [.str "legs", .str "legs"]) (by simp only [outF, pyOf, pyOfL, Option.map_some]) (by decide +kernel)
  · exact go (.list [.str "many", .str "many"]) (by simp only [outF, pyOf, pyOfL, Option.map_some]) (by decide +kernel)
  · exact go (.list [.str "name", .str "name"]) (by simp only [outF, pyOf, pyOfL, Option.map_some]) (by decide +kernel)
  · exact go (.list [.str "top", .str "top"]) (by simp only [outF, pyOf, pyOfL, Option.map_some]) (by decide +kernel)
  · exact go (.list [.str "rails", .str "rails"]) (by simp only [outF, pyOf, pyOfL, Option.map_some]) (by decide +kernel)
def turnP (K : PySem.W.Frag) : TS := (tSeq (tAsg (tFn (sp_Ldrawn K) [] W0 (tCons (tVar 1) tNil)) (gTup K 4 (gCons (gName 3) (gCons (gName 4) (gCons (gName 5) (gCons (gName 6) gNil)))))) (tSeq (tAsg (tLst (tCons (tLam (TB K) (TT_Lheard K) (tS fun W => (tCmK (ga K "Frame") 1 3 (sp_Frame_of K) gkbm_Frame_of_2_top_ground_power W (tC (.ref (ga K "Frame"))) (tCons (tVar 3) tNil) (tCons (tVar 4) (tCons (tOp (rIx K) (tVar 5) (tC (.int 0))) (tCons (tOp (rIx K) (tVar 5) (tC (.int 1))) tNil)))))) tNil)) (gName 7)) (tSeq (tDrop (tBM K "list" rAppend (tVar 7) (tCons (tLam (TB K) (TT_Lheard K) (tS fun W => (tCmK (ga K "Frame") 1 3 (sp_Frame_of K) gkbm_Frame_of_2_power_ground_top W (tC (.ref (ga K "Frame"))) (tCons (tCB (rTupU K) (tCons (tVar 3) tNil)) tNil) (tCons (tOp (rIx K) (tVar 5) (tC (.int 1))) (tCons (tOp (rIx K) (tVar 5) (tC (.int 0))) (tCons (tVar 4) tNil)))))) tNil))) (tSeq (tIfS (tTest (tOp (rNeU K) (tVar 7) (tOp (rMul K) (tLst (tCons (tVar 6) tNil)) (tC (.int 2))))) (tRet (tC (.bl false))) tNext) (tSeq (tAsg (tSl (rSlU K) (tOp (rAdd K) (tVar 3) (tLst (tCons (tC .non) (tCons (tC .non) tNil)))) tNoPart (tPart (tC (.int 2)))) (gName 8)) (tSeq (tAsg (tOp (rSeqC K (dSeq K (a_Leg_eq K) (sp_Leg_eq K)) false) (tLc (iList K (tVar 8)) (gName 10) (tNot (tB (tCB (rIsiS K) (tCons (tVar 10) (tCons (tTup (tCons (tC (.ref (ga K "Driver"))) (tCons (tC (.ref (ga K "Listener"))) tNil))) tNil))))) (tVar 10) [10]) (tLst tNil)) (gName 9)) (tIfS (tAnd (tB (tVar 9)) (tTest (tOp (rNeU K) (tLam (TB K) (TT_Lheard K) (tS fun W => (tNwS (ga K "Frame") 1 (sp_Frame_init K) gks_Frame_init_top W (tCons (tOp (rIx K) (tVar 8) (tC (.int 0))) (tCons (tOp (rIx K) (tVar 8) (tC (.int 1))) tNil)) (tCons (tVar 4) tNil)))) (tC (.str "legs"))))) (tRet (tC (.bl false))) tNext)))))))
theorem two_at (a b : D) : atI [a, b] 0 = some a ∧ atI [a, b] 1 = some b := ⟨rfl, rfl⟩
theorem pair_of {es : List D} (h : ∀ e ∈ es, AnyD e) : ∃ p0 p1, SJ.cutD (es ++ [D.non, .non]) none (some 2) = [p0, p1] ∧ AnyD p0 ∧ AnyD p1 := by
  have e1 : SJ.cutD (es ++ [D.non, .non]) none (some 2) = (es ++ [D.non, .non]).take 2 := by
    unfold SJ.cutD
    rw [HT.sIx_none, show (some (2 : Int)) = some ((2 : Nat) : Int) from rfl, HT.sIx_nat, List.drop_zero, Nat.sub_zero, List.length_append]
    show List.take (min 2 (es.length + 2)) _ = _
    rw [show min 2 (es.length + 2) = 2 by omega]
  match es, h, e1 with
  | [], _, e1 => exact ⟨_, _, e1, trivial, trivial⟩
  | [a], h, e1 => exact ⟨_, _, e1, h a (List.mem_cons_self ..), trivial⟩
  | a :: b :: r, h, e1 => exact ⟨_, _, e1, h a (List.mem_cons_self ..), h b (List.mem_cons_of_mem _ (List.mem_cons_self ..))⟩
theorem wrong_eq (p0 p1 : D) : (!seqEq (fun _ _ => false) (([p0, p1].filter fun d => !isLegD d).map id) []) = (!isLegD p0 || !isLegD p1) := by
  cases h0 : isLegD p0 <;> cases h1 : isLegD p1 <;> simp [List.filter_cons, h0, h1, seqEq]
theorem md_ff : ∀ F : Hp, RepL K F [.bl false, .bl false] [.bl false, .bl false] := fun F => .cons (.bl false) (.cons (.bl false) .nil)
theorem turn_ok (T : Tx K mg) {o : Hp} {w : Option V} {F0 : Hp} {n : Nat} {s3 s4 s5 s6 s7 s8 s9 s11 : Sl} {i : Int} (hn : n ≤ 1000) {N : Hn} (hrt : N.rt = fun d _ => d = .bl true)
    (k : ∀ n2 r3 r4 r5 r6 r7 r8 r9, n2 ≤ n + 100 → N.nx [.none, .pen n2, .val (.int i), r3, r4, r5, r6, r7, r8, r9, .none, s11]) : Ms K ⟨o, w, TB K⟩ F0 (turnP K) [.none, .pen n, .val (.int i), s3, s4, s5, s6, s7, s8, s9, .none, s11] N := by
  refine ms_seq (ms_asgG (js := [3, 4, 5, 6]) (m_fnP (m_nil ⟨n, rfl, rfl, by omega, fun es top rg rp n2 hA hl hn2 => q_v (mg_four ?_)⟩) rfl))
  refine ms_seq (s_asgF (mf_lst (m_cons (m_lam fun W σ F1 s1 hW => ma_cmK [] (fun F => .nil) hW (m_cC ⟨rfl, ?_⟩)))))
  walk_at "me"
  refine r_ixL (i := 0) rfl (two_at rg rp).1 ?_
  walk_at "me"
  refine r_ixL (i := 1) rfl (two_at rg rp).2 ?_
  walk_at "me"
  refine ⟨[_], [_, _, _], rfl, rfl, rfl, rfl, pf_of hA (.inl rfl) ?_⟩
  walk_at "me"
  refine ⟨by show 7 < 12; decide, ?_⟩
  refine ms_seq (ms_append rfl (m_lam fun W σ F1 s1 hW => ma_cmK [] (fun F => .nil) hW (m_cC ⟨rfl, ?_⟩)))
  walk_at "me"
  refine r_ixL (i := 1) rfl (two_at rg rp).2 ?_
  walk_at "me"
  refine r_ixL (i := 0) rfl (two_at rg rp).1 ?_
  walk_at "me"
  refine ⟨[_], [_, _, _], rfl, rfl, rfl, rfl, pf_of hA (.inr rfl) ?_⟩
  refine q_v ⟨_, rfl, show 1 < 10000 by decide, ?_⟩
  have hw := fault_word es top rg rp
  have hA0 : ∀ f g : Bool, Asked es top (.bl f) (.bl g) := fun f g => ⟨hA.le, hA.an, hA.tp, rfl, rfl⟩
  generalize faultOf es top rg rp = due at hw
  refine ms_seq (ms_if (m_test (m_op (m_varS rfl (v_repL (v_lst (m_cons (m_var rfl (m_nil ⟨Nat.le_of_ble_eq_true rfl, m_cI ⟨_, 2, rfl, rfl, by decide, by decide, Nat.le_of_ble_eq_true rfl, q_v ⟨rfl, told_same hw rfl rfl (q_bl (q_f (ms_next ?_)))⟩⟩⟩)))))))))
  refine ms_seq (s_asg (v_sl (m_op (m_var rfl (v_lst ?_)))))
  walk_at "me"
  refine r_catL rfl rfl (by show es.length + 2 ≤ 10000; omega) ?_
  refine mo_no (mo_part (m_cI ⟨2, rfl, ⟨_, rfl, ?_⟩⟩))
  obtain ⟨p0, p1, hp, a0, a1⟩ := pair_of hA.an
  rw [hp]
  refine q_v ?_
  obtain ⟨t0, k0⟩ := any_leg T a0
  obtain ⟨t1, k1⟩ := any_leg T a1
  refine ms_seq (s_asg (m_op (v_lcM [10] (fun d => !isLegD d) id (by decide) (by decide) (mi_list (m_var rfl (q_v (q_lst ⟨Nat.le_of_ble_eq_true rfl, one_free rfl, fun d hd oo ww => ?_, ?_⟩)))))))
  · have hd2 : TyOk K d ∧ PySem.W.kitAny K (tyD K d) ([D.cls "Driver", D.cls "Listener"].map (clsV K)) = some (isLegD d) := by
      rcases List.mem_cons.mp hd with rfl | hd
      · exact ⟨t0, k0⟩
      · rcases List.mem_cons.mp hd with rfl | hd
        · exact ⟨t1, k1⟩
        · cases hd
    exact mg_name ⟨rfl, rfl, m_not (m_B (m_cb (m_cons (m_var rfl (m_cons (m_tup (m_cons (m_cC (m_cons (m_cC (m_nil ⟨by decide, m_nil (c_isiM rfl hd2.1 rfl hd2.2 (q_bl ⟨rfl, rfl, fun _ => m_var rfl ⟨rfl, rfl⟩⟩))⟩)))))))))))⟩
  refine v_lst (m_nil ⟨Nat.zero_le _, r_seq (fun _ _ => false) (.inr ⟨rfl, rfl⟩) (fun d hd e he => nomatch he) (q_v ?_)⟩)
  rw [wrong_eq]
  refine ms_if (m_and (m_B (m_var rfl (q_bl ?_))))
  cases hwr : (!isLegD p0 || !isLegD p1) with
  | false => exact q_f (q_f (ms_next (k _ _ _ _ _ _ _ _ (by omega))))
  | true =>
    refine q_t (m_test (m_op (m_lam fun W σ F1 s1 hW => ma_nwS [.bl false, .bl false] md_ff hW ?_)))
    have han : ∀ e ∈ [p0, p1], AnyD e := fun e he => by
      rcases List.mem_cons.mp he with rfl | he
      · exact a0
      · rcases List.mem_cons.mp he with rfl | he
        · exact a1
        · cases he
    have hA2 : Asked [p0, p1] top (.bl false) (.bl false) := ⟨Nat.le_of_ble_eq_true rfl, han, hA.tp, rfl, rfl⟩
    have hal : [p0, p1].all isLegD = false := by
      show (isLegD p0 && (isLegD p1 && true)) = false
      revert hwr
      cases isLegD p0 <;> cases isLegD p1 <;> intro hwr <;> first | rfl | cases hwr
    have hfl : faultOf [p0, p1] top (.bl false) (.bl false) = some ("legs" : Str) := by
      unfold faultOf
      rw [if_pos hal]
    refine m_cons (m_op (m_var rfl (m_cI (r_ixL (i := 0) rfl (two_at p0 p1).1 (m_cons (m_op (m_var rfl (m_cI (r_ixL (i := 1) rfl (two_at p0 p1).2 (m_nil ?_))))))))))
    walk_at "me"
    refine ⟨[_, _], [_], rfl, rfl, rfl, Nat.le_of_ble_eq_true rfl, pi_of (es := [p0, p1]) hA2 ?_⟩
    rw [hfl]
    refine m_cS (r_neS (q_bl ?_))
    rw [decide_eq_true rfl]
    exact q_f (ms_next (k _ _ _ _ _ _ _ _ (by omega)))
end

end K04

namespace K04
open PySem PySem.Spec PyProof.Rows L2 He SJ
open LamX (CodeO lamS_by Tabs tLam)
local macro_rules | `(tactic| walk_at "mr") => `(tactic| repeat' (first
  | with_reducible apply ms_seq | with_reducible apply ms_if | with_reducible apply ms_ret | with_reducible apply ms_next | with_reducible apply s_asg
  | ((with_reducible apply g_var); first | refine m_var rfl ?_ | refine m_varS rfl ?_)
  | with_reducible apply m_cI | with_reducible apply m_cS | with_reducible apply m_cB | with_reducible apply m_cN | with_reducible apply m_cC | with_reducible apply m_cT
  | with_reducible apply m_op | with_reducible apply m_cb | with_reducible apply m_nil | with_reducible apply m_cons | with_reducible apply m_test | with_reducible apply m_B | with_reducible apply q_bl
  | with_reducible apply m_and | with_reducible apply m_or | with_reducible apply m_not | with_reducible apply m_andV | with_reducible apply m_orV | with_reducible apply m_notV | with_reducible apply m_ife | with_reducible apply m_chain
  | with_reducible apply q_v | ((with_reducible apply g_slot); refine q_own rfl ?_) | with_reducible apply q_n | with_reducible apply q_c | with_reducible apply q_t | with_reducible apply q_f | with_reducible apply m_yes
  | with_reducible apply r_addI | with_reducible apply r_subI | with_reducible apply r_eqI | with_reducible apply r_neI | with_reducible apply r_eqS | with_reducible apply r_neS | with_reducible apply r_ltI | with_reducible apply r_leI | with_reducible apply r_gtI | with_reducible apply r_geI
  | with_reducible apply r_isN | with_reducible apply r_isnN | with_reducible apply c_intI | with_reducible apply c_intB | with_reducible apply v_lst | with_reducible apply m_tup | ((with_reducible apply g_le); refine ⟨Nat.le_of_ble_eq_true rfl, ?_⟩) | with_reducible apply v_sl | with_reducible apply v_dnew
  | ((with_reducible apply g_dget); refine m_dget ?_) | refine get_str rfl rfl ?_
  | with_reducible apply m_fld | with_reducible apply m_con | refine ⟨_, _, _, rfl, by walk_at "fd", rfl, ?_⟩
  | ((with_reducible apply g_fn); first | refine m_fn wr0 ?_ | refine m_fn (by assumption) ?_ | refine m_fnP ?_ rfl)
  | ((with_reducible apply g_nw); refine m_nw wr0 ?_) | ((with_reducible apply g_ownGet); refine m_ownGet wr0 ?_) | ((with_reducible apply g_ownIn); refine r_ownIn ?_)
  | ((with_reducible apply g_inS); first | refine r_inStrs rfl ?_ | refine r_inStrsT rfl ?_ | refine r_ninStrsT rfl ?_) | ((with_reducible apply g_len); first | refine c_lenL rfl ?_ | refine c_lenT rfl ?_ | refine c_lenD rfl ?_)
  | ((with_reducible apply g_list); first | refine c_listv (.inl rfl) ?_ | refine c_listv (.inr rfl) ?_) | ((with_reducible apply g_tupU); first | refine c_tupleL rfl ?_ | refine c_tupleT ?_) | ((with_reducible apply g_pr); refine m_pr ?_) | refine ⟨_, _, _, rfl, by walk_at "cl", by walk_at "pr", ?_⟩ | refine ⟨_, rfl, ?_⟩ | fail))
local macro_rules | `(tactic| walk_at "me") => `(tactic| repeat' (first
  | ((with_reducible apply g_var); first | refine m_var rfl ?_ | refine m_varS rfl ?_)
  | with_reducible apply m_cI | with_reducible apply m_cS | with_reducible apply m_cB | with_reducible apply m_cN | with_reducible apply m_cC | with_reducible apply m_cT
  | with_reducible apply m_op | with_reducible apply m_cb | with_reducible apply m_nil | with_reducible apply m_cons | with_reducible apply m_test | with_reducible apply m_B | with_reducible apply q_bl
  | with_reducible apply m_and | with_reducible apply m_or | with_reducible apply m_not | with_reducible apply m_andV | with_reducible apply m_orV | with_reducible apply m_notV | with_reducible apply m_ife | with_reducible apply m_chain
  | with_reducible apply q_v | ((with_reducible apply g_slot); refine q_own rfl ?_) | with_reducible apply q_n | with_reducible apply q_c | with_reducible apply q_t | with_reducible apply q_f | with_reducible apply m_yes
  | with_reducible apply r_addI | with_reducible apply r_subI | with_reducible apply r_eqI | with_reducible apply r_neI | with_reducible apply r_eqS | with_reducible apply r_neS | with_reducible apply r_ltI | with_reducible apply r_leI | with_reducible apply r_gtI | with_reducible apply r_geI
  | with_reducible apply r_isN | with_reducible apply r_isnN | with_reducible apply c_intI | with_reducible apply c_intB | with_reducible apply v_lst | with_reducible apply m_tup | ((with_reducible apply g_le); refine ⟨Nat.le_of_ble_eq_true rfl, ?_⟩) | with_reducible apply v_sl | with_reducible apply v_dnew
  | ((with_reducible apply g_dget); refine m_dget ?_) | refine get_str rfl rfl ?_
  | with_reducible apply m_fld | with_reducible apply m_con | refine ⟨_, _, _, rfl, by walk_at "fd", rfl, ?_⟩
  | ((with_reducible apply g_fn); first | refine m_fn wr0 ?_ | refine m_fn (by assumption) ?_ | refine m_fnP ?_ rfl)
  | ((with_reducible apply g_nw); refine m_nw wr0 ?_) | ((with_reducible apply g_ownGet); refine m_ownGet wr0 ?_) | ((with_reducible apply g_ownIn); refine r_ownIn ?_)
  | ((with_reducible apply g_inS); first | refine r_inStrs rfl ?_ | refine r_inStrsT rfl ?_ | refine r_ninStrsT rfl ?_) | ((with_reducible apply g_len); first | refine c_lenL rfl ?_ | refine c_lenT rfl ?_ | refine c_lenD rfl ?_)
  | ((with_reducible apply g_list); first | refine c_listv (.inl rfl) ?_ | refine c_listv (.inr rfl) ?_) | ((with_reducible apply g_tupU); first | refine c_tupleL rfl ?_ | refine c_tupleT ?_) | ((with_reducible apply g_pr); refine m_pr ?_) | refine ⟨_, _, _, rfl, by walk_at "cl", by walk_at "pr", ?_⟩ | refine ⟨_, rfl, ?_⟩ | fail))
local macro_rules | `(tactic| walk_at "fd") => `(tactic| first | exact (fr_fld (by assumption)).1 | exact (fr_fld (by assumption)).2.1 | exact (fr_fld (by assumption)).2.2.1 | exact (fr_fld (by assumption)).2.2.2 | exact leg_fld (by assumption) _ | fail)
local macro_rules | `(tactic| walk_at "cl") => `(tactic| fail)
local macro_rules | `(tactic| walk_at "pr") => `(tactic| fail)
section
variable {K : PySem.W.Frag} {mg : Str → Option Value} {vs : List V} {H : Hp} {Q : VK} {E : XK}
theorem nm_a : nameB "a" = true ∧ ("a" : Str).length ≤ 1000 := by decide
theorem odd_seq {d : D} (h : d ∈ [D.non, .str "a", .obj "Driver" [("name", .str "a")], .dct [], .int 3, .bl true]) : noSeq d := by
  simp only [List.mem_cons, List.not_mem_nil, or_false] at h
  rcases h with rfl | rfl | rfl | rfl | rfl | rfl
  · exact trivial
  · exact trivial
  · exact rfl
  · exact trivial
  · exact trivial
  · exact trivial
theorem two_as : faultOf [D.obj "Driver" [("name", .str "a")], D.obj "Listener" [("name", .str "a")]] (.int 0) (.bl false) (.bl false) = some ("name" : Str) := by decide
theorem asked_as : Asked [D.obj "Driver" [("name", .str "a")], D.obj "Listener" [("name", .str "a")]] (.int 0) (.bl false) (.bl false) := by
  refine ⟨Nat.le_of_ble_eq_true rfl, fun e he => ?_, rfl, rfl, rfl⟩
  rcases List.mem_cons.mp he with rfl | he
  · exact ⟨.inr (.inl rfl), "a", rfl, by decide⟩
  · rcases List.mem_cons.mp he with rfl | he
    · exact ⟨.inr (.inr rfl), "a", rfl, by decide⟩
    · cases he
theorem pure_law (T : Tx K mg) (h : sp_law K vs H Q E) : t_law K { nx := fun _ H2 => Q .non H2, rt := Q } (start ["_law_script", "_law_pen_here", "_law_turn", "_law_legs_so", "_law_far", "_law_rails_so", "_law_due", "_law_told", "_law_pair", "_law_is_wrong", "_law_one", "_law_odd"] vs) H := by
  refine body_law h (by decide) fun o w F0 => ?_
  refine ms_seq (ms_for [2] (mi_rng1 (m_cons (m_cI (m_nil ⟨10, rfl, by decide, ?_⟩)))))
  refine ⟨fun i ρ => ∃ n s2 s3 s4 s5 s6 s7 s8 s9, n ≤ 100 * i ∧ ρ = [.none, .pen n, s2, s3, s4, s5, s6, s7, s8, s9, .none, .none], ⟨0, _, _, _, _, _, _, _, _, Nat.zero_le _, rfl⟩, fun i d ρ2 hd hI => ?_, fun ρ2 hI => ?_⟩
  · obtain ⟨n, s2, s3, s4, s5, s6, s7, s8, s9, hn, rfl⟩ := hI
    have hi : i < 10 := (List.getElem?_eq_some_iff.mp hd).1
    obtain ⟨j, _, rfl⟩ := List.mem_map.mp (List.mem_of_getElem? hd)
    exact mg_name (turn_ok T (by omega) rfl fun n2 r3 r4 r5 r6 r7 r8 r9 h2 => ⟨n2, _, _, _, _, _, _, _, _, by omega, rfl⟩)
  · obtain ⟨n, s2, s3, s4, s5, s6, s7, s8, s9, hn, rfl⟩ := hI
    refine ms_seq (ms_for [11] (mi_tup (m_tup ?_)))
    walk_at "me"
    refine .inl ⟨true, _, rfl, rfl, nm_a.2, nm_a.1, ?_⟩
    walk_at "me"
    refine ⟨fun i ρ => ∃ s11, ρ = [.none, .pen n, s2, s3, s4, s5, s6, s7, s8, s9, .none, s11], ⟨_, rfl⟩, fun i d ρ2 hd hI => ?_, fun ρ2 hI => ?_⟩
    · obtain ⟨s11, rfl⟩ := hI
      have hno := odd_seq (List.mem_of_getElem? hd)
      refine mg_name (ms_if (m_test (m_op (m_lam fun W σ F1 s1 hW => ma_cmK [.bl false, .bl false] md_ff hW (m_cC ⟨rfl, ?_⟩)))))
      walk_at "me"
      refine ⟨[_], [_], rfl, rfl, rfl, rfl, pf_no hno ?_⟩
      refine m_cS (r_neS (q_bl ?_))
      rw [decide_eq_true rfl]
      exact q_f (ms_next ⟨_, rfl⟩)
    · obtain ⟨s11, rfl⟩ := hI
      refine ms_ret (m_op (m_lam fun W σ F1 s1 hW => ma_nwS [.bl false, .bl false] md_ff hW ?_))
      refine m_cons (m_nw wrF (m_cons (m_cS (m_nil (q_c (q_v (q_n (.inl ⟨true, "a", rfl, rfl, nm_a.2, nm_a.1, ?_⟩))))))))
      refine m_cons (m_nw wrF (m_cons (m_cS (m_nil (q_c (q_v (q_n (.inl ⟨false, "a", rfl, rfl, nm_a.2, nm_a.1, ?_⟩))))))))
      walk_at "me"
      refine ⟨[_, _], [_], rfl, rfl, rfl, Nat.le_of_ble_eq_true rfl, pi_of asked_as ?_⟩
      rw [two_as]
      refine m_cS (r_eqS (q_v ?_))
      rw [decide_eq_true rfl]
end

end K04

namespace K04
open PySem PySem.Spec PyProof.Rows L2 He SJ
open LamX (CodeO lamS_by Tabs tLam)
section
variable {K : PySem.W.Frag} {vs : List V} {H : Hp} {Q : VK} {E : XK}
theorem len_is_integer (h : sp_is_integer K vs H Q E) : vs.length = 1 := len_pu (P := P_is_integer) (fun ds Q E h => by rcases h with ⟨_, e, _⟩ <;> (rw [e]; rfl)) h
theorem len_is_between (h : sp_is_between K vs H Q E) : vs.length = 3 := len_pu (P := P_is_between) (fun ds Q E h => by rcases h with ⟨_, _, _, e, _⟩ <;> (rw [e]; rfl)) h
theorem len_is_name (h : sp_is_name K vs H Q E) : vs.length = 1 := len_pu (P := P_is_name) (fun ds Q E h => by rcases h with ⟨_, e, _⟩ <;> (rw [e]; rfl)) h
theorem len_Leg_init (h : sp_Leg_init K vs H Q E) : vs.length = 2 := len_pin (P := P_Leg_init) (fun c ds Q E h => by rcases h with ⟨_, _, _, e, _⟩ | ⟨_, _, e, _⟩ <;> (rw [e]; rfl)) h
theorem len_Leg_eq (h : sp_Leg_eq K vs H Q E) : vs.length = 2 := len_pu (P := P_Leg_eq) (fun ds Q E h => by rcases h with ⟨_, _, e, _⟩ <;> (rw [e]; rfl)) h
theorem len_fault_of (h : sp_fault_of K vs H Q E) : vs.length = 4 := len_pu (P := P_fault_of) (fun ds Q E h => by rcases h with ⟨_, _, _, _, e, _⟩ <;> (rw [e]; rfl)) h
theorem len_Frame_init (h : sp_Frame_init K vs H Q E) : vs.length = 5 := len_pin (P := P_Frame_init) (fun c ds Q E h => by rcases h with ⟨_, _, _, _, _, e, _⟩ <;> (rw [e]; rfl)) h
theorem len_Frame_of (h : sp_Frame_of K vs H Q E) : vs.length = 5 := len_pu (P := P_Frame_of) (fun ds Q E h => by rcases h with ⟨_, _, _, _, e, _⟩ <;> (rw [e]; rfl)) h
theorem len_Lpen (h : sp_Lpen K vs H Q E) : vs.length = 1 := len_pen h
theorem len_Ldraw (h : sp_Ldraw K vs H Q E) : vs.length = 2 := len_pp (P := P_Ldraw) (fun m ds Q h => by obtain ⟨_, e, _⟩ := h; rw [e]; rfl) h
theorem len_Lpick (h : sp_Lpick K vs H Q E) : vs.length = 2 := len_pp (P := P_Lpick) (fun m ds Q h => by obtain ⟨_, e | e, _⟩ := h <;> (rw [e]; rfl)) h
theorem len_Ltags (h : sp_Ltags K vs H Q E) : vs.length = 2 := len_pp (P := P_Ltags) (fun m ds Q h => by rcases h with ⟨_, e, _⟩ <;> (rw [e]; rfl)) h
theorem len_Ldrawn (h : sp_Ldrawn K vs H Q E) : vs.length = 1 := len_pp (P := P_Ldrawn) (fun m ds Q h => by rcases h with ⟨e, _⟩ <;> (rw [e]; rfl)) h
theorem len_law (h : sp_law K vs H Q E) : vs.length = 1 := SJ.len_law h
theorem law_sp {a : Addr} {ns : List Int} (hl : ns.length ≤ 63) (hT : ∀ q ∈ tf.map (cTA K), H q.2 = some (.tbl #[])) (hS : SqL K H a (ns.map V.int)) (ho : ∀ b o, H b = some o → (∃ q ∈ tf.map (cTA K), b = q.2) ∨ b = a) : sp_law K [.ref a] H (fun v _ => v = .bl true) fun _ _ _ => False := by
  refine ⟨a, ns, rfl, hS, hl, fun p hp => ?_, fun _ => rfl⟩
  rcases List.mem_cons.mp hp with rfl | hp
  · exact ⟨#[], hT _ (List.mem_of_getElem? (i := 0) rfl), (by show TriplesOk []; trivial), fun pos cv hc => nomatch hc⟩
  rcases List.mem_singleton.mp hp with rfl
  exact ⟨#[], hT _ (List.mem_of_getElem? (i := 1) rfl), (by show TriplesOk []; trivial), fun pos cv hc => nomatch hc⟩
end
end K04

namespace K04
open PySem PySem.Spec PyProof.Rows L2 He SJ
open LamX (CodeO lamS_by Tabs tLam)
section
variable {P : Program} {w : World} {K : PySem.W.Frag} {mg : Str → Option Value} {base : Heap}
theorem sf_InvalidFrame_init (T : Tx K mg) (hP : P = PySem.Challenge.pw_strayjoins_k04_frames_refused) : SupFn K P ["self", "reason"] ["self", "reason"] "InvalidFrame.__init__" (defArgs s_InvalidFrame_init) (defBody s_InvalidFrame_init) (defScope s_InvalidFrame_init) (a_InvalidFrame_init K) (ccA K (a_InvalidFrame_init K)) (cdaA K (a_InvalidFrame_init K)) (ga K "InvalidFrame") := by
  subst hP
  obtain ⟨e1, e2, e3, e4⟩ := XD.facts T.e_InvalidFrame_init.1 T.e_InvalidFrame_init.2
  exact ⟨e1, e2, e3, e4, by decide +kernel, rfl, rfl, rfl, by decide +kernel, rfl, by decide +kernel, by decide +kernel, fun x h => nofree_of (by decide +kernel) h, by decide +kernel, by decide +kernel, ⟨_, rfl, rfl⟩⟩
theorem ok_InvalidFrame_init (T : Tx K mg) (hP : P = PySem.Challenge.pw_strayjoins_k04_frames_refused) : ∃ fd, Fk P w K mg base 1 (a_InvalidFrame_init K) fd ["self", "reason"] (spX (ga K "InvalidFrame") ["reason"]) ∧ Binds K fd ["self", "reason"] [] := by
  obtain ⟨fd, ⟨kV, doc, pm, an, ct, rfl⟩, F⟩ := fk_sup (k := 0) (sp := spX (ga K "InvalidFrame") ["reason"]) (ta := (tCons (tVar 1) tNil)) (tr := (tSt K "ValueError.__new__" [.type "ValueError", .type "Exception", .type "BaseException", .type "object"] "reason" (tVar 0) (tVar 1))) (sf_InvalidFrame_init T hP) exb_value T.x_InvalidFrame.g rfl T.x_InvalidFrame.sup T.x_InvalidFrame.sB T.x_InvalidFrame.stat T.x_InvalidFrame.mro T.f_super
    (fun vs H Q E h => spX_len h) (fun A outer s H => (pa_cons (pv 1) pa_nil)) (fun A outer s H => (pss_one (ps_xst exb_value.sf (pv 0) (pv 1)))) (fun vs H Q E h => spX_1 T.x_InvalidFrame.g (T.x_InvalidFrame.nof _ (by decide)) h)
  exact ⟨_, F, .all fun us hl => match us, hl with | [_, _], _ => rfl⟩
theorem sf_NoLeg_init (T : Tx K mg) (hP : P = PySem.Challenge.pw_strayjoins_k04_frames_refused) : SupFn K P ["self", "name"] ["self", "name"] "NoLeg.__init__" (defArgs s_NoLeg_init) (defBody s_NoLeg_init) (defScope s_NoLeg_init) (a_NoLeg_init K) (ccA K (a_NoLeg_init K)) (cdaA K (a_NoLeg_init K)) (ga K "NoLeg") := by
  subst hP
  obtain ⟨e1, e2, e3, e4⟩ := XD.facts T.e_NoLeg_init.1 T.e_NoLeg_init.2
  exact ⟨e1, e2, e3, e4, by decide +kernel, rfl, rfl, rfl, by decide +kernel, rfl, by decide +kernel, by decide +kernel, fun x h => nofree_of (by decide +kernel) h, by decide +kernel, by decide +kernel, ⟨_, rfl, rfl⟩⟩
theorem ok_NoLeg_init (T : Tx K mg) (hP : P = PySem.Challenge.pw_strayjoins_k04_frames_refused) : ∃ fd, Fk P w K mg base 1 (a_NoLeg_init K) fd ["self", "name"] (spX (ga K "NoLeg") ["name"]) ∧ Binds K fd ["self", "name"] [] := by
  obtain ⟨fd, ⟨kV, doc, pm, an, ct, rfl⟩, F⟩ := fk_sup (k := 0) (sp := spX (ga K "NoLeg") ["name"]) (ta := (tCons (tVar 1) tNil)) (tr := (tSt K "LookupError.__new__" [.type "LookupError", .type "Exception", .type "BaseException", .type "object"] "name" (tVar 0) (tVar 1))) (sf_NoLeg_init T hP) exb_lookup T.x_NoLeg.g rfl T.x_NoLeg.sup T.x_NoLeg.sB T.x_NoLeg.stat T.x_NoLeg.mro T.f_super
    (fun vs H Q E h => spX_len h) (fun A outer s H => (pa_cons (pv 1) pa_nil)) (fun A outer s H => (pss_one (ps_xst exb_lookup.sf (pv 0) (pv 1)))) (fun vs H Q E h => spX_1 T.x_NoLeg.g (T.x_NoLeg.nof _ (by decide)) h)
  exact ⟨_, F, .all fun us hl => match us, hl with | [_, _], _ => rfl⟩
theorem ok_is_integer {fd : FuncData} (T : Tx K mg) (F : Fn_is_integer K fd) : Fk P w K mg base 1 (a_is_integer K) fd ["value"] (sp_is_integer K) := by
  refine fk_of F sc_is_integer (fun vs H Q E h => len_is_integer h) (fun cdv A outer s H vs Q E hr h => ⟨t_is_integer K, ?_, pure_is_integer T h⟩)
  exact (pss_one (ps_ret (pe_and (pe_callB c_isi rfl T.f_isinstance (by decide +kernel) (pa_cons (pv 0) (pa_cons (pe_bltn (v := .ty "int") rfl T.f_int (by decide +kernel) rfl) pa_nil))) (pe_one (pe_not (pe_callB c_isi rfl T.f_isinstance (by decide +kernel) (pa_cons (pv 0) (pa_cons (pe_bltn (v := .ty "bool") rfl T.f_bool (by decide +kernel) rfl) pa_nil))))))))
theorem ok_is_between {fd : FuncData} (T : Tx K mg) (F : Fn_is_between K fd) : Fk P w K mg base 2 (a_is_between K) fd ["value", "least", "most"] (sp_is_between K) := by
  obtain ⟨fd_is_integer, F_is_integer⟩ := T.d_is_integer
  have G_is_integer := ok_is_integer (P := P) (w := w) (base := base) T F_is_integer
  have b_is_integer := F_is_integer.bindsN (ps := ["value"]) fun _ _ _ _ _ _ us hl => match us, hl with | [_], _ => rfl
  refine fk_of F sc_is_between (fun vs H Q E h => len_is_between h) (fun cdv A outer s H vs Q E hr h => ⟨t_is_between K, ?_, pure_is_between T h⟩)
  exact (pss_one (ps_ret (pe_and (pe_fn G_is_integer (hr.mono (by decide)) rfl T.g_is_integer F_is_integer.kp b_is_integer .nil takes0 (pa_cons (pv 0) pa_nil)) (pe_one (pe_chain o_le o_le (pv 1) (pv 0) (pv 2))))))
theorem ok_is_name {fd : FuncData} (T : Tx K mg) (F : Fn_is_name K fd) : Fk P w K mg base 1 (a_is_name K) fd ["value"] (sp_is_name K) := by
  refine fk_of F sc_is_name (fun vs H Q E h => len_is_name h) (fun cdv A outer s H vs Q E hr h => ⟨t_is_name K, ?_, pure_is_name T h⟩)
  exact (pss_cons (ps_if (PW.pt (pw_or (pt_not (pt_val (pe_callB c_isi rfl T.f_isinstance (by decide +kernel) (pa_cons (pv 0) (pa_cons (pe_bltn (v := .ty "str") rfl T.f_str (by decide +kernel) rfl) pa_nil))))) (pw_or1 (pt_not (pt_chain o_le o_le pe_int (pe_callB c_len rfl T.f_len (by decide +kernel) (pa_cons (pv 0) pa_nil)) (pe_glob rfl T.g_MOST_LETTERS.choose_spec ⟨_, rfl⟩)))))) (pss_one (ps_ret pe_bl)) pss_nil) (pss_one (ps_ret (pe_and (pe_callB (c_all rfl) rfl T.f_all (by decide +kernel) (pa_cons (pe_lc (own := [("letter", 1)]) rfl sc_is_name.nd (pi_str (pv 0)) (blkOk_by (own := [("letter", 1)]) (N := ["value", "letter"]) (sc := defScope s_is_name) (by decide +kernel)) (fun _ _ _ _ _ => (pg_name (i := 1) sc_is_name.nd rfl (by first | exact Or.inl rfl | exact Or.inr rfl))) (fun _ _ _ _ _ => pts_nil) (fun _ _ _ _ _ => (pe_cmpR op_inS (pv 1) (pe_glob rfl T.g_LETTERS.choose_spec ⟨_, rfl⟩) rfl))) pa_nil)) (pe_one (pe_cmpR o_nin (pv 0) (pe_tup (pa_cons (pe_glob rfl T.g_GROUND.choose_spec ⟨_, rfl⟩) (pa_cons (pe_glob rfl T.g_POWER.choose_spec ⟨_, rfl⟩) (pa_cons (pe_glob rfl T.g_NOTHING.choose_spec ⟨_, rfl⟩) pa_nil)))) rfl))))))
theorem ok_Leg_init {fd : FuncData} (T : Tx K mg) (F : Fn_Leg_init K fd) (hP : P = PySem.Challenge.pw_strayjoins_k04_frames_refused) : Fk P w K mg base 3 (a_Leg_init K) fd ["self", "name"] (sp_Leg_init K) := by
  obtain ⟨fd_is_name, F_is_name⟩ := T.d_is_name
  have G_is_name := ok_is_name (P := P) (w := w) (base := base) T F_is_name
  have b_is_name := F_is_name.bindsN (ps := ["value"]) fun _ _ _ _ _ _ us hl => match us, hl with | [_], _ => rfl
  obtain ⟨fd_InvalidFrame_init, G_InvalidFrame_init, b_InvalidFrame_init⟩ := ok_InvalidFrame_init (P := P) (w := w) (base := base) T hP
  refine fk_of F sc_Leg_init (fun vs H Q E h => len_Leg_init h) (fun cdv A outer s H vs Q E hr h => ⟨t_Leg_init K E, ?_, pure_Leg_init T h⟩)
  exact (pss_cons (ps_if (pt_not (pt_val (pe_fn G_is_name (hr.mono (by decide)) rfl T.g_is_name F_is_name.kp b_is_name .nil (takes_of rfl rfl rfl rfl) (pa_cons (pv 1) pa_nil)))) (pss_one (ps_raise rfl (takes_of rfl rfl rfl rfl) (pmk_x exb_value T.x_InvalidFrame.g T.x_InvalidFrame.iC T.x_InvalidFrame.tI G_InvalidFrame_init (hr.mono (by decide)) b_InvalidFrame_init (by decide) rfl T.g_InvalidFrame (pa_cons pe_str pa_nil)))) pss_nil) (pss_one (ps_fld (pv 0) (pv 1) rfl)))
theorem ok_Leg_eq {fd : FuncData} (T : Tx K mg) (F : Fn_Leg_eq K fd) : Fk P w K mg base 1 (a_Leg_eq K) fd ["self", "other"] (sp_Leg_eq K) := by
  refine fk_of F sc_Leg_eq (fun vs H Q E h => len_Leg_eq h) (fun cdv A outer s H vs Q E hr h => ⟨t_Leg_eq K, ?_, pure_Leg_eq T h⟩)
  exact (pss_one (ps_ret (pe_and (pe_callB c_isi rfl T.f_isinstance (by decide +kernel) (pa_cons (pv 1) (pa_cons (pe_glob rfl T.g_Leg rfl) pa_nil))) (pe_and (pe_cmpR (o_eq hr.units) (pe_con (pv 0) rfl) (pe_con (pv 1) rfl) (nomark _)) (pe_one (pe_cmpR (o_eq hr.units) (pe_fld (pv 0) rfl) (pe_fld (pv 1) rfl) (nomark _)))))))
theorem ok_fault_of {fd : FuncData} (T : Tx K mg) (F : Fn_fault_of K fd) : Fk P w K mg base 3 (a_fault_of K) fd ["legs", "most", "top", "rails"] (sp_fault_of K) := by
  obtain ⟨fd_is_between, F_is_between⟩ := T.d_is_between
  have G_is_between := ok_is_between (P := P) (w := w) (base := base) T F_is_between
  have b_is_between := F_is_between.bindsN (ps := ["value", "least", "most"]) fun _ _ _ _ _ _ us hl => match us, hl with | [_, _, _], _ => rfl
  refine fk_of F sc_fault_of (fun vs H Q E h => len_fault_of h) (fun cdv A outer s H vs Q E hr h => ⟨t_fault_of K P w, ?_, pure_fault_of T h⟩)
  exact (pss_cons (ps_if (pt_not (pt_val (pe_callB (c_all rfl) rfl T.f_all (by decide +kernel) (pa_cons (pe_lc (own := [("leg", 4)]) rfl sc_fault_of.nd (pi_tup (pv 0)) (blkOk_by (own := [("leg", 4)]) (N := ["legs", "most", "top", "rails", "leg", "rail"]) (sc := defScope s_fault_of) (by decide +kernel)) (fun _ _ _ _ _ => (pg_name (i := 4) sc_fault_of.nd rfl (by first | exact Or.inl rfl | exact Or.inr rfl))) (fun _ _ _ _ _ => pts_nil) (fun _ _ _ _ _ => (pe_callB c_isiS rfl T.f_isinstance (by decide +kernel) (pa_cons (pv 4) (pa_cons (pe_tup (pa_cons (pe_glob rfl T.g_Driver rfl) (pa_cons (pe_glob rfl T.g_Listener rfl) pa_nil))) pa_nil))))) pa_nil)))) (pss_one (ps_ret pe_str)) pss_nil) (pss_cons (ps_if (pt_cmpR o_gt (pe_callB c_len rfl T.f_len (by decide +kernel) (pa_cons (pv 0) pa_nil)) (pv 1) (nomark _)) (pss_one (ps_ret pe_str)) pss_nil) (pss_cons (ps_if (pt_cmpR o_lt (pe_callB c_lenSet rfl T.f_len (by decide +kernel) (pa_cons (pe_scK (own := [("leg", 4)]) rfl sc_fault_of.nd (pi_tup (pv 0)) (blkOk_by (own := [("leg", 4)]) (N := ["legs", "most", "top", "rails", "leg", "rail"]) (sc := defScope s_fault_of) (by decide +kernel)) (fun _ _ _ _ _ => (pg_name (i := 4) sc_fault_of.nd rfl (by first | exact Or.inl rfl | exact Or.inr rfl))) (fun _ _ _ _ _ => pts_nil) (fun _ _ _ _ _ => (pe_fld (pv 4) rfl))) pa_nil)) (pe_callB c_len rfl T.f_len (by decide +kernel) (pa_cons (pv 0) pa_nil)) (nomark _)) (pss_one (ps_ret pe_str)) pss_nil) (pss_cons (ps_if (pt_not (pt_val (pe_fn G_is_between (hr.mono (by decide)) rfl T.g_is_between F_is_between.kp b_is_between .nil takes0 (pa_cons (pv 2) (pa_cons pe_int (pa_cons (pe_glob rfl T.g_MOST_TOP.choose_spec ⟨_, rfl⟩) pa_nil)))))) (pss_one (ps_ret pe_str)) pss_nil) (pss_one (ps_ret (pe_ifExp (pt_val (pe_callB (c_all rfl) rfl T.f_all (by decide +kernel) (pa_cons (pe_lc (own := [("rail", 5)]) rfl sc_fault_of.nd (pi_tup (pv 3)) (blkOk_by (own := [("rail", 5)]) (N := ["legs", "most", "top", "rails", "leg", "rail"]) (sc := defScope s_fault_of) (by decide +kernel)) (fun _ _ _ _ _ => (pg_name (i := 5) sc_fault_of.nd rfl (by first | exact Or.inl rfl | exact Or.inr rfl))) (fun _ _ _ _ _ => pts_nil) (fun _ _ _ _ _ => (pe_callB c_isi rfl T.f_isinstance (by decide +kernel) (pa_cons (pv 5) (pa_cons (pe_bltn (v := .ty "bool") rfl T.f_bool (by decide +kernel) rfl) pa_nil))))) pa_nil))) pe_non pe_str)))))))
theorem ok_Frame_init {fd : FuncData} (T : Tx K mg) (F : Fn_Frame_init K fd) (hP : P = PySem.Challenge.pw_strayjoins_k04_frames_refused) (hB : ∀ q ∈ tf.map (cTA K), LamX.TabB base mg q.1 q.2) : Fs P w K mg base 5 (a_Frame_init K) fd ["self", "top", "ground", "power"] "legs" (sp_Frame_init K) := by
  obtain ⟨fd_InvalidFrame_init, G_InvalidFrame_init, b_InvalidFrame_init⟩ := ok_InvalidFrame_init (P := P) (w := w) (base := base) T hP
  obtain ⟨fd_fault_of, F_fault_of⟩ := T.d_fault_of
  have G_fault_of := ok_fault_of (P := P) (w := w) (base := base) T F_fault_of
  have b_fault_of := F_fault_of.bindsN (ps := ["legs", "most", "top", "rails"]) fun _ _ _ _ _ _ us hl => match us, hl with | [_, _, _, _], _ => rfl
  have mem_T_Frame_init : ((cTA K d_Frame_init).2, ("Frame.__init__" : Str) ++ ".<locals>." ++ "<lambda>") ∈ TB K := List.mem_of_getElem? (i := 0) rfl
  have uni_T_Frame_init : ∀ p ∈ TB K, p.1 = (cTA K d_Frame_init).2 → p.2 = ("Frame.__init__" : Str) ++ ".<locals>." ++ "<lambda>" := fun p hp e => by
    rcases List.mem_cons.mp hp with rfl | hp
    · rfl
    rcases List.mem_singleton.mp hp with rfl
    exact absurd e.symm T.ta_Frame_init_law
  refine fsC_of F sc_Frame_init (fun cdv hcv A outer s H vs Q E hr h => ⟨t_Frame_init K E, ?_, pure_Frame_init T h⟩)
  exact (pss_cons (ps_set (i := 5) sc_Frame_init.nd rfl (by first | exact Or.inl rfl | exact Or.inr rfl) (pe_fn G_fault_of (hr.mono (by decide)) rfl T.g_fault_of F_fault_of.kp b_fault_of .nil (takes_of rfl rfl rfl rfl) (pa_cons (pv 4) (pa_cons (pe_con (pv 0) rfl) (pa_cons (pv 1) (pa_cons (pe_tup (pa_cons (pv 2) (pa_cons (pv 3) pa_nil))) pa_nil)))))) (pss_cons (ps_if (pt_cmpR o_isn (pv 5) pe_non (nomark _)) (pss_one (ps_raise rfl (takes_of rfl rfl rfl rfl) (pmk_x exb_value T.x_InvalidFrame.g T.x_InvalidFrame.iC T.x_InvalidFrame.tI G_InvalidFrame_init (hr.mono (by decide)) b_InvalidFrame_init (by decide) rfl T.g_InvalidFrame (pa_cons (pv 5) pa_nil)))) pss_nil) (pss_cons (ps_fld (pv 0) (pv 1) rfl) (pss_cons (ps_fld (pv 0) (pv 2) rfl) (pss_cons (ps_fld (pv 0) (pv 3) rfl) (pss_one (ps_fld (pv 0) (pe_dc (own := [("leg", 6)]) rfl sc_Frame_init.nd (pi_list (pe_sortA (k := 0) (pa_cons (pv 4) pa_nil) (hr.mono (by decide)) rfl T.f_sorted (hB _ (mem_tab_Frame_init)) hcv mem_T_Frame_init uni_T_Frame_init rfl (fun v fd h1 h2 h3 => by cases fd; cases h1; cases h2; cases h3; rfl) rfl rfl rfl rfl (by decide))) (blkOk_by (own := [("leg", 6)]) (N := ["self", "top", "ground", "power", "legs", "fault", "leg"]) (sc := defScope s_Frame_init) (by decide +kernel)) (fun _ _ _ _ _ => (pg_name (i := 6) sc_Frame_init.nd rfl (by first | exact Or.inl rfl | exact Or.inr rfl))) (fun _ _ _ _ _ => pts_nil) (fun _ _ _ _ _ => (pe_fld (pv 6) rfl)) (fun _ _ _ _ _ => (pv 6))) rfl)))))))
theorem ok_Frame_of {fd : FuncData} (T : Tx K mg) (F : Fn_Frame_of K fd) (hP : P = PySem.Challenge.pw_strayjoins_k04_frames_refused) (hB : ∀ q ∈ tf.map (cTA K), LamX.TabB base mg q.1 q.2) : Fk P w K mg base 7 (a_Frame_of K) fd ["cls", "legs", "top", "ground", "power"] (sp_Frame_of K) := by
  obtain ⟨fd_Frame_init, F_Frame_init⟩ := T.d_Frame_init
  have G_Frame_init := ok_Frame_init (P := P) (w := w) (base := base) T F_Frame_init hP hB
  obtain ⟨_, ks_Frame_init_top⟩ := tks_Frame_init_top F_Frame_init
  obtain ⟨_, ks_Frame_init_top_ground_power⟩ := tks_Frame_init_top_ground_power F_Frame_init
  obtain ⟨fd_InvalidFrame_init, G_InvalidFrame_init, b_InvalidFrame_init⟩ := ok_InvalidFrame_init (P := P) (w := w) (base := base) T hP
  refine fk_of F sc_Frame_of (fun vs H Q E h => len_Frame_of h) (fun cdv A outer s H vs Q E hr h => ⟨t_Frame_of K E, ?_, pure_Frame_of T h⟩)
  exact (pss_cons (ps_if (pt_not (pt_val (pe_callB c_isiS rfl T.f_isinstance (by decide +kernel) (pa_cons (pv 1) (pa_cons (pe_tup (pa_cons (pe_bltn (v := .ty "list") rfl T.f_list (by decide +kernel) rfl) (pa_cons (pe_bltn (v := .ty "tuple") rfl T.f_tuple (by decide +kernel) rfl) pa_nil))) pa_nil))))) (pss_one (ps_raise rfl (takes_of rfl rfl rfl rfl) (pmk_x exb_value T.x_InvalidFrame.g T.x_InvalidFrame.iC T.x_InvalidFrame.tI G_InvalidFrame_init (hr.mono (by decide)) b_InvalidFrame_init (by decide) rfl T.g_InvalidFrame (pa_cons pe_str pa_nil)))) pss_nil) (pss_one (ps_ret (pe_nwSl (i := 0) T.mk_Frame G_Frame_init (hr.mono (by decide)) rfl (.inl rfl) ks_Frame_init_top_ground_power (gks_Frame_init_top_ground_power_len) (takes_of rfl rfl rfl rfl) (pv 1) (pk_cons (pv 2) (pk_cons (pv 3) (pk_cons (pv 4) pk_nil)))))))
theorem ok_Lpen {fd : FuncData} (T : Tx K mg) (F : Fn_Lpen K fd) : Fk P w K mg base 1 (a_Lpen K) fd ["_law_script"] (sp_Lpen K) := by
  refine fk_of F sc_Lpen (fun vs H Q E h => len_Lpen h) (fun cdv A outer s H vs Q E hr h => ⟨t_Lpen K, ?_, pure_Lpen T h⟩)
  exact (pss_one (ps_ret (pe_lst (pa_cons (pe_callTy c_list rfl T.f_list (by decide +kernel) (pa_cons (pe_slice sl_u (pv 0) po_none (po_some pe_int)) pa_nil)) (pa_cons pe_int (pa_cons pe_int pa_nil))))))
theorem ok_Ldraw {fd : FuncData} (T : Tx K mg) (F : Fn_Ldraw K fd) : Fk P w K mg base 1 (a_Ldraw K) fd ["_law_pen_here", "_law_many"] (sp_Ldraw K) := by
  refine fk_of F sc_Ldraw (fun vs H Q E h => len_Ldraw h) (fun cdv A outer s H vs Q E hr h => ⟨t_Ldraw K, ?_, pure_Ldraw T h⟩)
  exact (pss_cons (ps_if (pt_cmpR o_gt (pe_ix ix_seq (pv 0) pe_int (fun _ _ => rfl)) pe_int (nomark _)) (pss_cons (ps_set (i := 2) sc_Ldraw.nd rfl (by first | exact Or.inl rfl | exact Or.inr rfl) (pe_op o_mod (pe_callTy c_int rfl T.f_int (by decide +kernel) (pa_cons (pe_ix ix_seq (pv 0) pe_int (fun _ _ => rfl)) pa_nil)) (pv 1))) (pss_cons (ps_asg (pe_op o_fdv (pe_callTy c_int rfl T.f_int (by decide +kernel) (pa_cons (pe_ix ix_seq (pv 0) pe_int (fun _ _ => rfl)) pa_nil)) (pv 1)) (pg_sub (pv 0) pe_int set_list)) (pss_one (ps_ret (pv 2))))) pss_nil) (pss_cons (ps_set (i := 3) sc_Ldraw.nd rfl (by first | exact Or.inl rfl | exact Or.inr rfl) (pe_ix ix_seq (pv 0) pe_int (fun _ _ => rfl))) (pss_cons (ps_asg (pe_op o_add (pv 3) pe_int) (pg_sub (pv 0) pe_int set_list)) (pss_cons (ps_set (i := 4) sc_Ldraw.nd rfl (by first | exact Or.inl rfl | exact Or.inr rfl) (pe_op o_add (pe_op o_mul pe_int (pv 3)) pe_int)) (pss_cons (ps_if (pt_cmpR (o_ne hr.units) (pe_ix ix_seq (pv 0) pe_int (fun _ _ => rfl)) (pe_lst pa_nil) (nomark _)) (pss_one (ps_set (i := 4) sc_Ldraw.nd rfl (by first | exact Or.inl rfl | exact Or.inr rfl) (pe_ix ix_seq (pe_ix ix_seq (pv 0) pe_int (fun _ _ => rfl)) (pe_op o_mod (pe_callTy c_int rfl T.f_int (by decide +kernel) (pa_cons (pv 3) pa_nil)) (pe_callB c_len rfl T.f_len (by decide +kernel) (pa_cons (pe_ix ix_seq (pv 0) pe_int (fun _ _ => rfl)) pa_nil))) (fun _ _ => rfl)))) pss_nil) (pss_cons (ps_if (PW.pt (pw_and (pt_cmpR o_lt (pv 3) (pe_callB c_len rfl T.f_len (by decide +kernel) (pa_cons (pe_ix ix_seq (pv 0) pe_int (fun _ _ => rfl)) pa_nil)) (nomark _)) (pw_and1 (pt_cmpR o_ge (pe_callB c_abs rfl T.f_abs (by decide +kernel) (pa_cons (pv 4) pa_nil)) (pe_op o_pow pe_int pe_int) (nomark _))))) (pss_cons (ps_set (i := 5) sc_Ldraw.nd rfl (by first | exact Or.inl rfl | exact Or.inr rfl) (pe_op o_add (pe_op o_mul pe_int (pe_callB c_abs rfl T.f_abs (by decide +kernel) (pa_cons (pv 4) pa_nil))) (pe_callTy c_int rfl T.f_int (by decide +kernel) (pa_cons (pe_cmpR o_lt (pv 4) pe_int (nomark _)) pa_nil)))) (pss_cons (ps_asg (pe_op o_fdv (pe_callTy c_int rfl T.f_int (by decide +kernel) (pa_cons (pv 5) pa_nil)) (pv 1)) (pg_sub (pv 0) pe_int set_list)) (pss_one (ps_ret (pe_op o_mod (pe_callTy c_int rfl T.f_int (by decide +kernel) (pa_cons (pv 5) pa_nil)) (pv 1)))))) pss_nil) (pss_cons (ps_set (i := 6) sc_Ldraw.nd rfl (by first | exact Or.inl rfl | exact Or.inr rfl) (pe_op o_mod (pe_op o_pow (pe_callTy c_int rfl T.f_int (by decide +kernel) (pa_cons (pe_op o_add (pe_op o_add (pe_op o_mod (pe_callTy c_int rfl T.f_int (by decide +kernel) (pa_cons (pv 4) pa_nil)) pe_int) (pe_op o_mul pe_int (pv 3))) pe_int) pa_nil)) pe_int) pe_int)) (pss_cons (ps_set (i := 6) sc_Ldraw.nd rfl (by first | exact Or.inl rfl | exact Or.inr rfl) (pe_op o_mod (pe_op o_pow (pe_callTy c_int rfl T.f_int (by decide +kernel) (pa_cons (pe_op o_add (pe_op o_add (pe_op o_mul (pv 6) (pe_op o_add (pe_op o_mul pe_int (pv 3)) pe_int)) (pe_op o_mul (pe_op o_mul pe_int (pv 3)) (pv 3))) pe_int) pa_nil)) pe_int) pe_int)) (pss_one (ps_ret (pe_op o_mod (pe_callTy c_int rfl T.f_int (by decide +kernel) (pa_cons (pe_op o_fdv (pv 6) pe_int) pa_nil)) (pv 1))))))))))))
theorem ok_Lpick {fd : FuncData} (T : Tx K mg) (F : Fn_Lpick K fd) : Fk P w K mg base 2 (a_Lpick K) fd ["_law_pen_here", "_law_some"] (sp_Lpick K) := by
  obtain ⟨fd_Ldraw, F_Ldraw⟩ := T.d_Ldraw
  have G_Ldraw := ok_Ldraw (P := P) (w := w) (base := base) T F_Ldraw
  have b_Ldraw := F_Ldraw.bindsN (ps := ["_law_pen_here", "_law_many"]) fun _ _ _ _ _ _ us hl => match us, hl with | [_, _], _ => rfl
  refine fk_of F sc_Lpick (fun vs H Q E h => len_Lpick h) (fun cdv A outer s H vs Q E hr h => ⟨t_Lpick K, ?_, pure_Lpick T h⟩)
  exact (pss_one (ps_ret (pe_ix ix_seq (pv 1) (pe_fn G_Ldraw (hr.mono (by decide)) rfl T.g_Ldraw F_Ldraw.kp b_Ldraw .nil takes0 (pa_cons (pv 0) (pa_cons (pe_callB c_len rfl T.f_len (by decide +kernel) (pa_cons (pv 1) pa_nil)) pa_nil))) (fun _ _ => rfl))))
theorem ok_Ltags {fd : FuncData} (T : Tx K mg) (F : Fn_Ltags K fd) : Fk P w K mg base 2 (a_Ltags K) fd ["_law_pen_here", "_law_many"] (sp_Ltags K) := by
  obtain ⟨fd_Ldraw, F_Ldraw⟩ := T.d_Ldraw
  have G_Ldraw := ok_Ldraw (P := P) (w := w) (base := base) T F_Ldraw
  have b_Ldraw := F_Ldraw.bindsN (ps := ["_law_pen_here", "_law_many"]) fun _ _ _ _ _ _ us hl => match us, hl with | [_, _], _ => rfl
  refine fk_of F sc_Ltags (fun vs H Q E h => len_Ltags h) (fun cdv A outer s H vs Q E hr h => ⟨t_Ltags K, ?_, pure_Ltags T h⟩)
  exact (pss_cons (ps_set (i := 2) sc_Ltags.nd rfl (by first | exact Or.inl rfl | exact Or.inr rfl) (pe_lst (pa_cons pe_str (pa_cons pe_str (pa_cons pe_str (pa_cons pe_str (pa_cons pe_str (pa_cons pe_str (pa_cons pe_str (pa_cons pe_str (pa_cons pe_str pa_nil))))))))))) (pss_cons (ps_set (i := 2) sc_Ltags.nd rfl (by first | exact Or.inl rfl | exact Or.inr rfl) (pe_op o_add (pv 2) (pe_lst (pa_cons pe_str (pa_cons pe_str (pa_cons pe_str (pa_cons pe_str (pa_cons pe_str (pa_cons pe_str (pa_cons pe_str pa_nil)))))))))) (pss_one (ps_ret (pe_lc (own := [("_law_turn", 3)]) rfl sc_Ltags.nd (pi_range1 rfl T.f_range (pa_cons (pv 1) pa_nil)) (blkOk_by (own := [("_law_turn", 3)]) (N := ["_law_pen_here", "_law_many", "_law_pool", "_law_turn"]) (sc := defScope s_Ltags) (by decide +kernel)) (fun _ _ _ _ _ => (pg_name (i := 3) sc_Ltags.nd rfl (by first | exact Or.inl rfl | exact Or.inr rfl))) (fun _ _ _ _ _ => pts_nil) (fun _ _ _ _ _ => (pe_bm PySem.F.plainAttrs_list PySem.F.slot_list_pop PySem.F.type_list_pop mt_popAt (pv 2) (pa_cons (pe_fn G_Ldraw (hr.mono (by decide)) rfl T.g_Ldraw F_Ldraw.kp b_Ldraw .nil takes0 (pa_cons (pv 0) (pa_cons (pe_callB c_len rfl T.f_len (by decide +kernel) (pa_cons (pv 2) pa_nil)) pa_nil))) pa_nil))))))))
theorem gv_Lheard {X : Cx} {k : Nat} {cdv : Value} {q : Str} (hk : 1 ≤ k + 1) (T : Tx X.K X.mg) : GivesR X k ["_law_ask", "_law_caught", "error"] "_law_heard" (defScope s_Lheard) (a_Lheard X.K) cdv (defBody s_Lheard) "_law_ask" q (TT_Lheard X.K) := fun f c s H Q tl hr act hc h => ⟨t_Lheard X.K f c q tl, (pss_cons (ps_set (i := 1) sc_Lheard.nd rfl (by first | exact Or.inl rfl | exact Or.inr rfl) pe_non) (pss_cons (ps_tryK (i := 2) rfl rfl sc_Lheard.nd rfl rfl rfl T.g_JoinError takes0 (fun W pn xe tk pso => (pss_one (ps_expr (act _ _ _ _ _ tk)))) (fun a oe cls d pn hz hf => (pss_one (ps_set (i := 1) sc_Lheard.nd rfl (by first | exact Or.inl rfl | exact Or.inr rfl) (pv 2))))) (pss_cons (ps_if (pt_cmpR o_is (pv 1) pe_non (nomark _)) (pss_one (ps_ret pe_non)) pss_nil) (pss_one (ps_ret (pe_ifExp (PW.pt (pw_and (pt_val (pe_callB c_isiU rfl T.f_isinstance (by decide +kernel) (pa_cons (pv 1) (pa_cons (pe_glob rfl T.g_InvalidFrame rfl) pa_nil)))) (pw_and1 (pt_val (pe_callB c_isiU rfl T.f_isinstance (by decide +kernel) (pa_cons (pv 1) (pa_cons (pe_bltn (v := .ty "ValueError") rfl T.f_ValueError (by decide +kernel) rfl) pa_nil))))))) (pe_xv (pv 1)) pe_str)))))), pure_Lheard T h hc⟩
theorem ok_Ldrawn {fd : FuncData} (T : Tx K mg) (F : Fn_Ldrawn K fd) (hP : P = PySem.Challenge.pw_strayjoins_k04_frames_refused) : Fk P w K mg base 5 (a_Ldrawn K) fd ["_law_pen_here"] (sp_Ldrawn K) := by
  obtain ⟨fd_Lpick, F_Lpick⟩ := T.d_Lpick
  have G_Lpick := ok_Lpick (P := P) (w := w) (base := base) T F_Lpick
  have b_Lpick := F_Lpick.bindsN (ps := ["_law_pen_here", "_law_some"]) fun _ _ _ _ _ _ us hl => match us, hl with | [_, _], _ => rfl
  obtain ⟨fd_Ldraw, F_Ldraw⟩ := T.d_Ldraw
  have G_Ldraw := ok_Ldraw (P := P) (w := w) (base := base) T F_Ldraw
  have b_Ldraw := F_Ldraw.bindsN (ps := ["_law_pen_here", "_law_many"]) fun _ _ _ _ _ _ us hl => match us, hl with | [_, _], _ => rfl
  obtain ⟨fd_Leg_init, F_Leg_init⟩ := T.d_Leg_init
  have G_Leg_init := ok_Leg_init (P := P) (w := w) (base := base) T F_Leg_init hP
  have b_Leg_init := F_Leg_init.bindsN (ps := ["self", "name"]) fun _ _ _ _ _ _ us hl => match us, hl with | [_, _], _ => rfl
  obtain ⟨fd_Ltags, F_Ltags⟩ := T.d_Ltags
  have G_Ltags := ok_Ltags (P := P) (w := w) (base := base) T F_Ltags
  have b_Ltags := F_Ltags.bindsN (ps := ["_law_pen_here", "_law_many"]) fun _ _ _ _ _ _ us hl => match us, hl with | [_, _], _ => rfl
  refine fk_of F sc_Ldrawn (fun vs H Q E h => len_Ldrawn h) (fun cdv A outer s H vs Q E hr h => ⟨t_Ldrawn K, ?_, pure_Ldrawn T h⟩)
  exact (pss_cons (ps_setLc (i := 1) (own := [("_law_tag", 2)]) rfl sc_Ldrawn.nd rfl rfl (sw_true rfl rfl rfl (by decide +kernel)) (pi_list (pe_fn G_Ltags (hr.mono (by decide)) rfl T.g_Ltags F_Ltags.kp b_Ltags .nil takes0 (pa_cons (pv 0) (pa_cons (pe_fn G_Ldraw (hr.mono (by decide)) rfl T.g_Ldraw F_Ldraw.kp b_Ldraw .nil takes0 (pa_cons (pv 0) (pa_cons pe_int pa_nil))) pa_nil)))) (blkOk_by (own := [("_law_tag", 2)]) (N := ["_law_pen_here", "_law_legs_so", "_law_tag", "_law_wrong", "_law_turn", "_law_k", "_law_odd", "_law_far", "_law_rails_so", "_law_reasons", "_law_word", "_law_is_wrong"]) (sc := defScope s_Ldrawn) (by decide +kernel)) (fun _ _ _ _ _ => (pg_name (i := 2) sc_Ldrawn.nd rfl (by first | exact Or.inl rfl | exact Or.inr rfl))) (fun _ _ _ _ _ => pts_nil) (fun _ _ _ _ _ => (pe_nw T.mk_Driver G_Leg_init (hr.mono (by decide)) rfl T.g_Driver b_Leg_init .nil takes0 (pa_cons (pv 2) pa_nil)))) (pss_cons (ps_setLc (i := 3) (own := [("_law_turn", 4)]) rfl sc_Ldrawn.nd rfl rfl (sw_true rfl rfl rfl (by decide +kernel)) (pi_range1 rfl T.f_range (pa_cons pe_int pa_nil)) (blkOk_by (own := [("_law_turn", 4)]) (N := ["_law_pen_here", "_law_legs_so", "_law_tag", "_law_wrong", "_law_turn", "_law_k", "_law_odd", "_law_far", "_law_rails_so", "_law_reasons", "_law_word", "_law_is_wrong"]) (sc := defScope s_Ldrawn) (by decide +kernel)) (fun _ _ _ _ _ => (pg_name (i := 4) sc_Ldrawn.nd rfl (by first | exact Or.inl rfl | exact Or.inr rfl))) (fun _ _ _ _ _ => pts_nil) (fun _ _ _ _ _ => (pe_cmpR (o_eq hr.units) (pe_fn G_Ldraw (hr.mono (by decide)) rfl T.g_Ldraw F_Ldraw.kp b_Ldraw .nil takes0 (pa_cons (pv 0) (pa_cons pe_int pa_nil))) pe_int (nomark _)))) (pss_cons (ps_if (pt_val (pe_ix ix_seq (pv 3) pe_int (fun _ _ => rfl))) (pss_one (ps_set (i := 1) sc_Ldrawn.nd rfl (by first | exact Or.inl rfl | exact Or.inr rfl) (pe_op o_add (pv 1) (pe_lc (own := [("_law_k", 5)]) rfl sc_Ldrawn.nd (pi_range1 rfl T.f_range (pa_cons pe_int pa_nil)) (blkOk_by (own := [("_law_k", 5)]) (N := ["_law_pen_here", "_law_legs_so", "_law_tag", "_law_wrong", "_law_turn", "_law_k", "_law_odd", "_law_far", "_law_rails_so", "_law_reasons", "_law_word", "_law_is_wrong"]) (sc := defScope s_Ldrawn) (by decide +kernel)) (fun _ _ _ _ _ => (pg_name (i := 5) sc_Ldrawn.nd rfl (by first | exact Or.inl rfl | exact Or.inr rfl))) (fun _ _ _ _ _ => pts_nil) (fun _ _ _ _ _ => (pe_nw T.mk_Listener G_Leg_init (hr.mono (by decide)) rfl T.g_Listener b_Leg_init .nil takes0 (pa_cons (pe_op o_add (pe_op o_add pe_str (pe_ix ix_seq pe_str (pe_op o_fdv (pv 5) pe_int) (fun _ _ => rfl))) (pe_ix ix_seq pe_str (pe_op o_mod (pe_callTy c_int rfl T.f_int (by decide +kernel) (pa_cons (pv 5) pa_nil)) pe_int) (fun _ _ => rfl))) pa_nil))))))) pss_nil) (pss_cons (ps_if (pt_val (pe_ix ix_seq (pv 3) pe_int (fun _ _ => rfl))) (pss_one (ps_set (i := 1) sc_Ldrawn.nd rfl (by first | exact Or.inl rfl | exact Or.inr rfl) (pe_op o_add (pv 1) (pe_lst (pa_cons (pe_nw T.mk_Driver G_Leg_init (hr.mono (by decide)) rfl T.g_Driver b_Leg_init .nil takes0 (pa_cons pe_str pa_nil)) (pa_cons (pe_nw T.mk_Listener G_Leg_init (hr.mono (by decide)) rfl T.g_Listener b_Leg_init .nil takes0 (pa_cons pe_str pa_nil)) pa_nil)))))) pss_nil) (pss_cons (ps_if (pt_val (pe_ix ix_seq (pv 3) pe_int (fun _ _ => rfl))) (pss_cons (ps_set (i := 6) sc_Ldrawn.nd rfl (by first | exact Or.inl rfl | exact Or.inr rfl) (pe_fn G_Lpick (hr.mono (by decide)) rfl T.g_Lpick F_Lpick.kp b_Lpick .nil takes0 (pa_cons (pv 0) (pa_cons (pe_lst (pa_cons pe_non (pa_cons pe_str (pa_cons (pe_nw T.mk_Leg G_Leg_init (hr.mono (by decide)) rfl T.g_Leg b_Leg_init .nil takes0 (pa_cons pe_str pa_nil)) (pa_cons pe_int (pa_cons (pe_tup pa_nil) (pa_cons pe_str pa_nil))))))) pa_nil)))) (pss_one (ps_expr (pe_bm PySem.F.plainAttrs_list PySem.F.slot_list_insert PySem.F.type_list_insert mt_ins (pv 1) (pa_cons (pe_fn G_Ldraw (hr.mono (by decide)) rfl T.g_Ldraw F_Ldraw.kp b_Ldraw .nil takes0 (pa_cons (pv 0) (pa_cons (pe_op o_add (pe_callB c_len rfl T.f_len (by decide +kernel) (pa_cons (pv 1) pa_nil)) pe_int) pa_nil))) (pa_cons (pv 6) pa_nil)))))) pss_nil) (pss_cons (ps_set (i := 7) sc_Ldrawn.nd rfl (by first | exact Or.inl rfl | exact Or.inr rfl) (pe_ifExp (pt_val (pe_ix ix_seq (pv 3) pe_int (fun _ _ => rfl))) (pe_fn G_Lpick (hr.mono (by decide)) rfl T.g_Lpick F_Lpick.kp b_Lpick .nil takes0 (pa_cons (pv 0) (pa_cons (pe_lst (pa_cons pe_int (pa_cons pe_int (pa_cons (pe_un un_neg pe_int) (pa_cons pe_bl (pa_cons pe_non (pa_cons pe_str (pa_cons (pe_tup (pa_cons pe_int pa_nil)) (pa_cons (pe_op o_pow pe_int pe_int) pa_nil))))))))) pa_nil))) (pe_op o_add pe_int (pe_fn G_Ldraw (hr.mono (by decide)) rfl T.g_Ldraw F_Ldraw.kp b_Ldraw .nil takes0 (pa_cons (pv 0) (pa_cons pe_int pa_nil)))))) (pss_cons (ps_set (i := 8) sc_Ldrawn.nd rfl (by first | exact Or.inl rfl | exact Or.inr rfl) (pe_lst (pa_cons (pe_cmpR (o_eq hr.units) (pe_fn G_Ldraw (hr.mono (by decide)) rfl T.g_Ldraw F_Ldraw.kp b_Ldraw .nil takes0 (pa_cons (pv 0) (pa_cons pe_int pa_nil))) pe_int (nomark _)) (pa_cons (pe_cmpR (o_eq hr.units) (pe_fn G_Ldraw (hr.mono (by decide)) rfl T.g_Ldraw F_Ldraw.kp b_Ldraw .nil takes0 (pa_cons (pv 0) (pa_cons pe_int pa_nil))) pe_int (nomark _)) pa_nil)))) (pss_cons (ps_if (pt_val (pe_ix ix_seq (pv 3) pe_int (fun _ _ => rfl))) (pss_one (ps_asg (pe_fn G_Lpick (hr.mono (by decide)) rfl T.g_Lpick F_Lpick.kp b_Lpick .nil takes0 (pa_cons (pv 0) (pa_cons (pe_lst (pa_cons pe_int (pa_cons pe_int (pa_cons pe_non (pa_cons pe_str (pa_cons pe_str (pa_cons (pe_tup pa_nil) (pa_cons (pe_lst pa_nil) pa_nil)))))))) pa_nil))) (pg_sub (pv 8) (pe_fn G_Ldraw (hr.mono (by decide)) rfl T.g_Ldraw F_Ldraw.kp b_Ldraw .nil takes0 (pa_cons (pv 0) (pa_cons pe_int pa_nil))) set_list))) pss_nil) (pss_cons (ps_setLc (i := 9) (own := [("_law_word", 10), ("_law_is_wrong", 11)]) rfl sc_Ldrawn.nd rfl rfl (sw_true rfl rfl rfl (by decide +kernel)) (pi_zip rfl T.f_zip (pa_cons (pe_lst (pa_cons pe_str (pa_cons pe_str (pa_cons pe_str (pa_cons pe_str (pa_cons pe_str pa_nil)))))) (pa_cons (pv 3) pa_nil))) (blkOk_by (own := [("_law_word", 10), ("_law_is_wrong", 11)]) (N := ["_law_pen_here", "_law_legs_so", "_law_tag", "_law_wrong", "_law_turn", "_law_k", "_law_odd", "_law_far", "_law_rails_so", "_law_reasons", "_law_word", "_law_is_wrong"]) (sc := defScope s_Ldrawn) (by decide +kernel)) (fun _ _ _ _ _ => (pg_tup rfl (pgs_cons (pg_name (i := 10) sc_Ldrawn.nd rfl (by first | exact Or.inl rfl | exact Or.inr rfl)) (pgs_cons (pg_name (i := 11) sc_Ldrawn.nd rfl (by first | exact Or.inl rfl | exact Or.inr rfl)) pgs_nil)))) (fun _ _ _ _ _ => (pts_one (pt_val (pv 11)))) (fun _ _ _ _ _ => (pv 10))) (pss_one (ps_ret (pe_tup (pa_cons (pv 1) (pa_cons (pv 7) (pa_cons (pv 8) (pa_cons (pe_ix ix_seq (pe_op o_add (pv 9) (pe_lst (pa_cons pe_non pa_nil))) pe_int (fun _ _ => rfl)) pa_nil))))))))))))))))
theorem ok_law {fd : FuncData} (T : Tx K mg) (F : Fn_law K fd) (hP : P = PySem.Challenge.pw_strayjoins_k04_frames_refused) (hB : ∀ q ∈ tf.map (cTA K), LamX.TabB base mg q.1 q.2) : Fk P w K mg base 10 (a_law K) fd ["_law_script"] (sp_law K) := by
  obtain ⟨fd_Lheard, F_Lheard⟩ := T.d_Lheard
  have b_Lheard := F_Lheard.bindsN (ps := ["_law_ask"]) fun _ _ _ _ _ _ us hl => match us, hl with | [_], _ => rfl
  obtain ⟨fd_Frame_init, F_Frame_init⟩ := T.d_Frame_init
  have G_Frame_init := ok_Frame_init (P := P) (w := w) (base := base) T F_Frame_init hP hB
  obtain ⟨_, ks_Frame_init_top⟩ := tks_Frame_init_top F_Frame_init
  obtain ⟨_, ks_Frame_init_top_ground_power⟩ := tks_Frame_init_top_ground_power F_Frame_init
  obtain ⟨fd_Leg_init, F_Leg_init⟩ := T.d_Leg_init
  have G_Leg_init := ok_Leg_init (P := P) (w := w) (base := base) T F_Leg_init hP
  have b_Leg_init := F_Leg_init.bindsN (ps := ["self", "name"]) fun _ _ _ _ _ _ us hl => match us, hl with | [_, _], _ => rfl
  obtain ⟨fd_Frame_of, F_Frame_of⟩ := T.d_Frame_of
  have G_Frame_of := ok_Frame_of (P := P) (w := w) (base := base) T F_Frame_of hP hB
  obtain ⟨_, kbm_Frame_of_2_power_ground_top⟩ := tkbm_Frame_of_2_power_ground_top F_Frame_of
  obtain ⟨_, kbm_Frame_of_2_top⟩ := tkbm_Frame_of_2_top F_Frame_of
  obtain ⟨_, kbm_Frame_of_2_top_ground_power⟩ := tkbm_Frame_of_2_top_ground_power F_Frame_of
  obtain ⟨fd_Leg_eq, F_Leg_eq⟩ := T.d_Leg_eq
  have G_Leg_eq := ok_Leg_eq (P := P) (w := w) (base := base) T F_Leg_eq
  have b_Leg_eq := F_Leg_eq.bindsN (ps := ["self", "other"]) fun _ _ _ _ _ _ us hl => match us, hl with | [_, _], _ => rfl
  obtain ⟨fd_Ldrawn, F_Ldrawn⟩ := T.d_Ldrawn
  have G_Ldrawn := ok_Ldrawn (P := P) (w := w) (base := base) T F_Ldrawn hP
  have b_Ldrawn := F_Ldrawn.bindsN (ps := ["_law_pen_here"]) fun _ _ _ _ _ _ us hl => match us, hl with | [_], _ => rfl
  obtain ⟨fd_Lpen, F_Lpen⟩ := T.d_Lpen
  have G_Lpen := ok_Lpen (P := P) (w := w) (base := base) T F_Lpen
  have b_Lpen := F_Lpen.bindsN (ps := ["_law_script"]) fun _ _ _ _ _ _ us hl => match us, hl with | [_], _ => rfl
  have mem_T_law : ((cTA K d_law).2, ("law" : Str) ++ ".<locals>." ++ "<lambda>") ∈ TB K := List.mem_of_getElem? (i := 1) rfl
  have uni_T_law : ∀ p ∈ TB K, p.1 = (cTA K d_law).2 → p.2 = ("law" : Str) ++ ".<locals>." ++ "<lambda>" := fun p hp e => by
    rcases List.mem_cons.mp hp with rfl | hp
    · exact absurd e T.ta_Frame_init_law
    rcases List.mem_singleton.mp hp with rfl
    rfl
  refine fkC_of F sc_law (fun vs H Q E h => len_law h) (fun cdv hcv A outer s H vs Q E hr h => ⟨t_law K, ?_, pure_law T h⟩)
  exact (pss_cons (ps_set (i := 1) sc_law.nd rfl (by first | exact Or.inl rfl | exact Or.inr rfl) (pe_fn G_Lpen (hr.mono (by decide)) rfl T.g_Lpen F_Lpen.kp b_Lpen .nil takes0 (pa_cons (pv 0) pa_nil))) (pss_cons (ps_for (passes_of rfl) rfl (pi_range1 rfl T.f_range (pa_cons pe_int pa_nil)) (pg_name (i := 2) sc_law.nd rfl (by first | exact Or.inl rfl | exact Or.inr rfl)) (pss_cons (ps_asg (pe_fn G_Ldrawn (hr.mono (by decide)) rfl T.g_Ldrawn F_Ldrawn.kp b_Ldrawn .nil takes0 (pa_cons (pv 1) pa_nil)) (pg_tup rfl (pgs_cons (pg_name (i := 3) sc_law.nd rfl (by first | exact Or.inl rfl | exact Or.inr rfl)) (pgs_cons (pg_name (i := 4) sc_law.nd rfl (by first | exact Or.inl rfl | exact Or.inr rfl)) (pgs_cons (pg_name (i := 5) sc_law.nd rfl (by first | exact Or.inl rfl | exact Or.inr rfl)) (pgs_cons (pg_name (i := 6) sc_law.nd rfl (by first | exact Or.inl rfl | exact Or.inr rfl)) pgs_nil)))))) (pss_cons (ps_set (i := 7) sc_law.nd rfl (by first | exact Or.inl rfl | exact Or.inr rfl) (pe_lst (pa_cons (pe_lamR (k := 7) F_Lheard rfl T.g_Lheard F_Lheard.kp b_Lheard sc_Lheard rfl (.inl rfl) (fun cdv => gv_Lheard (by decide) T) (hB _ (mem_tab_law)) hcv mem_T_law uni_T_law (hr.mono (by decide)) (lamS_by (sc := defScope s_law) (by decide +kernel)) rfl (fun _ _ _ _ _ => rfl) (fun A o2 s2 H2 E fl cl hr => pe_tS takes_lam fun W tk => (pe_cmK (n := 1) (pe_glob rfl T.g_Frame rfl) T.cm_Frame_of.1 T.cm_Frame_of.2 G_Frame_of (hr.mono (by decide)) kbm_Frame_of_2_top_ground_power tk (pa_cons (pv 3) pa_nil) (pk_cons (pv 4) (pk_cons (pe_ix ix_seq (pv 5) pe_int (fun _ _ => rfl)) (pk_cons (pe_ix ix_seq (pv 5) pe_int (fun _ _ => rfl)) pk_nil)))))) pa_nil))) (pss_cons (ps_expr (pe_bm PySem.F.plainAttrs_list PySem.F.slot_list_append PySem.F.type_list_append mt_append (pv 7) (pa_cons (pe_lamR (k := 7) F_Lheard rfl T.g_Lheard F_Lheard.kp b_Lheard sc_Lheard rfl (.inl rfl) (fun cdv => gv_Lheard (by decide) T) (hB _ (mem_tab_law)) hcv mem_T_law uni_T_law (hr.mono (by decide)) (lamS_by (sc := defScope s_law) (by decide +kernel)) rfl (fun _ _ _ _ _ => rfl) (fun A o2 s2 H2 E fl cl hr => pe_tS takes_lam fun W tk => (pe_cmK (n := 1) (pe_glob rfl T.g_Frame rfl) T.cm_Frame_of.1 T.cm_Frame_of.2 G_Frame_of (hr.mono (by decide)) kbm_Frame_of_2_power_ground_top tk (pa_cons (pe_callTy c_tuple rfl T.f_tuple (by decide +kernel) (pa_cons (pv 3) pa_nil)) pa_nil) (pk_cons (pe_ix ix_seq (pv 5) pe_int (fun _ _ => rfl)) (pk_cons (pe_ix ix_seq (pv 5) pe_int (fun _ _ => rfl)) (pk_cons (pv 4) pk_nil)))))) pa_nil))) (pss_cons (ps_if (pt_cmpR (o_ne hr.units) (pv 7) (pe_op o_mul (pe_lst (pa_cons (pv 6) pa_nil)) pe_int) (nomark _)) (pss_one (ps_ret pe_bl)) pss_nil) (pss_cons (ps_set (i := 8) sc_law.nd rfl (by first | exact Or.inl rfl | exact Or.inr rfl) (pe_slice sl_u (pe_op o_add (pv 3) (pe_lst (pa_cons pe_non (pa_cons pe_non pa_nil)))) po_none (po_some pe_int))) (pss_cons (ps_set (i := 9) sc_law.nd rfl (by first | exact Or.inl rfl | exact Or.inr rfl) (pe_cmpR (seqC_run (k := 1) false ((eq_same.up (Nat.zero_le _)).or ((eq_own G_Leg_eq T.fn_Leg_eq b_Leg_eq).up (by decide))) (hr.mono (by decide))) (pe_lc (own := [("_law_one", 10)]) rfl sc_law.nd (pi_list (pv 8)) (blkOk_by (own := [("_law_one", 10)]) (N := ["_law_script", "_law_pen_here", "_law_turn", "_law_legs_so", "_law_far", "_law_rails_so", "_law_due", "_law_told", "_law_pair", "_law_is_wrong", "_law_one", "_law_odd"]) (sc := defScope s_law) (by decide +kernel)) (fun _ _ _ _ _ => (pg_name (i := 10) sc_law.nd rfl (by first | exact Or.inl rfl | exact Or.inr rfl))) (fun _ _ _ _ _ => (pts_one (pt_not (pt_val (pe_callB c_isiS rfl T.f_isinstance (by decide +kernel) (pa_cons (pv 10) (pa_cons (pe_tup (pa_cons (pe_glob rfl T.g_Driver rfl) (pa_cons (pe_glob rfl T.g_Listener rfl) pa_nil))) pa_nil))))))) (fun _ _ _ _ _ => (pv 10))) (pe_lst pa_nil) (nomark _))) (pss_one (ps_if (PW.pt (pw_and (pt_val (pv 9)) (pw_and1 (pt_cmpR (o_ne hr.units) (pe_lamR (k := 6) F_Lheard rfl T.g_Lheard F_Lheard.kp b_Lheard sc_Lheard rfl (.inl rfl) (fun cdv => gv_Lheard (by decide) T) (hB _ (mem_tab_law)) hcv mem_T_law uni_T_law (hr.mono (by decide)) (lamS_by (sc := defScope s_law) (by decide +kernel)) rfl (fun _ _ _ _ _ => rfl) (fun A o2 s2 H2 E fl cl hr => pe_tS takes_lam fun W tk => (pe_nwSK T.mk_Frame G_Frame_init (hr.mono (by decide)) rfl T.g_Frame ks_Frame_init_top (gks_Frame_init_top_len) tk (pa_cons (pe_ix ix_seq (pv 8) pe_int (fun _ _ => rfl)) (pa_cons (pe_ix ix_seq (pv 8) pe_int (fun _ _ => rfl)) pa_nil)) (pk_cons (pv 4) pk_nil)))) pe_str (nomark _))))) (pss_one (ps_ret pe_bl)) pss_nil))))))))) (pss_cons (ps_for (passes_of rfl) rfl (pi_tup (pe_tup (pa_cons pe_non (pa_cons pe_str (pa_cons (pe_nw T.mk_Driver G_Leg_init (hr.mono (by decide)) rfl T.g_Driver b_Leg_init .nil takes0 (pa_cons pe_str pa_nil)) (pa_cons pe_dnewK (pa_cons pe_int (pa_cons pe_bl pa_nil)))))))) (pg_name (i := 11) sc_law.nd rfl (by first | exact Or.inl rfl | exact Or.inr rfl)) (pss_one (ps_if (pt_cmpR (o_ne hr.units) (pe_lamR (k := 7) F_Lheard rfl T.g_Lheard F_Lheard.kp b_Lheard sc_Lheard rfl (.inl rfl) (fun cdv => gv_Lheard (by decide) T) (hB _ (mem_tab_law)) hcv mem_T_law uni_T_law (hr.mono (by decide)) (lamS_by (sc := defScope s_law) (by decide +kernel)) rfl (fun _ _ _ _ _ => rfl) (fun A o2 s2 H2 E fl cl hr => pe_tS takes_lam fun W tk => (pe_cmK (n := 1) (pe_glob rfl T.g_Frame rfl) T.cm_Frame_of.1 T.cm_Frame_of.2 G_Frame_of (hr.mono (by decide)) kbm_Frame_of_2_top tk (pa_cons (pv 11) pa_nil) (pk_cons pe_int pk_nil)))) pe_str (nomark _)) (pss_one (ps_ret pe_bl)) pss_nil))) (pss_one (ps_ret (pe_cmpR (o_eq hr.units) (pe_lamR (k := 6) F_Lheard rfl T.g_Lheard F_Lheard.kp b_Lheard sc_Lheard rfl (.inl rfl) (fun cdv => gv_Lheard (by decide) T) (hB _ (mem_tab_law)) hcv mem_T_law uni_T_law (hr.mono (by decide)) (lamS_by (sc := defScope s_law) (by decide +kernel)) rfl (fun _ _ _ _ _ => rfl) (fun A o2 s2 H2 E fl cl hr => pe_tS takes_lam fun W tk => (pe_nwSK T.mk_Frame G_Frame_init (hr.mono (by decide)) rfl T.g_Frame ks_Frame_init_top (gks_Frame_init_top_len) tk (pa_cons (pe_nw T.mk_Driver G_Leg_init (hr.mono (by decide)) rfl T.g_Driver b_Leg_init .nil tk (pa_cons pe_str pa_nil)) (pa_cons (pe_nw T.mk_Listener G_Leg_init (hr.mono (by decide)) rfl T.g_Listener b_Leg_init .nil tk (pa_cons pe_str pa_nil)) pa_nil)) (pk_cons pe_int pk_nil)))) pe_str (nomark _)))))))
end
end K04

namespace K04
open PySem PySem.Spec PyProof.Rows L2 He SJ
open LamX (CodeO lamS_by Tabs tLam)
def loose0 : List PySem.Str := ["_wall", "__name__", "JoinError", "InvalidFrame", "MissingError", "NoLeg", "LETTERS", "MOST_LETTERS", "GROUND", "POWER", "NOTHING", "is_integer", "is_between", "is_name", "Leg", "Driver"]
def loose1 : List PySem.Str := ["Listener", "MOST_TOP", "fault_of", "Frame", "_law_pen", "_law_draw", "_law_pick", "_law_tags", "_law_heard", "_law_drawn"]
def loose : List PySem.Str := loose0 ++ loose1
abbrev R : PySem.W.OpenRow := PySem.W.OpenLaw.row PySem.Challenge.rw_strayjoins_k04_frames_refused
abbrev file : Str := PySem.Challenge.pw_strayjoins_k04_frames_refused.main.file
abbrev hk : PySem.W.Hook := hookW 7 file fa fn fx tf
def ob (s : PySem.W.SharedT) : AlW := obsW 7 file fa fn fx tf (HandSHeadRun.getT s)
theorem ob_eq (s : PySem.W.SharedT) : ob s = hk.obs s.abs := obsW_eq (HandSHeadRun.getT_eq s)
theorem run (w : World) : HandSHeadRun.RunEq R (PySem.W.view R.prog [30]) hk ob 6000 loose w := by
  intro os
  kernel_rfl
end K04

open PySem PySem.W PySem.Calls PyProof.Rows in
set_option maxRecDepth 100000 in
set_option maxHeartbeats 0 in
theorem PySem.Challenge.cw_strayjoins_k04_frames_refused_holds : PySem.Challenge.rw_strayjoins_k04_frames_refused.Holds := by
  w_on; o_law
  refine HandSHeadRun.head_any (r := OpenLaw.row PySem.Challenge.rw_strayjoins_k04_frames_refused) (q := view (OpenLaw.row PySem.Challenge.rw_strayjoins_k04_frames_refused).prog [30]) (H := K04.hk) (ob := K04.ob) (M := 6000) (loose := K04.loose) (d := HandSHeadRun.topDef (OpenLaw.row PySem.Challenge.rw_strayjoins_k04_frames_refused).prog 30) (kwd := []) K04.ob_eq
    (by kernel_rfl) (fun s => by kernel_rfl) K04.run (by kernel_rfl) (by kernel_rfl) (by kernel_rfl) (by rfl) (by first | assumption | decide +kernel) (by decide +kernel) ⟨rfl, rfl, rfl, rfl, rfl, by decide +kernel⟩ ?hw ?hc
  case hw => w_witness2
  case hc =>
    refine SJ.walk_tab (l := PySem.Challenge.rw_strayjoins_k04_frames_refused) (n := 63) (k := 10) (x := "_law_script") rfl (by decide) (by kernel_rfl) ⟨⟨rfl, by decide, by decide⟩, rfl⟩ ?F
    intro w mg fa h Y G hmg0
    obtain ⟨K, KX, c⟩ := Y
    have T := K04.tx_of KX G c.z
    have hmg : mg ("law" : PySem.Str) = some (.ref fa) := by
      have e : (HandSHeadRun.topDef (OpenLaw.row PySem.Challenge.rw_strayjoins_k04_frames_refused).prog 30).name = ("law" : PySem.Str) := by kernel_rfl
      rw [← e]
      exact hmg0
    obtain ⟨fd, F⟩ := T.d_law
    obtain rfl : fa = K04.a_law K := by
      have e := hmg.symm.trans T.g_law
      cases e; rfl
    have b := L2.FunD.bindsA (ps := ["_law_script"]) F fun _ _ _ _ _ _ us hl => match us, hl with | [_], _ => rfl
    exact ⟨K, fd, _, K04.sp_law K, KX, c.tabs KX, fun s v => b s [v] rfl, fun H a ns hl hT hS ho => K04.law_sp hl hT hS ho, fun base _ _ hB => K04.ok_law T F rfl hB⟩

