import PyProof.Rows.All
import Wide.All
import OpenK.AllK
import Wide.FinOn
import HandS.ForMost
import HandS.ForExc
import HandS.ExcInit
import HandS.Wide
import HandS.IsInst
import HandS.Evl
import HandS.Defaults
import HandS.Head0
import HandS.Head1
import HandS.Head2
import HandS.HeadEnd
import HandS.HeadHook1
import HandS.HeadHook2
import HandS.HeadNt
import KE.GoesMore
import HandS.Walk
import HandS.SortInts
import HandS.SortRule
import HandS.TupSets
import HandS.More
import HandS.Star
import HandS.MakeKwOnly
import HandS.Property
import PyProof.InstNe
import HandS.ExcOwn
import HandS.ExcField
import HandS.Lambda
import HandS.Strs
import HandS.SetBool
import HandS.SetFor
import KE.GoesNew
import HandS.Gcd
import KE.KMathGC
import HandS.Head3
import PySem.Challenge.RW_jawturns_k13_plan_refusals
set_option Elab.async false
set_option linter.all false
set_option maxRecDepth 100000
set_option maxHeartbeats 4000000
namespace J
open PySem L2 He
abbrev Fr1 := PySem.W.Frag
/-! ### what the top has written, by names -/
def fdOf (K : Fr1) (a : Addr) : FuncData := match K.lookup a with
  | some ⟨_, _, .func fd, _⟩ => fd
  | _ => default
abbrev Fn (K : Fr1) (x q : Str) (st : Stmt) (dvs : List V) (kws : List (Str × V)) (f : Addr) : Prop := FunD K x q (defArgs st) (defBody st) (defScope st) dvs kws f (fdOf K f)
theorem fn_at {K : Fr1} {x q : Str} {st : Stmt} {dvs : List V} {kws : List (Str × V)} {f : Addr} (h : ∃ fd, FunD K x q (defArgs st) (defBody st) (defScope st) dvs kws f fd) : Fn K x q st dvs kws f := by
  obtain ⟨fd, F⟩ := h
  obtain ⟨oc, od, dV, kV, doc, pm, an, cdv, ct, osl, e, l, r⟩ := F.ex
  have z : fdOf K f = fd := by unfold fdOf; rw [l]
  show FunD K x q _ _ _ dvs kws f (fdOf K f)
  rw [z]
  exact F
/-- an own exception class over ValueError -/
def oexB (K : Fr1) (C : Addr) : Bool := (match K.lookup C with
  | some ⟨.type "type", _, .cls cd, sl⟩ => (match cd.mro, sl.toList with
    | .ref C' :: bm, [_, _, _, _, some (.builtin n), _] => C' == C && (n == "ValueError.__new__" && (!cd.hasDel && (cd.hasDict && PySem.HandSPX.refsVE bm)))
    | _, _ => false)
  | _ => false) && (eqO (PySem.W.findIn K (.ref C) "__setattr__") (some (some (.builtin "object.__setattr__"))) && (decide (PySem.W.subIn K (.ref C) (.type "BaseException") = some true) &&
    (decide (PySem.W.typeIn K (.ref C) = some (.type "type")) && PySem.W.keepIn K (.ref C))))
theorem oexB_ok {K : Fr1} {C : Addr} (h : oexB K C = true) : OexC K C := by
  obtain ⟨h1, h2⟩ := ba h
  obtain ⟨h3, h4⟩ := ba h2
  obtain ⟨h5, h6⟩ := ba h4
  obtain ⟨h7, h8⟩ := ba h6
  refine ⟨?_, eqO_ok h3, of_decide_eq_true h5, of_decide_eq_true h7, h8⟩
  split at h1
  · rename_i dd cd sl ho
    split at h1
    · rename_i C' bm k0 k1 k2 k3 n k5 hm hs
      simp only [Bool.and_eq_true, beq_iff_eq, Bool.not_eq_true'] at h1
      obtain ⟨rfl, rfl, hdel, hhd, ht⟩ := h1
      obtain ⟨nm, bs, mro, ns, qn, hd, sn, sub, ab, col, del⟩ := cd
      dsimp only at hm hdel hhd
      subst hm hdel hhd
      have hsl : sl = #[k0, k1, k2, k3, some (.builtin "ValueError.__new__"), k5] := by
        obtain ⟨l⟩ := sl
        simp only at hs
        rw [hs]
      subst hsl
      exact ⟨nm, qn, ns, bs, bm, sn, sub, ab, col, dd, k0, k1, k2, k3, k5, ho, ht⟩
    · cases h1
  · cases h1
/-- the def behind a property (T: "property") -/
def pf (K : Fr1) (C : Addr) (T : String) (m : Str) : Addr := match PySem.W.recIn K (ma K C m) T with
  | some (.ref f :: _) => f
  | _ => 0
def prpB (K : Fr1) (C : Addr) (m : Str) : Bool := eqO (PySem.W.findIn K (.ref C) m) (some (some (.ref (ma K C m)))) && (eqO (PySem.W.specialIn K (.ref (ma K C m)) "__get__") (some (some (.builtin "property.__get__"))) &&
  (decide (PySem.W.takesIn K (.ref (ma K C m)) = some true) && (match PySem.W.recIn K (ma K C m) "property" with
    | some (.ref _ :: _) => true
    | _ => false)))
theorem prpB_ok {K : Fr1} {C : Addr} {m : Str} (h : prpB K C m = true) : PropOf K C m (ma K C m) (pf K C "property" m) := by
  obtain ⟨h1, h2⟩ := ba h
  obtain ⟨h3, h4⟩ := ba h2
  obtain ⟨h5, h6⟩ := ba h4
  refine ⟨eqO_ok h1, eqO_ok h3, of_decide_eq_true h5, ?_⟩
  split at h6
  · rename_i f rest e
    refine ⟨rest, ?_⟩
    unfold pf
    rw [e]
  · cases h6
/-- a name of a module's that the top imports -/
def bfnB (K : Fr1) (x : Str) (i : String) : Bool := eqO (PySem.W.nsIn K mainGlobals x) (some (some (.builtin i)))
theorem bfnB_ok {K : Fr1} {h : Heap} {mg : Str → Option Value} (X : K.In h) (G : h.Ns mainGlobals mg) {x : Str} {i : String} (c : bfnB K x i = true) : mg x = some (.builtin i) := PySem.W.mg_of X G (eqO_ok c)
/-- facts of the kinds: He's, and own ones -/
inductive Fk where
  | bfn (x : Str) (i : String)
  | tup (x : Str) (ss : List Str)
  | bne (x : Str)
  | xf (x : Str)
  | ity (x : Str)
  | prp (x m : Str)
  | fa (f : Fa)
  | oex (x : Str)
  | tyf (x m : Str)
  | exm (x y : Str) (b : Bool)
def bneB (K : Fr1) (C : Addr) : Bool := eqO (PySem.W.findIn K (.ref C) "__ne__") (some (some (.builtin "object.__ne__"))) && decide (PySem.W.subIn K (.ref C) (.type "object") = some true)
theorem bneB_ok {K : Fr1} {C : Addr} (h : bneB K C = true) : PySem.W.findIn K (.ref C) "__ne__" = some (some (.builtin "object.__ne__")) ∧ PySem.W.subIn K (.ref C) (.type "object") = some true :=
  ⟨eqO_ok (ba h).1, of_decide_eq_true (ba h).2⟩
/-- a tuple of texts that the top has made -/
def strsB : List Value → List Str → Bool
  | [], [] => true
  | .str y _ :: us, x :: xs => decide (y = x) && strsB us xs
  | _, _ => false
theorem strsB_ok : ∀ {us : List Value} {xs : List Str}, strsB us xs = true → Vals (xs.map V.str) us
  | [], [], _ => .nil
  | .str y t :: us, x :: xs, h => by
    obtain ⟨h1, h2⟩ := ba h
    cases of_decide_eq_true h1
    exact .cons ⟨t, rfl⟩ (strsB_ok h2)
  | [], _ :: _, h => by cases h
  | .none :: _, _, h => by cases h
  | .bool _ :: _, _, h => by cases h
  | .int _ _ :: _, _, h => by cases h
  | .ref _ :: _, _, h => by cases h
  | .type _ :: _, _, h => by cases h
  | .builtin _ :: _, _, h => by cases h
  | .str _ _ :: _, [], h => by cases h
  | .float _ _ :: _, _, h => by cases h
  | .bytes _ _ :: _, _, h => by cases h
  | .ellipsis :: _, _, h => by cases h
  | .notImplemented :: _, _, h => by cases h
def tupB (K : Fr1) (a : Addr) (ss : List Str) : Bool := decide (ss.length ≤ sizeLine) && (match K.lookup a with
  | some ⟨.type "tuple", _, .seq its _, _⟩ => strsB its.toList ss
  | _ => false)
theorem tupB_ok {K : Fr1} {a : Addr} {ss : List Str} (h : tupB K a ss = true) (H : Hp) : SqT K H a (ss.map V.str) := by
  obtain ⟨h0, h1⟩ := ba h
  split at h1
  · rename_i d its n sl ho
    have v := strsB_ok h1
    refine .inr ⟨_, its, n, ho, rfl, rfl, ?_, v⟩
    have e := v.length
    rw [List.length_map] at e
    rw [← Array.length_toList, ← e]
    exact of_decide_eq_true h0
  · cases h1
/-- what isinstance asks of an own class -/
structure ITy (K : Fr1) (C : Addr) : Prop where
  ha : PySem.W.findIn K (.ref C) "__class__" = some (some (.builtin "object.__class__"))
  hn : PySem.W.specialIn K (.builtin "object.__class__") "__get__" = some (some (.builtin "getset_descriptor.__get__"))
  ht : PySem.W.takesIn K (.builtin "object.__class__") = some true
  hm : PySem.W.mroIn K C (.type "object") = some true
def ityB (K : Fr1) (C : Addr) : Bool := eqO (PySem.W.findIn K (.ref C) "__class__") (some (some (.builtin "object.__class__"))) && (eqO (PySem.W.specialIn K (.builtin "object.__class__") "__get__") (some (some (.builtin "getset_descriptor.__get__"))) &&
  (decide (PySem.W.takesIn K (.builtin "object.__class__") = some true) && decide (PySem.W.mroIn K C (.type "object") = some true)))
theorem ityB_ok {K : Fr1} {C : Addr} (h : ityB K C = true) : ITy K C := by
  obtain ⟨h1, h2⟩ := ba h
  obtain ⟨h3, h4⟩ := ba h2
  obtain ⟨h5, h6⟩ := ba h4
  exact ⟨eqO_ok h1, eqO_ok h3, of_decide_eq_true h5, of_decide_eq_true h6⟩
def Fk.ok (K : Fr1) : Fk → Bool
  | .bfn x i => bfnB K x i
  | .ity x => ityB K (ga K x)
  | .bne x => bneB K (ga K x)
  | .tup x ss => tupB K (ga K x) ss
  | .xf x => xfB K (ga K x)
  | .prp x m => prpB K (ga K x) m
  | .fa f => f.ok K
  | .oex x => oexB K (ga K x)
  | .tyf x m => decide (PySem.W.typeIn K (.ref (ma K (ga K x) m)) = some (.type "function"))
  | .exm x y b => decide (PySem.W.exmOne K (.ref (ga K x)) (.ref (ga K y)) = some b)
abbrev DefA := He5.DefA
def obsJ (fa : List Fk) (fn : List DefA) (K : Fr1) : He.AlD := ((fa.all fun f => f.ok K) && fn.all fun d => d.ok K, fn.map fun d => He5.fnA K (d.at_ K))
def SaysJ (fa : List Fk) (fn : List DefA) (K : Fr1) : Prop := obsJ fa fn K = He5.valA fn
def obsJG (n : Nat) (fa : List Fk) (fn : List DefA) (g : Addr → Option Obj) : He.AlD := obsJ fa fn (frG g (He5.asA g n))
def hookJ (n : Nat) (fa : List Fk) (fn : List DefA) : PySem.W.Hook where
  α := He.AlD
  obs := fun s => obsJG n fa fn s.heap.get?
  val := fun _ => He5.valA fn
  says := fun _ h => ∃ K : Fr1, K.In h ∧ SaysJ fa fn K
  of := fun _ _ e => ⟨_, frG_in, e⟩
  keeps := fun _ _ _ ⟨K, hK, c⟩ k => ⟨K, PySem.W.Frag.In.keeps hK k, c⟩
theorem obsJG_eq {n : Nat} {fa : List Fk} {fn : List DefA} {g : Addr → Option Obj} {s : Shared} (h : ∀ a, g a = s.heap.get? a) : obsJG n fa fn g = (hookJ n fa fn).obs s := by
  have e : g = s.heap.get? := funext h
  rw [e] <;> rfl
section
variable {fa : List Fk} {fn : List DefA} {K : Fr1}
theorem SaysJ.fact (c : SaysJ fa fn K) (i : Nat) {f : Fk} (h : fa[i]? = some f := by rfl) : f.ok K = true := by
  have c1 := (ba (show ((fa.all fun f => f.ok K) && fn.all fun d => d.ok K) = true from congrArg (fun z : He.AlD => z.1) c)).1
  exact List.all_eq_true.mp c1 f (List.mem_of_getElem? h)
theorem SaysJ.def_ (c : SaysJ fa fn K) (i : Nat) {d : DefA} (h : fn[i]? = some d := by rfl) : ∃ fd, FunD K d.name d.qual d.params d.body d.scope (d.dvs K) (d.kws K) (d.at_ K) fd := by
  have c2 := (ba (show ((fa.all fun f => f.ok K) && fn.all fun d => d.ok K) = true from congrArg (fun z : He.AlD => z.1) c)).2
  have e : fn.map (fun d => He5.fnA K (d.at_ K)) = fn.map He5.DefA.val := congrArg (fun z : He.AlD => z.2) c
  have e2 : (fn.map fun d => He5.fnA K (d.at_ K))[i]? = (fn.map He5.DefA.val)[i]? := by rw [e]
  rw [List.getElem?_map, List.getElem?_map, h] at e2
  exact He5.DefA.funD (Option.some.inj e2) (List.all_eq_true.mp c2 d (List.mem_of_getElem? h))
end
end J

namespace J
open PySem L2
open Evl (Ex)
/-! ### steps: a reading's head is taken off -/
section
variable {K : Fr1} {σ : L2.St} {H : Hp} {Q : VK} {D : Ends} {ta tb te tx : TE} {t u : TT} {g : TG} {r : R2} {tA : TA} {QA : List V → Hp → Prop} {QB : Bool → Hp → Prop} {QS : L2.St → Hp → Prop}
theorem w_var {i : Nat} {v : V} (h : σ[i]? = some (some v)) (k : Q v H) : tVar i σ H Q := ⟨v, h, k⟩
theorem w_c {v : V} (k : Q v H) : tC v σ H Q := k
theorem w_op (k : ta σ H fun x H1 => tb σ H1 fun y H2 => r x y H2 Q) : tOp r ta tb σ H Q := k
theorem w_un {r : V → Hp → VK → Prop} (k : ta σ H fun x H1 => r x H1 Q) : tUn r ta σ H Q := k
theorem w_I0 {f : Int → Int → V} {i j : Int} (k : Q (f i j) H) : rI0 f (.int i) (.int j) H Q := ⟨i, j, rfl, rfl, k⟩
theorem w_mulR {f : Int → Int → V} {i j : Int} (c : -(2 ^ 64) < j ∧ j < 2 ^ 64) (k : Q (f i j) H) : rI CMul f (.int i) (.int j) H Q := ⟨i, j, rfl, rfl, .inr c, k⟩
theorem w_mulL {f : Int → Int → V} {i j : Int} (c : -(2 ^ 64) < i ∧ i < 2 ^ 64) (k : Q (f i j) H) : rI CMul f (.int i) (.int j) H Q := ⟨i, j, rfl, rfl, .inl c, k⟩
theorem w_mod {f : Int → Int → V} {i j : Int} (c : j ≠ 0) (k : Q (f i j) H) : rI (fun _ j => j ≠ 0) f (.int i) (.int j) H Q := ⟨i, j, rfl, rfl, c, k⟩
theorem w_divN {f : Int → Int → V} {i j : Int} (c : j ≠ 0 ∧ j.natAbs < 1073741824) (k : Q (f i j) H) : rI CDivN f (.int i) (.int j) H Q := ⟨i, j, rfl, rfl, c, k⟩
theorem w_modP {f : Int → Int → V} {i j : Int} (c : 0 < j) (k : Q (f i j) H) : rI (fun _ j => 0 < j) f (.int i) (.int j) H Q := ⟨i, j, rfl, rfl, c, k⟩
theorem w_divP {f : Int → Int → V} {i j : Int} (c : 0 < j ∧ j < 1073741824) (k : Q (f i j) H) : rI CDiv f (.int i) (.int j) H Q := ⟨i, j, rfl, rfl, c, k⟩
theorem w_divW {f : Int → Int → V} {i j : Int} {b : Nat} (c : 0 < j) (h : j.natAbs < 2 ^ b) (h0 : 0 < b) (h9 : b ≤ 9000) (k : Q (f i j) H) : rI CDivW f (.int i) (.int j) H Q := ⟨i, j, rfl, rfl, wide_div c h h0 h9, k⟩
theorem w_pow {f : Int → Int → V} {i j : Int} (c : 0 ≤ j ∧ j ≤ 1000000 ∧ i.natAbs < 2 ^ 64) (k : Q (f i j) H) : rI CPow f (.int i) (.int j) H Q := ⟨i, j, rfl, rfl, c, k⟩
theorem w_U {f : Int → V} {i : Int} (k : Q (f i) H) : rU f (.int i) H Q := ⟨i, rfl, k⟩
theorem w_eqI {i j : Int} (k : Q (.bl (decide (i = j))) H) : rEq (.int i) (.int j) H Q := ⟨rfl, by
  have e : decide (V.int i = V.int j) = decide (i = j) := by
    by_cases h : i = j
    · rw [h, decide_eq_true rfl, decide_eq_true rfl]
    · rw [decide_eq_false h, decide_eq_false fun z => h (V.int.inj z)]
  rw [e]; exact k⟩
theorem w_neI {i j : Int} (k : Q (.bl (!decide (i = j))) H) : rNe (.int i) (.int j) H Q := ⟨rfl, by
  have e : decide (V.int i = V.int j) = decide (i = j) := by
    by_cases h : i = j
    · rw [h, decide_eq_true rfl, decide_eq_true rfl]
    · rw [decide_eq_false h, decide_eq_false fun z => h (V.int.inj z)]
  rw [e]; exact k⟩
theorem w_ixL {p : Addr} {xs : List V} {i : Int} {v : V} (h : SqL K H p xs) (e : atI xs i = some v) (k : Q v H) : rIxL K (.ref p) (.int i) H Q := ⟨p, xs, i, v, rfl, rfl, h, e, k⟩
theorem w_ixT {p : Addr} {xs : List V} {i : Int} {v : V} (h : SqT K H p xs) (e : atI xs i = some v) (k : Q v H) : rIxT K (.ref p) (.int i) H Q := ⟨p, xs, i, v, rfl, rfl, h, e, k⟩
theorem w_setL {p : Addr} {xs : List V} {i : Int} {j : Nat} {v : V} {Q : Hp → Prop} (h : H p = some (.lst xs)) (e : ixN xs.length i = some j) (k : Q (upd H p (.lst (xs.set j v)))) : rSetL (.ref p) (.int i) v H Q := ⟨p, xs, i, j, rfl, rfl, h, e, k⟩
theorem w_sub {s : TSet} {v : V} (k : ta σ H fun o H1 => tb σ H1 fun i H2 => s o i v H2 fun H3 => QS σ H3) : gSub ta tb s v σ H QS := k
theorem w_test (k : te σ H fun x H' => ∃ c, x = .bl c ∧ QB c H') : tTest te σ H QB := k
theorem w_B (k : te σ H fun x H' => ∃ c, x = .bl c ∧ QB c H') : tB te σ H QB := k
theorem w_bl {c : Bool} {P : Bool → Prop} (k : P c) : ∃ d, V.bl c = .bl d ∧ P d := ⟨c, rfl, k⟩
theorem w_nil (k : QA [] H) : tNil σ H QA := k
theorem w_cons (k : te σ H fun x H1 => tA σ H1 fun xs H2 => QA (x :: xs) H2) : tCons te tA σ H QA := k
theorem w_cb {r : List V → Hp → VK → Prop} (k : tA σ H fun vs H1 => r vs H1 Q) : tCB r tA σ H Q := k
theorem w_call {sp : Sp} {dvs : List V} {E : XK} (k : tA σ H fun vs H1 => sp (vs ++ dvs) H1 Q E) : tCall sp dvs E tA σ H Q := k
/-- what follows, by a name -/
structure Fol (F : L2.St → Hp → Prop) (u : TS) (D : Ends) : Prop where
  go : ∀ {σ H}, u D σ H → F σ H
theorem w_seqF {t u : TS} (k : ∀ F, Fol F u D → t { D with nx := F } σ H) : tSeq t u D σ H := k _ ⟨fun h => h⟩
theorem w_asg (k : te σ H fun x H1 => g x σ H1 D.nx) : tAsg te g D σ H := k
theorem w_name {i : Nat} {v : V} (k : QS (σ.set i (some v)) H) : gName i v σ H QS := k
theorem w_ret (k : te σ H D.rt) : tRet te D σ H := k
theorem w_ifS {a b : TS} (k : t σ H fun c H1 => if c = true then a D σ H1 else b D σ H1) : tIfS t a b D σ H := k
theorem w_drop (k : te σ H fun _ H1 => D.nx σ H1) : tDrop te D σ H := k
theorem w_next (k : D.nx σ H) : tNext D σ H := k
theorem w_if {c : Prop} [Decidable c] {A B : Prop} (h1 : c → A) (h2 : ¬ c → B) : if decide c = true then A else B := by
  by_cases h : c
  · rw [decide_eq_true h]; exact iteT (h1 h)
  · rw [decide_eq_false h]; exact iteF (h2 h)
theorem w_ifn {c : Prop} [Decidable c] {A B : Prop} (h1 : ¬ c → A) (h2 : c → B) : if (!decide c) = true then A else B := by
  by_cases h : c
  · rw [decide_eq_true h]; exact iteF (h2 h)
  · rw [decide_eq_false h]; exact iteT (h1 h)
theorem w_nt {A B : Prop} (h : A) : if (!false) = true then A else B := iteT h
theorem w_nf {A B : Prop} (h : B) : if (!true) = true then A else B := iteF h
theorem w_sFld {f : Str} {tv : TE} (k : tv σ H fun y H1 => ta σ H1 fun x H2 => ∃ a C dx fs, x = .ref a ∧ H2 a = some (.ins C dx fs) ∧ Cls K C ∧ NoAttr K C f ∧ fs.length < 1000 ∧ D.nx σ (upd H2 a (.ins C dx (putF f y fs)))) : sFld K ta tv f D σ H := k
theorem w_ij {a b : Int} {P : Int → Int → Prop} (k : P a b) : ∃ i j, [V.int a, V.int b] = [.int i, .int j] ∧ P i j := ⟨a, b, rfl, k⟩
theorem w_yes (k : QB true H) : tYes σ H QB := k
theorem w_and (k : t σ H fun c H1 => if c = true then u σ H1 QB else QB false H1) : tAnd t u σ H QB := k
theorem w_or (k : t σ H fun c H1 => if c = true then QB true H1 else u σ H1 QB) : tOr t u σ H QB := k
theorem w_not (k : t σ H fun c H1 => QB (!c) H1) : tNot t σ H QB := k
theorem w_int1 {i : Int} {P : Int → Prop} {P2 : Bool → Prop} (k : P i) : (∃ j, [V.int i] = [.int j] ∧ P j) ∨ ∃ b : Bool, [V.int i] = [.bl b] ∧ P2 b := .inl ⟨i, rfl, k⟩
theorem w_lenL {p : Addr} {ys : List V} {P : List V → Prop} (h : SqL K H p ys) (k : P ys) : ∃ p' ys', [V.ref p] = [.ref p'] ∧ (SqL K H p' ys' ∨ SqT K H p' ys') ∧ P ys' := ⟨p, ys, rfl, .inl h, k⟩
theorem w_lenT {p : Addr} {ys : List V} {P : List V → Prop} (h : SqT K H p ys) (k : P ys) : ∃ p' ys', [V.ref p] = [.ref p'] ∧ (SqL K H p' ys' ∨ SqT K H p' ys') ∧ P ys' := ⟨p, ys, rfl, .inr h, k⟩
theorem gen_new {H H1 : Hp} {p : Addr} {o : HO} (hp : H p = none) (e : upd H p o = H1) : Ex H H1 ∧ H1 p = some o := by subst e; exact ⟨Ex.new hp, upd_same⟩
theorem gen_mut {H0 H H1 : Hp} {p : Addr} {o : HO} (hp : H0 p = none) (x : Ex H0 H) (e : upd H p o = H1) : Ex H0 H1 ∧ H1 p = some o ∧ ∀ q, q ≠ p → H1 q = H q := by subst e; exact ⟨x.mut hp, upd_same, fun q hq => upd_ne hq⟩
theorem w_tup {ta : TA} (k : ta σ H fun xs H1 => xs.length ≤ sizeLine ∧ ∀ p, H1 p = none → Q (.ref p) (upd H1 p (.tup xs))) : tTup ta σ H Q := k
theorem w_lst {ta : TA} (k : ta σ H fun xs H1 => xs.length ≤ sizeLine ∧ ∀ p, H1 p = none → Q (.ref p) (upd H1 p (.lst xs))) : tLst ta σ H Q := k
theorem w_andV (k : ta σ H fun x H1 => ∃ c, x = .bl c ∧ if c = true then tb σ H1 Q else Q (.bl false) H1) : tAndV ta tb σ H Q := k
theorem w_orV (k : ta σ H fun x H1 => ∃ c, x = .bl c ∧ if c = true then Q (.bl true) H1 else tb σ H1 Q) : tOrV ta tb σ H Q := k
theorem w_notV (k : ta σ H fun x H1 => ∃ c, x = .bl c ∧ Q (.bl (!c)) H1) : tNotV ta σ H Q := k
theorem w_ifE (k : t σ H fun c H1 => if c = true then ta σ H1 Q else tb σ H1 Q) : tIf t ta tb σ H Q := k
theorem w_chain {r' : R2} {tc : TE} (k : ta σ H fun x H1 => tb σ H1 fun y H2 => r x y H2 fun z H3 => ∃ k, z = .bl k ∧ (if k = true then tc σ H3 fun w' H4 => r' y w' H4 Q else Q (.bl false) H3)) : tChain r r' ta tb tc σ H Q := k
theorem w_par {i j : Nat} (k : tA σ H fun vs H1 => ∃ v w, vs = [v, w] ∧ D.nx ((σ.set i (some v)).set j (some w)) H1) : tPar i j tA D σ H := k
theorem w_vw {v w : V} {P : V → V → Prop} (k : P v w) : ∃ a b, [v, w] = [a, b] ∧ P a b := ⟨v, w, rfl, k⟩
theorem w_gtup {n : Nat} {gs : TGs} {p : Addr} {xs : List V} (h : SqT K H p xs) (hl : xs.length = n) (k : gs xs σ H QS) : gTup K n gs (.ref p) σ H QS := ⟨p, xs, rfl, h, hl, k⟩
theorem w_gcons {g1 : TG} {gs : TGs} {v : V} {vs : List V} (k : g1 v σ H fun σ' H' => gs vs σ' H' QS) : gCons g1 gs (v :: vs) σ H QS := ⟨v, vs, rfl, k⟩
theorem w_gnil (k : QS σ H) : gNil [] σ H QS := ⟨rfl, k⟩
theorem w_bm {T : String} {r : V → List V → Hp → VK → Prop} (k : te σ H fun x H1 => tyV K T x H1 ∧ tA σ H1 fun xs H2 => r x xs H2 Q) : tBM K T r te tA σ H Q := k
theorem w_tyL {p : Addr} {xs : List V} {c : Prop} (h : SqL K H p xs) (k : c) : tyV K "list" (.ref p) H ∧ c := ⟨.inl ⟨rfl, _, h⟩, k⟩
theorem w_append {p : Addr} {xs : List V} {y : V} (h : H p = some (.lst xs)) (hl : xs.length < sizeLine) (k : Q .non (upd H p (.lst (xs ++ [y])))) : rAppend (.ref p) [y] H Q := ⟨p, xs, y, rfl, rfl, h, hl, k⟩
theorem w_fld {C dx p : Addr} {fs : List (Str × V)} {f : Str} {v : V} {H : Hp} {P : V → Prop} (h : H p = some (.ins C dx fs)) (c : Cls K C) (n : NoAttr K C f) (e : fs.lookup f = some v) (k : P v) : ∃ a C' dx' fs' v', V.ref p = .ref a ∧ H a = some (.ins C' dx' fs') ∧ Cls K C' ∧ NoAttr K C' f ∧ fs'.lookup f = some v' ∧ P v' := ⟨p, C, dx, fs, v, rfl, h, c, n, e, k⟩
theorem w_fldT {f : Str} (k : ta σ H fun x H1 => ∃ a C dx fs v, x = .ref a ∧ H1 a = some (.ins C dx fs) ∧ Cls K C ∧ NoAttr K C f ∧ fs.lookup f = some v ∧ Q v H1) : tFld K ta f σ H Q := k
end
theorem _root_.Evl.Ex.get {H H' : Hp} {p : Addr} {o : HO} (e : Ex H H') (h : H p = some o) : H' p = some o := e _ _ h
theorem _root_.Evl.Ex.free {H H' : Hp} {p : Addr} (e : Ex H H') (h : H' p = none) : H p = none := Evl.fresh_back e h
theorem sz_of {n : Nat} (h : n ≤ 1000) : n ≤ sizeLine := Nat.le_trans h (by decide)
/-! ### data in the heap -/
mutual
inductive Dq (K : Fr1) (H : Hp) : V → PyData → Prop
  | non : Dq K H .non .none
  | bl (b : Bool) : Dq K H (.bl b) (.bool b)
  | int (i : Int) : Dq K H (.int i) (.int i)
  | str (x : Str) : Dq K H (.str x) (.str x)
  | lst {a : Addr} {xs : List V} {ds : List PyData} (h : H a = some (.lst xs)) (ha : DqAll K H xs ds) : Dq K H (.ref a) (.list ds)
  | tup {a : Addr} {xs : List V} {ds : List PyData} (h : H a = some (.tup xs)) (ha : DqAll K H xs ds) : Dq K H (.ref a) (.tuple ds)
  | dct {a : Addr} {kvs : List (Key × V)} {ds : List (PyData × PyData)} (h : H a = some (.dK kvs)) : Dq K H (.ref a) (.dict ds)
inductive DqAll (K : Fr1) (H : Hp) : List V → List PyData → Prop
  | nil : DqAll K H [] []
  | cons {v : V} {vs : List V} {d : PyData} {ds : List PyData} (h : Dq K H v d) (t : DqAll K H vs ds) : DqAll K H (v :: vs) (d :: ds)
end
def tyn : PyData → String
  | .none => "NoneType"
  | .bool _ => "bool"
  | .int _ => "int"
  | .str _ => "str"
  | .list _ => "list"
  | .tuple _ => "tuple"
  | .dict _ => "dict"
theorem Dq.ty {K : Fr1} {H : Hp} {v : V} {d : PyData} (h : Dq K H v d) : TyX K H v (.type (tyn d)) := by
  cases h with
  | non => exact .base .non
  | bl b => exact .base (.bl b)
  | int i => exact .base (.int i)
  | str x => exact .base (.str x)
  | lst h _ => exact .base (.lst h)
  | tup h _ => exact .base (.tup h)
  | dct h => exact .base (.dK h)
mutual
theorem Dq.mono {K : Fr1} {H H' : Hp} (e : Ex H H') : ∀ {v : V} {d : PyData}, Dq K H v d → Dq K H' v d
  | _, _, .non => .non
  | _, _, .bl b => .bl b
  | _, _, .int i => .int i
  | _, _, .str x => .str x
  | _, _, .lst h a => .lst (e _ _ h) (DqAll.mono e a)
  | _, _, .tup h a => .tup (e _ _ h) (DqAll.mono e a)
  | _, _, .dct h => .dct (e _ _ h)
theorem DqAll.mono {K : Fr1} {H H' : Hp} (e : Ex H H') : ∀ {vs : List V} {ds : List PyData}, DqAll K H vs ds → DqAll K H' vs ds
  | _, _, .nil => .nil
  | _, _, .cons h t => .cons (Dq.mono e h) (DqAll.mono e t)
end
/-- objects that data may stand in -/
def dataO : HO → Prop
  | .lst _ => True
  | .tup _ => True
  | .dK _ => True
  | _ => False
mutual
theorem Dq.rel {K : Fr1} {H H' : Hp} (e : ∀ a o, H a = some o → dataO o → H' a = some o) : ∀ {v : V} {d : PyData}, Dq K H v d → Dq K H' v d
  | _, _, .non => .non
  | _, _, .bl b => .bl b
  | _, _, .int i => .int i
  | _, _, .str x => .str x
  | _, _, .lst h a => .lst (e _ _ h trivial) (DqAll.rel e a)
  | _, _, .tup h a => .tup (e _ _ h trivial) (DqAll.rel e a)
  | _, _, .dct h => .dct (e _ _ h trivial)
theorem DqAll.rel {K : Fr1} {H H' : Hp} (e : ∀ a o, H a = some o → dataO o → H' a = some o) : ∀ {vs : List V} {ds : List PyData}, DqAll K H vs ds → DqAll K H' vs ds
  | _, _, .nil => .nil
  | _, _, .cons h t => .cons (Dq.rel e h) (DqAll.rel e t)
end
theorem DqAll.len {K : Fr1} {H : Hp} {vs : List V} {ds : List PyData} : DqAll K H vs ds → vs.length = ds.length
  | .nil => rfl
  | .cons _ t => congrArg Nat.succ (DqAll.len t)
theorem DqAll.get {K : Fr1} {H : Hp} : ∀ {vs : List V} {ds : List PyData} {i : Nat} {v : V}, DqAll K H vs ds → vs[i]? = some v → ∃ d, ds[i]? = some d ∧ Dq K H v d
  | _, _, 0, _, .cons h _, e => by
    cases (Option.some.inj e)
    exact ⟨_, rfl, h⟩
  | _, _, i + 1, v, .cons _ t, e => DqAll.get (i := i) t e
theorem DqAll.get' {K : Fr1} {H : Hp} : ∀ {vs : List V} {ds : List PyData} {i : Nat} {d : PyData}, DqAll K H vs ds → ds[i]? = some d → ∃ v, vs[i]? = some v ∧ Dq K H v d
  | _, _, 0, _, .cons h _, e => by
    cases (Option.some.inj e)
    exact ⟨_, rfl, h⟩
  | _, _, i + 1, d, .cons _ t, e => DqAll.get' (i := i) t e
theorem kit_int (d : PyData) : kitB (tyn d) "int" = some (tyn d == "int" || tyn d == "bool") := by cases d <;> (dsimp only [tyn]; decide +kernel)
theorem kit_bool (d : PyData) : kitB (tyn d) "bool" = some (tyn d == "bool") := by cases d <;> (dsimp only [tyn]; decide +kernel)
theorem kit_list (d : PyData) : kitB (tyn d) "list" = some (tyn d == "list") := by cases d <;> (dsimp only [tyn]; decide +kernel)
theorem kit_tuple (d : PyData) : kitB (tyn d) "tuple" = some (tyn d == "tuple") := by cases d <;> (dsimp only [tyn]; decide +kernel)
theorem kit_str (d : PyData) : kitB (tyn d) "str" = some (tyn d == "str") := by cases d <;> (dsimp only [tyn]; decide +kernel)
section
variable {K : Fr1} {H : Hp} {Q : VK} {v : V} {d : PyData}
/-- isinstance(x, T), T a built-in class -/
theorem w_isi {n : String} {b : Bool} (h : Dq K H v d) (k : kitB (tyn d) n = some b) (q : Q (.bl b) H) : rIsi K [v, .ty n] H Q := ⟨v, .ty n, .type (tyn d), .type n, b, rfl, .ty n, h.ty, kit_ty k, q⟩
theorem w_isiT {n m : String} {b c : Bool} {tp : Addr} (h : Dq K H v d) (ht : H tp = some (.tup [.ty n, .ty m])) (k : kitB (tyn d) n = some b) (k2 : kitB (tyn d) m = some c) (q : Q (.bl (b || c)) H) : rIsiT K [v, .ref tp] H Q :=
  ⟨v, tp, [.ty n, .ty m], .type (tyn d), [.type n, .type m], b || c, rfl, ht, .cons (.ty n) (.cons (.ty m) .nil), h.ty, kitAny_cons (kit_ty k) (fun hb => by subst hb; exact kitAny_cons (kit_ty k2) (fun hc => by subst hc; exact kitAny_nil) (fun hc => by subst hc; rfl)) (fun hb => by subst hb; rfl), q⟩
end
/-- what the checks of the program ask of data -/
def isI : PyData → Bool
  | .int _ => true
  | _ => false
theorem isI_ty (d : PyData) : ((tyn d == "int" || tyn d == "bool") && !(tyn d == "bool")) = isI d := by cases d <;> (dsimp only [tyn, isI]; decide)
def isRow : PyData → Bool
  | .list _ => true
  | .tuple _ => true
  | _ => false
theorem isRow_ty (d : PyData) : (tyn d == "list" || tyn d == "tuple") = isRow d := by cases d <;> (dsimp only [tyn, isRow]; decide)
def isPlc (N : Int) : PyData → Bool
  | .int i => decide (0 ≤ i) && decide (i < N)
  | _ => false
def isRound : PyData → Bool
  | .int i => decide (2 ≤ i) && decide (i ≤ 360)
  | _ => false
def isPair (N : Int) : PyData → Bool
  | .tuple [a, b] => isPlc N a && isPlc N b
  | _ => false
/-! ### own errors -/
/-- what an error's __init__ does: its one field is stored in its new dict -/
def sp_err (C : Addr) (f : Str) : Sp := fun vs H Q _ => ∃ (a : Addr) (v : V), vs = [.ref a, v] ∧ H a = some (exo a C none) ∧
  ∀ dx, H dx = none → dx ≠ a → Q .non (upd (upd H dx (exd dx [(f, v)])) a (exo a C (some dx)))
/-- the wish for a raised error of the class named c whose field f holds v -/
def Rz (K : Fr1) (c f : Str) (v : V) (H : Hp) (E : XK) : Prop := ∀ d H', H d = none → Ex H H' → H' d = some (.xd [(f, v)]) → E (.ref (He.ga K c)) (some d) H'
theorem Rz.mono {K : Fr1} {c f : Str} {v : V} {H H1 : Hp} {E : XK} (r : Rz K c f v H E) (e : Ex H H1) : Rz K c f v H1 E := fun d H' h1 h2 h3 => r d H' (Evl.fresh_back e h1) (e.trans h2) h3
section
variable {σ : L2.St} {H : Hp} {C : Addr} {f : Str} {v : V} {ta : TA} {Q : XK} {sp : Sp} {dvs : List V}
theorem w_mkO (k : ta σ H fun vs H1 => vs.length ≤ 1000 ∧ ∀ a, H1 a = none → sp (.ref a :: (vs ++ dvs)) (upd H1 a (exo a C none))
  (fun v H2 => v = .non ∧ ∃ (d : Addr) (fs : List (Str × V)), H2 a = some (exo a C (some d)) ∧ H2 d = some (exd d fs) ∧ H1 d = none ∧ Q (.ref C) (some d) (upd (del H2 a) d (.xd fs))) (fun _ _ _ => False)) : tMkO C sp dvs ta σ H Q := k
theorem w_err {P : Value → Option Addr → Hp → Prop} (k : ∀ d H', H d = none → Ex H H' → H' d = some (.xd [(f, v)]) → P (.ref C) (some d) H') :
    [v].length ≤ 1000 ∧ ∀ a, H a = none → sp_err C f (.ref a :: ([v] ++ [])) (upd H a (exo a C none))
      (fun v H2 => v = .non ∧ ∃ (d : Addr) (fs : List (Str × V)), H2 a = some (exo a C (some d)) ∧ H2 d = some (exd d fs) ∧ H d = none ∧ P (.ref C) (some d) (upd (del H2 a) d (.xd fs))) (fun _ _ _ => False) := by
  refine ⟨by show 1 ≤ 1000; decide, fun a ha => ⟨a, v, rfl, upd_same, fun dx h1 h2 => ⟨rfl, dx, [(f, v)], upd_same, by rw [upd_ne h2]; exact upd_same, ?_, ?_⟩⟩⟩
  · rw [upd_ne h2] at h1
    exact h1
  · rw [upd_ne h2] at h1
    refine k dx _ h1 (fun b o hb => ?_) upd_same
    have n1 : b ≠ dx := ne_of_none hb h1
    have n2 : b ≠ a := ne_of_none hb ha
    rw [upd_ne n1, del_ne n2, upd_ne n2, upd_ne n1, upd_ne n2]
    exact hb
end
/-! ### enumerate of a list or a tuple, by what its iterator draws -/
/-- h behind the making of enumerate(v), where iter(v) makes o -/
def enH (h : Heap) (o : Obj) : Heap := (h.push o).push ⟨.type "enumerate", none, .fields #[.none, .bool false, .ref h.objs.size, rawInt 0, .none, .none], #[]⟩
structure EnNew (h h' : Heap) (o : Obj) : Prop where
  cell : IsEnum h' (h.objs.size + 1) h.objs.size (0 + ((0 : Nat) : Int)) .none
  iter : h'.get? h.objs.size = some o
  ext : ∀ b u, h.get? b = some u → h'.get? b = some u
theorem enH_new {h : Heap} {o : Obj} (f : o.isFreed = false) : EnNew h (enH h o) o where
  cell := by
    have k : (h.push o).objs.size = h.objs.size + 1 := Heap.size_push ..
    show (enH h o).get? (h.objs.size + 1) = _
    rw [← k]
    exact Heap.get?_push_size _ rfl
  iter := Heap.get?_push_of_some _ (Heap.get?_push_size _ f)
  ext := fun b u e => Heap.get?_push_of_some _ (Heap.get?_push_of_some _ e)
theorem enum_makes {v : Value} {o : Obj} {St : Heap → Prop} (B : Begins v o St) :
    Meets (Builtin.«enumerate.__new__» ⟨[.type "enumerate", v], []⟩) (fun _ R s => St s.heap ∧ R (.ok (.ret (.ref (s.heap.objs.size + 1)))) { s with heap := enH s.heap o }) :=
  .of_wp fun prog w A R s0 ⟨b0, want⟩ => by
    obtain ⟨h0, gl, ds, ts, oo⟩ := s0
    have sub := sub_enumerate
    have k : (h0.push o).objs.size = h0.objs.size + 1 := Heap.size_push ..
    have it : ∀ {A' : Around} {E' : Value → Shared → Prop} {Q' : Value → Shared → Prop}, Q' (.ref h0.objs.size) ⟨h0.push o, gl, ds, ts, oo⟩ → wpAny (model prog w) A' (pyIter v) Q' E' ⟨h0, gl, ds, ts, oo⟩ :=
      fun q' => B.iter prog w _ _ ⟨h0, gl, ds, ts, oo⟩ _ b0 q'
    rw [← k] at want
    wp_walk using it
    refine wpAny_stack_any fun fr => wpAny_pure ?_
    split
    · next c _ _ _ _ _ => cases (c == Value.type "enumerate") <;> (wp_walk using it; exact ⟨_, rfl, want⟩)
    · wp_walk using it; exact ⟨_, rfl, want⟩
theorem enum_called {prog : Program} {w : World} {A : Around} {E : Value → Shared → Prop} {s : Shared} {v : Value} {o : Obj} {St : Heap → Prop} {Q : Value → Shared → Prop} (B : Begins v o St) (b0 : St s.heap)
    (k : ∀ h', EnNew s.heap h' o → Q (.ref (s.heap.objs.size + 1)) { s with heap := h' }) : wpAny (model prog w) A (call (.type "enumerate") [v]) Q E s := by
  have n := enH_new (h := s.heap) B.free
  exact callType_new F.called_enumerate (by decide) (F.typeCall_enumerate_1 v) (F.newCall_enumerate_1 v) (fun ob => F.args_object_init_2 ob v) F.entry_enumerate_new (enum_makes B) ⟨b0, ⟨_, n.cell, rfl⟩, k _ n⟩
/-- the tuple at a, each item in a new pair -/
def Iet (K : Fr1) (a : Addr) : It where
  go i H := ∃ xs x, SqT K H a xs ∧ xs[i]? = some x
  yld i H v H' := ∃ T x, v = .ref T ∧ H T = none ∧ H' = upd H T (.tup [.int (i : Nat), x]) ∧ ∀ xs, SqT K H a xs → xs[i]? = some x
  stop i H := ∃ xs : List V, SqT K H a xs ∧ xs.length = i
/-- what the enumeration at e over the tuple at a keeps in its own two cells -/
structure EnAt (a e it : Addr) (i : Nat) (h : Heap) : Prop where
  cell : ∃ old, IsEnum h e it (0 + (i : Int)) old
  iter : h.IsTupleIter it a i
theorem EnAt.stays {a e it : Addr} {i : Nat} {h h' : Heap} (S : EnAt a e it i h) (k : ∀ b ∈ [e, it], ∀ o, h.get? b = some o → h'.get? b = some o) : EnAt a e it i h' :=
  ⟨S.cell.imp fun _ c => k e (by simp) _ c, S.iter.at fun o q => k it (by simp) o q⟩
theorem EnAt.live {a e it : Addr} {i : Nat} {h : Heap} (S : EnAt a e it i h) {b : Addr} (hb : b ∈ [e, it]) : ∃ o, h.get? b = some o ∧ ∀ v, o.data ≠ .cell v := by
  rcases List.mem_cons.mp hb with rfl | hb
  · exact S.cell.elim fun _ c => ⟨_, c, fun _ => by simp⟩
  · obtain ⟨o, ho, _, hd⟩ := S.iter
    rw [List.mem_singleton.mp hb]
    exact ⟨o, ho, fun v q => by rw [hd] at q; cases q⟩
theorem enum_goes {P : Program} {w : World} {A : Around} (hh : A.handled = none) {elts : List Expr} {kk : Nat} {tp : Pos} {a e it : Addr} (ne : [a, e, it].Nodup) (its : Array Value) :
    GoesN P w A (.Tuple elts kk tp) e [e, it, a] [e, it] its.size (fun i h0 v h => ∃ T t x, v = .ref T ∧ h0.objs.size ≤ T ∧ its[i]? = some x ∧ h.IsTuple T #[.int (0 + (i : Int)) t, x])
      fun i h => (∃ old, IsEnum h e it (0 + (i : Int)) old) ∧ h.IsTupleIter it a i ∧ h.IsTuple a its := by
  simp only [List.nodup_cons, List.mem_cons, List.not_mem_nil, or_false, not_or] at ne
  exact GoesN.enumFrom 0 (Draws.tuple (A := A.in1) hh it a ne.1.2 its) e ne.2.1 (by simp [ne.2.1, Ne.symm ne.1.1]) (by simp)
theorem turn_enT {P : Program} {w : World} {K : Fr1} {elts : List Expr} {kk : Nat} {tp : Pos} {a e it : Addr} (ne : [a, e, it].Nodup) : Turn P w K (.Tuple elts kk tp) (Iet K a) [e, it] e (EnAt a e it) where
  mem := List.mem_cons_self ..
  obj i h S b hb := S.live hb
  keep i h h' S k := S.stays k
  self A i s Q E S q := S.cell.elim fun _ c => wpAny_pyIter_enum c q
  item := by
    rintro X rfl rfl rfl hc i pins s σ H E I hf S ⟨xs, x, hq, hx⟩
    obtain ⟨its, rv, p, -⟩ := I.tuple hq
    obtain ⟨u, hu, ru⟩ := rv.get hx
    have hlt : i < its.toArray.size := by simpa using (List.getElem?_eq_some_iff.mp hu).1
    refine (enum_goes (I.ok.hd hc) ne its.toArray).goes i s _ E hlt ⟨S.cell, S.iter, p⟩ ?_
    rintro v h' tk ⟨T, t, y, rfl, hT, hy, tT⟩ ⟨c', i', -⟩ hk -
    obtain rfl : y = u := Option.some.inj (by rw [← hu, ← hy]; simp)
    have hT0 : H T = none := I.hok.fresh hT
    have new : ObjOk X.prog X.w (upd H T (.tup [.int (i : Nat), x])) h' T (.tup [.int (i : Nat), x]) :=
      ⟨Nat.le_of_ble_eq_true rfl, _, .cons ⟨t, by rw [Int.zero_add]⟩ (.cons ru .nil), tT⟩
    refine ⟨.ref T, _, I.turnedNew hk hf hT new, rfl, ⟨T, x, rfl, hT0, rfl, fun ys hy => by rw [I.tuple_inj hy hq]; exact hx⟩, ⟨c', i'⟩, fun b hb => ?_⟩
    rw [upd_ne]
    · exact (hf b hb).1
    · rintro rfl
      obtain ⟨o, ho, -⟩ := S.live hb
      exact absurd (Heap.lt_size ho) (Nat.not_lt.mpr hT)
  done := by
    rintro X rfl rfl rfl hc i pins s σ H E I hf S ⟨xs, hq, hx⟩
    obtain ⟨its, rv, p, -⟩ := I.tuple hq
    have hi : its.toArray.size = i := by rw [← hx, rv.length]; simp
    have G := (enum_goes (P := X.prog) (w := X.w) (elts := elts) (kk := kk) (tp := tp) (I.ok.hd hc) ne its.toArray).stops s
    rw [hi] at G
    exact G _ E ⟨S.cell, S.iter, p⟩ fun h' tk hk _ => I.turnedL hk hf
/-- a list or a tuple of xs at a -/
def Sq (K : Fr1) (H : Hp) (a : Addr) (xs : List V) : Prop := H a = some (.lst xs) ∨ H a = some (.tup xs)
theorem Sq.mono {K : Fr1} {H H' : Hp} {a : Addr} {xs : List V} (e : Ex H H') (h : Sq K H a xs) : Sq K H' a xs := by
  rcases h with h | h
  · exact .inl (e _ _ h)
  · exact .inr (e _ _ h)
/-- what comes of a walked thing: its items, as long as the heap only grows -/
def tWk (K : Fr1) (H : Hp) (a : Addr) (xs : List V) (Y : Nat → Hp → V → Hp → Prop) (R : It → Hp → Prop) : Prop := ∀ J, Walk J xs.length (fun H' => H' a = H a) Y → R J H
abbrev YEn (xs : List V) : Nat → Hp → V → Hp → Prop := YPair (fun i => some (.int (i : Nat))) (fun i => xs[i]?)
def iEnumX (K : Fr1) (ta : TA) : TI := fun σ H R => ta σ H fun vs H1 => ∃ a xs, vs = [.ref a] ∧ Sq K H1 a xs ∧ tWk K H1 a xs (YEn xs) R
theorem walk_enumT {K : Fr1} {a : Addr} {xs : List V} : Walk (Iet K a) xs.length (fun H => SqT K H a xs) (YEn xs) := by
  refine ⟨fun i _ hi q => ⟨xs, xs[i], q, by simp [hi]⟩, fun _ q => ⟨xs, q, rfl⟩, fun i H v H' _ q y => ?_⟩
  rcases y with ⟨T, x, rfl, h2, h3, h4⟩
  exact ⟨T, _, x, rfl, h2, h3, rfl, h4 _ q⟩
theorem vals_ref {a : Addr} {us : List Value} (h : Vals [.ref a] us) : us = [.ref a] := by
  cases h with
  | cons r t => cases r; cases t; rfl
theorem pi_enumX {X : Cx} {e : Expr} {ta : TA} {p pos tpos : Pos} {elts : List Expr} {kk : Nat} (hg : Gl X "enumerate") (hm : X.mg "enumerate" = none) (ha : PA X [e] ta) (hs : starEach [e] X.env = [(false, eval e X.env)] := by rfl) :
    PI X (.Tuple elts kk tpos) (.Call (.Name "enumerate" p) [e] [] pos) (iEnumX X.K ta) := by
  refine ⟨fun pins s σ H R I h => PyProof.Rows.Call_ (ld_blt I hg hm PyProof.Rows.boot_enumerate (PyProof.Rows.callWith_type1 (thn (ha.run pos pins s σ H _ I h) ?_) hs rfl))⟩
  rintro us s1 ⟨_, H1, I1, r1, a, xs, rfl, hq, q⟩
  obtain rfl := vals_ref r1
  have fp : ∀ b ∈ [s1.heap.objs.size + 1, s1.heap.objs.size], FpOk X pins H1 b := fun b hb => by
    have le : s1.heap.objs.size ≤ b := by
      rcases List.mem_cons.mp hb with rfl | hb
      · exact Nat.le_succ _
      · exact Nat.le_of_eq (List.mem_singleton.mp hb).symm
    exact I1.fpOk le (I1.hok.fresh le)
  rcases hq with hq | hq
  · obtain ⟨its, -, p', -⟩ := I1.list (SqL.of hq)
    refine enum_called (begins_list a its.toArray) p'.isList fun h' N => wpAny_pyIter_enum N.cell ⟨_, _, _, _, H1, rfl, I1.kept (t' := s1.toks) N.ext, turn_enum a _ _, ⟨⟨.none, (Int.zero_add ((0 : Nat) : Int)) ▸ N.cell⟩, ⟨_, N.iter, rfl, rfl⟩, Nat.succ_ne_self _⟩, fp, q _ (walk_enum.mono (fun _ x => SqL.of (x.trans hq)) fun _ _ _ _ _ _ y => y)⟩

  · obtain ⟨its, -, p', -⟩ := I1.tuple (SqT.of hq)
    have al : a < s1.heap.objs.size := p'.lt
    refine enum_called (begins_tuple a its.toArray) p' fun h' N => wpAny_pyIter_enum N.cell ⟨_, _, _, _, H1, rfl, I1.kept (t' := s1.toks) N.ext, turn_enT ?_, ⟨⟨_, N.cell⟩, ⟨_, N.iter, rfl, rfl⟩⟩, fp, q _ (walk_enumT.mono (fun _ x => SqT.of (x.trans hq)) fun _ _ _ _ _ _ y => y)⟩
    simp only [List.nodup_cons, List.mem_cons, List.not_mem_nil, or_false, not_or, not_false_eq_true, List.nodup_nil, and_true]
    exact ⟨⟨Nat.ne_of_lt (Nat.lt_succ_of_lt al), Nat.ne_of_lt al⟩, Nat.succ_ne_self _⟩
/-- for x in a list or a tuple -/
def iSeq (K : Fr1) (tl : TE) : TI := fun σ H R => tl σ H fun x H1 => ∃ a xs, x = .ref a ∧ Sq K H1 a xs ∧ tWk K H1 a xs (YAt xs) R
theorem pi_seq {X : Cx} {tg l : Expr} {tl : TE} (hl : PE X l tl) : PI X tg l (iSeq X.K tl) := by
  refine ⟨fun pins s σ H R I h => thn (hl.run pins s σ H _ I h) ?_⟩
  rintro v s1 ⟨_, H1, I1, r1, a, xs, rfl, hq, q⟩
  cases r1
  have fp : ∀ b ∈ [s1.heap.objs.size], FpOk X pins H1 b := by
    rintro _ (_ | ⟨_, ⟨⟩⟩)
    exact I1.fpOk Nat.le.refl (I1.hok.fresh Nat.le.refl)
  have new : ∀ (o : Obj), o.isFreed = false → (s1.heap.push o).get? s1.heap.objs.size = some o := fun o f => Heap.get?_push_size _ f
  rcases hq with hq | hq
  · obtain ⟨its, -, p, -⟩ := I1.list (SqL.of hq)
    exact wpAny_pyIter_list p.isList ⟨_, _, _, _, H1, rfl, I1.kept (t' := s1.toks) fun _ _ => Heap.get?_push_of_some _, turn_list a _, ⟨_, new _ rfl, rfl, rfl⟩, fp, q _ (walk_list.mono (fun _ x => SqL.of (x.trans hq)) fun _ _ _ _ _ _ y => y)⟩
  · obtain ⟨its, -, p, -⟩ := I1.tuple (SqT.of hq)
    exact wpAny_pyIter_tuple (t := a) (items := its.toArray) p ⟨_, _, _, _, H1, rfl, I1.kept (t' := s1.toks) fun _ _ => Heap.get?_push_of_some _, turn_tuple a _, ⟨_, new _ rfl, rfl, rfl⟩, fp, q _ (walk_tup.mono (fun _ x => SqT.of (x.trans hq)) fun _ _ _ _ _ _ y => y)⟩
theorem w_lenX {K : Fr1} {H : Hp} {p : Addr} {ys : List V} {P : List V → Prop} (h : Sq K H p ys) (k : P ys) : ∃ p' ys', [V.ref p] = [.ref p'] ∧ (SqL K H p' ys' ∨ SqT K H p' ys') ∧ P ys' := by
  rcases h with h | h
  · exact ⟨p, ys, rfl, .inl (SqL.of h), k⟩
  · exact ⟨p, ys, rfl, .inr (SqT.of h), k⟩
theorem _root_.Evl.Ex.delD {H H' : Hp} {D : Addr} (e : Ex H H') (h : H D = none) : Ex H (del H' D) := fun b o hb => by
  rw [del_ne (ne_of_none hb h)]
  exact e b o hb
theorem ex_del {H : Hp} {D : Addr} : Ex (del H D) H := fun b o hb => by
  by_cases q : b = D
  · rw [q, del_same] at hb
    cases hb
  · rw [del_ne q] at hb
    exact hb
theorem paired_mono {α : Type} {R R' : V → α → Prop} (m : ∀ v a, R v a → R' v a) : ∀ {vs : List V} {as : List α}, Paired R vs as → Paired R' vs as
  | _, _, .nil => .nil
  | _, _, .cons h t => .cons (m _ _ h) (paired_mono m t)
theorem paired_snoc {α : Type} {R : V → α → Prop} {v : V} {a : α} (h : R v a) : ∀ {vs : List V} {as : List α}, Paired R vs as → Paired R (vs ++ [v]) (as ++ [a])
  | _, _, .nil => .cons h .nil
  | _, _, .cons q t => .cons q (paired_snoc h t)
theorem dqA_of {K : Fr1} {H : Hp} : ∀ {vs : List V} {ds : List PyData}, Paired (Dq K H) vs ds → DqAll K H vs ds
  | _, _, .nil => .nil
  | _, _, .cons h t => .cons h (dqA_of t)
theorem range_fm_succ {α : Type} (f : Nat → Option α) (n : Nat) : (List.range (n + 1)).filterMap f = (List.range n).filterMap f ++ (f n).toList := by
  rw [List.range_succ, List.filterMap_append]
  cases e : f n <;> simp [List.filterMap_cons, e]
theorem range_map_get {α β : Type} (l : List α) (f : α → β) : (List.range l.length).filterMap (fun i => (l[i]?).map f) = l.map f := by
  have h : ∀ (n : Nat), n ≤ l.length → (List.range n).filterMap (fun i => (l[i]?).map f) = (l.take n).map f := by
    intro n
    induction n with
    | zero => intro _; simp
    | succ n ih =>
      intro hn
      rw [range_fm_succ, ih (by omega), List.take_add_one, List.map_append]
      cases l[n]? <;> simp
  rw [h _ (Nat.le_refl _), List.take_length]
/-- a comprehension over a walk: at turn i it gives f i's datum, or nothing -/
theorem lc_gen {α : Type} {J : It} {n : Nat} {Y : Nat → Hp → V → Hp → Prop} {H : Hp} {g : TG} {tt : TT} {te : TE} {vs : List Nat} {σ : L2.St} {Q : Addr → Hp → Prop} (R : Hp → V → α → Prop) (mono : ∀ H H' v a, Ex H H' → R H v a → R H' v a)
    (wk : Walk J n (fun H' => Ex H H') Y) (f : Nat → Option α) (hz : n < sizeLine)
    (hs : ∀ (D : Addr) (i : Nat) (x : V) (H' H1 : Hp) (k1 : V → Hp → Prop) (k2 : Hp → Prop), H D = none → i < n → Ex H H' → (∃ o, H' D = some o) → Y i H' x H1 →
      (∀ a y H4, f i = some a → Ex H' H4 → R (del H4 D) y a → k1 y H4) → (f i = none → ∀ H4, Ex H' H4 → k2 H4) →
      g x (wipe σ vs) H1 fun σ2 H2 => wipe σ2 vs = wipe σ vs ∧ tt σ2 H2 fun b H3 => if b = true then te σ2 H3 k1 else k2 H3)
    (hd : ∀ D H', H D = none → Ex H H' → (∃ acc, H' D = some (.lst acc) ∧ Paired (R H') acc ((List.range n).filterMap f)) → Q D H') :
    ∀ D, H D = none → ∃ W : Nat → Nat → Hp → Prop, (∃ m, W 0 m (upd H D (.lst []))) ∧ ∀ i m H, W i m H →
      (J.stop i H ∧ Q D H) ∨ (J.go i H ∧ ∃ Nx : Hp → Prop, (∀ H', Nx H' → ∃ m', m' < m ∧ W (i + 1) m' H') ∧ ∀ x H', J.yld i H x H' → g x (wipe σ vs) H' fun σ2 H2 => wipe σ2 vs = wipe σ vs ∧ tt σ2 H2 fun b H3 =>
        if b = true then te σ2 H3 fun y H4 => ∃ acc, H4 D = some (.lst acc) ∧ acc.length < sizeLine ∧ Nx (upd H4 D (.lst (acc ++ [y]))) else Nx H3) := by
  intro D hD
  refine lc_it wk (fun i H' => i ≤ n ∧ Ex H H' ∧ ∃ acc, H' D = some (.lst acc) ∧ acc.length ≤ i ∧ Paired (R (del H' D)) acc ((List.range i).filterMap f)) ⟨Nat.zero_le _, Ex.new hD, [], upd_same, Nat.le_refl _, .nil⟩ (fun i H' _ p => p.2.1) (fun i x H' H1 hi p y => ?_) (fun H' p => ?_)
  · obtain ⟨hi', e, acc, ha, hal, hp⟩ := p
    refine hs D i x H' H1 _ _ hD hi e ⟨_, ha⟩ y (fun a z H4 hf e4 r => ?_) (fun hf H4 e4 => ?_)
    · refine ⟨acc, e4 _ _ ha, by omega, by omega, (e.trans e4).mut hD, acc ++ [z], upd_same, by rw [List.length_append]; show acc.length + 1 ≤ i + 1; omega, ?_⟩
      have ed : del (upd H4 D (.lst (acc ++ [z]))) D = del H4 D := by
        funext b
        by_cases q : b = D
        · rw [q, del_same, del_same]
        · rw [del_ne q, del_ne q, upd_ne q]
      have e5 : Ex (del H' D) (del H4 D) := Ex.delD (ex_del.trans e4) del_same
      rw [ed, range_fm_succ, hf]
      exact paired_snoc r (paired_mono (fun v a h => mono _ _ v a e5 h) hp)
    · have e5 : Ex (del H' D) (del H4 D) := Ex.delD (ex_del.trans e4) del_same
      refine ⟨by omega, e.trans e4, acc, e4 _ _ ha, by omega, ?_⟩
      rw [range_fm_succ, hf]
      simpa using paired_mono (fun v a h => mono _ _ v a e5 h) hp
  · obtain ⟨_, e, acc, ha, _, hp⟩ := p
    exact hd D H' hD e ⟨acc, ha, paired_mono (fun v a h => mono _ _ v a ex_del h) hp⟩
section
variable {K : Fr1} {σ : L2.St} {H : Hp} {D : Ends} {ta : TA} {tl : TE} {R : It → Hp → Prop}
theorem w_for {wi : TI} {g : TG} {tb : TS} (k : wi σ H fun J H1 => ∃ W : Nat → Nat → L2.St → Hp → Prop, (∃ m, W 0 m σ H1) ∧ ∀ i m σ H, W i m σ H →
  (J.stop i H ∧ D.nx σ H) ∨ (J.go i H ∧ ∃ N : L2.St → Hp → Prop, (∀ σ' H', N σ' H' → ∃ m', m' < m ∧ W (i + 1) m' σ' H') ∧ ∀ x H', J.yld i H x H' → g x σ H' fun σ2 H2 => tb { D with nx := N, ct := N, bk := D.nx } σ2 H2)) : tFor wi g tb D σ H := k
theorem w_enumI (k : ta σ H fun vs H1 => ∃ a xs, vs = [.ref a] ∧ Sq K H1 a xs ∧ tWk K H1 a xs (YEn xs) R) : iEnumX K ta σ H R := k
theorem w_seqI (k : tl σ H fun x H1 => ∃ a xs, x = .ref a ∧ Sq K H1 a xs ∧ tWk K H1 a xs (YAt xs) R) : iSeq K tl σ H R := k
theorem sq_stay {a : Addr} {xs : List V} {H' : Hp} (h : Sq K H a xs) (e : Ex H H') : H' a = H a := by
  rcases h with h | h
  · rw [h, e _ _ h]
  · rw [h, e _ _ h]
theorem w_enumX {a : Addr} {xs : List V} (h : Sq K H a xs) (k : ∀ J, Walk J xs.length (fun H' => Ex H H') (YEn xs) → R J H) : ∃ a' xs', [V.ref a] = [.ref a'] ∧ Sq K H a' xs' ∧ tWk K H a' xs' (YEn xs') R := ⟨a, xs, rfl, h, fun J wk => k J (wk.mono (fun H' e => sq_stay h e) fun _ _ _ _ _ _ y => y)⟩
theorem w_enumA {a : Addr} {xs : List V} (h : Sq K H a xs) (k : ∀ J, Walk J xs.length (fun H' => H' a = H a) (YEn xs) → R J H) : ∃ a' xs', [V.ref a] = [.ref a'] ∧ Sq K H a' xs' ∧ tWk K H a' xs' (YEn xs') R := ⟨a, xs, rfl, h, k⟩
theorem w_listI {tl : TE} (k : tl σ H fun x H1 => ∃ a, x = .ref a ∧ (∃ xs, SqL K H1 a xs) ∧ R (Itl K a) H1) : iList K tl σ H R := k
theorem w_seqX {a : Addr} {xs : List V} (h : Sq K H a xs) (k : ∀ J, Walk J xs.length (fun H' => Ex H H') (YAt xs) → R J H) : ∃ a' xs', V.ref a = .ref a' ∧ Sq K H a' xs' ∧ tWk K H a' xs' (YAt xs') R := ⟨a, xs, rfl, h, fun J wk => k J (wk.mono (fun H' e => sq_stay h e) fun _ _ _ _ _ _ y => y)⟩
theorem w_lc {wi : TI} {g : TG} {tt : TT} {te : TE} {vs : List Nat} {Q : VK} (k : wi σ H fun J H1 => ∀ D, H1 D = none → ∃ W : Nat → Nat → Hp → Prop, (∃ m, W 0 m (upd H1 D (.lst []))) ∧ ∀ i m H, W i m H →
  (J.stop i H ∧ Q (.ref D) H) ∨ (J.go i H ∧ ∃ Nx : Hp → Prop, (∀ H', Nx H' → ∃ m', m' < m ∧ W (i + 1) m' H') ∧ ∀ x H', J.yld i H x H' → g x (wipe σ vs) H' fun σ2 H2 => wipe σ2 vs = wipe σ vs ∧ tt σ2 H2 fun b H3 =>
    if b = true then te σ2 H3 fun y H4 => ∃ acc, H4 D = some (.lst acc) ∧ acc.length < sizeLine ∧ Nx (upd H4 D (.lst (acc ++ [y]))) else Nx H3)) : tLc wi g tt te vs σ H Q := k
theorem w_rng1 {ta : TA} (k : ta σ H fun vs H1 => ∃ j : Int, vs = [.int j] ∧ -(2 ^ 62) ≤ j ∧ j < 2 ^ 62 ∧ R (Itr 0 j.toNat) H1) : iRng1 ta σ H R := k
theorem w_rng2 {ta : TA} (k : ta σ H fun vs H1 => ∃ i j : Int, vs = [.int i, .int j] ∧ (-(2 ^ 62) ≤ i ∧ i < 2 ^ 62 ∧ -(2 ^ 62) ≤ j ∧ j < 2 ^ 62) ∧ R (Itr i (j - i).toNat) H1) : iRng2 ta σ H R := k
end
theorem fmod_in {a b : Int} (h : 0 < b) : 0 ≤ a.fmod b ∧ a.fmod b < b := ⟨Int.fmod_nonneg_of_pos a h, Int.fmod_lt_of_pos a h⟩
theorem atI_int {ns : List Int} {a : Int} (h : 0 ≤ a) (h2 : a < ns.length) : ∃ z, atI (ns.map V.int) a = some (.int z) := by
  obtain ⟨j, rfl⟩ : ∃ j : Nat, a = (j : Int) := ⟨a.toNat, by omega⟩
  have hj : j < ns.length := by omega
  exact ⟨ns[j], atI_nat (by rw [List.getElem?_map, List.getElem?_eq_getElem hj]; rfl)⟩
/-! ### the state of the draws -/
abbrev drL (L : Addr) (a b c d e : Int) : List V := [.ref L, .int a, .int b, .int c, .int d, .int e]
section
variable {P : Program} {w : World}
/-- the state of the draws, by what stays true of it -/
def drOk (s L : Addr) (h : Heap) : Prop := ∃ (a b c d e : Int) (its : List Value) (n : Nat), 0 ≤ a ∧ Vals (drL L a b c d e) its ∧ h.get? s = some { cls := .type "list", data := .seq its.toArray n }
def StO (s L : Addr) : HO := .ext (drOk s L)
theorem st_open {H : Hp} {h : Heap} {s L : Addr} (ok : HOk P w H h) (hs : H s = some (StO s L)) : ∃ a b c d e : Int, 0 ≤ a ∧ HOk P w (upd H s (.lst (drL L a b c d e))) h := by
  have x : ObjOk P w H h s (.ext (drOk s L)) := ok s _ hs
  obtain ⟨⟨a, b, c, d, e, its, n, h0, r, g⟩, _⟩ := x
  refine ⟨a, b, c, d, e, h0, fun q u eq => ?_⟩
  by_cases hq : q = s
  · subst hq
    rw [upd_same] at eq
    cases eq
    exact ⟨by show 6 ≤ sizeLine; decide, its, n, r, g⟩
  · rw [upd_ne hq] at eq
    exact (ok q u eq).stay (fun _ _ _ z => z) (fun c' hc => by rw [upd_ne (ne_of hc hs (by intro z; cases z))]; exact hc) fun c' xs hc => by rw [upd_ne (ne_of hc hs (by intro z; cases z))]; exact hc
theorem st_close {H : Hp} {h : Heap} {s L : Addr} {a b c d e : Int} (ok : HOk P w H h) (hs : H s = some (.lst (drL L a b c d e))) (h0 : 0 ≤ a) : HOk P w (upd H s (StO s L)) h := by
  intro q u eq
  by_cases hq : q = s
  · subst hq
    rw [upd_same] at eq
    cases eq
    obtain ⟨_, its, n, r, g⟩ := (show ObjOk P w H h q (.lst (drL L a b c d e)) from ok q _ hs)
    exact ⟨⟨a, b, c, d, e, its, n, h0, r, g⟩, ⟨_, g⟩, fun h1 h2 ⟨a1, b1, c1, d1, e1, its1, n1, z0, z1, z2⟩ kk => ⟨a1, b1, c1, d1, e1, its1, n1, z0, z1, kk _ z2⟩⟩
  · rw [upd_ne hq] at eq
    exact (ok q u eq).stay (fun _ _ _ z => z) (fun c' hc => by rw [upd_ne (ne_of hc hs (by intro z; cases z))]; exact hc) fun c' xs hc => by rw [upd_ne (ne_of hc hs (by intro z; cases z))]; exact hc
end
/-! ### keyword calls of defs and methods without defaults; instances that are called -/
def permL {α : Type} (l : List Nat) (xs : List α) : List α := l.filterMap fun i => xs[i]?
theorem vals_get : ∀ {vs : List V} {us : List Value}, Vals vs us → ∀ i : Nat, (vs[i]? = none ∧ us[i]? = none) ∨ ∃ v u, vs[i]? = some v ∧ us[i]? = some u ∧ RelV v u
  | _, _, .nil, _ => .inl ⟨rfl, rfl⟩
  | _, _, .cons h _, 0 => .inr ⟨_, _, rfl, rfl, h⟩
  | _, _, .cons _ t, i + 1 => vals_get t i
theorem permL_rel {vs : List V} {us : List Value} (h : Vals vs us) : ∀ l : List Nat, Vals (permL l vs) (permL l us)
  | [] => .nil
  | i :: l => by
    have ih := permL_rel h l
    unfold permL at ih ⊢
    rcases vals_get h i with ⟨e1, e2⟩ | ⟨v, u, e1, e2, r⟩
    · rw [List.filterMap_cons_none e1, List.filterMap_cons_none e2]
      exact ih
    · rw [List.filterMap_cons_some e1, List.filterMap_cons_some e2]
      exact .cons r ih
/-- the positional values and then the keywords' values, put in the parameters' order -/
def gP (l : List Nat) {α : Type} (us ws : List α) : List α := permL l (us ++ ws)
theorem kbn0 {K : Fr1} {x qual : Str} {params : Arguments} {body : List Stmt} {scope : Scope} {f : Addr} {fd : FuncData} {ps : List Str} (F : FunD K x qual params body scope [] [] f fd) (n : Nat) (ks : List Str) (l : List Nat)
    (h : ∀ (kV doc pm : Value) (an : Option Addr) (cdv ct : Value) (us ws : List Value), us.length = n → ws.length = ks.length → bindArgs (PySem.W.fnOf x qual params body scope .none kV doc pm an cdv ct) ⟨us, ks.zip ws⟩ = pure (ps.zip (gP l us ws))) : KBn K fd ps n ks (fun us ws => gP l us ws) (fun us ws => gP l us ws) := by
  obtain ⟨oc, od, dV, kV, doc, pm, an, cdv, ct, osl, rfl, lk, hcd, hD, hK⟩ := F.ex
  rcases hD with ⟨_, rfl⟩ | ⟨e, _⟩
  · exact ⟨fun s us ws _ l1 l2 => .of_eq (h kV doc pm an cdv ct us ws l1 l2), fun r1 r2 => permL_rel (r1.append r2) l⟩
  · exact absurd rfl e
/-- o.m(k = v, ..) of an instance of the class at C -/
def tMethK (C : Addr) (m : Str) (n : Nat) (l : List Nat) (sp : Sp) (E : XK) (ta : TE) (tk : TA) : TE := fun σ H Q => ta σ H fun x H1 => ∃ a dx fs, x = .ref a ∧ H1 a = some (.ins C dx fs) ∧ fs.lookup m = none ∧ tk σ H1 fun zs H2 => zs.length = n ∧ sp (gP l [x] zs) H2 Q E
/-- f(k = v, ..) -/
def tCallKw (n : Nat) (l : List Nat) (sp : Sp) (E : XK) (tk : TA) : TE := fun σ H Q => tk σ H fun zs H2 => zs.length = n ∧ sp (gP l [] zs) H2 Q E
section
variable {X : Cx} {σ : L2.St} {H : Hp} {Q : VK} {te tf : TE} {tk tA : TA} {sp : Sp} {E : XK} {C : Addr}
theorem w_prop {dvs : List V} (k : te σ H fun x H1 => ∃ a dx fs, x = .ref a ∧ H1 a = some (.ins C dx fs) ∧ sp (.ref a :: dvs) H1 Q E) : tProp C sp dvs E te σ H Q := k
theorem w_make {dvs : List V} (k : tA σ H fun vs H1 => ∀ x dx, H1 x = none → H1 dx = none → dx ≠ x → sp (.ref x :: (vs ++ dvs)) (upd (upd H1 dx (.own x)) x (.ins C dx [])) (fun v H2 => v = .non ∧ Q (.ref x) H2) E) : tMake C sp dvs E tA σ H Q := k
theorem w_methN {m : Str} {dvs : List V} (k : te σ H fun x H1 => ∃ a dx fs, x = .ref a ∧ H1 a = some (.ins C dx fs) ∧ fs.lookup m = none ∧ tA σ H1 fun vs H2 => sp (x :: (vs ++ dvs)) H2 Q E) : tMeth C m sp dvs E te tA σ H Q := k
theorem w_disp {trs : List (TE × TE)} (k : ∀ p, H p = none → tPairs trs σ (upd H p (.dK [])) fun ps H2 => H2 p = some (.dK []) ∧ ∃ kvs : List (Key × V), ps = kvs.map (fun kv => (kV kv.1, kv.2)) ∧ kvs.length ≤ 15 ∧ Q (.ref p) (upd H2 p (.dK (mergeK [] kvs)))) : tDisp trs σ H Q := k
theorem w_pairsN {QP : List (V × V) → Hp → Prop} (k : QP [] H) : tPairs [] σ H QP := k
theorem w_pairsC {QP : List (V × V) → Hp → Prop} {tk tv : TE} {trs : List (TE × TE)} (k : tk σ H fun x H1 => tv σ H1 fun y H2 => tPairs trs σ H2 fun ps H3 => QP ((x, y) :: ps) H3) : tPairs ((tk, tv) :: trs) σ H QP := k
theorem w_dnew (k : ∀ p, H p = none → Q (.ref p) (upd H p (.dK []))) : tDNewK σ H Q := k
theorem w_bm0 {K : Fr1} {T : String} {r : V → List V → Hp → VK → Prop} (k : te σ H fun x H1 => tyV K T x H1 ∧ r x [] H1 Q) : tBM0 K T r te σ H Q := k
theorem w_methK {m : Str} {n : Nat} {l : List Nat} (k : te σ H fun x H1 => ∃ a dx fs, x = .ref a ∧ H1 a = some (.ins C dx fs) ∧ fs.lookup m = none ∧ tk σ H1 fun zs H2 => zs.length = n ∧ sp (gP l [x] zs) H2 Q E) : tMethK C m n l sp E te tk σ H Q := k
theorem w_callKw {n : Nat} {l : List Nat} (k : tk σ H fun zs H2 => zs.length = n ∧ sp (gP l [] zs) H2 Q E) : tCallKw n l sp E tk σ H Q := k
theorem w_makeK {n m : Nat} {gV : List V → List V → List V} (k : tA σ H fun vs H1 => tk σ H1 fun zs H2 => vs.length = n ∧ zs.length = m ∧ ∀ x dx, H2 x = none → H2 dx = none → dx ≠ x →
  sp (gV (.ref x :: vs) zs) (upd (upd H2 dx (.own x)) x (.ins C dx [])) (fun v H3 => v = .non ∧ Q (.ref x) H3) E) : tMakeK C n m sp gV E tA tk σ H Q := k
theorem w_callO (k : tf σ H fun y H1 => ∃ a, y = V.ref a ∧ tA σ H1 fun vs H2 => StX.InsC X H2 a C ∧ sp (V.ref a :: vs) H2 Q E) : StX.tCallO X C sp E tf tA σ H Q := k
end
/-! ### list(d.values()) -/
def tListVals (td : TE) : TE := fun σ H Q => td σ H fun v H1 => ∃ d kvs, v = .ref d ∧ H1 d = some (.dK kvs) ∧ ∀ l, H1 l = none → Q (.ref l) (upd H1 l (.lst (kvs.map (·.2))))
theorem w_listVals {σ : L2.St} {H : Hp} {Q : VK} {td : TE} (k : td σ H fun v H1 => ∃ d kvs, v = .ref d ∧ H1 d = some (.dK kvs) ∧ ∀ l, H1 l = none → Q (.ref l) (upd H1 l (.lst (kvs.map (·.2))))) : tListVals td σ H Q := k
/-! ### == and != of one and the same object -/
def SameV (K : Fr1) (H : Hp) (x : V) : Prop := flatV x = true ∨ (∃ a xs, x = .ref a ∧ (H a = some (.lst xs) ∨ H a = some (.tup xs))) ∨ ∃ a kvs, x = .ref a ∧ H a = some (.dK kvs) ∧ kvs.length ≤ 1
def rEqS (K : Fr1) : R2 := fun x y H Q => y = x ∧ SameV K H x ∧ Q (.bl true) H
def rNeS (K : Fr1) : R2 := fun x y H Q => y = x ∧ SameV K H x ∧ Q (.bl false) H
theorem scal_self {x : V} (h : flatV x = true) : scal x x = true := by cases x <;> first | rfl | cases h
theorem hits_one {A : Around} {s : Shared} : ∀ {va : List (Key × Value)}, va.length ≤ 1 → PySem.W.KeqHits A s va va true
  | [], _ => .nil
  | [(k, u)], _ => by
    show PySem.W.KeqHits A s [(k, u)] [(k, u)] (true && true)
    exact .hit (by simp [valueAt]) (SeqAt.EqAt.same u) .nil
  | _ :: _ :: _, h => by simp at h
section
variable {X : Cx}
theorem op_eqS (hu : X.A.units + 64 < cLine) : OpR X (compareOp .Eq) (rEqS X.K) := by
  intro pins s σ H x y v u Q I rx ry h
  obtain ⟨rfl, hs, q⟩ := h
  rcases hs with f | ⟨a, xs, rfl, hq⟩ | ⟨a, kvs, rfl, hd, hl⟩
  · exact op_eq pins s σ H y y v u Q I rx ry ⟨scal_self f, by rw [decide_eq_true rfl]; exact q⟩
  · obtain rfl : v = Value.ref a := rx
    obtain rfl : u = Value.ref a := ry
    rcases hq with hq | hq
    · obtain ⟨its, r, pl, _⟩ := I.list (SqL.of hq)
      exact SeqAt.RcAt.lists (e := fun _ => true) pl.isList pl.isList rfl (by omega) (fun j _ _ => SeqAt.EqAt.same _) _ _ _ _ ⟨.bl true, H, I, by rw [List.all_eq_true.mpr fun _ _ => rfl] <;> rfl, q⟩
    · obtain ⟨its, r, pl, _⟩ := I.tuple (SqT.of hq)
      exact SeqAt.RcAt.tuples (e := fun _ => true) pl pl (by omega) (fun j _ _ => SeqAt.EqAt.same _) _ _ _ _ ⟨.bl true, H, I, by rw [List.all_eq_true.mpr fun _ _ => rfl, Bool.true_and, beq_self_eq_true] <;> rfl, q⟩
  · obtain rfl : v = Value.ref a := rx
    obtain rfl : u = Value.ref a := ry
    obtain ⟨_, ya, va, ra, da⟩ := dk_of I.hok hd
    have e : va.length ≤ 1 := by rw [← ra.length]; exact hl
    exact PySem.W.keq_eq (knd := mixKind X.prog X.w) (r := true) ya ya da da (by omega) (fun _ => hits_one e) (fin_bl I q (by simp))
theorem op_neS (hu : X.A.units + 64 < cLine) : OpR X (compareOp .NotEq) (rNeS X.K) := by
  intro pins s σ H x y v u Q I rx ry h
  obtain ⟨rfl, hs, q⟩ := h
  rcases hs with f | ⟨a, xs, rfl, hq⟩ | ⟨a, kvs, rfl, hd, hl⟩
  · exact op_ne pins s σ H y y v u Q I rx ry ⟨scal_self f, by rw [decide_eq_true rfl]; exact q⟩
  · obtain rfl : v = Value.ref a := rx
    obtain rfl : u = Value.ref a := ry
    rcases hq with hq | hq
    · obtain ⟨its, r, pl, _⟩ := I.list (SqL.of hq)
      exact SeqAt.RcNeAt.lists (e := fun _ => true) pl.isList pl.isList rfl (by omega) (fun j _ _ => SeqAt.EqAt.same _) _ _ _ _ ⟨.bl false, H, I, by rw [List.all_eq_true.mpr fun _ _ => rfl] <;> rfl, q⟩
    · obtain ⟨its, r, pl, _⟩ := I.tuple (SqT.of hq)
      exact SeqAt.RcNeAt.tuples (e := fun _ => true) pl pl (by omega) (fun j _ _ => SeqAt.EqAt.same _) _ _ _ _ ⟨.bl false, H, I, by rw [List.all_eq_true.mpr fun _ _ => rfl, Bool.true_and, beq_self_eq_true] <;> rfl, q⟩
  · obtain rfl : v = Value.ref a := rx
    obtain rfl : u = Value.ref a := ry
    obtain ⟨_, ya, va, ra, da⟩ := dk_of I.hok hd
    have e : va.length ≤ 1 := by rw [← ra.length]; exact hl
    exact PySem.W.keq_ne (knd := mixKind X.prog X.w) (r := true) ya ya da da (by omega) (fun _ => hits_one e) (fin_bl I q (by simp))
end
/-! ### != by an own == -/
section Ne
open Builtin
/-! ### == and != of instances by the text's own == -/
def rOwnE (C : Addr) (sp : Sp) (E : XK) : R2 := fun x y H Q => ∃ a b dx dy fs gs, x = .ref a ∧ y = .ref b ∧ H a = some (.ins C dx fs) ∧ H b = some (.ins C dy gs) ∧ sp [x, y] H (fun v H' => ∃ k, v = .bl k ∧ Q (.bl k) H') E
def rOwnN (C : Addr) (sp : Sp) (E : XK) : R2 := fun x y H Q => ∃ a b dx dy fs gs, x = .ref a ∧ y = .ref b ∧ H a = some (.ins C dx fs) ∧ H b = some (.ins C dy gs) ∧ sp [x, y] H (fun v H' => ∃ k, v = .bl k ∧ Q (.bl (!k)) H') E
end Ne
/-! ### within try: what a callee may let out is wished for at the place of the call -/
section Tr
variable {X : Cx} {CX : CXT} {k : Nat} {f C : Addr} {fd : FuncData} {ps : List Str} {sp : Sp} {E : L2.St → XK} {m x : Str} {p pos apos : Pos} {e o : Expr} {es : List Expr} {ta tf : TE} {t : TA}
def tMethE (C : Addr) (m : Str) (sp : Sp) (E : L2.St → XK) (ta : TE) (t : TA) : TE := fun σ H Q => ta σ H fun x H1 => ∃ a dx fs, x = .ref a ∧ H1 a = some (.ins C dx fs) ∧ fs.lookup m = none ∧ t σ H1 fun vs H2 => sp (x :: vs) H2 Q (E σ)
def tMakeE (C : Addr) (sp : Sp) (E : L2.St → XK) (t : TA) : TE := fun σ H Q => t σ H fun vs H1 => ∀ x dx, H1 x = none → H1 dx = none → dx ≠ x → sp (.ref x :: vs) (upd (upd H1 dx (.own x)) x (.ins C dx [])) (fun v H2 => v = .non ∧ Q (.ref x) H2) (E σ)
end Tr
section
variable {K : Fr1} {σ : L2.St} {H : Hp} {Q : VK} {ta : TE} {t : TA} {sp : Sp} {E : L2.St → XK} {C : Addr}
theorem w_methE {m : Str} (k : ta σ H fun x H1 => ∃ a dx fs, x = .ref a ∧ H1 a = some (.ins C dx fs) ∧ fs.lookup m = none ∧ t σ H1 fun vs H2 => sp (x :: vs) H2 Q (E σ)) : tMethE C m sp E ta t σ H Q := k
theorem w_makeE (k : t σ H fun vs H1 => ∀ x dx, H1 x = none → H1 dx = none → dx ≠ x → sp (.ref x :: vs) (upd (upd H1 dx (.own x)) x (.ins C dx [])) (fun v H2 => v = .non ∧ Q (.ref x) H2) (E σ)) : tMakeE C sp E t σ H Q := k
theorem w_callS (k : t σ H fun vs H1 => sp vs H1 Q (E σ)) : tCallS sp E t σ H Q := k
end
/-! ### an instance called within try -/
section Co
variable {X : Cx} {CX : CXT} {k : Nat} {g C : Addr} {fd : FuncData} {ps : List Str} {sp : Sp} {E : L2.St → XK} {pos : Pos} {e fe : Expr} {es : List Expr} {tf : TE} {t : TA}
def tCallOE (C : Addr) (sp : Sp) (E : L2.St → XK) (tf : TE) (t : TA) : TE := fun σ H Q => tf σ H fun y H1 => ∃ a, y = V.ref a ∧ t σ H1 fun vs H2 => (∃ dx fs, H2 a = some (.ins C dx fs)) ∧ sp (V.ref a :: vs) H2 Q (E σ)
theorem w_callOE {C : Addr} {sp : Sp} {E : L2.St → XK} {tf : TE} {t : TA} {σ : L2.St} {H : Hp} {Q : VK} (k : tf σ H fun y H1 => ∃ a, y = V.ref a ∧ t σ H1 fun vs H2 => (∃ dx fs, H2 a = some (.ins C dx fs)) ∧ sp (V.ref a :: vs) H2 Q (E σ)) : tCallOE C sp E tf t σ H Q := k
end Co
/-! ### len(o) by the text's own __len__ -/
def rLenO (C : Addr) (sp : Sp) (E : XK) : List V → Hp → VK → Prop := fun xs H Q => ∃ a dx fs, xs = [V.ref a] ∧ H a = some (.ins C dx fs) ∧ sp [.ref a] H (fun v H' => ∃ n : Int, v = .int n ∧ 0 ≤ n ∧ n < 2 ^ 63 ∧ Q (.int n) H') E
theorem call_lenO {X : Cx} {CX : CXT} {k : Nat} {C f : Addr} {fd : FuncData} {ps : List Str} {sp : Sp} {E : XK} (M : Meth X.K C "__len__" f) (F : FnOk X.prog X.w X.K X.mg X.base CX k f fd ps sp) (hr : Room (k + 1) X.A) (hb : Binds X.K fd ps []) (hx : Passes CX X.nox E) :
    CallR X (.builtin "len") (rLenO C sp E) := by
  intro pins s σ H xs us Q I r h
  obtain ⟨a, dx, fs, rfl, ha, h⟩ := h
  obtain rfl := Vals.ref1 r
  obtain ⟨mA, J, _⟩ := ins_get I.hok ha
  obtain ⟨od, J, _⟩ := J.look
  obtain ⟨m, hF⟩ := I.fr
  have hl : ([Value.ref a] ++ []).length = ps.length := by
    rw [← F.len _ _ _ _ h] <;> rfl
  refine PySem.W.len_K hF I.ok.mod.kin J M.at_ M.fn (wpAny_call (codeAny_mono (F.run X.A.in1 X.stack s H ⟨[.ref a], []⟩ [.ref a] [.ref a] _ E hr.in1 I.env0.in1 (by
    have := hb s [.ref a] I.kIn hl
    simpa using this) (.cons rfl .nil) h) fun r s' hq => ?_))
  cases r with
  | error er => exact False.elim (hx pins σ H s er s' (I.wish _) hq)
  | ok fl =>
    cases fl with
    | ret u =>
      obtain ⟨v, H', I3, rv, n, ev, n0, n1, q3⟩ := I.after hq
      subst ev
      obtain ⟨t, rfl⟩ := rv
      exact ⟨⟨n0, n1⟩, ⟨.int n, H', I3.tok _, ⟨_, rfl⟩, q3⟩⟩
    | next => exact False.elim hq
    | brk => exact False.elim hq
    | cont => exact False.elim hq
theorem eqV_self {v : V} (h : flatV v = true) : eqV v v = true := by
  cases v <;> first | rfl | exact beq_self_eq_true _ | cases h
theorem same_items {A : Around} {s : Shared} : ∀ {xs : List V} {us ws : List Value}, Vals xs us → Vals xs ws → (∀ v ∈ xs, flatV v = true ∨ ∃ c, v = .ref c) → ∀ j (h1 : j < us.length) (h2 : j < ws.length), SeqAt.EqAt A s us[j] ws[j] true
  | [], _, _, .nil, .nil, _, _, h1, _ => absurd h1 (Nat.not_lt_zero _)
  | v :: _, _, _, .cons r1 t1, .cons r2 t2, h, 0, _, _ => by
    rcases h v (List.mem_cons_self ..) with f | ⟨c, e⟩
    · have := eqAt_V (A := A) (s := s) r1 r2 f f
      rw [eqV_self f] at this
      exact this
    · subst e
      cases r1
      cases r2
      exact SeqAt.EqAt.same _
  | _ :: _, _, _, .cons _ t1, .cons _ t2, h, j + 1, h1, h2 => same_items t1 t2 (fun v hv => h v (List.mem_cons_of_mem _ hv)) j (Nat.lt_of_succ_lt_succ h1) (Nat.lt_of_succ_lt_succ h2)
/-! ### several except clauses, each with or without a name -/
section TryMix
open PySem PySem.Spec PyProof.Rows L2
abbrev Clauses := List (Value × Option Nat × (Addr → Value → Option Addr → TS))
/-- the ends of a suite whose name lies in slot i: the name is taken away -/
abbrev endsAs (D : Ends) (i : Nat) : Ends := { nx := fun σ' H' => D.nx (σ'.set i none) H', rt := D.rt, bk := fun σ' H' => D.bk (σ'.set i none) H', ct := fun σ' H' => D.ct (σ'.set i none) H' }
/-- what one clause's suite is wished to do -/
def wOne (o : Option Nat) (ts : Addr → Value → Option Addr → TS) (D : Ends) (a : Addr) (cls : Value) (d : Option Addr) (σ : L2.St) (H : Hp) : Prop := match o with
  | none => ts a cls d D σ H
  | some i => ts a cls d (endsAs D i) (σ.set i (some (.ref a))) H
/-- what the clauses are wished to do, the first that fits -/
def wMix (K : PySem.W.Frag) (Wout : WX) (D : Ends) : Clauses → WX
  | [] => Wout
  | (c, o, ts) :: r => fun cls d σ H => ∃ b, PySem.W.exmOne K cls c = some b ∧ (b = true → ∀ a, H a = none → wOne o ts D a cls d σ H) ∧ (b = false → wMix K Wout D r cls d σ H)
def tMix (K : PySem.W.Frag) (tb : WX → TS) (Wout : WX) (l : Clauses) : TS := fun D σ H => tb (wMix K Wout D l) D σ H
theorem w_mix {K : PySem.W.Frag} {tb : WX → TS} {Wout : WX} {l : Clauses} {D : Ends} {σ : L2.St} {H : Hp} (k : tb (wMix K Wout D l) D σ H) : tMix K tb Wout l D σ H := k
/-- a suite's derivation, whatever exception it handles -/
abbrev SuiteOk (X : Cx) (body : List Stmt) (ts : Addr → Value → Option Addr → TS) : Prop := ∀ (a : Addr) (oe : Obj) (cls : Value) (d : Option Addr) (pn : List (Addr × Obj)), Zc cls d oe → (∃ vs, oe.data = .fields vs) → PSs (X.suite a ((a, oe) :: pn)) body (ts a cls d)
inductive HdsMix (X : Cx) : List ExceptHandler → Clauses → Prop
  | nil : HdsMix X [] []
  | bare {x : Str} {c : Value} {ts : Addr → Value → Option Addr → TS} {b : Stmt} {bs : List Stmt} {p q : Pos} {hds : List ExceptHandler} {l : Clauses} (hc : Names X x c) (hsu : SuiteOk X (b :: bs) ts) (r : HdsMix X hds l) :
      HdsMix X (.ExceptHandler (some (.Name x p)) none (b :: bs) q :: hds) ((c, none, ts) :: l)
  | as {x n : Str} {i : Nat} {c : Value} {ts : Addr → Value → Option Addr → TS} {b : Stmt} {bs : List Stmt} {p q : Pos} {hds : List ExceptHandler} {l : Clauses} (hi : X.N[i]? = some n) (hln : X.env.kindOf n = some .local) (hc : Names X x c) (hsu : SuiteOk X (b :: bs) ts) (r : HdsMix X hds l) :
      HdsMix X (.ExceptHandler (some (.Name x p)) (some n) (b :: bs) q :: hds) ((c, some i, ts) :: l)
/-- the exception at a has landed in the running def: while it lies so, the def's state holds, and it may be raised again -/
structure Caught (X : Cx) (pins : List (Addr × Obj)) (a : Addr) (cls : Value) (d : Option Addr) (σ : L2.St) (H : Hp) (B : Heap) (s : Shared) : Prop where
  free : H a = none
  flies : HandSPX.FlyingZ B (X.env :: X.outer) a (Zc cls d) s.heap
  inv : ∀ h', HandSPX.FlyingZ B (X.env :: X.outer) a (Zc cls d) h' → s.heap.UpToSlots h' → Inv X pins σ H { s with heap := h' }
  again : ∀ h' (W : WX), HandSPX.HeldZ B (X.env :: X.outer) a (Zc cls d) X.env.locals h' → s.heap.UpToSlots h' → W cls d σ H → XE X W (.ref a) { s with heap := h' }
section
variable {X : Cx} {pins : List (Addr × Obj)} {a : Addr} {cls : Value} {d : Option Addr} {σ : L2.St} {H : Hp} {B : Heap} {s : Shared}
/-- no frame of the stack is the exception's object -/
theorem flying_off {h : Heap} (hf : X.env.frame = some X.env.locals) (F : HandSPX.FlyingZ B (X.env :: X.outer) a (Zc cls d) h) : ∃ oe vs, h.get? a = some oe ∧ Zc cls d oe ∧ oe.data = .fields vs ∧ a ≠ X.env.locals ∧ a ∉ X.fs := by
  obtain ⟨oe, vs, e1, e2, e3⟩ := F.there
  have off : a ∉ frs (X.env :: X.outer) := fun hm => by
    obtain ⟨_, o', e4, no⟩ := F.2.2.1.mem hm
    cases e1.symm.trans e4
    exact no vs e3
  refine ⟨oe, vs, e1, e2, e3, fun z => off ?_, fun hm => off ?_⟩
  · rw [z]
    exact List.mem_filterMap.mpr ⟨X.env, .head _, hf⟩
  · obtain ⟨e, he, q⟩ := List.mem_filterMap.mp hm
    exact List.mem_filterMap.mpr ⟨e, .tail _ he, q⟩
/-- the state as a suite that handles it finds it -/
theorem Caught.inSuite (hf : X.env.frame = some X.env.locals) (C : Caught X pins a cls d σ H B s) {h' : Heap} (F : HandSPX.FlyingZ B (X.env :: X.outer) a (Zc cls d) h') (u : s.heap.UpToSlots h') :
    ∃ oe, Zc cls d oe ∧ (∃ vs, oe.data = .fields vs) ∧ h'.get? a = some oe ∧ Inv (X.suite a ((a, oe) :: (X.pn ++ pins))) [] σ H { s with heap := h' } := by
  obtain ⟨oe, vs, e1, e2, e3, n1, n2⟩ := flying_off hf F
  exact ⟨oe, e2, ⟨vs, e3⟩, e1, (C.inv h' F u).suite e1 e3 C.free n1 n2⟩
/-- a clause's class is looked up, and the exception held against it -/
theorem Caught.test (hf : X.env.frame = some X.env.locals) (C : Caught X pins a cls d σ H B s) {x : Str} {c : Value} {p q : Pos} {b : Bool} (hc : Names X x c) (hb : PySem.W.exmOne X.K cls c = some b) {R : Result → Shared → Prop} (k : R (.ok (if b = true then .brk else .next)) s) :
    codeAny (model X.prog X.w) (X.A.mark (some (.ref a))) (.handlers (.ref a) [.ExceptHandler (some (.Name x p)) none [] q] X.env) R s := by
  obtain ⟨oe, e2, _, e1, S⟩ := C.inSuite hf C.flies (Heap.UpToSlots.refl _)
  have fits := PySem.W.exm_one (M := model X.prog X.w) S.kIn (fun A Q E s' kp q => wpAny_typeOf_ref (kp _ _ e1) (by rw [e2.1]; exact q)) hb
  refine codeAny_handlers_test ?_
  obtain ⟨g1, g2, g3⟩ := hc
  rcases g3 with g3 | ⟨g3, g4, g5⟩
  · exact ld_glob S g1 g3 (fits.here k) g2
  · exact ld_blt S g1 g3 g4 (fits.here k) g5 g2
/-- no clause is left: the exception goes on -/
theorem Caught.leaves (hf : X.env.frame = some X.env.locals) (C : Caught X pins a cls d σ H B s) {Wout : WX} (tk : Takes X Wout) (w : Wout cls d σ H) {Q : Flow → Shared → Prop} : wpAny (model X.prog X.w) X.A (handleBy (.ref a) X.env []) Q X.xe s := by
  obtain ⟨_, _, _, oe, vs, T, _, _, e1, _, e3, e4, _⟩ := id C.flies
  have out : wpAny (model X.prog X.w) X.A (setFlight (.ref a) X.env.frame) (fun _ s4 => wpAny (model X.prog X.w) X.A (throw (.ref a) : Sem Flow) Q X.xe s4) X.xe s := by
    rw [hf]
    exact HandSPX.setFlight_upZ C.flies fun h' hh u => wpAny_throw (tk _ _ (C.again h' Wout hh u w))
  refine wpAny_handleBy_nil ?_
  unfold PySem.passOn
  refine wpAny_bind (wpAny_field e1 e3 e4 ?_)
  rw [if_neg (by simp)]
  first | exact wpAny_bind out | exact wpAny_bind (wpAny_pure (wpAny_bind out))
/-- what a suite left behind it, seen by the def -/
theorem sp_unsuite {D : Ends} {a : Addr} {q : Addr × Obj} {f : Flow} {s' : Shared} (ok : X.Ok) (h : SP (X.suite a (q :: (X.pn ++ pins))) [] D f s') : SP X pins D f s' := by
  cases f with
  | next => exact h.imp fun _ h => h.imp fun _ h => ⟨h.1.unsuite ok, h.2⟩
  | brk => exact h.imp fun _ h => h.imp fun _ h => ⟨h.1.unsuite ok, h.2⟩
  | cont => exact h.imp fun _ h => h.imp fun _ h => ⟨h.1.unsuite ok, h.2⟩
  | ret u => exact h.imp fun _ h => h.imp fun _ h => h.imp fun _ h => ⟨h.1.unsuite ok, h.2⟩
theorem sp_untry {D : Ends} {xe : Value → Shared → Prop} {f : Flow} {s' : Shared} {pn' : List (Addr × Obj)} (ok : X.Ok) (h : SP (X.tr (X.pn ++ pins) xe) pn' D f s') : SP X pins D f s' := by
  cases f with
  | next => exact h.imp fun _ h => h.imp fun _ h => ⟨h.1.ofTry ok, h.2⟩
  | brk => exact h.imp fun _ h => h.imp fun _ h => ⟨h.1.ofTry ok, h.2⟩
  | cont => exact h.imp fun _ h => h.imp fun _ h => ⟨h.1.ofTry ok, h.2⟩
  | ret u => exact h.imp fun _ h => h.imp fun _ h => h.imp fun _ h => ⟨h.1.ofTry ok, h.2⟩
/-- a suite without a name -/
theorem Caught.bare (ok : X.Ok) (hf : X.env.frame = some X.env.locals) (C : Caught X pins a cls d σ H B s) {b : Stmt} {bs : List Stmt} {q : Pos} {ts : Addr → Value → Option Addr → TS} {D : Ends} (hsu : SuiteOk X (b :: bs) ts) (w : ts a cls d D σ H)
    {R : Result → Shared → Prop} (k : ∀ f s', SP X pins D f s' → R (.ok f) s') : codeAny (model X.prog X.w) (X.A.mark (some (.ref a))) (.handlers (.ref a) [.ExceptHandler none none (b :: bs) q] X.env) R s := by
  refine codeAny_handlers_suite (HandSPX.lands_againZ C.flies fun h' F u => ?_)
  obtain ⟨oe, e2, e3, _, S⟩ := C.inSuite hf F u
  exact wpAny_mono ((hsu a oe cls d _ e2 e3).run [] _ σ H D S w) (fun f s' h => k f s' (sp_unsuite ok h)) fun _ _ z => z.elim
/-- a suite with a name: the slot i -/
theorem Caught.named (ok : X.Ok) (hf : X.env.frame = some X.env.locals) (hN : X.N.Nodup) (C : Caught X pins a cls d σ H B s) {n : Str} {i : Nat} (hi : X.N[i]? = some n) (hln : X.env.kindOf n = some .local) {b : Stmt} {bs : List Stmt} {q : Pos} {ts : Addr → Value → Option Addr → TS} {D : Ends}
    (hsu : SuiteOk X (b :: bs) ts) (w : ts a cls d (endsAs D i) (σ.set i (some (.ref a))) H) {R : Result → Shared → Prop}
    (k : ∀ f s', wpAny (model X.prog X.w) X.A (do bindName X.env n .none; unbindBehindTheSuite X.env n q) (fun _ s7 => SP X pins D f s7) X.xe s' → R (.ok f) s') :
    codeAny (model X.prog X.w) (X.A.mark (some (.ref a))) (.handlers (.ref a) [.ExceptHandler none (some n) (b :: bs) q] X.env) R s := by
  refine codeAny_handlers_suite_as (HandSPX.lands_againZ C.flies fun h' F u => ?_)
  obtain ⟨oe, e2, e3, _, S⟩ := C.inSuite hf F u
  refine store_ok (X := X.suite a ((a, oe) :: (X.pn ++ pins))) (pins := []) (v := .ref a) S hN hi (.inl hln) rfl (fun s5 S5 => ?_) (.inr hln)
  refine wpAny_mono ((hsu a oe cls d _ e2 e3).run [] s5 _ H (endsAs D i) S5 w) (fun f s6 h => k f s6 ?_) fun _ _ z => z.elim
  have h' := sp_unsuite ok h
  cases f with
  | next =>
    obtain ⟨_, _, J, z⟩ := h'
    exact gone_ok J hN hi hln fun _ J' => ⟨_, _, J', z⟩
  | brk =>
    obtain ⟨_, _, J, z⟩ := h'
    exact gone_ok J hN hi hln fun _ J' => ⟨_, _, J', z⟩
  | cont =>
    obtain ⟨_, _, J, z⟩ := h'
    exact gone_ok J hN hi hln fun _ J' => ⟨_, _, J', z⟩
  | ret v =>
    obtain ⟨_, _, _, J, r, z⟩ := h'
    exact gone_ok J hN hi hln fun _ J' => ⟨_, _, _, J', r, z⟩
/-- clause by clause -/
theorem Caught.run (ok : X.Ok) (hf : X.env.frame = some X.env.locals) (hN : X.N.Nodup) (C : Caught X pins a cls d σ H B s) {Wout : WX} (tk : Takes X Wout) {D : Ends} {hds : List ExceptHandler} {l : Clauses} (hh : HdsMix X hds l) :
    wMix X.K Wout D l cls d σ H → wpAny (model X.prog X.w) X.A (handleBy (.ref a) X.env hds) (SP X pins D) X.xe s := by
  induction hh with
  | nil => exact fun w => C.leaves hf tk w
  | bare hc hsu _ ih =>
    rintro ⟨b, hb, yes, no⟩
    refine wpAny_handleBy_cons (C.test hf hc hb ?_) (fun z => by cases z)
    cases b with
    | false => exact ih (no rfl)
    | true => exact C.bare ok hf hsu (yes rfl a C.free) fun _ _ h => h
  | as hi hln hc hsu _ ih =>
    rintro ⟨b, hb, yes, no⟩
    refine wpAny_handleBy_cons (C.test hf hc hb ?_) (fun z => by cases z)
    cases b with
    | false => exact ih (no rfl)
    | true => exact C.named ok hf hN hi hln hsu (yes rfl a C.free) fun _ _ h => h
end
/-- try, several clauses -/
theorem ps_try_mix {X : Cx} {body : List Stmt} {h₀ : ExceptHandler} {hds : List ExceptHandler} {l : Clauses} {pos : Pos} {tb : WX → TS} {Wout : WX} (hs : X.stack = X.env :: X.outer) (hf : X.env.frame = some X.env.locals) (hN : X.N.Nodup) (tk : Takes X Wout)
    (hb : ∀ (W : WX) (pn : List (Addr × Obj)) (xe : Value → Shared → Prop), Takes (X.tr pn xe) W → PassesOwn (model X.prog X.w) X.A X.env xe → PSs (X.tr pn xe) body (tb W)) (hh : HdsMix X (h₀ :: hds) l) : PS X (.Try body (h₀ :: hds) [] [] pos) (tMix X.K tb Wout l) := by
  refine ⟨fun pins s σ H D I h => wpAny_Try_except ?_⟩
  have ok := I.ok
  refine wpAny_mono ((hb _ (X.pn ++ pins) _ (fun u s' z => ?_) PassesOwn.looking).run [] s σ H D (I.toTry _) h) (fun f s1 z => ?_) (fun _ _ z => z)
  · obtain ⟨a, B, sI, pins', σ', H', cls, d, rfl, J, nb, up, sky, na, os, ag, w⟩ := z
    rw [show (X.tr (X.pn ++ pins) _).stack = X.stack from rfl, hs] at sky
    refine Sky.land Zc.steady (by rw [ok.frames, hs]) hf sky fun h3 F up3 => ?_
    have J' : Inv X pins σ' H' sI := J.ofTry ok
    have C : Caught X pins a cls d σ' H' B { s' with heap := h3 } := ⟨na, F, fun h' F' u => J'.landed nb F'.1 ((up.trans up3).trans u) os ag,
      fun h' W hh' u w' => ⟨a, B, sI, pins, σ', H', cls, d, rfl, J', nb, (up.trans up3).trans u, .inr (.inr (by rw [hs]; exact hh')), na, os, ag, w'⟩⟩
    exact C.run ok hf hN tk hh w
  · have z' := sp_untry ok z
    cases f with
    | next => exact wpAny_execs_nil z'
    | brk => exact z'
    | cont => exact z'
    | ret v => exact z'
end TryMix
/-- the clause that names the error's own class, the first that does -/
theorem w_mixAs {K : Fr1} {C : Addr} {i : Nat} {ts : Addr → Value → Option Addr → TS} {Wout : WX} {D : Ends} {l : Clauses} {d : Option Addr} {σ : L2.St} {H : Hp} (h : PySem.W.exmOne K (.ref C) (.ref C) = some true)
    (k : ∀ a, H a = none → ts a (.ref C) d (endsAs D i) (σ.set i (some (.ref a))) H) : wMix K Wout D ((.ref C, some i, ts) :: l) (.ref C) d σ H :=
  ⟨true, h, fun _ => k, fun z => by cases z⟩
/-- a clause that names another class -/
theorem w_mixNo {K : Fr1} {C C' : Addr} {i : Option Nat} {ts : Addr → Value → Option Addr → TS} {Wout : WX} {D : Ends} {l : List (Value × Option Nat × (Addr → Value → Option Addr → TS))} {d : Option Addr} {σ : L2.St} {H : Hp} (h : PySem.W.exmOne K (.ref C) (.ref C') = some false)
    (k : wMix K Wout D l (.ref C) d σ H) : wMix K Wout D ((.ref C', i, ts) :: l) (.ref C) d σ H := by
  cases i with
  | none => exact ⟨false, h, (fun z => by cases z), fun _ => k⟩
  | some i => exact ⟨false, h, (fun z => by cases z), fun _ => k⟩
/-! ### one rule or another; != of a list and of its copy -/
theorem op_orR {X : Cx} {f : Value → Value → Sem Value} {r1 r2 : R2} (h1 : OpR X f r1) (h2 : OpR X f r2) : OpR X f (fun x y H Q => r1 x y H Q ∨ r2 x y H Q) := by
  intro pins s σ H x y v u Q I rx ry h
  rcases h with h | h
  · exact h1 pins s σ H x y v u Q I rx ry h
  · exact h2 pins s σ H x y v u Q I rx ry h
def rNeLS (K : Fr1) : R2 := fun x y H Q => ∃ a b xs, x = .ref a ∧ y = .ref b ∧ H a = some (.lst xs) ∧ H b = some (.lst xs) ∧ (∀ v ∈ xs, flatV v = true ∨ ∃ c, v = .ref c) ∧ Q (.bl false) H
theorem op_neLS {X : Cx} (hu : X.A.units + 64 < cLine) : OpR X (compareOp .NotEq) (rNeLS X.K) := by
  intro pins s σ H x y v u Q I rx ry h
  obtain ⟨a, b, xs, rfl, rfl, ha, hb, hs, q⟩ := h
  obtain rfl : v = Value.ref a := rx
  obtain rfl : u = Value.ref b := ry
  obtain ⟨us, r1, p1, _⟩ := I.list (SqL.of ha)
  obtain ⟨ws, r2, p2, _⟩ := I.list (SqL.of hb)
  have e1 : us.toArray.size = ws.toArray.size := by rw [List.size_toArray, List.size_toArray, ← r1.length, ← r2.length]
  refine SeqAt.RcNeAt.lists (e := fun _ => true) p1.isList p2.isList e1 (by omega) (fun j h1 h2 => ?_) _ _ _ _ ⟨.bl false, H, I, ?_, q⟩
  · have := same_items (A := X.A.in1) (s := s) r1 r2 hs j (by simpa using h1) (by simpa using h2)
    simpa using this
  · rw [List.all_eq_true.mpr fun _ _ => rfl]
    rfl
theorem dq_flat {K : Fr1} {H : Hp} {v : V} {d : PyData} (h : Dq K H v d) : flatV v = true ∨ ∃ c, v = .ref c := by
  cases h <;> first | exact .inl rfl | exact .inr ⟨_, rfl⟩
theorem dqA_flat {K : Fr1} {H : Hp} : ∀ {xs : List V} {ds : List PyData}, DqAll K H xs ds → ∀ v ∈ xs, flatV v = true ∨ ∃ c, v = .ref c
  | [], _, _, v, hv => by cases hv
  | _ :: _, _, .cons h t, v, hv => by
    rcases List.mem_cons.mp hv with rfl | hv
    · exact dq_flat h
    · exact dqA_flat t v hv
/-! ### == and != of texts -/
theorem str_dec (x y : Str) : decide (V.str x = V.str y) = decide (x = y) := by
  by_cases h : x = y
  · rw [h, decide_eq_true rfl, decide_eq_true rfl]
  · rw [decide_eq_false h, decide_eq_false fun z => h (V.str.inj z)]
theorem w_eqStr {x y : Str} {H : Hp} {Q : VK} (k : Q (.bl (decide (x = y))) H) : rEq (.str x) (.str y) H Q := ⟨rfl, by rw [str_dec]; exact k⟩
theorem w_neStr {x y : Str} {H : Hp} {Q : VK} (k : Q (.bl (!decide (x = y))) H) : rNe (.str x) (.str y) H Q := ⟨rfl, by rw [str_dec]; exact k⟩
theorem w_eqStrT {x : Str} {H : Hp} {Q : VK} (k : Q (.bl true) H) : rEq (.str x) (.str x) H Q := w_eqStr (by rw [decide_eq_true rfl]; exact k)
theorem w_neStrT {x : Str} {H : Hp} {Q : VK} (k : Q (.bl false) H) : rNe (.str x) (.str x) H Q := w_neStr (by rw [decide_eq_true rfl]; exact k)
theorem w_eqStrF {x y : Str} {H : Hp} {Q : VK} (h : ¬ x = y) (k : Q (.bl false) H) : rEq (.str x) (.str y) H Q := w_eqStr (by rw [decide_eq_false h]; exact k)
theorem w_neStrF {x y : Str} {H : Hp} {Q : VK} (h : ¬ x = y) (k : Q (.bl true) H) : rNe (.str x) (.str y) H Q := w_neStr (by rw [decide_eq_false h]; exact k)
/-! ### C(k = v, ..) within try -/
section MkE
variable {X : Cx} {CX : CXT} {k : Nat} {f C : Addr} {fd : FuncData} {ps ks : List Str} {sp : Sp} {E : L2.St → XK} {x : Str} {p pos : Pos} {kws : List Keyword} {tk : TA} {gv : List Value → List Value → List Value} {gV : List V → List V → List V}
def tMakeKE (C : Addr) (n : Nat) (gV : List V → List V → List V) (sp : Sp) (E : L2.St → XK) (tk : TA) : TE := fun σ H Q => tk σ H fun zs H2 => zs.length = n ∧ ∀ x dx, H2 x = none → H2 dx = none → dx ≠ x →
  sp (gV [.ref x] zs) (upd (upd H2 dx (.own x)) x (.ins C dx [])) (fun v H3 => v = .non ∧ Q (.ref x) H3) (E σ)
theorem pe_makeKE (M : Mk X.K C f) (F : FnOk X.prog X.w X.K X.mg X.base CX k f fd ps sp) (hr : Room (k + 1) X.A) (hg : Gl X x) (hm : X.mg x = some (.ref C)) (hb : KBn X.K fd ps 1 ks gv gV) (hx : ∀ σ, PassesAt CX X σ (E σ)) (hkw : PK X kws tk)
    (hall : (backToKw pos (keywordEach kws X.env)).all (·.1.isSome) = true := by rfl) (hks : (backToKw pos (keywordEach kws X.env)).filterMap (·.1) = ks := by rfl) (hdb : (x == ("__debug__" : Str)) = false := by decide)
    (hpl : ((backTo pos (starEach [] X.env)).any (·.1) || (backToKw pos (keywordEach kws X.env)).any (·.1.isNone)) = false := by rfl) :
    PE X (.Call (.Name x p) [] kws pos) (tMakeKE C ks.length gV sp E tk) := by
  refine ⟨fun pins s σ H Q I h => ?_⟩
  refine wpAny_Call_Name_kw (ld_glob I hg hm ?_ hdb)
  refine PySem.W.callWith_KW0 (h₀ := X.base) I.ok.mod.kin M.kp hall ?_ hpl
  refine thn (hkw.run pos pins s σ H _ I h) fun ws s2 ⟨zs, H2, I2, rz, l2, q2⟩ => ⟨I2.kIn, ?_⟩
  rw [hks]
  have hq := q2 (s2.heap.objs.size + 1) s2.heap.objs.size (I2.hok.fresh (Nat.le_succ _)) (I2.hok.fresh (Nat.le_refl _)) (Nat.ne_of_lt (Nat.lt_succ_self _))
  have I3 := Inv.made (C := C) I2
  have r1 : Vals [V.ref (s2.heap.objs.size + 1)] [Value.ref (s2.heap.objs.size + 1)] := .cons rfl .nil
  have r2 := hb.rel r1 rz
  refine wpAny_call (make_map (f := f) I2.kIn M.makes M.init (beq_iff_eq.mp M.fn) (codeAny_mono (F.run _ X.stack _ _ ⟨[Value.ref (s2.heap.objs.size + 1)], ks.zip ws⟩ _ _ _ (E σ) (hr.make C [] (ks.zip ws))
    (I3.env0.make C [] (ks.zip ws)) (hb.to _ [Value.ref (s2.heap.objs.size + 1)] ws I3.kIn rfl (rz.length.symm.trans l2)) r2 hq) fun r s' hq' => ?_))
  cases r with
  | error e => exact hx σ pins _ _ e s' I3 hq'
  | ok fl =>
    cases fl with
    | ret u =>
      obtain ⟨v, H', I4, rv, ev, q3⟩ := I3.after hq'
      subst ev
      exact ⟨rv, ⟨V.ref (s2.heap.objs.size + 1), H', I4, rfl, q3⟩⟩
    | next => exact False.elim hq'
    | brk => exact False.elim hq'
    | cont => exact False.elim hq'
theorem w_makeKE {C : Addr} {n : Nat} {sp : Sp} {E : L2.St → XK} {tk : TA} {σ : L2.St} {H : Hp} {Q : VK} (k : tk σ H fun zs H2 => zs.length = n ∧ ∀ x dx, H2 x = none → H2 dx = none → dx ≠ x →
  sp (gV [.ref x] zs) (upd (upd H2 dx (.own x)) x (.ins C dx [])) (fun v H3 => v = .non ∧ Q (.ref x) H3) (E σ)) : tMakeKE C n gV sp E tk σ H Q := k
end MkE
/-! ### dicts: a reading's head is taken off -/
section
variable {σ : L2.St} {H : Hp} {Q : VK} {D : Ends} {td ty tv tx : TE}
theorem w_dgetT (k : td σ H fun x H1 => ty σ H1 fun y H2 => ∃ a v, x = .ref a ∧ DGet H2 a y (some v) ∧ Q v H2) : tDGet td ty σ H Q := k
theorem w_dinT (k : ty σ H fun y H1 => td σ H1 fun x H2 => ∃ a o, x = .ref a ∧ DGet H2 a y o ∧ Q (.bl o.isSome) H2) : tDIn ty td σ H Q := k
theorem w_dnotinT (k : ty σ H fun y H1 => td σ H1 fun x H2 => ∃ a o, x = .ref a ∧ DGet H2 a y o ∧ Q (.bl (!o.isSome)) H2) : tDNotIn ty td σ H Q := k
theorem w_dputT (k : tv σ H fun v H1 => td σ H1 fun x H2 => ty σ H2 fun y H3 => ∃ a H4, x = .ref a ∧ DPut H3 a y v H4 ∧ D.nx σ H4) : sDPut td ty tv D σ H := k
end
/-! ### o[i] by the text's own __getitem__ -/
section IxO
variable {X : Cx} {CX : CXT} {k : Nat} {f C : Addr} {fd : FuncData} {ps : List Str} {sp : Sp} {E : L2.St → XK} {pos : Pos} {o i : Expr} {ta tb : TE}
def tIxO (C : Addr) (sp : Sp) (E : L2.St → XK) (ta tb : TE) : TE := fun σ H Q => ta σ H fun x H1 => tb σ H1 fun y H2 => ∃ a dx fs, x = .ref a ∧ H2 a = some (.ins C dx fs) ∧ sp [x, y] H2 Q (E σ)
theorem w_ixO {σ : L2.St} {H : Hp} {Q : VK} (k : ta σ H fun x H1 => tb σ H1 fun y H2 => ∃ a dx fs, x = .ref a ∧ H2 a = some (.ins C dx fs) ∧ sp [x, y] H2 Q (E σ)) : tIxO C sp E ta tb σ H Q := k
end IxO
/-! ### keyword calls within try -/
section KwE
variable {X : Cx} {CX : CXT} {k n : Nat} {f C : Addr} {fd : FuncData} {ps ks : List Str} {sp : Sp} {E : L2.St → XK} {m x : Str} {p pos apos : Pos} {o : Expr} {kws : List Keyword} {ta : TE} {tk : TA} {gv : List Value → List Value → List Value} {gV : List V → List V → List V}
def tMethKE (C : Addr) (m : Str) (n : Nat) (gV : List V → List V → List V) (sp : Sp) (E : L2.St → XK) (ta : TE) (tk : TA) : TE := fun σ H Q => ta σ H fun x H1 => ∃ a dx fs, x = .ref a ∧ H1 a = some (.ins C dx fs) ∧ fs.lookup m = none ∧ tk σ H1 fun zs H2 => zs.length = n ∧ sp (gV [x] zs) H2 Q (E σ)
theorem w_methKE {σ : L2.St} {H : Hp} {Q : VK} (k : ta σ H fun x H1 => ∃ a dx fs, x = .ref a ∧ H1 a = some (.ins C dx fs) ∧ fs.lookup m = none ∧ tk σ H1 fun zs H2 => zs.length = n ∧ sp (gV [x] zs) H2 Q (E σ)) : tMethKE C m n gV sp E ta tk σ H Q := k
end KwE
/-! ### is None, is not None -/
def rIsN : R2 := fun x y H Q => y = .non ∧ Q (.bl (decide (x = .non))) H
def rNotN : R2 := fun x y H Q => y = .non ∧ Q (.bl (!decide (x = .non))) H
section
variable {H : Hp} {Q : VK}
theorem w_isNn (k : Q (.bl true) H) : rIsN .non .non H Q := ⟨rfl, k⟩
theorem w_isNr {a : Addr} (k : Q (.bl false) H) : rIsN (.ref a) .non H Q := ⟨rfl, by rw [decide_eq_false (fun z => by cases z)]; exact k⟩
theorem w_isNi {a : Int} (k : Q (.bl false) H) : rIsN (.int a) .non H Q := ⟨rfl, by rw [decide_eq_false (fun z => by cases z)]; exact k⟩
theorem w_isNs {a : Str} (k : Q (.bl false) H) : rIsN (.str a) .non H Q := ⟨rfl, by rw [decide_eq_false (fun z => by cases z)]; exact k⟩
theorem w_isNb {a : Bool} (k : Q (.bl false) H) : rIsN (.bl a) .non H Q := ⟨rfl, by rw [decide_eq_false (fun z => by cases z)]; exact k⟩
theorem w_notNn (k : Q (.bl false) H) : rNotN .non .non H Q := ⟨rfl, by rw [decide_eq_true rfl]; exact k⟩
theorem w_notNr {a : Addr} (k : Q (.bl true) H) : rNotN (.ref a) .non H Q := ⟨rfl, by rw [decide_eq_false (fun z => by cases z)]; exact k⟩
theorem w_notNi {a : Int} (k : Q (.bl true) H) : rNotN (.int a) .non H Q := ⟨rfl, by rw [decide_eq_false (fun z => by cases z)]; exact k⟩
theorem w_notNs {a : Str} (k : Q (.bl true) H) : rNotN (.str a) .non H Q := ⟨rfl, by rw [decide_eq_false (fun z => by cases z)]; exact k⟩
theorem w_notNb {a : Bool} (k : Q (.bl true) H) : rNotN (.bl a) .non H Q := ⟨rfl, by rw [decide_eq_false (fun z => by cases z)]; exact k⟩
end
section
variable {K : Fr1} {σ : L2.St} {H : Hp} {D : Ends} {td : TE} {R : It → Hp → Prop}
theorem w_vals (k : td σ H fun x H1 => ∃ d o kvs, x = .ref d ∧ H1 d = some (.frz o (.dK kvs)) ∧ R (Itd d o kvs) H1) : iVals td σ H R := k
theorem w_items (k : td σ H fun x H1 => ∃ d o kvs, x = .ref d ∧ H1 d = some (.frz o (.dK kvs)) ∧ R (Iti d o kvs) H1) : iItems td σ H R := k
end
end J

namespace J
open PySem L2
/-! ### the text by places -/
def top (i : Nat) : Stmt := PySem.Challenge.pw_jawturns_k13_plan_refusals.main.body.getD i (.Pass ⟨0, 0, 0, 0⟩)
abbrev s_BadRound_p__init__ : Stmt := inClass (top 2) 0
abbrev N_BadRound_p__init__ : List Str := ["self", "value"]
abbrev P_BadRound_p__init__ : List Str := ["self", "value"]
theorem sc_BadRound_p__init__ : FnScope N_BadRound_p__init__ P_BadRound_p__init__ (defScope s_BadRound_p__init__) := ⟨rfl, rfl, rfl, by decide +kernel, rfl, by decide +kernel, by decide +kernel⟩
abbrev a_BadRound_p__init__ (K : Fr1) : Addr := He.ma K (He.ga K "BadRound") "__init__"
abbrev d_BadRound_p__init__ (K : Fr1) : FuncData := fdOf K (a_BadRound_p__init__ K)
abbrev s_BadTurn_p__init__ : Stmt := inClass (top 3) 0
abbrev N_BadTurn_p__init__ : List Str := ["self", "value"]
abbrev P_BadTurn_p__init__ : List Str := ["self", "value"]
theorem sc_BadTurn_p__init__ : FnScope N_BadTurn_p__init__ P_BadTurn_p__init__ (defScope s_BadTurn_p__init__) := ⟨rfl, rfl, rfl, by decide +kernel, rfl, by decide +kernel, by decide +kernel⟩
abbrev a_BadTurn_p__init__ (K : Fr1) : Addr := He.ma K (He.ga K "BadTurn") "__init__"
abbrev d_BadTurn_p__init__ (K : Fr1) : FuncData := fdOf K (a_BadTurn_p__init__ K)
abbrev s_BadPlan_p__init__ : Stmt := inClass (top 4) 0
abbrev N_BadPlan_p__init__ : List Str := ["self", "at"]
abbrev P_BadPlan_p__init__ : List Str := ["self", "at"]
theorem sc_BadPlan_p__init__ : FnScope N_BadPlan_p__init__ P_BadPlan_p__init__ (defScope s_BadPlan_p__init__) := ⟨rfl, rfl, rfl, by decide +kernel, rfl, by decide +kernel, by decide +kernel⟩
abbrev a_BadPlan_p__init__ (K : Fr1) : Addr := He.ma K (He.ga K "BadPlan") "__init__"
abbrev d_BadPlan_p__init__ (K : Fr1) : FuncData := fdOf K (a_BadPlan_p__init__ K)
abbrev s_is_integer : Stmt := top 7
abbrev N_is_integer : List Str := ["thing"]
abbrev P_is_integer : List Str := ["thing"]
theorem sc_is_integer : FnScope N_is_integer P_is_integer (defScope s_is_integer) := ⟨rfl, rfl, rfl, by decide +kernel, rfl, by decide +kernel, by decide +kernel⟩
abbrev a_is_integer (K : Fr1) : Addr := He.ga K "is_integer"
abbrev d_is_integer (K : Fr1) : FuncData := fdOf K (a_is_integer K)
abbrev s_is_row : Stmt := top 8
abbrev N_is_row : List Str := ["thing"]
abbrev P_is_row : List Str := ["thing"]
theorem sc_is_row : FnScope N_is_row P_is_row (defScope s_is_row) := ⟨rfl, rfl, rfl, by decide +kernel, rfl, by decide +kernel, by decide +kernel⟩
abbrev a_is_row (K : Fr1) : Addr := He.ga K "is_row"
abbrev d_is_row (K : Fr1) : FuncData := fdOf K (a_is_row K)
abbrev s_check_round : Stmt := top 9
abbrev N_check_round : List Str := ["around"]
abbrev P_check_round : List Str := ["around"]
theorem sc_check_round : FnScope N_check_round P_check_round (defScope s_check_round) := ⟨rfl, rfl, rfl, by decide +kernel, rfl, by decide +kernel, by decide +kernel⟩
abbrev a_check_round (K : Fr1) : Addr := He.ga K "check_round"
abbrev d_check_round (K : Fr1) : FuncData := fdOf K (a_check_round K)
abbrev s_is_word : Stmt := top 12
abbrev N_is_word : List Str := ["thing"]
abbrev P_is_word : List Str := ["thing"]
theorem sc_is_word : FnScope N_is_word P_is_word (defScope s_is_word) := ⟨rfl, rfl, rfl, by decide +kernel, rfl, by decide +kernel, by decide +kernel⟩
abbrev a_is_word (K : Fr1) : Addr := He.ga K "is_word"
abbrev d_is_word (K : Fr1) : FuncData := fdOf K (a_is_word K)
abbrev s_is_deed : Stmt := top 15
abbrev N_is_deed : List Str := ["thing"]
abbrev P_is_deed : List Str := ["thing"]
theorem sc_is_deed : FnScope N_is_deed P_is_deed (defScope s_is_deed) := ⟨rfl, rfl, rfl, by decide +kernel, rfl, by decide +kernel, by decide +kernel⟩
abbrev a_is_deed (K : Fr1) : Addr := He.ga K "is_deed"
abbrev d_is_deed (K : Fr1) : FuncData := fdOf K (a_is_deed K)
abbrev s_Plan_p__init__ : Stmt := inClass (top 16) 0
abbrev N_Plan_p__init__ : List Str := ["self", "around", "deeds", "at", "deed", "word", "turn"]
abbrev P_Plan_p__init__ : List Str := ["self", "around", "deeds"]
theorem sc_Plan_p__init__ : FnScope N_Plan_p__init__ P_Plan_p__init__ (defScope s_Plan_p__init__) := ⟨rfl, rfl, rfl, by decide +kernel, rfl, by decide +kernel, by decide +kernel⟩
abbrev a_Plan_p__init__ (K : Fr1) : Addr := He.ma K (He.ga K "Plan") "__init__"
abbrev d_Plan_p__init__ (K : Fr1) : FuncData := fdOf K (a_Plan_p__init__ K)
abbrev s_Plan_p__len__ : Stmt := inClass (top 16) 1
abbrev N_Plan_p__len__ : List Str := ["self"]
abbrev P_Plan_p__len__ : List Str := ["self"]
theorem sc_Plan_p__len__ : FnScope N_Plan_p__len__ P_Plan_p__len__ (defScope s_Plan_p__len__) := ⟨rfl, rfl, rfl, by decide +kernel, rfl, by decide +kernel, by decide +kernel⟩
abbrev a_Plan_p__len__ (K : Fr1) : Addr := He.ma K (He.ga K "Plan") "__len__"
abbrev d_Plan_p__len__ (K : Fr1) : FuncData := fdOf K (a_Plan_p__len__ K)
abbrev s_Plan_p__iter__ : Stmt := inClass (top 16) 2
abbrev N_Plan_p__iter__ : List Str := ["self"]
abbrev P_Plan_p__iter__ : List Str := ["self"]
theorem sc_Plan_p__iter__ : FnScope N_Plan_p__iter__ P_Plan_p__iter__ (defScope s_Plan_p__iter__) := ⟨rfl, rfl, rfl, by decide +kernel, rfl, by decide +kernel, by decide +kernel⟩
abbrev a_Plan_p__iter__ (K : Fr1) : Addr := He.ma K (He.ga K "Plan") "__iter__"
abbrev d_Plan_p__iter__ (K : Fr1) : FuncData := fdOf K (a_Plan_p__iter__ K)
abbrev s_Plan_p__eq__ : Stmt := inClass (top 16) 3
abbrev N_Plan_p__eq__ : List Str := ["self", "other"]
abbrev P_Plan_p__eq__ : List Str := ["self", "other"]
theorem sc_Plan_p__eq__ : FnScope N_Plan_p__eq__ P_Plan_p__eq__ (defScope s_Plan_p__eq__) := ⟨rfl, rfl, rfl, by decide +kernel, rfl, by decide +kernel, by decide +kernel⟩
abbrev a_Plan_p__eq__ (K : Fr1) : Addr := He.ma K (He.ga K "Plan") "__eq__"
abbrev d_Plan_p__eq__ (K : Fr1) : FuncData := fdOf K (a_Plan_p__eq__ K)
abbrev s_Plan_p__getitem__ : Stmt := inClass (top 16) 4
abbrev N_Plan_p__getitem__ : List Str := ["self", "at"]
abbrev P_Plan_p__getitem__ : List Str := ["self", "at"]
theorem sc_Plan_p__getitem__ : FnScope N_Plan_p__getitem__ P_Plan_p__getitem__ (defScope s_Plan_p__getitem__) := ⟨rfl, rfl, rfl, by decide +kernel, rfl, by decide +kernel, by decide +kernel⟩
abbrev a_Plan_p__getitem__ (K : Fr1) : Addr := He.ma K (He.ga K "Plan") "__getitem__"
abbrev d_Plan_p__getitem__ (K : Fr1) : FuncData := fdOf K (a_Plan_p__getitem__ K)
abbrev s_Plan_p__add__ : Stmt := inClass (top 16) 5
abbrev N_Plan_p__add__ : List Str := ["self", "other"]
abbrev P_Plan_p__add__ : List Str := ["self", "other"]
theorem sc_Plan_p__add__ : FnScope N_Plan_p__add__ P_Plan_p__add__ (defScope s_Plan_p__add__) := ⟨rfl, rfl, rfl, by decide +kernel, rfl, by decide +kernel, by decide +kernel⟩
abbrev a_Plan_p__add__ (K : Fr1) : Addr := He.ma K (He.ga K "Plan") "__add__"
abbrev d_Plan_p__add__ (K : Fr1) : FuncData := fdOf K (a_Plan_p__add__ K)
abbrev s_Plan_p__mul__ : Stmt := inClass (top 16) 6
abbrev N_Plan_p__mul__ : List Str := ["self", "other"]
abbrev P_Plan_p__mul__ : List Str := ["self", "other"]
theorem sc_Plan_p__mul__ : FnScope N_Plan_p__mul__ P_Plan_p__mul__ (defScope s_Plan_p__mul__) := ⟨rfl, rfl, rfl, by decide +kernel, rfl, by decide +kernel, by decide +kernel⟩
abbrev a_Plan_p__mul__ (K : Fr1) : Addr := He.ma K (He.ga K "Plan") "__mul__"
abbrev d_Plan_p__mul__ (K : Fr1) : FuncData := fdOf K (a_Plan_p__mul__ K)
abbrev s_Plan_p__rmul__ : Stmt := inClass (top 16) 7
abbrev N_Plan_p__rmul__ : List Str := ["self", "other"]
abbrev P_Plan_p__rmul__ : List Str := ["self", "other"]
theorem sc_Plan_p__rmul__ : FnScope N_Plan_p__rmul__ P_Plan_p__rmul__ (defScope s_Plan_p__rmul__) := ⟨rfl, rfl, rfl, by decide +kernel, rfl, by decide +kernel, by decide +kernel⟩
abbrev a_Plan_p__rmul__ (K : Fr1) : Addr := He.ma K (He.ga K "Plan") "__rmul__"
abbrev d_Plan_p__rmul__ (K : Fr1) : FuncData := fdOf K (a_Plan_p__rmul__ K)
abbrev s_Plan_p__rshift__ : Stmt := inClass (top 16) 8
abbrev N_Plan_p__rshift__ : List Str := ["self", "other", "word", "turn"]
abbrev P_Plan_p__rshift__ : List Str := ["self", "other"]
theorem sc_Plan_p__rshift__ : FnScope N_Plan_p__rshift__ P_Plan_p__rshift__ (defScope s_Plan_p__rshift__) := ⟨rfl, rfl, rfl, by decide +kernel, rfl, by decide +kernel, by decide +kernel⟩
abbrev a_Plan_p__rshift__ (K : Fr1) : Addr := He.ma K (He.ga K "Plan") "__rshift__"
abbrev d_Plan_p__rshift__ (K : Fr1) : FuncData := fdOf K (a_Plan_p__rshift__ K)
abbrev s_repeated : Stmt := top 17
abbrev N_repeated : List Str := ["deeds", "many"]
abbrev P_repeated : List Str := ["deeds", "many"]
theorem sc_repeated : FnScope N_repeated P_repeated (defScope s_repeated) := ⟨rfl, rfl, rfl, by decide +kernel, rfl, by decide +kernel, by decide +kernel⟩
abbrev a_repeated (K : Fr1) : Addr := He.ga K "repeated"
abbrev d_repeated (K : Fr1) : FuncData := fdOf K (a_repeated K)
abbrev s_law_state : Stmt := top 19
abbrev N_law_state : List Str := ["_law_script"]
abbrev P_law_state : List Str := ["_law_script"]
theorem sc_law_state : FnScope N_law_state P_law_state (defScope s_law_state) := ⟨rfl, rfl, rfl, by decide +kernel, rfl, by decide +kernel, by decide +kernel⟩
abbrev a_law_state (K : Fr1) : Addr := He.ga K "_law_state"
abbrev d_law_state (K : Fr1) : FuncData := fdOf K (a_law_state K)
abbrev s_law_draw : Stmt := top 20
abbrev N_law_draw : List Str := ["_law_state_here", "_law_many", "_law_digit", "_law_cell", "_law_number"]
abbrev P_law_draw : List Str := ["_law_state_here", "_law_many"]
theorem sc_law_draw : FnScope N_law_draw P_law_draw (defScope s_law_draw) := ⟨rfl, rfl, rfl, by decide +kernel, rfl, by decide +kernel, by decide +kernel⟩
abbrev a_law_draw (K : Fr1) : Addr := He.ga K "_law_draw"
abbrev d_law_draw (K : Fr1) : FuncData := fdOf K (a_law_draw K)
abbrev s_law_large : Stmt := top 21
abbrev N_law_large : List Str := ["_law_state_here", "_law_around_here", "_law_number"]
abbrev P_law_large : List Str := ["_law_state_here", "_law_around_here"]
theorem sc_law_large : FnScope N_law_large P_law_large (defScope s_law_large) := ⟨rfl, rfl, rfl, by decide +kernel, rfl, by decide +kernel, by decide +kernel⟩
abbrev a_law_large (K : Fr1) : Addr := He.ga K "_law_large"
abbrev d_law_large (K : Fr1) : FuncData := fdOf K (a_law_large K)
abbrev s_law_around : Stmt := top 22
abbrev N_law_around : List Str := ["_law_state_here", "_law_most", "_law_kind"]
abbrev P_law_around : List Str := ["_law_state_here", "_law_most"]
theorem sc_law_around : FnScope N_law_around P_law_around (defScope s_law_around) := ⟨rfl, rfl, rfl, by decide +kernel, rfl, by decide +kernel, by decide +kernel⟩
abbrev a_law_around (K : Fr1) : Addr := He.ga K "_law_around"
abbrev d_law_around (K : Fr1) : FuncData := fdOf K (a_law_around K)
abbrev s_law_is_integer : Stmt := top 23
abbrev N_law_is_integer : List Str := ["_law_thing"]
abbrev P_law_is_integer : List Str := ["_law_thing"]
theorem sc_law_is_integer : FnScope N_law_is_integer P_law_is_integer (defScope s_law_is_integer) := ⟨rfl, rfl, rfl, by decide +kernel, rfl, by decide +kernel, by decide +kernel⟩
abbrev a_law_is_integer (K : Fr1) : Addr := He.ga K "_law_is_integer"
abbrev d_law_is_integer (K : Fr1) : FuncData := fdOf K (a_law_is_integer K)
abbrev s_law_strange : Stmt := top 24
abbrev N_law_strange : List Str := ["_law_state_here", "_law_deep", "_law_k", "_law_things"]
abbrev P_law_strange : List Str := ["_law_state_here"]
theorem sc_law_strange : FnScope N_law_strange P_law_strange (defScope s_law_strange) := ⟨rfl, rfl, rfl, by decide +kernel, rfl, by decide +kernel, by decide +kernel⟩
abbrev a_law_strange (K : Fr1) : Addr := He.ga K "_law_strange"
abbrev d_law_strange (K : Fr1) : FuncData := fdOf K (a_law_strange K)
abbrev s_law_due : Stmt := top 25
abbrev N_law_due : List Str := ["_law_around_here", "_law_deeds", "_law_made", "_law_at", "_law_deed"]
abbrev P_law_due : List Str := ["_law_around_here", "_law_deeds"]
theorem sc_law_due : FnScope N_law_due P_law_due (defScope s_law_due) := ⟨rfl, rfl, rfl, by decide +kernel, rfl, by decide +kernel, by decide +kernel⟩
abbrev a_law_due (K : Fr1) : Addr := He.ga K "_law_due"
abbrev d_law_due (K : Fr1) : FuncData := fdOf K (a_law_due K)
abbrev s_law : Stmt := top 26
abbrev N_law : List Str := ["_law_script", "_law_state_here", "_law_around_here", "_law_deeds", "_law_k", "_law_size", "_law_bad", "_law_handed", "_law_kind", "_law_wide", "_law_due_here", "_law_kept", "_law_found", "e", "_law_plan"]
abbrev P_law : List Str := ["_law_script"]
theorem sc_law : FnScope N_law P_law (defScope s_law) := ⟨rfl, rfl, rfl, by decide +kernel, rfl, by decide +kernel, by decide +kernel⟩
abbrev a_law (K : Fr1) : Addr := He.ga K "law"
abbrev d_law (K : Fr1) : FuncData := fdOf K (a_law K)
/-! ### what the top has written -/
structure Txt (K : Fr1) (mg : Str → Option Value) : Prop where
  F_BadRound_p__init__ : Fn K "__init__" "BadRound.__init__" s_BadRound_p__init__ [] [] (a_BadRound_p__init__ K)
  F_BadTurn_p__init__ : Fn K "__init__" "BadTurn.__init__" s_BadTurn_p__init__ [] [] (a_BadTurn_p__init__ K)
  F_BadPlan_p__init__ : Fn K "__init__" "BadPlan.__init__" s_BadPlan_p__init__ [] [] (a_BadPlan_p__init__ K)
  F_is_integer : Fn K "is_integer" "is_integer" s_is_integer [] [] (a_is_integer K)
  F_is_row : Fn K "is_row" "is_row" s_is_row [] [] (a_is_row K)
  F_check_round : Fn K "check_round" "check_round" s_check_round [] [] (a_check_round K)
  F_is_word : Fn K "is_word" "is_word" s_is_word [] [] (a_is_word K)
  F_is_deed : Fn K "is_deed" "is_deed" s_is_deed [] [] (a_is_deed K)
  F_Plan_p__init__ : Fn K "__init__" "Plan.__init__" s_Plan_p__init__ [] [] (a_Plan_p__init__ K)
  F_Plan_p__len__ : Fn K "__len__" "Plan.__len__" s_Plan_p__len__ [] [] (a_Plan_p__len__ K)
  F_Plan_p__iter__ : Fn K "__iter__" "Plan.__iter__" s_Plan_p__iter__ [] [] (a_Plan_p__iter__ K)
  F_Plan_p__eq__ : Fn K "__eq__" "Plan.__eq__" s_Plan_p__eq__ [] [] (a_Plan_p__eq__ K)
  F_Plan_p__getitem__ : Fn K "__getitem__" "Plan.__getitem__" s_Plan_p__getitem__ [] [] (a_Plan_p__getitem__ K)
  F_Plan_p__add__ : Fn K "__add__" "Plan.__add__" s_Plan_p__add__ [] [] (a_Plan_p__add__ K)
  F_Plan_p__mul__ : Fn K "__mul__" "Plan.__mul__" s_Plan_p__mul__ [] [] (a_Plan_p__mul__ K)
  F_Plan_p__rmul__ : Fn K "__rmul__" "Plan.__rmul__" s_Plan_p__rmul__ [] [] (a_Plan_p__rmul__ K)
  F_Plan_p__rshift__ : Fn K "__rshift__" "Plan.__rshift__" s_Plan_p__rshift__ [] [] (a_Plan_p__rshift__ K)
  F_repeated : Fn K "repeated" "repeated" s_repeated [] [] (a_repeated K)
  F_law_state : Fn K "_law_state" "_law_state" s_law_state [] [] (a_law_state K)
  F_law_draw : Fn K "_law_draw" "_law_draw" s_law_draw [] [] (a_law_draw K)
  F_law_large : Fn K "_law_large" "_law_large" s_law_large [] [] (a_law_large K)
  F_law_around : Fn K "_law_around" "_law_around" s_law_around [] [] (a_law_around K)
  F_law_is_integer : Fn K "_law_is_integer" "_law_is_integer" s_law_is_integer [] [] (a_law_is_integer K)
  F_law_strange : Fn K "_law_strange" "_law_strange" s_law_strange [] [] (a_law_strange K)
  F_law_due : Fn K "_law_due" "_law_due" s_law_due [] [] (a_law_due K)
  F_law : Fn K "law" "law" s_law [] [] (a_law K)
  m_is_integer : mg "is_integer" = some (.ref (a_is_integer K))
  m_is_row : mg "is_row" = some (.ref (a_is_row K))
  m_check_round : mg "check_round" = some (.ref (a_check_round K))
  m_is_word : mg "is_word" = some (.ref (a_is_word K))
  m_is_deed : mg "is_deed" = some (.ref (a_is_deed K))
  m_repeated : mg "repeated" = some (.ref (a_repeated K))
  m__law_state : mg "_law_state" = some (.ref (a_law_state K))
  m__law_draw : mg "_law_draw" = some (.ref (a_law_draw K))
  m__law_large : mg "_law_large" = some (.ref (a_law_large K))
  m__law_around : mg "_law_around" = some (.ref (a_law_around K))
  m__law_is_integer : mg "_law_is_integer" = some (.ref (a_law_is_integer K))
  m__law_strange : mg "_law_strange" = some (.ref (a_law_strange K))
  m__law_due : mg "_law_due" = some (.ref (a_law_due K))
  m_law : mg "law" = some (.ref (a_law K))
  m_JawError : mg "JawError" = some (.ref (He.ga K "JawError"))
  m_BadRound : mg "BadRound" = some (.ref (He.ga K "BadRound"))
  x_BadRound : XfC K (He.ga K "BadRound")
  e_BadRound : PySem.W.exmOne K (.ref (He.ga K "BadRound")) (.ref (He.ga K "BadRound")) = some true
  o_BadRound : OexC K (He.ga K "BadRound")
  na_BadRound_value : PySem.W.findIn K (.ref (He.ga K "BadRound")) "value" = some none
  M_BadRound_p__init__ : Meth K (He.ga K "BadRound") "__init__" (a_BadRound_p__init__ K)
  t_BadRound_p__init__ : PySem.W.typeIn K (.ref (a_BadRound_p__init__ K)) = some (.type "function")
  m_BadTurn : mg "BadTurn" = some (.ref (He.ga K "BadTurn"))
  x_BadTurn : XfC K (He.ga K "BadTurn")
  e_BadTurn : PySem.W.exmOne K (.ref (He.ga K "BadTurn")) (.ref (He.ga K "BadTurn")) = some true
  o_BadTurn : OexC K (He.ga K "BadTurn")
  na_BadTurn_value : PySem.W.findIn K (.ref (He.ga K "BadTurn")) "value" = some none
  M_BadTurn_p__init__ : Meth K (He.ga K "BadTurn") "__init__" (a_BadTurn_p__init__ K)
  t_BadTurn_p__init__ : PySem.W.typeIn K (.ref (a_BadTurn_p__init__ K)) = some (.type "function")
  m_BadPlan : mg "BadPlan" = some (.ref (He.ga K "BadPlan"))
  x_BadPlan : XfC K (He.ga K "BadPlan")
  e_BadPlan : PySem.W.exmOne K (.ref (He.ga K "BadPlan")) (.ref (He.ga K "BadPlan")) = some true
  o_BadPlan : OexC K (He.ga K "BadPlan")
  na_BadPlan_at : PySem.W.findIn K (.ref (He.ga K "BadPlan")) "at" = some none
  M_BadPlan_p__init__ : Meth K (He.ga K "BadPlan") "__init__" (a_BadPlan_p__init__ K)
  t_BadPlan_p__init__ : PySem.W.typeIn K (.ref (a_BadPlan_p__init__ K)) = some (.type "function")
  m_Plan : mg "Plan" = some (.ref (He.ga K "Plan"))
  ne_Plan : PySem.W.findIn K (.ref (He.ga K "Plan")) "__ne__" = some (some (.builtin "object.__ne__")) ∧ PySem.W.subIn K (.ref (He.ga K "Plan")) (.type "object") = some true
  i_Plan : ITy K (He.ga K "Plan")
  c_Plan : Cls K (He.ga K "Plan")
  na_Plan_around : PySem.W.findIn K (.ref (He.ga K "Plan")) "around" = some none
  na_Plan_deeds : PySem.W.findIn K (.ref (He.ga K "Plan")) "deeds" = some none
  M_Plan_p__init__ : Meth K (He.ga K "Plan") "__init__" (a_Plan_p__init__ K)
  k_Plan : Mk K (He.ga K "Plan") (a_Plan_p__init__ K)
  M_Plan_p__len__ : Meth K (He.ga K "Plan") "__len__" (a_Plan_p__len__ K)
  M_Plan_p__iter__ : Meth K (He.ga K "Plan") "__iter__" (a_Plan_p__iter__ K)
  M_Plan_p__eq__ : Meth K (He.ga K "Plan") "__eq__" (a_Plan_p__eq__ K)
  M_Plan_p__getitem__ : Meth K (He.ga K "Plan") "__getitem__" (a_Plan_p__getitem__ K)
  M_Plan_p__add__ : Meth K (He.ga K "Plan") "__add__" (a_Plan_p__add__ K)
  M_Plan_p__mul__ : Meth K (He.ga K "Plan") "__mul__" (a_Plan_p__mul__ K)
  M_Plan_p__rmul__ : Meth K (He.ga K "Plan") "__rmul__" (a_Plan_p__rmul__ K)
  M_Plan_p__rshift__ : Meth K (He.ga K "Plan") "__rshift__" (a_Plan_p__rshift__ K)
  nx_BadPlan_BadRound : PySem.W.exmOne K (.ref (He.ga K "BadPlan")) (.ref (He.ga K "BadRound")) = some false
  nx_BadTurn_BadRound : PySem.W.exmOne K (.ref (He.ga K "BadTurn")) (.ref (He.ga K "BadRound")) = some false
  nx_BadRound_BadPlan : PySem.W.exmOne K (.ref (He.ga K "BadRound")) (.ref (He.ga K "BadPlan")) = some false
  nx_BadTurn_BadPlan : PySem.W.exmOne K (.ref (He.ga K "BadTurn")) (.ref (He.ga K "BadPlan")) = some false
  m_MOST_ROUND : ∃ t, mg "MOST_ROUND" = some (.int 360 t)
  m_WORDS : mg "WORDS" = some (.ref (He.ga K "WORDS"))
  w_WORDS : ∀ H : Hp, SqT K H (He.ga K "WORDS") ((["push", "squeeze"] : List Str).map V.str)
  m_MOST_DEEDS : ∃ t, mg "MOST_DEEDS" = some (.int 400 t)
  n_bool : mg "bool" = none
  n_enumerate : mg "enumerate" = none
  n_int : mg "int" = none
  n_isinstance : mg "isinstance" = none
  n_iter : mg "iter" = none
  n_len : mg "len" = none
  n_list : mg "list" = none
  n_range : mg "range" = none
  n_str : mg "str" = none
  n_tuple : mg "tuple" = none
def fnL : List DefA := [
  ⟨fun K => a_BadRound_p__init__ K, "__init__", "BadRound.__init__", defArgs s_BadRound_p__init__, defBody s_BadRound_p__init__, defScope s_BadRound_p__init__, [], []⟩,
  ⟨fun K => a_BadTurn_p__init__ K, "__init__", "BadTurn.__init__", defArgs s_BadTurn_p__init__, defBody s_BadTurn_p__init__, defScope s_BadTurn_p__init__, [], []⟩,
  ⟨fun K => a_BadPlan_p__init__ K, "__init__", "BadPlan.__init__", defArgs s_BadPlan_p__init__, defBody s_BadPlan_p__init__, defScope s_BadPlan_p__init__, [], []⟩,
  ⟨fun K => a_is_integer K, "is_integer", "is_integer", defArgs s_is_integer, defBody s_is_integer, defScope s_is_integer, [], []⟩,
  ⟨fun K => a_is_row K, "is_row", "is_row", defArgs s_is_row, defBody s_is_row, defScope s_is_row, [], []⟩,
  ⟨fun K => a_check_round K, "check_round", "check_round", defArgs s_check_round, defBody s_check_round, defScope s_check_round, [], []⟩,
  ⟨fun K => a_is_word K, "is_word", "is_word", defArgs s_is_word, defBody s_is_word, defScope s_is_word, [], []⟩,
  ⟨fun K => a_is_deed K, "is_deed", "is_deed", defArgs s_is_deed, defBody s_is_deed, defScope s_is_deed, [], []⟩,
  ⟨fun K => a_Plan_p__init__ K, "__init__", "Plan.__init__", defArgs s_Plan_p__init__, defBody s_Plan_p__init__, defScope s_Plan_p__init__, [], []⟩,
  ⟨fun K => a_Plan_p__len__ K, "__len__", "Plan.__len__", defArgs s_Plan_p__len__, defBody s_Plan_p__len__, defScope s_Plan_p__len__, [], []⟩,
  ⟨fun K => a_Plan_p__iter__ K, "__iter__", "Plan.__iter__", defArgs s_Plan_p__iter__, defBody s_Plan_p__iter__, defScope s_Plan_p__iter__, [], []⟩,
  ⟨fun K => a_Plan_p__eq__ K, "__eq__", "Plan.__eq__", defArgs s_Plan_p__eq__, defBody s_Plan_p__eq__, defScope s_Plan_p__eq__, [], []⟩,
  ⟨fun K => a_Plan_p__getitem__ K, "__getitem__", "Plan.__getitem__", defArgs s_Plan_p__getitem__, defBody s_Plan_p__getitem__, defScope s_Plan_p__getitem__, [], []⟩,
  ⟨fun K => a_Plan_p__add__ K, "__add__", "Plan.__add__", defArgs s_Plan_p__add__, defBody s_Plan_p__add__, defScope s_Plan_p__add__, [], []⟩,
  ⟨fun K => a_Plan_p__mul__ K, "__mul__", "Plan.__mul__", defArgs s_Plan_p__mul__, defBody s_Plan_p__mul__, defScope s_Plan_p__mul__, [], []⟩,
  ⟨fun K => a_Plan_p__rmul__ K, "__rmul__", "Plan.__rmul__", defArgs s_Plan_p__rmul__, defBody s_Plan_p__rmul__, defScope s_Plan_p__rmul__, [], []⟩,
  ⟨fun K => a_Plan_p__rshift__ K, "__rshift__", "Plan.__rshift__", defArgs s_Plan_p__rshift__, defBody s_Plan_p__rshift__, defScope s_Plan_p__rshift__, [], []⟩,
  ⟨fun K => a_repeated K, "repeated", "repeated", defArgs s_repeated, defBody s_repeated, defScope s_repeated, [], []⟩,
  ⟨fun K => a_law_state K, "_law_state", "_law_state", defArgs s_law_state, defBody s_law_state, defScope s_law_state, [], []⟩,
  ⟨fun K => a_law_draw K, "_law_draw", "_law_draw", defArgs s_law_draw, defBody s_law_draw, defScope s_law_draw, [], []⟩,
  ⟨fun K => a_law_large K, "_law_large", "_law_large", defArgs s_law_large, defBody s_law_large, defScope s_law_large, [], []⟩,
  ⟨fun K => a_law_around K, "_law_around", "_law_around", defArgs s_law_around, defBody s_law_around, defScope s_law_around, [], []⟩,
  ⟨fun K => a_law_is_integer K, "_law_is_integer", "_law_is_integer", defArgs s_law_is_integer, defBody s_law_is_integer, defScope s_law_is_integer, [], []⟩,
  ⟨fun K => a_law_strange K, "_law_strange", "_law_strange", defArgs s_law_strange, defBody s_law_strange, defScope s_law_strange, [], []⟩,
  ⟨fun K => a_law_due K, "_law_due", "_law_due", defArgs s_law_due, defBody s_law_due, defScope s_law_due, [], []⟩,
  ⟨fun K => a_law K, "law", "law", defArgs s_law, defBody s_law, defScope s_law, [], []⟩]
def faL : List Fk := [
  .fa (.glo "is_integer"),
  .fa (.glo "is_row"),
  .fa (.glo "check_round"),
  .fa (.glo "is_word"),
  .fa (.glo "is_deed"),
  .fa (.glo "repeated"),
  .fa (.glo "_law_state"),
  .fa (.glo "_law_draw"),
  .fa (.glo "_law_large"),
  .fa (.glo "_law_around"),
  .fa (.glo "_law_is_integer"),
  .fa (.glo "_law_strange"),
  .fa (.glo "_law_due"),
  .fa (.glo "law"),
  .fa (.glo "JawError"),
  .fa (.glo "BadRound"),
  .xf "BadRound",
  .exm "BadRound" "BadRound" true,
  .oex "BadRound",
  .fa (.noat "BadRound" "value"),
  .fa (.meth "BadRound" "__init__"),
  .tyf "BadRound" "__init__",
  .fa (.glo "BadTurn"),
  .xf "BadTurn",
  .exm "BadTurn" "BadTurn" true,
  .oex "BadTurn",
  .fa (.noat "BadTurn" "value"),
  .fa (.meth "BadTurn" "__init__"),
  .tyf "BadTurn" "__init__",
  .fa (.glo "BadPlan"),
  .xf "BadPlan",
  .exm "BadPlan" "BadPlan" true,
  .oex "BadPlan",
  .fa (.noat "BadPlan" "at"),
  .fa (.meth "BadPlan" "__init__"),
  .tyf "BadPlan" "__init__",
  .fa (.glo "Plan"),
  .bne "Plan",
  .ity "Plan",
  .fa (.cls "Plan"),
  .fa (.noat "Plan" "around"),
  .fa (.noat "Plan" "deeds"),
  .fa (.meth "Plan" "__init__"),
  .fa (.mkr "Plan"),
  .fa (.meth "Plan" "__len__"),
  .fa (.meth "Plan" "__iter__"),
  .fa (.meth "Plan" "__eq__"),
  .fa (.meth "Plan" "__getitem__"),
  .fa (.meth "Plan" "__add__"),
  .fa (.meth "Plan" "__mul__"),
  .fa (.meth "Plan" "__rmul__"),
  .fa (.meth "Plan" "__rshift__"),
  .exm "BadPlan" "BadRound" false,
  .exm "BadTurn" "BadRound" false,
  .exm "BadRound" "BadPlan" false,
  .exm "BadTurn" "BadPlan" false,
  .fa (.int "MOST_ROUND" 360),
  .fa (.glo "WORDS"),
  .tup "WORDS" ["push", "squeeze"],
  .fa (.int "MOST_DEEDS" 400),
  .fa (.free "bool"),
  .fa (.free "enumerate"),
  .fa (.free "int"),
  .fa (.free "isinstance"),
  .fa (.free "iter"),
  .fa (.free "len"),
  .fa (.free "list"),
  .fa (.free "range"),
  .fa (.free "str"),
  .fa (.free "tuple")]
theorem txt_of {K : Fr1} {h : Heap} {mg : Str → Option Value} (X : K.In h) (G : h.Ns mainGlobals mg) (c : SaysJ faL fnL K) : Txt K mg := ⟨
  fn_at (c.def_ 0 rfl),
  fn_at (c.def_ 1 rfl),
  fn_at (c.def_ 2 rfl),
  fn_at (c.def_ 3 rfl),
  fn_at (c.def_ 4 rfl),
  fn_at (c.def_ 5 rfl),
  fn_at (c.def_ 6 rfl),
  fn_at (c.def_ 7 rfl),
  fn_at (c.def_ 8 rfl),
  fn_at (c.def_ 9 rfl),
  fn_at (c.def_ 10 rfl),
  fn_at (c.def_ 11 rfl),
  fn_at (c.def_ 12 rfl),
  fn_at (c.def_ 13 rfl),
  fn_at (c.def_ 14 rfl),
  fn_at (c.def_ 15 rfl),
  fn_at (c.def_ 16 rfl),
  fn_at (c.def_ 17 rfl),
  fn_at (c.def_ 18 rfl),
  fn_at (c.def_ 19 rfl),
  fn_at (c.def_ 20 rfl),
  fn_at (c.def_ 21 rfl),
  fn_at (c.def_ 22 rfl),
  fn_at (c.def_ 23 rfl),
  fn_at (c.def_ 24 rfl),
  fn_at (c.def_ 25 rfl),
  He.glo_ok X G (c.fact 0 (f := .fa (.glo "is_integer")) rfl),
  He.glo_ok X G (c.fact 1 (f := .fa (.glo "is_row")) rfl),
  He.glo_ok X G (c.fact 2 (f := .fa (.glo "check_round")) rfl),
  He.glo_ok X G (c.fact 3 (f := .fa (.glo "is_word")) rfl),
  He.glo_ok X G (c.fact 4 (f := .fa (.glo "is_deed")) rfl),
  He.glo_ok X G (c.fact 5 (f := .fa (.glo "repeated")) rfl),
  He.glo_ok X G (c.fact 6 (f := .fa (.glo "_law_state")) rfl),
  He.glo_ok X G (c.fact 7 (f := .fa (.glo "_law_draw")) rfl),
  He.glo_ok X G (c.fact 8 (f := .fa (.glo "_law_large")) rfl),
  He.glo_ok X G (c.fact 9 (f := .fa (.glo "_law_around")) rfl),
  He.glo_ok X G (c.fact 10 (f := .fa (.glo "_law_is_integer")) rfl),
  He.glo_ok X G (c.fact 11 (f := .fa (.glo "_law_strange")) rfl),
  He.glo_ok X G (c.fact 12 (f := .fa (.glo "_law_due")) rfl),
  He.glo_ok X G (c.fact 13 (f := .fa (.glo "law")) rfl),
  He.glo_ok X G (c.fact 14 (f := .fa (.glo "JawError")) rfl),
  He.glo_ok X G (c.fact 15 (f := .fa (.glo "BadRound")) rfl),
  xfB_ok (c.fact 16 (f := .xf "BadRound") rfl),
  of_decide_eq_true (c.fact 17 (f := .exm "BadRound" "BadRound" true) rfl),
  oexB_ok (c.fact 18 (f := .oex "BadRound") rfl),
  He.noat_ok (c.fact 19 (f := .fa (.noat "BadRound" "value")) rfl),
  He.meth_ok (c.fact 20 (f := .fa (.meth "BadRound" "__init__")) rfl),
  of_decide_eq_true (c.fact 21 (f := .tyf "BadRound" "__init__") rfl),
  He.glo_ok X G (c.fact 22 (f := .fa (.glo "BadTurn")) rfl),
  xfB_ok (c.fact 23 (f := .xf "BadTurn") rfl),
  of_decide_eq_true (c.fact 24 (f := .exm "BadTurn" "BadTurn" true) rfl),
  oexB_ok (c.fact 25 (f := .oex "BadTurn") rfl),
  He.noat_ok (c.fact 26 (f := .fa (.noat "BadTurn" "value")) rfl),
  He.meth_ok (c.fact 27 (f := .fa (.meth "BadTurn" "__init__")) rfl),
  of_decide_eq_true (c.fact 28 (f := .tyf "BadTurn" "__init__") rfl),
  He.glo_ok X G (c.fact 29 (f := .fa (.glo "BadPlan")) rfl),
  xfB_ok (c.fact 30 (f := .xf "BadPlan") rfl),
  of_decide_eq_true (c.fact 31 (f := .exm "BadPlan" "BadPlan" true) rfl),
  oexB_ok (c.fact 32 (f := .oex "BadPlan") rfl),
  He.noat_ok (c.fact 33 (f := .fa (.noat "BadPlan" "at")) rfl),
  He.meth_ok (c.fact 34 (f := .fa (.meth "BadPlan" "__init__")) rfl),
  of_decide_eq_true (c.fact 35 (f := .tyf "BadPlan" "__init__") rfl),
  He.glo_ok X G (c.fact 36 (f := .fa (.glo "Plan")) rfl),
  bneB_ok (c.fact 37 (f := .bne "Plan") rfl),
  ityB_ok (c.fact 38 (f := .ity "Plan") rfl),
  He.cls_ok (c.fact 39 (f := .fa (.cls "Plan")) rfl),
  He.noat_ok (c.fact 40 (f := .fa (.noat "Plan" "around")) rfl),
  He.noat_ok (c.fact 41 (f := .fa (.noat "Plan" "deeds")) rfl),
  He.meth_ok (c.fact 42 (f := .fa (.meth "Plan" "__init__")) rfl),
  He.mkr_ok (c.fact 43 (f := .fa (.mkr "Plan")) rfl),
  He.meth_ok (c.fact 44 (f := .fa (.meth "Plan" "__len__")) rfl),
  He.meth_ok (c.fact 45 (f := .fa (.meth "Plan" "__iter__")) rfl),
  He.meth_ok (c.fact 46 (f := .fa (.meth "Plan" "__eq__")) rfl),
  He.meth_ok (c.fact 47 (f := .fa (.meth "Plan" "__getitem__")) rfl),
  He.meth_ok (c.fact 48 (f := .fa (.meth "Plan" "__add__")) rfl),
  He.meth_ok (c.fact 49 (f := .fa (.meth "Plan" "__mul__")) rfl),
  He.meth_ok (c.fact 50 (f := .fa (.meth "Plan" "__rmul__")) rfl),
  He.meth_ok (c.fact 51 (f := .fa (.meth "Plan" "__rshift__")) rfl),
  of_decide_eq_true (c.fact 52 (f := .exm "BadPlan" "BadRound" false) rfl),
  of_decide_eq_true (c.fact 53 (f := .exm "BadTurn" "BadRound" false) rfl),
  of_decide_eq_true (c.fact 54 (f := .exm "BadRound" "BadPlan" false) rfl),
  of_decide_eq_true (c.fact 55 (f := .exm "BadTurn" "BadPlan" false) rfl),
  He.int_ok X G (c.fact 56 (f := .fa (.int "MOST_ROUND" 360)) rfl),
  He.glo_ok X G (c.fact 57 (f := .fa (.glo "WORDS")) rfl),
  fun H => tupB_ok (c.fact 58 (f := .tup "WORDS" ["push", "squeeze"]) rfl) H,
  He.int_ok X G (c.fact 59 (f := .fa (.int "MOST_DEEDS" 400)) rfl),
  He.free_ok X G (c.fact 60 (f := .fa (.free "bool")) rfl),
  He.free_ok X G (c.fact 61 (f := .fa (.free "enumerate")) rfl),
  He.free_ok X G (c.fact 62 (f := .fa (.free "int")) rfl),
  He.free_ok X G (c.fact 63 (f := .fa (.free "isinstance")) rfl),
  He.free_ok X G (c.fact 64 (f := .fa (.free "iter")) rfl),
  He.free_ok X G (c.fact 65 (f := .fa (.free "len")) rfl),
  He.free_ok X G (c.fact 66 (f := .fa (.free "list")) rfl),
  He.free_ok X G (c.fact 67 (f := .fa (.free "range")) rfl),
  He.free_ok X G (c.fact 68 (f := .fa (.free "str")) rfl),
  He.free_ok X G (c.fact 69 (f := .fa (.free "tuple")) rfl)⟩
theorem b_BadRound_p__init__ {K : Fr1} {mg : Str → Option Value} (T : Txt K mg) : Binds K (d_BadRound_p__init__ K) P_BadRound_p__init__ [] := T.F_BadRound_p__init__.bindsN fun _ _ _ _ _ _ us hl => match us, hl with | [_, _], _ => rfl
theorem b_BadTurn_p__init__ {K : Fr1} {mg : Str → Option Value} (T : Txt K mg) : Binds K (d_BadTurn_p__init__ K) P_BadTurn_p__init__ [] := T.F_BadTurn_p__init__.bindsN fun _ _ _ _ _ _ us hl => match us, hl with | [_, _], _ => rfl
theorem b_BadPlan_p__init__ {K : Fr1} {mg : Str → Option Value} (T : Txt K mg) : Binds K (d_BadPlan_p__init__ K) P_BadPlan_p__init__ [] := T.F_BadPlan_p__init__.bindsN fun _ _ _ _ _ _ us hl => match us, hl with | [_, _], _ => rfl
theorem b_is_integer {K : Fr1} {mg : Str → Option Value} (T : Txt K mg) : Binds K (d_is_integer K) P_is_integer [] := T.F_is_integer.bindsN fun _ _ _ _ _ _ us hl => match us, hl with | [_], _ => rfl
theorem b_is_row {K : Fr1} {mg : Str → Option Value} (T : Txt K mg) : Binds K (d_is_row K) P_is_row [] := T.F_is_row.bindsN fun _ _ _ _ _ _ us hl => match us, hl with | [_], _ => rfl
theorem b_check_round {K : Fr1} {mg : Str → Option Value} (T : Txt K mg) : Binds K (d_check_round K) P_check_round [] := T.F_check_round.bindsN fun _ _ _ _ _ _ us hl => match us, hl with | [_], _ => rfl
theorem b_is_word {K : Fr1} {mg : Str → Option Value} (T : Txt K mg) : Binds K (d_is_word K) P_is_word [] := T.F_is_word.bindsN fun _ _ _ _ _ _ us hl => match us, hl with | [_], _ => rfl
theorem b_is_deed {K : Fr1} {mg : Str → Option Value} (T : Txt K mg) : Binds K (d_is_deed K) P_is_deed [] := T.F_is_deed.bindsN fun _ _ _ _ _ _ us hl => match us, hl with | [_], _ => rfl
theorem b_Plan_p__init__ {K : Fr1} {mg : Str → Option Value} (T : Txt K mg) : Binds K (d_Plan_p__init__ K) P_Plan_p__init__ [] := T.F_Plan_p__init__.bindsN fun _ _ _ _ _ _ us hl => match us, hl with | [_, _, _], _ => rfl
theorem b_Plan_p__len__ {K : Fr1} {mg : Str → Option Value} (T : Txt K mg) : Binds K (d_Plan_p__len__ K) P_Plan_p__len__ [] := T.F_Plan_p__len__.bindsN fun _ _ _ _ _ _ us hl => match us, hl with | [_], _ => rfl
theorem b_Plan_p__iter__ {K : Fr1} {mg : Str → Option Value} (T : Txt K mg) : Binds K (d_Plan_p__iter__ K) P_Plan_p__iter__ [] := T.F_Plan_p__iter__.bindsN fun _ _ _ _ _ _ us hl => match us, hl with | [_], _ => rfl
theorem b_Plan_p__eq__ {K : Fr1} {mg : Str → Option Value} (T : Txt K mg) : Binds K (d_Plan_p__eq__ K) P_Plan_p__eq__ [] := T.F_Plan_p__eq__.bindsN fun _ _ _ _ _ _ us hl => match us, hl with | [_, _], _ => rfl
theorem b_Plan_p__getitem__ {K : Fr1} {mg : Str → Option Value} (T : Txt K mg) : Binds K (d_Plan_p__getitem__ K) P_Plan_p__getitem__ [] := T.F_Plan_p__getitem__.bindsN fun _ _ _ _ _ _ us hl => match us, hl with | [_, _], _ => rfl
theorem b_Plan_p__add__ {K : Fr1} {mg : Str → Option Value} (T : Txt K mg) : Binds K (d_Plan_p__add__ K) P_Plan_p__add__ [] := T.F_Plan_p__add__.bindsN fun _ _ _ _ _ _ us hl => match us, hl with | [_, _], _ => rfl
theorem b_Plan_p__mul__ {K : Fr1} {mg : Str → Option Value} (T : Txt K mg) : Binds K (d_Plan_p__mul__ K) P_Plan_p__mul__ [] := T.F_Plan_p__mul__.bindsN fun _ _ _ _ _ _ us hl => match us, hl with | [_, _], _ => rfl
theorem b_Plan_p__rmul__ {K : Fr1} {mg : Str → Option Value} (T : Txt K mg) : Binds K (d_Plan_p__rmul__ K) P_Plan_p__rmul__ [] := T.F_Plan_p__rmul__.bindsN fun _ _ _ _ _ _ us hl => match us, hl with | [_, _], _ => rfl
theorem b_Plan_p__rshift__ {K : Fr1} {mg : Str → Option Value} (T : Txt K mg) : Binds K (d_Plan_p__rshift__ K) P_Plan_p__rshift__ [] := T.F_Plan_p__rshift__.bindsN fun _ _ _ _ _ _ us hl => match us, hl with | [_, _], _ => rfl
theorem b_repeated {K : Fr1} {mg : Str → Option Value} (T : Txt K mg) : Binds K (d_repeated K) P_repeated [] := T.F_repeated.bindsN fun _ _ _ _ _ _ us hl => match us, hl with | [_, _], _ => rfl
theorem b_law_state {K : Fr1} {mg : Str → Option Value} (T : Txt K mg) : Binds K (d_law_state K) P_law_state [] := T.F_law_state.bindsN fun _ _ _ _ _ _ us hl => match us, hl with | [_], _ => rfl
theorem b_law_draw {K : Fr1} {mg : Str → Option Value} (T : Txt K mg) : Binds K (d_law_draw K) P_law_draw [] := T.F_law_draw.bindsN fun _ _ _ _ _ _ us hl => match us, hl with | [_, _], _ => rfl
theorem b_law_large {K : Fr1} {mg : Str → Option Value} (T : Txt K mg) : Binds K (d_law_large K) P_law_large [] := T.F_law_large.bindsN fun _ _ _ _ _ _ us hl => match us, hl with | [_, _], _ => rfl
theorem b_law_around {K : Fr1} {mg : Str → Option Value} (T : Txt K mg) : Binds K (d_law_around K) P_law_around [] := T.F_law_around.bindsN fun _ _ _ _ _ _ us hl => match us, hl with | [_, _], _ => rfl
theorem b_law_is_integer {K : Fr1} {mg : Str → Option Value} (T : Txt K mg) : Binds K (d_law_is_integer K) P_law_is_integer [] := T.F_law_is_integer.bindsN fun _ _ _ _ _ _ us hl => match us, hl with | [_], _ => rfl
theorem b_law_strange {K : Fr1} {mg : Str → Option Value} (T : Txt K mg) : Binds K (d_law_strange K) P_law_strange [] := T.F_law_strange.bindsN fun _ _ _ _ _ _ us hl => match us, hl with | [_], _ => rfl
theorem b_law_due {K : Fr1} {mg : Str → Option Value} (T : Txt K mg) : Binds K (d_law_due K) P_law_due [] := T.F_law_due.bindsN fun _ _ _ _ _ _ us hl => match us, hl with | [_, _], _ => rfl
theorem b_law {K : Fr1} {mg : Str → Option Value} (T : Txt K mg) : Binds K (d_law K) P_law [] := T.F_law.bindsN fun _ _ _ _ _ _ us hl => match us, hl with | [_], _ => rfl
end J
namespace J
open PySem L2
open Evl (Ex)
local macro_rules | `(tactic| walk_at "hp") => `(tactic| first
  | assumption
  | exact upd_same
  | ((with_reducible refine' SqL.of ?hpa); (case hpa => walk_at "hp"))
  | ((with_reducible refine' SqT.of ?hpa); (case hpa => walk_at "hp"))
  | ((rw [upd_ne (by assumption)]); walk_at "hp")
  | ((with_reducible refine' Ex.get ?hpe ?hpa); (case hpe => assumption); (case hpa => walk_at "hp"))
  | ((with_reducible refine' Dq.mono ?hpe ?hpa); (case hpe => assumption); (case hpa => walk_at "hp"))
  | ((with_reducible refine' DqAll.mono ?hpe ?hpa); (case hpe => assumption); (case hpa => walk_at "hp")))
local macro_rules | `(tactic| walk_at "j") => `(tactic| first
  | (with_reducible refine w_seqF fun F hF => ?_)
  | (with_reducible refine w_asg ?_)
  | (with_reducible refine w_name ?_; try dsimp only [List.set_cons_zero, List.set_cons_succ])
  | ((with_reducible refine' w_var ?hv ?_); (case hv => exact rfl))
  | (with_reducible refine w_c ?_)
  | (with_reducible refine w_op ?_)
  | (with_reducible refine w_un ?_)
  | (with_reducible refine w_I0 ?_)
  | (with_reducible refine w_U ?_)
  | (with_reducible refine w_cons ?_)
  | (with_reducible refine w_nil ?_)
  | (with_reducible refine w_cb ?_)
  | (with_reducible refine w_call ?_)
  | (with_reducible refine w_methK ?_)
  | (with_reducible refine w_methE ?_)
  | (with_reducible refine w_bm0 ?_)
  | (with_reducible refine w_callOE ?_)
  | (with_reducible refine w_makeE ?_)
  | (with_reducible refine w_isNn ?_)
  | (with_reducible refine w_isNr ?_)
  | (with_reducible refine w_isNi ?_)
  | (with_reducible refine w_isNs ?_)
  | (with_reducible refine w_isNb ?_)
  | (with_reducible refine w_notNn ?_)
  | (with_reducible refine w_notNr ?_)
  | (with_reducible refine w_notNi ?_)
  | (with_reducible refine w_notNs ?_)
  | (with_reducible refine w_notNb ?_)
  | (with_reducible refine w_methKE ?_)
  | (with_reducible refine w_dgetT ?_)
  | (with_reducible refine w_dinT ?_)
  | (with_reducible refine w_dnotinT ?_)
  | (with_reducible refine w_dputT ?_)
  | (with_reducible refine w_ixO ?_)
  | (with_reducible refine w_makeKE ?_)
  | (with_reducible refine w_callS ?_)
  | (with_reducible refine w_dnew ?_)
  | (with_reducible refine w_disp ?_)
  | (with_reducible refine w_pairsN ?_)
  | (with_reducible refine w_pairsC ?_)
  | (with_reducible refine w_listVals ?_)
  | (with_reducible refine w_methN ?_)
  | (with_reducible refine w_make ?_)
  | (with_reducible refine w_prop ?_)
  | (with_reducible refine w_callKw ?_)
  | (with_reducible refine w_makeK ?_)
  | (with_reducible refine w_callO ?_)
  | (with_reducible refine w_ret ?_)
  | (with_reducible refine w_mix ?_)
  | (with_reducible refine w_ifS ?_)
  | (with_reducible refine w_test ?_)
  | (with_reducible refine w_B ?_)
  | (with_reducible refine w_bl ?_)
  | (with_reducible refine w_and ?_)
  | (with_reducible refine w_or ?_)
  | (with_reducible refine w_not ?_)
  | (with_reducible refine w_drop ?_)
  | (with_reducible refine w_next ?_)
  | (with_reducible refine w_sub ?_)
  | (with_reducible refine w_eqI ?_)
  | (with_reducible refine w_neI ?_)
  | (with_reducible refine w_eqStrT ?_)
  | (with_reducible refine w_neStrT ?_)
  | ((with_reducible refine' w_eqStrF ?hc ?_); (case hc => decide +kernel))
  | ((with_reducible refine' w_neStrF ?hc ?_); (case hc => decide +kernel))
  | (with_reducible refine w_int1 ?_)
  | (with_reducible refine w_tup ?_)
  | (with_reducible refine w_lst ?_)
  | ((with_reducible refine' w_ixL ?hq ?he ?_); (case hq => walk_at "hp"); (case he => exact rfl))
  | ((with_reducible refine' w_ixT ?hq ?he ?_); (case hq => walk_at "hp"); (case he => exact rfl))
  | ((with_reducible refine' w_lenL ?hq ?_); (case hq => walk_at "hp"))
  | ((with_reducible refine' w_lenT ?hq ?_); (case hq => walk_at "hp"))
  | ((with_reducible refine' w_setL ?hq ?he ?_); (case hq => walk_at "hp"); (case he => exact rfl); (try simp only [Int.reduceToNat, List.set_cons_zero, List.set_cons_succ, upd_upd]))
  | ((with_reducible refine w_mulR ?hc ?_); (case hc => omega))
  | ((with_reducible refine w_mulL ?hc ?_); (case hc => omega))
  | ((with_reducible refine w_mod ?hc ?_); (case hc => first | omega | assumption | decide))
  | ((with_reducible refine w_modP ?hc ?_); (case hc => first | assumption | omega | decide))
  | ((with_reducible refine w_divP ?hc ?_); (case hc => first | assumption | omega | decide))
  | ((with_reducible refine w_divN ?hc ?_); (case hc => first | omega | decide))
  | ((with_reducible refine w_pow ?hc ?_); (case hc => first | omega | decide); (try simp only [Int.reduceToNat, Int.reducePow]))
  | ((with_reducible refine w_divW (b := 70) ?hc ?hd (by decide) (by decide) ?_); (case hc => first | assumption | omega); (case hd => first | assumption | omega | decide))
  | (with_reducible refine w_andV ?_)
  | (with_reducible refine w_orV ?_)
  | (with_reducible refine w_notV ?_)
  | (with_reducible refine w_ifE ?_)
  | (with_reducible refine w_chain ?_)
  | (with_reducible refine w_par ?_)
  | (with_reducible refine w_vw ?_; try dsimp only [List.set_cons_zero, List.set_cons_succ])
  | ((with_reducible refine' w_gtup ?hq ?hl ?_); (case hq => walk_at "hp"); (case hl => exact rfl))
  | (with_reducible refine w_gcons ?_)
  | (with_reducible refine w_gnil ?_)
  | (with_reducible refine w_bm ?_)
  | ((with_reducible refine' w_tyL ?hq ?_); (case hq => walk_at "hp"))
  | (with_reducible refine w_fldT ?_)
  | (with_reducible refine w_sFld ?_)
  | (with_reducible refine w_ij ?_)
  | (with_reducible refine w_yes ?_)
  | (with_reducible refine w_for ?_)
  | (with_reducible refine w_lc ?_)
  | (with_reducible refine w_enumI ?_)
  | (with_reducible refine w_seqI ?_)
  | (with_reducible refine w_listI ?_)
  | (with_reducible refine w_vals ?_)
  | (with_reducible refine w_items ?_)
  | (with_reducible refine w_rng1 ?_)
  | (with_reducible refine w_rng2 ?_)
  | ((with_reducible refine' Fol.go ?hf ?_); (case hf => assumption))
  | (with_reducible refine w_nt ?_)
  | (with_reducible refine w_nf ?_)
  | (with_reducible refine iteF ?_)
  | (with_reducible refine iteT ?_))
local macro_rules | `(tactic| walk_at "js") => `(tactic| repeat (walk_at "j"))
local macro_rules | `(tactic| walk_at "wp") => `(tactic| (refine ⟨rfl, ?_⟩; (try dsimp only [wipe, List.map_cons, List.map_nil, List.set_cons_zero, List.set_cons_succ])))
/-! ### rows of a turning, as the program checks them -/
abbrev Rows := List (Int × Int)
def pD (p : Int × Int) : PyData := .tuple [.int p.1, .int p.2]
def rD (rs : Rows) : List PyData := rs.map pD
def asPair (N : Int) : PyData → Option (Int × Int)
  | .tuple [.int a, .int b] => if 0 ≤ a ∧ a < N ∧ 0 ≤ b ∧ b < N then some (a, b) else none
  | _ => none
theorem asPair_pair (N : Int) (d : PyData) : isPair N d = (asPair N d).isSome := by
  unfold isPair asPair
  split
  · rename_i a b
    cases a <;> cases b <;> simp only [isPlc, Bool.and_false, Bool.false_and, Option.isSome_none]
    rename_i i j
    split
    · rename_i h
      simp [h.1, h.2.1, h.2.2.1, h.2.2.2]
    · rename_i h
      have : ¬ (0 ≤ i ∧ i < N ∧ 0 ≤ j ∧ j < N) := h
      by_cases h1 : 0 ≤ i <;> by_cases h2 : i < N <;> by_cases h3 : 0 ≤ j <;> by_cases h4 : j < N <;> simp_all
  · rename_i hd
    split
    · rename_i a b
      exact absurd rfl (hd _ _)
    · rfl
theorem asPair_some {N : Int} {d : PyData} {p : Int × Int} (h : asPair N d = some p) : d = pD p ∧ 0 ≤ p.1 ∧ p.1 < N ∧ 0 ≤ p.2 ∧ p.2 < N := by
  unfold asPair at h
  split at h
  · split at h
    · rename_i a b hh
      cases h
      exact ⟨rfl, hh⟩
    · cases h
  · cases h
/-- the first loop: from the begin b on, the index i -/
def rowA (N : Int) : Int → Nat → List PyData → Except Nat Rows
  | _, _, [] => .ok []
  | b, i, d :: r => match asPair N d with
    | none => .error i
    | some p => if p.1 ≤ b then .error i else match rowA N p.1 (i + 1) r with
      | .ok l => .ok (p :: l)
      | .error e => .error e
def behindOf (N : Int) (rs : Rows) (i : Nat) : Int := match rs[i + 1]? with
  | some p => p.1
  | none => (rs.headD (0, 0)).1 + N
def badRest (N : Int) (rs : Rows) (i : Nat) : Bool := match rs[i]? with
  | some p => decide (behindOf N rs i ≤ p.1 + (p.2 - p.1) % N)
  | none => false
/-- the second loop -/
def rowBg (N : Int) (rs : Rows) : Nat → Nat → Option Nat
  | 0, _ => none
  | n + 1, i => if badRest N rs i = true then some i else rowBg N rs n (i + 1)
def rowB (N : Int) (rs : Rows) : Option Nat := rowBg N rs rs.length 0
theorem rowA_cons {N b : Int} {i : Nat} {d : PyData} {r : List PyData} : rowA N b i (d :: r) = match asPair N d with
    | none => .error i
    | some p => if p.1 ≤ b then .error i else match rowA N p.1 (i + 1) r with
      | .ok l => .ok (p :: l)
      | .error e => .error e := rfl
def rowsOf : PyData → Option (List PyData)
  | .list l => some l
  | .tuple l => some l
  | _ => none
/-- what checked_rows tells: an index, or the rows -/
def rowsChk (N : Int) (d : PyData) : Except Int Rows := match rowsOf d with
  | none => .error (-1)
  | some l => if l.length = 0 ∨ 12 < l.length then .error (-1) else match rowA N (-1) 0 l with
    | .error i => .error (i : Int)
    | .ok rs => match rowB N rs with
      | some i => .error (i : Int)
      | none => .ok rs
theorem rowA_eq {N : Int} : ∀ {ds : List PyData} {b : Int} {i : Nat} {rs : Rows}, rowA N b i ds = .ok rs → ds = rD rs
  | [], b, i, rs, h => by
    cases h
    rfl
  | d :: r, b, i, rs, h => by
    unfold rowA at h
    split at h
    · cases h
    · rename_i p hp
      split at h
      · cases h
      · split at h
        · rename_i l hl
          cases h
          rw [(asPair_some hp).1, rowA_eq hl]
          rfl
        · cases h
theorem dqA_get {K : Fr1} {H : Hp} {vs : List V} {rs : Rows} (h : DqAll K H vs (rD rs)) {i : Nat} {v : V} (e : vs[i]? = some v) : ∃ p t, rs[i]? = some p ∧ v = .ref t ∧ H t = some (.tup [.int p.1, .int p.2]) := by
  obtain ⟨d, h1, h2⟩ := h.get e
  unfold rD at h1
  rw [List.getElem?_map] at h1
  cases hp : rs[i]? with
  | none => rw [hp] at h1; cases h1
  | some p =>
    rw [hp] at h1
    have h1' : pD p = d := Option.some.inj h1
    subst h1'
    cases h2 with
    | tup ht ha =>
      cases ha with
      | cons x t =>
        cases t with
        | cons y t =>
          cases t
          cases x
          cases y
          exact ⟨p, _, rfl, rfl, ht⟩
theorem dqA_get' {K : Fr1} {H : Hp} {vs : List V} {rs : Rows} (h : DqAll K H vs (rD rs)) {i : Nat} {p : Int × Int} (e : rs[i]? = some p) : ∃ t, vs[i]? = some (.ref t) ∧ H t = some (.tup [.int p.1, .int p.2]) := by
  have e2 : (rD rs)[i]? = some (pD p) := by
    unfold rD
    rw [List.getElem?_map, e] <;> rfl
  obtain ⟨v, h1, h2⟩ := h.get' e2
  obtain ⟨p', t, h3, rfl, h4⟩ := dqA_get h h1
  rw [e] at h3
  cases h3
  exact ⟨t, h1, h4⟩
/-! ### sorted rows -/
def lexLe (p q : Int × Int) : Bool := !(SrtO.lexB q p)
def srt (l : Rows) : Rows := l.mergeSort lexLe
theorem lexLe_iff {p q : Int × Int} : lexLe p q = true ↔ p.1 < q.1 ∨ (p.1 = q.1 ∧ p.2 ≤ q.2) := by
  unfold lexLe
  rw [Bool.not_eq_true', ← Bool.not_eq_true, SrtO.lexB_iff]
  omega
theorem srt_perm (l : Rows) : (srt l).Perm l := List.mergeSort_perm l lexLe
theorem srt_sorted (l : Rows) : (srt l).Pairwise (fun p q => lexLe p q = true) := by
  refine List.pairwise_mergeSort (fun a b c h1 h2 => ?_) (fun a b => ?_) l
  · rw [lexLe_iff] at h1 h2 ⊢
    omega
  · rw [Bool.or_eq_true, lexLe_iff, lexLe_iff]
    omega
theorem srt_uniq {l m : Rows} (hp : m.Perm l) (hs : m.Pairwise (fun p q => lexLe p q = true)) : m = srt l := by
  refine List.Perm.eq_of_pairwise (fun a b _ _ h1 h2 => ?_) hs (srt_sorted l) (hp.trans (srt_perm l).symm)
  rw [lexLe_iff] at h1 h2
  obtain ⟨a1, a2⟩ := a
  obtain ⟨b1, b2⟩ := b
  simp at h1 h2
  exact Prod.ext (by simp; omega) (by simp; omega)
/-- a pair of ints, read off the heap -/
def decP (H : Hp) : V → Int × Int
  | .ref t => match H t with
    | some (.tup [.int a, .int b]) => (a, b)
    | _ => (0, 0)
  | _ => (0, 0)
theorem decP_of {H : Hp} {t : Addr} {p : Int × Int} (h : H t = some (.tup [.int p.1, .int p.2])) : decP H (.ref t) = p := by
  unfold decP
  simp only [h]
theorem dqA_dec {K : Fr1} {H : Hp} : ∀ {vs : List V} {rs : Rows}, DqAll K H vs (rD rs) → vs.map (decP H) = rs ∧ ∀ x ∈ vs, ∃ t, x = .ref t ∧ H t = some (.tup [.int (decP H x).1, .int (decP H x).2])
  | [], [], _ => ⟨rfl, fun x hx => by cases hx⟩
  | [], _ :: _, h => by cases h
  | _ :: _, [], h => by cases h
  | v :: vs, p :: rs, h => by
    cases h with
    | cons h1 h2 =>
      obtain ⟨e1, e2⟩ := dqA_dec h2
      obtain ⟨p', t, hp, rfl, ht⟩ := dqA_get (vs := v :: vs) (rs := p :: rs) (i := 0) (.cons h1 h2) rfl
      cases hp
      have ed := decP_of ht
      refine ⟨by rw [List.map_cons, ed, e1], fun x hx => ?_⟩
      rcases List.mem_cons.mp hx with rfl | hx
      · exact ⟨t, rfl, by rw [ed]; exact ht⟩
      · exact e2 x hx
theorem dq_of_dec {K : Fr1} {H : Hp} : ∀ {vs : List V}, (∀ x ∈ vs, ∃ t, x = .ref t ∧ H t = some (.tup [.int (decP H x).1, .int (decP H x).2])) → DqAll K H vs (rD (vs.map (decP H)))
  | [], _ => .nil
  | v :: vs, h => by
    obtain ⟨t, e, ht⟩ := h v (List.mem_cons_self ..)
    refine .cons ?_ (dq_of_dec fun x hx => h x (List.mem_cons_of_mem _ hx))
    rw [e] at ht ⊢
    exact .tup ht (.cons (.int _) (.cons (.int _) .nil))
/-- sorted(xs), xs a list of pairs of ints -/
theorem w_sortedP {K : Fr1} {H : Hp} {Q : VK} {a : Addr} {vs : List V} {rs : Rows} (h : H a = some (.lst vs)) (hd : DqAll K H vs (rD rs))
    (k : ∀ p H', H p = none → Ex H H' → (∃ ys, H' p = some (.lst ys) ∧ DqAll K H' ys (rD (srt rs))) → Q (.ref p) H') : rSortedPO K [.ref a] H Q := by
  obtain ⟨e1, e2⟩ := dqA_dec hd
  refine ⟨a, vs, decP H, rfl, SqL.of h, e2, fun ys p hs hb hp => ?_⟩
  have hys : ∀ x ∈ ys, ∃ t, x = .ref t ∧ H t = some (.tup [.int (decP H x).1, .int (decP H x).2]) := fun x hx => e2 x (hb.perm.mem_iff.mp hx)
  have e3 : ys.map (decP H) = srt rs := by
    refine srt_uniq ?_ ?_
    · rw [← e1]
      exact hb.perm.map _
    · rw [List.pairwise_map]
      exact hs.imp fun {x y} z => by
        unfold lexLe
        rw [show SrtO.lexB (decP H y) (decP H x) = false from z] <;> rfl
  have d := dq_of_dec (K := K) hys
  rw [e3] at d
  exact k p _ hp (Ex.new hp) ⟨ys, upd_same, d.mono (Ex.new hp)⟩
/-! ### == of rows -/
theorem eqvAll_rD : ∀ a b : Rows, PyData.eqvAll (rD a) (rD b) = decide (a = b)
  | [], [] => rfl
  | [], _ :: _ => rfl
  | _ :: _, [] => rfl
  | (a1, a2) :: as, (b1, b2) :: bs => by
    have ih := eqvAll_rD as bs
    show (PyData.eqv (.tuple [.int a1, .int a2]) (.tuple [.int b1, .int b2]) && PyData.eqvAll (rD as) (rD bs)) = _
    rw [ih]
    simp only [PyData.eqv, PyData.eqvAll]
    by_cases h1 : a1 = b1 <;> by_cases h2 : a2 = b2 <;> by_cases h3 : as = bs <;> simp [h1, h2, h3]
theorem shaped_rD (a : Rows) : SeqAt.shaped (.tuple (rD a)) = true := by
  have h1 : ∀ a : Rows, PyData.canLayAll0 (rD a) = true ∧ PyData.depthAll (rD a) ≤ 1 := by
    intro a
    induction a with
    | nil => exact ⟨rfl, Nat.zero_le _⟩
    | cons p r ih =>
      obtain ⟨i1, i2⟩ := ih
      refine ⟨?_, ?_⟩
      · show (PyData.canLay0 (.tuple [.int p.1, .int p.2]) && PyData.canLayAll0 (rD r)) = true
        rw [i1]
        rfl
      · show max (PyData.depth (.tuple [.int p.1, .int p.2])) (PyData.depthAll (rD r)) ≤ 1
        have e : PyData.depth (.tuple [.int p.1, .int p.2]) = 1 := rfl
        omega
  obtain ⟨c, d⟩ := h1 a
  unfold SeqAt.shaped
  have c2 : PyData.canLay0 (.tuple (rD a)) = true := c
  have d2 : PyData.depth (.tuple (rD a)) ≤ 64 := by
    show PyData.depthAll (rD a) + 1 ≤ 64
    omega
  rw [c2, decide_eq_true d2]
  rfl
theorem shaped_rDl (a : Rows) : SeqAt.shaped (.list (rD a)) = true := shaped_rD a
mutual
/-- data without dicts, as the library's relation has them -/
def noDict : PyData → Bool
  | .list xs => noDictA xs
  | .tuple xs => noDictA xs
  | .dict _ => false
  | _ => true
def noDictA : List PyData → Bool
  | [] => true
  | x :: r => noDict x && noDictA r
end
mutual
theorem Dq.dp {K : Fr1} {H : Hp} : ∀ {v : V} {d : PyData}, Dq K H v d → noDict d = true → Dp K H v d
  | _, _, .non, _ => .non
  | _, _, .bl b, _ => .bl b
  | _, _, .int i, _ => .int i
  | _, _, .str x, _ => .str x
  | _, _, .lst h a, e => .lst (SqL.of h) (DqAll.dp a (by simpa [noDict] using e))
  | _, _, .tup h a, e => .tup (SqT.of h) (DqAll.dp a (by simpa [noDict] using e))
  | _, _, .dct h, e => by simp [noDict] at e
theorem DqAll.dp {K : Fr1} {H : Hp} : ∀ {vs : List V} {ds : List PyData}, DqAll K H vs ds → noDictA ds = true → DpAll K H vs ds
  | _, _, .nil, _ => .nil
  | _, _, .cons h t, e => by
    have e2 := Bool.and_eq_true_iff.mp (by simpa [noDictA] using e)
    exact .cons (Dq.dp h e2.1) (DqAll.dp t e2.2)
end
theorem noDict_rD : ∀ a : Rows, noDictA (rD a) = true
  | [] => rfl
  | p :: r => by
    show (noDict (.tuple [.int p.1, .int p.2]) && noDictA (rD r)) = true
    rw [noDict_rD r]
    rfl
/-- == of two tuples of rows -/
theorem w_eqRT {K : Fr1} {H : Hp} {Q : VK} {x y : V} {a b : Rows} (hx : Dq K H x (.tuple (rD a))) (hy : Dq K H y (.tuple (rD b))) (k : Q (.bl (decide (a = b))) H) : rEqD K x y H Q := by
  refine ⟨_, _, hx.dp (by simpa [noDict] using noDict_rD a), hy.dp (by simpa [noDict] using noDict_rD b), shaped_rD a, shaped_rD b, ?_⟩
  have e : PyData.eqv (.tuple (rD a)) (.tuple (rD b)) = decide (a = b) := eqvAll_rD a b
  rw [e]
  exact k

def turnR (N c : Int) (rs : Rows) : Rows := srt (rs.map fun p => ((p.1 + c) % N, (p.2 + c) % N))
/-- what least_period tells -/
structure LeastP (N : Int) (rs : Rows) (s : Int) : Prop where
  pos : 1 ≤ s
  le : s ≤ N
  keeps : s = N ∨ (N % s = 0 ∧ turnR N s rs = rs)
  least : ∀ t, 1 ≤ t → t < s → ¬ (N % t = 0 ∧ turnR N t rs = rs)
theorem putF_ne {f g : Str} {u v : V} {r : List (Str × V)} (h : ¬ g = f) : putF f v ((g, u) :: r) = (g, u) :: putF f v r := by
  show (if g = f then _ else _) = _
  rw [if_neg h]
theorem putF_nil {f : Str} {v : V} : putF f v [] = [(f, v)] := rfl
theorem lk_eq {f : Str} {v : V} {r : List (Str × V)} : ((f, v) :: r).lookup f = some v := by simp [List.lookup]
theorem lk_ne {f g : Str} {v : V} {r : List (Str × V)} (h : (g == f) = false) : ((f, v) :: r).lookup g = r.lookup g := by simp [List.lookup, h]
theorem lk_nil {g : Str} : ([] : List (Str × V)).lookup g = none := rfl
theorem flds3 (n r p : V) : putF "_period" p (putF "rows" r (putF "around" n [])) = ([("around", n), ("rows", r), ("_period", p)] : List (Str × V)) := by
  rw [putF_nil, putF_ne (by decide +kernel), putF_nil, putF_ne (by decide +kernel), putF_ne (by decide +kernel), putF_nil]
/-- the fields of a turning -/
def tF (N : Int) (t : Addr) (s : Int) : List (Str × V) := [("around", .int N), ("rows", .ref t), ("_period", .int s)]
theorem tF_around (N : Int) (t : Addr) (s : Int) : (tF N t s).lookup ("around" : Str) = some (V.int N) := lk_eq
theorem tF_rows (N : Int) (t : Addr) (s : Int) : (tF N t s).lookup ("rows" : Str) = some (V.ref t) := (lk_ne (by decide +kernel)).trans lk_eq
theorem tF_period (N : Int) (t : Addr) (s : Int) : (tF N t s).lookup ("_period" : Str) = some (V.int s) := (lk_ne (by decide +kernel)).trans ((lk_ne (by decide +kernel)).trans lk_eq)
theorem tF_no (N : Int) (t : Addr) (s : Int) {m : Str} (h1 : (m == ("around" : Str)) = false) (h2 : (m == ("rows" : Str)) = false) (h3 : (m == ("_period" : Str)) = false) : (tF N t s).lookup m = none :=
  (lk_ne h1).trans ((lk_ne h2).trans ((lk_ne h3).trans lk_nil))
/-- v is a turning of the round N with the rows rs and the period s -/
def TurnAt (K : Fr1) (H : Hp) (v : V) (N : Int) (rs : Rows) (s : Int) : Prop := ∃ a dx t, v = .ref a ∧ H a = some (.ins (He.ga K "Turning") dx (tF N t s)) ∧ Dq K H (.ref t) (.tuple (rD rs))
theorem TurnAt.mono {K : Fr1} {H H' : Hp} {v : V} {N : Int} {rs : Rows} {s : Int} (e : Ex H H') (h : TurnAt K H v N rs s) : TurnAt K H' v N rs s := by
  obtain ⟨a, dx, t, h1, h2, h3⟩ := h
  exact ⟨a, dx, t, h1, e _ _ h2, h3.mono e⟩
/-- rows as a turning has them -/
structure GoodT (N : Int) (rs : Rows) : Prop where
  hN : 2 ≤ N
  hN2 : N ≤ 360
  len1 : 1 ≤ rs.length
  len2 : rs.length ≤ 12
  rng : ∀ p ∈ rs, 0 ≤ p.1 ∧ p.1 < N ∧ 0 ≤ p.2 ∧ p.2 < N
  asc : rs.Pairwise (fun p q => p.1 < q.1)
  rest : ∀ i p, rs[i]? = some p → p.1 + (p.2 - p.1) % N < behindOf N rs i
theorem rowA_good {N : Int} : ∀ {ds : List PyData} {b : Int} {i : Nat} {rs : Rows}, rowA N b i ds = .ok rs → (∀ p ∈ rs, b < p.1 ∧ 0 ≤ p.1 ∧ p.1 < N ∧ 0 ≤ p.2 ∧ p.2 < N) ∧ rs.Pairwise (fun p q => p.1 < q.1)
  | [], b, i, rs, h => by
    cases h
    exact ⟨fun p hp => (by cases hp), .nil⟩
  | d :: r, b, i, rs, h => by
    rw [rowA_cons] at h
    split at h
    · cases h
    · rename_i p hp
      split at h
      · cases h
      · rename_i hb
        split at h
        · rename_i l hl
          cases h
          obtain ⟨g1, g2⟩ := rowA_good hl
          obtain ⟨_, a1, a2, a3, a4⟩ := asPair_some hp
          refine ⟨fun q hq => ?_, List.pairwise_cons.mpr ⟨fun q hq => (g1 q hq).1, g2⟩⟩
          rcases List.mem_cons.mp hq with rfl | hq
          · exact ⟨by omega, a1, a2, a3, a4⟩
          · obtain ⟨z1, z2⟩ := g1 q hq
            exact ⟨by omega, z2⟩
        · cases h
theorem good_rowA {N : Int} : ∀ {rs : Rows} {b : Int} {i : Nat}, (∀ p ∈ rs, b < p.1 ∧ 0 ≤ p.1 ∧ p.1 < N ∧ 0 ≤ p.2 ∧ p.2 < N) → rs.Pairwise (fun p q => p.1 < q.1) → rowA N b i (rD rs) = .ok rs
  | [], _, _, _, _ => rfl
  | p :: r, b, i, h, hp => by
    obtain ⟨h1, h2, h3, h4, h5⟩ := h p (List.mem_cons_self ..)
    obtain ⟨g1, g2⟩ := List.pairwise_cons.mp hp
    have e : asPair N (pD p) = some p := by
      show (if 0 ≤ p.1 ∧ p.1 < N ∧ 0 ≤ p.2 ∧ p.2 < N then some (p.1, p.2) else none) = some p
      rw [if_pos ⟨h2, h3, h4, h5⟩]
    have ih := good_rowA (N := N) (rs := r) (b := p.1) (i := i + 1) (fun q hq => ⟨g1 q hq, (h q (List.mem_cons_of_mem _ hq)).2⟩) g2
    show rowA N b i (pD p :: rD r) = _
    rw [rowA_cons, e]
    dsimp only
    rw [if_neg (by omega), ih]
theorem rowBg_none {N : Int} {rs : Rows} : ∀ {n i : Nat}, rowBg N rs n i = none ↔ ∀ j, i ≤ j → j < i + n → badRest N rs j = false
  | 0, i => Iff.intro (fun _ j h1 h2 => absurd h2 (by omega)) (fun _ => rfl)
  | n + 1, i => by
    have ih := rowBg_none (N := N) (rs := rs) (n := n) (i := i + 1)
    show (if badRest N rs i = true then some i else rowBg N rs n (i + 1)) = none ↔ _
    by_cases h : badRest N rs i = true
    · rw [if_pos h]
      refine ⟨fun z => (by cases z), fun z => ?_⟩
      have := z i (Nat.le_refl _) (by omega)
      rw [h] at this
      cases this
    · rw [if_neg h, ih]
      refine ⟨fun z j h1 h2 => ?_, fun z j h1 h2 => z j (by omega) (by omega)⟩
      by_cases hj : j = i
      · subst hj
        simpa using h
      · exact z j (by omega) (by omega)
theorem good_chk {N : Int} {d : PyData} {rs : Rows} (h1 : 2 ≤ N) (h2 : N ≤ 360) (h : rowsChk N d = .ok rs) : GoodT N rs ∧ rowsOf d = some (rD rs) := by
  unfold rowsChk at h
  split at h
  · cases h
  · rename_i l hl
    split at h
    · cases h
    · rename_i hlen
      split at h
      · cases h
      · rename_i rs' hA
        split at h
        · cases h
        · rename_i hB
          cases h
          have hds := rowA_eq hA
          obtain ⟨g1, g2⟩ := rowA_good hA
          have hl2 : l.length = rs.length := by rw [hds]; exact List.length_map ..
          refine ⟨⟨h1, h2, by omega, by omega, fun p hp => (g1 p hp).2, g2, fun i p hp => ?_⟩, by rw [hl, hds]⟩
          have hi : i < rs.length := (List.getElem?_eq_some_iff.mp hp).1
          have z := (rowBg_none.mp hB) i (Nat.zero_le _) (by omega)
          unfold badRest at z
          rw [hp] at z
          simpa using z
theorem chk_good {N : Int} {d : PyData} {rs : Rows} (g : GoodT N rs) (h : rowsOf d = some (rD rs)) : rowsChk N d = .ok rs := by
  have hl : (rD rs).length = rs.length := List.length_map ..
  have h1 := g.len1
  have h2 := g.len2
  have hA : rowA N (-1) 0 (rD rs) = .ok rs := good_rowA (fun p hp => by have := g.rng p hp; omega) g.asc
  have hB : rowB N rs = none := by
    refine rowBg_none.mpr fun j _ hj => ?_
    unfold badRest
    rw [List.getElem?_eq_getElem (show j < rs.length by omega)]
    have := g.rest j _ (List.getElem?_eq_getElem (show j < rs.length by omega))
    simpa using this
  unfold rowsChk
  rw [h]
  dsimp only
  rw [if_neg (by omega), hA]
  dsimp only
  rw [hB]
/-- the lifted map -/
def pickR (rs : Rows) (x : Int) : Int × Int := rs.foldl (fun acc p => if p.1 ≤ x then p else acc) (rs.headD (0, 0))
def liftZ (N : Int) (rs : Rows) (x : Int) : Int :=
  if x % N < (rs.headD (0, 0)).1 then (x / N - 1) * N + (pickR rs (x % N + N)).1 + ((pickR rs (x % N + N)).2 - (pickR rs (x % N + N)).1) % N
  else x / N * N + (pickR rs (x % N)).1 + ((pickR rs (x % N)).2 - (pickR rs (x % N)).1) % N
/-- the wish for an error raised while the new instance x is being made -/
def RzX (K : Fr1) (x : Addr) (c f : Str) (v : V) (H : Hp) (E : XK) : Prop := ∀ d H', H d = none → (∀ b o, b ≠ x → H b = some o → H' b = some o) → H' d = some (.xd [(f, v)]) → E (.ref (He.ga K c)) (some d) H'
theorem turn_meth {K : Fr1} {H : Hp} {v : V} {N : Int} {rs : Rows} {s : Int} {m : Str} {P : Prop} (tu : TurnAt K H v N rs s) (h1 : (m == ("around" : Str)) = false) (h2 : (m == ("rows" : Str)) = false) (h3 : (m == ("_period" : Str)) = false) (k : P) :
    ∃ a dx fs, v = .ref a ∧ H a = some (.ins (He.ga K "Turning") dx fs) ∧ fs.lookup m = none ∧ P := by
  obtain ⟨a, dx, t, e, ha, _⟩ := tu
  exact ⟨a, dx, _, e, ha, tF_no N t s h1 h2 h3, k⟩
theorem turn_prop {K : Fr1} {H : Hp} {x : Addr} {N : Int} {rs : Rows} {s : Int} {P : Addr → Prop} (tu : TurnAt K H (.ref x) N rs s) (k : P x) : ∃ a dx fs, V.ref x = .ref a ∧ H a = some (.ins (He.ga K "Turning") dx fs) ∧ P a := by
  obtain ⟨a, dx, t, e, ha, _⟩ := tu
  cases e
  exact ⟨x, dx, _, rfl, ha, k⟩
theorem turn_ins {X : Cx} {H : Hp} {a : Addr} {N : Int} {rs : Rows} {s : Int} (tu : TurnAt X.K H (.ref a) N rs s) : StX.InsC X H a (He.ga X.K "Turning") := by
  obtain ⟨b, dx, t, e, ha, _⟩ := tu
  cases e
  exact .inr ⟨dx, _, ha⟩

/-! ### a list that is changed leaves rows, turnings as they were -/
theorem upd_keep {H : Hp} {l a : Addr} {xs : List V} {o o2 : HO} (hl : H l = some (.lst xs)) (ha : H a = some o) (no : ∀ ys, o ≠ .lst ys) : upd H l o2 a = some o := by
  rw [upd_ne]
  · exact ha
  · rintro rfl
    rw [hl] at ha
    cases ha
    exact no _ rfl
theorem dqA_rD_mut {K : Fr1} {H : Hp} {l : Addr} {xs : List V} {o2 : HO} (hl : H l = some (.lst xs)) : ∀ {vs : List V} {rs : Rows}, DqAll K H vs (rD rs) → DqAll K (upd H l o2) vs (rD rs)
  | _, [], h => by
    cases h
    exact .nil
  | _, p :: rs, h => by
    cases h with
    | cons h1 h2 =>
      refine .cons ?_ (dqA_rD_mut hl h2)
      cases h1 with
      | tup a1 a2 =>
        refine .tup (upd_keep hl a1 (fun _ z => by cases z)) ?_
        cases a2 with
        | cons b1 b2 =>
          cases b1
          cases b2 with
          | cons c1 c2 =>
            cases c1
            cases c2
            exact .cons (.int _) (.cons (.int _) .nil)
theorem TurnAt.mutL {K : Fr1} {H : Hp} {l : Addr} {xs : List V} {o2 : HO} {v : V} {N : Int} {rs : Rows} {s : Int} (hl : H l = some (.lst xs)) (h : TurnAt K H v N rs s) : TurnAt K (upd H l o2) v N rs s := by
  obtain ⟨a, dx, t, rfl, ha, ht⟩ := h
  refine ⟨a, dx, t, rfl, upd_keep hl ha (fun _ z => by cases z), ?_⟩
  cases ht with
  | tup h1 h2 => exact .tup (upd_keep hl h1 (fun _ z => by cases z)) (dqA_rD_mut hl h2)
theorem own_eqG {K : Fr1} {H : Hp} {a b : Addr} {N M : Int} {rs qs : Rows} {s t : Int} {Q : VK} {E : XK} {sp : Sp} (hsp : ∀ {Q E}, Q (.bl (decide (N = M) && decide (rs = qs))) H → sp [.ref a, .ref b] H Q E) (ta : TurnAt K H (.ref a) N rs s) (tb : TurnAt K H (.ref b) M qs t) (k : Q (.bl (decide (N = M) && decide (rs = qs))) H) : rOwnE (He.ga K "Turning") sp E (.ref a) (.ref b) H Q := by
  obtain ⟨_, dx, x, e1, ha, _⟩ := id ta
  obtain ⟨_, dy, y, e2, hb, _⟩ := id tb
  cases e1
  cases e2
  exact ⟨a, b, dx, dy, _, _, rfl, rfl, ha, hb, hsp ⟨_, rfl, k⟩⟩
theorem own_neG {K : Fr1} {H : Hp} {a b : Addr} {N M : Int} {rs qs : Rows} {s t : Int} {Q : VK} {E : XK} {sp : Sp} (hsp : ∀ {Q E}, Q (.bl (decide (N = M) && decide (rs = qs))) H → sp [.ref a, .ref b] H Q E) (ta : TurnAt K H (.ref a) N rs s) (tb : TurnAt K H (.ref b) M qs t) (k : Q (.bl (!(decide (N = M) && decide (rs = qs)))) H) : rOwnN (He.ga K "Turning") sp E (.ref a) (.ref b) H Q := by
  obtain ⟨_, dx, x, e1, ha, _⟩ := id ta
  obtain ⟨_, dy, y, e2, hb, _⟩ := id tb
  cases e1
  cases e2
  exact ⟨a, b, dx, dy, _, _, rfl, rfl, ha, hb, hsp ⟨_, rfl, k⟩⟩
theorem good_01 {N : Int} (h : 2 ≤ N) (h2 : N ≤ 360) : GoodT N [(0, 1)] := by
  refine ⟨h, h2, by decide, by decide, ?_, ?_, ?_⟩
  · intro p hp
    simp at hp
    subst hp
    exact ⟨by decide, by show (0:Int) < N; omega, by decide, by show (1:Int) < N; omega⟩
  · simp
  · intro i p hp
    match i, hp with
    | 0, hp =>
      cases hp
      show (0 : Int) + (1 - 0) % N < 0 + N
      rw [Int.emod_eq_of_lt (by decide) (by omega)]
      omega
    | i + 1, hp => simp at hp
theorem w_neB {H : Hp} {Q : VK} {a b : Bool} (k : Q (.bl (a != b)) H) : rNe (.bl a) (.bl b) H Q := ⟨rfl, by
  have e : (!decide (V.bl a = V.bl b)) = (a != b) := by cases a <;> cases b <;> decide
  rw [e]; exact k⟩
theorem w_eqB {H : Hp} {Q : VK} {a b : Bool} (k : Q (.bl (a == b)) H) : rEq (.bl a) (.bl b) H Q := ⟨rfl, by
  have e : (decide (V.bl a = V.bl b)) = (a == b) := by cases a <;> cases b <;> decide
  rw [e]; exact k⟩
theorem w_isiC {K : Fr1} {H : Hp} {Q : VK} {v : V} {d : PyData} {n : String} {b b' : Bool} (h : Dq K H v d) (k : kitB (tyn d) n = some b') (e : b' = b) (q : Q (.bl b) H) : rIsi K [v, .ty n] H Q := w_isi h k (by rw [e]; exact q)
theorem paired_ints_any {α : Type} : ∀ {vs : List V} {as : List α}, Paired (fun v (_ : α) => ∃ r : Int, v = .int r) vs as → ∃ ns : List Int, vs = ns.map V.int
  | _, _, .nil => ⟨[], rfl⟩
  | _, _, .cons ⟨r, h⟩ t => by
    obtain ⟨ns, e⟩ := paired_ints_any t
    exact ⟨r :: ns, by rw [h, e, List.map_cons]⟩
theorem dqA_catM {K : Fr1} {H : Hp} : ∀ {xs : List V} {ds : List PyData} {ys : List V} {es : List PyData}, DqAll K H xs ds → DqAll K H ys es → DqAll K H (xs ++ ys) (ds ++ es)
  | [], _, _, _, .nil, h => h
  | _ :: _, _, _, _, .cons h t, h2 => .cons h (dqA_catM t h2)
theorem dqA_setM {K : Fr1} {H : Hp} {v : V} {d : PyData} (hd : Dq K H v d) : ∀ (n : Nat) {xs : List V} {ds : List PyData}, DqAll K H xs ds → DqAll K H (xs.set n v) (ds.set n d)
  | _, _, _, .nil => .nil
  | 0, _, _, .cons _ t => .cons hd t
  | n + 1, _, _, .cons h t => .cons h (dqA_setM hd n t)
theorem del_ExM {H H' : Hp} {l : Addr} (e : Ex H H') : Ex (del H l) (del H' l) := Ex.delD (ex_del.trans e) del_same

/-! ### deeds and plans -/
abbrev Deeds := List (Str × Int)
def isW : PyData → Bool
  | .str w => w == ("push" : Str) || w == ("squeeze" : Str)
  | _ => false
def dD (p : Str × Int) : PyData := .tuple [.str p.1, .int p.2]
def deD (ds : Deeds) : List PyData := ds.map dD
def asDeed : PyData → Option (Str × Int)
  | .tuple [a, b] => (match a, b with
    | .str w, .int t => if isW (.str w) = true then some (w, t) else none
    | _, _ => none)
  | _ => none
def isDeed : PyData → Bool
  | .tuple [a, b] => isW a && isI b
  | _ => false
theorem asDeed_isSome (d : PyData) : isDeed d = (asDeed d).isSome := by
  unfold isDeed asDeed
  split
  · rename_i a b
    cases a <;> cases b <;> simp [isW, isI]
    split <;> simp_all
  · rfl
theorem asDeed_some {d : PyData} {p : Str × Int} (h : asDeed d = some p) : d = dD p ∧ isW (.str p.1) = true := by
  unfold asDeed at h
  split at h
  · split at h
    · split at h
      · cases h
        exact ⟨rfl, by assumption⟩
      · cases h
    · cases h
  · cases h
theorem asDeed_none {d : PyData} (h : isDeed d = false) : asDeed d = none := by
  rw [asDeed_isSome] at h
  exact Option.not_isSome_iff_eq_none.mp (by rw [h]; decide)
theorem asDeed_dD {p : Str × Int} (h : isW (.str p.1) = true) : asDeed (dD p) = some p := by
  show (if isW (.str p.1) = true then some (p.1, p.2) else none) = some p
  rw [if_pos h]
def deedsA : Nat → List PyData → Except Nat Deeds
  | _, [] => .ok []
  | i, d :: r => match asDeed d with
    | none => .error i
    | some p => match deedsA (i + 1) r with
      | .ok l => .ok (p :: l)
      | .error e => .error e
theorem deedsA_cons {i : Nat} {d : PyData} {r : List PyData} : deedsA i (d :: r) = match asDeed d with
    | none => .error i
    | some p => match deedsA (i + 1) r with
      | .ok l => .ok (p :: l)
      | .error e => .error e := rfl
/-- what Plan tells of its deeds: an index, or the deeds -/
def planChk (d : PyData) : Except Int Deeds := match rowsOf d with
  | none => .error (-1)
  | some l => if 400 < l.length then .error (-1) else match deedsA 0 l with
    | .error i => .error (i : Int)
    | .ok ds => .ok ds
def GoodW (ds : Deeds) : Prop := ∀ p ∈ ds, isW (.str p.1) = true
theorem deedsA_eq : ∀ {l : List PyData} {i : Nat} {ds : Deeds}, deedsA i l = .ok ds → l = deD ds ∧ GoodW ds
  | [], i, ds, h => by
    cases h
    exact ⟨rfl, fun p hp => by cases hp⟩
  | d :: r, i, ds, h => by
    rw [deedsA_cons] at h
    split at h
    · cases h
    · rename_i p hp
      split at h
      · rename_i l hl
        cases h
        obtain ⟨e1, g1⟩ := deedsA_eq hl
        obtain ⟨e2, g2⟩ := asDeed_some hp
        refine ⟨by rw [e1, e2]; rfl, fun q hq => ?_⟩
        rcases List.mem_cons.mp hq with rfl | hq
        · exact g2
        · exact g1 q hq
      · cases h
theorem deedsA_good : ∀ {ds : Deeds} {i : Nat}, GoodW ds → deedsA i (deD ds) = .ok ds
  | [], _, _ => rfl
  | p :: r, i, g => by
    show deedsA i (dD p :: deD r) = _
    rw [deedsA_cons, asDeed_dD (g p (List.mem_cons_self ..))]
    dsimp only
    rw [deedsA_good (ds := r) (i := i + 1) fun q hq => g q (List.mem_cons_of_mem _ hq)]
theorem planChk_eq {d : PyData} {ds : Deeds} (h : planChk d = .ok ds) : rowsOf d = some (deD ds) ∧ GoodW ds ∧ ds.length ≤ 400 := by
  unfold planChk at h
  split at h
  · cases h
  · rename_i l hl
    split at h
    · cases h
    · rename_i hlen
      split at h
      · cases h
      · rename_i ds' hA
        cases h
        obtain ⟨e, g⟩ := deedsA_eq hA
        refine ⟨by rw [hl, e], g, ?_⟩
        rw [e] at hlen
        unfold deD at hlen
        rw [List.length_map] at hlen
        omega
theorem planChk_good {d : PyData} {ds : Deeds} (h : rowsOf d = some (deD ds)) (g : GoodW ds) (hl : ds.length ≤ 400) : planChk d = .ok ds := by
  unfold planChk
  rw [h]
  dsimp only
  rw [if_neg (by unfold deD; rw [List.length_map]; omega), deedsA_good g]
/-- the deeds that a plan keeps -/
def modD (N : Int) (ds : Deeds) : Deeds := ds.map fun p => (p.1, p.2 % N)
theorem modD_good {N : Int} {ds : Deeds} (g : GoodW ds) : GoodW (modD N ds) := fun p hp => by
  unfold modD at hp
  obtain ⟨q, hq, rfl⟩ := List.mem_map.mp hp
  exact g q hq
theorem modD_len (N : Int) (ds : Deeds) : (modD N ds).length = ds.length := List.length_map ..
theorem deD_len (ds : Deeds) : (deD ds).length = ds.length := List.length_map ..
theorem modD_modD {N : Int} {ds : Deeds} : modD N (modD N ds) = modD N ds := by
  unfold modD
  rw [List.map_map]
  refine List.map_congr_left fun p _ => ?_
  show (p.1, p.2 % N % N) = (p.1, p.2 % N)
  rw [Int.emod_emod]
theorem dqA_getD {K : Fr1} {H : Hp} {vs : List V} {ds : Deeds} (h : DqAll K H vs (deD ds)) {i : Nat} {v : V} (e : vs[i]? = some v) : ∃ p t, ds[i]? = some p ∧ v = .ref t ∧ H t = some (.tup [.str p.1, .int p.2]) := by
  obtain ⟨d, h1, h2⟩ := h.get e
  unfold deD at h1
  rw [List.getElem?_map] at h1
  cases hp : ds[i]? with
  | none => rw [hp] at h1; cases h1
  | some p =>
    rw [hp] at h1
    have h1' : dD p = d := Option.some.inj h1
    subst h1'
    cases h2 with
    | tup ht ha =>
      cases ha with
      | cons x t =>
        cases t with
        | cons y t =>
          cases t
          cases x
          cases y
          exact ⟨p, _, rfl, rfl, ht⟩
/-! ### the class -/
def pF (N : Int) (t : Addr) : List (Str × V) := [("around", .int N), ("deeds", .ref t)]
theorem pF_around (N : Int) (t : Addr) : (pF N t).lookup ("around" : Str) = some (V.int N) := lk_eq
theorem pF_deeds (N : Int) (t : Addr) : (pF N t).lookup ("deeds" : Str) = some (V.ref t) := (lk_ne (by decide +kernel)).trans lk_eq
theorem pF_no (N : Int) (t : Addr) {m : Str} (h1 : (m == ("around" : Str)) = false) (h2 : (m == ("deeds" : Str)) = false) : (pF N t).lookup m = none :=
  (lk_ne h1).trans ((lk_ne h2).trans lk_nil)
theorem flds2 (n d : V) : putF "deeds" d (putF "around" n []) = ([("around", n), ("deeds", d)] : List (Str × V)) := by
  rw [putF_nil, putF_ne (by decide +kernel), putF_nil]
def PlanAt (K : Fr1) (H : Hp) (v : V) (N : Int) (ds : Deeds) : Prop := ∃ a dx t, v = .ref a ∧ H a = some (.ins (He.ga K "Plan") dx (pF N t)) ∧ Dq K H (.ref t) (.tuple (deD ds)) ∧ GoodW ds
theorem PlanAt.mono {K : Fr1} {H H' : Hp} {v : V} {N : Int} {ds : Deeds} (e : Ex H H') (h : PlanAt K H v N ds) : PlanAt K H' v N ds := by
  obtain ⟨a, dx, t, h1, h2, h3, h4⟩ := h
  exact ⟨a, dx, t, h1, e _ _ h2, h3.mono e, h4⟩
theorem plan_meth {K : Fr1} {H : Hp} {v : V} {N : Int} {ds : Deeds} {m : Str} {P : Prop} (tu : PlanAt K H v N ds) (h1 : (m == ("around" : Str)) = false) (h2 : (m == ("deeds" : Str)) = false) (k : P) :
    ∃ a dx fs, v = .ref a ∧ H a = some (.ins (He.ga K "Plan") dx fs) ∧ fs.lookup m = none ∧ P := by
  obtain ⟨a, dx, t, e, ha, _⟩ := tu
  exact ⟨a, dx, _, e, ha, pF_no N t h1 h2, k⟩
/-! ### data without lists stays when a list is changed -/
mutual
def noL : PyData → Bool
  | .tuple l => noLA l
  | .list _ => false
  | .dict _ => false
  | _ => true
def noLA : List PyData → Bool
  | [] => true
  | d :: r => noL d && noLA r
end
mutual
theorem Dq.mutL {K : Fr1} {H : Hp} {l : Addr} {xs : List V} {o2 : HO} (hl : H l = some (.lst xs)) : ∀ {v : V} {d : PyData}, Dq K H v d → noL d = true → Dq K (upd H l o2) v d
  | _, _, .non, _ => .non
  | _, _, .bl b, _ => .bl b
  | _, _, .int i, _ => .int i
  | _, _, .str x, _ => .str x
  | _, _, .lst h a, n => by cases n
  | _, _, .tup h a, n => .tup (upd_keep hl h (fun _ z => by cases z)) (DqAll.mutL hl a n)
  | _, _, .dct h, n => by cases n
theorem DqAll.mutL {K : Fr1} {H : Hp} {l : Addr} {xs : List V} {o2 : HO} (hl : H l = some (.lst xs)) : ∀ {vs : List V} {ds : List PyData}, DqAll K H vs ds → noLA ds = true → DqAll K (upd H l o2) vs ds
  | _, _, .nil, _ => .nil
  | _, _, .cons h t, n => .cons (Dq.mutL hl h (Bool.and_eq_true_iff.mp n).1) (DqAll.mutL hl t (Bool.and_eq_true_iff.mp n).2)
end
theorem noL_deD : ∀ ds : Deeds, noLA (deD ds) = true
  | [] => rfl
  | p :: r => by
    show (noL (dD p) && noLA (deD r)) = true
    rw [noL_deD r]
    rfl
theorem noL_rD : ∀ ds : Rows, noLA (rD ds) = true
  | [] => rfl
  | p :: r => by
    show (noL (pD p) && noLA (rD r)) = true
    rw [noL_rD r]
    rfl
theorem PlanAt.mutL {K : Fr1} {H : Hp} {l : Addr} {xs : List V} {o2 : HO} {v : V} {N : Int} {ds : Deeds} (hl : H l = some (.lst xs)) (h : PlanAt K H v N ds) : PlanAt K (upd H l o2) v N ds := by
  obtain ⟨a, dx, t, rfl, ha, ht, hg⟩ := h
  exact ⟨a, dx, t, rfl, upd_keep hl ha (fun _ z => by cases z), ht.mutL hl (noL_deD ds), hg⟩
/-! ### equality of deeds -/
theorem eqvAll_deD : ∀ a b : Deeds, PyData.eqvAll (deD a) (deD b) = decide (a = b)
  | [], [] => rfl
  | [], _ :: _ => rfl
  | _ :: _, [] => rfl
  | a :: as, b :: bs => by
    have ih := eqvAll_deD as bs
    show (PyData.eqv (dD a) (dD b) && PyData.eqvAll (deD as) (deD bs)) = _
    rw [ih]
    have e : PyData.eqv (dD a) (dD b) = decide (a = b) := by
      obtain ⟨a1, a2⟩ := a
      obtain ⟨b1, b2⟩ := b
      show (PyData.eqv (.str a1) (.str b1) && (PyData.eqv (.int a2) (.int b2) && true)) = _
      simp only [PyData.eqv]
      by_cases h1 : a1 = b1 <;> by_cases h2 : a2 = b2 <;> simp [h1, h2]
    rw [e]
    by_cases h1 : a = b <;> by_cases h3 : as = bs <;> simp [h1, h3]
theorem noDict_deD : ∀ a : Deeds, noDictA (deD a) = true
  | [] => rfl
  | p :: r => by
    show (noDict (dD p) && noDictA (deD r)) = true
    rw [noDict_deD r]
    rfl
theorem isW_mem (w : Str) : isW (.str w) = decide (w ∈ (["push", "squeeze"] : List Str)) := by
  show (w == ("push" : Str) || w == ("squeeze" : Str)) = _
  by_cases h1 : w = "push"
  · subst h1; rfl
  · by_cases h2 : w = "squeeze"
    · subst h2; rfl
    · rw [beq_eq_false_iff_ne.mpr h1, beq_eq_false_iff_ne.mpr h2, decide_eq_false (by
        intro h
        rcases List.mem_cons.mp h with h | h
        · exact h1 h
        · rcases List.mem_cons.mp h with h | h
          · exact h2 h
          · cases h)]
      rfl
theorem isW_or {w : Str} (h : isW (.str w) = true) : w = "push" ∨ w = "squeeze" := by
  rw [isW_mem] at h
  have := of_decide_eq_true h
  simpa using this
theorem shaped_deD {a : Deeds} (g : GoodW a) : SeqAt.shaped (.tuple (deD a)) = true := by
  have h1 : ∀ a : Deeds, GoodW a → PyData.canLayAll0 (deD a) = true ∧ PyData.depthAll (deD a) ≤ 1 := by
    intro a
    induction a with
    | nil => exact fun _ => ⟨rfl, Nat.zero_le _⟩
    | cons p r ih =>
      intro g
      obtain ⟨i1, i2⟩ := ih fun q hq => g q (List.mem_cons_of_mem _ hq)
      refine ⟨?_, ?_⟩
      · show (PyData.canLay0 (.tuple [.str p.1, .int p.2]) && PyData.canLayAll0 (deD r)) = true
        rw [i1, Bool.and_true]
        obtain ⟨w, z⟩ := p
        rcases isW_or (g _ (List.mem_cons_self ..)) with e | e
        · cases e; show (PyData.canLay0 (.str "push") && _) = true; rw [show PyData.canLay0 (.str "push") = true by decide +kernel]; rfl
        · cases e; show (PyData.canLay0 (.str "squeeze") && _) = true; rw [show PyData.canLay0 (.str "squeeze") = true by decide +kernel]; rfl
      · show max (PyData.depth (.tuple [.str p.1, .int p.2])) (PyData.depthAll (deD r)) ≤ 1
        have e : PyData.depth (.tuple [.str p.1, .int p.2]) = 1 := rfl
        omega
  obtain ⟨c, d⟩ := h1 a g
  unfold SeqAt.shaped
  have c2 : PyData.canLay0 (.tuple (deD a)) = true := c
  have d2 : PyData.depth (.tuple (deD a)) ≤ 64 := by
    show PyData.depthAll (deD a) + 1 ≤ 64
    omega
  rw [c2, decide_eq_true d2]
  rfl
theorem w_eqDT {K : Fr1} {H : Hp} {Q : VK} {x y : V} {a b : Deeds} (hx : Dq K H x (.tuple (deD a))) (hy : Dq K H y (.tuple (deD b))) (ga : GoodW a) (gb : GoodW b) (k : Q (.bl (decide (a = b))) H) : rEqD K x y H Q := by
  refine ⟨_, _, hx.dp (by simpa [noDict] using noDict_deD a), hy.dp (by simpa [noDict] using noDict_deD b), shaped_deD ga, shaped_deD gb, ?_⟩
  have e : PyData.eqv (.tuple (deD a)) (.tuple (deD b)) = decide (a = b) := eqvAll_deD a b
  rw [e]
  exact k
theorem w_neDT {K : Fr1} {H : Hp} {Q : VK} {x y : V} {a b : Deeds} (hx : Dq K H x (.tuple (deD a))) (hy : Dq K H y (.tuple (deD b))) (ga : GoodW a) (gb : GoodW b) (k : Q (.bl (!decide (a = b))) H) : rNeD K x y H Q := by
  refine ⟨_, _, hx.dp (by simpa [noDict] using noDict_deD a), hy.dp (by simpa [noDict] using noDict_deD b), shaped_deD ga, shaped_deD gb, ?_⟩
  have e : PyData.eqv (.tuple (deD a)) (.tuple (deD b)) = decide (a = b) := eqvAll_deD a b
  rw [e]
  exact k
/-- membership of a text among texts -/
theorem w_inS {K : Fr1} {H : Hp} {Q : VK} {neg : Bool} {r : Str} {p : Addr} {ns : List Str} (h : SqL K H p (ns.map V.str) ∨ SqT K H p (ns.map V.str)) (k : Q (.bl (if neg then !decide (r ∈ ns) else decide (r ∈ ns))) H) : rIn K neg (.str r) (.ref p) H Q := by
  have e : inV (.str r) (ns.map V.str) = decide (r ∈ ns) := by
    clear k h
    induction ns with
    | nil => rfl
    | cons n ns ih =>
      have e2 : inV (.str r) ((n :: ns).map V.str) = (eqV (.str n) (.str r) || inV (.str r) (ns.map V.str)) := rfl
      rw [e2, ih]
      have e3 : eqV (.str n) (.str r) = decide (r = n) := by
        show (n == r) = decide (r = n)
        by_cases z : n = r
        · subst z
          rw [beq_self_eq_true, decide_eq_true rfl]
        · rw [beq_eq_false_iff_ne.mpr z, decide_eq_false (fun y => z y.symm)]
      rw [e3, ← Bool.decide_or]
      exact decide_eq_decide.mpr List.mem_cons.symm
  have f : (ns.map V.str).all flatV = true := by
    rw [List.all_eq_true]
    intro x hx
    obtain ⟨n, _, rfl⟩ := List.mem_map.mp hx
    rfl
  refine ⟨p, _, rfl, h, rfl, f, ?_⟩
  rw [e]
  exact k
theorem w_inSn {K : Fr1} {H : Hp} {Q : VK} {r : Str} {p : Addr} {ns : List Str} (h : SqL K H p (ns.map V.str) ∨ SqT K H p (ns.map V.str)) (k : Q (.bl (!decide (r ∈ ns))) H) : rIn K true (.str r) (.ref p) H Q := w_inS h (by rw [if_pos rfl]; exact k)
theorem w_inSp {K : Fr1} {H : Hp} {Q : VK} {r : Str} {p : Addr} {ns : List Str} (h : SqL K H p (ns.map V.str) ∨ SqT K H p (ns.map V.str)) (k : Q (.bl (decide (r ∈ ns))) H) : rIn K false (.str r) (.ref p) H Q := w_inS h (by rw [if_neg (by decide)]; exact k)

/-! ### rows that a law draws -/
/-- begins differ, and each rest is nearer than any other begin -/
structure Spread (N : Int) (l : Rows) : Prop where
  nd : (l.map (·.1)).Nodup
  far : ∀ p ∈ l, ∀ q ∈ l, p.1 ≠ q.1 → (p.2 - p.1) % N < (q.1 - p.1) % N
theorem srt_mem {l : Rows} {p : Int × Int} : p ∈ srt l ↔ p ∈ l := (srt_perm l).mem_iff
theorem srt_len (l : Rows) : (srt l).length = l.length := (srt_perm l).length_eq
theorem srt_asc {l : Rows} (nd : (l.map (·.1)).Nodup) : (srt l).Pairwise (fun p q => p.1 < q.1) := by
  have nd2 : ((srt l).map (·.1)).Nodup := ((srt_perm l).map _).nodup_iff.mpr nd
  have h1 : (srt l).Pairwise (fun p q => p.1 ≠ q.1) := List.pairwise_map.mp nd2
  exact (h1.and (srt_sorted l)).imp fun {p q} ⟨z1, z2⟩ => by
    rw [lexLe_iff] at z2
    omega
theorem good_srt {N : Int} {l : Rows} (hN : 2 ≤ N) (hN2 : N ≤ 360) (h1 : 1 ≤ l.length) (h2 : l.length ≤ 12) (rng : ∀ p ∈ l, 0 ≤ p.1 ∧ p.1 < N ∧ 0 ≤ p.2 ∧ p.2 < N) (S : Spread N l) : GoodT N (srt l) := by
  have asc := srt_asc S.nd
  refine ⟨hN, hN2, by rw [srt_len]; exact h1, by rw [srt_len]; exact h2, fun p hp => rng p (srt_mem.mp hp), asc, fun i p hp => ?_⟩
  have hpm : p ∈ l := srt_mem.mp (List.mem_of_getElem? hp)
  obtain ⟨hi, ep⟩ := List.getElem?_eq_some_iff.mp hp
  have rp := rng p hpm
  rw [List.pairwise_iff_getElem] at asc
  unfold behindOf
  cases hn : (srt l)[i + 1]? with
  | some q =>
    obtain ⟨hj, eq⟩ := List.getElem?_eq_some_iff.mp hn
    have lt := asc i (i + 1) hi hj (by omega)
    rw [ep, eq] at lt
    have hqm : q ∈ l := srt_mem.mp (List.mem_of_getElem? hn)
    have rq := rng q hqm
    have := S.far p hpm q hqm (by omega)
    rw [Int.emod_eq_of_lt (a := q.1 - p.1) (by omega) (by omega)] at this
    dsimp only
    omega
  | none =>
    have hj : (srt l).length ≤ i + 1 := List.getElem?_eq_none_iff.mp hn
    obtain ⟨p0, r0, hs⟩ : ∃ p0 r0, srt l = p0 :: r0 := by
      cases e : srt l with
      | nil => rw [e] at hi; simp at hi
      | cons a b => exact ⟨a, b, rfl⟩
    have h0 : (srt l)[0]? = some p0 := by rw [hs]; rfl
    obtain ⟨h0i, e0⟩ := List.getElem?_eq_some_iff.mp h0
    have hm0 : p0 ∈ l := srt_mem.mp (List.mem_of_getElem? h0)
    have r0' := rng p0 hm0
    have hhd : ((srt l).headD (0, 0)) = p0 := by rw [hs]; rfl
    dsimp only
    rw [hhd]
    by_cases e : i = 0
    · subst e
      rw [hp] at h0
      cases h0
      have := Int.emod_lt_of_pos (p.2 - p.1) (show 0 < N by omega)
      omega
    · have lt := asc 0 i h0i hi (by omega)
      rw [ep, e0] at lt
      have := S.far p hpm p0 hm0 (by omega)
      have e2 : (p0.1 - p.1) % N = p0.1 - p.1 + N := by
        rw [← Int.add_emod_right, Int.emod_eq_of_lt (by omega) (by omega)]
      omega
/-- the rows of one lifted pair -/
def lapsOf (N u : Int) (m : Nat) (g : Int × Int) : Rows := (List.range m).map fun (j : Nat) => ((g.1 + (j : Int) * u) % N, (g.2 + (j : Int) * u) % N)
def allLaps (N u : Int) (m : Nat) (gs : Rows) : Rows := gs.flatMap (lapsOf N u m)
theorem lapsOf_succ (N u : Int) (j : Nat) (g : Int × Int) : lapsOf N u (j + 1) g = lapsOf N u j g ++ [((g.1 + (j : Int) * u) % N, (g.2 + (j : Int) * u) % N)] := by
  unfold lapsOf
  rw [List.range_succ, List.map_append]
  rfl
theorem lapsOf_len (N u : Int) (j : Nat) (g : Int × Int) : (lapsOf N u j g).length = j := by
  unfold lapsOf
  rw [List.length_map, List.length_range]
theorem dqA_snoc {K : Fr1} {H : Hp} {v : V} {d : PyData} (h : Dq K H v d) : ∀ {xs : List V} {ds : List PyData}, DqAll K H xs ds → DqAll K H (xs ++ [v]) (ds ++ [d])
  | _, _, .nil => .cons h .nil
  | _, _, .cons z t => .cons z (dqA_snoc h t)
theorem del_upd {H : Hp} {R : Addr} {o : HO} : del (upd H R o) R = del H R := by
  funext b
  by_cases q : b = R
  · rw [q, del_same, del_same]
  · rw [del_ne q, del_ne q, upd_ne q]
theorem dqA_app {K : Fr1} {H H4 : Hp} {R : Addr} {o : HO} {ys : List V} {ds : List PyData} {v : V} {d : PyData} (hd : DqAll K (del H R) ys ds) (e : Ex H H4) (h : Dq K (del H4 R) v d) : DqAll K (del (upd H4 R o) R) (ys ++ [v]) (ds ++ [d]) := by
  rw [del_upd]
  exact dqA_snoc h (hd.mono (Evl.Ex.delD (ex_del.trans e) del_same))
theorem mem_allLaps {N u : Int} {m : Nat} {gs : Rows} {p : Int × Int} : p ∈ allLaps N u m gs ↔ ∃ g ∈ gs, ∃ j : Nat, j < m ∧ p = ((g.1 + j * u) % N, (g.2 + j * u) % N) := by
  unfold allLaps lapsOf
  simp only [List.mem_flatMap, List.mem_map, List.mem_range]
  constructor
  · rintro ⟨g, hg, j, hj, rfl⟩
    exact ⟨g, hg, j, hj, rfl⟩
  · rintro ⟨g, hg, j, hj, rfl⟩
    exact ⟨g, hg, j, hj, rfl⟩
theorem allLaps_len (N u : Int) (m : Nat) (gs : Rows) : (allLaps N u m gs).length = gs.length * m := by
  unfold allLaps
  induction gs with
  | nil => simp
  | cons g r ih =>
    rw [List.flatMap_cons, List.length_append, ih, List.length_cons, Nat.succ_mul, Nat.add_comm]
    unfold lapsOf
    simp
/-- lifted pairs within one unit from P on, one behind the other -/
structure Lifted (P u : Int) (gs : Rows) : Prop where
  rng : ∀ g ∈ gs, P ≤ g.1 ∧ g.1 ≤ g.2 ∧ g.2 < P + u
  asc : gs.Pairwise (fun g h => g.2 < h.1)
theorem Lifted.before {P u : Int} {gs : Rows} (L : Lifted P u gs) {g h : Int × Int} (hg : g ∈ gs) (hh : h ∈ gs) (c : g ≠ h) : g.2 < h.1 ∨ h.2 < g.1 := by
  obtain ⟨i, hi, ei⟩ := List.mem_iff_getElem.mp hg
  obtain ⟨j, hj, ej⟩ := List.mem_iff_getElem.mp hh
  have asc := L.asc
  rw [List.pairwise_iff_getElem] at asc
  rcases Nat.lt_trichotomy i j with z | z | z
  · have := asc i j hi hj z
    rw [ei, ej] at this
    exact .inl this
  · subst z
    exact absurd (ei.symm.trans ej) c
  · have := asc j i hj hi z
    rw [ei, ej] at this
    exact .inr this
theorem emod_unit {N u : Int} {m : Nat} (hm : N = u * m) (x : Int) : x % N % u = x % u := Int.emod_emod_of_dvd x ⟨m, hm⟩
/-- two lifted begins that are alike modulo the unit are one -/
theorem lifted_inj {P u : Int} {gs : Rows} (L : Lifted P u gs) (hu : 0 < u) {g h : Int × Int} (hg : g ∈ gs) (hh : h ∈ gs) (e : (g.1 - h.1) % u = 0) : g = h := by
  obtain ⟨a1, a2, a3⟩ := L.rng g hg
  obtain ⟨b1, b2, b3⟩ := L.rng h hh
  have e1 : g.1 = h.1 := by
    by_cases c : h.1 ≤ g.1
    · rw [Int.emod_eq_of_lt (by omega) (by omega)] at e
      omega
    · rw [← Int.add_emod_right, Int.emod_eq_of_lt (by omega) (by omega)] at e
      omega
  obtain ⟨i, hi, ei⟩ := List.mem_iff_getElem.mp hg
  obtain ⟨j, hj, ej⟩ := List.mem_iff_getElem.mp hh
  have asc := L.asc
  rw [List.pairwise_iff_getElem] at asc
  rcases Nat.lt_trichotomy i j with c | c | c
  · have := asc i j hi hj c
    rw [ei, ej] at this
    omega
  · subst c
    rw [← ei, ← ej]
  · have := asc j i hj hi c
    rw [ei, ej] at this
    omega
theorem laps_inj {N u : Int} {m : Nat} (hm : N = u * m) (hu : 0 < u) {i j : Nat} (hi : i < m) (hj : j < m) {x : Int} (e : (x + i * u) % N = (x + j * u) % N) : i = j := by
  have z := Int.emod_emod_of_dvd
  have d : N ∣ ((x + i * u) - (x + j * u)) := Int.dvd_of_emod_eq_zero (by rw [Int.sub_emod, e]; simp)
  have d2 : u * m ∣ u * ((i : Int) - j) := by
    rw [← hm]
    have : u * ((i : Int) - j) = (x + i * u) - (x + j * u) := by rw [Int.mul_sub, Int.mul_comm u i, Int.mul_comm u j]; omega
    rw [this]
    exact d
  have d3 : (m : Int) ∣ ((i : Int) - j) := Int.dvd_of_mul_dvd_mul_left (by omega) d2
  obtain ⟨c, hc⟩ := d3
  rcases Int.lt_trichotomy c 0 with h | h | h
  · have : (m : Int) * c ≤ m * (-1) := Int.mul_le_mul_of_nonneg_left (by omega) (by omega)
    omega
  · subst h
    omega
  · have : (m : Int) * 1 ≤ m * c := Int.mul_le_mul_of_nonneg_left (by omega) (by omega)
    omega
theorem spread_all {N P u : Int} {m : Nat} {gs : Rows} (hm : N = u * m) (hu : 0 < u) (L : Lifted P u gs) : Spread N (allLaps N u m gs) := by
  have hN : 0 ≤ N := by rw [hm]; exact Int.mul_nonneg (by omega) (by omega)
  have key : ∀ g ∈ gs, ∀ h ∈ gs, ∀ i j : Nat, i < m → j < m → (g.1 + i * u) % N = (h.1 + j * u) % N → g = h ∧ i = j := by
    intro g hg h hh i j hi hj e
    have e2 : (g.1 - h.1) % u = 0 := by
      have e3 : (g.1 + i * u) % u = (h.1 + j * u) % u := by rw [← emod_unit hm (g.1 + i * u), ← emod_unit hm (h.1 + j * u), e]
      rw [Int.add_mul_emod_self_right, Int.add_mul_emod_self_right] at e3
      rw [Int.sub_emod, e3]
      simp
    have e4 := lifted_inj L hu hg hh e2
    subst e4
    exact ⟨rfl, laps_inj hm hu hi hj e⟩
  refine ⟨?_, ?_⟩
  · rw [List.Nodup, List.pairwise_map]
    unfold allLaps
    rw [List.pairwise_flatMap]
    refine ⟨fun g hg => ?_, L.asc.imp_of_mem fun {g h} hg hh lt x hx y hy e => ?_⟩
    · unfold lapsOf
      rw [List.pairwise_map]
      refine List.pairwise_lt_range.imp_of_mem fun {i j} hi hj lt e => ?_
      have := (key g hg g hg i j (List.mem_range.mp hi) (List.mem_range.mp hj) e).2
      omega
    · unfold lapsOf at hx hy
      obtain ⟨i, hi, rfl⟩ := List.mem_map.mp hx
      obtain ⟨j, hj, rfl⟩ := List.mem_map.mp hy
      have := (key g hg h hh i j (List.mem_range.mp hi) (List.mem_range.mp hj) e).1
      subst this
      have := (L.rng g hg).2.1
      omega
  · intro p hp q hq hne
    obtain ⟨g, hg, i, hi, rfl⟩ := mem_allLaps.mp hp
    obtain ⟨h, hh, j, hj, rfl⟩ := mem_allLaps.mp hq
    obtain ⟨a1, a2, a3⟩ := L.rng g hg
    obtain ⟨b1, b2, b3⟩ := L.rng h hh
    have hm1 : 1 ≤ m := by omega
    have hNu : u ≤ N := by
      rw [hm]
      have : u * 1 ≤ u * (m : Int) := Int.mul_le_mul_of_nonneg_left (by omega) (by omega)
      omega
    have e1 : ((g.2 + i * u) % N - (g.1 + i * u) % N) % N = g.2 - g.1 := by
      rw [← Int.sub_emod, show g.2 + i * u - (g.1 + i * u) = g.2 - g.1 by omega]
      exact Int.emod_eq_of_lt (by omega) (by omega)
    have e2 : ((h.1 + j * u) % N - (g.1 + i * u) % N) % N = (h.1 + j * u - (g.1 + i * u)) % N := by rw [← Int.sub_emod]
    rw [e1, e2]
    have dpos := Int.emod_nonneg (h.1 + j * u - (g.1 + i * u)) (show N ≠ 0 by omega)
    have dmod : (h.1 + j * u - (g.1 + i * u)) % N % u = (h.1 - g.1) % u := by
      rw [emod_unit hm, show h.1 + j * u - (g.1 + i * u) = (h.1 - g.1) + ((j : Int) - i) * u by rw [Int.sub_mul]; omega]
      exact Int.add_mul_emod_self_right ..
    have dne : (h.1 + j * u - (g.1 + i * u)) % N ≠ 0 := by
      intro z
      apply hne
      have d := Int.dvd_of_emod_eq_zero z
      exact (Int.emod_eq_emod_iff_emod_sub_eq_zero.mpr z).symm
    generalize (h.1 + j * u - (g.1 + i * u)) % N = d at *
    by_cases c : g = h
    · subst c
      rw [Int.sub_self, Int.zero_emod] at dmod
      obtain ⟨k, hk⟩ := Int.dvd_of_emod_eq_zero dmod
      have hk1 : 1 ≤ k := by
        rcases Int.lt_trichotomy k 0 with z | z | z
        · have : u * k ≤ u * (-1) := Int.mul_le_mul_of_nonneg_left (by omega) (by omega)
          omega
        · subst z
          omega
        · omega
      have : u * 1 ≤ u * k := Int.mul_le_mul_of_nonneg_left hk1 (by omega)
      omega
    · have h3 := Int.emod_add_mul_ediv d u
      have h4 : 0 ≤ d / u := Int.ediv_nonneg dpos (by omega)
      have h5 : 0 ≤ u * (d / u) := Int.mul_nonneg (by omega) h4
      have h6 : g.2 - g.1 < (h.1 - g.1) % u := by
        rcases L.before hg hh c with z | z
        · rw [Int.emod_eq_of_lt (by omega) (by omega)]
          omega
        · rw [← Int.add_emod_right, Int.emod_eq_of_lt (by omega) (by omega)]
          omega
      omega
theorem wrap_lap {N u : Int} {m : Nat} (hm : N = u * m) (j c : Nat) (hj : j < m) (hc : c < m) : ∃ k : Nat, k < m ∧ ∀ x : Int, ((x + j * u) % N + c * u) % N = (x + k * u) % N := by
  have e : ∀ x : Int, ((x + j * u) % N + c * u) % N = (x + (j + c : Int) * u) % N := fun x => by
    rw [Int.emod_add_emod, Int.add_mul]
    congr 1
    omega
  by_cases h : j + c < m
  · refine ⟨j + c, h, fun x => ?_⟩
    rw [e x]
    norm_cast
  · refine ⟨j + c - m, by omega, fun x => ?_⟩
    rw [e x]
    have e2 : x + (j + c : Int) * u = (x + ((j + c - m : Nat) : Int) * u) + N := by
      have e3 : ((j + c - m : Nat) : Int) = (j + c : Int) - m := by omega
      rw [e3, hm, Int.sub_mul, Int.mul_comm u m]
      omega
    rw [e2, Int.add_emod_right]
theorem nodup_of_fst {l : Rows} (h : (l.map (·.1)).Nodup) : l.Nodup := (List.pairwise_map.mp h).imp fun {a b} z e => z (by rw [e])
/-- drawn rows are the same when they are turned by a multiple of their unit -/
theorem turn_unit {N P u : Int} {m : Nat} {gs : Rows} (hm : N = u * m) (hu : 0 < u) (hm1 : 0 < m) (L : Lifted P u gs) (c : Nat) (hc : c < m) : turnR N (c * u) (srt (allLaps N u m gs)) = srt (allLaps N u m gs) := by
  have hN : 0 < N := by rw [hm]; exact Int.mul_pos hu (by omega)
  have S := spread_all hm hu L
  have rng : ∀ p ∈ allLaps N u m gs, 0 ≤ p.1 ∧ p.1 < N ∧ 0 ≤ p.2 ∧ p.2 < N := fun p hp => by
    obtain ⟨g, hg, j, hj, rfl⟩ := mem_allLaps.mp hp
    exact ⟨Int.emod_nonneg _ (by omega), Int.emod_lt_of_pos _ hN, Int.emod_nonneg _ (by omega), Int.emod_lt_of_pos _ hN⟩
  have maps : ∀ c : Nat, c < m → ∀ p ∈ allLaps N u m gs, ((p.1 + c * u) % N, (p.2 + c * u) % N) ∈ allLaps N u m gs := fun c hc p hp => by
    obtain ⟨g, hg, j, hj, rfl⟩ := mem_allLaps.mp hp
    obtain ⟨k, hk, e⟩ := wrap_lap hm j c hj hc
    refine mem_allLaps.mpr ⟨g, hg, k, hk, ?_⟩
    rw [e g.1, e g.2]
  have nd := nodup_of_fst S.nd
  have inj : ∀ p ∈ allLaps N u m gs, ∀ q ∈ allLaps N u m gs, (p.1 + c * u) % N = (q.1 + c * u) % N → p = q := fun p hp q hq e => by
    have e1 : (p.1 - q.1) % N = 0 := by
      have := Int.emod_eq_emod_iff_emod_sub_eq_zero.mp e
      rw [show p.1 + c * u - (q.1 + c * u) = p.1 - q.1 by omega] at this
      exact this
    obtain ⟨a1, a2, _⟩ := rng p hp
    obtain ⟨b1, b2, _⟩ := rng q hq
    have e2 : p.1 = q.1 := by
      by_cases z : q.1 ≤ p.1
      · rw [Int.emod_eq_of_lt (by omega) (by omega)] at e1
        omega
      · rw [← Int.add_emod_right, Int.emod_eq_of_lt (by omega) (by omega)] at e1
        omega
    obtain ⟨i, hi, ei⟩ := List.mem_iff_getElem.mp hp
    obtain ⟨j, hj, ej⟩ := List.mem_iff_getElem.mp hq
    have nd1 := List.pairwise_map.mp S.nd
    rw [List.pairwise_iff_getElem] at nd1
    rcases Nat.lt_trichotomy i j with z | z | z
    · exact absurd (by rw [ei, ej]; exact e2) (nd1 i j hi hj z)
    · subst z
      exact ei.symm.trans ej
    · exact absurd (by rw [ei, ej]; exact e2.symm) (nd1 j i hj hi z)
  have pm : ((srt (allLaps N u m gs)).map fun p => ((p.1 + c * u) % N, (p.2 + c * u) % N)).Perm (allLaps N u m gs) := by
    refine ((srt_perm _).map _).trans ?_
    refine (List.perm_ext_iff_of_nodup ?_ nd).mpr fun p => ⟨fun hp => ?_, fun hp => ?_⟩
    · rw [List.Nodup, List.pairwise_map]
      refine nd.imp_of_mem fun {a b} ha hb ne e => ne (inj a ha b hb ?_)
      exact (Prod.mk.inj e).1
    · obtain ⟨q, hq, rfl⟩ := List.mem_map.mp hp
      exact maps c hc q hq
    · by_cases z : c = 0
      · refine List.mem_map.mpr ⟨p, hp, ?_⟩
        obtain ⟨a1, a2, a3, a4⟩ := rng p hp
        subst z
        simp only [Int.natCast_zero, Int.zero_mul, Int.add_zero]
        rw [Int.emod_eq_of_lt a1 a2, Int.emod_eq_of_lt a3 a4]
      · refine List.mem_map.mpr ⟨_, maps (m - c) (by omega) p hp, ?_⟩
        obtain ⟨a1, a2, a3, a4⟩ := rng p hp
        have e : ∀ x : Int, 0 ≤ x → x < N → ((x + (m - c : Nat) * u) % N + c * u) % N = x := fun x h1 h2 => by
          rw [Int.emod_add_emod]
          have e3 : ((m - c : Nat) : Int) = (m : Int) - c := by omega
          have e4 : x + ((m - c : Nat) : Int) * u + c * u = x + N := by
            rw [e3, hm, Int.sub_mul, Int.mul_comm u m]
            omega
          rw [e4, Int.add_emod_right, Int.emod_eq_of_lt h1 h2]
        dsimp only
        rw [e _ a1 a2, e _ a3 a4]
  unfold turnR
  exact srt_uniq ((srt_perm _).trans pm) (srt_sorted _)

section
variable {P : Program} {w : World} {K : Fr1} {mg : Str → Option Value} {base : Heap}
def sp_law_stateC (K : Fr1) : Sp := fun vs H Q _ => ∃ (a : Addr) (ns : List Int), vs = [.ref a] ∧ SqL K H a (ns.map V.int) ∧
  ∀ L s, H L = none → (upd H L (.lst (ns.map V.int))) s = none → Q (.ref s) (upd (upd H L (.lst (ns.map V.int))) s (.lst (drL L 0 0 0 0 0)))
theorem ok_law_stateC (T : Txt K mg) : FnOk P w K mg base (L2.CX P w) 1 (a_law_state K) (d_law_state K) P_law_state (sp_law_stateC K) := by
  refine T.F_law_state.ok sc_law_state (fun vs H Q E h => ?_) (fun cdv A outer s H vs Q E hr h => ?_)
  · obtain ⟨_, _, rfl, _⟩ := h
    rfl
  · obtain ⟨a, ns, rfl, hS, k⟩ := h
    refine ⟨_, (pss_one (ps_ret (pe_lst (pa_cons (pe_callTy call_list_of (by rfl) T.n_list (by decide +kernel) (pa_cons (pv 0) pa_nil)) (pa_cons pe_int (pa_cons pe_int (pa_cons pe_int (pa_cons pe_int (pa_cons pe_int pa_nil))))))))), ?_⟩
    rw [show L2.start N_law_state [V.ref a] = [some (V.ref a)] from rfl]
    try dsimp only [cxOf]
    walk_at "js"
    intro L hL
    walk_at "js"
    exact ⟨by show 6 ≤ sizeLine; decide, fun s hs => k L s hL hs⟩
def sp_law_state (K : Fr1) : Sp := fun vs H Q _ => ∃ (a : Addr) (ns : List Int), vs = [.ref a] ∧ SqL K H a (ns.map V.int) ∧
  ∀ L s H', Ex H H' → H' s = some (StO s L) → H' L = some (.lst (ns.map V.int)) → Q (.ref s) H'
theorem ok_law_state (T : Txt K mg) : FnOk P w K mg base (L2.CX P w) 1 (a_law_state K) (d_law_state K) P_law_state (sp_law_state K) := by
  refine ⟨fun vs H Q E h => ?_, fun A outer s H args us vs Q E hr he hb hv h => ?_⟩
  · obtain ⟨_, _, rfl, _⟩ := h
    rfl
  · obtain ⟨a, ns, rfl, hS, k⟩ := h
    refine codeAny_mono ((ok_law_stateC (base := base) (P := P) (w := w) T).run A outer s H args us _ (fun v H2 => ∃ L q, H L = none ∧ (upd H L (.lst (ns.map V.int))) q = none ∧ v = .ref q ∧ H2 = upd (upd H L (.lst (ns.map V.int))) q (.lst (drL L 0 0 0 0 0))) (fun _ _ _ => False) hr he hb hv
      ⟨a, ns, rfl, hS, fun L q h1 h2 => ⟨L, q, h1, h2, rfl, rfl⟩⟩) fun r s' hq => ?_
    cases r with
    | error x =>
      obtain ⟨_, _, _, _, _, _, _, _, _, _, _, _, z⟩ := hq
      exact z.elim
    | ok f =>
      cases f with
      | next => exact hq.elim
      | brk => exact hq.elim
      | cont => exact hq.elim
      | ret u =>
        obtain ⟨v, H2, os, bare, un, hok, rv, L, q, h1, h2, rfl, rfl⟩ := hq
        have cl := st_close (s := q) (L := L) hok upd_same (Int.le_refl 0)
        rw [upd_upd] at cl
        have x1 : Ex H (upd H L (.lst (ns.map V.int))) := Ex.new h1
        have x2 : Ex H (upd (upd H L (.lst (ns.map V.int))) q (StO q L)) := Ex.trans x1 (Ex.new h2)
        have nq : ∀ {y : Addr} {o : Obj}, s.heap.get? y = some o → H y = none → y ≠ q := fun {y o} g n z => by
          have := un.free y o g n (by simp)
          rw [z, upd_same] at this
          cases this
        have q1 : ∀ y, y ≠ q → upd (upd H L (.lst (ns.map V.int))) q (.lst (drL L 0 0 0 0 0)) y = upd (upd H L (.lst (ns.map V.int))) q (StO q L) y := fun y hy => by rw [upd_ne hy, upd_ne hy]
        refine ⟨.ref q, _, os, bare, ⟨un.keep, un.slot, fun y o g n f => by rw [← q1 y (nq g n)]; exact un.free y o g n f, un.there, fun y xs g => x2 y _ g, fun y o z g => x2 y _ g, fun y ps g => ⟨#[], by rw [x2 y _ g]; simp⟩⟩, cl, rv, k L q _ x2 upd_same ?_⟩
        rw [upd_ne (ne_of_none upd_same h2), upd_same]

def sp_law_drawC : Sp := fun vs H Q _ => ∃ (s L : Addr) (ns : List Int) (a b c d e m : Int), vs = [.ref s, .int m] ∧ H s = some (.lst (drL L a b c d e)) ∧ H L = some (.lst (ns.map V.int)) ∧ L ≠ s ∧ 0 ≤ a ∧ 0 < m ∧ m ≤ 100000000000000000000 ∧
  ∀ r a' b' c' d' e', 0 ≤ r → r < m → 0 ≤ a' → Q (.int r) (upd H s (.lst (drL L a' b' c' d' e')))
theorem ok_law_drawC (T : Txt K mg) : FnOk P w K mg base (L2.CX P w) 1 (a_law_draw K) (d_law_draw K) P_law_draw sp_law_drawC := by
  refine T.F_law_draw.ok sc_law_draw (fun vs H Q E h => ?_) (fun cdv A outer s H vs Q E hr h => ?_)
  · obtain ⟨_, _, _, _, _, _, _, _, _, rfl, _⟩ := h
    rfl
  · obtain ⟨s, L, ns, a, b, c, d, e, m, rfl, hs, hL, hne, ha, hm, hm2, k⟩ := h
    refine ⟨_, (Evl.pss_cut (ps_if (PW.pt (pw_and (pt_cmpR op_gt (pe_ix ix_list (pv 0) pe_int (fun _ _ => rfl)) pe_int (nomark _)) (pw_and1 (pt_cmpR op_lt (pe_ix ix_list (pv 0) pe_int (fun _ _ => rfl)) pe_int (nomark _))))) (pss_cons (ps_set (i := 2) sc_law_draw.nd rfl (.inl rfl) (pe_op op_modN (pe_callTy call_int1 (by rfl) T.n_int (by decide +kernel) (pa_cons (pe_ix ix_list (pv 0) pe_int (fun _ _ => rfl)) pa_nil)) (pv 1)))
    (pss_cons (ps_asg (pe_op op_fdivW (pe_ix ix_list (pv 0) pe_int (fun _ _ => rfl)) (pv 1)) (pg_sub (pv 0) pe_int set_list))
    (pss_cons (ps_asg (pe_op op_add (pe_ix ix_list (pv 0) pe_int (fun _ _ => rfl)) pe_int) (pg_sub (pv 0) pe_int set_list))
    (pss_one (ps_ret (pv 2)))))) pss_nil)
    (pss_cons (ps_asg (pe_op op_add (pe_ix ix_list (pv 0) pe_int (fun _ _ => rfl)) pe_int) (pg_sub (pv 0) pe_int set_list))
    (Evl.pss_cut (ps_if (pt_cmpR op_lt (pe_ix ix_list (pv 0) pe_int (fun _ _ => rfl)) (pe_callB call_len_seq (by rfl) T.n_len (by decide +kernel) (pa_cons (pe_ix ix_list (pv 0) pe_int (fun _ _ => rfl)) pa_nil)) (nomark _)) (pss_cons (ps_set (i := 3) sc_law_draw.nd rfl (.inl rfl) (pe_ix ix_list (pe_ix ix_list (pv 0) pe_int (fun _ _ => rfl)) (pe_ix ix_list (pv 0) pe_int (fun _ _ => rfl)) (fun _ _ => rfl)))
    (pss_cons (ps_asg (pe_op op_add (pe_ix ix_list (pv 0) pe_int (fun _ _ => rfl)) pe_int) (pg_sub (pv 0) pe_int set_list))
    (pss_cons (ps_asg (pe_op op_modN (pe_op op_add (pe_op op_mul (pe_ix ix_list (pv 0) pe_int (fun _ _ => rfl)) pe_int) (pe_callTy call_int1 (by rfl) T.n_int (by decide +kernel) (pa_cons (pv 3) pa_nil))) (pe_op op_pow pe_int pe_int)) (pg_sub (pv 0) pe_int set_list))
    (pss_one (ps_if (pt_cmpR op_ge (pv 3) (pe_op op_pow pe_int pe_int) (nomark _)) (pss_cons (ps_asg (pe_op op_fdivW (pv 3) (pv 1)) (pg_sub (pv 0) pe_int set_list))
    (pss_cons (ps_asg pe_int (pg_sub (pv 0) pe_int set_list))
    (pss_one (ps_ret (pe_op op_modN (pe_callTy call_int1 (by rfl) T.n_int (by decide +kernel) (pa_cons (pv 3) pa_nil)) (pv 1)))))) pss_nil))))) pss_nil)
    (pss_cons (ps_set (i := 4) sc_law_draw.nd rfl (.inl rfl) (pe_op op_modN (pe_op op_mul (pe_op op_add (pe_op op_add (pe_op op_mul (pe_callTy call_int1 (by rfl) T.n_int (by decide +kernel) (pa_cons (pe_ix ix_list (pv 0) pe_int (fun _ _ => rfl)) pa_nil)) pe_int) (pe_op op_mul pe_int (pe_ix ix_list (pv 0) pe_int (fun _ _ => rfl)))) pe_int) pe_int) pe_int))
    (pss_cons (ps_set (i := 4) sc_law_draw.nd rfl (.inl rfl) (pe_op op_modN (pe_op op_mul (pv 4) (pe_op op_add (pe_op op_fdivN (pv 4) pe_int) pe_int)) pe_int))
    (pss_cons (ps_set (i := 4) sc_law_draw.nd rfl (.inl rfl) (pe_op op_modN (pe_op op_mul (pv 4) (pe_op op_add (pe_op op_fdivN (pv 4) pe_int) pe_int)) pe_int))
    (pss_one (ps_ret (pe_op op_modN (pv 4) (pv 1)))))))))), ?_⟩
    rw [show L2.start N_law_draw [V.ref s, V.int m] = [some (V.ref s), some (V.int m), none, none, none] from rfl]
    try dsimp only [cxOf]
    have m0 : m ≠ 0 := by omega
    have last : ∀ (z a' b' c' d' e' : Int), 0 ≤ a' → Q (.int (z.fmod m)) (upd H s (.lst (drL L a' b' c' d' e'))) := fun z a' b' c' d' e' h1 =>
      k _ _ _ _ _ _ (fmod_in hm).1 (fmod_in hm).2 h1
    have e0 : upd H s (.lst (drL L a b c d e)) = H := by
      funext q
      by_cases hq : q = s
      · rw [hq, upd_same, hs]
      · rw [upd_ne hq]
    refine Evl.q_cut (M := fun σ' H' => σ' = [some (V.ref s), some (V.int m), none, none, none] ∧ H' = H) ?_ ?_
    · walk_at "js"
      refine w_if (fun c1 => ?_) (fun c1 => ?_)
      · walk_at "js"
        refine w_if (fun c2 => ?_) (fun c2 => ?_)
        · walk_at "js"
          exact last _ _ _ _ _ _ ha
        · walk_at "js"
          exact ⟨rfl, rfl⟩
      · walk_at "js"
        exact ⟨rfl, rfl⟩
    · rintro _ H ⟨rfl, rfl⟩
      walk_at "js"
      refine Evl.q_cut (M := fun σ' H' => ∃ a' b' c' d' e' v, 0 ≤ a' ∧ σ' = [some (V.ref s), some (V.int m), none, v, none] ∧ H' = upd H s (.lst (drL L a' b' c' d' e'))) ?_ ?_
      · walk_at "js"
        refine w_if (fun c1 => ?_) (fun c1 => ?_)
        · walk_at "js"
          have c3 : a < (ns.length : Int) := by simpa using c1
          obtain ⟨z, hz⟩ := atI_int ha c3
          refine w_ixL (SqL.of (by rw [upd_ne hne]; exact hL)) hz ?_
          walk_at "js"
          refine w_if (fun c4 => ?_) (fun c4 => ?_)
          · walk_at "js"
            exact last _ _ _ _ _ _ (by omega)
          · walk_at "js"
            exact ⟨_, _, _, _, _, _, by omega, rfl, rfl⟩
        · walk_at "js"
          exact ⟨_, _, _, _, _, _, ha, rfl, rfl⟩
      · rintro _ _ ⟨a', b', c', d', e', v, h1, rfl, rfl⟩
        walk_at "js"
        have r1 := fmod_in (a := (e' * 1000003 + 7919 * d' + 1) * 48271) (b := 2147483647) (by decide)
        generalize ((e' * 1000003 + 7919 * d' + 1) * 48271).fmod 2147483647 = z at *
        walk_at "js"
        have r2 := fmod_in (a := z * (z.fdiv 1009 + 69621)) (b := 2147483647) (by decide)
        generalize (z * (z.fdiv 1009 + 69621)).fmod 2147483647 = z2 at *
        walk_at "js"
        exact last _ _ _ _ _ _ h1

def sp_law_draw : Sp := fun vs H Q _ => ∃ (s L : Addr) (ns : List Int) (m : Int), vs = [.ref s, .int m] ∧ H s = some (StO s L) ∧ H L = some (.lst (ns.map V.int)) ∧ 0 < m ∧ m ≤ 100000000000000000000 ∧
  ∀ r, 0 ≤ r → r < m → Q (.int r) H
theorem ok_law_draw (T : Txt K mg) : FnOk P w K mg base (L2.CX P w) 1 (a_law_draw K) (d_law_draw K) P_law_draw sp_law_draw := by
  refine ⟨fun vs H Q E h => ?_, fun A outer s H args us vs Q E hr he hb hv h => ?_⟩
  · obtain ⟨_, _, _, _, rfl, _⟩ := h
    rfl
  · obtain ⟨q, L, ns, m, rfl, hs, hL, hm, hm2, k⟩ := h
    obtain ⟨a, b, c, d, e, h0, ok1⟩ := st_open he.hok hs
    have hne : L ≠ q := ne_of hL hs (by intro z; cases z)
    have nq : ∀ {y : Addr}, H y = none → y ≠ q := fun {y} z y' => by rw [y', hs] at z; cases z
    have he1 : Env0 P w K mg base A outer s (upd H q (.lst (drL L a b c d e))) :=
      ⟨he.frames, he.mod, fun y o z => ⟨(he.bs y o z).1, by rw [upd_ne (nq (he.bs y o z).2)]; exact (he.bs y o z).2⟩, he.bsz, he.funs, fun y hy => by rw [upd_ne (nq (he.frf y hy))]; exact he.frf y hy, ok1, he.bare⟩
    refine codeAny_mono ((ok_law_drawC (base := base) (P := P) (w := w) T).run A outer s _ args us _ (fun v H2 => ∃ r a' b' c' d' e', v = .int r ∧ 0 ≤ r ∧ r < m ∧ 0 ≤ a' ∧ H2 = upd H q (.lst (drL L a' b' c' d' e'))) (fun _ _ _ => False) hr he1 hb hv
      ⟨q, L, ns, a, b, c, d, e, m, rfl, upd_same, by rw [upd_ne hne]; exact hL, hne, h0, hm, hm2, fun r a' b' c' d' e' z1 z2 z3 => ⟨r, a', b', c', d', e', rfl, z1, z2, z3, by rw [upd_upd]⟩⟩) fun r s' hq => ?_
    cases r with
    | error x =>
      obtain ⟨_, _, _, _, _, _, _, _, _, _, _, _, z⟩ := hq
      exact z.elim
    | ok f =>
      cases f with
      | next => exact hq.elim
      | brk => exact hq.elim
      | cont => exact hq.elim
      | ret u =>
        obtain ⟨v, H2, os, bare, un, hok, rv, r, a', b', c', d', e', rfl, z1, z2, z3, rfl⟩ := hq
        have cl := st_close (s := q) (L := L) hok upd_same z3
        rw [upd_upd] at cl
        have eH : upd H q (StO q L) = H := by
          funext y
          by_cases hy : y = q
          · rw [hy, upd_same, hs]
          · rw [upd_ne hy]
        rw [eH] at cl
        refine ⟨.int r, H, os, bare, ⟨fun y o g n f1 f2 => un.keep y o g (by rw [upd_ne (nq n)]; exact n) f1 f2, fun y o g n f1 f2 => un.slot y o g (by rw [upd_ne (nq n)]; exact n) f1 f2,
          fun y o g n f => n, un.there, fun y xs g => g, fun y o z g => g, fun y ps g => ⟨#[], by rw [g]; simp⟩⟩, cl, rv, k r z1 z2⟩

def sp_law_around : Sp := fun vs H Q _ => ∃ (s L : Addr) (ns : List Int) (n : Int), vs = [.ref s, .int n] ∧ H s = some (StO s L) ∧ H L = some (.lst (ns.map V.int)) ∧ 24 ≤ n ∧ n ≤ 360 ∧
  ∀ r : Int, 2 ≤ r → r ≤ n → Q (.int r) H
theorem ok_law_around (T : Txt K mg) : FnOk P w K mg base (L2.CX P w) 3 (a_law_around K) (d_law_around K) P_law_around sp_law_around := by
  refine T.F_law_around.ok sc_law_around (fun vs H Q E h => ?_) (fun cdv A outer s H vs Q E hr h => ?_)
  · obtain ⟨_, _, _, _, rfl, _⟩ := h
    rfl
  · obtain ⟨s, L, ns, n, rfl, hs, hL, hn, hn2, k⟩ := h
    refine ⟨_, (pss_cons (ps_set (i := 2) sc_law_around.nd rfl (.inl rfl) (pe_call (ok_law_draw T) (hr.mono (by decide)) (by rfl) T.m__law_draw T.F_law_draw.kp (b_law_draw T) .nil passL (pa_cons (pv 0) (pa_cons pe_int pa_nil))))
    (pss_cons (ps_if (pt_cmpR op_eq (pv 2) pe_int (nomark _)) (pss_one (ps_ret (pe_op op_add pe_int (pe_call (ok_law_draw T) (hr.mono (by decide)) (by rfl) T.m__law_draw T.F_law_draw.kp (b_law_draw T) .nil passL (pa_cons (pv 0) (pa_cons (pe_op op_sub (pv 1) pe_int) pa_nil)))))) pss_nil)
    (pss_cons (ps_if (pt_cmpR op_eq (pv 2) pe_int (nomark _)) (pss_one (ps_ret (pe_op op_add pe_int (pe_op op_mul pe_int (pe_call (ok_law_draw T) (hr.mono (by decide)) (by rfl) T.m__law_draw T.F_law_draw.kp (b_law_draw T) .nil passL (pa_cons (pv 0) (pa_cons (pe_op op_fdiv (pv 1) pe_int) pa_nil))))))) pss_nil)
    (pss_one (ps_ret (pe_op op_add pe_int (pe_call (ok_law_draw T) (hr.mono (by decide)) (by rfl) T.m__law_draw T.F_law_draw.kp (b_law_draw T) .nil passL (pa_cons (pv 0) (pa_cons pe_int pa_nil))))))))), ?_⟩
    rw [show L2.start N_law_around [V.ref s, V.int n] = [some (V.ref s), some (V.int n), none] from rfl]
    try dsimp only [cxOf]
    walk_at "js"
    refine ⟨s, L, ns, _, rfl, hs, hL, by omega, by omega, fun r h0 h1 => ?_⟩
    walk_at "js"
    refine w_if (fun c => ?_) (fun c => ?_)
    · walk_at "js"
      refine ⟨s, L, ns, _, rfl, hs, hL, by omega, by omega, fun r2 h2 h3 => ?_⟩
      walk_at "js"
      exact k _ (by omega) (by omega)
    · walk_at "js"
      refine w_if (fun c => ?_) (fun c => ?_)
      · walk_at "js"
        refine ⟨s, L, ns, _, rfl, hs, hL, by omega, by omega, fun r2 h2 h3 => ?_⟩
        walk_at "js"
        exact k _ (by omega) (by omega)
      · walk_at "js"
        refine ⟨s, L, ns, _, rfl, hs, hL, by omega, by omega, fun r2 h2 h3 => ?_⟩
        walk_at "js"
        exact k _ (by omega) (by omega)

def sp_law_large : Sp := fun vs H Q _ => ∃ (s L : Addr) (ns : List Int) (n : Int), vs = [.ref s, .int n] ∧ H s = some (StO s L) ∧ H L = some (.lst (ns.map V.int)) ∧ 0 < n ∧ n ≤ 1000 ∧
  ∀ r : Int, r.natAbs < 2 ^ 110 → Q (.int r) H
theorem ok_law_large (T : Txt K mg) : FnOk P w K mg base (L2.CX P w) 3 (a_law_large K) (d_law_large K) P_law_large sp_law_large := by
  refine T.F_law_large.ok sc_law_large (fun vs H Q E h => ?_) (fun cdv A outer s H vs Q E hr h => ?_)
  · obtain ⟨_, _, _, _, rfl, _⟩ := h
    rfl
  · obtain ⟨s, L, ns, n, rfl, hs, hL, hn, hn2, k⟩ := h
    refine ⟨_, (pss_cons (ps_set (i := 2) sc_law_large.nd rfl (.inl rfl) (pe_call (ok_law_draw T) (hr.mono (by decide)) (by rfl) T.m__law_draw T.F_law_draw.kp (b_law_draw T) .nil passL (pa_cons (pv 0) (pa_cons (pe_op op_mul pe_int (pv 1)) pa_nil))))
    (Evl.pss_cut (ps_if (pt_cmpR op_eq (pe_call (ok_law_draw T) (hr.mono (by decide)) (by rfl) T.m__law_draw T.F_law_draw.kp (b_law_draw T) .nil passL (pa_cons (pv 0) (pa_cons pe_int pa_nil))) pe_int (nomark _)) (pss_one (ps_set (i := 2) sc_law_large.nd rfl (.inl rfl) (pe_op op_add (pe_op op_add (pv 2) (pe_op op_mul (pe_call (ok_law_draw T) (hr.mono (by decide)) (by rfl) T.m__law_draw T.F_law_draw.kp (b_law_draw T) .nil passL (pa_cons (pv 0) (pa_cons (pe_op op_pow pe_int pe_int) pa_nil))) (pe_op op_pow pe_int pe_int))) (pe_call (ok_law_draw T) (hr.mono (by decide)) (by rfl) T.m__law_draw T.F_law_draw.kp (b_law_draw T) .nil passL (pa_cons (pv 0) (pa_cons (pe_op op_pow pe_int pe_int) pa_nil)))))) pss_nil)
    (pss_cons (ps_if (pt_cmpR op_eq (pe_call (ok_law_draw T) (hr.mono (by decide)) (by rfl) T.m__law_draw T.F_law_draw.kp (b_law_draw T) .nil passL (pa_cons (pv 0) (pa_cons pe_int pa_nil))) pe_int (nomark _)) (pss_one (ps_ret (pe_un un_neg (pv 2)))) pss_nil)
    (pss_one (ps_ret (pv 2)))))), ?_⟩
    rw [show L2.start N_law_large [V.ref s, V.int n] = [some (V.ref s), some (V.int n), none] from rfl]
    try dsimp only [cxOf]
    walk_at "js"
    refine ⟨s, L, ns, _, rfl, hs, hL, by omega, by omega, fun r h0 h1 => ?_⟩
    walk_at "js"
    refine Evl.q_cut (M := fun σ' H' => ∃ r : Int, 0 ≤ r ∧ r < 2 ^ 109 ∧ σ' = [some (V.ref s), some (V.int n), some (V.int r)] ∧ H' = H) ?_ ?_
    · walk_at "js"
      refine ⟨s, L, ns, _, rfl, hs, hL, by omega, by omega, fun r2 h2 h3 => ?_⟩
      walk_at "js"
      refine w_if (fun c => ?_) (fun c => ?_)
      · walk_at "js"
        refine ⟨s, L, ns, _, rfl, hs, hL, by omega, by omega, fun r4 h4 h5 => ?_⟩
        walk_at "js"
        refine ⟨s, L, ns, _, rfl, hs, hL, by omega, by omega, fun r6 h6 h7 => ?_⟩
        walk_at "js"
        refine ⟨_, ?_, ?_, rfl, rfl⟩
        · simp at *
          omega
        · simp at *
          omega
      · walk_at "js"
        refine ⟨_, h0, by omega, rfl, rfl⟩
    · rintro _ _ ⟨r, h0, h1, rfl, rfl⟩
      walk_at "js"
      refine ⟨s, L, ns, _, rfl, hs, hL, by omega, by omega, fun r2 h2 h3 => ?_⟩
      walk_at "js"
      refine w_if (fun c => ?_) (fun c => ?_)
      · walk_at "js"
        exact k _ (by omega)
      · walk_at "js"
        exact k _ (by omega)

/-- a row of at most 13 items, or no row -/
def lenLe (d : PyData) : Prop := ∀ l, rowsOf d = some l → l.length ≤ 13
theorem lenLe_l {ds : List PyData} (h : ds.length ≤ 13) : lenLe (.list ds) := fun l e => by cases e; exact h
theorem lenLe_t {ds : List PyData} (h : ds.length ≤ 13) : lenLe (.tuple ds) := fun l e => by cases e; exact h
theorem lenLe_o {d : PyData} (h : rowsOf d = none) : lenLe d := fun l e => by rw [h] at e; cases e
/-- of the texts, three -/
def fewW (d : PyData) : Prop := ∀ z, d = .str z → z = ("" : Str) ∨ z = ("push" : Str) ∨ z = ("12" : Str)
def Odd (K : Fr1) (H : Hp) (v : V) : Prop := SameV K H v ∧ ∃ d, Dq K H v d ∧ isI d = false ∧ lenLe d ∧ fewW d
theorem SameV.mono {K : Fr1} {H H' : Hp} {v : V} (e : Ex H H') : SameV K H v → SameV K H' v
  | .inl h => .inl h
  | .inr (.inl ⟨a, xs, h1, h2⟩) => .inr (.inl ⟨a, xs, h1, h2.imp (fun h => e _ _ h) (fun h => e _ _ h)⟩)
  | .inr (.inr ⟨a, kvs, h1, h2, h3⟩) => .inr (.inr ⟨a, kvs, h1, e _ _ h2, h3⟩)
theorem Odd.mono {K : Fr1} {H H' : Hp} {v : V} (e : Ex H H') : Odd K H v → Odd K H' v
  | ⟨h1, d, h2, h3, h4⟩ => ⟨h1.mono e, d, h2.mono e, h3, h4⟩
theorem odd_l {K : Fr1} {H : Hp} {a : Addr} {xs : List V} {ds : List PyData} (h : H a = some (.lst xs)) (hd : DqAll K H xs ds) (hl : ds.length ≤ 13 := by decide) : Odd K H (.ref a) := ⟨.inr (.inl ⟨a, xs, rfl, .inl h⟩), _, .lst h hd, rfl, lenLe_l hl, fun z e => by cases e⟩
theorem odd_t {K : Fr1} {H : Hp} {a : Addr} {xs : List V} {ds : List PyData} (h : H a = some (.tup xs)) (hd : DqAll K H xs ds) (hl : ds.length ≤ 13 := by decide) : Odd K H (.ref a) := ⟨.inr (.inl ⟨a, xs, rfl, .inr h⟩), _, .tup h hd, rfl, lenLe_t hl, fun z e => by cases e⟩
theorem odd_d {K : Fr1} {H : Hp} {a : Addr} {kvs : List (Key × V)} (h : H a = some (.dK kvs)) (hl : kvs.length ≤ 1) : Odd K H (.ref a) := ⟨.inr (.inr ⟨a, kvs, rfl, h, hl⟩), _, .dct (ds := []) h, rfl, lenLe_o rfl, fun z e => by cases e⟩
def sp_law_strange (K : Fr1) : Sp := fun vs H Q _ => ∃ (s L : Addr) (ns : List Int), vs = [.ref s] ∧ H s = some (StO s L) ∧ H L = some (.lst (ns.map V.int)) ∧ ∀ v H', Ex H H' → Odd K H' v → Q v H'
theorem ok_law_strange (T : Txt K mg) : FnOk P w K mg base (L2.CX P w) 3 (a_law_strange K) (d_law_strange K) P_law_strange (sp_law_strange K) := by
  refine T.F_law_strange.ok sc_law_strange (fun vs H Q E h => ?_) (fun cdv A outer s H vs Q E hr h => ?_)
  · obtain ⟨_, _, _, rfl, _⟩ := h
    rfl
  · obtain ⟨s, L, ns, rfl, hs, hL, k⟩ := h
    refine ⟨_, (pss_cons (ps_set (i := 1) sc_law_strange.nd rfl (.inl rfl) (pe_ix ix_list (pe_lst (pa_cons (pe_lst pa_nil) (pa_cons (pe_tup pa_nil) (pa_cons pe_dnewK pa_nil)))) (pe_call (ok_law_draw T) (hr.mono (by decide)) (by rfl) T.m__law_draw T.F_law_draw.kp (b_law_draw T) .nil passL (pa_cons (pv 0) (pa_cons pe_int pa_nil))) (fun _ _ => rfl)))
    (pss_cons (ps_for (passes_of rfl) rfl (pi_range1 (by rfl) T.n_range (pa_cons pe_int pa_nil)) (pg_name (i := 2) sc_law_strange.nd rfl (.inl rfl)) (pss_one (ps_if (pt_val (pe_callB call_isi (by rfl) T.n_isinstance (by decide +kernel) (pa_cons (pv 1) (pa_cons (pe_bltn (v := .ty "list") (by rfl) T.n_list (by decide +kernel) rfl) pa_nil)))) (pss_one (ps_set (i := 1) sc_law_strange.nd rfl (.inl rfl) (pe_lst (pa_cons (pv 1) pa_nil)))) (pss_one (ps_if (pt_val (pe_callB call_isi (by rfl) T.n_isinstance (by decide +kernel) (pa_cons (pv 1) (pa_cons (pe_bltn (v := .ty "tuple") (by rfl) T.n_tuple (by decide +kernel) rfl) pa_nil)))) (pss_one (ps_set (i := 1) sc_law_strange.nd rfl (.inl rfl) (pe_tup (pa_cons (pv 1) pa_nil)))) (pss_one (ps_set (i := 1) sc_law_strange.nd rfl (.inl rfl) (pe_disp (pps_cons pe_str (pv 1) pps_nil) rfl rfl (by decide) (by decide)))))))))
    (pss_cons (ps_set (i := 3) sc_law_strange.nd rfl (.inl rfl) (pe_lst (pa_cons pe_non (pa_cons pe_bl (pa_cons pe_bl (pa_cons pe_str (pa_cons pe_str (pa_cons pe_str (pa_cons (pe_lst pa_nil) (pa_cons (pe_lst (pa_cons pe_int pa_nil)) (pa_cons (pe_tup pa_nil) (pa_cons (pe_tup (pa_cons pe_int (pa_cons pe_int pa_nil))) (pa_cons pe_dnewK (pa_cons (pe_disp (pps_cons pe_str (pe_lst pa_nil) pps_nil) rfl rfl (by decide) (by decide)) (pa_cons (pe_lst (pa_cons (pe_lst (pa_cons (pe_tup (pa_cons pe_int (pa_cons pe_non pa_nil))) pa_nil)) pa_nil)) (pa_cons (pv 1) pa_nil))))))))))))))))
    (pss_one (ps_ret (pe_ix ix_list (pv 3) (pe_call (ok_law_draw T) (hr.mono (by decide)) (by rfl) T.m__law_draw T.F_law_draw.kp (b_law_draw T) .nil passL (pa_cons (pv 0) (pa_cons (pe_callB call_len_seq (by rfl) T.n_len (by decide +kernel) (pa_cons (pv 3) pa_nil)) pa_nil))) (fun _ _ => rfl))))))), ?_⟩
    rw [show L2.start N_law_strange [.ref s] = [some (.ref s), none, none, none] from rfl]
    try dsimp only [cxOf]
    walk_at "js"
    refine ⟨by decide, fun p1 hp1 => ?_⟩
    generalize g1 : upd H p1 _ = H1
    obtain ⟨e1, h1⟩ := gen_new hp1 g1
    walk_at "js"
    refine ⟨by decide, fun p2 hp2 => ?_⟩
    generalize g2 : upd H1 p2 _ = H2
    obtain ⟨e2, h2⟩ := gen_new hp2 g2
    walk_at "js"
    intro p3 hp3
    generalize g3 : upd H2 p3 _ = H3
    obtain ⟨e3, h3⟩ := gen_new hp3 g3
    walk_at "js"
    refine ⟨(by show 3 ≤ sizeLine; decide), fun p4 hp4 => ?_⟩
    generalize g4 : upd H3 p4 _ = H4
    obtain ⟨e4, h4⟩ := gen_new hp4 g4
    walk_at "js"
    have x4 : Ex H H4 := e1.trans (e2.trans (e3.trans e4))
    refine ⟨s, L, ns, 3, rfl, x4.get hs, x4.get hL, by omega, by omega, fun q q0 q1 => ?_⟩
    have hel : ∃ v, atI [V.ref p1, .ref p2, .ref p3] q = some v ∧ ∃ d, Dq K H4 v d ∧ (tyn d = "list" ∨ tyn d = "tuple" ∨ tyn d = "dict") ∧ isI d = false ∧ SameV K H4 v ∧ lenLe d := by
      rcases (show q = 0 ∨ q = 1 ∨ q = 2 by omega) with rfl | rfl | rfl
      · exact ⟨.ref p1, rfl, .list [], .lst ((e2.trans (e3.trans e4)).get h1) .nil, .inl rfl, rfl, .inr (.inl ⟨p1, [], rfl, .inl ((e2.trans (e3.trans e4)).get h1)⟩), lenLe_l (by decide)⟩
      · exact ⟨.ref p2, rfl, .tuple [], .tup ((e3.trans e4).get h2) .nil, .inr (.inl rfl), rfl, .inr (.inl ⟨p2, [], rfl, .inr ((e3.trans e4).get h2)⟩), lenLe_t (by decide)⟩
      · exact ⟨.ref p3, rfl, .dict [], .dct (e4.get h3), .inr (.inr rfl), rfl, .inr (.inr ⟨p3, [], rfl, e4.get h3, by decide⟩), lenLe_o rfl⟩
    obtain ⟨v0, hv0, d0, hd0, ht0, hi0, hs0, hl0⟩ := hel
    refine w_ixL (SqL.of h4) hv0 ?_
    walk_at "js"
    refine ⟨39, rfl, by decide, by decide, ?_⟩
    refine for_range (lo := 0) (n := 39) (fun i σ' H' => Ex H H' ∧ ∃ (v : V) (d : PyData) (v2 : Option V), σ' = [some (.ref s), some v, v2, none] ∧ Dq K H' v d ∧ (tyn d = "list" ∨ tyn d = "tuple" ∨ tyn d = "dict") ∧ isI d = false ∧ SameV K H' v ∧ lenLe d) ?_ ?_ ?_
    · exact ⟨x4, v0, d0, _, rfl, hd0, ht0, hi0, hs0, hl0⟩
    · rintro i σ' H5 hi ⟨e5, v, d, v2, rfl, hd, ht, hi5, hs5, hl5⟩
      walk_at "js"
      have nx : ∀ v' d' H', Ex H5 H' → Dq K H' v' d' → (tyn d' = "list" ∨ tyn d' = "tuple" ∨ tyn d' = "dict") → isI d' = false → SameV K H' v' → lenLe d' → Ex H H' ∧ ∃ (v : V) (d : PyData) (w2 : Option V), [some (V.ref s), some v', some (V.int (0 + (i : Int))), none] = [some (.ref s), some v, w2, none] ∧ Dq K H' v d ∧ (tyn d = "list" ∨ tyn d = "tuple" ∨ tyn d = "dict") ∧ isI d = false ∧ SameV K H' v ∧ lenLe d :=
        fun v' d' H' e' a1 a2 a3 a4 a5 => ⟨e5.trans e', v', d', _, rfl, a1, a2, a3, a4, a5⟩
      refine w_isi hd (kit_list d) ?_
      walk_at "js"
      cases c1 : (tyn d == "list") with
      | true =>
        walk_at "js"
        refine ⟨(by show 1 ≤ sizeLine; decide), fun p hp => ?_⟩
        generalize g6 : upd H5 p _ = H6
        obtain ⟨e6, h6⟩ := gen_new hp g6
        walk_at "js"
        exact nx _ _ H6 e6 (.lst h6 (.cons (hd.mono e6) .nil)) (.inl rfl) rfl (.inr (.inl ⟨p, _, rfl, .inl h6⟩)) (lenLe_l (by show 1 ≤ 13; omega))
      | false =>
        walk_at "js"
        refine w_isi hd (kit_tuple d) ?_
        walk_at "js"
        cases c2 : (tyn d == "tuple") with
        | true =>
          walk_at "js"
          refine ⟨(by show 1 ≤ sizeLine; decide), fun p hp => ?_⟩
          generalize g6 : upd H5 p _ = H6
          obtain ⟨e6, h6⟩ := gen_new hp g6
          walk_at "js"
          exact nx _ _ H6 e6 (.tup h6 (.cons (hd.mono e6) .nil)) (.inr (.inl rfl)) rfl (.inr (.inl ⟨p, _, rfl, .inr h6⟩)) (lenLe_t (by show 1 ≤ 13; omega))
        | false =>
          walk_at "js"
          intro p hp
          generalize g6 : upd H5 p _ = H6
          obtain ⟨e6, h6⟩ := gen_new hp g6
          walk_at "js"
          refine ⟨h6, [(.inr "start", v)], rfl, (by show 1 ≤ 15; omega), ?_⟩
          rw [show mergeK [] [((.inr "start" : Key), v)] = [(.inr "start", v)] from rfl]
          generalize g7 : upd H6 p _ = H7
          obtain ⟨e7, h7, _⟩ := gen_mut hp e6 g7
          walk_at "js"
          exact nx _ (.dict []) H7 e7 (.dct h7) (.inr (.inr rfl)) rfl (.inr (.inr ⟨p, _, rfl, h7, by show 1 ≤ 1; omega⟩)) (lenLe_o rfl)
    · rintro σ' H5 ⟨e5, v, d, v2, rfl, hd, ht, hi5, hs5, hl5⟩
      have hod : Odd K H5 v := ⟨hs5, d, hd, hi5, hl5, fun z e => by subst e; rcases ht with h | h | h <;> (simp only [tyn] at h; exact absurd h (by decide))⟩
      walk_at "js"
      refine ⟨by decide, fun a1 ha1 => ?_⟩
      generalize f1 : upd H5 a1 _ = A1
      obtain ⟨x1, y1⟩ := gen_new ha1 f1
      walk_at "js"
      refine ⟨(by show 1 ≤ sizeLine; decide), fun a2 ha2 => ?_⟩
      generalize f2 : upd A1 a2 _ = A2
      obtain ⟨x2, y2⟩ := gen_new ha2 f2
      walk_at "js"
      refine ⟨by decide, fun a3 ha3 => ?_⟩
      generalize f3 : upd A2 a3 _ = A3
      obtain ⟨x3, y3⟩ := gen_new ha3 f3
      walk_at "js"
      refine ⟨(by show 2 ≤ sizeLine; decide), fun a4 ha4 => ?_⟩
      generalize f4 : upd A3 a4 _ = A4
      obtain ⟨x4, y4⟩ := gen_new ha4 f4
      walk_at "js"
      intro a5 ha5
      generalize f5 : upd A4 a5 _ = A5
      obtain ⟨x5, y5⟩ := gen_new ha5 f5
      walk_at "js"
      intro a6 ha6
      generalize f6 : upd A5 a6 _ = A6
      obtain ⟨x6, y6⟩ := gen_new ha6 f6
      walk_at "js"
      refine ⟨by decide, fun a7 ha7 => ?_⟩
      generalize f7 : upd A6 a7 _ = A7
      obtain ⟨x7, y7⟩ := gen_new ha7 f7
      walk_at "js"
      refine ⟨x7.get y6, [(.inr "start", .ref a7)], rfl, (by show 1 ≤ 15; omega), ?_⟩
      rw [show mergeK [] [((.inr "start" : Key), V.ref a7)] = [(.inr "start", .ref a7)] from rfl]
      generalize f8 : upd A7 a6 _ = A8
      obtain ⟨x8, y8, _⟩ := gen_mut ha6 (x6.trans x7) f8
      walk_at "js"
      refine ⟨(by show 2 ≤ sizeLine; decide), fun a9 ha9 => ?_⟩
      generalize f9 : upd A8 a9 _ = A9
      obtain ⟨x9, y9⟩ := gen_new ha9 f9
      walk_at "js"
      refine ⟨(by show 1 ≤ sizeLine; decide), fun a10 ha10 => ?_⟩
      generalize f10 : upd A9 a10 _ = A10
      obtain ⟨x10, y10⟩ := gen_new ha10 f10
      walk_at "js"
      refine ⟨(by show 1 ≤ sizeLine; decide), fun a11 ha11 => ?_⟩
      generalize f11 : upd A10 a11 _ = A11
      obtain ⟨x11, y11⟩ := gen_new ha11 f11
      walk_at "js"
      refine ⟨(by show 14 ≤ sizeLine; decide), fun a12 ha12 => ?_⟩
      generalize f12 : upd A11 a12 _ = A12
      obtain ⟨x12, y12⟩ := gen_new ha12 f12
      walk_at "js"
      have z8 : Ex A8 A12 := x9.trans (x10.trans (x11.trans x12))
      have z5 : Ex A5 A12 := x8.trans z8
      have z4 := x5.trans z5
      have z3 := x4.trans z4
      have z2 := x3.trans z3
      have z1 := x2.trans z2
      have zz : Ex H5 A12 := x1.trans z1
      refine ⟨s, L, ns, 14, rfl, (e5.trans zz).get hs, (e5.trans zz).get hL, by omega, by omega, fun q q0 q1 => ?_⟩
      have all : ∀ n : Nat, n < 14 → ∃ u, atI [V.non, .bl true, .bl false, .str "", .str "push", .str "12", .ref a1, .ref a2, .ref a3, .ref a4, .ref a5, .ref a6, .ref a11, v] n = some u ∧ Odd K A12 u := fun n hn =>
        match n, hn with
        | 0, _ => ⟨_, rfl, .inl rfl, _, .non, rfl, lenLe_o rfl, fun z e => by cases e⟩
        | 1, _ => ⟨_, rfl, .inl rfl, _, .bl _, rfl, lenLe_o rfl, fun z e => by cases e⟩
        | 2, _ => ⟨_, rfl, .inl rfl, _, .bl _, rfl, lenLe_o rfl, fun z e => by cases e⟩
        | 3, _ => ⟨_, rfl, .inl rfl, _, .str _, rfl, lenLe_o rfl, fun z e => by cases e; exact .inl rfl⟩
        | 4, _ => ⟨_, rfl, .inl rfl, _, .str _, rfl, lenLe_o rfl, fun z e => by cases e; exact .inr (.inl rfl)⟩
        | 5, _ => ⟨_, rfl, .inl rfl, _, .str _, rfl, lenLe_o rfl, fun z e => by cases e; exact .inr (.inr rfl)⟩
        | 6, _ => ⟨_, rfl, odd_l (z1.get y1) .nil⟩
        | 7, _ => ⟨_, rfl, odd_l (z2.get y2) (.cons (.int _) .nil)⟩
        | 8, _ => ⟨_, rfl, odd_t (z3.get y3) .nil⟩
        | 9, _ => ⟨_, rfl, odd_t (z4.get y4) (.cons (.int _) (.cons (.int _) .nil))⟩
        | 10, _ => ⟨_, rfl, odd_d (z5.get y5) (Nat.zero_le _)⟩
        | 11, _ => ⟨_, rfl, odd_d (z8.get y8) (Nat.le_refl _)⟩
        | 12, _ => ⟨_, rfl, odd_l (x12.get y11) (.cons (.lst ((x11.trans x12).get y10) (.cons (.tup ((x10.trans (x11.trans x12)).get y9) (.cons (.int _) (.cons .non .nil))) .nil)) .nil)⟩
        | 13, _ => ⟨_, rfl, hod.mono zz⟩
        | n + 14, h => absurd h (by omega)
      obtain ⟨u, hu, ho⟩ := all q.toNat (by omega)
      rw [show ((q.toNat : Nat) : Int) = q by omega] at hu
      refine w_ixL (SqL.of y12) hu ?_
      walk_at "js"
      exact k u _ (e5.trans zz) ho

def sp_law_is_integer (K : Fr1) : Sp := fun vs H Q _ => ∃ (v : V) (d : PyData), vs = [v] ∧ Dq K H v d ∧ Q (.bl (isI d)) H
theorem ok_law_is_integer (T : Txt K mg) : FnOk P w K mg base (L2.CX P w) 1 (a_law_is_integer K) (d_law_is_integer K) P_law_is_integer (sp_law_is_integer K) := by
  refine T.F_law_is_integer.ok sc_law_is_integer (fun vs H Q E h => ?_) (fun cdv A outer s H vs Q E hr h => ?_)
  · obtain ⟨_, _, rfl, _⟩ := h
    rfl
  · obtain ⟨v, d, rfl, hd, k⟩ := h
    refine ⟨_, (pss_one (ps_ret (pe_and (pe_callB call_isi (by rfl) T.n_isinstance (by decide +kernel) (pa_cons (pv 0) (pa_cons (pe_bltn (v := .ty "int") (by rfl) T.n_int (by decide +kernel) rfl) pa_nil))) (pe_one (pe_not (pe_callB call_isi (by rfl) T.n_isinstance (by decide +kernel) (pa_cons (pv 0) (pa_cons (pe_bltn (v := .ty "bool") (by rfl) T.n_bool (by decide +kernel) rfl) pa_nil)))))))), ?_⟩
    rw [show L2.start N_law_is_integer [v] = [some v] from rfl]
    try dsimp only [cxOf]
    rw [← isI_ty d] at k
    walk_at "js"
    refine w_isi hd (kit_int d) ?_
    refine w_bl ?_
    cases e : (tyn d == "int" || tyn d == "bool") with
    | false =>
      rw [e] at k
      walk_at "js"
      exact k
    | true =>
      rw [e] at k
      walk_at "js"
      refine w_isi hd (kit_bool d) ?_
      walk_at "js"
      exact k
theorem law_isint {K : Fr1} {H : Hp} {x : Int} {Q : VK} {E : XK} (k : Q (.bl true) H) : sp_law_is_integer K [.int x] H Q E := ⟨_, .int _, rfl, .int _, k⟩

def sp_law_due (K : Fr1) : Sp := fun vs H Q _ => ∃ (u v : V) (du dv : PyData), vs = [u, v] ∧ Dq K H u du ∧ Dq K H v dv ∧
  (isRound du = false → ∀ p H', Ex H H' → H' p = some (.tup [.str "round", u]) → Q (.ref p) H') ∧
  (∀ N, du = .int N → isRound du = true → (∀ i, planChk dv = .error i → ∀ p H', Ex H H' → H' p = some (.tup [.str "plan", .int i]) → Q (.ref p) H') ∧
    (∀ ds, planChk dv = .ok ds → ∀ p t H', Ex H H' → H' p = some (.tup [.str "good", .ref t]) → Dq K H' (.ref t) (.tuple (deD (modD N ds))) → Q (.ref p) H'))
theorem ok_law_due (T : Txt K mg) : FnOk P w K mg base (L2.CX P w) 3 (a_law_due K) (d_law_due K) P_law_due (sp_law_due K) := by
  refine T.F_law_due.ok sc_law_due (fun vs H Q E h => ?_) (fun cdv A outer s H vs Q E hr h => ?_)
  · obtain ⟨_, _, _, _, rfl, _⟩ := h
    rfl
  · obtain ⟨u, v, du, d, rfl, hdu, hd, k1, k2⟩ := h
    refine ⟨_, (pss_cons (ps_if (PW.pt (pw_or (pt_not (pt_val (pe_call (ok_law_is_integer T) (hr.mono (by decide)) (by rfl) T.m__law_is_integer T.F_law_is_integer.kp (b_law_is_integer T) .nil passL (pa_cons (pv 0) pa_nil)))) (pw_or (pt_cmpR op_lt (pv 0) pe_int (nomark _)) (pw_or1 (pt_cmpR op_gt (pv 0) pe_int (nomark _)))))) (pss_one (ps_ret (pe_tup (pa_cons pe_str (pa_cons (pv 0) pa_nil))))) pss_nil)
    (pss_cons (ps_if (PW.pt (pw_or (pt_not (pt_val (pe_callB call_isiT (by rfl) T.n_isinstance (by decide +kernel) (pa_cons (pv 1) (pa_cons (pe_tup (pa_cons (pe_bltn (v := .ty "list") (by rfl) T.n_list (by decide +kernel) rfl) (pa_cons (pe_bltn (v := .ty "tuple") (by rfl) T.n_tuple (by decide +kernel) rfl) pa_nil))) pa_nil))))) (pw_or1 (pt_cmpR op_gt (pe_callB call_len_seq (by rfl) T.n_len (by decide +kernel) (pa_cons (pv 1) pa_nil)) pe_int (nomark _))))) (pss_one (ps_ret (pe_tup (pa_cons pe_str (pa_cons (pe_un un_neg pe_int) pa_nil))))) pss_nil)
    (pss_cons (ps_set (i := 2) sc_law_due.nd rfl (.inl rfl) (pe_lst pa_nil))
    (pss_cons (ps_for (passes_of rfl) rfl (pi_enumX (by rfl) T.n_enumerate (pa_cons (pv 1) pa_nil)) (pg_tup (by rfl) (pgs_cons (pg_name (i := 3) sc_law_due.nd rfl (.inl rfl)) (pgs_cons (pg_name (i := 4) sc_law_due.nd rfl (.inl rfl)) pgs_nil))) (pss_cons (ps_if (PW.pt (pw_or (pt_not (pt_val (pe_callB call_isi (by rfl) T.n_isinstance (by decide +kernel) (pa_cons (pv 4) (pa_cons (pe_bltn (v := .ty "tuple") (by rfl) T.n_tuple (by decide +kernel) rfl) pa_nil))))) (pw_or (pt_cmpR op_ne (pe_callB call_len_seq (by rfl) T.n_len (by decide +kernel) (pa_cons (pv 4) pa_nil)) pe_int (nomark _)) (pw_or1 (pt_not (pt_val (pe_callB call_isi (by rfl) T.n_isinstance (by decide +kernel) (pa_cons (pe_ix ix_tup (pv 4) pe_int (fun _ _ => rfl)) (pa_cons (pe_bltn (v := .ty "str") (by rfl) T.n_str (by decide +kernel) rfl) pa_nil))))))))) (pss_one (ps_ret (pe_tup (pa_cons pe_str (pa_cons (pv 3) pa_nil))))) pss_nil)
    (pss_cons (ps_if (PW.pt (pw_or (pt_cmpR op_notIn_seq (pe_ix ix_tup (pv 4) pe_int (fun _ _ => rfl)) (pe_lst (pa_cons pe_str (pa_cons pe_str pa_nil))) (by rfl)) (pw_or1 (pt_not (pt_val (pe_call (ok_law_is_integer T) (hr.mono (by decide)) (by rfl) T.m__law_is_integer T.F_law_is_integer.kp (b_law_is_integer T) .nil passL (pa_cons (pe_ix ix_tup (pv 4) pe_int (fun _ _ => rfl)) pa_nil))))))) (pss_one (ps_ret (pe_tup (pa_cons pe_str (pa_cons (pv 3) pa_nil))))) pss_nil)
    (pss_one (ps_expr (pe_bm PySem.F.plainAttrs_list PySem.F.slot_list_append PySem.F.type_list_append mt_append (pv 2) (pa_cons (pe_tup (pa_cons (pe_ix ix_tup (pv 4) pe_int (fun _ _ => rfl)) (pa_cons (pe_op op_mod (pe_callTy call_int1 (by rfl) T.n_int (by decide +kernel) (pa_cons (pe_ix ix_tup (pv 4) pe_int (fun _ _ => rfl)) pa_nil)) (pv 0)) pa_nil))) pa_nil)))))))
    (pss_one (ps_ret (pe_tup (pa_cons pe_str (pa_cons (pe_callTy call_tuple_of (by rfl) T.n_tuple (by decide +kernel) (pa_cons (pv 2) pa_nil)) pa_nil))))))))), ?_⟩
    rw [show L2.start N_law_due [u, v] = [some u, some v, none, none, none] from rfl]
    try dsimp only [cxOf]
    walk_at "js"
    have round : ∀ H1, Ex H H1 → isRound du = false → ∀ p, H1 p = none → Q (.ref p) (upd H1 p (.tup [.str "round", u])) := fun H1 e1 h p hp => k1 h p _ (e1.trans (Evl.Ex.new hp)) upd_same
    refine ⟨u, du, rfl, hdu, ?_⟩
    refine w_bl ?_
    cases hI : isI du with
    | false =>
      walk_at "js"
      refine ⟨by show 2 ≤ sizeLine; decide, fun p hp => ?_⟩
      exact round H (Evl.Ex.refl _) (by cases du <;> first | rfl | cases hI) p hp
    | true =>
      obtain ⟨N, rfl⟩ : ∃ x, du = .int x := by cases du <;> first | exact ⟨_, rfl⟩ | cases hI
      cases hdu
      walk_at "js"
      refine w_if (fun c1 => ?_) (fun c1 => ?_)
      · walk_at "js"
        refine ⟨by show 2 ≤ sizeLine; decide, fun p hp => ?_⟩
        exact round H (Evl.Ex.refl _) (by simp [isRound]; omega) p hp
      · walk_at "js"
        refine w_if (fun c2 => ?_) (fun c2 => ?_)
        · walk_at "js"
          refine ⟨by show 2 ≤ sizeLine; decide, fun p hp => ?_⟩
          exact round H (Evl.Ex.refl _) (by simp [isRound]; omega) p hp
        · have ir : isRound (.int N) = true := by simp [isRound]; omega
          obtain ⟨kE, kQ⟩ := k2 N rfl ir
          clear k1 k2 round
          walk_at "js"
          refine ⟨by show 2 ≤ sizeLine; decide, fun p1 hp1 => ?_⟩
          generalize g1 : upd H p1 _ = H1
          obtain ⟨e1, h1⟩ := gen_new hp1 g1
          walk_at "js"
          refine w_isiT (hd.mono e1) h1 (kit_list d) (kit_tuple d) ?_
          rw [isRow_ty]
          have bad : ∀ {H2 : Hp} (i : Int), planChk d = .error i → Ex H H2 → ∀ p, H2 p = none → Q (.ref p) (upd H2 p (.tup [.str "plan", .int i])) := fun i hi e2 p hp => kE i hi p _ (e2.trans (Evl.Ex.new hp)) upd_same
          cases hrow : isRow d with
          | false =>
            walk_at "js"
            refine ⟨by show 2 ≤ sizeLine; decide, fun p hp => bad (-1) ?_ e1 p hp⟩
            unfold planChk
            cases d <;> first | rfl | cases hrow
          | true =>
            obtain ⟨a, xs, ds, rfl, hro, hsq, hda⟩ : ∃ a xs ds, v = .ref a ∧ rowsOf d = some ds ∧ Sq K H a xs ∧ DqAll K H xs ds := by
              cases hd with
              | lst h ha => exact ⟨_, _, _, rfl, rfl, .inl h, ha⟩
              | tup h ha => exact ⟨_, _, _, rfl, rfl, .inr h, ha⟩
              | non => cases hrow
              | bl b => cases hrow
              | int i => cases hrow
              | str x => cases hrow
              | dct h => cases hrow
            have hlen := hda.len
            have hchk : planChk d = if 400 < ds.length then .error (-1) else match deedsA 0 ds with
              | .error i => .error (i : Int)
              | .ok rs => .ok rs := by
              unfold planChk
              rw [hro] <;> rfl
            have hsq1 := hsq.mono e1
            walk_at "js"
            refine w_lenX hsq1 ?_
            walk_at "js"
            refine w_if (fun c3 => ?_) (fun c3 => ?_)
            · walk_at "js"
              refine ⟨by show 2 ≤ sizeLine; decide, fun p hp => bad (-1) ?_ e1 p hp⟩
              rw [hchk, if_pos (by omega)]
            · rw [if_neg (by omega)] at hchk
              walk_at "js"
              refine ⟨by decide, fun D hD => ?_⟩
              generalize gD : upd H1 D _ = H2
              obtain ⟨e2, h2⟩ := gen_new hD gD
              have hD0 : H D = none := e1.free hD
              walk_at "js"
              refine w_enumA (hsq1.mono e2) fun J wk => ?_
              refine for_it wk (fun i σ' H' => ∃ (l : Deeds) (acc : List V) (v3 v4 : Option V), σ' = [some (.int N), some (.ref a), some (.ref D), v3, v4] ∧ Ex H H' ∧ H' D = some (.lst acc) ∧ DqAll K (del H' D) acc (deD (modD N l)) ∧ l.length = i ∧ i ≤ xs.length ∧
                deedsA 0 ds = (match deedsA i (ds.drop i) with
                  | .ok r => .ok (l ++ r)
                  | .error e => .error e)) ?_ (fun i σ' H' _ p => ?_) ?_ ?_
              · refine ⟨[], [], none, none, rfl, e1.trans e2, h2, .nil, rfl, Nat.zero_le _, ?_⟩
                rw [List.drop_zero]
                cases deedsA 0 ds <;> rfl
              · obtain ⟨_, _, _, _, _, e, _⟩ := p
                rw [sq_stay hsq e, sq_stay hsq (e1.trans e2)]
              · rintro i x σ' H' H3 hi ⟨l, acc, v3, v4, rfl, e3, hacc, hda2, hl, hix, hA⟩ ⟨T1, x1, y1, rfl, hT, rfl, hx1, hy1⟩
                cases (Option.some.inj hx1)
                obtain ⟨dd, hdd, hyd⟩ := hda.get hy1
                have hi2 : i < xs.length := (List.getElem?_eq_some_iff.mp hy1).1
                have hdrop : ds.drop i = dd :: ds.drop (i + 1) := by
                  have q := List.getElem?_eq_some_iff.mp hdd
                  obtain ⟨q1, q2⟩ := q
                  rw [List.drop_eq_getElem_cons q1, q2]
                rw [hdrop, deedsA_cons] at hA
                generalize g1 : upd H' T1 _ = H3
                obtain ⟨e4, h4⟩ := gen_new hT g1
                have e14 : Ex H H3 := e3.trans e4
                have hnone : isDeed dd = false → ∀ {H4 : Hp}, Ex H H4 → ∀ p, H4 p = none → Q (.ref p) (upd H4 p (.tup [.str "plan", .int (i : Int)])) := fun hn H4 x4 p hp => by
                  refine bad (i : Int) ?_ x4 p hp
                  rw [asDeed_none hn] at hA
                  rw [hchk, hA]
                walk_at "js"
                refine w_isi (hyd.mono e14) (kit_tuple dd) ?_
                walk_at "js"
                cases htu : (tyn dd == "tuple") with
                | false =>
                  walk_at "js"
                  refine ⟨by show 2 ≤ sizeLine; decide, fun p hp => hnone ?_ e14 p hp⟩
                  cases dd <;> first | rfl | cases htu
                | true =>
                  obtain ⟨es, rfl⟩ : ∃ es, dd = .tuple es := by cases dd <;> first | exact ⟨_, rfl⟩ | cases htu
                  cases hyd with
                  | @tup ta ys _ ht hta =>
                    have hl5 := hta.len
                    have ht2 := e14.get ht
                    walk_at "js"
                    refine w_ifn (fun c5 => ?_) (fun c5 => ?_)
                    · walk_at "js"
                      refine ⟨by show 2 ≤ sizeLine; decide, fun p hp => hnone ?_ e14 p hp⟩
                      match es, hl5 with
                      | [], _ => rfl
                      | [_], _ => rfl
                      | [_, _], hl5 => exact absurd (by rw [hl5]; rfl) c5
                      | _ :: _ :: _ :: _, _ => rfl
                    · have c6 : ys.length = 2 := by omega
                      match ys, es, hta, c6 with
                      | [z1, z2], [f1, f2], .cons g1' (.cons g2' .nil), _ =>
                        have isd : isDeed (.tuple [f1, f2]) = (isW f1 && isI f2) := rfl
                        walk_at "js"
                        refine w_isi (g1'.mono e14) (kit_str f1) ?_
                        walk_at "js"
                        cases hst : (tyn f1 == "str") with
                        | false =>
                          walk_at "js"
                          refine ⟨by show 2 ≤ sizeLine; decide, fun p hp => hnone ?_ e14 p hp⟩
                          rw [isd]
                          have z : isW f1 = false := by cases f1 <;> first | rfl | (cases hst)
                          rw [z] <;> rfl
                        | true =>
                          obtain ⟨sw, rfl⟩ : ∃ x, f1 = .str x := by cases f1 <;> first | exact ⟨_, rfl⟩ | cases hst
                          cases g1'
                          rw [isW_mem] at isd
                          walk_at "js"
                          refine ⟨sz_of (by simp), fun tw hp_tw => ?_⟩
                          generalize g_tw : upd H3 tw _ = H5
                          obtain ⟨e_H5, h_tw⟩ := gen_new hp_tw g_tw
                          walk_at "js"
                          have e15 := e14.trans e_H5
                          refine w_inSn (ns := ["push", "squeeze"]) (.inl (SqL.of h_tw)) ?_
                          walk_at "js"
                          refine w_ifn (fun c7 => ?_) (fun c7 => ?_)
                          · walk_at "js"
                            refine ⟨by show 2 ≤ sizeLine; decide, fun p hp => hnone ?_ e15 p hp⟩
                            rw [isd, decide_eq_false c7] <;> rfl
                          · rw [decide_eq_true c7, Bool.true_and] at isd
                            have ht3 := e_H5.get ht2
                            walk_at "js"
                            refine ⟨_, f2, rfl, g2'.mono e15, ?_⟩
                            refine w_bl ?_
                            cases hI2 : isI f2 with
                            | false =>
                              walk_at "js"
                              refine ⟨by show 2 ≤ sizeLine; decide, fun p hp => hnone ?_ e15 p hp⟩
                              rw [isd, hI2]
                            | true =>
                              obtain ⟨tz, rfl⟩ : ∃ x, f2 = .int x := by cases f2 <;> first | exact ⟨_, rfl⟩ | cases hI2
                              cases g2'
                              have hap : asDeed (.tuple [.str sw, .int tz]) = some (sw, tz) := asDeed_dD (p := (sw, tz)) (by rw [isW_mem]; exact decide_eq_true c7)
                              rw [hap] at hA
                              dsimp only at hA
                              have hacc5 := (e4.trans e_H5).get hacc
                              walk_at "js"
                              refine ⟨sz_of (by simp), fun tn hp_tn => ?_⟩
                              generalize g_tn : upd H5 tn _ = H6
                              obtain ⟨e_H6, h_tn⟩ := gen_new hp_tn g_tn
                              walk_at "js"
                              have e16 := e15.trans e_H6
                              have hal := hda2.len
                              rw [deD_len, modD_len] at hal
                              refine w_append (e_H6.get hacc5) (Nat.lt_of_le_of_lt (show acc.length ≤ 400 by omega) (by decide)) ?_
                              have hnD : tn ≠ D := fun z => by
                                rw [z, hacc5] at hp_tn
                                cases hp_tn
                              have hda6 : DqAll K (del (upd H6 D (.lst (acc ++ [V.ref tn]))) D) (acc ++ [V.ref tn]) (deD (modD N l) ++ [dD (sw, tz % N)]) :=
                                dqA_app hda2 (e4.trans (e_H5.trans e_H6)) (.tup (by rw [del_ne hnD]; exact h_tn) (.cons (.str _) (.cons (.int _) .nil)))
                              generalize g7 : upd H6 D _ = H7 at hda6 ⊢
                              obtain ⟨x7, h7, _⟩ := gen_mut hD0 e16 g7
                              walk_at "js"
                              refine ⟨l ++ [(sw, tz)], _, _, _, rfl, x7, h7, ?_, by simp [hl], hi2, ?_⟩
                              · have e : deD (modD N (l ++ [(sw, tz)])) = deD (modD N l) ++ [dD (sw, tz % N)] := by
                                  unfold deD modD
                                  rw [List.map_append, List.map_append]
                                  rfl
                                rw [e]
                                exact hda6
                              · rw [hA]
                                cases deedsA (i + 1) (ds.drop (i + 1)) <;> simp
              · rintro σ' H3 ⟨rs, acc, v3, v4, rfl, e3, hacc, hda2, hl, _, hA⟩
                have hdr : ds.drop xs.length = [] := List.drop_eq_nil_of_le (by omega)
                rw [hdr] at hA
                have hA2 : deedsA 0 ds = .ok rs := by
                  rw [hA]
                  simp [deedsA]
                rw [hA2] at hchk
                dsimp only at hchk
                walk_at "js"
                refine ⟨D, acc, rfl, .inl ⟨SqL.of hacc, fun q hq => ?_⟩⟩
                generalize g6 : upd H3 q _ = H6
                obtain ⟨e6, h6⟩ := gen_new hq g6
                walk_at "js"
                exact ⟨by show 2 ≤ sizeLine; decide, fun p hp => kQ rs hchk p q _ (e3.trans (e6.trans (Evl.Ex.new hp))) upd_same (.tup ((Evl.Ex.new hp).get h6) ((hda2.mono ex_del).mono (e6.trans (Evl.Ex.new hp))))⟩

def sp_is_integer (K : Fr1) : Sp := fun vs H Q _ => ∃ (v : V) (d : PyData), vs = [v] ∧ Dq K H v d ∧ Q (.bl (isI d)) H
theorem ok_is_integer (T : Txt K mg) : FnOk P w K mg base (L2.CX P w) 1 (a_is_integer K) (d_is_integer K) P_is_integer (sp_is_integer K) := by
  refine T.F_is_integer.ok sc_is_integer (fun vs H Q E h => ?_) (fun cdv A outer s H vs Q E hr h => ?_)
  · obtain ⟨_, _, rfl, _⟩ := h
    rfl
  · obtain ⟨v, d, rfl, hd, k⟩ := h
    refine ⟨_, (pss_one (ps_ret (pe_and (pe_callB call_isi (by rfl) T.n_isinstance (by decide +kernel) (pa_cons (pv 0) (pa_cons (pe_bltn (v := .ty "int") (by rfl) T.n_int (by decide +kernel) rfl) pa_nil))) (pe_one (pe_not (pe_callB call_isi (by rfl) T.n_isinstance (by decide +kernel) (pa_cons (pv 0) (pa_cons (pe_bltn (v := .ty "bool") (by rfl) T.n_bool (by decide +kernel) rfl) pa_nil)))))))), ?_⟩
    rw [show L2.start N_is_integer [v] = [some v] from rfl]
    try dsimp only [cxOf]
    rw [← isI_ty d] at k
    walk_at "js"
    refine w_isi hd (kit_int d) ?_
    refine w_bl ?_
    cases e : (tyn d == "int" || tyn d == "bool") with
    | false =>
      rw [e] at k
      walk_at "js"
      exact k
    | true =>
      rw [e] at k
      walk_at "js"
      refine w_isi hd (kit_bool d) ?_
      walk_at "js"
      exact k

def sp_BadRound_p__init__ (K : Fr1) : Sp := sp_err (He.ga K "BadRound") "value"
theorem ok_BadRound_p__init__ (T : Txt K mg) : FnOk P w K mg base (L2.CX P w) 1 (a_BadRound_p__init__ K) (d_BadRound_p__init__ K) P_BadRound_p__init__ (sp_BadRound_p__init__ K) := by
  refine T.F_BadRound_p__init__.ok sc_BadRound_p__init__ (fun vs H Q E h => ?_) (fun cdv A outer s H vs Q E hr h => ?_)
  · obtain ⟨_, _, rfl, _⟩ := h
    rfl
  · obtain ⟨a, v, rfl, ha, k⟩ := h
    refine ⟨_, (pss_one (ps_ost (pv 0) (pv 1))), ?_⟩
    exact ⟨_, rfl, _, rfl, a, _, rfl, T.o_BadRound, T.na_BadRound_value, .inl ⟨ha, fun dx h1 h2 => k dx h1 h2⟩⟩

def sp_check_round (K : Fr1) : Sp := fun vs H Q E => ∃ (v : V) (d : PyData), vs = [v] ∧ Dq K H v d ∧ (isRound d = true → Q .non H) ∧ (isRound d = false → Rz K "BadRound" "value" v H E)
theorem ok_check_round (T : Txt K mg) : FnOk P w K mg base (L2.CX P w) 3 (a_check_round K) (d_check_round K) P_check_round (sp_check_round K) := by
  refine T.F_check_round.ok sc_check_round (fun vs H Q E h => ?_) (fun cdv A outer s H vs Q E hr h => ?_)
  · obtain ⟨_, _, rfl, _⟩ := h
    rfl
  · obtain ⟨v, d, rfl, hd, k1, k2⟩ := h
    obtain ⟨t_MOST, h_MOST_ROUND⟩ := T.m_MOST_ROUND
    refine ⟨_, (pss_one (ps_if (PW.pt (pw_or (pt_not (pt_val (pe_call (ok_is_integer T) (hr.mono (by decide)) (by rfl) T.m_is_integer T.F_is_integer.kp (b_is_integer T) .nil passL (pa_cons (pv 0) pa_nil)))) (pw_or1 (pt_not (pt_chain op_le op_le pe_int (pv 0) (pe_glob (v := .int 360) rfl h_MOST_ROUND ⟨_, rfl⟩)))))) (pss_one (ps_raise rfl (takes_of rfl rfl rfl rfl) (pmk_oex T.o_BadRound T.M_BadRound_p__init__.at_ T.t_BadRound_p__init__ (ok_BadRound_p__init__ T) (hr.mono (by decide)) (b_BadRound_p__init__ T) .nil passL (by rfl) T.m_BadRound (pa_cons (pv 0) pa_nil)))) pss_nil)), ?_⟩
    rw [show L2.start N_check_round [v] = [some v] from rfl]
    try dsimp only [cxOf]
    walk_at "js"
    refine ⟨v, d, rfl, hd, ?_⟩
    have bad : isRound d = false → ∀ d1 H', H d1 = none → Ex H H' → H' d1 = some (.xd [("value", v)]) → E (.ref (He.ga K "BadRound")) (some d1) H' := fun z => k2 z
    cases e : isI d with
    | false =>
      walk_at "js"
      refine w_mkO ?_
      walk_at "js"
      exact w_err (bad (by cases d <;> first | rfl | cases e))
    | true =>
      obtain ⟨i, rfl⟩ : ∃ i, d = .int i := by cases d <;> first | exact ⟨_, rfl⟩ | cases e
      cases hd
      walk_at "js"
      refine w_if (fun c1 => ?_) (fun c1 => ?_)
      · walk_at "js"
        refine w_ifn (fun c2 => ?_) (fun c2 => ?_)
        · walk_at "js"
          refine w_mkO ?_
          walk_at "js"
          exact w_err (bad (by simp [isRound, c2]))
        · walk_at "js"
          exact k1 (by simp [isRound, c1, c2])
      · walk_at "js"
        refine w_mkO ?_
        walk_at "js"
        exact w_err (bad (by simp [isRound, c1]))

def sp_is_row (K : Fr1) : Sp := fun vs H Q _ => ∃ (v : V) (d : PyData), vs = [v] ∧ Dq K H v d ∧ ∀ H', Ex H H' → Q (.bl (isRow d)) H'
theorem ok_is_row (T : Txt K mg) : FnOk P w K mg base (L2.CX P w) 1 (a_is_row K) (d_is_row K) P_is_row (sp_is_row K) := by
  refine T.F_is_row.ok sc_is_row (fun vs H Q E h => ?_) (fun cdv A outer s H vs Q E hr h => ?_)
  · obtain ⟨_, _, rfl, _⟩ := h
    rfl
  · obtain ⟨v, d, rfl, hd, k⟩ := h
    refine ⟨_, (pss_one (ps_ret (pe_callB call_isiT (by rfl) T.n_isinstance (by decide +kernel) (pa_cons (pv 0) (pa_cons (pe_tup (pa_cons (pe_bltn (v := .ty "list") (by rfl) T.n_list (by decide +kernel) rfl) (pa_cons (pe_bltn (v := .ty "tuple") (by rfl) T.n_tuple (by decide +kernel) rfl) pa_nil))) pa_nil))))), ?_⟩
    rw [show L2.start N_is_row [v] = [some v] from rfl]
    try dsimp only [cxOf]
    rw [← isRow_ty d] at k
    walk_at "js"
    refine ⟨by show 2 ≤ sizeLine; decide, fun p hp => ?_⟩
    generalize g1 : upd H p _ = H1
    obtain ⟨e1, h1⟩ := gen_new hp g1
    walk_at "js"
    refine w_isiT (hd.mono e1) h1 (kit_list d) (kit_tuple d) ?_
    exact k H1 e1

def sp_BadPlan_p__init__ (K : Fr1) : Sp := sp_err (He.ga K "BadPlan") "at"
theorem ok_BadPlan_p__init__ (T : Txt K mg) : FnOk P w K mg base (L2.CX P w) 1 (a_BadPlan_p__init__ K) (d_BadPlan_p__init__ K) P_BadPlan_p__init__ (sp_BadPlan_p__init__ K) := by
  refine T.F_BadPlan_p__init__.ok sc_BadPlan_p__init__ (fun vs H Q E h => ?_) (fun cdv A outer s H vs Q E hr h => ?_)
  · obtain ⟨_, _, rfl, _⟩ := h
    rfl
  · obtain ⟨a, v, rfl, ha, k⟩ := h
    refine ⟨_, (pss_one (ps_ost (pv 0) (pv 1))), ?_⟩
    exact ⟨_, rfl, _, rfl, a, _, rfl, T.o_BadPlan, T.na_BadPlan_at, .inl ⟨ha, fun dx h1 h2 => k dx h1 h2⟩⟩

def sp_is_word (K : Fr1) : Sp := fun vs H Q _ => ∃ (v : V) (d : PyData), vs = [v] ∧ Dq K H v d ∧ Q (.bl (isW d)) H
theorem ok_is_word (T : Txt K mg) : FnOk P w K mg base (L2.CX P w) 1 (a_is_word K) (d_is_word K) P_is_word (sp_is_word K) := by
  refine T.F_is_word.ok sc_is_word (fun vs H Q E h => ?_) (fun cdv A outer s H vs Q E hr h => ?_)
  · obtain ⟨_, _, rfl, _⟩ := h
    rfl
  · obtain ⟨v, d, rfl, hd, k⟩ := h
    refine ⟨_, (pss_one (ps_ret (pe_and (pe_callB call_isi (by rfl) T.n_isinstance (by decide +kernel) (pa_cons (pv 0) (pa_cons (pe_bltn (v := .ty "str") (by rfl) T.n_str (by decide +kernel) rfl) pa_nil))) (pe_one (pe_cmpR op_in_seq (pv 0) (pe_glob (v := .ref (He.ga K "WORDS")) rfl T.m_WORDS rfl) (by rfl)))))), ?_⟩
    rw [show L2.start N_is_word [v] = [some v] from rfl]
    try dsimp only [cxOf]
    walk_at "js"
    refine w_isi hd (kit_str d) ?_
    refine w_bl ?_
    cases e : (tyn d == "str") with
    | false =>
      walk_at "js"
      have z : isW d = false := by cases d <;> first | rfl | (cases e)
      rw [z] at k
      exact k
    | true =>
      obtain ⟨x, rfl⟩ : ∃ x, d = .str x := by cases d <;> first | exact ⟨_, rfl⟩ | cases e
      cases hd
      rw [isW_mem] at k
      walk_at "js"
      refine w_inS (.inr (T.w_WORDS H)) ?_
      exact k

def sp_is_deed (K : Fr1) : Sp := fun vs H Q _ => ∃ (v : V) (d : PyData), vs = [v] ∧ Dq K H v d ∧ Q (.bl (isDeed d)) H
theorem ok_is_deed (T : Txt K mg) : FnOk P w K mg base (L2.CX P w) 3 (a_is_deed K) (d_is_deed K) P_is_deed (sp_is_deed K) := by
  refine T.F_is_deed.ok sc_is_deed (fun vs H Q E h => ?_) (fun cdv A outer s H vs Q E hr h => ?_)
  · obtain ⟨_, _, rfl, _⟩ := h
    rfl
  · obtain ⟨v, d, rfl, hd, k⟩ := h
    refine ⟨_, (pss_one (ps_ret (pe_and (pe_callB call_isi (by rfl) T.n_isinstance (by decide +kernel) (pa_cons (pv 0) (pa_cons (pe_bltn (v := .ty "tuple") (by rfl) T.n_tuple (by decide +kernel) rfl) pa_nil))) (pe_and (pe_cmpR op_eq (pe_callB call_len_seq (by rfl) T.n_len (by decide +kernel) (pa_cons (pv 0) pa_nil)) pe_int (nomark _)) (pe_and (pe_call (ok_is_word T) (hr.mono (by decide)) (by rfl) T.m_is_word T.F_is_word.kp (b_is_word T) .nil passL (pa_cons (pe_ix ix_tup (pv 0) pe_int (fun _ _ => rfl)) pa_nil)) (pe_one (pe_call (ok_is_integer T) (hr.mono (by decide)) (by rfl) T.m_is_integer T.F_is_integer.kp (b_is_integer T) .nil passL (pa_cons (pe_ix ix_tup (pv 0) pe_int (fun _ _ => rfl)) pa_nil)))))))), ?_⟩
    rw [show L2.start N_is_deed [v] = [some v] from rfl]
    try dsimp only [cxOf]
    walk_at "js"
    refine w_isi hd (kit_tuple d) ?_
    refine w_bl ?_
    cases e : (tyn d == "tuple") with
    | false =>
      walk_at "js"
      have z : isDeed d = false := by cases d <;> first | rfl | (cases e)
      rw [z] at k
      exact k
    | true =>
      obtain ⟨ds, rfl⟩ : ∃ ds, d = .tuple ds := by cases d <;> first | exact ⟨_, rfl⟩ | cases e
      cases hd with
      | @tup a xs _ ha hx =>
        have hl := hx.len
        walk_at "js"
        by_cases c : ((xs.length : Nat) : Int) = 2
        · rw [decide_eq_true c]
          have c2 : xs.length = 2 := by omega
          match xs, ds, hx, c2 with
          | [x, y], [a1, b1], .cons h1 (.cons h2 .nil), _ =>
            walk_at "js"
            refine ⟨x, a1, rfl, h1, ?_⟩
            refine w_bl ?_
            have z : isDeed (.tuple [a1, b1]) = (isW a1 && isI b1) := rfl
            rw [z] at k
            cases e1 : isW a1 with
            | false =>
              walk_at "js"
              rw [e1] at k
              exact k
            | true =>
              rw [e1] at k
              walk_at "js"
              exact ⟨y, b1, rfl, h2, k⟩
        · rw [decide_eq_false c]
          walk_at "js"
          have z : isDeed (.tuple ds) = false := by
            match ds, hl with
            | [], _ => rfl
            | [_], _ => rfl
            | [_, _], hl => exact absurd (by rw [hl]; rfl) c
            | _ :: _ :: _ :: _, _ => rfl
          rw [z] at k
          exact k

def sp_Plan_p__init__ (K : Fr1) : Sp := fun vs H Q E => ∃ (x dx : Addr) (v1 v2 : V) (d1 d2 : PyData), vs = [.ref x, v1, v2] ∧ H x = some (.ins (He.ga K "Plan") dx []) ∧ Dq K H v1 d1 ∧ Dq K H v2 d2 ∧
  (isRound d1 = false → RzX K x "BadRound" "value" v1 H E) ∧ (∀ N i, d1 = .int N → isRound d1 = true → planChk d2 = .error i → RzX K x "BadPlan" "at" (.int i) H E) ∧
  (∀ N ds, d1 = .int N → isRound d1 = true → planChk d2 = .ok ds → ∀ t H', (∀ b o, b ≠ x → H b = some o → H' b = some o) → H' x = some (.ins (He.ga K "Plan") dx (pF N t)) → Dq K H' (.ref t) (.tuple (deD (modD N ds))) → Q .non H')
theorem ok_Plan_p__init__ (T : Txt K mg) : FnOk P w K mg base (L2.CX P w) 9 (a_Plan_p__init__ K) (d_Plan_p__init__ K) P_Plan_p__init__ (sp_Plan_p__init__ K) := by
  refine T.F_Plan_p__init__.ok sc_Plan_p__init__ (fun vs H Q E h => ?_) (fun cdv A outer s H vs Q E hr h => ?_)
  · obtain ⟨_, _, _, _, _, _, rfl, _⟩ := h
    rfl
  · obtain ⟨x, dx, v1, v2, d1, d, rfl, hx, hd1, hd, k1, k2, k3⟩ := h
    obtain ⟨t_MOST, h_MOST_DEEDS⟩ := T.m_MOST_DEEDS
    refine ⟨_, (pss_cons (ps_expr (pe_call (ok_check_round T) (hr.mono (by decide)) (by rfl) T.m_check_round T.F_check_round.kp (b_check_round T) .nil (passes_call (takes_of rfl rfl rfl rfl) (fun _ _ _ _ h => h)) (pa_cons (pv 1) pa_nil)))
    (pss_cons (ps_if (PW.pt (pw_or (pt_not (pt_val (pe_call (ok_is_row T) (hr.mono (by decide)) (by rfl) T.m_is_row T.F_is_row.kp (b_is_row T) .nil passL (pa_cons (pv 2) pa_nil)))) (pw_or1 (pt_cmpR op_gt (pe_callB call_len_seq (by rfl) T.n_len (by decide +kernel) (pa_cons (pv 2) pa_nil)) (pe_glob (v := .int 400) rfl h_MOST_DEEDS ⟨_, rfl⟩) (nomark _))))) (pss_one (ps_raise rfl (takes_of rfl rfl rfl rfl) (pmk_oex T.o_BadPlan T.M_BadPlan_p__init__.at_ T.t_BadPlan_p__init__ (ok_BadPlan_p__init__ T) (hr.mono (by decide)) (b_BadPlan_p__init__ T) .nil passL (by rfl) T.m_BadPlan (pa_cons (pe_un un_neg pe_int) pa_nil)))) pss_nil)
    (pss_cons (ps_for (passes_of rfl) rfl (pi_enumX (by rfl) T.n_enumerate (pa_cons (pv 2) pa_nil)) (pg_tup (by rfl) (pgs_cons (pg_name (i := 3) sc_Plan_p__init__.nd rfl (.inl rfl)) (pgs_cons (pg_name (i := 4) sc_Plan_p__init__.nd rfl (.inl rfl)) pgs_nil))) (pss_one (ps_if (pt_not (pt_val (pe_call (ok_is_deed T) (hr.mono (by decide)) (by rfl) T.m_is_deed T.F_is_deed.kp (b_is_deed T) .nil passL (pa_cons (pv 4) pa_nil)))) (pss_one (ps_raise rfl (takes_of rfl rfl rfl rfl) (pmk_oex T.o_BadPlan T.M_BadPlan_p__init__.at_ T.t_BadPlan_p__init__ (ok_BadPlan_p__init__ T) (hr.mono (by decide)) (b_BadPlan_p__init__ T) .nil passL (by rfl) T.m_BadPlan (pa_cons (pv 3) pa_nil)))) pss_nil)))
    (pss_cons (ps_fld (pv 0) (pv 1) rfl)
    (pss_one (ps_fld (pv 0) (pe_callTy call_tuple_of (by rfl) T.n_tuple (by decide +kernel) (pa_cons (pe_lc (own := [("word", 5), ("turn", 6)]) (g := gTup K 2 (gCons (gName 5) (gCons (gName 6) gNil))) (by rfl) sc_Plan_p__init__.nd (pi_seq (pv 2)) (blkOk_by (N := N_Plan_p__init__) (sc := defScope s_Plan_p__init__) (by decide +kernel)) (fun _ _ _ _ _ => (pg_tup (by rfl) (pgs_cons (pg_name (i := 5) sc_Plan_p__init__.nd rfl (.inl rfl)) (pgs_cons (pg_name (i := 6) sc_Plan_p__init__.nd rfl (.inl rfl)) pgs_nil)))) (fun _ _ _ _ _ => pts_nil) (fun _ _ _ _ _ => (pe_tup (pa_cons (pv 5) (pa_cons (pe_op op_mod (pv 6) (pv 1)) pa_nil))))) pa_nil)) rfl)))))), ?_⟩
    rw [show L2.start N_Plan_p__init__ [.ref x, v1, v2] = [some (.ref x), some v1, some v2, none, none, none, none] from rfl]
    try dsimp only [cxOf]
    walk_at "js"
    refine ⟨v1, d1, rfl, hd1, fun hR => ?_, fun hR => ?_⟩
    · obtain ⟨N, rfl⟩ : ∃ N, d1 = .int N := by cases d1 <;> first | exact ⟨_, rfl⟩ | cases hR
      have hNN : 2 ≤ N ∧ N ≤ 360 := by simpa [isRound] using hR
      cases hd1
      walk_at "js"
      have bad : ∀ {H2 : Hp} (i : Int), planChk d = .error i → Ex H H2 → ∀ d1 H', H2 d1 = none → Ex H2 H' → H' d1 = some (.xd [("at", V.int i)]) → E (.ref (He.ga K "BadPlan")) (some d1) H' := fun i hi e2 d1 H' h1 h2 h3 =>
        k2 N i rfl hR hi d1 H' (e2.free h1) (fun b o _ ho => h2 b o (e2 b o ho)) h3
      refine ⟨v2, d, rfl, hd, fun H1 e1 => ?_⟩
      walk_at "js"
      cases hrow : isRow d with
      | false =>
        walk_at "js"
        refine w_mkO ?_
        walk_at "js"
        refine w_err (bad (-1) ?_ e1)
        unfold planChk
        cases d <;> first | rfl | cases hrow
      | true =>
        obtain ⟨a, xs, ds, rfl, hro, hsq, hda⟩ : ∃ a xs ds, v2 = .ref a ∧ rowsOf d = some ds ∧ Sq K H a xs ∧ DqAll K H xs ds := by
          cases hd with
          | lst h ha => exact ⟨_, _, _, rfl, rfl, .inl h, ha⟩
          | tup h ha => exact ⟨_, _, _, rfl, rfl, .inr h, ha⟩
          | non => cases hrow
          | bl b => cases hrow
          | int i => cases hrow
          | str x => cases hrow
          | dct h => cases hrow
        have hlen := hda.len
        have hchk : planChk d = if 400 < ds.length then .error (-1) else match deedsA 0 ds with
          | .error i => .error (i : Int)
          | .ok rs => .ok rs := by
          unfold planChk
          rw [hro] <;> rfl
        have hsq1 := hsq.mono e1
        walk_at "js"
        refine w_lenX hsq1 ?_
        walk_at "js"
        refine w_if (fun c1 => ?_) (fun c1 => ?_)
        · walk_at "js"
          refine w_mkO ?_
          walk_at "js"
          exact w_err (bad _ (by rw [hchk, if_pos (by omega)]) e1)
        · rw [if_neg (by omega)] at hchk
          walk_at "js"
          refine w_enumX hsq1 fun J wk => ?_
          refine for_it wk (fun i σ' H' => ∃ (l : Deeds) (v3 v4 : Option V), σ' = [some (.ref x), some (.int N), some (.ref a), v3, v4, none, none] ∧ Ex H1 H' ∧ l.length = i ∧
            deedsA 0 ds = (match deedsA i (ds.drop i) with
              | .ok r => .ok (l ++ r)
              | .error e => .error e)) ?_ (fun i σ' H' _ p => ?_) ?_ ?_
          · refine ⟨[], none, none, rfl, Evl.Ex.refl _, rfl, ?_⟩
            rw [List.drop_zero]
            cases deedsA 0 ds <;> rfl
          · obtain ⟨_, _, _, _, e, _⟩ := p
            exact e
          · rintro i y σ' H' H2 hi ⟨l, v3, v4, rfl, e2, hl, hA⟩ ⟨T1, x1, y1, rfl, hT, rfl, hx1, hy1⟩
            cases (Option.some.inj hx1)
            obtain ⟨dd, hdd, hyd⟩ := hda.get hy1
            have hdrop : ds.drop i = dd :: ds.drop (i + 1) := by
              have q := List.getElem?_eq_some_iff.mp hdd
              obtain ⟨q1, q2⟩ := q
              rw [List.drop_eq_getElem_cons q1, q2]
            rw [hdrop] at hA
            generalize g1 : upd H' T1 _ = H2
            obtain ⟨e3, h3⟩ := gen_new hT g1
            have e13 : Ex H H2 := e1.trans (e2.trans e3)
            walk_at "js"
            refine ⟨_, dd, rfl, hyd.mono e13, ?_⟩
            rw [asDeed_isSome]
            rw [deedsA_cons] at hA
            cases hap : asDeed dd with
            | none =>
              rw [hap] at hA
              dsimp only [Option.isSome]
              walk_at "js"
              refine w_mkO ?_
              walk_at "js"
              refine w_err (bad (i : Int) ?_ e13)
              rw [hchk, hA]
            | some p =>
              dsimp only [Option.isSome]
              walk_at "js"
              rw [hap] at hA
              dsimp only at hA
              refine ⟨l ++ [p], _, _, rfl, e2.trans e3, by simp [hl], ?_⟩
              rw [hA]
              cases deedsA (i + 1) (ds.drop (i + 1)) <;> simp
          · rintro σ' H2 ⟨rs, v3, v4, rfl, e2, hl, hA⟩
            have hdr : ds.drop xs.length = [] := List.drop_eq_nil_of_le (by omega)
            rw [hdr] at hA
            have hA2 : deedsA 0 ds = .ok rs := by
              rw [hA]
              simp [deedsA]
            obtain ⟨hds, hgw⟩ := deedsA_eq hA2
            rw [hA2] at hchk
            dsimp only at hchk
            rw [hds] at hda
            have hl2 : rs.length = xs.length := hl
            have e12 := e1.trans e2
            walk_at "js"
            refine ⟨x, _, dx, [], rfl, e12.get hx, T.c_Plan, T.na_Plan_around, by show 0 < 1000; decide, ?_⟩
            generalize g1 : upd H2 x _ = H3
            have k3' : ∀ b o, b ≠ x → H2 b = some o → H3 b = some o := fun b o hb ho => by rw [← g1, upd_ne hb]; exact ho
            have h3x : H3 x = some (.ins (He.ga K "Plan") dx (putF "around" (.int N) [])) := by rw [← g1]; exact upd_same
            have keep : ∀ a o, H2 a = some o → dataO o → H3 a = some o := fun b o ho hno => by
              refine k3' b o (fun e => ?_) ho
              subst e
              rw [e12.get hx] at ho
              cases ho
              exact hno
            have hsq3 : Sq K H3 a xs := (hsq.mono e12).imp (fun h => keep _ _ h trivial) (fun h => keep _ _ h trivial)
            have hda3 : DqAll K H3 xs (deD rs) := (hda.mono e12).rel keep
            walk_at "js"
            refine w_seqX hsq3 fun J3 wk3 => ?_
            refine lc_gen (fun H v d => Dq K H v d) (fun _ _ _ _ e q => q.mono e) wk3 (fun i => (rs[i]?).map fun p => dD (p.1, p.2 % N)) (sz_of (by omega)) (fun Dl i y H4 H5 k1 k2 hD hi e4 hx y kk1 kk2 => ?_) (fun Dl H4 hD e4 hacc => ?_)
            · obtain ⟨rfl, hy1⟩ := y
              obtain ⟨p, t, hp, rfl, ht⟩ := dqA_getD hda3 hy1
              have ht5 := e4.get ht
              walk_at "js"
              refine ⟨rfl, ?_⟩
              walk_at "js"
              refine ⟨by show 2 ≤ sizeLine; decide, fun p2 hp2 => ?_⟩
              refine kk1 (dD (p.1, p.2 % N)) _ _ (by rw [hp]; rfl) (Evl.Ex.new hp2) (.tup (xs := [.str p.1, .int (p.2 % N)]) ?_ (.cons (.str _) (.cons (.int _) .nil)))
              obtain ⟨o, ho⟩ := hx
              rw [del_ne (Ne.symm (ne_of_none ho hp2)), upd_same]
            · obtain ⟨acc, ha, hp⟩ := hacc
              have e5 : (List.range xs.length).filterMap (fun i => (rs[i]?).map fun p => dD (p.1, p.2 % N)) = deD (modD N rs) := by
                rw [← hl2, range_map_get rs (fun p => dD (p.1, p.2 % N))]
                unfold deD modD
                rw [List.map_map]
                rfl
              rw [e5] at hp
              walk_at "js"
              refine ⟨Dl, acc, rfl, .inl ⟨SqL.of ha, fun q hq => ?_⟩⟩
              generalize g6 : upd H4 q _ = H6
              obtain ⟨e6, h6⟩ := gen_new hq g6
              have dq6 := (dqA_of hp).mono e6
              walk_at "js"
              have h6x := (e4.trans e6).get h3x
              refine ⟨x, _, dx, _, rfl, h6x, T.c_Plan, T.na_Plan_deeds, Nat.lt_of_le_of_lt (length_putF _ _ _) (by decide), ?_⟩
              rw [flds2]
              refine k3 N rs rfl hR hchk q _ (fun b o hb ho => ?_) upd_same ?_
              · rw [upd_ne hb]
                exact (e4.trans e6) _ _ (k3' b o hb (e12 _ _ ho))
              · refine (Dq.tup h6 dq6).rel fun b o ho hno => ?_
                rw [upd_ne]
                · exact ho
                · intro e
                  subst e
                  rw [h6x] at ho
                  cases ho
                  exact hno
    · refine fun d H' z1 z2 z3 => k1 hR d H' z1 (fun b o _ ho => z2 b o ho) z3
/-- Plan(u, v), also within try -/
theorem plan_tried {K : Fr1} {H : Hp} {x dx : Addr} {v1 v2 : V} {d1 d2 : PyData} {Q : VK} {E : XK} (hx : H x = none) (hdx : H dx = none) (hd1 : Dq K H v1 d1) (hd2 : Dq K H v2 d2)
    (kR : isRound d1 = false → ∀ d H', Ex H H' → H' d = some (.xd [("value", v1)]) → E (.ref (He.ga K "BadRound")) (some d) H')
    (kE : ∀ N i, d1 = .int N → isRound d1 = true → planChk d2 = .error i → ∀ d H', Ex H H' → H' d = some (.xd [("at", .int i)]) → E (.ref (He.ga K "BadPlan")) (some d) H')
    (kQ : ∀ N ds, d1 = .int N → isRound d1 = true → planChk d2 = .ok ds → ∀ H', Ex H H' → PlanAt K H' (.ref x) N (modD N ds) → Q .non H') :
    sp_Plan_p__init__ K [.ref x, v1, v2] (upd (upd H dx (.own x)) x (.ins (He.ga K "Plan") dx [])) Q E := by
  generalize g4 : upd (upd H dx _) x _ = H4
  have e4 : ∀ b o, b ≠ x → H b = some o → H4 b = some o := fun b o hb ho => by
    rw [← g4, upd_ne hb, upd_ne (fun e => by rw [e, hdx] at ho; cases ho)]
    exact ho
  have e4' : Ex H H4 := fun b o ho => e4 b o (fun e => by rw [e, hx] at ho; cases ho) ho
  have h4 : H4 x = some (.ins (He.ga K "Plan") dx []) := by rw [← g4]; exact upd_same
  have fin : ∀ H' : Hp, (∀ b o, b ≠ x → H4 b = some o → H' b = some o) → Ex H H' := fun H' keep b o ho => keep b o (fun e => by rw [e, hx] at ho; cases ho) (e4' b o ho)
  exact ⟨x, dx, v1, v2, d1, d2, rfl, h4, hd1.mono e4', hd2.mono e4', fun z d H' _ keep hd => kR z d H' (fin H' keep) hd, fun N i e z hz d H' _ keep hd => kE N i e z hz d H' (fin H' keep) hd, fun N rs e z hz t H5 keep hx5 ht5 => kQ N rs e z hz H5 (fin H5 keep) ⟨x, dx, t, rfl, hx5, ht5, modD_good (planChk_eq hz).2.1⟩⟩
/-- Plan(N, deeds), the deeds good -/
theorem plan_made {K : Fr1} {H : Hp} {x dx : Addr} {v2 : V} {d2 : PyData} {N : Int} {ds : Deeds} {Q : VK} {E : XK} (hx : H x = none) (hdx : H dx = none) (hN : 2 ≤ N) (hN2 : N ≤ 360) (g : GoodW ds) (hl : ds.length ≤ 400) (hd : Dq K H v2 d2) (hr : rowsOf d2 = some (deD ds))
    (k : ∀ H', Ex H H' → PlanAt K H' (.ref x) N (modD N ds) → Q .non H') : sp_Plan_p__init__ K [.ref x, .int N, v2] (upd (upd H dx (.own x)) x (.ins (He.ga K "Plan") dx [])) Q E := by
  have ir : isRound (.int N) = true := by simp [isRound]; omega
  refine plan_tried hx hdx (.int N) hd (fun z => ?_) (fun M i e _ z => ?_) (fun M ds' e _ z H' e' pl => ?_)
  · rw [ir] at z; cases z
  · rw [planChk_good hr g hl] at z; cases z
  · cases e
    rw [planChk_good hr g hl] at z
    cases z
    exact k H' e' pl

def sp_Plan_p__len__ (K : Fr1) : Sp := fun vs H Q _ => ∃ (a : Addr) (N : Int) (ds : Deeds), vs = [.ref a] ∧ PlanAt K H (.ref a) N ds ∧ Q (.int ds.length) H
theorem ok_Plan_p__len__ (T : Txt K mg) : FnOk P w K mg base (L2.CX P w) 1 (a_Plan_p__len__ K) (d_Plan_p__len__ K) P_Plan_p__len__ (sp_Plan_p__len__ K) := by
  refine T.F_Plan_p__len__.ok sc_Plan_p__len__ (fun vs H Q E h => ?_) (fun cdv A outer s H vs Q E hr h => ?_)
  · obtain ⟨_, _, _, rfl, _⟩ := h
    rfl
  · obtain ⟨a, N, ds, rfl, ⟨_, dx, t, e, ha, ht, _⟩, k⟩ := h
    cases e
    refine ⟨_, (pss_one (ps_ret (pe_callB call_len_seq (by rfl) T.n_len (by decide +kernel) (pa_cons (pe_fld (pv 0) rfl) pa_nil)))), ?_⟩
    rw [show L2.start N_Plan_p__len__ [.ref a] = [some (.ref a)] from rfl]
    try dsimp only [cxOf]
    obtain ⟨xs, hx, hda⟩ : ∃ xs, H t = some (.tup xs) ∧ DqAll K H xs (deD ds) := by
      cases ht with
      | tup h1 h2 => exact ⟨_, h1, h2⟩
    have hxl : xs.length = ds.length := hda.len.trans (List.length_map ..)
    walk_at "js"
    refine w_fld ha T.c_Plan T.na_Plan_deeds (pF_deeds _ _) ?_
    walk_at "js"
    rw [hxl]
    exact k
theorem plan_len {K : Fr1} {H : Hp} {v : V} {N : Int} {ds : Deeds} {Q : VK} {E : XK} (pl : PlanAt K H v N ds) (hl : ds.length ≤ 1000000) (k : Q (.int ds.length) H) : rLenO (He.ga K "Plan") (sp_Plan_p__len__ K) E [v] H Q := by
  obtain ⟨a, dx, t, rfl, ha, _⟩ := id pl
  exact ⟨a, dx, _, rfl, ha, a, N, ds, rfl, pl, _, rfl, by omega, by omega, k⟩

inductive DueO where
  | round
  | plan (i : Int)
  | good (ds : Deeds)
def DueAt (K : Fr1) (H : Hp) (N : Int) (u : V) (pd : Addr) : DueO → Prop
  | .round => H pd = some (.tup [.str "round", u])
  | .plan i => H pd = some (.tup [.str "plan", .int i])
  | .good ds => ∃ t, H pd = some (.tup [.str "good", .ref t]) ∧ Dq K H (.ref t) (.tuple (deD (modD N ds)))
def FoundAt (K : Fr1) (H : Hp) (N : Int) (u : V) (pd : Addr) : DueO → Prop
  | .round => H pd = some (.tup [.str "round", u])
  | .plan i => H pd = some (.tup [.str "plan", .int i])
  | .good ds => ∃ x, H pd = some (.tup [.str "good", .ref x]) ∧ PlanAt K H (.ref x) N (modD N ds)
def dueIs (du dv : PyData) (N : Int) : DueO → Prop
  | .round => isRound du = false
  | .plan i => isRound du = true ∧ du = .int N ∧ planChk dv = .error i
  | .good rs => isRound du = true ∧ du = .int N ∧ planChk dv = .ok rs
theorem DueAt.mono {K : Fr1} {H H' : Hp} {N : Int} {u : V} {pd : Addr} (e : Ex H H') : ∀ {o : DueO}, DueAt K H N u pd o → DueAt K H' N u pd o
  | .round, h => e.get h
  | .plan _, h => e.get h
  | .good _, ⟨t, h1, h2⟩ => ⟨t, e.get h1, h2.mono e⟩
theorem dueIs_uniq {du dv : PyData} {N : Int} {o o' : DueO} (h : dueIs du dv N o) (h' : dueIs du dv N o') : o = o' := by
  cases o <;> cases o' <;> simp only [dueIs] at h h'
  all_goals first | rfl | (rw [h] at h'; cases h'.1) | (rw [h'] at h; cases h.1) | (obtain ⟨h1, rfl, h3⟩ := h; obtain ⟨_, _, h6⟩ := h'; rw [h3] at h6; cases h6; try rfl)
theorem del_ExP {H H' : Hp} {l : Addr} (e : Ex H H') : Ex (del H l) (del H' l) := Ex.delD (ex_del.trans e) del_same
theorem dqA_setP {K : Fr1} {H : Hp} {v : V} {d : PyData} (hd : Dq K H v d) : ∀ (n : Nat) {xs : List V} {ds : List PyData}, DqAll K H xs ds → DqAll K H (xs.set n v) (ds.set n d)
  | _, _, _, .nil => .nil
  | 0, _, _, .cons _ t => .cons hd t
  | n + 1, _, _, .cons h t => .cons h (dqA_setP hd n t)
theorem dqA_catP {K : Fr1} {H : Hp} : ∀ {xs : List V} {ds : List PyData} {ys : List V} {es : List PyData}, DqAll K H xs ds → DqAll K H ys es → DqAll K H (xs ++ ys) (ds ++ es)
  | [], _, _, _, .nil, h => h
  | _ :: _, _, _, _, .cons h t, h2 => .cons h (dqA_catP t h2)
/-- the list of deeds, apart from the rest -/
def DeedL (K : Fr1) (B H : Hp) (D : Addr) : Prop := B D = none ∧ Ex B H ∧ ∃ acc ds, H D = some (.lst acc) ∧ DqAll K (del H D) acc ds ∧ acc.length ≤ 500
abbrev k_law : Nat := 14
def sp_law (K : Fr1) : Sp := fun vs H Q _ => ∃ (a : Addr) (ns : List Int), vs = [.ref a] ∧ SqL K H a (ns.map V.int) ∧ ns.length ≤ 63 ∧ ∀ H', Q (.bl true) H'
theorem ok_law (T : Txt K mg) : FnOk P w K mg base L2.CX0 k_law (a_law K) (d_law K) P_law (sp_law K) := by
  refine T.F_law.ok sc_law (fun vs H Q E h => ?_) (fun cdv A outer s H vs Q E hr h => ?_)
  · obtain ⟨_, _, rfl, _⟩ := h
    rfl
  · obtain ⟨a, ns, rfl, hS, _, kQ⟩ := h
    refine ⟨_, PSs.nox (pss_cons (ps_set (i := 1) sc_law.nd rfl (.inl rfl) (pe_call (ok_law_state T) (hr.mono (by decide)) (by rfl) T.m__law_state T.F_law_state.kp (b_law_state T) .nil passL (pa_cons (pv 0) pa_nil)))
    (pss_cons (ps_set (i := 2) sc_law.nd rfl (.inl rfl) (pe_call (ok_law_around T) (hr.mono (by decide)) (by rfl) T.m__law_around T.F_law_around.kp (b_law_around T) .nil passL (pa_cons (pv 1) (pa_cons pe_int pa_nil))))
    (pss_cons (ps_set (i := 3) sc_law.nd rfl (.inl rfl) (pe_lst pa_nil))
    (pss_cons (ps_for PassesOwn.never rfl (pi_range1 (by rfl) T.n_range (pa_cons (pe_call (ok_law_draw T) (hr.mono (by decide)) (by rfl) T.m__law_draw T.F_law_draw.kp (b_law_draw T) .nil passL (pa_cons (pv 1) (pa_cons pe_int pa_nil))) pa_nil)) (pg_name (i := 4) sc_law.nd rfl (.inl rfl)) (pss_one (ps_expr (pe_bm PySem.F.plainAttrs_list PySem.F.slot_list_append PySem.F.type_list_append mt_append (pv 3) (pa_cons (pe_tup (pa_cons (pe_ix ix_list (pe_lst (pa_cons pe_str (pa_cons pe_str pa_nil))) (pe_call (ok_law_draw T) (hr.mono (by decide)) (by rfl) T.m__law_draw T.F_law_draw.kp (b_law_draw T) .nil passL (pa_cons (pv 1) (pa_cons pe_int pa_nil))) (fun _ _ => rfl)) (pa_cons (pe_call (ok_law_large T) (hr.mono (by decide)) (by rfl) T.m__law_large T.F_law_large.kp (b_law_large T) .nil passL (pa_cons (pv 1) (pa_cons (pv 2) pa_nil))) pa_nil))) pa_nil)))))
    (pss_cons (ps_set (i := 5) sc_law.nd rfl (.inl rfl) (pe_call (ok_law_draw T) (hr.mono (by decide)) (by rfl) T.m__law_draw T.F_law_draw.kp (b_law_draw T) .nil passL (pa_cons (pv 1) (pa_cons pe_int pa_nil))))
    (Evl.pss_cut (ps_if (pt_cmpR op_lt (pv 5) pe_int (nomark _)) (pss_one (ps_set (i := 3) sc_law.nd rfl (.inl rfl) (pe_op op_cat (pv 3) (pe_lc (own := [("_law_k", 4)]) (g := gName 4) (by rfl) sc_law.nd (pi_range1 (by rfl) T.n_range (pa_cons (pe_op op_sub (pe_op op_add pe_int (pv 5)) (pe_callB call_len_seq (by rfl) T.n_len (by decide +kernel) (pa_cons (pv 3) pa_nil))) pa_nil)) (blkOk_by (N := N_law) (sc := defScope s_law) (by decide +kernel)) (fun _ _ _ _ _ => (pg_name (i := 4) sc_law.nd rfl (.inl rfl))) (fun _ _ _ _ _ => pts_nil) (fun _ _ _ _ _ => (pe_tup (pa_cons pe_str (pa_cons (pv 4) pa_nil)))))))) pss_nil)
    (pss_cons (ps_for PassesOwn.never rfl (pi_range1 (by rfl) T.n_range (pa_cons (pe_call (ok_law_draw T) (hr.mono (by decide)) (by rfl) T.m__law_draw T.F_law_draw.kp (b_law_draw T) .nil passL (pa_cons (pv 1) (pa_cons pe_int pa_nil))) pa_nil)) (pg_name (i := 4) sc_law.nd rfl (.inl rfl)) (pss_cons (ps_set (i := 6) sc_law.nd rfl (.inl rfl) (pe_lst (pa_cons (pe_lst (pa_cons pe_str (pa_cons pe_int pa_nil))) (pa_cons (pe_tup (pa_cons pe_str pa_nil)) (pa_cons (pe_tup (pa_cons pe_str (pa_cons pe_int (pa_cons pe_int pa_nil)))) (pa_cons (pe_tup (pa_cons pe_str (pa_cons pe_int pa_nil))) (pa_cons (pe_tup (pa_cons pe_str (pa_cons pe_bl pa_nil))) (pa_cons (pe_tup (pa_cons pe_str (pa_cons pe_str pa_nil))) (pa_cons (pe_tup (pa_cons pe_non (pa_cons pe_int pa_nil))) (pa_cons pe_int (pa_cons pe_non pa_nil)))))))))))
    (pss_cons (ps_set (i := 6) sc_law.nd rfl (.inl rfl) (pe_op op_cat (pv 6) (pe_lst (pa_cons (pe_tup (pa_cons pe_str (pa_cons pe_non pa_nil))) (pa_cons (pe_tup (pa_cons pe_str (pa_cons pe_int pa_nil))) (pa_cons pe_str (pa_cons (pe_tup (pa_cons (pe_lst (pa_cons pe_str pa_nil)) (pa_cons pe_int pa_nil))) pa_nil)))))))
    (pss_one (ps_if (pt_cmpR op_gt (pe_callB call_len_seq (by rfl) T.n_len (by decide +kernel) (pa_cons (pv 3) pa_nil)) pe_int (nomark _)) (pss_one (ps_asg (pe_ix ix_list (pv 6) (pe_call (ok_law_draw T) (hr.mono (by decide)) (by rfl) T.m__law_draw T.F_law_draw.kp (b_law_draw T) .nil passL (pa_cons (pv 1) (pa_cons (pe_callB call_len_seq (by rfl) T.n_len (by decide +kernel) (pa_cons (pv 6) pa_nil)) pa_nil))) (fun _ _ => rfl)) (pg_sub (pv 3) (pe_call (ok_law_draw T) (hr.mono (by decide)) (by rfl) T.m__law_draw T.F_law_draw.kp (b_law_draw T) .nil passL (pa_cons (pv 1) (pa_cons (pe_callB call_len_seq (by rfl) T.n_len (by decide +kernel) (pa_cons (pv 3) pa_nil)) pa_nil))) set_list))) pss_nil)))))
    (pss_cons (ps_set (i := 7) sc_law.nd rfl (.inl rfl) (pv 3))
    (pss_cons (ps_set (i := 8) sc_law.nd rfl (.inl rfl) (pe_call (ok_law_draw T) (hr.mono (by decide)) (by rfl) T.m__law_draw T.F_law_draw.kp (b_law_draw T) .nil passL (pa_cons (pv 1) (pa_cons pe_int pa_nil))))
    (Evl.pss_cut (ps_if (pt_cmpR op_eq (pv 8) pe_int (nomark _)) (pss_one (ps_set (i := 7) sc_law.nd rfl (.inl rfl) (pe_call (ok_law_strange T) (hr.mono (by decide)) (by rfl) T.m__law_strange T.F_law_strange.kp (b_law_strange T) .nil passL (pa_cons (pv 1) pa_nil)))) pss_nil)
    (Evl.pss_cut (ps_if (pt_cmpR op_eq (pv 8) pe_int (nomark _)) (pss_one (ps_set (i := 7) sc_law.nd rfl (.inl rfl) (pe_callTy call_tuple_of (by rfl) T.n_tuple (by decide +kernel) (pa_cons (pv 3) pa_nil)))) pss_nil)
    (pss_cons (ps_set (i := 9) sc_law.nd rfl (.inl rfl) (pv 2))
    (Evl.pss_cut (ps_if (pt_cmpR op_eq (pe_call (ok_law_draw T) (hr.mono (by decide)) (by rfl) T.m__law_draw T.F_law_draw.kp (b_law_draw T) .nil passL (pa_cons (pv 1) (pa_cons pe_int pa_nil))) pe_int (nomark _)) (pss_one (ps_set (i := 9) sc_law.nd rfl (.inl rfl) (pe_ix ix_list (pe_lst (pa_cons pe_int (pa_cons pe_int (pa_cons pe_int (pa_cons (pe_un un_neg pe_int) (pa_cons pe_bl (pa_cons pe_non (pa_cons pe_str (pa_cons (pe_tup (pa_cons pe_int pa_nil)) pa_nil))))))))) (pe_call (ok_law_draw T) (hr.mono (by decide)) (by rfl) T.m__law_draw T.F_law_draw.kp (b_law_draw T) .nil passL (pa_cons (pv 1) (pa_cons pe_int pa_nil))) (fun _ _ => rfl)))) pss_nil)
    (Evl.pss_cut (ps_set (i := 10) sc_law.nd rfl (.inl rfl) (pe_call (ok_law_due T) (hr.mono (by decide)) (by rfl) T.m__law_due T.F_law_due.kp (b_law_due T) .nil passL (pa_cons (pv 9) (pa_cons (pv 7) pa_nil))))
    (pss_cons (ps_set (i := 11) sc_law.nd rfl (.inl rfl) (pv 7))
    (Evl.pss_cut (ps_if (pt_val (pe_callB call_isi (by rfl) T.n_isinstance (by decide +kernel) (pa_cons (pv 7) (pa_cons (pe_bltn (v := .ty "list") (by rfl) T.n_list (by decide +kernel) rfl) pa_nil)))) (pss_one (ps_set (i := 11) sc_law.nd rfl (.inl rfl) (pe_callTy call_list_of (by rfl) T.n_list (by decide +kernel) (pa_cons (pv 7) pa_nil)))) pss_nil)
    (Evl.pss_cut (ps_try_mix (Wout := fun _ _ _ _ => False) rfl rfl sc_law.nd takes0 (fun W pn xe tk _ => (pss_one (ps_set (i := 12) sc_law.nd rfl (.inl rfl) (pe_tup (pa_cons pe_str (pa_cons (pe_makeKE T.k_Plan (ok_Plan_p__init__ T) (hr.mono (by decide)) (by rfl) T.m_Plan (kbn0 T.F_Plan_p__init__ 1 ["deeds", "around"] [0, 2, 1] (fun _ _ _ _ _ _ us ws h1 h2 => match us, ws, h1, h2 with | [_], [_, _], _, _ => rfl)) (fun σ => passAt tk σ) (pk_cons (pv 7) (pk_cons (pv 9) pk_nil))) pa_nil))))))
    (HdsMix.as (i := 13) rfl rfl ⟨rfl, by decide, .inl T.m_BadRound⟩ (fun a oe cls d pn hz hf => (pss_one (ps_set (i := 12) sc_law.nd rfl (.inl rfl) (pe_tup (pa_cons pe_str (pa_cons (pe_xf T.x_BadRound T.na_BadRound_value hz hf (pv 13)) pa_nil))))))
    (HdsMix.as (i := 13) rfl rfl ⟨rfl, by decide, .inl T.m_BadPlan⟩ (fun a oe cls d pn hz hf => (pss_one (ps_set (i := 12) sc_law.nd rfl (.inl rfl) (pe_tup (pa_cons pe_str (pa_cons (pe_xf T.x_BadPlan T.na_BadPlan_at hz hf (pv 13)) pa_nil))))))
    HdsMix.nil)))
    (pss_cons (ps_if (PW.pt (pw_or (pt_cmpR (op_orR (op_neS hr.units) (op_neLS hr.units)) (pv 7) (pv 11) (nomark _)) (pw_or1 (pt_cmpR op_ne (pe_ix ix_tup (pv 12) pe_int (fun _ _ => rfl)) (pe_ix ix_tup (pv 10) pe_int (fun _ _ => rfl)) (nomark _))))) (pss_one (ps_ret pe_bl)) pss_nil)
    (pss_cons (ps_if (pt_cmpR op_ne (pe_ix ix_tup (pv 10) pe_int (fun _ _ => rfl)) pe_str (nomark _)) (pss_one (ps_ret (pe_and (pe_cmpR (op_eqS hr.units) (pe_ix ix_tup (pv 12) pe_int (fun _ _ => rfl)) (pe_ix ix_tup (pv 10) pe_int (fun _ _ => rfl)) (nomark _)) (pe_one (pe_cmpR op_eq (pe_callB call_isi (by rfl) T.n_isinstance (by decide +kernel) (pa_cons (pe_ix ix_tup (pv 12) pe_int (fun _ _ => rfl)) (pa_cons (pe_bltn (v := .ty "bool") (by rfl) T.n_bool (by decide +kernel) rfl) pa_nil))) (pe_callB call_isi (by rfl) T.n_isinstance (by decide +kernel) (pa_cons (pe_ix ix_tup (pv 10) pe_int (fun _ _ => rfl)) (pa_cons (pe_bltn (v := .ty "bool") (by rfl) T.n_bool (by decide +kernel) rfl) pa_nil))) (nomark _)))))) pss_nil)
    (pss_cons (ps_set (i := 14) sc_law.nd rfl (.inl rfl) (pe_ix ix_tup (pv 12) pe_int (fun _ _ => rfl)))
    (Evl.pss_cut (ps_if (pt_val (pe_callB call_isi (by rfl) T.n_isinstance (by decide +kernel) (pa_cons (pv 7) (pa_cons (pe_bltn (v := .ty "list") (by rfl) T.n_list (by decide +kernel) rfl) pa_nil)))) (pss_cons (ps_expr (pe_bm PySem.F.plainAttrs_list PySem.F.slot_list_append PySem.F.type_list_append mt_append (pv 7) (pa_cons (pe_tup (pa_cons pe_str (pa_cons pe_int pa_nil))) pa_nil)))
    (pss_one (ps_asg (pe_tup (pa_cons pe_str (pa_cons pe_int pa_nil))) (pg_sub (pv 7) pe_int set_list)))) pss_nil)
    (pss_one (ps_ret (pe_and (pe_cmpR (op_eqD hr.units) (pe_fld (pv 14) rfl) (pe_ix ix_tup (pv 10) pe_int (fun _ _ => rfl)) (nomark _)) (pe_and (pe_callB call_isi (by rfl) T.n_isinstance (by decide +kernel) (pa_cons (pe_fld (pv 14) rfl) (pa_cons (pe_bltn (v := .ty "tuple") (by rfl) T.n_tuple (by decide +kernel) rfl) pa_nil))) (pe_and (pe_cmpR op_eq (pe_fld (pv 14) rfl) (pv 9) (nomark _)) (pe_one (pe_cmpR op_eq (pe_callB (call_lenO T.M_Plan_p__len__ (ok_Plan_p__len__ T) (hr.mono (by decide)) (b_Plan_p__len__ T) passL) (by rfl) T.n_len (by decide +kernel) (pa_cons (pv 14) pa_nil)) (pe_callB call_len_seq (by rfl) T.n_len (by decide +kernel) (pa_cons (pe_ix ix_tup (pv 10) pe_int (fun _ _ => rfl)) pa_nil)) (nomark _))))))))))))))))))))))))))))), ?_⟩
    rw [show L2.start N_law [.ref a] = [some (.ref a), none, none, none, none, none, none, none, none, none, none, none, none, none, none] from rfl]
    try dsimp only [cxOf]
    have lim : 1000 < sizeLine := by decide
    walk_at "js"
    refine ⟨a, ns, rfl, hS, fun L s H1 e1 hs hL => ?_⟩
    walk_at "js"
    refine ⟨s, L, _, 360, rfl, hs, hL, by omega, by omega, fun N hN hN2 => ?_⟩
    walk_at "js"
    refine ⟨by decide, fun D hD => ?_⟩
    generalize g2 : upd H1 D _ = H2
    obtain ⟨e2, h2⟩ := gen_new hD g2
    walk_at "js"
    refine ⟨s, L, _, 31, rfl, e2.get hs, e2.get hL, by omega, by omega, fun q q0 q1 => ?_⟩
    walk_at "js"
    refine ⟨_, rfl, by omega, by omega, ?_⟩
    refine for_range (lo := 0) (n := q.toNat) (fun i σ' H' => Ex H1 H' ∧ ∃ (acc : List V) (ds : List PyData) (v4 : Option V), σ' = [some (.ref a), some (.ref s), some (.int N), some (.ref D), v4, none, none, none, none, none, none, none, none, none, none] ∧ H' D = some (.lst acc) ∧ DqAll K (del H' D) acc ds ∧ acc.length ≤ i) ?_ ?_ ?_
    · exact ⟨e2, [], [], _, rfl, h2, .nil, by show 0 ≤ 0; omega⟩
    · rintro i σ' A1 hi ⟨a1, acc, ds, v4, rfl, hacc, hda, hal⟩
      walk_at "js"
      refine ⟨sz_of (by simp), fun t1 hp_t1 => ?_⟩
      generalize g_t1 : upd A1 t1 _ = A2
      obtain ⟨e_A2, h_t1⟩ := gen_new hp_t1 g_t1
      walk_at "js"
      have x2 := a1.trans e_A2
      refine ⟨s, L, _, 2, rfl, x2.get hs, x2.get hL, by omega, by omega, fun z z0 z1 => ?_⟩
      obtain ⟨wd, hwd⟩ : ∃ wd : Str, atI [V.str "push", .str "squeeze"] z = some (.str wd) := by
        rcases (show z = 0 ∨ z = 1 by omega) with rfl | rfl
        · exact ⟨_, rfl⟩
        · exact ⟨_, rfl⟩
      refine w_ixL (SqL.of h_t1) hwd ?_
      walk_at "js"
      refine ⟨s, L, _, N, rfl, x2.get hs, x2.get hL, by omega, by omega, fun lg _ => ?_⟩
      walk_at "js"
      refine ⟨sz_of (by simp), fun tp hp_tp => ?_⟩
      generalize g_tp : upd A2 tp _ = A3
      obtain ⟨e_A3, h_tp⟩ := gen_new hp_tp g_tp
      walk_at "js"
      have x3 := x2.trans e_A3
      have hacc3 := (e_A2.trans e_A3).get hacc
      refine w_append hacc3 (by omega) ?_
      have hpD : tp ≠ D := fun z => by
        rw [z, e_A2.get hacc] at hp_tp
        cases hp_tp
      have hda3 : DqAll K (del (upd A3 D (.lst (acc ++ [V.ref tp]))) D) (acc ++ [V.ref tp]) (ds ++ [.tuple [.str wd, .int lg]]) :=
        dqA_app hda (e_A2.trans e_A3) (.tup (by rw [del_ne hpD]; exact h_tp) (.cons (.str _) (.cons (.int _) .nil)))
      generalize g7 : upd A3 D _ = A4 at hda3 ⊢
      obtain ⟨x4, h4, _⟩ := gen_mut hD x3 g7
      walk_at "js"
      exact ⟨x4, _, _, _, rfl, h4, hda3, by rw [List.length_append]; show acc.length + 1 ≤ i + 1; omega⟩
    · rintro σ' A1 ⟨a1, acc, ds, v4, rfl, hacc, hda, hal⟩
      walk_at "js"
      refine ⟨s, L, _, 8, rfl, a1.get hs, a1.get hL, by omega, by omega, fun sz z0 z1 => ?_⟩
      walk_at "js"
      refine Evl.q_cut (M := fun σ' H' => ∃ (D : Addr) (v4 : Option V), σ' = [some (.ref a), some (.ref s), some (.int N), some (.ref D), v4, some (.int sz), none, none, none, none, none, none, none, none, none] ∧ DeedL K H1 H' D) ?_ ?_
      · walk_at "js"
        refine w_if (fun c => ?_) (fun c => ?_)
        · walk_at "js"
          refine ⟨_, rfl, by omega, by omega, ?_⟩
          have hnn : (400 + sz - (acc.length : Int)).toNat ≤ 401 := by omega
          refine lc_gen (fun H v d => Dq K H v d) (fun _ _ _ _ e q => q.mono e) (walk_range.mono (fun _ _ => trivial) fun _ _ _ _ _ _ y => y) (fun i : Nat => some (dD ("push", 0 + (i : Int)))) (by omega) (fun Dl i y A2 A3 k1 k2 hDl hi e4 hx y kk1 kk2 => ?_) (fun Dl A2 hDl e4 hacc2 => ?_)
          · obtain ⟨rfl, rfl⟩ := y
            walk_at "js"
            refine ⟨rfl, ?_⟩
            walk_at "js"
            refine ⟨by show 2 ≤ sizeLine; decide, fun p2 hp2 => ?_⟩
            refine kk1 _ _ _ rfl (Evl.Ex.new hp2) (.tup (xs := [.str "push", .int (0 + (i : Int))]) ?_ (.cons (.str _) (.cons (.int _) .nil)))
            obtain ⟨o, ho⟩ := hx
            rw [del_ne (Ne.symm (ne_of_none ho hp2)), upd_same]
          · obtain ⟨acc2, ha2, hp2⟩ := hacc2
            have hl2 := hp2.length
            have hl3 := List.length_filterMap_le (fun i : Nat => some (dD ("push", 0 + (i : Int)))) (List.range (400 + sz - (acc.length : Int)).toNat)
            rw [List.length_range] at hl3
            walk_at "js"
            refine ⟨D, Dl, acc, acc2, rfl, rfl, e4.get hacc, ha2, ?_, fun D2 hD2 => ?_⟩
            · omega
            generalize g5 : upd A2 D2 _ = A5
            obtain ⟨e5, h5⟩ := gen_new hD2 g5
            have hc : DqAll K A2 (acc ++ acc2) _ := dqA_catP ((hda.mono ex_del).mono e4) (dqA_of hp2)
            walk_at "js"
            refine ⟨D2, _, rfl, (a1.trans e4).free hD2, a1.trans (e4.trans e5), _, _, h5, hc.mono (Ex.delD e5 hD2), by rw [List.length_append]; omega⟩
        · walk_at "js"
          exact ⟨D, _, rfl, hD, a1, acc, ds, hacc, hda, by omega⟩
      · rintro σ' A2 ⟨D, v4, rfl, dl⟩
        obtain ⟨hD, x2, _⟩ := id dl
        walk_at "js"
        refine ⟨s, L, _, 3, rfl, x2.get hs, x2.get hL, by omega, by omega, fun q q0 q1 => ?_⟩
        walk_at "js"
        refine ⟨_, rfl, by omega, by omega, ?_⟩
        refine for_range (lo := 0) (n := q.toNat) (fun i σ' H' => ∃ (v4 v6 : Option V), σ' = [some (.ref a), some (.ref s), some (.int N), some (.ref D), v4, some (.int sz), v6, none, none, none, none, none, none, none, none] ∧ DeedL K H1 H' D) ?_ ?_ ?_
        · exact ⟨_, _, rfl, dl⟩
        · rintro i σ' A3 hi ⟨v4, v6, rfl, _, x3, acc, ds, hacc, hda, hal⟩
          walk_at "js"
          refine ⟨sz_of (by simp), fun b1 hp_b1 => ?_⟩
          generalize g_b1 : upd A3 b1 _ = B1
          obtain ⟨e_B1, h_b1⟩ := gen_new hp_b1 g_b1
          walk_at "js"
          refine ⟨sz_of (by simp), fun b2 hp_b2 => ?_⟩
          generalize g_b2 : upd B1 b2 _ = B2
          obtain ⟨e_B2, h_b2⟩ := gen_new hp_b2 g_b2
          walk_at "js"
          refine ⟨sz_of (by simp), fun b3 hp_b3 => ?_⟩
          generalize g_b3 : upd B2 b3 _ = B3
          obtain ⟨e_B3, h_b3⟩ := gen_new hp_b3 g_b3
          walk_at "js"
          refine ⟨sz_of (by simp), fun b4 hp_b4 => ?_⟩
          generalize g_b4 : upd B3 b4 _ = B4
          obtain ⟨e_B4, h_b4⟩ := gen_new hp_b4 g_b4
          walk_at "js"
          refine ⟨sz_of (by simp), fun b5 hp_b5 => ?_⟩
          generalize g_b5 : upd B4 b5 _ = B5
          obtain ⟨e_B5, h_b5⟩ := gen_new hp_b5 g_b5
          walk_at "js"
          refine ⟨sz_of (by simp), fun b6 hp_b6 => ?_⟩
          generalize g_b6 : upd B5 b6 _ = B6
          obtain ⟨e_B6, h_b6⟩ := gen_new hp_b6 g_b6
          walk_at "js"
          refine ⟨sz_of (by simp), fun b7 hp_b7 => ?_⟩
          generalize g_b7 : upd B6 b7 _ = B7
          obtain ⟨e_B7, h_b7⟩ := gen_new hp_b7 g_b7
          walk_at "js"
          refine ⟨sz_of (by simp), fun bl hp_bl => ?_⟩
          generalize g_bl : upd B7 bl _ = BL
          obtain ⟨e_BL, h_bl⟩ := gen_new hp_bl g_bl
          walk_at "js"
          refine ⟨sz_of (by simp), fun c1 hp_c1 => ?_⟩
          generalize g_c1 : upd BL c1 _ = C1
          obtain ⟨e_C1, h_c1⟩ := gen_new hp_c1 g_c1
          walk_at "js"
          refine ⟨sz_of (by simp), fun c2 hp_c2 => ?_⟩
          generalize g_c2 : upd C1 c2 _ = C2
          obtain ⟨e_C2, h_c2⟩ := gen_new hp_c2 g_c2
          walk_at "js"
          refine ⟨sz_of (by simp), fun c3 hp_c3 => ?_⟩
          generalize g_c3 : upd C2 c3 _ = C3
          obtain ⟨e_C3, h_c3⟩ := gen_new hp_c3 g_c3
          walk_at "js"
          refine ⟨sz_of (by simp), fun c4 hp_c4 => ?_⟩
          generalize g_c4 : upd C3 c4 _ = C4
          obtain ⟨e_C4, h_c4⟩ := gen_new hp_c4 g_c4
          walk_at "js"
          refine ⟨sz_of (by simp), fun cl hp_cl => ?_⟩
          generalize g_cl : upd C4 cl _ = CL
          obtain ⟨e_CL, h_cl⟩ := gen_new hp_cl g_cl
          walk_at "js"
          have z_CL : Ex CL CL := Evl.Ex.refl _
          have z_C4 : Ex C4 CL := e_CL.trans z_CL
          have z_C3 : Ex C3 CL := e_C4.trans z_C4
          have z_C2 : Ex C2 CL := e_C3.trans z_C3
          have z_C1 : Ex C1 CL := e_C2.trans z_C2
          have z_BL : Ex BL CL := e_C1.trans z_C1
          have z_B7 : Ex B7 CL := e_BL.trans z_BL
          have z_B6 : Ex B6 CL := e_B7.trans z_B7
          have z_B5 : Ex B5 CL := e_B6.trans z_B6
          have z_B4 : Ex B4 CL := e_B5.trans z_B5
          have z_B3 : Ex B3 CL := e_B4.trans z_B4
          have z_B2 : Ex B2 CL := e_B3.trans z_B3
          have z_B1 : Ex B1 CL := e_B2.trans z_B2
          have z_A3 : Ex A3 CL := e_B1.trans z_B1
          refine ⟨bl, cl, _, _, rfl, rfl, z_BL.get h_bl, h_cl, sz_of (by simp), fun tR hp_tR => ?_⟩
          generalize g_tR : upd CL tR _ = BR
          obtain ⟨e_BR, h_tR⟩ := gen_new hp_tR g_tR
          have y3 : Ex A3 BR := z_A3.trans e_BR
          have x_R := x3.trans y3
          have hlR := y3.get hacc
          have hdR : DqAll K (del BR D) acc ds := hda.mono (del_ExP y3)
          walk_at "js"
          refine w_if (fun cc => ?_) (fun cc => ?_)
          · walk_at "js"
            refine ⟨s, L, _, 13, rfl, x_R.get hs, x_R.get hL, by omega, by omega, fun q q0 q1 => ?_⟩
            have tt : ∀ {B : Hp} {t : Addr} {ys : List V}, Ex B CL → B t = some (.tup ys) → del BR D t = some (.tup ys) := fun {B t ys} e h => by
              have h2 := (e.trans e_BR).get h
              rw [del_ne (ne_of h2 hlR (by intro z; cases z))]
              exact h2
            have ll : ∀ {B B0 : Hp} {t : Addr} {ys : List V}, Ex A3 B0 → B0 t = none → Ex B CL → B t = some (.lst ys) → del BR D t = some (.lst ys) := fun {B B0 t ys} e0 hn e h => by
              rw [del_ne (Ne.symm (ne_of_none (e0.get hacc) hn))]
              exact (e.trans e_BR).get h
            have x7 : Ex A3 C2 := e_B1.trans (e_B2.trans (e_B3.trans (e_B4.trans (e_B5.trans (e_B6.trans (e_B7.trans (e_BL.trans (e_C1.trans e_C2))))))))
            have all : ∀ n : Nat, n < 13 → ∃ u, atI ([V.ref b1, .ref b2, .ref b3, .ref b4, .ref b5, .ref b6, .ref b7, .int 5, .non] ++ [V.ref c1, .ref c2, .str "push 1", .ref c4]) n = some u ∧ ∃ du, Dq K (del BR D) u du := fun n hn =>
              match n, hn with
              | 0, _ => ⟨_, rfl, _, .lst (ll (Evl.Ex.refl _) hp_b1 z_B1 h_b1) (.cons (.str _) (.cons (.int _) .nil))⟩
              | 1, _ => ⟨_, rfl, _, .tup (tt z_B2 h_b2) (.cons (.str _) .nil)⟩
              | 2, _ => ⟨_, rfl, _, .tup (tt z_B3 h_b3) (.cons (.str _) (.cons (.int _) (.cons (.int _) .nil)))⟩
              | 3, _ => ⟨_, rfl, _, .tup (tt z_B4 h_b4) (.cons (.str _) (.cons (.int _) .nil))⟩
              | 4, _ => ⟨_, rfl, _, .tup (tt z_B5 h_b5) (.cons (.str _) (.cons (.bl _) .nil))⟩
              | 5, _ => ⟨_, rfl, _, .tup (tt z_B6 h_b6) (.cons (.str _) (.cons (.str _) .nil))⟩
              | 6, _ => ⟨_, rfl, _, .tup (tt z_B7 h_b7) (.cons .non (.cons (.int _) .nil))⟩
              | 7, _ => ⟨_, rfl, _, .int _⟩
              | 8, _ => ⟨_, rfl, _, .non⟩
              | 9, _ => ⟨_, rfl, _, .tup (tt z_C1 h_c1) (.cons (.str _) (.cons .non .nil))⟩
              | 10, _ => ⟨_, rfl, _, .tup (tt z_C2 h_c2) (.cons (.str _) (.cons (.int _) .nil))⟩
              | 11, _ => ⟨_, rfl, _, .str _⟩
              | 12, _ => ⟨_, rfl, _, .tup (tt z_C4 h_c4) (.cons (.lst (ll x7 hp_c3 z_C3 h_c3) (.cons (.str _) .nil)) (.cons (.int _) .nil))⟩
              | n + 13, h => absurd h (by omega)
            obtain ⟨u, hu, du, hu1⟩ := all q.toNat (by omega)
            rw [show ((q.toNat : Nat) : Int) = q by omega] at hu
            refine w_ixL (SqL.of h_tR) hu ?_
            walk_at "js"
            refine ⟨s, L, _, _, rfl, x_R.get hs, x_R.get hL, by omega, by omega, fun q2 q20 q21 => ?_⟩
            obtain ⟨j, rfl⟩ : ∃ j : Nat, q2 = (j : Int) := ⟨q2.toNat, by omega⟩
            have hj : j < acc.length := by omega
            walk_at "js"
            refine w_setL (j := j) hlR (Evl.ixN_nat hj) ?_
            generalize g4 : upd BR D _ = E4
            obtain ⟨x4, h4, k4⟩ := gen_mut hD x_R g4
            have e4 : del E4 D = del BR D := by rw [← g4]; exact del_upd
            walk_at "js"
            refine ⟨_, _, rfl, hD, x4, _, ds.set j du, h4, ?_, by rw [List.length_set]; omega⟩
            rw [e4]
            exact dqA_setP hu1 j hdR
          · walk_at "js"
            exact ⟨_, _, rfl, hD, x_R, acc, ds, hlR, hdR, hal⟩
        · rintro σ' A3 ⟨v4, v6, rfl, dl⟩
          obtain ⟨_, x3, acc, ds, hacc, hda, hal⟩ := id dl
          walk_at "js"
          refine ⟨s, L, _, 8, rfl, x3.get hs, x3.get hL, by omega, by omega, fun kd kd0 kd1 => ?_⟩
          walk_at "js"
          have base : ∃ dv, Dq K A3 (.ref D) dv ∧ SameV K A3 (.ref D) := ⟨_, .lst hacc (hda.mono ex_del), .inr (.inl ⟨D, _, rfl, .inl hacc⟩)⟩
          refine Evl.q_cut (M := fun σ' H' => ∃ v : V, σ' = [some (.ref a), some (.ref s), some (.int N), some (.ref D), v4, some (.int sz), v6, some v, some (.int kd), none, none, none, none, none, none] ∧ Ex A3 H' ∧ ∃ dv, Dq K H' v dv ∧ SameV K H' v) ?_ ?_
          · walk_at "js"
            refine w_if (fun c => ?_) (fun c => ?_)
            · walk_at "js"
              refine ⟨s, L, _, rfl, x3.get hs, x3.get hL, fun th A4 e4 odd => ?_⟩
              obtain ⟨hsv, od, hod, hoi, _⟩ := odd
              walk_at "js"
              exact ⟨th, rfl, e4, od, hod, hsv⟩
            · walk_at "js"
              exact ⟨_, rfl, Evl.Ex.refl _, base⟩
          · rintro σ' A4 ⟨v, rfl, e4, hv⟩
            walk_at "js"
            refine Evl.q_cut (M := fun σ' H' => ∃ v : V, σ' = [some (.ref a), some (.ref s), some (.int N), some (.ref D), v4, some (.int sz), v6, some v, some (.int kd), none, none, none, none, none, none] ∧ Ex A3 H' ∧ ∃ dv, Dq K H' v dv ∧ SameV K H' v) ?_ ?_
            · walk_at "js"
              refine w_if (fun c => ?_) (fun c => ?_)
              · walk_at "js"
                refine ⟨D, acc, rfl, .inl ⟨SqL.of (e4.get hacc), fun q hq => ?_⟩⟩
                generalize g5 : upd A4 q _ = A5
                obtain ⟨e5, h5⟩ := gen_new hq g5
                walk_at "js"
                exact ⟨_, rfl, e4.trans e5, _, .tup h5 ((hda.mono ex_del).mono (e4.trans e5)), .inr (.inl ⟨q, _, rfl, .inr h5⟩)⟩
              · walk_at "js"
                exact ⟨_, rfl, e4, hv⟩
            · rintro σ' A5 ⟨v, rfl, e5, dv, hdv, hsv⟩
              clear hv
              have x5 := x3.trans e5
              walk_at "js"
              refine Evl.q_cut (M := fun σ' H' => ∃ (u : V) (du : PyData), σ' = [some (.ref a), some (.ref s), some (.int N), some (.ref D), v4, some (.int sz), v6, some v, some (.int kd), some u, none, none, none, none, none] ∧ Ex A5 H' ∧ Dq K H' u du ∧ SameV K H' u ∧ (du = .int N ∨ isRound du = false)) ?_ ?_
              · walk_at "js"
                refine ⟨s, L, _, 6, rfl, x5.get hs, x5.get hL, by omega, by omega, fun q q0 q1 => ?_⟩
                walk_at "js"
                refine w_if (fun c => ?_) (fun c => ?_)
                · walk_at "js"
                  refine ⟨sz_of (by simp), fun t1 hp_t1 => ?_⟩
                  generalize g_t1 : upd A5 t1 _ = A6
                  obtain ⟨e_A6, h_t1⟩ := gen_new hp_t1 g_t1
                  walk_at "js"
                  refine ⟨sz_of (by simp), fun tl hp_tl => ?_⟩
                  generalize g_tl : upd A6 tl _ = A7
                  obtain ⟨e_A7, h_tl⟩ := gen_new hp_tl g_tl
                  walk_at "js"
                  have x7 := x5.trans (e_A6.trans e_A7)
                  refine ⟨s, L, _, 8, rfl, x7.get hs, x7.get hL, by omega, by omega, fun q2 q20 q21 => ?_⟩
                  have y7 : Ex A5 A7 := e_A6.trans e_A7
                  have ht7 := e_A7.get h_t1
                  have all : ∀ n : Nat, n < 8 → ∃ u, atI [V.int 0, .int 1, .int 361, .int (-12), .bl true, .non, .str "12", .ref t1] n = some u ∧ ∃ du, Dq K A7 u du ∧ SameV K A7 u ∧ isRound du = false := fun n hn =>
                    match n, hn with
                    | 0, _ => ⟨_, rfl, _, .int _, .inl rfl, rfl⟩
                    | 1, _ => ⟨_, rfl, _, .int _, .inl rfl, rfl⟩
                    | 2, _ => ⟨_, rfl, _, .int _, .inl rfl, rfl⟩
                    | 3, _ => ⟨_, rfl, _, .int _, .inl rfl, rfl⟩
                    | 4, _ => ⟨_, rfl, _, .bl _, .inl rfl, rfl⟩
                    | 5, _ => ⟨_, rfl, _, .non, .inl rfl, rfl⟩
                    | 6, _ => ⟨_, rfl, _, .str _, .inl rfl, rfl⟩
                    | 7, _ => ⟨_, rfl, _, .tup ht7 (.cons (.int _) .nil), .inr (.inl ⟨t1, _, rfl, .inr ht7⟩), rfl⟩
                    | n + 8, h => absurd h (by omega)
                  obtain ⟨u, hu, du, hu1, hu2, hu3⟩ := all q2.toNat (by omega)
                  rw [show ((q2.toNat : Nat) : Int) = q2 by omega] at hu
                  refine w_ixL (SqL.of h_tl) hu ?_
                  walk_at "js"
                  exact ⟨u, du, rfl, y7, hu1, hu2, .inr hu3⟩
                · walk_at "js"
                  exact ⟨_, _, rfl, Evl.Ex.refl _, .int _, .inl rfl, .inl rfl⟩
              · rintro σ' A6 ⟨u, du, rfl, e6, hdu, hsu, hor⟩
                have hdv6 := hdv.mono e6
                have hsv6 := hsv.mono e6
                walk_at "js"
                refine Evl.q_cut (M := fun σ' H' => ∃ (o : DueO) (pd : Addr), σ' = [some (.ref a), some (.ref s), some (.int N), some (.ref D), v4, some (.int sz), v6, some v, some (.int kd), some u, some (.ref pd), none, none, none, none] ∧ Ex A6 H' ∧ DueAt K H' N u pd o ∧ dueIs du dv N o) ?_ ?_
                · walk_at "js"
                  refine ⟨u, v, du, dv, rfl, hdu, hdv6, fun hR pd H' e h => ?_, fun M hM hR => ?_⟩
                  · exact ⟨.round, pd, rfl, e, h, hR⟩
                  · have hMN : M = N ∧ du = .int N := by
                      rcases hor with hor | hor
                      · rw [hor] at hM; cases hM; exact ⟨rfl, hor⟩
                      · rw [hor] at hR; cases hR
                    obtain ⟨rfl, hdN⟩ := hMN
                    exact ⟨fun i hi pd H' e h => ⟨.plan i, pd, rfl, e, h, hR, hdN, hi⟩, fun ds hds pd t H' e h hd => ⟨.good ds, pd, rfl, e, ⟨t, h, hd⟩, hR, hdN, hds⟩⟩
                · rintro σ' A7 ⟨o, pd, rfl, e7, hdue, his⟩
                  have hdv7 := hdv6.mono e7
                  walk_at "js"
                  refine Evl.q_cut (M := fun σ' H' => ∃ kv : V, σ' = [some (.ref a), some (.ref s), some (.int N), some (.ref D), v4, some (.int sz), v6, some v, some (.int kd), some u, some (.ref pd), some kv, none, none, none] ∧ Ex A7 H' ∧
                    (kv = v ∨ ∃ ka kb ys, v = .ref ka ∧ kv = .ref kb ∧ H' ka = some (.lst ys) ∧ H' kb = some (.lst ys) ∧ ∀ z ∈ ys, flatV z = true ∨ ∃ c, z = .ref c)) ?_ ?_
                  · walk_at "js"
                    refine w_isi hdv7 (kit_list dv) ?_
                    walk_at "js"
                    cases hli : (tyn dv == "list") with
                    | false =>
                      walk_at "js"
                      exact ⟨v, rfl, Evl.Ex.refl _, .inl rfl⟩
                    | true =>
                      cases hdv7 with
                      | lst h ha =>
                        walk_at "js"
                        intro kb hkb
                        generalize g5 : upd A7 kb _ = A8
                        obtain ⟨e8, h8⟩ := gen_new hkb g5
                        walk_at "js"
                        exact ⟨_, rfl, e8, .inr ⟨_, kb, _, rfl, rfl, e8.get h, h8, dqA_flat ha⟩⟩
                      | tup h ha => cases hli
                      | non => cases hli
                      | bl b => cases hli
                      | int i => cases hli
                      | str x => cases hli
                      | dct h => cases hli
                  · rintro σ' A8 ⟨kv, rfl, e8, hkv⟩
                    have e68 := e7.trans e8
                    walk_at "js"
                    refine Evl.q_cut (M := fun σ' H' => ∃ (pf : Addr) (v13 : Option V), σ' = [some (.ref a), some (.ref s), some (.int N), some (.ref D), v4, some (.int sz), v6, some v, some (.int kd), some u, some (.ref pd), some kv, some (.ref pf), v13, none] ∧ Ex A8 H' ∧ FoundAt K H' N u pf o) ?_ ?_
                    · walk_at "js"
                      refine ⟨rfl, fun x dx hx hdx _ => ?_⟩
                      refine plan_tried hx hdx (hdu.mono e68) (hdv6.mono e68) (fun hR dd A9 e9 hdd => ?_) (fun M i hM hR hi dd A9 e9 hdd => ?_) (fun M ds hM hR hds A9 e9 pl => ?_)
                      · obtain rfl := dueIs_uniq his (show dueIs du dv N .round from hR)
                        refine w_mixAs T.e_BadRound fun ea hea => ?_
                        walk_at "js"
                        refine ⟨_, rfl, rfl, rfl, dd, _, u, rfl, hdd, lk_eq, ?_⟩
                        try dsimp only [List.set_cons_zero, List.set_cons_succ]
                        walk_at "js"
                        refine ⟨by show 2 ≤ sizeLine; decide, fun pf hpf => ?_⟩
                        exact ⟨pf, _, rfl, e9.trans (Evl.Ex.new hpf), upd_same⟩
                      · have hMN : M = N ∧ du = .int N := by
                          rcases hor with hor | hor
                          · rw [hor] at hM; cases hM; exact ⟨rfl, hor⟩
                          · rw [hor] at hR; cases hR
                        obtain ⟨rfl, hdN⟩ := hMN
                        obtain rfl := dueIs_uniq his (show dueIs du dv M (.plan i) from ⟨hR, hM, hi⟩)
                        refine w_mixNo T.nx_BadPlan_BadRound ?_
                        refine w_mixAs T.e_BadPlan fun ea hea => ?_
                        walk_at "js"
                        refine ⟨_, rfl, rfl, rfl, dd, _, .int i, rfl, hdd, lk_eq, ?_⟩
                        try dsimp only [List.set_cons_zero, List.set_cons_succ]
                        walk_at "js"
                        refine ⟨by show 2 ≤ sizeLine; decide, fun pf hpf => ?_⟩
                        exact ⟨pf, _, rfl, e9.trans (Evl.Ex.new hpf), upd_same⟩
                      · have hMN : M = N := by
                          rcases hor with hor | hor
                          · rw [hor] at hM; cases hM; rfl
                          · rw [hor] at hR; cases hR
                        subst hMN
                        obtain rfl := dueIs_uniq his (show dueIs du dv M (.good ds) from ⟨hR, hM, hds⟩)
                        refine ⟨rfl, ?_⟩
                        walk_at "js"
                        refine ⟨by show 2 ≤ sizeLine; decide, fun pf hpf => ?_⟩
                        have ep := Evl.Ex.new (o := .tup [.str "good", .ref x]) hpf
                        walk_at "js"
                        exact ⟨pf, _, rfl, e9.trans ep, x, upd_same, pl.mono ep⟩
                    · rintro σ' A9 ⟨pf, v13, rfl, e9, hfd⟩
                      have x69 := e68.trans e9
                      have hdue9 := hdue.mono (e8.trans e9)
                      have hsv9 := hsv6.mono x69
                      have hsu9 := hsu.mono x69
                      have hdu9 := hdu.mono x69
                      have hdv9 := hdv6.mono x69
                      walk_at "js"
                      have ne1 : ∀ {Q : VK}, Q (.bl false) A9 → (rNeS K v kv A9 Q ∨ rNeLS K v kv A9 Q) := fun {Q} q => by
                        rcases hkv with rfl | ⟨ka, kb, ys, rfl, rfl, h1, h2, h3⟩
                        · exact .inl ⟨rfl, hsv9, q⟩
                        · exact .inr ⟨ka, kb, ys, rfl, rfl, e9.get h1, e9.get h2, h3, q⟩
                      refine ne1 ?_
                      walk_at "js"
                      cases o with
                      | round =>
                        have hf9 : A9 pf = some (.tup [.str "round", u]) := hfd
                        have hd9 : A9 pd = some (.tup [.str "round", u]) := hdue9
                        walk_at "js"
                        refine ⟨rfl, hsu9, ?_⟩
                        walk_at "js"
                        refine w_isi hdu9 (kit_bool _) ?_
                        walk_at "js"
                        refine w_isi hdu9 (kit_bool _) ?_
                        refine w_eqB ?_
                        rw [show ((tyn du == "bool") == (tyn du == "bool")) = true by simp]
                        exact kQ _
                      | plan z =>
                        have hf9 : A9 pf = some (.tup [.str "plan", .int z]) := hfd
                        have hd9 : A9 pd = some (.tup [.str "plan", .int z]) := hdue9
                        walk_at "js"
                        refine ⟨rfl, .inl rfl, ?_⟩
                        walk_at "js"
                        refine w_isiC (b := false) (.int z) (kit_bool _) rfl ?_
                        walk_at "js"
                        refine w_isiC (b := false) (.int z) (kit_bool _) rfl ?_
                        refine w_eqB ?_
                        rw [show (false == false) = true by rfl]
                        exact kQ _
                      | good ds =>
                        obtain ⟨x, hf9, pl⟩ := hfd
                        obtain ⟨t, hd9, hdt⟩ := hdue9
                        obtain ⟨hR, hM, hds⟩ := his
                        subst hM
                        cases hdu
                        have hl4 := (planChk_eq hds).2.2
                        walk_at "js"
                        refine Evl.q_cut (M := fun σ' H' => σ' = [some (.ref a), some (.ref s), some (.int N), some (.ref D), v4, some (.int sz), v6, some v, some (.int kd), some (.int N), some (.ref pd), some kv, some (.ref pf), v13, some (.ref x)] ∧ H' pd = some (.tup [.str "good", .ref t]) ∧ PlanAt K H' (.ref x) N (modD N ds) ∧ Dq K H' (.ref t) (.tuple (deD (modD N ds)))) ?_ ?_
                        · walk_at "js"
                          refine w_isi hdv9 (kit_list dv) ?_
                          walk_at "js"
                          cases hli : (tyn dv == "list") with
                          | false =>
                            walk_at "js"
                            exact ⟨rfl, hd9, pl, hdt⟩
                          | true =>
                            obtain ⟨va, ys, es, rfl, rfl, hva, hve⟩ : ∃ va ys es, v = .ref va ∧ dv = .list es ∧ A9 va = some (.lst ys) ∧ DqAll K A9 ys es := by
                              cases hdv9 with
                              | lst h ha => exact ⟨_, _, _, rfl, rfl, h, ha⟩
                              | tup h ha => cases hli
                              | non => cases hli
                              | bl b => cases hli
                              | int i => cases hli
                              | str x => cases hli
                              | dct h => cases hli
                            obtain ⟨hro, _, _⟩ := planChk_eq hds
                            have hyl : ys.length = ds.length := by
                              rw [hve.len]
                              cases hro
                              exact deD_len ds
                            walk_at "js"
                            refine ⟨sz_of (by simp), fun p1 hp_p1 => ?_⟩
                            generalize g_p1 : upd A9 p1 _ = B1
                            obtain ⟨e_B1, h_p1⟩ := gen_new hp_p1 g_p1
                            walk_at "js"
                            have hva1 := e_B1.get hva
                            refine w_append hva1 (by omega) ?_
                            have f1 := upd_keep (o2 := .lst (ys ++ [V.ref p1])) hva1 (e_B1.get hd9) (fun _ z => by cases z)
                            have f2 := (pl.mono e_B1).mutL (o2 := .lst (ys ++ [V.ref p1])) hva1
                            have f3 := (hdt.mono e_B1).mutL (o2 := .lst (ys ++ [V.ref p1])) hva1 (noL_deD _)
                            have f4 : upd B1 va (.lst (ys ++ [V.ref p1])) va = some (.lst (ys ++ [V.ref p1])) := upd_same
                            generalize g2 : upd B1 va _ = B2 at f1 f2 f3 f4 ⊢
                            walk_at "js"
                            refine ⟨sz_of (by simp), fun p2 hp_p2 => ?_⟩
                            generalize g_p2 : upd B2 p2 _ = B3
                            obtain ⟨e_B3, h_p2⟩ := gen_new hp_p2 g_p2
                            walk_at "js"
                            have hva3 := e_B3.get f4
                            refine w_setL (j := 0) hva3 (Evl.ixN_nat (j := 0) (by rw [List.length_append]; exact Nat.lt_of_lt_of_le (Nat.zero_lt_one) (Nat.le_add_left ..))) ?_
                            have k1 := upd_keep (o2 := .lst ((ys ++ [V.ref p1]).set 0 (.ref p2))) hva3 (e_B3.get f1) (fun _ z => by cases z)
                            have k2 := (f2.mono e_B3).mutL (o2 := .lst ((ys ++ [V.ref p1]).set 0 (.ref p2))) hva3
                            have k3 := (f3.mono e_B3).mutL (o2 := .lst ((ys ++ [V.ref p1]).set 0 (.ref p2))) hva3 (noL_deD _)
                            walk_at "js"
                            exact ⟨rfl, k1, k2, k3⟩
                        · rintro σ' C0 ⟨rfl, hpd, plC, hdC⟩
                          obtain ⟨_, dxx, tt, e0, hxx, htt, hg⟩ := id plC
                          cases e0
                          obtain ⟨ts, hts, htd⟩ : ∃ ts, C0 t = some (.tup ts) ∧ DqAll K C0 ts (deD (modD N ds)) := by
                            cases hdC with
                            | tup h1 h2 => exact ⟨_, h1, h2⟩
                          have htl : ts.length = (modD N ds).length := htd.len.trans (deD_len _)
                          walk_at "js"
                          refine w_fld hxx T.c_Plan T.na_Plan_deeds (pF_deeds _ _) ?_
                          walk_at "js"
                          refine w_eqDT htt hdC hg hg ?_
                          rw [decide_eq_true rfl]
                          walk_at "js"
                          refine w_fld hxx T.c_Plan T.na_Plan_deeds (pF_deeds _ _) ?_
                          walk_at "js"
                          refine w_isiC (b := true) htt (kit_tuple _) rfl ?_
                          walk_at "js"
                          refine w_fld hxx T.c_Plan T.na_Plan_around (pF_around _ _) ?_
                          walk_at "js"
                          rw [decide_eq_true rfl]
                          walk_at "js"
                          refine plan_len plC (by rw [modD_len]; omega) ?_
                          walk_at "js"
                          rw [show ((ts.length : Nat) : Int) = ((modD N ds).length : Int) by rw [htl], decide_eq_true rfl]
                          exact kQ _

end
end J

namespace J
open PySem PySem.Spec PyProof.Rows L2
abbrev RowL : PySem.W.OpenRow := PySem.W.OpenLaw.row PySem.Challenge.rw_jawturns_k13_plan_refusals
abbrev hkL : PySem.W.Hook := hookJ 4 faL fnL
def obL (s : PySem.W.SharedT) : He.AlD := obsJG 4 faL fnL (HandSHeadRun.getT s)
theorem obL_eq (s : PySem.W.SharedT) : obL s = hkL.obs s.abs := obsJG_eq (HandSHeadRun.getT_eq s)
abbrev looseL : List PySem.Str := (["__name__", "JawError", "BadRound", "BadTurn", "BadPlan", "MOST_ROUND", "is_integer", "is_row", "check_round", "WORDS", "is_word", "MOST_DEEDS", "is_deed", "Plan", "repeated", "_law_state", "_law_draw", "_law_large", "_law_around", "_law_is_integer", "_law_strange", "_law_due"] : List PySem.Str)
theorem runL (w : World) : HandSHeadRun.RunEq RowL (PySem.W.view RowL.prog [26]) hkL obL 20000 looseL w := by
  intro os
  kernel_rfl
end J
open PySem PySem.W PySem.Calls PyProof.Rows
theorem PySem.Challenge.cw_jawturns_k13_plan_refusals_holds : PySem.Challenge.rw_jawturns_k13_plan_refusals.Holds := by
  w_on; o_law
  refine HandSHeadRun.head_any (r := OpenLaw.row PySem.Challenge.rw_jawturns_k13_plan_refusals) (q := view (OpenLaw.row PySem.Challenge.rw_jawturns_k13_plan_refusals).prog [26]) (H := J.hkL) (ob := J.obL) (M := 20000) (loose := J.looseL)
    (d := HandSHeadRun.topDef (OpenLaw.row PySem.Challenge.rw_jawturns_k13_plan_refusals).prog 26) (kwd := []) J.obL_eq
    (by kernel_rfl) (fun s => by kernel_rfl) J.runL (by kernel_rfl) (by kernel_rfl) (by kernel_rfl) (by rfl) (by first | assumption | decide +kernel) (by decide +kernel) ⟨rfl, rfl, rfl, rfl, rfl, by decide +kernel⟩ ?hw ?hc
  case hw => w_witness2
  case hc =>
    refine L2.walk_ofE (l := PySem.Challenge.rw_jawturns_k13_plan_refusals) (n := 63) (k := J.k_law) (x := "_law_script") (CX := L2.CX0) rfl (by decide) (by kernel_rfl) ⟨rfl, by decide, by decide⟩ ?F (fun _ _ _ _ z => z)
    intro w mg fa h Y G hmg0
    obtain ⟨K, KX, c⟩ := Y
    have hmg : mg ("law" : PySem.Str) = some (.ref fa) := by
      have e : (HandSHeadRun.topDef (OpenLaw.row PySem.Challenge.rw_jawturns_k13_plan_refusals).prog 26).name = ("law" : PySem.Str) := by kernel_rfl
      rw [← e]
      exact hmg0
    have T := J.txt_of KX G c
    have e := hmg.symm.trans T.m_law
    cases e
    exact ⟨K, _, J.sp_law K, KX, fun s v => T.F_law.bindsA (ps := ["_law_script"]) (fun _ _ _ _ _ _ us hl => match us, hl with | [_], _ => rfl) s [v] rfl, fun H a ns hl _ hS => ⟨a, ns, rfl, hS, hl, fun _ => rfl⟩, fun base _ _ => J.ok_law T⟩
