import PyProof.Rows.All
import Wide.All
import OpenK.AllK
import Wide.FinOn
import HandS.ForMost
import HandS.ForExc
import HandS.ExcInit
import HandS.Wide
import HandS.IsInst
import HandS.Evl
import HandS.Defaults
import HandS.Head0
import HandS.Head1
import HandS.Head2
import HandS.HeadEnd
import HandS.HeadHook1
import HandS.HeadHook2
import HandS.HeadNt
import HandS.HeadHook4
import HandS.HeadWalk
import HandS.FStr
import KE.GoesMore
import HandS.Walk
import HandS.SortInts
import HandS.SortRule
import HandS.TupSets
import HandS.More
import HandS.Star
import HandS.MakeKwOnly
import HandS.Property
import HandS.SetBool
import PyProof.InstNe
import HandS.ExcOwn
import HandS.ExcField
import HandS.Lambda
import HandS.Strs
import HandS.SetBool
import HandS.SetFor
import KE.GoesNew
import HandS.Gcd
import HandS.DictComp
import HandS.Conv
import HandS.TupAny
import KE.KMathGC
import HandS.Head3
import Open.Pieces
import HandS.Nested
import HandS.ClsMeth
import HandS.HeadNt
import HandS.HeadHook4
import HandS.HeadWalk
import HandS.FStr
import HandS.ExcValue
import KE.KOpsOwn
import HandS.CallSlots
import KE.KExcIs
import PySem.Challenge.RW_jawturns_k37_errors
set_option Elab.async false
set_option linter.all false
set_option maxRecDepth 100000
set_option maxHeartbeats 4000000
namespace J
open PySem L2 He
abbrev Fr1 := PySem.W.Frag
/-! ### what the top has written, by names -/
def fdOf (K : Fr1) (a : Addr) : FuncData := match K.lookup a with
  | some ⟨_, _, .func fd, _⟩ => fd
  | _ => default
abbrev Fn (K : Fr1) (x q : Str) (st : Stmt) (dvs : List V) (kws : List (Str × V)) (f : Addr) : Prop := FunD K x q (defArgs st) (defBody st) (defScope st) dvs kws f (fdOf K f)
theorem fn_at {K : Fr1} {x q : Str} {st : Stmt} {dvs : List V} {kws : List (Str × V)} {f : Addr} (h : ∃ fd, FunD K x q (defArgs st) (defBody st) (defScope st) dvs kws f fd) : Fn K x q st dvs kws f := by
  obtain ⟨fd, F⟩ := h
  obtain ⟨oc, od, dV, kV, doc, pm, an, cdv, ct, osl, e, l, r⟩ := F.ex
  have z : fdOf K f = fd := by unfold fdOf; rw [l]
  show FunD K x q _ _ _ dvs kws f (fdOf K f)
  rw [z]
  exact F
/-- an own exception class over ValueError -/
def oexB (K : Fr1) (C : Addr) : Bool := (match K.lookup C with
  | some ⟨.type "type", _, .cls cd, sl⟩ => (match cd.mro, sl.toList with
    | .ref C' :: bm, [_, _, _, _, some (.builtin n), _] => C' == C && (n == "ValueError.__new__" && (!cd.hasDel && (cd.hasDict && PySem.HandSPX.refsVE bm)))
    | _, _ => false)
  | _ => false) && (eqO (PySem.W.findIn K (.ref C) "__setattr__") (some (some (.builtin "object.__setattr__"))) && (decide (PySem.W.subIn K (.ref C) (.type "BaseException") = some true) &&
    (decide (PySem.W.typeIn K (.ref C) = some (.type "type")) && PySem.W.keepIn K (.ref C))))
theorem oexB_ok {K : Fr1} {C : Addr} (h : oexB K C = true) : OexC K C := by
  obtain ⟨h1, h2⟩ := ba h
  obtain ⟨h3, h4⟩ := ba h2
  obtain ⟨h5, h6⟩ := ba h4
  obtain ⟨h7, h8⟩ := ba h6
  refine ⟨?_, eqO_ok h3, of_decide_eq_true h5, of_decide_eq_true h7, h8⟩
  split at h1
  · rename_i dd cd sl ho
    split at h1
    · rename_i C' bm k0 k1 k2 k3 n k5 hm hs
      simp only [Bool.and_eq_true, beq_iff_eq, Bool.not_eq_true'] at h1
      obtain ⟨rfl, rfl, hdel, hhd, ht⟩ := h1
      obtain ⟨nm, bs, mro, ns, qn, hd, sn, sub, ab, col, del⟩ := cd
      dsimp only at hm hdel hhd
      subst hm hdel hhd
      have hsl : sl = #[k0, k1, k2, k3, some (.builtin "ValueError.__new__"), k5] := by
        obtain ⟨l⟩ := sl
        simp only at hs
        rw [hs]
      subst hsl
      exact ⟨nm, qn, ns, bs, bm, sn, sub, ab, col, dd, k0, k1, k2, k3, k5, ho, ht⟩
    · cases h1
  · cases h1
/-- the def behind a property (T: "property") -/
def pf (K : Fr1) (C : Addr) (T : String) (m : Str) : Addr := match PySem.W.recIn K (ma K C m) T with
  | some (.ref f :: _) => f
  | _ => 0
def prpB (K : Fr1) (C : Addr) (m : Str) : Bool := eqO (PySem.W.findIn K (.ref C) m) (some (some (.ref (ma K C m)))) && (eqO (PySem.W.specialIn K (.ref (ma K C m)) "__get__") (some (some (.builtin "property.__get__"))) &&
  (decide (PySem.W.takesIn K (.ref (ma K C m)) = some true) && (match PySem.W.recIn K (ma K C m) "property" with
    | some (.ref _ :: _) => true
    | _ => false)))
theorem prpB_ok {K : Fr1} {C : Addr} {m : Str} (h : prpB K C m = true) : PropOf K C m (ma K C m) (pf K C "property" m) := by
  obtain ⟨h1, h2⟩ := ba h
  obtain ⟨h3, h4⟩ := ba h2
  obtain ⟨h5, h6⟩ := ba h4
  refine ⟨eqO_ok h1, eqO_ok h3, of_decide_eq_true h5, ?_⟩
  split at h6
  · rename_i f rest e
    refine ⟨rest, ?_⟩
    unfold pf
    rw [e]
  · cases h6
/-- a name of a module's that the top imports -/
def bfnB (K : Fr1) (x : Str) (i : String) : Bool := eqO (PySem.W.nsIn K mainGlobals x) (some (some (.builtin i)))
theorem bfnB_ok {K : Fr1} {h : Heap} {mg : Str → Option Value} (X : K.In h) (G : h.Ns mainGlobals mg) {x : Str} {i : String} (c : bfnB K x i = true) : mg x = some (.builtin i) := PySem.W.mg_of X G (eqO_ok c)
/-- a classmethod's record and its def; a class whose attributes are read plainly -/
def cmtB (K : Fr1) (x m : Str) : Bool := He5.wrapB K (ga K x) "classmethod" "classmethod.__get__" m && PySem.W.fnIn K (He5.wf K (ga K x) "classmethod" m)
theorem cmtB_ok {K : Fr1} {x m : Str} (h : cmtB K x m = true) : ClX.CMet K (ga K x) (.type "type") m (ma K (ga K x) m) (He5.wf K (ga K x) "classmethod" m) := He5.cmet_of (ba h).1 (ba h).2
theorem crdB_ok {K : Fr1} {C : Addr} (h : PySem.W.readsIn K C (.type "type") = true) : ClX.CRead K C (.type "type") := by
  refine ⟨h, ?_⟩
  simp only [PySem.W.readsIn, Bool.and_eq_true, beq_iff_eq] at h
  obtain ⟨⟨⟨⟨_, ty⟩, at_⟩, _⟩, _⟩ := h
  simp only [PySem.W.specialIn, ty, Option.bind_some, at_]
/-- facts of the kinds: He's, and own ones -/
inductive Fk where
  | cmt (x m : Str)
  | crd (x : Str)
  | nsq (x : Str)
  | bfn (x : Str) (i : String)
  | tup (x : Str) (ss : List Str)
  | bne (x : Str)
  | bop (x : Str) (n : String)
  | xf (x : Str)
  | ity (x : Str)
  | prp (x m : Str)
  | fa (f : Fa)
  | oex (x : Str)
  | tyf (x m : Str)
  | exm (x y : Str) (b : Bool)
  | nda (x : Str)
  | ens (xs : List Str)
  | exn (x : Str)
def bneB (K : Fr1) (C : Addr) : Bool := eqO (PySem.W.findIn K (.ref C) "__ne__") (some (some (.builtin "object.__ne__"))) && decide (PySem.W.subIn K (.ref C) (.type "object") = some true)
theorem bneB_ok {K : Fr1} {C : Addr} (h : bneB K C = true) : PySem.W.findIn K (.ref C) "__ne__" = some (some (.builtin "object.__ne__")) ∧ PySem.W.subIn K (.ref C) (.type "object") = some true :=
  ⟨eqO_ok (ba h).1, of_decide_eq_true (ba h).2⟩
/-- an operator of the text's own class, the right operand an int -/
def refO : Option (Option Value) → Bool
  | some none => true
  | some (some (.ref _)) => true
  | _ => false
theorem refO_ok {o : Option (Option Value)} (h : refO o = true) : ∃ r, o = some r ∧ (r = none ∨ ∃ g : Addr, r = some (.ref g)) := by
  unfold refO at h
  split at h
  · exact ⟨_, rfl, .inl rfl⟩
  · exact ⟨_, rfl, .inr ⟨_, rfl⟩⟩
  · cases h
theorem someO_ok {α : Type} {o : Option α} (h : o.isSome = true) : ∃ r, o = some r := Option.isSome_iff_exists.mp h
structure BopC (K : Fr1) (C : Addr) (n : String) : Prop where
  fst : PySem.W.selfFirst K C = true
  rc : ∃ r, PySem.W.findIn K (.ref C) (PySem.dunderR n) = some r ∧ (r = none ∨ ∃ g : Addr, r = some (.ref g))
  fo : ∃ r, PySem.W.findIn K (.type "int") (PySem.dunder n) = some r
  ro : ∃ r, PySem.W.findIn K (.type "int") (PySem.dunderR n) = some r
  sub : PySem.W.subIn K (.type "int") (.ref C) = some false
def bopB (K : Fr1) (C : Addr) (n : String) : Bool := PySem.W.selfFirst K C && (refO (PySem.W.findIn K (.ref C) (PySem.dunderR n)) && ((PySem.W.findIn K (.type "int") (PySem.dunder n)).isSome && ((PySem.W.findIn K (.type "int") (PySem.dunderR n)).isSome && decide (PySem.W.subIn K (.type "int") (.ref C) = some false))))
theorem bopB_ok {K : Fr1} {C : Addr} {n : String} (h : bopB K C n = true) : BopC K C n := by
  obtain ⟨h1, h⟩ := ba h
  obtain ⟨h2, h⟩ := ba h
  obtain ⟨h3, h⟩ := ba h
  obtain ⟨h4, h⟩ := ba h
  exact ⟨h1, refO_ok h2, someO_ok h3, someO_ok h4, of_decide_eq_true h⟩
/-- a tuple of texts that the top has made -/
def strsB : List Value → List Str → Bool
  | [], [] => true
  | .str y _ :: us, x :: xs => decide (y = x) && strsB us xs
  | _, _ => false
theorem strsB_ok : ∀ {us : List Value} {xs : List Str}, strsB us xs = true → Vals (xs.map V.str) us
  | [], [], _ => .nil
  | .str y t :: us, x :: xs, h => by
    obtain ⟨h1, h2⟩ := ba h
    cases of_decide_eq_true h1
    exact .cons ⟨t, rfl⟩ (strsB_ok h2)
  | [], _ :: _, h => by cases h
  | .none :: _, _, h => by cases h
  | .bool _ :: _, _, h => by cases h
  | .int _ _ :: _, _, h => by cases h
  | .ref _ :: _, _, h => by cases h
  | .type _ :: _, _, h => by cases h
  | .builtin _ :: _, _, h => by cases h
  | .str _ _ :: _, [], h => by cases h
  | .float _ _ :: _, _, h => by cases h
  | .bytes _ _ :: _, _, h => by cases h
  | .ellipsis :: _, _, h => by cases h
  | .notImplemented :: _, _, h => by cases h
def tupB (K : Fr1) (a : Addr) (ss : List Str) : Bool := decide (ss.length ≤ sizeLine) && (match K.lookup a with
  | some ⟨.type "tuple", _, .seq its _, _⟩ => strsB its.toList ss
  | _ => false)
theorem tupB_ok {K : Fr1} {a : Addr} {ss : List Str} (h : tupB K a ss = true) (H : Hp) : SqT K H a (ss.map V.str) := by
  obtain ⟨h0, h1⟩ := ba h
  split at h1
  · rename_i d its n sl ho
    have v := strsB_ok h1
    refine .inr ⟨_, its, n, ho, rfl, rfl, ?_, v⟩
    have e := v.length
    rw [List.length_map] at e
    rw [← Array.length_toList, ← e]
    exact of_decide_eq_true h0
  · cases h1
/-- what isinstance asks of an own class -/
structure ITy (K : Fr1) (C : Addr) : Prop where
  ha : PySem.W.findIn K (.ref C) "__class__" = some (some (.builtin "object.__class__"))
  hn : PySem.W.specialIn K (.builtin "object.__class__") "__get__" = some (some (.builtin "getset_descriptor.__get__"))
  ht : PySem.W.takesIn K (.builtin "object.__class__") = some true
  hm : PySem.W.mroIn K C (.type "object") = some true
def ityB (K : Fr1) (C : Addr) : Bool := eqO (PySem.W.findIn K (.ref C) "__class__") (some (some (.builtin "object.__class__"))) && (eqO (PySem.W.specialIn K (.builtin "object.__class__") "__get__") (some (some (.builtin "getset_descriptor.__get__"))) &&
  (decide (PySem.W.takesIn K (.builtin "object.__class__") = some true) && decide (PySem.W.mroIn K C (.type "object") = some true)))
theorem ityB_ok {K : Fr1} {C : Addr} (h : ityB K C = true) : ITy K C := by
  obtain ⟨h1, h2⟩ := ba h
  obtain ⟨h3, h4⟩ := ba h2
  obtain ⟨h5, h6⟩ := ba h4
  exact ⟨eqO_ok h1, eqO_ok h3, of_decide_eq_true h5, of_decide_eq_true h6⟩
/-- things of a plain class are of no own class -/
structure NDat (K : Fr1) (C : Addr) : Prop where
  no : ∀ n ∈ (["NoneType", "bool", "int", "str", "list", "tuple", "dict"] : List String), PySem.W.kitOne K (.type n) (.ref C) = some false
def ndB (K : Fr1) (C : Addr) : Bool := (["NoneType", "bool", "int", "str", "list", "tuple", "dict"] : List String).all fun n => decide (PySem.W.kitOne K (.type n) (.ref C) = some false)
theorem ndB_ok {K : Fr1} {C : Addr} (h : ndB K C = true) : NDat K C := ⟨fun n hn => of_decide_eq_true (List.all_eq_true.mp h n hn)⟩
/-- errors held as values: what isinstance tells of a list of classes -/
structure EnsC (K : Fr1) (xs : List Str) : Prop where
  pair : ∀ i j, i < xs.length → j < xs.length → PySem.W.kitOne K (.ref (ga K (xs.getD i ""))) (.ref (ga K (xs.getD j ""))) = some (decide (i = j))
  x : ∀ i, i < xs.length → XfC K (ga K (xs.getD i ""))
  i : ∀ i, i < xs.length → ITy K (ga K (xs.getD i ""))
  jaw : ∀ i, i < xs.length → PySem.W.kitOne K (.ref (ga K (xs.getD i ""))) (.ref (ga K "JawError")) = some true
  val : ∀ i, i < xs.length → PySem.W.kitOne K (.ref (ga K (xs.getD i ""))) (.type "ValueError") = some true
  look : ∀ i, i < xs.length → PySem.W.kitOne K (.ref (ga K (xs.getD i ""))) (.type "LookupError") = some false
def eachB (xs : List Str) (p : Nat → Bool) : Bool := (List.range xs.length).all p
theorem eachB_ok {xs : List Str} {p : Nat → Bool} (h : eachB xs p = true) (i : Nat) (hi : i < xs.length) : p i = true := List.all_eq_true.mp h i (List.mem_range.mpr hi)
def ensB (K : Fr1) (xs : List Str) : Bool := eachB xs fun i => (eachB xs fun j => decide (PySem.W.kitOne K (.ref (ga K (xs.getD i ""))) (.ref (ga K (xs.getD j ""))) = some (decide (i = j)))) &&
  (xfB K (ga K (xs.getD i "")) && (ityB K (ga K (xs.getD i "")) && (decide (PySem.W.kitOne K (.ref (ga K (xs.getD i ""))) (.ref (ga K "JawError")) = some true) &&
    (decide (PySem.W.kitOne K (.ref (ga K (xs.getD i ""))) (.type "ValueError") = some true) && decide (PySem.W.kitOne K (.ref (ga K (xs.getD i ""))) (.type "LookupError") = some false)))))
theorem ensB_ok {K : Fr1} {xs : List Str} (h : ensB K xs = true) : EnsC K xs := by
  have e := eachB_ok h
  have e2 := fun i hi => (ba (e i hi)).2
  have e3 := fun i hi => (ba (e2 i hi)).2
  have e4 := fun i hi => (ba (e3 i hi)).2
  have e5 := fun i hi => (ba (e4 i hi)).2
  exact ⟨fun i j hi hj => of_decide_eq_true (eachB_ok (ba (e i hi)).1 j hj), fun i hi => xfB_ok (ba (e2 i hi)).1, fun i hi => ityB_ok (ba (e3 i hi)).1, fun i hi => of_decide_eq_true (ba (e4 i hi)).1, fun i hi => of_decide_eq_true (ba (e5 i hi)).1, fun i hi => of_decide_eq_true (ba (e5 i hi)).2⟩
/-- an own error without an own __init__ -/
structure ExnC (K : Fr1) (C : Addr) : Prop where
  q : PySem.W.excIn K C [.type "ValueError", .type "Exception", .type "BaseException", .type "object"] "ValueError.__new__" = true
  k : PySem.W.keepIn K (.ref C) = true
  s : PySem.W.subIn K (.ref C) (.type "BaseException") = some true
  t : PySem.W.typeIn K (.ref C) = some (.type "type")
def exnB (K : Fr1) (C : Addr) : Bool := PySem.W.excIn K C [.type "ValueError", .type "Exception", .type "BaseException", .type "object"] "ValueError.__new__" && (PySem.W.keepIn K (.ref C) && (decide (PySem.W.subIn K (.ref C) (.type "BaseException") = some true) && decide (PySem.W.typeIn K (.ref C) = some (.type "type"))))
theorem exnB_ok {K : Fr1} {C : Addr} (h : exnB K C = true) : ExnC K C := by
  obtain ⟨h1, h⟩ := ba h
  obtain ⟨h2, h⟩ := ba h
  obtain ⟨h3, h4⟩ := ba h
  exact ⟨h1, h2, of_decide_eq_true h3, of_decide_eq_true h4⟩
def Fk.ok (K : Fr1) : Fk → Bool
  | .cmt x m => cmtB K x m
  | .crd x => PySem.W.readsIn K (ga K x) (.type "type")
  | .nsq x => PySem.W.noSeq K (ga K x)
  | .bfn x i => bfnB K x i
  | .ity x => ityB K (ga K x)
  | .bne x => bneB K (ga K x)
  | .bop x n => bopB K (ga K x) n
  | .tup x ss => tupB K (ga K x) ss
  | .xf x => xfB K (ga K x)
  | .prp x m => prpB K (ga K x) m
  | .fa f => f.ok K
  | .oex x => oexB K (ga K x)
  | .tyf x m => decide (PySem.W.typeIn K (.ref (ma K (ga K x) m)) = some (.type "function"))
  | .nda x => ndB K (ga K x)
  | .ens xs => ensB K xs
  | .exn x => exnB K (ga K x)
  | .exm x y b => decide (PySem.W.exmOne K (.ref (ga K x)) (.ref (ga K y)) = some b)
abbrev DefA := He5.DefA
def obsJ (fa : List Fk) (fn : List DefA) (K : Fr1) : He.AlD := ((fa.all fun f => f.ok K) && fn.all fun d => d.ok K, fn.map fun d => He5.fnA K (d.at_ K))
def SaysJ (fa : List Fk) (fn : List DefA) (K : Fr1) : Prop := obsJ fa fn K = He5.valA fn
def obsJG (n : Nat) (fa : List Fk) (fn : List DefA) (g : Addr → Option Obj) : He.AlD := obsJ fa fn (frG g (He5.asA g n))
def hookJ (n : Nat) (fa : List Fk) (fn : List DefA) : PySem.W.Hook where
  α := He.AlD
  obs := fun s => obsJG n fa fn s.heap.get?
  val := fun _ => He5.valA fn
  says := fun _ h => ∃ K : Fr1, K.In h ∧ SaysJ fa fn K
  of := fun _ _ e => ⟨_, frG_in, e⟩
  keeps := fun _ _ _ ⟨K, hK, c⟩ k => ⟨K, PySem.W.Frag.In.keeps hK k, c⟩
theorem obsJG_eq {n : Nat} {fa : List Fk} {fn : List DefA} {g : Addr → Option Obj} {s : Shared} (h : ∀ a, g a = s.heap.get? a) : obsJG n fa fn g = (hookJ n fa fn).obs s := by
  have e : g = s.heap.get? := funext h
  rw [e] <;> rfl
/-! ### defs that make defs: their code objects' tables are told apart, and are empty -/
def cdOf (K : Fr1) (f : Addr) : Addr := match (fdOf K f).code with
  | .ref c => c
  | _ => 0
def ctOf (K : Fr1) (f : Addr) : Addr := He.tabOf K (cdOf K f)
theorem cdOf_eq {K : Fr1} {f c : Addr} (h : (fdOf K f).code = .ref c) : cdOf K f = c := by
  unfold cdOf
  rw [h]
def isTab0 (g : Addr → Option Obj) (K : Fr1) (f : Addr) : Bool := PySem.W.codeHdIn K (cdOf K f) (ctOf K f) && ((g (ctOf K f)).map emptyTab).getD false
def obsKT (fa : List Fk) (fn : List DefA) (tf : List (Fr1 → Addr)) (g : Addr → Option Obj) (K : Fr1) : He.AlD := ((obsJ fa fn K).1 && tf.all fun p => isTab0 g K (p K), (obsJ fa fn K).2)
def obsKTG (n : Nat) (fa : List Fk) (fn : List DefA) (tf : List (Fr1 → Addr)) (g : Addr → Option Obj) : He.AlD := obsKT fa fn tf g (frT g (He5.asA g n))
structure SaysKT (fa : List Fk) (fn : List DefA) (tf : List (Fr1 → Addr)) (h : Heap) (K : Fr1) : Prop where
  s : SaysJ fa fn K
  hd : ∀ p ∈ tf, PySem.W.codeHdIn K (cdOf K (p K)) (ctOf K (p K)) = true
  out : ∀ p ∈ tf, K.lookup (ctOf K (p K)) = none
  mt : ∀ p ∈ tf, h.get? (ctOf K (p K)) = some { cls := .none, data := .fields #[] }
theorem saysKT_as {as : List Addr} {fa : List Fk} {fn : List DefA} {tf : List (Fr1 → Addr)} {h : Heap} (e : obsKT fa fn tf h.get? (frT h.get? as) = He5.valA fn) : SaysKT fa fn tf h (frT h.get? as) := by
  obtain ⟨K, hK⟩ : ∃ K, K = frT h.get? as := ⟨_, rfl⟩
  rw [← hK] at e ⊢
  have e1 : ((obsJ fa fn K).1 && tf.all fun p => isTab0 h.get? K (p K)) = true := congrArg Prod.fst e
  have e2 : (obsJ fa fn K).2 = fn.map He5.DefA.val := congrArg Prod.snd e
  obtain ⟨f1, f2⟩ := ba e1
  have each : ∀ p ∈ tf, PySem.W.codeHdIn K (cdOf K (p K)) (ctOf K (p K)) = true ∧ ∃ o, h.get? (ctOf K (p K)) = some o ∧ emptyTab o = true := fun p hp => by
    obtain ⟨g1, g2⟩ := ba (List.all_eq_true.mp f2 p hp)
    cases q : h.get? (ctOf K (p K)) with
    | none =>
      rw [q] at g2
      cases g2
    | some o =>
      rw [q] at g2
      exact ⟨g1, o, rfl, g2⟩
  refine ⟨Prod.ext f1 e2, fun p hp => (each p hp).1, fun p hp => ?_, fun p hp => ?_⟩
  · obtain ⟨_, o, q, z⟩ := each p hp
    have := frT_none (as := as) q z
    rwa [← hK] at this
  · obtain ⟨_, o, q, z⟩ := each p hp
    rw [q, emptyTab_eq z]
theorem saysKT_of {n : Nat} {fa : List Fk} {fn : List DefA} {tf : List (Fr1 → Addr)} {h : Heap} (e : obsKTG n fa fn tf h.get? = He5.valA fn) : SaysKT fa fn tf h (frT h.get? (He5.asA h.get? n)) := saysKT_as e
def hookKT (n : Nat) (fa : List Fk) (fn : List DefA) (tf : List (Fr1 → Addr)) : PySem.W.Hook where
  α := He.AlD
  obs := fun s => obsKTG n fa fn tf s.heap.get?
  val := fun _ => He5.valA fn
  says := fun _ h => ∃ K : Fr1, K.In h ∧ SaysKT fa fn tf h K
  of := fun _ _ e => ⟨_, frT_in, saysKT_of e⟩
  keeps := fun _ _ _ ⟨K, hK, c⟩ k => ⟨K, PySem.W.Frag.In.keeps hK k, c.s, c.hd, c.out, fun p hp => k _ _ (c.mt p hp)⟩
theorem obsKTG_eq {n : Nat} {fa : List Fk} {fn : List DefA} {tf : List (Fr1 → Addr)} {g : Addr → Option Obj} {s : Shared} (h : ∀ a, g a = s.heap.get? a) : obsKTG n fa fn tf g = (hookKT n fa fn tf).obs s := by
  obtain rfl : g = s.heap.get? := funext h
  rfl
/-! ### the same looks, off a tree that is made of the heap once -/
def offT (f : (Addr → Option Obj) → He.AlD) (s : Shared) : He.AlD := match HandSHeadRun.treeOf s with
  | some x => f (HandSHeadRun.getT x)
  | none => (false, [])
theorem offT_eq {f : (Addr → Option Obj) → He.AlD} {fn : List DefA} {s : Shared} (h : offT f s = He5.valA fn) : f s.heap.get? = He5.valA fn := by
  unfold offT at h
  cases e : HandSHeadRun.treeOf s with
  | none =>
    rw [e] at h
    cases (congrArg Prod.fst h : false = true)
  | some x =>
    rw [e] at h
    have g : HandSHeadRun.getT x = s.heap.get? := funext fun a => by rw [HandSHeadRun.getT_eq, (HandSHeadRun.treeOf_eq e).1]
    rw [← g]
    exact h
/-- all addresses below n are looked at: nothing is to be reached -/
def hookJP (n : Nat) (fa : List Fk) (fn : List DefA) : PySem.W.Hook where
  α := He.AlD
  obs := offT fun g => obsJ fa fn (frG g (List.range n))
  val := fun _ => He5.valA fn
  says := fun _ h => ∃ K : Fr1, K.In h ∧ SaysJ fa fn K
  of := fun _ s e => ⟨_, frG_in, offT_eq e⟩
  keeps := (hookJ n fa fn).keeps
def hookKTP (n : Nat) (fa : List Fk) (fn : List DefA) (tf : List (Fr1 → Addr)) : PySem.W.Hook where
  α := He.AlD
  obs := offT fun g => obsKT fa fn tf g (frT g (List.range n))
  val := fun _ => He5.valA fn
  says := fun _ h => ∃ K : Fr1, K.In h ∧ SaysKT fa fn tf h K
  of := fun _ s e => ⟨_, frT_in, saysKT_as (as := List.range n) (offT_eq e)⟩
  keeps := (hookKT n fa fn tf).keeps
section
variable {fa : List Fk} {fn : List DefA} {K : Fr1}
theorem SaysJ.fact (c : SaysJ fa fn K) (i : Nat) {f : Fk} (h : fa[i]? = some f := by rfl) : f.ok K = true := by
  have c1 := (ba (show ((fa.all fun f => f.ok K) && fn.all fun d => d.ok K) = true from congrArg (fun z : He.AlD => z.1) c)).1
  exact List.all_eq_true.mp c1 f (List.mem_of_getElem? h)
theorem SaysJ.def_ (c : SaysJ fa fn K) (i : Nat) {d : DefA} (h : fn[i]? = some d := by rfl) : ∃ fd, FunD K d.name d.qual d.params d.body d.scope (d.dvs K) (d.kws K) (d.at_ K) fd := by
  have c2 := (ba (show ((fa.all fun f => f.ok K) && fn.all fun d => d.ok K) = true from congrArg (fun z : He.AlD => z.1) c)).2
  have e : fn.map (fun d => He5.fnA K (d.at_ K)) = fn.map He5.DefA.val := congrArg (fun z : He.AlD => z.2) c
  have e2 : (fn.map fun d => He5.fnA K (d.at_ K))[i]? = (fn.map He5.DefA.val)[i]? := by rw [e]
  rw [List.getElem?_map, List.getElem?_map, h] at e2
  exact He5.DefA.funD (Option.some.inj e2) (List.all_eq_true.mp c2 d (List.mem_of_getElem? h))
end
end J

namespace J
open PySem L2
/-! ### the text by places -/
def top (i : Nat) : Stmt := PySem.Challenge.pw_jawturns_k37_errors.main.body.getD i (.Pass ⟨0, 0, 0, 0⟩)
abbrev s_BadRound_p__init__ : Stmt := inClass (top 2) 0
abbrev N_BadRound_p__init__ : List Str := ["self", "value"]
abbrev P_BadRound_p__init__ : List Str := ["self", "value"]
theorem sc_BadRound_p__init__ : FnScope N_BadRound_p__init__ P_BadRound_p__init__ (defScope s_BadRound_p__init__) := ⟨rfl, rfl, rfl, by decide +kernel, rfl, by decide +kernel, by decide +kernel⟩
abbrev a_BadRound_p__init__ (K : Fr1) : Addr := He.ma K (He.ga K "BadRound") "__init__"
abbrev d_BadRound_p__init__ (K : Fr1) : FuncData := fdOf K (a_BadRound_p__init__ K)
abbrev s_BadRows_p__init__ : Stmt := inClass (top 3) 0
abbrev N_BadRows_p__init__ : List Str := ["self", "at"]
abbrev P_BadRows_p__init__ : List Str := ["self", "at"]
theorem sc_BadRows_p__init__ : FnScope N_BadRows_p__init__ P_BadRows_p__init__ (defScope s_BadRows_p__init__) := ⟨rfl, rfl, rfl, by decide +kernel, rfl, by decide +kernel, by decide +kernel⟩
abbrev a_BadRows_p__init__ (K : Fr1) : Addr := He.ma K (He.ga K "BadRows") "__init__"
abbrev d_BadRows_p__init__ (K : Fr1) : FuncData := fdOf K (a_BadRows_p__init__ K)
abbrev s_BadTurn_p__init__ : Stmt := inClass (top 4) 0
abbrev N_BadTurn_p__init__ : List Str := ["self", "value"]
abbrev P_BadTurn_p__init__ : List Str := ["self", "value"]
theorem sc_BadTurn_p__init__ : FnScope N_BadTurn_p__init__ P_BadTurn_p__init__ (defScope s_BadTurn_p__init__) := ⟨rfl, rfl, rfl, by decide +kernel, rfl, by decide +kernel, by decide +kernel⟩
abbrev a_BadTurn_p__init__ (K : Fr1) : Addr := He.ma K (He.ga K "BadTurn") "__init__"
abbrev d_BadTurn_p__init__ (K : Fr1) : FuncData := fdOf K (a_BadTurn_p__init__ K)
abbrev s_BadStanding_p__init__ : Stmt := inClass (top 5) 0
abbrev N_BadStanding_p__init__ : List Str := ["self", "value"]
abbrev P_BadStanding_p__init__ : List Str := ["self", "value"]
theorem sc_BadStanding_p__init__ : FnScope N_BadStanding_p__init__ P_BadStanding_p__init__ (defScope s_BadStanding_p__init__) := ⟨rfl, rfl, rfl, by decide +kernel, rfl, by decide +kernel, by decide +kernel⟩
abbrev a_BadStanding_p__init__ (K : Fr1) : Addr := He.ma K (He.ga K "BadStanding") "__init__"
abbrev d_BadStanding_p__init__ (K : Fr1) : FuncData := fdOf K (a_BadStanding_p__init__ K)
abbrev s_BadWord_p__init__ : Stmt := inClass (top 6) 0
abbrev N_BadWord_p__init__ : List Str := ["self", "value"]
abbrev P_BadWord_p__init__ : List Str := ["self", "value"]
theorem sc_BadWord_p__init__ : FnScope N_BadWord_p__init__ P_BadWord_p__init__ (defScope s_BadWord_p__init__) := ⟨rfl, rfl, rfl, by decide +kernel, rfl, by decide +kernel, by decide +kernel⟩
abbrev a_BadWord_p__init__ (K : Fr1) : Addr := He.ma K (He.ga K "BadWord") "__init__"
abbrev d_BadWord_p__init__ (K : Fr1) : FuncData := fdOf K (a_BadWord_p__init__ K)
abbrev s_BadSlack_p__init__ : Stmt := inClass (top 7) 0
abbrev N_BadSlack_p__init__ : List Str := ["self", "value"]
abbrev P_BadSlack_p__init__ : List Str := ["self", "value"]
theorem sc_BadSlack_p__init__ : FnScope N_BadSlack_p__init__ P_BadSlack_p__init__ (defScope s_BadSlack_p__init__) := ⟨rfl, rfl, rfl, by decide +kernel, rfl, by decide +kernel, by decide +kernel⟩
abbrev a_BadSlack_p__init__ (K : Fr1) : Addr := He.ma K (He.ga K "BadSlack") "__init__"
abbrev d_BadSlack_p__init__ (K : Fr1) : FuncData := fdOf K (a_BadSlack_p__init__ K)
abbrev s_BadPlan_p__init__ : Stmt := inClass (top 8) 0
abbrev N_BadPlan_p__init__ : List Str := ["self", "at"]
abbrev P_BadPlan_p__init__ : List Str := ["self", "at"]
theorem sc_BadPlan_p__init__ : FnScope N_BadPlan_p__init__ P_BadPlan_p__init__ (defScope s_BadPlan_p__init__) := ⟨rfl, rfl, rfl, by decide +kernel, rfl, by decide +kernel, by decide +kernel⟩
abbrev a_BadPlan_p__init__ (K : Fr1) : Addr := He.ma K (He.ga K "BadPlan") "__init__"
abbrev d_BadPlan_p__init__ (K : Fr1) : FuncData := fdOf K (a_BadPlan_p__init__ K)
abbrev s_BadKinds_p__init__ : Stmt := inClass (top 9) 0
abbrev N_BadKinds_p__init__ : List Str := ["self", "at"]
abbrev P_BadKinds_p__init__ : List Str := ["self", "at"]
theorem sc_BadKinds_p__init__ : FnScope N_BadKinds_p__init__ P_BadKinds_p__init__ (defScope s_BadKinds_p__init__) := ⟨rfl, rfl, rfl, by decide +kernel, rfl, by decide +kernel, by decide +kernel⟩
abbrev a_BadKinds_p__init__ (K : Fr1) : Addr := He.ma K (He.ga K "BadKinds") "__init__"
abbrev d_BadKinds_p__init__ (K : Fr1) : FuncData := fdOf K (a_BadKinds_p__init__ K)
abbrev s_BadLog_p__init__ : Stmt := inClass (top 10) 0
abbrev N_BadLog_p__init__ : List Str := ["self", "at"]
abbrev P_BadLog_p__init__ : List Str := ["self", "at"]
theorem sc_BadLog_p__init__ : FnScope N_BadLog_p__init__ P_BadLog_p__init__ (defScope s_BadLog_p__init__) := ⟨rfl, rfl, rfl, by decide +kernel, rfl, by decide +kernel, by decide +kernel⟩
abbrev a_BadLog_p__init__ (K : Fr1) : Addr := He.ma K (He.ga K "BadLog") "__init__"
abbrev d_BadLog_p__init__ (K : Fr1) : FuncData := fdOf K (a_BadLog_p__init__ K)
abbrev s_BadText_p__init__ : Stmt := inClass (top 11) 0
abbrev N_BadText_p__init__ : List Str := ["self", "at"]
abbrev P_BadText_p__init__ : List Str := ["self", "at"]
theorem sc_BadText_p__init__ : FnScope N_BadText_p__init__ P_BadText_p__init__ (defScope s_BadText_p__init__) := ⟨rfl, rfl, rfl, by decide +kernel, rfl, by decide +kernel, by decide +kernel⟩
abbrev a_BadText_p__init__ (K : Fr1) : Addr := He.ma K (He.ga K "BadText") "__init__"
abbrev d_BadText_p__init__ (K : Fr1) : FuncData := fdOf K (a_BadText_p__init__ K)
abbrev s_BadMachine_p__init__ : Stmt := inClass (top 12) 0
abbrev N_BadMachine_p__init__ : List Str := ["self", "state"]
abbrev P_BadMachine_p__init__ : List Str := ["self", "state"]
theorem sc_BadMachine_p__init__ : FnScope N_BadMachine_p__init__ P_BadMachine_p__init__ (defScope s_BadMachine_p__init__) := ⟨rfl, rfl, rfl, by decide +kernel, rfl, by decide +kernel, by decide +kernel⟩
abbrev a_BadMachine_p__init__ (K : Fr1) : Addr := He.ma K (He.ga K "BadMachine") "__init__"
abbrev d_BadMachine_p__init__ (K : Fr1) : FuncData := fdOf K (a_BadMachine_p__init__ K)
abbrev s_TooMany_p__init__ : Stmt := inClass (top 13) 0
abbrev N_TooMany_p__init__ : List Str := ["self", "limit"]
abbrev P_TooMany_p__init__ : List Str := ["self", "limit"]
theorem sc_TooMany_p__init__ : FnScope N_TooMany_p__init__ P_TooMany_p__init__ (defScope s_TooMany_p__init__) := ⟨rfl, rfl, rfl, by decide +kernel, rfl, by decide +kernel, by decide +kernel⟩
abbrev a_TooMany_p__init__ (K : Fr1) : Addr := He.ma K (He.ga K "TooMany") "__init__"
abbrev d_TooMany_p__init__ (K : Fr1) : FuncData := fdOf K (a_TooMany_p__init__ K)
abbrev s_law_state : Stmt := top 17
abbrev N_law_state : List Str := ["_law_script"]
abbrev P_law_state : List Str := ["_law_script"]
theorem sc_law_state : FnScope N_law_state P_law_state (defScope s_law_state) := ⟨rfl, rfl, rfl, by decide +kernel, rfl, by decide +kernel, by decide +kernel⟩
abbrev a_law_state (K : Fr1) : Addr := He.ga K "_law_state"
abbrev d_law_state (K : Fr1) : FuncData := fdOf K (a_law_state K)
abbrev s_law_draw : Stmt := top 18
abbrev N_law_draw : List Str := ["_law_state_here", "_law_many", "_law_digit", "_law_cell", "_law_number"]
abbrev P_law_draw : List Str := ["_law_state_here", "_law_many"]
theorem sc_law_draw : FnScope N_law_draw P_law_draw (defScope s_law_draw) := ⟨rfl, rfl, rfl, by decide +kernel, rfl, by decide +kernel, by decide +kernel⟩
abbrev a_law_draw (K : Fr1) : Addr := He.ga K "_law_draw"
abbrev d_law_draw (K : Fr1) : FuncData := fdOf K (a_law_draw K)
abbrev s_law_large : Stmt := top 19
abbrev N_law_large : List Str := ["_law_state_here", "_law_around", "_law_number"]
abbrev P_law_large : List Str := ["_law_state_here", "_law_around"]
theorem sc_law_large : FnScope N_law_large P_law_large (defScope s_law_large) := ⟨rfl, rfl, rfl, by decide +kernel, rfl, by decide +kernel, by decide +kernel⟩
abbrev a_law_large (K : Fr1) : Addr := He.ga K "_law_large"
abbrev d_law_large (K : Fr1) : FuncData := fdOf K (a_law_large K)
abbrev s_law_strange : Stmt := top 20
abbrev N_law_strange : List Str := ["_law_state_here", "_law_deep", "_law_k", "_law_things"]
abbrev P_law_strange : List Str := ["_law_state_here"]
theorem sc_law_strange : FnScope N_law_strange P_law_strange (defScope s_law_strange) := ⟨rfl, rfl, rfl, by decide +kernel, rfl, by decide +kernel, by decide +kernel⟩
abbrev a_law_strange (K : Fr1) : Addr := He.ga K "_law_strange"
abbrev d_law_strange (K : Fr1) : FuncData := fdOf K (a_law_strange K)
abbrev s_law_made : Stmt := top 21
abbrev N_law_made : List Str := ["_law_thing"]
abbrev P_law_made : List Str := ["_law_thing"]
theorem sc_law_made : FnScope N_law_made P_law_made (defScope s_law_made) := ⟨rfl, rfl, rfl, by decide +kernel, rfl, by decide +kernel, by decide +kernel⟩
abbrev a_law_made (K : Fr1) : Addr := He.ga K "_law_made"
abbrev d_law_made (K : Fr1) : FuncData := fdOf K (a_law_made K)
abbrev s_law_classes : Stmt := top 22
abbrev N_law_classes : List Str := ["_law_error"]
abbrev P_law_classes : List Str := ["_law_error"]
theorem sc_law_classes : FnScope N_law_classes P_law_classes (defScope s_law_classes) := ⟨rfl, rfl, rfl, by decide +kernel, rfl, by decide +kernel, by decide +kernel⟩
abbrev a_law_classes (K : Fr1) : Addr := He.ga K "_law_classes"
abbrev d_law_classes (K : Fr1) : FuncData := fdOf K (a_law_classes K)
abbrev s_law_kept : Stmt := top 23
abbrev N_law_kept : List Str := ["_law_name", "_law_error"]
abbrev P_law_kept : List Str := ["_law_name", "_law_error"]
theorem sc_law_kept : FnScope N_law_kept P_law_kept (defScope s_law_kept) := ⟨rfl, rfl, rfl, by decide +kernel, rfl, by decide +kernel, by decide +kernel⟩
abbrev a_law_kept (K : Fr1) : Addr := He.ga K "_law_kept"
abbrev d_law_kept (K : Fr1) : FuncData := fdOf K (a_law_kept K)
abbrev s_law : Stmt := top 24
abbrev N_law : List Str := ["_law_script", "_law_state_here", "_law_k", "_law_thing", "_law_made_here", "_law_at", "_law_name", "_law_error", "_law_spot"]
abbrev P_law : List Str := ["_law_script"]
theorem sc_law : FnScope N_law P_law (defScope s_law) := ⟨rfl, rfl, rfl, by decide +kernel, rfl, by decide +kernel, by decide +kernel⟩
abbrev a_law (K : Fr1) : Addr := He.ga K "law"
abbrev d_law (K : Fr1) : FuncData := fdOf K (a_law K)
/-! ### what the top has written -/
structure Txt (K : Fr1) (mg : Str → Option Value) : Prop where
  F_BadRound_p__init__ : Fn K "__init__" "BadRound.__init__" s_BadRound_p__init__ [] [] (a_BadRound_p__init__ K)
  F_BadRows_p__init__ : Fn K "__init__" "BadRows.__init__" s_BadRows_p__init__ [] [] (a_BadRows_p__init__ K)
  F_BadTurn_p__init__ : Fn K "__init__" "BadTurn.__init__" s_BadTurn_p__init__ [] [] (a_BadTurn_p__init__ K)
  F_BadStanding_p__init__ : Fn K "__init__" "BadStanding.__init__" s_BadStanding_p__init__ [] [] (a_BadStanding_p__init__ K)
  F_BadWord_p__init__ : Fn K "__init__" "BadWord.__init__" s_BadWord_p__init__ [] [] (a_BadWord_p__init__ K)
  F_BadSlack_p__init__ : Fn K "__init__" "BadSlack.__init__" s_BadSlack_p__init__ [] [] (a_BadSlack_p__init__ K)
  F_BadPlan_p__init__ : Fn K "__init__" "BadPlan.__init__" s_BadPlan_p__init__ [] [] (a_BadPlan_p__init__ K)
  F_BadKinds_p__init__ : Fn K "__init__" "BadKinds.__init__" s_BadKinds_p__init__ [] [] (a_BadKinds_p__init__ K)
  F_BadLog_p__init__ : Fn K "__init__" "BadLog.__init__" s_BadLog_p__init__ [] [] (a_BadLog_p__init__ K)
  F_BadText_p__init__ : Fn K "__init__" "BadText.__init__" s_BadText_p__init__ [] [] (a_BadText_p__init__ K)
  F_BadMachine_p__init__ : Fn K "__init__" "BadMachine.__init__" s_BadMachine_p__init__ [] [] (a_BadMachine_p__init__ K)
  F_TooMany_p__init__ : Fn K "__init__" "TooMany.__init__" s_TooMany_p__init__ [] [] (a_TooMany_p__init__ K)
  F_law_state : Fn K "_law_state" "_law_state" s_law_state [] [] (a_law_state K)
  F_law_draw : Fn K "_law_draw" "_law_draw" s_law_draw [] [] (a_law_draw K)
  F_law_large : Fn K "_law_large" "_law_large" s_law_large [] [] (a_law_large K)
  F_law_strange : Fn K "_law_strange" "_law_strange" s_law_strange [] [] (a_law_strange K)
  F_law_made : Fn K "_law_made" "_law_made" s_law_made [] [] (a_law_made K)
  F_law_classes : Fn K "_law_classes" "_law_classes" s_law_classes [] [] (a_law_classes K)
  F_law_kept : Fn K "_law_kept" "_law_kept" s_law_kept [] [] (a_law_kept K)
  F_law : Fn K "law" "law" s_law [] [] (a_law K)
  m__law_state : mg "_law_state" = some (.ref (a_law_state K))
  m__law_draw : mg "_law_draw" = some (.ref (a_law_draw K))
  m__law_large : mg "_law_large" = some (.ref (a_law_large K))
  m__law_strange : mg "_law_strange" = some (.ref (a_law_strange K))
  m__law_made : mg "_law_made" = some (.ref (a_law_made K))
  m__law_classes : mg "_law_classes" = some (.ref (a_law_classes K))
  m__law_kept : mg "_law_kept" = some (.ref (a_law_kept K))
  m_law : mg "law" = some (.ref (a_law K))
  m_JawError : mg "JawError" = some (.ref (He.ga K "JawError"))
  m_BadRound : mg "BadRound" = some (.ref (He.ga K "BadRound"))
  o_BadRound : OexC K (He.ga K "BadRound")
  na_BadRound_value : PySem.W.findIn K (.ref (He.ga K "BadRound")) "value" = some none
  M_BadRound_p__init__ : Meth K (He.ga K "BadRound") "__init__" (a_BadRound_p__init__ K)
  t_BadRound_p__init__ : PySem.W.typeIn K (.ref (a_BadRound_p__init__ K)) = some (.type "function")
  m_BadRows : mg "BadRows" = some (.ref (He.ga K "BadRows"))
  o_BadRows : OexC K (He.ga K "BadRows")
  na_BadRows_at : PySem.W.findIn K (.ref (He.ga K "BadRows")) "at" = some none
  M_BadRows_p__init__ : Meth K (He.ga K "BadRows") "__init__" (a_BadRows_p__init__ K)
  t_BadRows_p__init__ : PySem.W.typeIn K (.ref (a_BadRows_p__init__ K)) = some (.type "function")
  m_BadTurn : mg "BadTurn" = some (.ref (He.ga K "BadTurn"))
  o_BadTurn : OexC K (He.ga K "BadTurn")
  na_BadTurn_value : PySem.W.findIn K (.ref (He.ga K "BadTurn")) "value" = some none
  M_BadTurn_p__init__ : Meth K (He.ga K "BadTurn") "__init__" (a_BadTurn_p__init__ K)
  t_BadTurn_p__init__ : PySem.W.typeIn K (.ref (a_BadTurn_p__init__ K)) = some (.type "function")
  m_BadStanding : mg "BadStanding" = some (.ref (He.ga K "BadStanding"))
  o_BadStanding : OexC K (He.ga K "BadStanding")
  na_BadStanding_value : PySem.W.findIn K (.ref (He.ga K "BadStanding")) "value" = some none
  M_BadStanding_p__init__ : Meth K (He.ga K "BadStanding") "__init__" (a_BadStanding_p__init__ K)
  t_BadStanding_p__init__ : PySem.W.typeIn K (.ref (a_BadStanding_p__init__ K)) = some (.type "function")
  m_BadWord : mg "BadWord" = some (.ref (He.ga K "BadWord"))
  o_BadWord : OexC K (He.ga K "BadWord")
  na_BadWord_value : PySem.W.findIn K (.ref (He.ga K "BadWord")) "value" = some none
  M_BadWord_p__init__ : Meth K (He.ga K "BadWord") "__init__" (a_BadWord_p__init__ K)
  t_BadWord_p__init__ : PySem.W.typeIn K (.ref (a_BadWord_p__init__ K)) = some (.type "function")
  m_BadSlack : mg "BadSlack" = some (.ref (He.ga K "BadSlack"))
  o_BadSlack : OexC K (He.ga K "BadSlack")
  na_BadSlack_value : PySem.W.findIn K (.ref (He.ga K "BadSlack")) "value" = some none
  M_BadSlack_p__init__ : Meth K (He.ga K "BadSlack") "__init__" (a_BadSlack_p__init__ K)
  t_BadSlack_p__init__ : PySem.W.typeIn K (.ref (a_BadSlack_p__init__ K)) = some (.type "function")
  m_BadPlan : mg "BadPlan" = some (.ref (He.ga K "BadPlan"))
  o_BadPlan : OexC K (He.ga K "BadPlan")
  na_BadPlan_at : PySem.W.findIn K (.ref (He.ga K "BadPlan")) "at" = some none
  M_BadPlan_p__init__ : Meth K (He.ga K "BadPlan") "__init__" (a_BadPlan_p__init__ K)
  t_BadPlan_p__init__ : PySem.W.typeIn K (.ref (a_BadPlan_p__init__ K)) = some (.type "function")
  m_BadKinds : mg "BadKinds" = some (.ref (He.ga K "BadKinds"))
  o_BadKinds : OexC K (He.ga K "BadKinds")
  na_BadKinds_at : PySem.W.findIn K (.ref (He.ga K "BadKinds")) "at" = some none
  M_BadKinds_p__init__ : Meth K (He.ga K "BadKinds") "__init__" (a_BadKinds_p__init__ K)
  t_BadKinds_p__init__ : PySem.W.typeIn K (.ref (a_BadKinds_p__init__ K)) = some (.type "function")
  m_BadLog : mg "BadLog" = some (.ref (He.ga K "BadLog"))
  o_BadLog : OexC K (He.ga K "BadLog")
  na_BadLog_at : PySem.W.findIn K (.ref (He.ga K "BadLog")) "at" = some none
  M_BadLog_p__init__ : Meth K (He.ga K "BadLog") "__init__" (a_BadLog_p__init__ K)
  t_BadLog_p__init__ : PySem.W.typeIn K (.ref (a_BadLog_p__init__ K)) = some (.type "function")
  m_BadText : mg "BadText" = some (.ref (He.ga K "BadText"))
  o_BadText : OexC K (He.ga K "BadText")
  na_BadText_at : PySem.W.findIn K (.ref (He.ga K "BadText")) "at" = some none
  M_BadText_p__init__ : Meth K (He.ga K "BadText") "__init__" (a_BadText_p__init__ K)
  t_BadText_p__init__ : PySem.W.typeIn K (.ref (a_BadText_p__init__ K)) = some (.type "function")
  m_BadMachine : mg "BadMachine" = some (.ref (He.ga K "BadMachine"))
  o_BadMachine : OexC K (He.ga K "BadMachine")
  na_BadMachine_state : PySem.W.findIn K (.ref (He.ga K "BadMachine")) "state" = some none
  M_BadMachine_p__init__ : Meth K (He.ga K "BadMachine") "__init__" (a_BadMachine_p__init__ K)
  t_BadMachine_p__init__ : PySem.W.typeIn K (.ref (a_BadMachine_p__init__ K)) = some (.type "function")
  m_TooMany : mg "TooMany" = some (.ref (He.ga K "TooMany"))
  o_TooMany : OexC K (He.ga K "TooMany")
  na_TooMany_limit : PySem.W.findIn K (.ref (He.ga K "TooMany")) "limit" = some none
  M_TooMany_p__init__ : Meth K (He.ga K "TooMany") "__init__" (a_TooMany_p__init__ K)
  t_TooMany_p__init__ : PySem.W.typeIn K (.ref (a_TooMany_p__init__ K)) = some (.type "function")
  m_NoPlan : mg "NoPlan" = some (.ref (He.ga K "NoPlan"))
  m_NothingDone : mg "NothingDone" = some (.ref (He.ga K "NothingDone"))
  ens : EnsC K ["BadRound", "BadTurn", "BadStanding", "BadWord", "BadSlack", "BadRows", "BadPlan", "BadKinds", "BadLog", "BadText", "BadMachine", "TooMany", "NoPlan", "NothingDone"]
  exn_NoPlan : ExnC K (He.ga K "NoPlan")
  exn_NothingDone : ExnC K (He.ga K "NothingDone")
  n_LookupError : mg "LookupError" = none
  n_ValueError : mg "ValueError" = none
  n_enumerate : mg "enumerate" = none
  n_int : mg "int" = none
  n_isinstance : mg "isinstance" = none
  n_len : mg "len" = none
  n_list : mg "list" = none
  n_range : mg "range" = none
  n_tuple : mg "tuple" = none
def fnL : List DefA := [
  ⟨fun K => a_BadRound_p__init__ K, "__init__", "BadRound.__init__", defArgs s_BadRound_p__init__, defBody s_BadRound_p__init__, defScope s_BadRound_p__init__, [], []⟩,
  ⟨fun K => a_BadRows_p__init__ K, "__init__", "BadRows.__init__", defArgs s_BadRows_p__init__, defBody s_BadRows_p__init__, defScope s_BadRows_p__init__, [], []⟩,
  ⟨fun K => a_BadTurn_p__init__ K, "__init__", "BadTurn.__init__", defArgs s_BadTurn_p__init__, defBody s_BadTurn_p__init__, defScope s_BadTurn_p__init__, [], []⟩,
  ⟨fun K => a_BadStanding_p__init__ K, "__init__", "BadStanding.__init__", defArgs s_BadStanding_p__init__, defBody s_BadStanding_p__init__, defScope s_BadStanding_p__init__, [], []⟩,
  ⟨fun K => a_BadWord_p__init__ K, "__init__", "BadWord.__init__", defArgs s_BadWord_p__init__, defBody s_BadWord_p__init__, defScope s_BadWord_p__init__, [], []⟩,
  ⟨fun K => a_BadSlack_p__init__ K, "__init__", "BadSlack.__init__", defArgs s_BadSlack_p__init__, defBody s_BadSlack_p__init__, defScope s_BadSlack_p__init__, [], []⟩,
  ⟨fun K => a_BadPlan_p__init__ K, "__init__", "BadPlan.__init__", defArgs s_BadPlan_p__init__, defBody s_BadPlan_p__init__, defScope s_BadPlan_p__init__, [], []⟩,
  ⟨fun K => a_BadKinds_p__init__ K, "__init__", "BadKinds.__init__", defArgs s_BadKinds_p__init__, defBody s_BadKinds_p__init__, defScope s_BadKinds_p__init__, [], []⟩,
  ⟨fun K => a_BadLog_p__init__ K, "__init__", "BadLog.__init__", defArgs s_BadLog_p__init__, defBody s_BadLog_p__init__, defScope s_BadLog_p__init__, [], []⟩,
  ⟨fun K => a_BadText_p__init__ K, "__init__", "BadText.__init__", defArgs s_BadText_p__init__, defBody s_BadText_p__init__, defScope s_BadText_p__init__, [], []⟩,
  ⟨fun K => a_BadMachine_p__init__ K, "__init__", "BadMachine.__init__", defArgs s_BadMachine_p__init__, defBody s_BadMachine_p__init__, defScope s_BadMachine_p__init__, [], []⟩,
  ⟨fun K => a_TooMany_p__init__ K, "__init__", "TooMany.__init__", defArgs s_TooMany_p__init__, defBody s_TooMany_p__init__, defScope s_TooMany_p__init__, [], []⟩,
  ⟨fun K => a_law_state K, "_law_state", "_law_state", defArgs s_law_state, defBody s_law_state, defScope s_law_state, [], []⟩,
  ⟨fun K => a_law_draw K, "_law_draw", "_law_draw", defArgs s_law_draw, defBody s_law_draw, defScope s_law_draw, [], []⟩,
  ⟨fun K => a_law_large K, "_law_large", "_law_large", defArgs s_law_large, defBody s_law_large, defScope s_law_large, [], []⟩,
  ⟨fun K => a_law_strange K, "_law_strange", "_law_strange", defArgs s_law_strange, defBody s_law_strange, defScope s_law_strange, [], []⟩,
  ⟨fun K => a_law_made K, "_law_made", "_law_made", defArgs s_law_made, defBody s_law_made, defScope s_law_made, [], []⟩,
  ⟨fun K => a_law_classes K, "_law_classes", "_law_classes", defArgs s_law_classes, defBody s_law_classes, defScope s_law_classes, [], []⟩,
  ⟨fun K => a_law_kept K, "_law_kept", "_law_kept", defArgs s_law_kept, defBody s_law_kept, defScope s_law_kept, [], []⟩,
  ⟨fun K => a_law K, "law", "law", defArgs s_law, defBody s_law, defScope s_law, [], []⟩]
def faL : List Fk := [
  .fa (.glo "_law_state"),
  .fa (.glo "_law_draw"),
  .fa (.glo "_law_large"),
  .fa (.glo "_law_strange"),
  .fa (.glo "_law_made"),
  .fa (.glo "_law_classes"),
  .fa (.glo "_law_kept"),
  .fa (.glo "law"),
  .fa (.glo "JawError"),
  .fa (.glo "BadRound"),
  .oex "BadRound",
  .fa (.noat "BadRound" "value"),
  .fa (.meth "BadRound" "__init__"),
  .tyf "BadRound" "__init__",
  .fa (.glo "BadRows"),
  .oex "BadRows",
  .fa (.noat "BadRows" "at"),
  .fa (.meth "BadRows" "__init__"),
  .tyf "BadRows" "__init__",
  .fa (.glo "BadTurn"),
  .oex "BadTurn",
  .fa (.noat "BadTurn" "value"),
  .fa (.meth "BadTurn" "__init__"),
  .tyf "BadTurn" "__init__",
  .fa (.glo "BadStanding"),
  .oex "BadStanding",
  .fa (.noat "BadStanding" "value"),
  .fa (.meth "BadStanding" "__init__"),
  .tyf "BadStanding" "__init__",
  .fa (.glo "BadWord"),
  .oex "BadWord",
  .fa (.noat "BadWord" "value"),
  .fa (.meth "BadWord" "__init__"),
  .tyf "BadWord" "__init__",
  .fa (.glo "BadSlack"),
  .oex "BadSlack",
  .fa (.noat "BadSlack" "value"),
  .fa (.meth "BadSlack" "__init__"),
  .tyf "BadSlack" "__init__",
  .fa (.glo "BadPlan"),
  .oex "BadPlan",
  .fa (.noat "BadPlan" "at"),
  .fa (.meth "BadPlan" "__init__"),
  .tyf "BadPlan" "__init__",
  .fa (.glo "BadKinds"),
  .oex "BadKinds",
  .fa (.noat "BadKinds" "at"),
  .fa (.meth "BadKinds" "__init__"),
  .tyf "BadKinds" "__init__",
  .fa (.glo "BadLog"),
  .oex "BadLog",
  .fa (.noat "BadLog" "at"),
  .fa (.meth "BadLog" "__init__"),
  .tyf "BadLog" "__init__",
  .fa (.glo "BadText"),
  .oex "BadText",
  .fa (.noat "BadText" "at"),
  .fa (.meth "BadText" "__init__"),
  .tyf "BadText" "__init__",
  .fa (.glo "BadMachine"),
  .oex "BadMachine",
  .fa (.noat "BadMachine" "state"),
  .fa (.meth "BadMachine" "__init__"),
  .tyf "BadMachine" "__init__",
  .fa (.glo "TooMany"),
  .oex "TooMany",
  .fa (.noat "TooMany" "limit"),
  .fa (.meth "TooMany" "__init__"),
  .tyf "TooMany" "__init__",
  .fa (.glo "NoPlan"),
  .fa (.glo "NothingDone"),
  .ens ["BadRound", "BadTurn", "BadStanding", "BadWord", "BadSlack", "BadRows", "BadPlan", "BadKinds", "BadLog", "BadText", "BadMachine", "TooMany", "NoPlan", "NothingDone"],
  .exn "NoPlan",
  .exn "NothingDone",
  .fa (.free "LookupError"),
  .fa (.free "ValueError"),
  .fa (.free "enumerate"),
  .fa (.free "int"),
  .fa (.free "isinstance"),
  .fa (.free "len"),
  .fa (.free "list"),
  .fa (.free "range"),
  .fa (.free "tuple")]
theorem txt_of {K : Fr1} {h : Heap} {mg : Str → Option Value} (X : K.In h) (G : h.Ns mainGlobals mg) (c : SaysJ faL fnL K) : Txt K mg := ⟨
  fn_at (c.def_ 0 rfl),
  fn_at (c.def_ 1 rfl),
  fn_at (c.def_ 2 rfl),
  fn_at (c.def_ 3 rfl),
  fn_at (c.def_ 4 rfl),
  fn_at (c.def_ 5 rfl),
  fn_at (c.def_ 6 rfl),
  fn_at (c.def_ 7 rfl),
  fn_at (c.def_ 8 rfl),
  fn_at (c.def_ 9 rfl),
  fn_at (c.def_ 10 rfl),
  fn_at (c.def_ 11 rfl),
  fn_at (c.def_ 12 rfl),
  fn_at (c.def_ 13 rfl),
  fn_at (c.def_ 14 rfl),
  fn_at (c.def_ 15 rfl),
  fn_at (c.def_ 16 rfl),
  fn_at (c.def_ 17 rfl),
  fn_at (c.def_ 18 rfl),
  fn_at (c.def_ 19 rfl),
  He.glo_ok X G (c.fact 0 (f := .fa (.glo "_law_state")) rfl),
  He.glo_ok X G (c.fact 1 (f := .fa (.glo "_law_draw")) rfl),
  He.glo_ok X G (c.fact 2 (f := .fa (.glo "_law_large")) rfl),
  He.glo_ok X G (c.fact 3 (f := .fa (.glo "_law_strange")) rfl),
  He.glo_ok X G (c.fact 4 (f := .fa (.glo "_law_made")) rfl),
  He.glo_ok X G (c.fact 5 (f := .fa (.glo "_law_classes")) rfl),
  He.glo_ok X G (c.fact 6 (f := .fa (.glo "_law_kept")) rfl),
  He.glo_ok X G (c.fact 7 (f := .fa (.glo "law")) rfl),
  He.glo_ok X G (c.fact 8 (f := .fa (.glo "JawError")) rfl),
  He.glo_ok X G (c.fact 9 (f := .fa (.glo "BadRound")) rfl),
  oexB_ok (c.fact 10 (f := .oex "BadRound") rfl),
  He.noat_ok (c.fact 11 (f := .fa (.noat "BadRound" "value")) rfl),
  He.meth_ok (c.fact 12 (f := .fa (.meth "BadRound" "__init__")) rfl),
  of_decide_eq_true (c.fact 13 (f := .tyf "BadRound" "__init__") rfl),
  He.glo_ok X G (c.fact 14 (f := .fa (.glo "BadRows")) rfl),
  oexB_ok (c.fact 15 (f := .oex "BadRows") rfl),
  He.noat_ok (c.fact 16 (f := .fa (.noat "BadRows" "at")) rfl),
  He.meth_ok (c.fact 17 (f := .fa (.meth "BadRows" "__init__")) rfl),
  of_decide_eq_true (c.fact 18 (f := .tyf "BadRows" "__init__") rfl),
  He.glo_ok X G (c.fact 19 (f := .fa (.glo "BadTurn")) rfl),
  oexB_ok (c.fact 20 (f := .oex "BadTurn") rfl),
  He.noat_ok (c.fact 21 (f := .fa (.noat "BadTurn" "value")) rfl),
  He.meth_ok (c.fact 22 (f := .fa (.meth "BadTurn" "__init__")) rfl),
  of_decide_eq_true (c.fact 23 (f := .tyf "BadTurn" "__init__") rfl),
  He.glo_ok X G (c.fact 24 (f := .fa (.glo "BadStanding")) rfl),
  oexB_ok (c.fact 25 (f := .oex "BadStanding") rfl),
  He.noat_ok (c.fact 26 (f := .fa (.noat "BadStanding" "value")) rfl),
  He.meth_ok (c.fact 27 (f := .fa (.meth "BadStanding" "__init__")) rfl),
  of_decide_eq_true (c.fact 28 (f := .tyf "BadStanding" "__init__") rfl),
  He.glo_ok X G (c.fact 29 (f := .fa (.glo "BadWord")) rfl),
  oexB_ok (c.fact 30 (f := .oex "BadWord") rfl),
  He.noat_ok (c.fact 31 (f := .fa (.noat "BadWord" "value")) rfl),
  He.meth_ok (c.fact 32 (f := .fa (.meth "BadWord" "__init__")) rfl),
  of_decide_eq_true (c.fact 33 (f := .tyf "BadWord" "__init__") rfl),
  He.glo_ok X G (c.fact 34 (f := .fa (.glo "BadSlack")) rfl),
  oexB_ok (c.fact 35 (f := .oex "BadSlack") rfl),
  He.noat_ok (c.fact 36 (f := .fa (.noat "BadSlack" "value")) rfl),
  He.meth_ok (c.fact 37 (f := .fa (.meth "BadSlack" "__init__")) rfl),
  of_decide_eq_true (c.fact 38 (f := .tyf "BadSlack" "__init__") rfl),
  He.glo_ok X G (c.fact 39 (f := .fa (.glo "BadPlan")) rfl),
  oexB_ok (c.fact 40 (f := .oex "BadPlan") rfl),
  He.noat_ok (c.fact 41 (f := .fa (.noat "BadPlan" "at")) rfl),
  He.meth_ok (c.fact 42 (f := .fa (.meth "BadPlan" "__init__")) rfl),
  of_decide_eq_true (c.fact 43 (f := .tyf "BadPlan" "__init__") rfl),
  He.glo_ok X G (c.fact 44 (f := .fa (.glo "BadKinds")) rfl),
  oexB_ok (c.fact 45 (f := .oex "BadKinds") rfl),
  He.noat_ok (c.fact 46 (f := .fa (.noat "BadKinds" "at")) rfl),
  He.meth_ok (c.fact 47 (f := .fa (.meth "BadKinds" "__init__")) rfl),
  of_decide_eq_true (c.fact 48 (f := .tyf "BadKinds" "__init__") rfl),
  He.glo_ok X G (c.fact 49 (f := .fa (.glo "BadLog")) rfl),
  oexB_ok (c.fact 50 (f := .oex "BadLog") rfl),
  He.noat_ok (c.fact 51 (f := .fa (.noat "BadLog" "at")) rfl),
  He.meth_ok (c.fact 52 (f := .fa (.meth "BadLog" "__init__")) rfl),
  of_decide_eq_true (c.fact 53 (f := .tyf "BadLog" "__init__") rfl),
  He.glo_ok X G (c.fact 54 (f := .fa (.glo "BadText")) rfl),
  oexB_ok (c.fact 55 (f := .oex "BadText") rfl),
  He.noat_ok (c.fact 56 (f := .fa (.noat "BadText" "at")) rfl),
  He.meth_ok (c.fact 57 (f := .fa (.meth "BadText" "__init__")) rfl),
  of_decide_eq_true (c.fact 58 (f := .tyf "BadText" "__init__") rfl),
  He.glo_ok X G (c.fact 59 (f := .fa (.glo "BadMachine")) rfl),
  oexB_ok (c.fact 60 (f := .oex "BadMachine") rfl),
  He.noat_ok (c.fact 61 (f := .fa (.noat "BadMachine" "state")) rfl),
  He.meth_ok (c.fact 62 (f := .fa (.meth "BadMachine" "__init__")) rfl),
  of_decide_eq_true (c.fact 63 (f := .tyf "BadMachine" "__init__") rfl),
  He.glo_ok X G (c.fact 64 (f := .fa (.glo "TooMany")) rfl),
  oexB_ok (c.fact 65 (f := .oex "TooMany") rfl),
  He.noat_ok (c.fact 66 (f := .fa (.noat "TooMany" "limit")) rfl),
  He.meth_ok (c.fact 67 (f := .fa (.meth "TooMany" "__init__")) rfl),
  of_decide_eq_true (c.fact 68 (f := .tyf "TooMany" "__init__") rfl),
  He.glo_ok X G (c.fact 69 (f := .fa (.glo "NoPlan")) rfl),
  He.glo_ok X G (c.fact 70 (f := .fa (.glo "NothingDone")) rfl),
  ensB_ok (c.fact 71 (f := .ens ["BadRound", "BadTurn", "BadStanding", "BadWord", "BadSlack", "BadRows", "BadPlan", "BadKinds", "BadLog", "BadText", "BadMachine", "TooMany", "NoPlan", "NothingDone"]) rfl),
  exnB_ok (c.fact 72 (f := .exn "NoPlan") rfl),
  exnB_ok (c.fact 73 (f := .exn "NothingDone") rfl),
  He.free_ok X G (c.fact 74 (f := .fa (.free "LookupError")) rfl),
  He.free_ok X G (c.fact 75 (f := .fa (.free "ValueError")) rfl),
  He.free_ok X G (c.fact 76 (f := .fa (.free "enumerate")) rfl),
  He.free_ok X G (c.fact 77 (f := .fa (.free "int")) rfl),
  He.free_ok X G (c.fact 78 (f := .fa (.free "isinstance")) rfl),
  He.free_ok X G (c.fact 79 (f := .fa (.free "len")) rfl),
  He.free_ok X G (c.fact 80 (f := .fa (.free "list")) rfl),
  He.free_ok X G (c.fact 81 (f := .fa (.free "range")) rfl),
  He.free_ok X G (c.fact 82 (f := .fa (.free "tuple")) rfl)⟩
theorem b_BadRound_p__init__ {K : Fr1} {mg : Str → Option Value} (T : Txt K mg) : Binds K (d_BadRound_p__init__ K) P_BadRound_p__init__ [] := T.F_BadRound_p__init__.bindsN fun _ _ _ _ _ _ us hl => match us, hl with | [_, _], _ => rfl
theorem b_BadRows_p__init__ {K : Fr1} {mg : Str → Option Value} (T : Txt K mg) : Binds K (d_BadRows_p__init__ K) P_BadRows_p__init__ [] := T.F_BadRows_p__init__.bindsN fun _ _ _ _ _ _ us hl => match us, hl with | [_, _], _ => rfl
theorem b_BadTurn_p__init__ {K : Fr1} {mg : Str → Option Value} (T : Txt K mg) : Binds K (d_BadTurn_p__init__ K) P_BadTurn_p__init__ [] := T.F_BadTurn_p__init__.bindsN fun _ _ _ _ _ _ us hl => match us, hl with | [_, _], _ => rfl
theorem b_BadStanding_p__init__ {K : Fr1} {mg : Str → Option Value} (T : Txt K mg) : Binds K (d_BadStanding_p__init__ K) P_BadStanding_p__init__ [] := T.F_BadStanding_p__init__.bindsN fun _ _ _ _ _ _ us hl => match us, hl with | [_, _], _ => rfl
theorem b_BadWord_p__init__ {K : Fr1} {mg : Str → Option Value} (T : Txt K mg) : Binds K (d_BadWord_p__init__ K) P_BadWord_p__init__ [] := T.F_BadWord_p__init__.bindsN fun _ _ _ _ _ _ us hl => match us, hl with | [_, _], _ => rfl
theorem b_BadSlack_p__init__ {K : Fr1} {mg : Str → Option Value} (T : Txt K mg) : Binds K (d_BadSlack_p__init__ K) P_BadSlack_p__init__ [] := T.F_BadSlack_p__init__.bindsN fun _ _ _ _ _ _ us hl => match us, hl with | [_, _], _ => rfl
theorem b_BadPlan_p__init__ {K : Fr1} {mg : Str → Option Value} (T : Txt K mg) : Binds K (d_BadPlan_p__init__ K) P_BadPlan_p__init__ [] := T.F_BadPlan_p__init__.bindsN fun _ _ _ _ _ _ us hl => match us, hl with | [_, _], _ => rfl
theorem b_BadKinds_p__init__ {K : Fr1} {mg : Str → Option Value} (T : Txt K mg) : Binds K (d_BadKinds_p__init__ K) P_BadKinds_p__init__ [] := T.F_BadKinds_p__init__.bindsN fun _ _ _ _ _ _ us hl => match us, hl with | [_, _], _ => rfl
theorem b_BadLog_p__init__ {K : Fr1} {mg : Str → Option Value} (T : Txt K mg) : Binds K (d_BadLog_p__init__ K) P_BadLog_p__init__ [] := T.F_BadLog_p__init__.bindsN fun _ _ _ _ _ _ us hl => match us, hl with | [_, _], _ => rfl
theorem b_BadText_p__init__ {K : Fr1} {mg : Str → Option Value} (T : Txt K mg) : Binds K (d_BadText_p__init__ K) P_BadText_p__init__ [] := T.F_BadText_p__init__.bindsN fun _ _ _ _ _ _ us hl => match us, hl with | [_, _], _ => rfl
theorem b_BadMachine_p__init__ {K : Fr1} {mg : Str → Option Value} (T : Txt K mg) : Binds K (d_BadMachine_p__init__ K) P_BadMachine_p__init__ [] := T.F_BadMachine_p__init__.bindsN fun _ _ _ _ _ _ us hl => match us, hl with | [_, _], _ => rfl
theorem b_TooMany_p__init__ {K : Fr1} {mg : Str → Option Value} (T : Txt K mg) : Binds K (d_TooMany_p__init__ K) P_TooMany_p__init__ [] := T.F_TooMany_p__init__.bindsN fun _ _ _ _ _ _ us hl => match us, hl with | [_, _], _ => rfl
theorem b_law_state {K : Fr1} {mg : Str → Option Value} (T : Txt K mg) : Binds K (d_law_state K) P_law_state [] := T.F_law_state.bindsN fun _ _ _ _ _ _ us hl => match us, hl with | [_], _ => rfl
theorem b_law_draw {K : Fr1} {mg : Str → Option Value} (T : Txt K mg) : Binds K (d_law_draw K) P_law_draw [] := T.F_law_draw.bindsN fun _ _ _ _ _ _ us hl => match us, hl with | [_, _], _ => rfl
theorem b_law_large {K : Fr1} {mg : Str → Option Value} (T : Txt K mg) : Binds K (d_law_large K) P_law_large [] := T.F_law_large.bindsN fun _ _ _ _ _ _ us hl => match us, hl with | [_, _], _ => rfl
theorem b_law_strange {K : Fr1} {mg : Str → Option Value} (T : Txt K mg) : Binds K (d_law_strange K) P_law_strange [] := T.F_law_strange.bindsN fun _ _ _ _ _ _ us hl => match us, hl with | [_], _ => rfl
theorem b_law_made {K : Fr1} {mg : Str → Option Value} (T : Txt K mg) : Binds K (d_law_made K) P_law_made [] := T.F_law_made.bindsN fun _ _ _ _ _ _ us hl => match us, hl with | [_], _ => rfl
theorem b_law_classes {K : Fr1} {mg : Str → Option Value} (T : Txt K mg) : Binds K (d_law_classes K) P_law_classes [] := T.F_law_classes.bindsN fun _ _ _ _ _ _ us hl => match us, hl with | [_], _ => rfl
theorem b_law_kept {K : Fr1} {mg : Str → Option Value} (T : Txt K mg) : Binds K (d_law_kept K) P_law_kept [] := T.F_law_kept.bindsN fun _ _ _ _ _ _ us hl => match us, hl with | [_, _], _ => rfl
theorem b_law {K : Fr1} {mg : Str → Option Value} (T : Txt K mg) : Binds K (d_law K) P_law [] := T.F_law.bindsN fun _ _ _ _ _ _ us hl => match us, hl with | [_], _ => rfl
end J

namespace J
open PySem PySem.Spec PyProof.Rows L2
abbrev RowL : PySem.W.OpenRow := PySem.W.OpenLaw.row PySem.Challenge.rw_jawturns_k37_errors
abbrev hkL : PySem.W.Hook := hookJ 4 faL fnL
def obL (s : PySem.W.SharedT) : He.AlD := obsJG 4 faL fnL (HandSHeadRun.getT s)
theorem obL_eq (s : PySem.W.SharedT) : obL s = hkL.obs s.abs := obsJG_eq (HandSHeadRun.getT_eq s)
abbrev looseL : List PySem.Str := (["__name__", "JawError", "BadRound", "BadRows", "BadTurn", "BadStanding", "BadWord", "BadSlack", "BadPlan", "BadKinds", "BadLog", "BadText", "BadMachine", "TooMany", "NoPlan", "NothingDone", "_law_state", "_law_draw", "_law_large", "_law_strange", "_law_made", "_law_classes", "_law_kept"] : List PySem.Str)
theorem runL (w : World) : HandSHeadRun.RunEq RowL (PySem.W.view RowL.prog [24]) hkL obL 20000 looseL w := by
  intro os
  kernel_rfl
end J
namespace J
open PySem L2
open Evl (Ex)
/-! ### steps: a reading's head is taken off -/
section
variable {K : Fr1} {σ : L2.St} {H : Hp} {Q : VK} {D : Ends} {ta tb te tx : TE} {t u : TT} {g : TG} {r : R2} {tA : TA} {QA : List V → Hp → Prop} {QB : Bool → Hp → Prop} {QS : L2.St → Hp → Prop}
theorem w_var {i : Nat} {v : V} (h : σ[i]? = some (some v)) (k : Q v H) : tVar i σ H Q := ⟨v, h, k⟩
theorem w_c {v : V} (k : Q v H) : tC v σ H Q := k
theorem w_op (k : ta σ H fun x H1 => tb σ H1 fun y H2 => r x y H2 Q) : tOp r ta tb σ H Q := k
theorem w_un {r : V → Hp → VK → Prop} (k : ta σ H fun x H1 => r x H1 Q) : tUn r ta σ H Q := k
theorem w_I0 {f : Int → Int → V} {i j : Int} (k : Q (f i j) H) : rI0 f (.int i) (.int j) H Q := ⟨i, j, rfl, rfl, k⟩
theorem w_mulR {f : Int → Int → V} {i j : Int} (c : -(2 ^ 64) < j ∧ j < 2 ^ 64) (k : Q (f i j) H) : rI CMul f (.int i) (.int j) H Q := ⟨i, j, rfl, rfl, .inr c, k⟩
theorem w_mulL {f : Int → Int → V} {i j : Int} (c : -(2 ^ 64) < i ∧ i < 2 ^ 64) (k : Q (f i j) H) : rI CMul f (.int i) (.int j) H Q := ⟨i, j, rfl, rfl, .inl c, k⟩
theorem w_mod {f : Int → Int → V} {i j : Int} (c : j ≠ 0) (k : Q (f i j) H) : rI (fun _ j => j ≠ 0) f (.int i) (.int j) H Q := ⟨i, j, rfl, rfl, c, k⟩
theorem w_divN {f : Int → Int → V} {i j : Int} (c : j ≠ 0 ∧ j.natAbs < 1073741824) (k : Q (f i j) H) : rI CDivN f (.int i) (.int j) H Q := ⟨i, j, rfl, rfl, c, k⟩
theorem w_modP {f : Int → Int → V} {i j : Int} (c : 0 < j) (k : Q (f i j) H) : rI (fun _ j => 0 < j) f (.int i) (.int j) H Q := ⟨i, j, rfl, rfl, c, k⟩
theorem w_divP {f : Int → Int → V} {i j : Int} (c : 0 < j ∧ j < 1073741824) (k : Q (f i j) H) : rI CDiv f (.int i) (.int j) H Q := ⟨i, j, rfl, rfl, c, k⟩
theorem w_divW {f : Int → Int → V} {i j : Int} {b : Nat} (c : 0 < j) (h : j.natAbs < 2 ^ b) (h0 : 0 < b) (h9 : b ≤ 9000) (k : Q (f i j) H) : rI CDivW f (.int i) (.int j) H Q := ⟨i, j, rfl, rfl, wide_div c h h0 h9, k⟩
theorem w_pow {f : Int → Int → V} {i j : Int} (c : 0 ≤ j ∧ j ≤ 1000000 ∧ i.natAbs < 2 ^ 64) (k : Q (f i j) H) : rI CPow f (.int i) (.int j) H Q := ⟨i, j, rfl, rfl, c, k⟩
theorem w_U {f : Int → V} {i : Int} (k : Q (f i) H) : rU f (.int i) H Q := ⟨i, rfl, k⟩
theorem w_eqI {i j : Int} (k : Q (.bl (decide (i = j))) H) : rEq (.int i) (.int j) H Q := ⟨rfl, by
  have e : decide (V.int i = V.int j) = decide (i = j) := by
    by_cases h : i = j
    · rw [h, decide_eq_true rfl, decide_eq_true rfl]
    · rw [decide_eq_false h, decide_eq_false fun z => h (V.int.inj z)]
  rw [e]; exact k⟩
theorem w_neI {i j : Int} (k : Q (.bl (!decide (i = j))) H) : rNe (.int i) (.int j) H Q := ⟨rfl, by
  have e : decide (V.int i = V.int j) = decide (i = j) := by
    by_cases h : i = j
    · rw [h, decide_eq_true rfl, decide_eq_true rfl]
    · rw [decide_eq_false h, decide_eq_false fun z => h (V.int.inj z)]
  rw [e]; exact k⟩
theorem w_ixL {p : Addr} {xs : List V} {i : Int} {v : V} (h : SqL K H p xs) (e : atI xs i = some v) (k : Q v H) : rIxL K (.ref p) (.int i) H Q := ⟨p, xs, i, v, rfl, rfl, h, e, k⟩
theorem w_ixT {p : Addr} {xs : List V} {i : Int} {v : V} (h : SqT K H p xs) (e : atI xs i = some v) (k : Q v H) : rIxT K (.ref p) (.int i) H Q := ⟨p, xs, i, v, rfl, rfl, h, e, k⟩
theorem w_setL {p : Addr} {xs : List V} {i : Int} {j : Nat} {v : V} {Q : Hp → Prop} (h : H p = some (.lst xs)) (e : ixN xs.length i = some j) (k : Q (upd H p (.lst (xs.set j v)))) : rSetL (.ref p) (.int i) v H Q := ⟨p, xs, i, j, rfl, rfl, h, e, k⟩
theorem w_sub {s : TSet} {v : V} (k : ta σ H fun o H1 => tb σ H1 fun i H2 => s o i v H2 fun H3 => QS σ H3) : gSub ta tb s v σ H QS := k
theorem w_test (k : te σ H fun x H' => ∃ c, x = .bl c ∧ QB c H') : tTest te σ H QB := k
theorem w_B (k : te σ H fun x H' => ∃ c, x = .bl c ∧ QB c H') : tB te σ H QB := k
theorem w_bl {c : Bool} {P : Bool → Prop} (k : P c) : ∃ d, V.bl c = .bl d ∧ P d := ⟨c, rfl, k⟩
theorem w_nil (k : QA [] H) : tNil σ H QA := k
theorem w_cons (k : te σ H fun x H1 => tA σ H1 fun xs H2 => QA (x :: xs) H2) : tCons te tA σ H QA := k
theorem w_cb {r : List V → Hp → VK → Prop} (k : tA σ H fun vs H1 => r vs H1 Q) : tCB r tA σ H Q := k
theorem w_call {sp : Sp} {dvs : List V} {E : XK} (k : tA σ H fun vs H1 => sp (vs ++ dvs) H1 Q E) : tCall sp dvs E tA σ H Q := k
/-- what follows, by a name -/
structure Fol (F : L2.St → Hp → Prop) (u : TS) (D : Ends) : Prop where
  go : ∀ {σ H}, u D σ H → F σ H
theorem w_seqF {t u : TS} (k : ∀ F, Fol F u D → t { D with nx := F } σ H) : tSeq t u D σ H := k _ ⟨fun h => h⟩
theorem w_asg (k : te σ H fun x H1 => g x σ H1 D.nx) : tAsg te g D σ H := k
theorem w_name {i : Nat} {v : V} (k : QS (σ.set i (some v)) H) : gName i v σ H QS := k
theorem w_ret (k : te σ H D.rt) : tRet te D σ H := k
theorem w_ifS {a b : TS} (k : t σ H fun c H1 => if c = true then a D σ H1 else b D σ H1) : tIfS t a b D σ H := k
theorem w_drop (k : te σ H fun _ H1 => D.nx σ H1) : tDrop te D σ H := k
theorem w_next (k : D.nx σ H) : tNext D σ H := k
theorem w_if {c : Prop} [Decidable c] {A B : Prop} (h1 : c → A) (h2 : ¬ c → B) : if decide c = true then A else B := by
  by_cases h : c
  · rw [decide_eq_true h]; exact iteT (h1 h)
  · rw [decide_eq_false h]; exact iteF (h2 h)
theorem w_nt {A B : Prop} (h : A) : if (!false) = true then A else B := iteT h
theorem w_nf {A B : Prop} (h : B) : if (!true) = true then A else B := iteF h
theorem w_sFld {f : Str} {tv : TE} (k : tv σ H fun y H1 => ta σ H1 fun x H2 => ∃ a C dx fs, x = .ref a ∧ H2 a = some (.ins C dx fs) ∧ Cls K C ∧ NoAttr K C f ∧ fs.length < 1000 ∧ D.nx σ (upd H2 a (.ins C dx (putF f y fs)))) : sFld K ta tv f D σ H := k
theorem w_ij {a b : Int} {P : Int → Int → Prop} (k : P a b) : ∃ i j, [V.int a, V.int b] = [.int i, .int j] ∧ P i j := ⟨a, b, rfl, k⟩
theorem w_yes (k : QB true H) : tYes σ H QB := k
theorem w_and (k : t σ H fun c H1 => if c = true then u σ H1 QB else QB false H1) : tAnd t u σ H QB := k
theorem w_or (k : t σ H fun c H1 => if c = true then QB true H1 else u σ H1 QB) : tOr t u σ H QB := k
theorem w_not (k : t σ H fun c H1 => QB (!c) H1) : tNot t σ H QB := k
theorem w_int1 {i : Int} {P : Int → Prop} {P2 : Bool → Prop} (k : P i) : (∃ j, [V.int i] = [.int j] ∧ P j) ∨ ∃ b : Bool, [V.int i] = [.bl b] ∧ P2 b := .inl ⟨i, rfl, k⟩
theorem w_lenL {p : Addr} {ys : List V} {P : List V → Prop} (h : SqL K H p ys) (k : P ys) : ∃ p' ys', [V.ref p] = [.ref p'] ∧ (SqL K H p' ys' ∨ SqT K H p' ys') ∧ P ys' := ⟨p, ys, rfl, .inl h, k⟩
theorem w_lenT {p : Addr} {ys : List V} {P : List V → Prop} (h : SqT K H p ys) (k : P ys) : ∃ p' ys', [V.ref p] = [.ref p'] ∧ (SqL K H p' ys' ∨ SqT K H p' ys') ∧ P ys' := ⟨p, ys, rfl, .inr h, k⟩
theorem gen_new {H H1 : Hp} {p : Addr} {o : HO} (hp : H p = none) (e : upd H p o = H1) : Ex H H1 ∧ H1 p = some o := by subst e; exact ⟨Ex.new hp, upd_same⟩
theorem gen_mut {H0 H H1 : Hp} {p : Addr} {o : HO} (hp : H0 p = none) (x : Ex H0 H) (e : upd H p o = H1) : Ex H0 H1 ∧ H1 p = some o ∧ ∀ q, q ≠ p → H1 q = H q := by subst e; exact ⟨x.mut hp, upd_same, fun q hq => upd_ne hq⟩
theorem w_tup {ta : TA} (k : ta σ H fun xs H1 => xs.length ≤ sizeLine ∧ ∀ p, H1 p = none → Q (.ref p) (upd H1 p (.tup xs))) : tTup ta σ H Q := k
theorem w_lst {ta : TA} (k : ta σ H fun xs H1 => xs.length ≤ sizeLine ∧ ∀ p, H1 p = none → Q (.ref p) (upd H1 p (.lst xs))) : tLst ta σ H Q := k
theorem w_andV (k : ta σ H fun x H1 => ∃ c, x = .bl c ∧ if c = true then tb σ H1 Q else Q (.bl false) H1) : tAndV ta tb σ H Q := k
theorem w_orV (k : ta σ H fun x H1 => ∃ c, x = .bl c ∧ if c = true then Q (.bl true) H1 else tb σ H1 Q) : tOrV ta tb σ H Q := k
theorem w_notV (k : ta σ H fun x H1 => ∃ c, x = .bl c ∧ Q (.bl (!c)) H1) : tNotV ta σ H Q := k
theorem w_ifE (k : t σ H fun c H1 => if c = true then ta σ H1 Q else tb σ H1 Q) : tIf t ta tb σ H Q := k
theorem w_chain {r' : R2} {tc : TE} (k : ta σ H fun x H1 => tb σ H1 fun y H2 => r x y H2 fun z H3 => ∃ k, z = .bl k ∧ (if k = true then tc σ H3 fun w' H4 => r' y w' H4 Q else Q (.bl false) H3)) : tChain r r' ta tb tc σ H Q := k
theorem w_par {i j : Nat} (k : tA σ H fun vs H1 => ∃ v w, vs = [v, w] ∧ D.nx ((σ.set i (some v)).set j (some w)) H1) : tPar i j tA D σ H := k
theorem w_vw {v w : V} {P : V → V → Prop} (k : P v w) : ∃ a b, [v, w] = [a, b] ∧ P a b := ⟨v, w, rfl, k⟩
theorem w_gtup {n : Nat} {gs : TGs} {p : Addr} {xs : List V} (h : SqT K H p xs) (hl : xs.length = n) (k : gs xs σ H QS) : gTup K n gs (.ref p) σ H QS := ⟨p, xs, rfl, h, hl, k⟩
theorem w_gcons {g1 : TG} {gs : TGs} {v : V} {vs : List V} (k : g1 v σ H fun σ' H' => gs vs σ' H' QS) : gCons g1 gs (v :: vs) σ H QS := ⟨v, vs, rfl, k⟩
theorem w_gnil (k : QS σ H) : gNil [] σ H QS := ⟨rfl, k⟩
theorem w_bm {T : String} {r : V → List V → Hp → VK → Prop} (k : te σ H fun x H1 => tyV K T x H1 ∧ tA σ H1 fun xs H2 => r x xs H2 Q) : tBM K T r te tA σ H Q := k
theorem w_tyL {p : Addr} {xs : List V} {c : Prop} (h : SqL K H p xs) (k : c) : tyV K "list" (.ref p) H ∧ c := ⟨.inl ⟨rfl, _, h⟩, k⟩
theorem w_fldT {f : Str} (k : ta σ H fun x H1 => ∃ a C dx fs v, x = .ref a ∧ H1 a = some (.ins C dx fs) ∧ Cls K C ∧ NoAttr K C f ∧ fs.lookup f = some v ∧ Q v H1) : tFld K ta f σ H Q := k
end
theorem _root_.Evl.Ex.get {H H' : Hp} {p : Addr} {o : HO} (e : Ex H H') (h : H p = some o) : H' p = some o := e _ _ h
theorem _root_.Evl.Ex.free {H H' : Hp} {p : Addr} (e : Ex H H') (h : H' p = none) : H p = none := Evl.fresh_back e h
theorem sz_of {n : Nat} (h : n ≤ 1000) : n ≤ sizeLine := Nat.le_trans h (by decide)
/-! ### data in the heap -/
mutual
inductive Dq (K : Fr1) (H : Hp) : V → PyData → Prop
  | non : Dq K H .non .none
  | bl (b : Bool) : Dq K H (.bl b) (.bool b)
  | int (i : Int) : Dq K H (.int i) (.int i)
  | str (x : Str) : Dq K H (.str x) (.str x)
  | lst {a : Addr} {xs : List V} {ds : List PyData} (h : H a = some (.lst xs)) (ha : DqAll K H xs ds) : Dq K H (.ref a) (.list ds)
  | tup {a : Addr} {xs : List V} {ds : List PyData} (h : H a = some (.tup xs)) (ha : DqAll K H xs ds) : Dq K H (.ref a) (.tuple ds)
  | dct {a : Addr} {kvs : List (Key × V)} {ds : List (PyData × PyData)} (h : H a = some (.dK kvs)) : Dq K H (.ref a) (.dict ds)
inductive DqAll (K : Fr1) (H : Hp) : List V → List PyData → Prop
  | nil : DqAll K H [] []
  | cons {v : V} {vs : List V} {d : PyData} {ds : List PyData} (h : Dq K H v d) (t : DqAll K H vs ds) : DqAll K H (v :: vs) (d :: ds)
end
def tyn : PyData → String
  | .none => "NoneType"
  | .bool _ => "bool"
  | .int _ => "int"
  | .str _ => "str"
  | .list _ => "list"
  | .tuple _ => "tuple"
  | .dict _ => "dict"
theorem Dq.ty {K : Fr1} {H : Hp} {v : V} {d : PyData} (h : Dq K H v d) : TyX K H v (.type (tyn d)) := by
  cases h with
  | non => exact .base .non
  | bl b => exact .base (.bl b)
  | int i => exact .base (.int i)
  | str x => exact .base (.str x)
  | lst h _ => exact .base (.lst h)
  | tup h _ => exact .base (.tup h)
  | dct h => exact .base (.dK h)
mutual
theorem Dq.mono {K : Fr1} {H H' : Hp} (e : Ex H H') : ∀ {v : V} {d : PyData}, Dq K H v d → Dq K H' v d
  | _, _, .non => .non
  | _, _, .bl b => .bl b
  | _, _, .int i => .int i
  | _, _, .str x => .str x
  | _, _, .lst h a => .lst (e _ _ h) (DqAll.mono e a)
  | _, _, .tup h a => .tup (e _ _ h) (DqAll.mono e a)
  | _, _, .dct h => .dct (e _ _ h)
theorem DqAll.mono {K : Fr1} {H H' : Hp} (e : Ex H H') : ∀ {vs : List V} {ds : List PyData}, DqAll K H vs ds → DqAll K H' vs ds
  | _, _, .nil => .nil
  | _, _, .cons h t => .cons (Dq.mono e h) (DqAll.mono e t)
end
theorem DqAll.len {K : Fr1} {H : Hp} {vs : List V} {ds : List PyData} : DqAll K H vs ds → vs.length = ds.length
  | .nil => rfl
  | .cons _ t => congrArg Nat.succ (DqAll.len t)
theorem DqAll.get {K : Fr1} {H : Hp} : ∀ {vs : List V} {ds : List PyData} {i : Nat} {v : V}, DqAll K H vs ds → vs[i]? = some v → ∃ d, ds[i]? = some d ∧ Dq K H v d
  | _, _, 0, _, .cons h _, e => by
    cases (Option.some.inj e)
    exact ⟨_, rfl, h⟩
  | _, _, i + 1, v, .cons _ t, e => DqAll.get (i := i) t e
theorem DqAll.get' {K : Fr1} {H : Hp} : ∀ {vs : List V} {ds : List PyData} {i : Nat} {d : PyData}, DqAll K H vs ds → ds[i]? = some d → ∃ v, vs[i]? = some v ∧ Dq K H v d
  | _, _, 0, _, .cons h _, e => by
    cases (Option.some.inj e)
    exact ⟨_, rfl, h⟩
  | _, _, i + 1, d, .cons _ t, e => DqAll.get' (i := i) t e
theorem kit_list (d : PyData) : kitB (tyn d) "list" = some (tyn d == "list") := by cases d <;> (dsimp only [tyn]; decide +kernel)
theorem kit_tuple (d : PyData) : kitB (tyn d) "tuple" = some (tyn d == "tuple") := by cases d <;> (dsimp only [tyn]; decide +kernel)
section
variable {K : Fr1} {H : Hp} {Q : VK} {v : V} {d : PyData}
/-- isinstance(x, T), T a built-in class -/
theorem w_isi {n : String} {b : Bool} (h : Dq K H v d) (k : kitB (tyn d) n = some b) (q : Q (.bl b) H) : rIsi K [v, .ty n] H Q := ⟨v, .ty n, .type (tyn d), .type n, b, rfl, .ty n, h.ty, kit_ty k, q⟩
end
/-- what the checks of the program ask of data -/
def isI : PyData → Bool
  | .int _ => true
  | _ => false
def isPlc (N : Int) : PyData → Bool
  | .int i => decide (0 ≤ i) && decide (i < N)
  | _ => false
def isPair (N : Int) : PyData → Bool
  | .tuple [a, b] => isPlc N a && isPlc N b
  | _ => false
/-! ### own errors -/
/-- what an error's __init__ does: its one field is stored in its new dict -/
def sp_err (C : Addr) (f : Str) : Sp := fun vs H Q _ => ∃ (a : Addr) (v : V), vs = [.ref a, v] ∧ H a = some (exo a C none) ∧
  ∀ dx, H dx = none → dx ≠ a → Q .non (upd (upd H dx (exd dx [(f, v)])) a (exo a C (some dx)))
/-- the wish for a raised error of the class named c whose field f holds v -/
def Rz (K : Fr1) (c f : Str) (v : V) (H : Hp) (E : XK) : Prop := ∀ d H', H d = none → Ex H H' → H' d = some (.xd [(f, v)]) → E (.ref (He.ga K c)) (some d) H'
theorem Rz.mono {K : Fr1} {c f : Str} {v : V} {H H1 : Hp} {E : XK} (r : Rz K c f v H E) (e : Ex H H1) : Rz K c f v H1 E := fun d H' h1 h2 h3 => r d H' (Evl.fresh_back e h1) (e.trans h2) h3
section
variable {σ : L2.St} {H : Hp} {C : Addr} {f : Str} {v : V} {ta : TA} {Q : XK} {sp : Sp} {dvs : List V}
theorem w_mkO (k : ta σ H fun vs H1 => vs.length ≤ 1000 ∧ ∀ a, H1 a = none → sp (.ref a :: (vs ++ dvs)) (upd H1 a (exo a C none))
  (fun v H2 => v = .non ∧ ∃ (d : Addr) (fs : List (Str × V)), H2 a = some (exo a C (some d)) ∧ H2 d = some (exd d fs) ∧ H1 d = none ∧ Q (.ref C) (some d) (upd (del H2 a) d (.xd fs))) (fun _ _ _ => False)) : tMkO C sp dvs ta σ H Q := k
theorem w_err {P : Value → Option Addr → Hp → Prop} (k : ∀ d H', H d = none → Ex H H' → H' d = some (.xd [(f, v)]) → P (.ref C) (some d) H') :
    [v].length ≤ 1000 ∧ ∀ a, H a = none → sp_err C f (.ref a :: ([v] ++ [])) (upd H a (exo a C none))
      (fun v H2 => v = .non ∧ ∃ (d : Addr) (fs : List (Str × V)), H2 a = some (exo a C (some d)) ∧ H2 d = some (exd d fs) ∧ H d = none ∧ P (.ref C) (some d) (upd (del H2 a) d (.xd fs))) (fun _ _ _ => False) := by
  refine ⟨by show 1 ≤ 1000; decide, fun a ha => ⟨a, v, rfl, upd_same, fun dx h1 h2 => ⟨rfl, dx, [(f, v)], upd_same, by rw [upd_ne h2]; exact upd_same, ?_, ?_⟩⟩⟩
  · rw [upd_ne h2] at h1
    exact h1
  · rw [upd_ne h2] at h1
    refine k dx _ h1 (fun b o hb => ?_) upd_same
    have n1 : b ≠ dx := ne_of_none hb h1
    have n2 : b ≠ a := ne_of_none hb ha
    rw [upd_ne n1, del_ne n2, upd_ne n2, upd_ne n1, upd_ne n2]
    exact hb
end
/-! ### enumerate of a list or a tuple, by what its iterator draws -/
/-- h behind the making of enumerate(v), where iter(v) makes o -/
def enH (h : Heap) (o : Obj) : Heap := (h.push o).push ⟨.type "enumerate", none, .fields #[.none, .bool false, .ref h.objs.size, rawInt 0, .none, .none], #[]⟩
structure EnNew (h h' : Heap) (o : Obj) : Prop where
  cell : IsEnum h' (h.objs.size + 1) h.objs.size (0 + ((0 : Nat) : Int)) .none
  iter : h'.get? h.objs.size = some o
  ext : ∀ b u, h.get? b = some u → h'.get? b = some u
theorem enH_new {h : Heap} {o : Obj} (f : o.isFreed = false) : EnNew h (enH h o) o where
  cell := by
    have k : (h.push o).objs.size = h.objs.size + 1 := Heap.size_push ..
    show (enH h o).get? (h.objs.size + 1) = _
    rw [← k]
    exact Heap.get?_push_size _ rfl
  iter := Heap.get?_push_of_some _ (Heap.get?_push_size _ f)
  ext := fun b u e => Heap.get?_push_of_some _ (Heap.get?_push_of_some _ e)
theorem enum_makes {v : Value} {o : Obj} {St : Heap → Prop} (B : Begins v o St) :
    Meets (Builtin.«enumerate.__new__» ⟨[.type "enumerate", v], []⟩) (fun _ R s => St s.heap ∧ R (.ok (.ret (.ref (s.heap.objs.size + 1)))) { s with heap := enH s.heap o }) :=
  .of_wp fun prog w A R s0 ⟨b0, want⟩ => by
    obtain ⟨h0, gl, ds, ts, oo⟩ := s0
    have sub := sub_enumerate
    have k : (h0.push o).objs.size = h0.objs.size + 1 := Heap.size_push ..
    have it : ∀ {A' : Around} {E' : Value → Shared → Prop} {Q' : Value → Shared → Prop}, Q' (.ref h0.objs.size) ⟨h0.push o, gl, ds, ts, oo⟩ → wpAny (model prog w) A' (pyIter v) Q' E' ⟨h0, gl, ds, ts, oo⟩ :=
      fun q' => B.iter prog w _ _ ⟨h0, gl, ds, ts, oo⟩ _ b0 q'
    rw [← k] at want
    wp_walk using it
    refine wpAny_stack_any fun fr => wpAny_pure ?_
    split
    · next c _ _ _ _ _ => cases (c == Value.type "enumerate") <;> (wp_walk using it; exact ⟨_, rfl, want⟩)
    · wp_walk using it; exact ⟨_, rfl, want⟩
theorem enum_called {prog : Program} {w : World} {A : Around} {E : Value → Shared → Prop} {s : Shared} {v : Value} {o : Obj} {St : Heap → Prop} {Q : Value → Shared → Prop} (B : Begins v o St) (b0 : St s.heap)
    (k : ∀ h', EnNew s.heap h' o → Q (.ref (s.heap.objs.size + 1)) { s with heap := h' }) : wpAny (model prog w) A (call (.type "enumerate") [v]) Q E s := by
  have n := enH_new (h := s.heap) B.free
  exact callType_new F.called_enumerate (by decide) (F.typeCall_enumerate_1 v) (F.newCall_enumerate_1 v) (fun ob => F.args_object_init_2 ob v) F.entry_enumerate_new (enum_makes B) ⟨b0, ⟨_, n.cell, rfl⟩, k _ n⟩
/-- the tuple at a, each item in a new pair -/
def Iet (K : Fr1) (a : Addr) : It where
  go i H := ∃ xs x, SqT K H a xs ∧ xs[i]? = some x
  yld i H v H' := ∃ T x, v = .ref T ∧ H T = none ∧ H' = upd H T (.tup [.int (i : Nat), x]) ∧ ∀ xs, SqT K H a xs → xs[i]? = some x
  stop i H := ∃ xs : List V, SqT K H a xs ∧ xs.length = i
/-- what the enumeration at e over the tuple at a keeps in its own two cells -/
structure EnAt (a e it : Addr) (i : Nat) (h : Heap) : Prop where
  cell : ∃ old, IsEnum h e it (0 + (i : Int)) old
  iter : h.IsTupleIter it a i
theorem EnAt.stays {a e it : Addr} {i : Nat} {h h' : Heap} (S : EnAt a e it i h) (k : ∀ b ∈ [e, it], ∀ o, h.get? b = some o → h'.get? b = some o) : EnAt a e it i h' :=
  ⟨S.cell.imp fun _ c => k e (by simp) _ c, S.iter.at fun o q => k it (by simp) o q⟩
theorem EnAt.live {a e it : Addr} {i : Nat} {h : Heap} (S : EnAt a e it i h) {b : Addr} (hb : b ∈ [e, it]) : ∃ o, h.get? b = some o ∧ ∀ v, o.data ≠ .cell v := by
  rcases List.mem_cons.mp hb with rfl | hb
  · exact S.cell.elim fun _ c => ⟨_, c, fun _ => by simp⟩
  · obtain ⟨o, ho, _, hd⟩ := S.iter
    rw [List.mem_singleton.mp hb]
    exact ⟨o, ho, fun v q => by rw [hd] at q; cases q⟩
theorem enum_goes {P : Program} {w : World} {A : Around} (hh : A.handled = none) {elts : List Expr} {kk : Nat} {tp : Pos} {a e it : Addr} (ne : [a, e, it].Nodup) (its : Array Value) :
    GoesN P w A (.Tuple elts kk tp) e [e, it, a] [e, it] its.size (fun i h0 v h => ∃ T t x, v = .ref T ∧ h0.objs.size ≤ T ∧ its[i]? = some x ∧ h.IsTuple T #[.int (0 + (i : Int)) t, x])
      fun i h => (∃ old, IsEnum h e it (0 + (i : Int)) old) ∧ h.IsTupleIter it a i ∧ h.IsTuple a its := by
  simp only [List.nodup_cons, List.mem_cons, List.not_mem_nil, or_false, not_or] at ne
  exact GoesN.enumFrom 0 (Draws.tuple (A := A.in1) hh it a ne.1.2 its) e ne.2.1 (by simp [ne.2.1, Ne.symm ne.1.1]) (by simp)
theorem turn_enT {P : Program} {w : World} {K : Fr1} {elts : List Expr} {kk : Nat} {tp : Pos} {a e it : Addr} (ne : [a, e, it].Nodup) : Turn P w K (.Tuple elts kk tp) (Iet K a) [e, it] e (EnAt a e it) where
  mem := List.mem_cons_self ..
  obj i h S b hb := S.live hb
  keep i h h' S k := S.stays k
  self A i s Q E S q := S.cell.elim fun _ c => wpAny_pyIter_enum c q
  item := by
    rintro X rfl rfl rfl hc i pins s σ H E I hf S ⟨xs, x, hq, hx⟩
    obtain ⟨its, rv, p, -⟩ := I.tuple hq
    obtain ⟨u, hu, ru⟩ := rv.get hx
    have hlt : i < its.toArray.size := by simpa using (List.getElem?_eq_some_iff.mp hu).1
    refine (enum_goes (I.ok.hd hc) ne its.toArray).goes i s _ E hlt ⟨S.cell, S.iter, p⟩ ?_
    rintro v h' tk ⟨T, t, y, rfl, hT, hy, tT⟩ ⟨c', i', -⟩ hk -
    obtain rfl : y = u := Option.some.inj (by rw [← hu, ← hy]; simp)
    have hT0 : H T = none := I.hok.fresh hT
    have new : ObjOk X.prog X.w (upd H T (.tup [.int (i : Nat), x])) h' T (.tup [.int (i : Nat), x]) :=
      ⟨Nat.le_of_ble_eq_true rfl, _, .cons ⟨t, by rw [Int.zero_add]⟩ (.cons ru .nil), tT⟩
    refine ⟨.ref T, _, I.turnedNew hk hf hT new, rfl, ⟨T, x, rfl, hT0, rfl, fun ys hy => by rw [I.tuple_inj hy hq]; exact hx⟩, ⟨c', i'⟩, fun b hb => ?_⟩
    rw [upd_ne]
    · exact (hf b hb).1
    · rintro rfl
      obtain ⟨o, ho, -⟩ := S.live hb
      exact absurd (Heap.lt_size ho) (Nat.not_lt.mpr hT)
  done := by
    rintro X rfl rfl rfl hc i pins s σ H E I hf S ⟨xs, hq, hx⟩
    obtain ⟨its, rv, p, -⟩ := I.tuple hq
    have hi : its.toArray.size = i := by rw [← hx, rv.length]; simp
    have G := (enum_goes (P := X.prog) (w := X.w) (elts := elts) (kk := kk) (tp := tp) (I.ok.hd hc) ne its.toArray).stops s
    rw [hi] at G
    exact G _ E ⟨S.cell, S.iter, p⟩ fun h' tk hk _ => I.turnedL hk hf
/-- a list or a tuple of xs at a -/
def Sq (K : Fr1) (H : Hp) (a : Addr) (xs : List V) : Prop := H a = some (.lst xs) ∨ H a = some (.tup xs)
theorem Sq.mono {K : Fr1} {H H' : Hp} {a : Addr} {xs : List V} (e : Ex H H') (h : Sq K H a xs) : Sq K H' a xs := by
  rcases h with h | h
  · exact .inl (e _ _ h)
  · exact .inr (e _ _ h)
/-- what comes of a walked thing: its items, as long as the heap only grows -/
def tWk (K : Fr1) (H : Hp) (a : Addr) (xs : List V) (Y : Nat → Hp → V → Hp → Prop) (R : It → Hp → Prop) : Prop := ∀ J, Walk J xs.length (fun H' => H' a = H a) Y → R J H
abbrev YEn (xs : List V) : Nat → Hp → V → Hp → Prop := YPair (fun i => some (.int (i : Nat))) (fun i => xs[i]?)
def iEnumX (K : Fr1) (ta : TA) : TI := fun σ H R => ta σ H fun vs H1 => ∃ a xs, vs = [.ref a] ∧ Sq K H1 a xs ∧ tWk K H1 a xs (YEn xs) R
theorem walk_enumT {K : Fr1} {a : Addr} {xs : List V} : Walk (Iet K a) xs.length (fun H => SqT K H a xs) (YEn xs) := by
  refine ⟨fun i _ hi q => ⟨xs, xs[i], q, by simp [hi]⟩, fun _ q => ⟨xs, q, rfl⟩, fun i H v H' _ q y => ?_⟩
  rcases y with ⟨T, x, rfl, h2, h3, h4⟩
  exact ⟨T, _, x, rfl, h2, h3, rfl, h4 _ q⟩
theorem vals_ref {a : Addr} {us : List Value} (h : Vals [.ref a] us) : us = [.ref a] := by
  cases h with
  | cons r t => cases r; cases t; rfl
theorem pi_enumX {X : Cx} {e : Expr} {ta : TA} {p pos tpos : Pos} {elts : List Expr} {kk : Nat} (hg : Gl X "enumerate") (hm : X.mg "enumerate" = none) (ha : PA X [e] ta) (hs : starEach [e] X.env = [(false, eval e X.env)] := by rfl) :
    PI X (.Tuple elts kk tpos) (.Call (.Name "enumerate" p) [e] [] pos) (iEnumX X.K ta) := by
  refine ⟨fun pins s σ H R I h => PyProof.Rows.Call_ (ld_blt I hg hm PyProof.Rows.boot_enumerate (PyProof.Rows.callWith_type1 (thn (ha.run pos pins s σ H _ I h) ?_) hs rfl))⟩
  rintro us s1 ⟨_, H1, I1, r1, a, xs, rfl, hq, q⟩
  obtain rfl := vals_ref r1
  have fp : ∀ b ∈ [s1.heap.objs.size + 1, s1.heap.objs.size], FpOk X pins H1 b := fun b hb => by
    have le : s1.heap.objs.size ≤ b := by
      rcases List.mem_cons.mp hb with rfl | hb
      · exact Nat.le_succ _
      · exact Nat.le_of_eq (List.mem_singleton.mp hb).symm
    exact I1.fpOk le (I1.hok.fresh le)
  rcases hq with hq | hq
  · obtain ⟨its, -, p', -⟩ := I1.list (SqL.of hq)
    refine enum_called (begins_list a its.toArray) p'.isList fun h' N => wpAny_pyIter_enum N.cell ⟨_, _, _, _, H1, rfl, I1.kept (t' := s1.toks) N.ext, turn_enum a _ _, ⟨⟨.none, (Int.zero_add ((0 : Nat) : Int)) ▸ N.cell⟩, ⟨_, N.iter, rfl, rfl⟩, Nat.succ_ne_self _⟩, fp, q _ (walk_enum.mono (fun _ x => SqL.of (x.trans hq)) fun _ _ _ _ _ _ y => y)⟩

  · obtain ⟨its, -, p', -⟩ := I1.tuple (SqT.of hq)
    have al : a < s1.heap.objs.size := p'.lt
    refine enum_called (begins_tuple a its.toArray) p' fun h' N => wpAny_pyIter_enum N.cell ⟨_, _, _, _, H1, rfl, I1.kept (t' := s1.toks) N.ext, turn_enT ?_, ⟨⟨_, N.cell⟩, ⟨_, N.iter, rfl, rfl⟩⟩, fp, q _ (walk_enumT.mono (fun _ x => SqT.of (x.trans hq)) fun _ _ _ _ _ _ y => y)⟩
    simp only [List.nodup_cons, List.mem_cons, List.not_mem_nil, or_false, not_or, not_false_eq_true, List.nodup_nil, and_true]
    exact ⟨⟨Nat.ne_of_lt (Nat.lt_succ_of_lt al), Nat.ne_of_lt al⟩, Nat.succ_ne_self _⟩
/-- for x in a list or a tuple -/
def iSeq (K : Fr1) (tl : TE) : TI := fun σ H R => tl σ H fun x H1 => ∃ a xs, x = .ref a ∧ Sq K H1 a xs ∧ tWk K H1 a xs (YAt xs) R
theorem _root_.Evl.Ex.delD {H H' : Hp} {D : Addr} (e : Ex H H') (h : H D = none) : Ex H (del H' D) := fun b o hb => by
  rw [del_ne (ne_of_none hb h)]
  exact e b o hb
theorem ex_del {H : Hp} {D : Addr} : Ex (del H D) H := fun b o hb => by
  by_cases q : b = D
  · rw [q, del_same] at hb
    cases hb
  · rw [del_ne q] at hb
    exact hb
theorem paired_mono {α : Type} {R R' : V → α → Prop} (m : ∀ v a, R v a → R' v a) : ∀ {vs : List V} {as : List α}, Paired R vs as → Paired R' vs as
  | _, _, .nil => .nil
  | _, _, .cons h t => .cons (m _ _ h) (paired_mono m t)
theorem paired_snoc {α : Type} {R : V → α → Prop} {v : V} {a : α} (h : R v a) : ∀ {vs : List V} {as : List α}, Paired R vs as → Paired R (vs ++ [v]) (as ++ [a])
  | _, _, .nil => .cons h .nil
  | _, _, .cons q t => .cons q (paired_snoc h t)
theorem range_fm_succ {α : Type} (f : Nat → Option α) (n : Nat) : (List.range (n + 1)).filterMap f = (List.range n).filterMap f ++ (f n).toList := by
  rw [List.range_succ, List.filterMap_append]
  cases e : f n <;> simp [List.filterMap_cons, e]
theorem range_map_get {α β : Type} (l : List α) (f : α → β) : (List.range l.length).filterMap (fun i => (l[i]?).map f) = l.map f := by
  have h : ∀ (n : Nat), n ≤ l.length → (List.range n).filterMap (fun i => (l[i]?).map f) = (l.take n).map f := by
    intro n
    induction n with
    | zero => intro _; simp
    | succ n ih =>
      intro hn
      rw [range_fm_succ, ih (by omega), List.take_add_one, List.map_append]
      cases l[n]? <;> simp
  rw [h _ (Nat.le_refl _), List.take_length]
/-- a comprehension over a walk: at turn i it gives f i's datum, or nothing -/
theorem lc_gen {α : Type} {J : It} {n : Nat} {Y : Nat → Hp → V → Hp → Prop} {H : Hp} {g : TG} {tt : TT} {te : TE} {vs : List Nat} {σ : L2.St} {Q : Addr → Hp → Prop} (R : Hp → V → α → Prop) (mono : ∀ H H' v a, Ex H H' → R H v a → R H' v a)
    (wk : Walk J n (fun H' => Ex H H') Y) (f : Nat → Option α) (hz : n < sizeLine)
    (hs : ∀ (D : Addr) (i : Nat) (x : V) (H' H1 : Hp) (k1 : V → Hp → Prop) (k2 : Hp → Prop), H D = none → i < n → Ex H H' → (∃ o, H' D = some o) → Y i H' x H1 →
      (∀ a y H4, f i = some a → Ex H' H4 → R (del H4 D) y a → k1 y H4) → (f i = none → ∀ H4, Ex H' H4 → k2 H4) →
      g x (wipe σ vs) H1 fun σ2 H2 => wipe σ2 vs = wipe σ vs ∧ tt σ2 H2 fun b H3 => if b = true then te σ2 H3 k1 else k2 H3)
    (hd : ∀ D H', H D = none → Ex H H' → (∃ acc, H' D = some (.lst acc) ∧ Paired (R H') acc ((List.range n).filterMap f)) → Q D H') :
    ∀ D, H D = none → ∃ W : Nat → Nat → Hp → Prop, (∃ m, W 0 m (upd H D (.lst []))) ∧ ∀ i m H, W i m H →
      (J.stop i H ∧ Q D H) ∨ (J.go i H ∧ ∃ Nx : Hp → Prop, (∀ H', Nx H' → ∃ m', m' < m ∧ W (i + 1) m' H') ∧ ∀ x H', J.yld i H x H' → g x (wipe σ vs) H' fun σ2 H2 => wipe σ2 vs = wipe σ vs ∧ tt σ2 H2 fun b H3 =>
        if b = true then te σ2 H3 fun y H4 => ∃ acc, H4 D = some (.lst acc) ∧ acc.length < sizeLine ∧ Nx (upd H4 D (.lst (acc ++ [y]))) else Nx H3) := by
  intro D hD
  refine lc_it wk (fun i H' => i ≤ n ∧ Ex H H' ∧ ∃ acc, H' D = some (.lst acc) ∧ acc.length ≤ i ∧ Paired (R (del H' D)) acc ((List.range i).filterMap f)) ⟨Nat.zero_le _, Ex.new hD, [], upd_same, Nat.le_refl _, .nil⟩ (fun i H' _ p => p.2.1) (fun i x H' H1 hi p y => ?_) (fun H' p => ?_)
  · obtain ⟨hi', e, acc, ha, hal, hp⟩ := p
    refine hs D i x H' H1 _ _ hD hi e ⟨_, ha⟩ y (fun a z H4 hf e4 r => ?_) (fun hf H4 e4 => ?_)
    · refine ⟨acc, e4 _ _ ha, by omega, by omega, (e.trans e4).mut hD, acc ++ [z], upd_same, by rw [List.length_append]; show acc.length + 1 ≤ i + 1; omega, ?_⟩
      have ed : del (upd H4 D (.lst (acc ++ [z]))) D = del H4 D := by
        funext b
        by_cases q : b = D
        · rw [q, del_same, del_same]
        · rw [del_ne q, del_ne q, upd_ne q]
      have e5 : Ex (del H' D) (del H4 D) := Ex.delD (ex_del.trans e4) del_same
      rw [ed, range_fm_succ, hf]
      exact paired_snoc r (paired_mono (fun v a h => mono _ _ v a e5 h) hp)
    · have e5 : Ex (del H' D) (del H4 D) := Ex.delD (ex_del.trans e4) del_same
      refine ⟨by omega, e.trans e4, acc, e4 _ _ ha, by omega, ?_⟩
      rw [range_fm_succ, hf]
      simpa using paired_mono (fun v a h => mono _ _ v a e5 h) hp
  · obtain ⟨_, e, acc, ha, _, hp⟩ := p
    exact hd D H' hD e ⟨acc, ha, paired_mono (fun v a h => mono _ _ v a ex_del h) hp⟩
section
variable {K : Fr1} {σ : L2.St} {H : Hp} {D : Ends} {ta : TA} {tl : TE} {R : It → Hp → Prop}
theorem w_for {wi : TI} {g : TG} {tb : TS} (k : wi σ H fun J H1 => ∃ W : Nat → Nat → L2.St → Hp → Prop, (∃ m, W 0 m σ H1) ∧ ∀ i m σ H, W i m σ H →
  (J.stop i H ∧ D.nx σ H) ∨ (J.go i H ∧ ∃ N : L2.St → Hp → Prop, (∀ σ' H', N σ' H' → ∃ m', m' < m ∧ W (i + 1) m' σ' H') ∧ ∀ x H', J.yld i H x H' → g x σ H' fun σ2 H2 => tb { D with nx := N, ct := N, bk := D.nx } σ2 H2)) : tFor wi g tb D σ H := k
theorem w_enumI (k : ta σ H fun vs H1 => ∃ a xs, vs = [.ref a] ∧ Sq K H1 a xs ∧ tWk K H1 a xs (YEn xs) R) : iEnumX K ta σ H R := k
theorem w_seqI (k : tl σ H fun x H1 => ∃ a xs, x = .ref a ∧ Sq K H1 a xs ∧ tWk K H1 a xs (YAt xs) R) : iSeq K tl σ H R := k
theorem sq_stay {a : Addr} {xs : List V} {H' : Hp} (h : Sq K H a xs) (e : Ex H H') : H' a = H a := by
  rcases h with h | h
  · rw [h, e _ _ h]
  · rw [h, e _ _ h]
theorem w_enumX {a : Addr} {xs : List V} (h : Sq K H a xs) (k : ∀ J, Walk J xs.length (fun H' => Ex H H') (YEn xs) → R J H) : ∃ a' xs', [V.ref a] = [.ref a'] ∧ Sq K H a' xs' ∧ tWk K H a' xs' (YEn xs') R := ⟨a, xs, rfl, h, fun J wk => k J (wk.mono (fun H' e => sq_stay h e) fun _ _ _ _ _ _ y => y)⟩
theorem w_listI {tl : TE} (k : tl σ H fun x H1 => ∃ a, x = .ref a ∧ (∃ xs, SqL K H1 a xs) ∧ R (Itl K a) H1) : iList K tl σ H R := k
theorem w_lc {wi : TI} {g : TG} {tt : TT} {te : TE} {vs : List Nat} {Q : VK} (k : wi σ H fun J H1 => ∀ D, H1 D = none → ∃ W : Nat → Nat → Hp → Prop, (∃ m, W 0 m (upd H1 D (.lst []))) ∧ ∀ i m H, W i m H →
  (J.stop i H ∧ Q (.ref D) H) ∨ (J.go i H ∧ ∃ Nx : Hp → Prop, (∀ H', Nx H' → ∃ m', m' < m ∧ W (i + 1) m' H') ∧ ∀ x H', J.yld i H x H' → g x (wipe σ vs) H' fun σ2 H2 => wipe σ2 vs = wipe σ vs ∧ tt σ2 H2 fun b H3 =>
    if b = true then te σ2 H3 fun y H4 => ∃ acc, H4 D = some (.lst acc) ∧ acc.length < sizeLine ∧ Nx (upd H4 D (.lst (acc ++ [y]))) else Nx H3)) : tLc wi g tt te vs σ H Q := k
theorem w_rng1 {ta : TA} (k : ta σ H fun vs H1 => ∃ j : Int, vs = [.int j] ∧ -(2 ^ 62) ≤ j ∧ j < 2 ^ 62 ∧ R (Itr 0 j.toNat) H1) : iRng1 ta σ H R := k
theorem w_rng2 {ta : TA} (k : ta σ H fun vs H1 => ∃ i j : Int, vs = [.int i, .int j] ∧ (-(2 ^ 62) ≤ i ∧ i < 2 ^ 62 ∧ -(2 ^ 62) ≤ j ∧ j < 2 ^ 62) ∧ R (Itr i (j - i).toNat) H1) : iRng2 ta σ H R := k
end
theorem fmod_in {a b : Int} (h : 0 < b) : 0 ≤ a.fmod b ∧ a.fmod b < b := ⟨Int.fmod_nonneg_of_pos a h, Int.fmod_lt_of_pos a h⟩
theorem atI_int {ns : List Int} {a : Int} (h : 0 ≤ a) (h2 : a < ns.length) : ∃ z, atI (ns.map V.int) a = some (.int z) := by
  obtain ⟨j, rfl⟩ : ∃ j : Nat, a = (j : Int) := ⟨a.toNat, by omega⟩
  have hj : j < ns.length := by omega
  exact ⟨ns[j], atI_nat (by rw [List.getElem?_map, List.getElem?_eq_getElem hj]; rfl)⟩
/-! ### the state of the draws -/
abbrev drL (L : Addr) (a b c d e : Int) : List V := [.ref L, .int a, .int b, .int c, .int d, .int e]
section
variable {P : Program} {w : World}
/-- the state of the draws, by what stays true of it -/
def drOk (s L : Addr) (h : Heap) : Prop := ∃ (a b c d e : Int) (its : List Value) (n : Nat), 0 ≤ a ∧ Vals (drL L a b c d e) its ∧ h.get? s = some { cls := .type "list", data := .seq its.toArray n }
def StO (s L : Addr) : HO := .ext (drOk s L)
theorem st_open {H : Hp} {h : Heap} {s L : Addr} (ok : HOk P w H h) (hs : H s = some (StO s L)) : ∃ a b c d e : Int, 0 ≤ a ∧ HOk P w (upd H s (.lst (drL L a b c d e))) h := by
  have x : ObjOk P w H h s (.ext (drOk s L)) := ok s _ hs
  obtain ⟨⟨a, b, c, d, e, its, n, h0, r, g⟩, _⟩ := x
  refine ⟨a, b, c, d, e, h0, fun q u eq => ?_⟩
  by_cases hq : q = s
  · subst hq
    rw [upd_same] at eq
    cases eq
    exact ⟨by show 6 ≤ sizeLine; decide, its, n, r, g⟩
  · rw [upd_ne hq] at eq
    exact (ok q u eq).stay (fun _ _ _ z => z) (fun c' hc => by rw [upd_ne (ne_of hc hs (by intro z; cases z))]; exact hc) fun c' xs hc => by rw [upd_ne (ne_of hc hs (by intro z; cases z))]; exact hc
theorem st_close {H : Hp} {h : Heap} {s L : Addr} {a b c d e : Int} (ok : HOk P w H h) (hs : H s = some (.lst (drL L a b c d e))) (h0 : 0 ≤ a) : HOk P w (upd H s (StO s L)) h := by
  intro q u eq
  by_cases hq : q = s
  · subst hq
    rw [upd_same] at eq
    cases eq
    obtain ⟨_, its, n, r, g⟩ := (show ObjOk P w H h q (.lst (drL L a b c d e)) from ok q _ hs)
    exact ⟨⟨a, b, c, d, e, its, n, h0, r, g⟩, ⟨_, g⟩, fun h1 h2 ⟨a1, b1, c1, d1, e1, its1, n1, z0, z1, z2⟩ kk => ⟨a1, b1, c1, d1, e1, its1, n1, z0, z1, kk _ z2⟩⟩
  · rw [upd_ne hq] at eq
    exact (ok q u eq).stay (fun _ _ _ z => z) (fun c' hc => by rw [upd_ne (ne_of hc hs (by intro z; cases z))]; exact hc) fun c' xs hc => by rw [upd_ne (ne_of hc hs (by intro z; cases z))]; exact hc
end
/-! ### keyword calls of defs and methods without defaults; instances that are called -/
def permL {α : Type} (l : List Nat) (xs : List α) : List α := l.filterMap fun i => xs[i]?
/-- the positional values and then the keywords' values, put in the parameters' order -/
def gP (l : List Nat) {α : Type} (us ws : List α) : List α := permL l (us ++ ws)
/-- o.m(k = v, ..) of an instance of the class at C -/
def tMethK (C : Addr) (m : Str) (n : Nat) (l : List Nat) (sp : Sp) (E : XK) (ta : TE) (tk : TA) : TE := fun σ H Q => ta σ H fun x H1 => ∃ a dx fs, x = .ref a ∧ H1 a = some (.ins C dx fs) ∧ fs.lookup m = none ∧ tk σ H1 fun zs H2 => zs.length = n ∧ sp (gP l [x] zs) H2 Q E
/-- f(k = v, ..) -/
def tCallKw (n : Nat) (l : List Nat) (sp : Sp) (E : XK) (tk : TA) : TE := fun σ H Q => tk σ H fun zs H2 => zs.length = n ∧ sp (gP l [] zs) H2 Q E
section
variable {X : Cx} {σ : L2.St} {H : Hp} {Q : VK} {te tf : TE} {tk tA : TA} {sp : Sp} {E : XK} {C : Addr}
theorem w_prop {dvs : List V} (k : te σ H fun x H1 => ∃ a dx fs, x = .ref a ∧ H1 a = some (.ins C dx fs) ∧ sp (.ref a :: dvs) H1 Q E) : tProp C sp dvs E te σ H Q := k
theorem w_make {dvs : List V} (k : tA σ H fun vs H1 => ∀ x dx, H1 x = none → H1 dx = none → dx ≠ x → sp (.ref x :: (vs ++ dvs)) (upd (upd H1 dx (.own x)) x (.ins C dx [])) (fun v H2 => v = .non ∧ Q (.ref x) H2) E) : tMake C sp dvs E tA σ H Q := k
theorem w_methN {m : Str} {dvs : List V} (k : te σ H fun x H1 => ∃ a dx fs, x = .ref a ∧ H1 a = some (.ins C dx fs) ∧ fs.lookup m = none ∧ tA σ H1 fun vs H2 => sp (x :: (vs ++ dvs)) H2 Q E) : tMeth C m sp dvs E te tA σ H Q := k
theorem w_disp {trs : List (TE × TE)} (k : ∀ p, H p = none → tPairs trs σ (upd H p (.dK [])) fun ps H2 => H2 p = some (.dK []) ∧ ∃ kvs : List (Key × V), ps = kvs.map (fun kv => (kV kv.1, kv.2)) ∧ kvs.length ≤ 15 ∧ Q (.ref p) (upd H2 p (.dK (mergeK [] kvs)))) : tDisp trs σ H Q := k
theorem w_pairsN {QP : List (V × V) → Hp → Prop} (k : QP [] H) : tPairs [] σ H QP := k
theorem w_pairsC {QP : List (V × V) → Hp → Prop} {tk tv : TE} {trs : List (TE × TE)} (k : tk σ H fun x H1 => tv σ H1 fun y H2 => tPairs trs σ H2 fun ps H3 => QP ((x, y) :: ps) H3) : tPairs ((tk, tv) :: trs) σ H QP := k
theorem w_dnew (k : ∀ p, H p = none → Q (.ref p) (upd H p (.dK []))) : tDNewK σ H Q := k
theorem w_bm0 {K : Fr1} {T : String} {r : V → List V → Hp → VK → Prop} (k : te σ H fun x H1 => tyV K T x H1 ∧ r x [] H1 Q) : tBM0 K T r te σ H Q := k
theorem w_methK {m : Str} {n : Nat} {l : List Nat} (k : te σ H fun x H1 => ∃ a dx fs, x = .ref a ∧ H1 a = some (.ins C dx fs) ∧ fs.lookup m = none ∧ tk σ H1 fun zs H2 => zs.length = n ∧ sp (gP l [x] zs) H2 Q E) : tMethK C m n l sp E te tk σ H Q := k
theorem w_callKw {n : Nat} {l : List Nat} (k : tk σ H fun zs H2 => zs.length = n ∧ sp (gP l [] zs) H2 Q E) : tCallKw n l sp E tk σ H Q := k
theorem w_makeK {n m : Nat} {gV : List V → List V → List V} (k : tA σ H fun vs H1 => tk σ H1 fun zs H2 => vs.length = n ∧ zs.length = m ∧ ∀ x dx, H2 x = none → H2 dx = none → dx ≠ x →
  sp (gV (.ref x :: vs) zs) (upd (upd H2 dx (.own x)) x (.ins C dx [])) (fun v H3 => v = .non ∧ Q (.ref x) H3) E) : tMakeK C n m sp gV E tA tk σ H Q := k
theorem w_callO (k : tf σ H fun y H1 => ∃ a, y = V.ref a ∧ tA σ H1 fun vs H2 => StX.InsC X H2 a C ∧ sp (V.ref a :: vs) H2 Q E) : StX.tCallO X C sp E tf tA σ H Q := k
end
/-! ### list(d.values()) -/
def tListVals (td : TE) : TE := fun σ H Q => td σ H fun v H1 => ∃ d kvs, v = .ref d ∧ H1 d = some (.dK kvs) ∧ ∀ l, H1 l = none → Q (.ref l) (upd H1 l (.lst (kvs.map (·.2))))
theorem w_listVals {σ : L2.St} {H : Hp} {Q : VK} {td : TE} (k : td σ H fun v H1 => ∃ d kvs, v = .ref d ∧ H1 d = some (.dK kvs) ∧ ∀ l, H1 l = none → Q (.ref l) (upd H1 l (.lst (kvs.map (·.2))))) : tListVals td σ H Q := k
/-! ### == and != of one and the same object -/
def SameV (K : Fr1) (H : Hp) (x : V) : Prop := flatV x = true ∨ (∃ a xs, x = .ref a ∧ (H a = some (.lst xs) ∨ H a = some (.tup xs))) ∨ ∃ a kvs, x = .ref a ∧ H a = some (.dK kvs) ∧ kvs.length ≤ 1
def rNeS (K : Fr1) : R2 := fun x y H Q => y = x ∧ SameV K H x ∧ Q (.bl false) H
theorem scal_self {x : V} (h : flatV x = true) : scal x x = true := by cases x <;> first | rfl | cases h
theorem hits_one {A : Around} {s : Shared} : ∀ {va : List (Key × Value)}, va.length ≤ 1 → PySem.W.KeqHits A s va va true
  | [], _ => .nil
  | [(k, u)], _ => by
    show PySem.W.KeqHits A s [(k, u)] [(k, u)] (true && true)
    exact .hit (by simp [valueAt]) (SeqAt.EqAt.same u) .nil
  | _ :: _ :: _, h => by simp at h
section
variable {X : Cx}
theorem op_neS (hu : X.A.units + 64 < cLine) : OpR X (compareOp .NotEq) (rNeS X.K) := by
  intro pins s σ H x y v u Q I rx ry h
  obtain ⟨rfl, hs, q⟩ := h
  rcases hs with f | ⟨a, xs, rfl, hq⟩ | ⟨a, kvs, rfl, hd, hl⟩
  · exact op_ne pins s σ H y y v u Q I rx ry ⟨scal_self f, by rw [decide_eq_true rfl]; exact q⟩
  · obtain rfl : v = Value.ref a := rx
    obtain rfl : u = Value.ref a := ry
    rcases hq with hq | hq
    · obtain ⟨its, r, pl, _⟩ := I.list (SqL.of hq)
      exact SeqAt.RcNeAt.lists (e := fun _ => true) pl.isList pl.isList rfl (by omega) (fun j _ _ => SeqAt.EqAt.same _) _ _ _ _ ⟨.bl false, H, I, by rw [List.all_eq_true.mpr fun _ _ => rfl] <;> rfl, q⟩
    · obtain ⟨its, r, pl, _⟩ := I.tuple (SqT.of hq)
      exact SeqAt.RcNeAt.tuples (e := fun _ => true) pl pl (by omega) (fun j _ _ => SeqAt.EqAt.same _) _ _ _ _ ⟨.bl false, H, I, by rw [List.all_eq_true.mpr fun _ _ => rfl, Bool.true_and, beq_self_eq_true] <;> rfl, q⟩
  · obtain rfl : v = Value.ref a := rx
    obtain rfl : u = Value.ref a := ry
    obtain ⟨_, ya, va, ra, da⟩ := dk_of I.hok hd
    have e : va.length ≤ 1 := by rw [← ra.length]; exact hl
    exact PySem.W.keq_ne (knd := mixKind X.prog X.w) (r := true) ya ya da da (by omega) (fun _ => hits_one e) (fin_bl I q (by simp))
end
/-! ### != by an own == -/
/-! ### within try: what a callee may let out is wished for at the place of the call -/
section Tr
variable {X : Cx} {CX : CXT} {k : Nat} {f C : Addr} {fd : FuncData} {ps : List Str} {sp : Sp} {E : L2.St → XK} {m x : Str} {p pos apos : Pos} {e o : Expr} {es : List Expr} {ta tf : TE} {t : TA}
def tMethE (C : Addr) (m : Str) (sp : Sp) (E : L2.St → XK) (ta : TE) (t : TA) : TE := fun σ H Q => ta σ H fun x H1 => ∃ a dx fs, x = .ref a ∧ H1 a = some (.ins C dx fs) ∧ fs.lookup m = none ∧ t σ H1 fun vs H2 => sp (x :: vs) H2 Q (E σ)
def tMakeE (C : Addr) (sp : Sp) (E : L2.St → XK) (t : TA) : TE := fun σ H Q => t σ H fun vs H1 => ∀ x dx, H1 x = none → H1 dx = none → dx ≠ x → sp (.ref x :: vs) (upd (upd H1 dx (.own x)) x (.ins C dx [])) (fun v H2 => v = .non ∧ Q (.ref x) H2) (E σ)
end Tr
section
variable {K : Fr1} {σ : L2.St} {H : Hp} {Q : VK} {ta : TE} {t : TA} {sp : Sp} {E : L2.St → XK} {C : Addr}
theorem w_methE {m : Str} (k : ta σ H fun x H1 => ∃ a dx fs, x = .ref a ∧ H1 a = some (.ins C dx fs) ∧ fs.lookup m = none ∧ t σ H1 fun vs H2 => sp (x :: vs) H2 Q (E σ)) : tMethE C m sp E ta t σ H Q := k
theorem w_makeE (k : t σ H fun vs H1 => ∀ x dx, H1 x = none → H1 dx = none → dx ≠ x → sp (.ref x :: vs) (upd (upd H1 dx (.own x)) x (.ins C dx [])) (fun v H2 => v = .non ∧ Q (.ref x) H2) (E σ)) : tMakeE C sp E t σ H Q := k
theorem w_callS (k : t σ H fun vs H1 => sp vs H1 Q (E σ)) : tCallS sp E t σ H Q := k
theorem w_callSD {dvs : List V} (k : t σ H fun vs H1 => sp (vs ++ dvs) H1 Q (E σ)) : tCallSD sp dvs E t σ H Q := k
end
/-! ### an instance called within try -/
section Co
variable {X : Cx} {CX : CXT} {k : Nat} {g C : Addr} {fd : FuncData} {ps : List Str} {sp : Sp} {E : L2.St → XK} {pos : Pos} {e fe : Expr} {es : List Expr} {tf : TE} {t : TA}
def tCallOE (C : Addr) (sp : Sp) (E : L2.St → XK) (tf : TE) (t : TA) : TE := fun σ H Q => tf σ H fun y H1 => ∃ a, y = V.ref a ∧ t σ H1 fun vs H2 => (∃ dx fs, H2 a = some (.ins C dx fs)) ∧ sp (V.ref a :: vs) H2 Q (E σ)
theorem w_callOE {C : Addr} {sp : Sp} {E : L2.St → XK} {tf : TE} {t : TA} {σ : L2.St} {H : Hp} {Q : VK} (k : tf σ H fun y H1 => ∃ a, y = V.ref a ∧ t σ H1 fun vs H2 => (∃ dx fs, H2 a = some (.ins C dx fs)) ∧ sp (V.ref a :: vs) H2 Q (E σ)) : tCallOE C sp E tf t σ H Q := k
end Co
/-! ### several except clauses, each with or without a name -/
section TryMix
open PySem PySem.Spec PyProof.Rows L2
abbrev Clauses := List (Value × Option Nat × (Addr → Value → Option Addr → TS))
/-- the ends of a suite whose name lies in slot i: the name is taken away -/
abbrev endsAs (D : Ends) (i : Nat) : Ends := { nx := fun σ' H' => D.nx (σ'.set i none) H', rt := D.rt, bk := fun σ' H' => D.bk (σ'.set i none) H', ct := fun σ' H' => D.ct (σ'.set i none) H' }
/-- what one clause's suite is wished to do -/
def wOne (o : Option Nat) (ts : Addr → Value → Option Addr → TS) (D : Ends) (a : Addr) (cls : Value) (d : Option Addr) (σ : L2.St) (H : Hp) : Prop := match o with
  | none => ts a cls d D σ H
  | some i => ts a cls d (endsAs D i) (σ.set i (some (.ref a))) H
/-- what the clauses are wished to do, the first that fits -/
def wMix (K : PySem.W.Frag) (Wout : WX) (D : Ends) : Clauses → WX
  | [] => Wout
  | (c, o, ts) :: r => fun cls d σ H => ∃ b, PySem.W.exmOne K cls c = some b ∧ (b = true → ∀ a, H a = none → wOne o ts D a cls d σ H) ∧ (b = false → wMix K Wout D r cls d σ H)
def tMix (K : PySem.W.Frag) (tb : WX → TS) (Wout : WX) (l : Clauses) : TS := fun D σ H => tb (wMix K Wout D l) D σ H
theorem w_mix {K : PySem.W.Frag} {tb : WX → TS} {Wout : WX} {l : Clauses} {D : Ends} {σ : L2.St} {H : Hp} (k : tb (wMix K Wout D l) D σ H) : tMix K tb Wout l D σ H := k
/-- a suite's derivation, whatever exception it handles -/
abbrev SuiteOk (X : Cx) (body : List Stmt) (ts : Addr → Value → Option Addr → TS) : Prop := ∀ (a : Addr) (oe : Obj) (cls : Value) (d : Option Addr) (pn : List (Addr × Obj)), Zc cls d oe → (∃ vs, oe.data = .fields vs) → PSs (X.suite a ((a, oe) :: pn)) body (ts a cls d)
inductive HdsMix (X : Cx) : List ExceptHandler → Clauses → Prop
  | nil : HdsMix X [] []
  | bare {x : Str} {c : Value} {ts : Addr → Value → Option Addr → TS} {b : Stmt} {bs : List Stmt} {p q : Pos} {hds : List ExceptHandler} {l : Clauses} (hc : Names X x c) (hsu : SuiteOk X (b :: bs) ts) (r : HdsMix X hds l) :
      HdsMix X (.ExceptHandler (some (.Name x p)) none (b :: bs) q :: hds) ((c, none, ts) :: l)
  | as {x n : Str} {i : Nat} {c : Value} {ts : Addr → Value → Option Addr → TS} {b : Stmt} {bs : List Stmt} {p q : Pos} {hds : List ExceptHandler} {l : Clauses} (hi : X.N[i]? = some n) (hln : X.env.kindOf n = some .local) (hc : Names X x c) (hsu : SuiteOk X (b :: bs) ts) (r : HdsMix X hds l) :
      HdsMix X (.ExceptHandler (some (.Name x p)) (some n) (b :: bs) q :: hds) ((c, some i, ts) :: l)
/-- the exception at a has landed in the running def: while it lies so, the def's state holds, and it may be raised again -/
structure Caught (X : Cx) (pins : List (Addr × Obj)) (a : Addr) (cls : Value) (d : Option Addr) (σ : L2.St) (H : Hp) (B : Heap) (s : Shared) : Prop where
  free : H a = none
  flies : HandSPX.FlyingZ B (X.env :: X.outer) a (Zc cls d) s.heap
  inv : ∀ h', HandSPX.FlyingZ B (X.env :: X.outer) a (Zc cls d) h' → s.heap.UpToSlots h' → Inv X pins σ H { s with heap := h' }
  again : ∀ h' (W : WX), HandSPX.HeldZ B (X.env :: X.outer) a (Zc cls d) X.env.locals h' → s.heap.UpToSlots h' → W cls d σ H → XE X W (.ref a) { s with heap := h' }
section
variable {X : Cx} {pins : List (Addr × Obj)} {a : Addr} {cls : Value} {d : Option Addr} {σ : L2.St} {H : Hp} {B : Heap} {s : Shared}
/-- no frame of the stack is the exception's object -/
theorem flying_off {h : Heap} (hf : X.env.frame = some X.env.locals) (F : HandSPX.FlyingZ B (X.env :: X.outer) a (Zc cls d) h) : ∃ oe vs, h.get? a = some oe ∧ Zc cls d oe ∧ oe.data = .fields vs ∧ a ≠ X.env.locals ∧ a ∉ X.fs := by
  obtain ⟨oe, vs, e1, e2, e3⟩ := F.there
  have off : a ∉ frs (X.env :: X.outer) := fun hm => by
    obtain ⟨_, o', e4, no⟩ := F.2.2.1.mem hm
    cases e1.symm.trans e4
    exact no vs e3
  refine ⟨oe, vs, e1, e2, e3, fun z => off ?_, fun hm => off ?_⟩
  · rw [z]
    exact List.mem_filterMap.mpr ⟨X.env, .head _, hf⟩
  · obtain ⟨e, he, q⟩ := List.mem_filterMap.mp hm
    exact List.mem_filterMap.mpr ⟨e, .tail _ he, q⟩
/-- the state as a suite that handles it finds it -/
theorem Caught.inSuite (hf : X.env.frame = some X.env.locals) (C : Caught X pins a cls d σ H B s) {h' : Heap} (F : HandSPX.FlyingZ B (X.env :: X.outer) a (Zc cls d) h') (u : s.heap.UpToSlots h') :
    ∃ oe, Zc cls d oe ∧ (∃ vs, oe.data = .fields vs) ∧ h'.get? a = some oe ∧ Inv (X.suite a ((a, oe) :: (X.pn ++ pins))) [] σ H { s with heap := h' } := by
  obtain ⟨oe, vs, e1, e2, e3, n1, n2⟩ := flying_off hf F
  exact ⟨oe, e2, ⟨vs, e3⟩, e1, (C.inv h' F u).suite e1 e3 C.free n1 n2⟩
/-- a clause's class is looked up, and the exception held against it -/
theorem Caught.test (hf : X.env.frame = some X.env.locals) (C : Caught X pins a cls d σ H B s) {x : Str} {c : Value} {p q : Pos} {b : Bool} (hc : Names X x c) (hb : PySem.W.exmOne X.K cls c = some b) {R : Result → Shared → Prop} (k : R (.ok (if b = true then .brk else .next)) s) :
    codeAny (model X.prog X.w) (X.A.mark (some (.ref a))) (.handlers (.ref a) [.ExceptHandler (some (.Name x p)) none [] q] X.env) R s := by
  obtain ⟨oe, e2, _, e1, S⟩ := C.inSuite hf C.flies (Heap.UpToSlots.refl _)
  have fits := PySem.W.exm_one (M := model X.prog X.w) S.kIn (fun A Q E s' kp q => wpAny_typeOf_ref (kp _ _ e1) (by rw [e2.1]; exact q)) hb
  refine codeAny_handlers_test ?_
  obtain ⟨g1, g2, g3⟩ := hc
  rcases g3 with g3 | ⟨g3, g4, g5⟩
  · exact ld_glob S g1 g3 (fits.here k) g2
  · exact ld_blt S g1 g3 g4 (fits.here k) g5 g2
/-- no clause is left: the exception goes on -/
theorem Caught.leaves (hf : X.env.frame = some X.env.locals) (C : Caught X pins a cls d σ H B s) {Wout : WX} (tk : Takes X Wout) (w : Wout cls d σ H) {Q : Flow → Shared → Prop} : wpAny (model X.prog X.w) X.A (handleBy (.ref a) X.env []) Q X.xe s := by
  obtain ⟨_, _, _, oe, vs, T, _, _, e1, _, e3, e4, _⟩ := id C.flies
  have out : wpAny (model X.prog X.w) X.A (setFlight (.ref a) X.env.frame) (fun _ s4 => wpAny (model X.prog X.w) X.A (throw (.ref a) : Sem Flow) Q X.xe s4) X.xe s := by
    rw [hf]
    exact HandSPX.setFlight_upZ C.flies fun h' hh u => wpAny_throw (tk _ _ (C.again h' Wout hh u w))
  refine wpAny_handleBy_nil ?_
  unfold PySem.passOn
  refine wpAny_bind (wpAny_field e1 e3 e4 ?_)
  rw [if_neg (by simp)]
  first | exact wpAny_bind out | exact wpAny_bind (wpAny_pure (wpAny_bind out))
/-- what a suite left behind it, seen by the def -/
theorem sp_unsuite {D : Ends} {a : Addr} {q : Addr × Obj} {f : Flow} {s' : Shared} (ok : X.Ok) (h : SP (X.suite a (q :: (X.pn ++ pins))) [] D f s') : SP X pins D f s' := by
  cases f with
  | next => exact h.imp fun _ h => h.imp fun _ h => ⟨h.1.unsuite ok, h.2⟩
  | brk => exact h.imp fun _ h => h.imp fun _ h => ⟨h.1.unsuite ok, h.2⟩
  | cont => exact h.imp fun _ h => h.imp fun _ h => ⟨h.1.unsuite ok, h.2⟩
  | ret u => exact h.imp fun _ h => h.imp fun _ h => h.imp fun _ h => ⟨h.1.unsuite ok, h.2⟩
/-- a suite without a name -/
theorem Caught.bare (ok : X.Ok) (hf : X.env.frame = some X.env.locals) (C : Caught X pins a cls d σ H B s) {b : Stmt} {bs : List Stmt} {q : Pos} {ts : Addr → Value → Option Addr → TS} {D : Ends} (hsu : SuiteOk X (b :: bs) ts) (w : ts a cls d D σ H)
    {R : Result → Shared → Prop} (k : ∀ f s', SP X pins D f s' → R (.ok f) s') : codeAny (model X.prog X.w) (X.A.mark (some (.ref a))) (.handlers (.ref a) [.ExceptHandler none none (b :: bs) q] X.env) R s := by
  refine codeAny_handlers_suite (HandSPX.lands_againZ C.flies fun h' F u => ?_)
  obtain ⟨oe, e2, e3, _, S⟩ := C.inSuite hf F u
  exact wpAny_mono ((hsu a oe cls d _ e2 e3).run [] _ σ H D S w) (fun f s' h => k f s' (sp_unsuite ok h)) fun _ _ z => z.elim
/-- a suite with a name: the slot i -/
theorem Caught.named (ok : X.Ok) (hf : X.env.frame = some X.env.locals) (hN : X.N.Nodup) (C : Caught X pins a cls d σ H B s) {n : Str} {i : Nat} (hi : X.N[i]? = some n) (hln : X.env.kindOf n = some .local) {b : Stmt} {bs : List Stmt} {q : Pos} {ts : Addr → Value → Option Addr → TS} {D : Ends}
    (hsu : SuiteOk X (b :: bs) ts) (w : ts a cls d (endsAs D i) (σ.set i (some (.ref a))) H) {R : Result → Shared → Prop}
    (k : ∀ f s', wpAny (model X.prog X.w) X.A (do bindName X.env n .none; unbindBehindTheSuite X.env n q) (fun _ s7 => SP X pins D f s7) X.xe s' → R (.ok f) s') :
    codeAny (model X.prog X.w) (X.A.mark (some (.ref a))) (.handlers (.ref a) [.ExceptHandler none (some n) (b :: bs) q] X.env) R s := by
  refine codeAny_handlers_suite_as (HandSPX.lands_againZ C.flies fun h' F u => ?_)
  obtain ⟨oe, e2, e3, _, S⟩ := C.inSuite hf F u
  refine store_ok (X := X.suite a ((a, oe) :: (X.pn ++ pins))) (pins := []) (v := .ref a) S hN hi (.inl hln) rfl (fun s5 S5 => ?_) (.inr hln)
  refine wpAny_mono ((hsu a oe cls d _ e2 e3).run [] s5 _ H (endsAs D i) S5 w) (fun f s6 h => k f s6 ?_) fun _ _ z => z.elim
  have h' := sp_unsuite ok h
  cases f with
  | next =>
    obtain ⟨_, _, J, z⟩ := h'
    exact gone_ok J hN hi hln fun _ J' => ⟨_, _, J', z⟩
  | brk =>
    obtain ⟨_, _, J, z⟩ := h'
    exact gone_ok J hN hi hln fun _ J' => ⟨_, _, J', z⟩
  | cont =>
    obtain ⟨_, _, J, z⟩ := h'
    exact gone_ok J hN hi hln fun _ J' => ⟨_, _, J', z⟩
  | ret v =>
    obtain ⟨_, _, _, J, r, z⟩ := h'
    exact gone_ok J hN hi hln fun _ J' => ⟨_, _, _, J', r, z⟩
/-- clause by clause -/
theorem Caught.run (ok : X.Ok) (hf : X.env.frame = some X.env.locals) (hN : X.N.Nodup) (C : Caught X pins a cls d σ H B s) {Wout : WX} (tk : Takes X Wout) {D : Ends} {hds : List ExceptHandler} {l : Clauses} (hh : HdsMix X hds l) :
    wMix X.K Wout D l cls d σ H → wpAny (model X.prog X.w) X.A (handleBy (.ref a) X.env hds) (SP X pins D) X.xe s := by
  induction hh with
  | nil => exact fun w => C.leaves hf tk w
  | bare hc hsu _ ih =>
    rintro ⟨b, hb, yes, no⟩
    refine wpAny_handleBy_cons (C.test hf hc hb ?_) (fun z => by cases z)
    cases b with
    | false => exact ih (no rfl)
    | true => exact C.bare ok hf hsu (yes rfl a C.free) fun _ _ h => h
  | as hi hln hc hsu _ ih =>
    rintro ⟨b, hb, yes, no⟩
    refine wpAny_handleBy_cons (C.test hf hc hb ?_) (fun z => by cases z)
    cases b with
    | false => exact ih (no rfl)
    | true => exact C.named ok hf hN hi hln hsu (yes rfl a C.free) fun _ _ h => h
end
end TryMix
/-! ### == and != of texts -/
theorem str_dec (x y : Str) : decide (V.str x = V.str y) = decide (x = y) := by
  by_cases h : x = y
  · rw [h, decide_eq_true rfl, decide_eq_true rfl]
  · rw [decide_eq_false h, decide_eq_false fun z => h (V.str.inj z)]
theorem w_eqStr {x y : Str} {H : Hp} {Q : VK} (k : Q (.bl (decide (x = y))) H) : rEq (.str x) (.str y) H Q := ⟨rfl, by rw [str_dec]; exact k⟩
theorem w_neStr {x y : Str} {H : Hp} {Q : VK} (k : Q (.bl (!decide (x = y))) H) : rNe (.str x) (.str y) H Q := ⟨rfl, by rw [str_dec]; exact k⟩
theorem w_eqStrT {x : Str} {H : Hp} {Q : VK} (k : Q (.bl true) H) : rEq (.str x) (.str x) H Q := w_eqStr (by rw [decide_eq_true rfl]; exact k)
theorem w_neStrT {x : Str} {H : Hp} {Q : VK} (k : Q (.bl false) H) : rNe (.str x) (.str x) H Q := w_neStr (by rw [decide_eq_true rfl]; exact k)
theorem w_eqStrF {x y : Str} {H : Hp} {Q : VK} (h : ¬ x = y) (k : Q (.bl false) H) : rEq (.str x) (.str y) H Q := w_eqStr (by rw [decide_eq_false h]; exact k)
theorem w_neStrF {x y : Str} {H : Hp} {Q : VK} (h : ¬ x = y) (k : Q (.bl true) H) : rNe (.str x) (.str y) H Q := w_neStr (by rw [decide_eq_false h]; exact k)
/-! ### C(k = v, ..) within try -/
section MkE
variable {X : Cx} {CX : CXT} {k : Nat} {f C : Addr} {fd : FuncData} {ps ks : List Str} {sp : Sp} {E : L2.St → XK} {x : Str} {p pos : Pos} {kws : List Keyword} {tk : TA} {gv : List Value → List Value → List Value} {gV : List V → List V → List V}
def tMakeKE (C : Addr) (n : Nat) (gV : List V → List V → List V) (sp : Sp) (E : L2.St → XK) (tk : TA) : TE := fun σ H Q => tk σ H fun zs H2 => zs.length = n ∧ ∀ x dx, H2 x = none → H2 dx = none → dx ≠ x →
  sp (gV [.ref x] zs) (upd (upd H2 dx (.own x)) x (.ins C dx [])) (fun v H3 => v = .non ∧ Q (.ref x) H3) (E σ)
theorem w_makeKE {C : Addr} {n : Nat} {sp : Sp} {E : L2.St → XK} {tk : TA} {σ : L2.St} {H : Hp} {Q : VK} (k : tk σ H fun zs H2 => zs.length = n ∧ ∀ x dx, H2 x = none → H2 dx = none → dx ≠ x →
  sp (gV [.ref x] zs) (upd (upd H2 dx (.own x)) x (.ins C dx [])) (fun v H3 => v = .non ∧ Q (.ref x) H3) (E σ)) : tMakeKE C n gV sp E tk σ H Q := k
end MkE
/-! ### dicts: a reading's head is taken off -/
section
variable {σ : L2.St} {H : Hp} {Q : VK} {D : Ends} {td ty tv tx : TE}
theorem w_dgetT (k : td σ H fun x H1 => ty σ H1 fun y H2 => ∃ a v, x = .ref a ∧ DGet H2 a y (some v) ∧ Q v H2) : tDGet td ty σ H Q := k
theorem w_dinT (k : ty σ H fun y H1 => td σ H1 fun x H2 => ∃ a o, x = .ref a ∧ DGet H2 a y o ∧ Q (.bl o.isSome) H2) : tDIn ty td σ H Q := k
theorem w_dnotinT (k : ty σ H fun y H1 => td σ H1 fun x H2 => ∃ a o, x = .ref a ∧ DGet H2 a y o ∧ Q (.bl (!o.isSome)) H2) : tDNotIn ty td σ H Q := k
theorem w_dputT (k : tv σ H fun v H1 => td σ H1 fun x H2 => ty σ H2 fun y H3 => ∃ a H4, x = .ref a ∧ DPut H3 a y v H4 ∧ D.nx σ H4) : sDPut td ty tv D σ H := k
end
/-! ### o[i] by the text's own __getitem__ -/
section IxO
variable {X : Cx} {CX : CXT} {k : Nat} {f C : Addr} {fd : FuncData} {ps : List Str} {sp : Sp} {E : L2.St → XK} {pos : Pos} {o i : Expr} {ta tb : TE}
def tIxO (C : Addr) (sp : Sp) (E : L2.St → XK) (ta tb : TE) : TE := fun σ H Q => ta σ H fun x H1 => tb σ H1 fun y H2 => ∃ a dx fs, x = .ref a ∧ H2 a = some (.ins C dx fs) ∧ sp [x, y] H2 Q (E σ)
theorem w_ixO {σ : L2.St} {H : Hp} {Q : VK} (k : ta σ H fun x H1 => tb σ H1 fun y H2 => ∃ a dx fs, x = .ref a ∧ H2 a = some (.ins C dx fs) ∧ sp [x, y] H2 Q (E σ)) : tIxO C sp E ta tb σ H Q := k
end IxO
/-! ### keyword calls within try -/
section KwE
variable {X : Cx} {CX : CXT} {k n : Nat} {f C : Addr} {fd : FuncData} {ps ks : List Str} {sp : Sp} {E : L2.St → XK} {m x : Str} {p pos apos : Pos} {o : Expr} {kws : List Keyword} {ta : TE} {tk : TA} {gv : List Value → List Value → List Value} {gV : List V → List V → List V}
def tMethKE (C : Addr) (m : Str) (n : Nat) (gV : List V → List V → List V) (sp : Sp) (E : L2.St → XK) (ta : TE) (tk : TA) : TE := fun σ H Q => ta σ H fun x H1 => ∃ a dx fs, x = .ref a ∧ H1 a = some (.ins C dx fs) ∧ fs.lookup m = none ∧ tk σ H1 fun zs H2 => zs.length = n ∧ sp (gV [x] zs) H2 Q (E σ)
theorem w_methKE {σ : L2.St} {H : Hp} {Q : VK} (k : ta σ H fun x H1 => ∃ a dx fs, x = .ref a ∧ H1 a = some (.ins C dx fs) ∧ fs.lookup m = none ∧ tk σ H1 fun zs H2 => zs.length = n ∧ sp (gV [x] zs) H2 Q (E σ)) : tMethKE C m n gV sp E ta tk σ H Q := k
end KwE
/-! ### is None, is not None -/
def rIsN : R2 := fun x y H Q => y = .non ∧ Q (.bl (decide (x = .non))) H
def rNotN : R2 := fun x y H Q => y = .non ∧ Q (.bl (!decide (x = .non))) H
section
variable {H : Hp} {Q : VK}
theorem w_isNn (k : Q (.bl true) H) : rIsN .non .non H Q := ⟨rfl, k⟩
theorem w_isNr {a : Addr} (k : Q (.bl false) H) : rIsN (.ref a) .non H Q := ⟨rfl, by rw [decide_eq_false (fun z => by cases z)]; exact k⟩
theorem w_isNi {a : Int} (k : Q (.bl false) H) : rIsN (.int a) .non H Q := ⟨rfl, by rw [decide_eq_false (fun z => by cases z)]; exact k⟩
theorem w_isNs {a : Str} (k : Q (.bl false) H) : rIsN (.str a) .non H Q := ⟨rfl, by rw [decide_eq_false (fun z => by cases z)]; exact k⟩
theorem w_isNb {a : Bool} (k : Q (.bl false) H) : rIsN (.bl a) .non H Q := ⟨rfl, by rw [decide_eq_false (fun z => by cases z)]; exact k⟩
theorem w_notNn (k : Q (.bl false) H) : rNotN .non .non H Q := ⟨rfl, by rw [decide_eq_true rfl]; exact k⟩
theorem w_notNr {a : Addr} (k : Q (.bl true) H) : rNotN (.ref a) .non H Q := ⟨rfl, by rw [decide_eq_false (fun z => by cases z)]; exact k⟩
theorem w_notNi {a : Int} (k : Q (.bl true) H) : rNotN (.int a) .non H Q := ⟨rfl, by rw [decide_eq_false (fun z => by cases z)]; exact k⟩
theorem w_notNs {a : Str} (k : Q (.bl true) H) : rNotN (.str a) .non H Q := ⟨rfl, by rw [decide_eq_false (fun z => by cases z)]; exact k⟩
theorem w_notNb {a : Bool} (k : Q (.bl true) H) : rNotN (.bl a) .non H Q := ⟨rfl, by rw [decide_eq_false (fun z => by cases z)]; exact k⟩
end
section
variable {K : Fr1} {σ : L2.St} {H : Hp} {D : Ends} {td : TE} {R : It → Hp → Prop}
theorem w_vals (k : td σ H fun x H1 => ∃ d o kvs, x = .ref d ∧ H1 d = some (.frz o (.dK kvs)) ∧ R (Itd d o kvs) H1) : iVals td σ H R := k
theorem w_items (k : td σ H fun x H1 => ∃ d o kvs, x = .ref d ∧ H1 d = some (.frz o (.dK kvs)) ∧ R (Iti d o kvs) H1) : iItems td σ H R := k
end
/-! ### o[i] = v by the text's own __setitem__ -/
section SetO
variable {X : Cx} {CX : CXT} {k : Nat} {f C : Addr} {fd : FuncData} {ps : List Str} {sp : Sp} {E : L2.St → XK} {pos : Pos} {o i : Expr} {to ti : TE}
def gSubO (C : Addr) (sp : Sp) (E : L2.St → XK) (to ti : TE) : TG := fun v σ H Q => to σ H fun x H1 => ti σ H1 fun y H2 => ∃ a dx fs, x = .ref a ∧ H2 a = some (.ins C dx fs) ∧ sp [x, y, v] H2 (fun _ H3 => Q σ H3) (E σ)
theorem w_gSubO {v : V} {σ : L2.St} {H : Hp} {Q : L2.St → Hp → Prop} (k : to σ H fun x H1 => ti σ H1 fun y H2 => ∃ a dx fs, x = .ref a ∧ H2 a = some (.ins C dx fs) ∧ sp [x, y, v] H2 (fun _ H3 => Q σ H3) (E σ)) : gSubO C sp E to ti v σ H Q := k
end SetO
/-! ### a classmethod called by keywords; a local that holds a class -/
section CmK
variable {X : Cx} {CX : CXT} {k n i : Nat} {f C p g : Addr} {fd : FuncData} {ps ks : List Str} {sp : Sp} {E : L2.St → XK} {E1 : XK} {m x : Str} {nmp pos apos : Pos} {o e : Expr} {es : List Expr} {kws : List Keyword} {ta : TE} {t tk : TA} {gv : List Value → List Value → List Value} {gV : List V → List V → List V} {mc : Value}
def tCMethKE (C : Addr) (n : Nat) (gV : List V → List V → List V) (sp : Sp) (E : L2.St → XK) (ta : TE) (tk : TA) : TE := fun σ H Q => ta σ H fun x H1 => x = .ref C ∧ tk σ H1 fun zs H2 => zs.length = n ∧ sp (gV [.ref C] zs) H2 Q (E σ)
theorem w_cmethKE {σ : L2.St} {H : Hp} {Q : VK} (k : ta σ H fun x H1 => x = .ref C ∧ tk σ H1 fun zs H2 => zs.length = n ∧ sp (gV [.ref C] zs) H2 Q (E σ)) : tCMethKE C n gV sp E ta tk σ H Q := k
def tMakeL (i : Nat) (C : Addr) (sp : Sp) (E : XK) (t : TA) : TE := fun σ H Q => σ[i]? = some (some (.ref C)) ∧ tMake C sp [] E t σ H Q
theorem w_makeL {σ : L2.St} {H : Hp} {Q : VK} (hs : σ[i]? = some (some (.ref C))) (k : t σ H fun vs H1 => ∀ x dx, H1 x = none → H1 dx = none → dx ≠ x → sp (.ref x :: (vs ++ [])) (upd (upd H1 dx (.own x)) x (.ins C dx [])) (fun v H2 => v = .non ∧ Q (.ref x) H2) E1) : tMakeL i C sp E1 t σ H Q := ⟨hs, k⟩
end CmK
/-! ### slices: a reading's head is taken off -/
section Sl
variable {σ : L2.St} {H : Hp} {te : TE} {tl th : TO} {QO : Option Int → Hp → Prop}
theorem w_sl {r : V → Option Int → Option Int → Hp → VK → Prop} {Q : VK} (k : te σ H fun x H1 => tl σ H1 fun l H2 => th σ H2 fun u H3 => r x l u H3 Q) : tSl r te tl th σ H Q := k
theorem w_noPart (k : QO none H) : tNoPart σ H QO := k
theorem w_part (k : te σ H fun x H1 => ∃ i, x = .int i ∧ QO (some i) H1) : tPart te σ H QO := k
theorem w_oi {i : Int} {P : Int → Prop} (k : P i) : ∃ j, V.int i = .int j ∧ P j := ⟨i, rfl, k⟩
end Sl
/-! ### f(k = v, ..) within try -/
section KwF
variable {X : Cx} {CX : CXT} {k n : Nat} {f : Addr} {fd : FuncData} {ps ks : List Str} {sp : Sp} {E : L2.St → XK} {x : Str} {nmp pos : Pos} {kws : List Keyword} {tk : TA} {gv : List Value → List Value → List Value} {gV : List V → List V → List V}
def tCallKwE (n : Nat) (gV : List V → List V → List V) (sp : Sp) (E : L2.St → XK) (tk : TA) : TE := fun σ H Q => tk σ H fun zs H2 => zs.length = n ∧ sp (gV [] zs) H2 Q (E σ)
theorem w_callKwE {σ : L2.St} {H : Hp} {Q : VK} (k : tk σ H fun zs H2 => zs.length = n ∧ sp (gV [] zs) H2 Q (E σ)) : tCallKwE n gV sp E tk σ H Q := k
end KwF
/-! ### texts: a reading's head is taken off -/
section Tx
variable {X : Cx} {σ : L2.St} {H : Hp} {te to : TE} {ts : List TE} {acc : Str} {Q : VK}
def tJoined (ts : List TE) : TE := fun σ H Q => tJs ts Str.empty σ H fun out H1 => Q (.str out) H1
theorem w_joined (k : tJs ts Str.empty σ H fun out H1 => Q (.str out) H1) : tJoined ts σ H Q := k
theorem w_jsC {QS : Str → Hp → Prop} (k : te σ H fun x H1 => ∃ y : Str, x = .str y ∧ (acc ++ y).length ≤ sizeLine ∧ tJs ts (acc ++ y) σ H1 QS) : tJs (te :: ts) acc σ H QS := k
theorem w_jsN {QS : Str → Hp → Prop} (k : QS acc H) : tJs [] acc σ H QS := k
theorem w_fmt (k : te σ H fun x H1 => (∃ y : Str, x = .str y ∧ y.length ≤ sizeLine ∧ Q (.str y) H1) ∨ ∃ i : Int, x = .int i ∧ i.natAbs.log2 < 1920 ∧ Q (.str (toString i)) H1) : tFmt te σ H Q := k
theorem w_m1 {r : V → List V → Hp → VK → Prop} (k : to σ H fun x H1 => (∃ a, x = .str a) ∧ te σ H1 fun y H2 => r x [y] H2 Q) : tM1 r to te σ H Q := k
theorem w_isS {z : Str} {P : Prop} (k : P) : (∃ a, V.str z = .str a) ∧ P := ⟨⟨z, rfl⟩, k⟩
theorem w_strI {R : It → Hp → Prop} (k : te σ H fun v H1 => ∃ x, v = .str x ∧ R (Its x) H1) : iStr te σ H R := k
end Tx
end J

namespace J
open PySem L2
open Evl (Ex)
local macro_rules | `(tactic| walk_at "hp") => `(tactic| first
  | assumption
  | exact upd_same
  | ((with_reducible refine' SqL.of ?hpa); (case hpa => walk_at "hp"))
  | ((with_reducible refine' SqT.of ?hpa); (case hpa => walk_at "hp"))
  | ((rw [upd_ne (by assumption)]); walk_at "hp")
  | ((with_reducible refine' Ex.get ?hpe ?hpa); (case hpe => assumption); (case hpa => walk_at "hp"))
  | ((with_reducible refine' Dq.mono ?hpe ?hpa); (case hpe => assumption); (case hpa => walk_at "hp"))
  | ((with_reducible refine' DqAll.mono ?hpe ?hpa); (case hpe => assumption); (case hpa => walk_at "hp")))
local macro_rules | `(tactic| walk_at "j") => `(tactic| first
  | (with_reducible refine w_seqF fun F hF => ?_)
  | (with_reducible refine w_asg ?_)
  | (with_reducible refine w_name ?_; try dsimp only [List.set_cons_zero, List.set_cons_succ])
  | ((with_reducible refine' w_var ?hv ?_); (case hv => exact rfl))
  | (with_reducible refine w_c ?_)
  | (with_reducible refine w_op ?_)
  | (with_reducible refine w_un ?_)
  | (with_reducible refine w_I0 ?_)
  | (with_reducible refine w_U ?_)
  | (with_reducible refine w_cons ?_)
  | (with_reducible refine w_nil ?_)
  | (with_reducible refine w_cb ?_)
  | (with_reducible refine w_call ?_)
  | (with_reducible refine w_methK ?_)
  | (with_reducible refine w_methE ?_)
  | (with_reducible refine w_bm0 ?_)
  | (with_reducible refine w_callOE ?_)
  | (with_reducible refine w_makeE ?_)
  | (with_reducible refine w_isNn ?_)
  | (with_reducible refine w_isNr ?_)
  | (with_reducible refine w_isNi ?_)
  | (with_reducible refine w_isNs ?_)
  | (with_reducible refine w_isNb ?_)
  | (with_reducible refine w_notNn ?_)
  | (with_reducible refine w_notNr ?_)
  | (with_reducible refine w_notNi ?_)
  | (with_reducible refine w_notNs ?_)
  | (with_reducible refine w_notNb ?_)
  | (with_reducible refine w_methKE ?_)
  | (with_reducible refine w_dgetT ?_)
  | (with_reducible refine w_dinT ?_)
  | (with_reducible refine w_dnotinT ?_)
  | (with_reducible refine w_dputT ?_)
  | (with_reducible refine w_ixO ?_)
  | (with_reducible refine w_joined ?_)
  | (with_reducible refine w_jsC ?_)
  | (with_reducible refine w_jsN ?_)
  | (with_reducible refine w_fmt ?_)
  | (with_reducible refine w_m1 ?_)
  | (with_reducible refine w_isS ?_)
  | (with_reducible refine w_strI ?_)
  | (with_reducible refine w_callKwE ?_)
  | (with_reducible refine w_sl ?_)
  | (with_reducible refine w_noPart ?_)
  | (with_reducible refine w_part ?_)
  | (with_reducible refine w_oi ?_)
  | (with_reducible refine w_cmethKE ?_)
  | ((with_reducible refine' w_makeL ?hs ?_); (case hs => exact rfl))
  | (with_reducible refine w_makeKE ?_)
  | (with_reducible refine w_callS ?_)
  | (with_reducible refine w_callSD ?_)
  | (with_reducible refine w_dnew ?_)
  | (with_reducible refine w_disp ?_)
  | (with_reducible refine w_pairsN ?_)
  | (with_reducible refine w_pairsC ?_)
  | (with_reducible refine w_listVals ?_)
  | (with_reducible refine w_methN ?_)
  | (with_reducible refine w_make ?_)
  | (with_reducible refine w_prop ?_)
  | (with_reducible refine w_callKw ?_)
  | (with_reducible refine w_makeK ?_)
  | (with_reducible refine w_callO ?_)
  | (with_reducible refine w_ret ?_)
  | (with_reducible refine w_mix ?_)
  | (with_reducible refine w_ifS ?_)
  | (with_reducible refine w_test ?_)
  | (with_reducible refine w_B ?_)
  | (with_reducible refine w_bl ?_)
  | (with_reducible refine w_and ?_)
  | (with_reducible refine w_or ?_)
  | (with_reducible refine w_not ?_)
  | (with_reducible refine w_drop ?_)
  | (with_reducible refine w_next ?_)
  | (with_reducible refine w_sub ?_)
  | (with_reducible refine w_gSubO ?_)
  | (with_reducible refine w_eqI ?_)
  | (with_reducible refine w_neI ?_)
  | (with_reducible refine w_eqStrT ?_)
  | (with_reducible refine w_neStrT ?_)
  | ((with_reducible refine' w_eqStrF ?hc ?_); (case hc => decide +kernel))
  | ((with_reducible refine' w_neStrF ?hc ?_); (case hc => decide +kernel))
  | (with_reducible refine w_int1 ?_)
  | (with_reducible refine w_tup ?_)
  | (with_reducible refine w_lst ?_)
  | ((with_reducible refine' w_ixL ?hq ?he ?_); (case hq => walk_at "hp"); (case he => exact rfl))
  | ((with_reducible refine' w_ixT ?hq ?he ?_); (case hq => walk_at "hp"); (case he => exact rfl))
  | ((with_reducible refine' w_lenL ?hq ?_); (case hq => walk_at "hp"))
  | ((with_reducible refine' w_lenT ?hq ?_); (case hq => walk_at "hp"))
  | ((with_reducible refine' w_setL ?hq ?he ?_); (case hq => walk_at "hp"); (case he => exact rfl); (try simp only [Int.reduceToNat, List.set_cons_zero, List.set_cons_succ, upd_upd]))
  | ((with_reducible refine w_mulR ?hc ?_); (case hc => omega))
  | ((with_reducible refine w_mulL ?hc ?_); (case hc => omega))
  | ((with_reducible refine w_mod ?hc ?_); (case hc => first | omega | assumption | decide))
  | ((with_reducible refine w_modP ?hc ?_); (case hc => first | assumption | omega | decide))
  | ((with_reducible refine w_divP ?hc ?_); (case hc => first | assumption | omega | decide))
  | ((with_reducible refine w_divN ?hc ?_); (case hc => first | omega | decide))
  | ((with_reducible refine w_pow ?hc ?_); (case hc => first | omega | decide); (try simp only [Int.reduceToNat, Int.reducePow]))
  | ((with_reducible refine w_divW (b := 70) ?hc ?hd (by decide) (by decide) ?_); (case hc => first | assumption | omega); (case hd => first | assumption | omega | decide))
  | (with_reducible refine w_andV ?_)
  | (with_reducible refine w_orV ?_)
  | (with_reducible refine w_notV ?_)
  | (with_reducible refine w_ifE ?_)
  | (with_reducible refine w_chain ?_)
  | (with_reducible refine w_par ?_)
  | (with_reducible refine w_vw ?_; try dsimp only [List.set_cons_zero, List.set_cons_succ])
  | ((with_reducible refine' w_gtup ?hq ?hl ?_); (case hq => walk_at "hp"); (case hl => exact rfl))
  | (with_reducible refine w_gcons ?_)
  | (with_reducible refine w_gnil ?_)
  | (with_reducible refine w_bm ?_)
  | ((with_reducible refine' w_tyL ?hq ?_); (case hq => walk_at "hp"))
  | (with_reducible refine w_fldT ?_)
  | (with_reducible refine w_sFld ?_)
  | (with_reducible refine w_ij ?_)
  | (with_reducible refine w_yes ?_)
  | (with_reducible refine w_for ?_)
  | (with_reducible refine w_lc ?_)
  | (with_reducible refine w_enumI ?_)
  | (with_reducible refine w_seqI ?_)
  | (with_reducible refine w_listI ?_)
  | (with_reducible refine w_vals ?_)
  | (with_reducible refine w_items ?_)
  | (with_reducible refine w_rng1 ?_)
  | (with_reducible refine w_rng2 ?_)
  | ((with_reducible refine' Fol.go ?hf ?_); (case hf => assumption))
  | (with_reducible refine w_nt ?_)
  | (with_reducible refine w_nf ?_)
  | (with_reducible refine iteF ?_)
  | (with_reducible refine iteT ?_))
local macro_rules | `(tactic| walk_at "js") => `(tactic| repeat (walk_at "j"))
local macro_rules | `(tactic| walk_at "wp") => `(tactic| (refine ⟨rfl, ?_⟩; (try dsimp only [wipe, List.map_cons, List.map_nil, List.set_cons_zero, List.set_cons_succ])))
/-! ### rows of a turning, as the program checks them -/
abbrev Rows := List (Int × Int)
def pD (p : Int × Int) : PyData := .tuple [.int p.1, .int p.2]
def rD (rs : Rows) : List PyData := rs.map pD
def asPair (N : Int) : PyData → Option (Int × Int)
  | .tuple [.int a, .int b] => if 0 ≤ a ∧ a < N ∧ 0 ≤ b ∧ b < N then some (a, b) else none
  | _ => none
theorem asPair_pair (N : Int) (d : PyData) : isPair N d = (asPair N d).isSome := by
  unfold isPair asPair
  split
  · rename_i a b
    cases a <;> cases b <;> simp only [isPlc, Bool.and_false, Bool.false_and, Option.isSome_none]
    rename_i i j
    split
    · rename_i h
      simp [h.1, h.2.1, h.2.2.1, h.2.2.2]
    · rename_i h
      have : ¬ (0 ≤ i ∧ i < N ∧ 0 ≤ j ∧ j < N) := h
      by_cases h1 : 0 ≤ i <;> by_cases h2 : i < N <;> by_cases h3 : 0 ≤ j <;> by_cases h4 : j < N <;> simp_all
  · rename_i hd
    split
    · rename_i a b
      exact absurd rfl (hd _ _)
    · rfl
theorem asPair_some {N : Int} {d : PyData} {p : Int × Int} (h : asPair N d = some p) : d = pD p ∧ 0 ≤ p.1 ∧ p.1 < N ∧ 0 ≤ p.2 ∧ p.2 < N := by
  unfold asPair at h
  split at h
  · split at h
    · rename_i a b hh
      cases h
      exact ⟨rfl, hh⟩
    · cases h
  · cases h
/-- the first loop: from the begin b on, the index i -/
def rowA (N : Int) : Int → Nat → List PyData → Except Nat Rows
  | _, _, [] => .ok []
  | b, i, d :: r => match asPair N d with
    | none => .error i
    | some p => if p.1 ≤ b then .error i else match rowA N p.1 (i + 1) r with
      | .ok l => .ok (p :: l)
      | .error e => .error e
def behindOf (N : Int) (rs : Rows) (i : Nat) : Int := match rs[i + 1]? with
  | some p => p.1
  | none => (rs.headD (0, 0)).1 + N
def badRest (N : Int) (rs : Rows) (i : Nat) : Bool := match rs[i]? with
  | some p => decide (behindOf N rs i ≤ p.1 + (p.2 - p.1) % N)
  | none => false
/-- the second loop -/
def rowBg (N : Int) (rs : Rows) : Nat → Nat → Option Nat
  | 0, _ => none
  | n + 1, i => if badRest N rs i = true then some i else rowBg N rs n (i + 1)
def rowB (N : Int) (rs : Rows) : Option Nat := rowBg N rs rs.length 0
theorem rowA_cons {N b : Int} {i : Nat} {d : PyData} {r : List PyData} : rowA N b i (d :: r) = match asPair N d with
    | none => .error i
    | some p => if p.1 ≤ b then .error i else match rowA N p.1 (i + 1) r with
      | .ok l => .ok (p :: l)
      | .error e => .error e := rfl
def rowsOf : PyData → Option (List PyData)
  | .list l => some l
  | .tuple l => some l
  | _ => none
/-- what checked_rows tells: an index, or the rows -/
def rowsChk (N : Int) (d : PyData) : Except Int Rows := match rowsOf d with
  | none => .error (-1)
  | some l => if l.length = 0 ∨ 12 < l.length then .error (-1) else match rowA N (-1) 0 l with
    | .error i => .error (i : Int)
    | .ok rs => match rowB N rs with
      | some i => .error (i : Int)
      | none => .ok rs
theorem rowA_eq {N : Int} : ∀ {ds : List PyData} {b : Int} {i : Nat} {rs : Rows}, rowA N b i ds = .ok rs → ds = rD rs
  | [], b, i, rs, h => by
    cases h
    rfl
  | d :: r, b, i, rs, h => by
    unfold rowA at h
    split at h
    · cases h
    · rename_i p hp
      split at h
      · cases h
      · split at h
        · rename_i l hl
          cases h
          rw [(asPair_some hp).1, rowA_eq hl]
          rfl
        · cases h
theorem dqA_get {K : Fr1} {H : Hp} {vs : List V} {rs : Rows} (h : DqAll K H vs (rD rs)) {i : Nat} {v : V} (e : vs[i]? = some v) : ∃ p t, rs[i]? = some p ∧ v = .ref t ∧ H t = some (.tup [.int p.1, .int p.2]) := by
  obtain ⟨d, h1, h2⟩ := h.get e
  unfold rD at h1
  rw [List.getElem?_map] at h1
  cases hp : rs[i]? with
  | none => rw [hp] at h1; cases h1
  | some p =>
    rw [hp] at h1
    have h1' : pD p = d := Option.some.inj h1
    subst h1'
    cases h2 with
    | tup ht ha =>
      cases ha with
      | cons x t =>
        cases t with
        | cons y t =>
          cases t
          cases x
          cases y
          exact ⟨p, _, rfl, rfl, ht⟩
theorem dqA_get' {K : Fr1} {H : Hp} {vs : List V} {rs : Rows} (h : DqAll K H vs (rD rs)) {i : Nat} {p : Int × Int} (e : rs[i]? = some p) : ∃ t, vs[i]? = some (.ref t) ∧ H t = some (.tup [.int p.1, .int p.2]) := by
  have e2 : (rD rs)[i]? = some (pD p) := by
    unfold rD
    rw [List.getElem?_map, e] <;> rfl
  obtain ⟨v, h1, h2⟩ := h.get' e2
  obtain ⟨p', t, h3, rfl, h4⟩ := dqA_get h h1
  rw [e] at h3
  cases h3
  exact ⟨t, h1, h4⟩
/-! ### sorted rows -/
def lexLe (p q : Int × Int) : Bool := !(SrtO.lexB q p)
def srt (l : Rows) : Rows := l.mergeSort lexLe
theorem lexLe_iff {p q : Int × Int} : lexLe p q = true ↔ p.1 < q.1 ∨ (p.1 = q.1 ∧ p.2 ≤ q.2) := by
  unfold lexLe
  rw [Bool.not_eq_true', ← Bool.not_eq_true, SrtO.lexB_iff]
  omega
theorem srt_perm (l : Rows) : (srt l).Perm l := List.mergeSort_perm l lexLe
theorem srt_sorted (l : Rows) : (srt l).Pairwise (fun p q => lexLe p q = true) := by
  refine List.pairwise_mergeSort (fun a b c h1 h2 => ?_) (fun a b => ?_) l
  · rw [lexLe_iff] at h1 h2 ⊢
    omega
  · rw [Bool.or_eq_true, lexLe_iff, lexLe_iff]
    omega
theorem srt_uniq {l m : Rows} (hp : m.Perm l) (hs : m.Pairwise (fun p q => lexLe p q = true)) : m = srt l := by
  refine List.Perm.eq_of_pairwise (fun a b _ _ h1 h2 => ?_) hs (srt_sorted l) (hp.trans (srt_perm l).symm)
  rw [lexLe_iff] at h1 h2
  obtain ⟨a1, a2⟩ := a
  obtain ⟨b1, b2⟩ := b
  simp at h1 h2
  exact Prod.ext (by simp; omega) (by simp; omega)
/-- a pair of ints, read off the heap -/
def decP (H : Hp) : V → Int × Int
  | .ref t => match H t with
    | some (.tup [.int a, .int b]) => (a, b)
    | _ => (0, 0)
  | _ => (0, 0)
theorem decP_of {H : Hp} {t : Addr} {p : Int × Int} (h : H t = some (.tup [.int p.1, .int p.2])) : decP H (.ref t) = p := by
  unfold decP
  simp only [h]
theorem dqA_dec {K : Fr1} {H : Hp} : ∀ {vs : List V} {rs : Rows}, DqAll K H vs (rD rs) → vs.map (decP H) = rs ∧ ∀ x ∈ vs, ∃ t, x = .ref t ∧ H t = some (.tup [.int (decP H x).1, .int (decP H x).2])
  | [], [], _ => ⟨rfl, fun x hx => by cases hx⟩
  | [], _ :: _, h => by cases h
  | _ :: _, [], h => by cases h
  | v :: vs, p :: rs, h => by
    cases h with
    | cons h1 h2 =>
      obtain ⟨e1, e2⟩ := dqA_dec h2
      obtain ⟨p', t, hp, rfl, ht⟩ := dqA_get (vs := v :: vs) (rs := p :: rs) (i := 0) (.cons h1 h2) rfl
      cases hp
      have ed := decP_of ht
      refine ⟨by rw [List.map_cons, ed, e1], fun x hx => ?_⟩
      rcases List.mem_cons.mp hx with rfl | hx
      · exact ⟨t, rfl, by rw [ed]; exact ht⟩
      · exact e2 x hx
theorem dq_of_dec {K : Fr1} {H : Hp} : ∀ {vs : List V}, (∀ x ∈ vs, ∃ t, x = .ref t ∧ H t = some (.tup [.int (decP H x).1, .int (decP H x).2])) → DqAll K H vs (rD (vs.map (decP H)))
  | [], _ => .nil
  | v :: vs, h => by
    obtain ⟨t, e, ht⟩ := h v (List.mem_cons_self ..)
    refine .cons ?_ (dq_of_dec fun x hx => h x (List.mem_cons_of_mem _ hx))
    rw [e] at ht ⊢
    exact .tup ht (.cons (.int _) (.cons (.int _) .nil))
/-- sorted(xs), xs a list of pairs of ints -/
theorem w_sortedP {K : Fr1} {H : Hp} {Q : VK} {a : Addr} {vs : List V} {rs : Rows} (h : H a = some (.lst vs)) (hd : DqAll K H vs (rD rs))
    (k : ∀ p H', H p = none → Ex H H' → (∃ ys, H' p = some (.lst ys) ∧ DqAll K H' ys (rD (srt rs))) → Q (.ref p) H') : rSortedPO K [.ref a] H Q := by
  obtain ⟨e1, e2⟩ := dqA_dec hd
  refine ⟨a, vs, decP H, rfl, SqL.of h, e2, fun ys p hs hb hp => ?_⟩
  have hys : ∀ x ∈ ys, ∃ t, x = .ref t ∧ H t = some (.tup [.int (decP H x).1, .int (decP H x).2]) := fun x hx => e2 x (hb.perm.mem_iff.mp hx)
  have e3 : ys.map (decP H) = srt rs := by
    refine srt_uniq ?_ ?_
    · rw [← e1]
      exact hb.perm.map _
    · rw [List.pairwise_map]
      exact hs.imp fun {x y} z => by
        unfold lexLe
        rw [show SrtO.lexB (decP H y) (decP H x) = false from z] <;> rfl
  have d := dq_of_dec (K := K) hys
  rw [e3] at d
  exact k p _ hp (Ex.new hp) ⟨ys, upd_same, d.mono (Ex.new hp)⟩
/-! ### == of rows -/
theorem eqvAll_rD : ∀ a b : Rows, PyData.eqvAll (rD a) (rD b) = decide (a = b)
  | [], [] => rfl
  | [], _ :: _ => rfl
  | _ :: _, [] => rfl
  | (a1, a2) :: as, (b1, b2) :: bs => by
    have ih := eqvAll_rD as bs
    show (PyData.eqv (.tuple [.int a1, .int a2]) (.tuple [.int b1, .int b2]) && PyData.eqvAll (rD as) (rD bs)) = _
    rw [ih]
    simp only [PyData.eqv, PyData.eqvAll]
    by_cases h1 : a1 = b1 <;> by_cases h2 : a2 = b2 <;> by_cases h3 : as = bs <;> simp [h1, h2, h3]
theorem shaped_rD (a : Rows) : SeqAt.shaped (.tuple (rD a)) = true := by
  have h1 : ∀ a : Rows, PyData.canLayAll0 (rD a) = true ∧ PyData.depthAll (rD a) ≤ 1 := by
    intro a
    induction a with
    | nil => exact ⟨rfl, Nat.zero_le _⟩
    | cons p r ih =>
      obtain ⟨i1, i2⟩ := ih
      refine ⟨?_, ?_⟩
      · show (PyData.canLay0 (.tuple [.int p.1, .int p.2]) && PyData.canLayAll0 (rD r)) = true
        rw [i1]
        rfl
      · show max (PyData.depth (.tuple [.int p.1, .int p.2])) (PyData.depthAll (rD r)) ≤ 1
        have e : PyData.depth (.tuple [.int p.1, .int p.2]) = 1 := rfl
        omega
  obtain ⟨c, d⟩ := h1 a
  unfold SeqAt.shaped
  have c2 : PyData.canLay0 (.tuple (rD a)) = true := c
  have d2 : PyData.depth (.tuple (rD a)) ≤ 64 := by
    show PyData.depthAll (rD a) + 1 ≤ 64
    omega
  rw [c2, decide_eq_true d2]
  rfl
theorem shaped_rDl (a : Rows) : SeqAt.shaped (.list (rD a)) = true := shaped_rD a
mutual
/-- data without dicts, as the library's relation has them -/
def noDict : PyData → Bool
  | .list xs => noDictA xs
  | .tuple xs => noDictA xs
  | .dict _ => false
  | _ => true
def noDictA : List PyData → Bool
  | [] => true
  | x :: r => noDict x && noDictA r
end
mutual
theorem Dq.dp {K : Fr1} {H : Hp} : ∀ {v : V} {d : PyData}, Dq K H v d → noDict d = true → Dp K H v d
  | _, _, .non, _ => .non
  | _, _, .bl b, _ => .bl b
  | _, _, .int i, _ => .int i
  | _, _, .str x, _ => .str x
  | _, _, .lst h a, e => .lst (SqL.of h) (DqAll.dp a (by simpa [noDict] using e))
  | _, _, .tup h a, e => .tup (SqT.of h) (DqAll.dp a (by simpa [noDict] using e))
  | _, _, .dct h, e => by simp [noDict] at e
theorem DqAll.dp {K : Fr1} {H : Hp} : ∀ {vs : List V} {ds : List PyData}, DqAll K H vs ds → noDictA ds = true → DpAll K H vs ds
  | _, _, .nil, _ => .nil
  | _, _, .cons h t, e => by
    have e2 := Bool.and_eq_true_iff.mp (by simpa [noDictA] using e)
    exact .cons (Dq.dp h e2.1) (DqAll.dp t e2.2)
end
theorem noDict_rD : ∀ a : Rows, noDictA (rD a) = true
  | [] => rfl
  | p :: r => by
    show (noDict (.tuple [.int p.1, .int p.2]) && noDictA (rD r)) = true
    rw [noDict_rD r]
    rfl
/-- == of two tuples of rows -/
theorem w_eqRT {K : Fr1} {H : Hp} {Q : VK} {x y : V} {a b : Rows} (hx : Dq K H x (.tuple (rD a))) (hy : Dq K H y (.tuple (rD b))) (k : Q (.bl (decide (a = b))) H) : rEqD K x y H Q := by
  refine ⟨_, _, hx.dp (by simpa [noDict] using noDict_rD a), hy.dp (by simpa [noDict] using noDict_rD b), shaped_rD a, shaped_rD b, ?_⟩
  have e : PyData.eqv (.tuple (rD a)) (.tuple (rD b)) = decide (a = b) := eqvAll_rD a b
  rw [e]
  exact k

/-! ### isinstance of a caught error whose attributes stand in a dict -/
section IsE
open PySem.W
/-- what isinstance asks of an own class of errors -/
structure ErrC (K : Fr1) (D : Addr) : Prop where
  x : XfC K D
  i : ITy K D
def rIsEd (K : Fr1) (D a : Addr) (cls : Value) (d : Option Addr) : List V → Hp → VK → Prop := fun xs H Q => ∃ (c : V) (cv : Value) (b : Bool) (dd : Addr) (fs : List (Str × V)), xs = [.ref a, c] ∧ cls = .ref D ∧ d = some dd ∧ H dd = some (.xd fs) ∧ (∀ u, RelV c u → u = cv) ∧ kitOne K (.ref D) cv = some b ∧ Q (.bl b) H
/-- isinstance(e, c), e caught -/
theorem call_isEd {X : Cx} {a D : Addr} {oe : Obj} {cls : Value} {d : Option Addr} {pn : List (Addr × Obj)} (C : ErrC X.K D) (hz : Zc cls d oe) (hf : ∃ vs, oe.data = .fields vs) : CallR (X.suite a ((a, oe) :: pn)) (.builtin "isinstance") (rIsEd X.K D a cls d) := by
  intro pins s σ H xs us Q I r h
  obtain ⟨c, cv, b, dd, fs, rfl, rfl, rfl, hdd, hcv, e, q⟩ := h
  cases r with
  | cons rx rr =>
    cases rr with
    | cons rt rr =>
      cases rr
      cases rx
      cases hcv _ rt
      obtain ⟨here, _⟩ := I.pin (a, oe) (List.mem_append_left _ List.mem_cons_self)
      obtain ⟨vs, hd⟩ := hf
      have hx : ObjOk X.prog X.w H s.heap dd (.xd fs) := I.hok dd _ hdd
      obtain ⟨mA, hns, _⟩ := hx
      obtain ⟨od, ho, _⟩ := lookIn_ns hns
      have J : InstAt s.heap a oe D (some od) := ⟨here, hz.1, by unfold notCls; rw [hd] <;> rfl, by rw [hz.2]; exact ho⟩
      have has : (clsIn X.K D).isSome = true := by
        obtain ⟨cd, hc, _⟩ := any_some C.x.hdC
        rw [hc]
        rfl
      exact kia_one (kitx_exc has C.x.ga C.x.gg C.x.exC C.i.ha C.i.hn C.i.ht C.i.hm) I.kIn J e (fun z => nomatch z) fun tk => ⟨.bl b, H, I.kept (t' := tk) fun _ _ z => z, rfl, q⟩
theorem w_isEd {K : Fr1} {D a dd : Addr} {c : V} {cv : Value} {b : Bool} {fs : List (Str × V)} {H : Hp} {Q : VK} (hdd : H dd = some (.xd fs)) (hcv : ∀ u, RelV c u → u = cv) (e : kitOne K (.ref D) cv = some b) (q : Q (.bl b) H) : rIsEd K D a (.ref D) (some dd) [.ref a, c] H Q := ⟨c, cv, b, dd, fs, rfl, rfl, rfl, hdd, hcv, e, q⟩
theorem kit_exm {K : Fr1} {t c : Value} (h : exmOne K t c = some true) : kitOne K t c = some true := by
  unfold exmOne at h
  split at h
  · unfold kitOne
    split
    · rfl
    · exact h
  · cases h
end IsE

/-! ### errors of the text held as values -/
/-- an error of the class cls at a, its dict at d -/
def ExV (cls : Value) (d : Option Addr) (a : Addr) : HO := .ext fun h => ∃ (oe : Obj) (vs : Array Value), h.get? a = some oe ∧ Zc cls d oe ∧ oe.data = .fields vs
theorem exV_ok {P : Program} {w : World} {H : Hp} {h : Heap} {a : Addr} {cls : Value} {d : Option Addr} {oe : Obj} {vs : Array Value} (e : h.get? a = some oe) (z : Zc cls d oe) (q : oe.data = .fields vs) : ObjOk P w H h a (ExV cls d a) :=
  ⟨⟨oe, vs, e, z, q⟩, ⟨oe, e⟩, fun _ _ ⟨o, v, q, r⟩ k => ⟨o, v, k o q, r⟩⟩
/-- what makes an error for raise makes it as a value, too -/
theorem pe_ofMk {X : Cx} {e : Expr} {tm : St → Hp → XK → Prop} (h : PMk X e tm) : PE X e (fun σ H Q => tm σ H fun cls d H1 => ∀ a, H1 a = none → Q (.ref a) (upd H1 a (ExV cls d a))) := by
  refine ⟨fun pins s σ H Q I m => wpAny_mono (h pins s σ H _ I m) (fun u s1 hu => ?_) fun _ _ x => x⟩
  obtain ⟨a, oe, vs, sI, H1, cls, d, rfl, J, k, new, ho, hz, hd, _, na, os, bare, _, q⟩ := hu
  exact ⟨.ref a, _, J.call' (ch := []) os (Un.laidN k new na) (J.hok.laidN k na (exV_ok ho hz hd)) bare fun b z => absurd z (by simp), rfl, q a na⟩
/-- an error without an own __init__, no argument -/
theorem pmk_exn {X : Cx} {C : Addr} {x : Str} {p pos : Pos} (T : ExnC X.K C) (hg : Gl X x) (hm : X.mg x = some (.ref C)) (hdb : (x == ("__debug__" : Str)) = false := by decide) : PMk X (.Call (.Name x p) [] [] pos) (fun _ H Q => Q (.ref C) none H) := by
  intro pins s σ H Q I h
  refine wpAny_Call_Name_kw (ld_glob I hg hm ?_ hdb)
  refine PySem.W.callWith_K0 I.kIn T.k ?_
  obtain ⟨hp1, g1, d1, tk1, os1⟩ := s
  obtain ⟨bm, N, nm, qn, bs, hdct, sn, sub, ab, col, dd, k0, k1, k2, k3, k5, mN, hC, hN, hni, tl⟩ := exc_obj I.kIn T.q
  exact wpAny_call_exc_subT PySem.F.excBase_ValueError tl hC hN hni (fun h' e m => mk_of I m (raises_own T.s T.t) h (I.hok.gone m.new)) (Nat.zero_le _)
/-- e.f, e an error held -/
def tXv (K : Fr1) (f : Str) (te : TE) : TE := fun σ H Q => te σ H fun x H1 => ∃ (a C dd : Addr) (fs : List (Str × V)) (v : V), x = .ref a ∧ H1 a = some (ExV (.ref C) (some dd) a) ∧ XfC K C ∧ PySem.W.findIn K (.ref C) f = some none ∧ H1 dd = some (.xd fs) ∧ fs.lookup f = some v ∧ Q v H1
theorem pe_xv {X : Cx} {e : Expr} {te : TE} {pos : Pos} {n : Str} (he : PE X e te) (hb : attributeBase e n X.env (eval e X.env) = eval e X.env := by rfl) : PE X (.Attribute e n pos) (tXv X.K n te) := by
  refine ⟨fun pins s σ H Q I h => attr_of hb (thn (he.run pins s σ H _ I h) fun u s1 hh => ?_)⟩
  obtain ⟨x, H1, I1, rx, a, C, dd, fs, v, rfl, ha, T, no, hd, l, q⟩ := hh
  obtain rfl : u = Value.ref a := rx
  obtain ⟨⟨oe, vs, ho, hz, hf⟩, _⟩ : ObjOk X.prog X.w H1 s1.heap a (ExV (.ref C) (some dd) a) := I1.hok a _ ha
  obtain ⟨mA, hns, hr⟩ : ObjOk X.prog X.w H1 s1.heap dd (.xd fs) := I1.hok dd _ hd
  obtain ⟨od, hod, hl⟩ := lookIn_ns hns
  obtain ⟨u, hu, ru⟩ := RelO.some_of (v := v) (o := mA n) (by rw [← l]; exact hr n)
  refine HandSPX.exc_get I1.kIn (⟨ho, hz.1, by unfold PySem.W.notCls; rw [hf] <;> rfl, by rw [hz.2]; exact hod⟩ : PySem.W.InstAt s1.heap a oe C (some od)) T.ga T.gg T.exC (PySem.W.findObj_own T.hdC no rfl (by rw [hl, hu])) (handed_of ru) ⟨v, H1, I1.tok _, ru, q⟩
/-- isinstance(e, c), e an error held -/
def rIsV (K : Fr1) : List V → Hp → VK → Prop := fun xs H Q => ∃ (a D : Addr) (d : Option Addr) (c : V) (cv : Value) (b : Bool), xs = [.ref a, c] ∧ H a = some (ExV (.ref D) d a) ∧ (∀ dd, d = some dd → ∃ fs, H dd = some (.xd fs)) ∧ ErrC K D ∧ (∀ u, RelV c u → u = cv) ∧ PySem.W.kitOne K (.ref D) cv = some b ∧ Q (.bl b) H
theorem call_isV {X : Cx} : CallR X (.builtin "isinstance") (rIsV X.K) := by
  intro pins s σ H xs us Q I r h
  obtain ⟨a, D, d, c, cv, b, rfl, ha, hd, C, hcv, e, q⟩ := h
  cases r with
  | cons rx rr =>
    cases rr with
    | cons rt rr =>
      cases rr
      cases rx
      cases hcv _ rt
      obtain ⟨⟨oe, vs, ho, hz, hf⟩, _⟩ : ObjOk X.prog X.w H s.heap a (ExV (.ref D) d a) := I.hok a _ ha
      have has : (PySem.W.clsIn X.K D).isSome = true := by
        obtain ⟨cd, hc, _⟩ := PySem.W.any_some C.x.hdC
        rw [hc]
        rfl
      have J : ∃ od, PySem.W.InstAt s.heap a oe D od := by
        cases d with
        | none => exact ⟨none, ho, hz.1, by unfold PySem.W.notCls; rw [hf] <;> rfl, by rw [hz.2]; trivial⟩
        | some dd =>
          obtain ⟨fs, hdd⟩ := hd dd rfl
          obtain ⟨mA, hns, _⟩ : ObjOk X.prog X.w H s.heap dd (.xd fs) := I.hok dd _ hdd
          obtain ⟨od, hod, _⟩ := lookIn_ns hns
          exact ⟨some od, ho, hz.1, by unfold PySem.W.notCls; rw [hf] <;> rfl, by rw [hz.2]; exact hod⟩
      obtain ⟨od, J⟩ := J
      exact PySem.W.kia_one (PySem.W.kitx_exc has C.x.ga C.x.gg C.x.exC C.i.ha C.i.hn C.i.ht C.i.hm) I.kIn J e (fun z => nomatch z) fun tk => ⟨.bl b, H, I.kept (t' := tk) fun _ _ z => z, rfl, q⟩
/-- C(x), x a local, C's __init__ keeping its argument as the attribute f -/
def tErrV (C : Addr) (f : Str) (i : Nat) : TE := fun σ H Q => tVar i σ H fun v H1 => ∀ (d : Addr) (A : Hp) (a : Addr) (B : Hp), H1 d = none → Ex H1 A → A d = some (.xd [(f, v)]) → A a = none → Ex A B → B a = some (ExV (.ref C) (some d) a) → Q (.ref a) B
theorem pe_errV {X : Cx} {e : Expr} {C : Addr} {f : Str} {i : Nat} (h : PE X e (fun σ H Q => tMkO C (sp_err C f) [] (tCons (tVar i) tNil) σ H fun cls d H1 => ∀ a, H1 a = none → Q (.ref a) (upd H1 a (ExV cls d a)))) : PE X e (tErrV C f i) := by
  refine ⟨fun pins s σ H Q I k => h.run pins s σ H Q I ?_⟩
  obtain ⟨v, hv, k⟩ := k
  refine w_mkO ⟨v, hv, ?_⟩
  refine w_err (P := fun cls d H1 => ∀ a, H1 a = none → Q (.ref a) (upd H1 a (ExV cls d a))) fun d A hd e hA a ha => ?_
  exact k d A a _ hd e hA ha (Evl.Ex.new ha) upd_same
/-- the classes of errors, in the law's order -/
abbrev enN : List Str := ["BadRound", "BadTurn", "BadStanding", "BadWord", "BadSlack", "BadRows", "BadPlan", "BadKinds", "BadLog", "BadText", "BadMachine", "TooMany", "NoPlan", "NothingDone"]
/-- the attribute of each -/
abbrev atN : List Str := ["value", "value", "value", "value", "value", "at", "at", "at", "at", "at", "state", "limit", "none", "none"]
/-- t: a tuple of an attribute's name and the error number i, made of v -/
def ErrT (K : Fr1) (H : Hp) (v : V) (t : V) (i : Nat) : Prop := ∃ (tp a : Addr) (d : Option Addr), t = .ref tp ∧ H tp = some (.tup [.str (atN.getD i ""), .ref a]) ∧ H a = some (ExV (.ref (He.ga K (enN.getD i ""))) d a) ∧
  (i < 12 → ∃ dd, d = some dd ∧ H dd = some (.xd [(atN.getD i "", v)])) ∧ (12 ≤ i → d = none)
def MadeV (K : Fr1) (H : Hp) (l : Addr) (v : V) : Prop := ∃ ts, H l = some (.lst ts) ∧ Paired (ErrT K H v) ts (List.range 14)
theorem pair_get {α β : Type} {R : α → β → Prop} : ∀ {xs : List α} {ys : List β} {i : Nat} {x : α}, Paired R xs ys → xs[i]? = some x → ∃ y, ys[i]? = some y ∧ R x y := by
  intro xs ys i x h
  induction h generalizing i with
  | nil => intro e; cases e
  | cons a _ ih =>
    intro e
    cases i with
    | zero => exact ⟨_, rfl, by cases e; exact a⟩
    | succ n => exact ih e
/-! ### lists of truths, compared -/
def bD (bs : List Bool) : List PyData := bs.map PyData.bool
theorem eqvAll_bD : ∀ bs : List Bool, PyData.eqvAll (bD bs) (bD bs) = true
  | [] => rfl
  | b :: r => by
    show (PyData.eqv (.bool b) (.bool b) && PyData.eqvAll (bD r) (bD r)) = true
    rw [eqvAll_bD r]
    cases b <;> rfl
theorem noDict_bD : ∀ bs : List Bool, noDictA (bD bs) = true
  | [] => rfl
  | b :: r => by
    show (noDict (.bool b) && noDictA (bD r)) = true
    rw [noDict_bD r]
    rfl
theorem dqA_bD {K : Fr1} {H : Hp} : ∀ bs : List Bool, DqAll K H (bs.map V.bl) (bD bs)
  | [] => .nil
  | _ :: r => .cons (.bl _) (dqA_bD r)
theorem w_neBL {K : Fr1} {H : Hp} {Q : VK} {a b : Addr} {bs : List Bool} (hx : H a = some (.lst (bs.map V.bl))) (hy : H b = some (.lst (bs.map V.bl))) (hs : SeqAt.shaped (.list (bD bs)) = true) (k : Q (.bl false) H) : rNeD K (.ref a) (.ref b) H Q := by
  refine ⟨_, _, (Dq.lst hx (dqA_bD _)).dp (by simpa [noDict] using noDict_bD _), (Dq.lst hy (dqA_bD _)).dp (by simpa [noDict] using noDict_bD _), hs, hs, ?_⟩
  rw [show PyData.eqv (.list (bD bs)) (.list (bD bs)) = PyData.eqvAll (bD bs) (bD bs) from rfl, eqvAll_bD]
  exact k
theorem paired_bl {vs : List V} {bs : List Bool} (h : Paired (fun v (b : Bool) => v = .bl b) vs bs) : vs = bs.map V.bl := by
  induction h with
  | nil => rfl
  | cons a _ ih => rw [a, ih, List.map_cons]

def turnR (N c : Int) (rs : Rows) : Rows := srt (rs.map fun p => ((p.1 + c) % N, (p.2 + c) % N))
/-- what least_period tells -/
structure LeastP (N : Int) (rs : Rows) (s : Int) : Prop where
  pos : 1 ≤ s
  le : s ≤ N
  keeps : s = N ∨ (N % s = 0 ∧ turnR N s rs = rs)
  least : ∀ t, 1 ≤ t → t < s → ¬ (N % t = 0 ∧ turnR N t rs = rs)
theorem putF_ne {f g : Str} {u v : V} {r : List (Str × V)} (h : ¬ g = f) : putF f v ((g, u) :: r) = (g, u) :: putF f v r := by
  show (if g = f then _ else _) = _
  rw [if_neg h]
theorem putF_nil {f : Str} {v : V} : putF f v [] = [(f, v)] := rfl
theorem lk_eq {f : Str} {v : V} {r : List (Str × V)} : ((f, v) :: r).lookup f = some v := by simp [List.lookup]
theorem lk_ne {f g : Str} {v : V} {r : List (Str × V)} (h : (g == f) = false) : ((f, v) :: r).lookup g = r.lookup g := by simp [List.lookup, h]
theorem lk_nil {g : Str} : ([] : List (Str × V)).lookup g = none := rfl
theorem flds3 (n r p : V) : putF "_period" p (putF "rows" r (putF "around" n [])) = ([("around", n), ("rows", r), ("_period", p)] : List (Str × V)) := by
  rw [putF_nil, putF_ne (by decide +kernel), putF_nil, putF_ne (by decide +kernel), putF_ne (by decide +kernel), putF_nil]
/-- the fields of a turning -/
def tF (N : Int) (t : Addr) (s : Int) : List (Str × V) := [("around", .int N), ("rows", .ref t), ("_period", .int s)]
theorem tF_around (N : Int) (t : Addr) (s : Int) : (tF N t s).lookup ("around" : Str) = some (V.int N) := lk_eq
theorem tF_rows (N : Int) (t : Addr) (s : Int) : (tF N t s).lookup ("rows" : Str) = some (V.ref t) := (lk_ne (by decide +kernel)).trans lk_eq
theorem tF_period (N : Int) (t : Addr) (s : Int) : (tF N t s).lookup ("_period" : Str) = some (V.int s) := (lk_ne (by decide +kernel)).trans ((lk_ne (by decide +kernel)).trans lk_eq)
theorem tF_no (N : Int) (t : Addr) (s : Int) {m : Str} (h1 : (m == ("around" : Str)) = false) (h2 : (m == ("rows" : Str)) = false) (h3 : (m == ("_period" : Str)) = false) : (tF N t s).lookup m = none :=
  (lk_ne h1).trans ((lk_ne h2).trans ((lk_ne h3).trans lk_nil))
/-- v is a turning of the round N with the rows rs and the period s -/
def TurnAt (K : Fr1) (H : Hp) (v : V) (N : Int) (rs : Rows) (s : Int) : Prop := ∃ a dx t, v = .ref a ∧ H a = some (.ins (He.ga K "Turning") dx (tF N t s)) ∧ Dq K H (.ref t) (.tuple (rD rs))
theorem TurnAt.mono {K : Fr1} {H H' : Hp} {v : V} {N : Int} {rs : Rows} {s : Int} (e : Ex H H') (h : TurnAt K H v N rs s) : TurnAt K H' v N rs s := by
  obtain ⟨a, dx, t, h1, h2, h3⟩ := h
  exact ⟨a, dx, t, h1, e _ _ h2, h3.mono e⟩
/-- rows as a turning has them -/
structure GoodT (N : Int) (rs : Rows) : Prop where
  hN : 2 ≤ N
  hN2 : N ≤ 360
  len1 : 1 ≤ rs.length
  len2 : rs.length ≤ 12
  rng : ∀ p ∈ rs, 0 ≤ p.1 ∧ p.1 < N ∧ 0 ≤ p.2 ∧ p.2 < N
  asc : rs.Pairwise (fun p q => p.1 < q.1)
  rest : ∀ i p, rs[i]? = some p → p.1 + (p.2 - p.1) % N < behindOf N rs i
theorem rowA_good {N : Int} : ∀ {ds : List PyData} {b : Int} {i : Nat} {rs : Rows}, rowA N b i ds = .ok rs → (∀ p ∈ rs, b < p.1 ∧ 0 ≤ p.1 ∧ p.1 < N ∧ 0 ≤ p.2 ∧ p.2 < N) ∧ rs.Pairwise (fun p q => p.1 < q.1)
  | [], b, i, rs, h => by
    cases h
    exact ⟨fun p hp => (by cases hp), .nil⟩
  | d :: r, b, i, rs, h => by
    rw [rowA_cons] at h
    split at h
    · cases h
    · rename_i p hp
      split at h
      · cases h
      · rename_i hb
        split at h
        · rename_i l hl
          cases h
          obtain ⟨g1, g2⟩ := rowA_good hl
          obtain ⟨_, a1, a2, a3, a4⟩ := asPair_some hp
          refine ⟨fun q hq => ?_, List.pairwise_cons.mpr ⟨fun q hq => (g1 q hq).1, g2⟩⟩
          rcases List.mem_cons.mp hq with rfl | hq
          · exact ⟨by omega, a1, a2, a3, a4⟩
          · obtain ⟨z1, z2⟩ := g1 q hq
            exact ⟨by omega, z2⟩
        · cases h
theorem good_rowA {N : Int} : ∀ {rs : Rows} {b : Int} {i : Nat}, (∀ p ∈ rs, b < p.1 ∧ 0 ≤ p.1 ∧ p.1 < N ∧ 0 ≤ p.2 ∧ p.2 < N) → rs.Pairwise (fun p q => p.1 < q.1) → rowA N b i (rD rs) = .ok rs
  | [], _, _, _, _ => rfl
  | p :: r, b, i, h, hp => by
    obtain ⟨h1, h2, h3, h4, h5⟩ := h p (List.mem_cons_self ..)
    obtain ⟨g1, g2⟩ := List.pairwise_cons.mp hp
    have e : asPair N (pD p) = some p := by
      show (if 0 ≤ p.1 ∧ p.1 < N ∧ 0 ≤ p.2 ∧ p.2 < N then some (p.1, p.2) else none) = some p
      rw [if_pos ⟨h2, h3, h4, h5⟩]
    have ih := good_rowA (N := N) (rs := r) (b := p.1) (i := i + 1) (fun q hq => ⟨g1 q hq, (h q (List.mem_cons_of_mem _ hq)).2⟩) g2
    show rowA N b i (pD p :: rD r) = _
    rw [rowA_cons, e]
    dsimp only
    rw [if_neg (by omega), ih]
theorem rowBg_none {N : Int} {rs : Rows} : ∀ {n i : Nat}, rowBg N rs n i = none ↔ ∀ j, i ≤ j → j < i + n → badRest N rs j = false
  | 0, i => Iff.intro (fun _ j h1 h2 => absurd h2 (by omega)) (fun _ => rfl)
  | n + 1, i => by
    have ih := rowBg_none (N := N) (rs := rs) (n := n) (i := i + 1)
    show (if badRest N rs i = true then some i else rowBg N rs n (i + 1)) = none ↔ _
    by_cases h : badRest N rs i = true
    · rw [if_pos h]
      refine ⟨fun z => (by cases z), fun z => ?_⟩
      have := z i (Nat.le_refl _) (by omega)
      rw [h] at this
      cases this
    · rw [if_neg h, ih]
      refine ⟨fun z j h1 h2 => ?_, fun z j h1 h2 => z j (by omega) (by omega)⟩
      by_cases hj : j = i
      · subst hj
        simpa using h
      · exact z j (by omega) (by omega)
theorem good_chk {N : Int} {d : PyData} {rs : Rows} (h1 : 2 ≤ N) (h2 : N ≤ 360) (h : rowsChk N d = .ok rs) : GoodT N rs ∧ rowsOf d = some (rD rs) := by
  unfold rowsChk at h
  split at h
  · cases h
  · rename_i l hl
    split at h
    · cases h
    · rename_i hlen
      split at h
      · cases h
      · rename_i rs' hA
        split at h
        · cases h
        · rename_i hB
          cases h
          have hds := rowA_eq hA
          obtain ⟨g1, g2⟩ := rowA_good hA
          have hl2 : l.length = rs.length := by rw [hds]; exact List.length_map ..
          refine ⟨⟨h1, h2, by omega, by omega, fun p hp => (g1 p hp).2, g2, fun i p hp => ?_⟩, by rw [hl, hds]⟩
          have hi : i < rs.length := (List.getElem?_eq_some_iff.mp hp).1
          have z := (rowBg_none.mp hB) i (Nat.zero_le _) (by omega)
          unfold badRest at z
          rw [hp] at z
          simpa using z
theorem chk_good {N : Int} {d : PyData} {rs : Rows} (g : GoodT N rs) (h : rowsOf d = some (rD rs)) : rowsChk N d = .ok rs := by
  have hl : (rD rs).length = rs.length := List.length_map ..
  have h1 := g.len1
  have h2 := g.len2
  have hA : rowA N (-1) 0 (rD rs) = .ok rs := good_rowA (fun p hp => by have := g.rng p hp; omega) g.asc
  have hB : rowB N rs = none := by
    refine rowBg_none.mpr fun j _ hj => ?_
    unfold badRest
    rw [List.getElem?_eq_getElem (show j < rs.length by omega)]
    have := g.rest j _ (List.getElem?_eq_getElem (show j < rs.length by omega))
    simpa using this
  unfold rowsChk
  rw [h]
  dsimp only
  rw [if_neg (by omega), hA]
  dsimp only
  rw [hB]
/-- the lifted map -/
def pickR (rs : Rows) (x : Int) : Int × Int := rs.foldl (fun acc p => if p.1 ≤ x then p else acc) (rs.headD (0, 0))
def liftZ (N : Int) (rs : Rows) (x : Int) : Int :=
  if x % N < (rs.headD (0, 0)).1 then (x / N - 1) * N + (pickR rs (x % N + N)).1 + ((pickR rs (x % N + N)).2 - (pickR rs (x % N + N)).1) % N
  else x / N * N + (pickR rs (x % N)).1 + ((pickR rs (x % N)).2 - (pickR rs (x % N)).1) % N
/-- the wish for an error raised while the new instance x is being made -/
def RzX (K : Fr1) (x : Addr) (c f : Str) (v : V) (H : Hp) (E : XK) : Prop := ∀ d H', H d = none → (∀ b o, b ≠ x → H b = some o → H' b = some o) → H' d = some (.xd [(f, v)]) → E (.ref (He.ga K c)) (some d) H'
theorem turn_meth {K : Fr1} {H : Hp} {v : V} {N : Int} {rs : Rows} {s : Int} {m : Str} {P : Prop} (tu : TurnAt K H v N rs s) (h1 : (m == ("around" : Str)) = false) (h2 : (m == ("rows" : Str)) = false) (h3 : (m == ("_period" : Str)) = false) (k : P) :
    ∃ a dx fs, v = .ref a ∧ H a = some (.ins (He.ga K "Turning") dx fs) ∧ fs.lookup m = none ∧ P := by
  obtain ⟨a, dx, t, e, ha, _⟩ := tu
  exact ⟨a, dx, _, e, ha, tF_no N t s h1 h2 h3, k⟩
theorem turn_prop {K : Fr1} {H : Hp} {x : Addr} {N : Int} {rs : Rows} {s : Int} {P : Addr → Prop} (tu : TurnAt K H (.ref x) N rs s) (k : P x) : ∃ a dx fs, V.ref x = .ref a ∧ H a = some (.ins (He.ga K "Turning") dx fs) ∧ P a := by
  obtain ⟨a, dx, t, e, ha, _⟩ := tu
  cases e
  exact ⟨x, dx, _, rfl, ha, k⟩
theorem turn_ins {X : Cx} {H : Hp} {a : Addr} {N : Int} {rs : Rows} {s : Int} (tu : TurnAt X.K H (.ref a) N rs s) : StX.InsC X H a (He.ga X.K "Turning") := by
  obtain ⟨b, dx, t, e, ha, _⟩ := tu
  cases e
  exact .inr ⟨dx, _, ha⟩

/-! ### lists of ints -/
def srtI (l : List Int) : List Int := l.mergeSort (fun a b => decide (a ≤ b))
theorem srtI_perm (l : List Int) : (srtI l).Perm l := List.mergeSort_perm l _
theorem srtI_sorted (l : List Int) : (srtI l).Pairwise (· ≤ ·) := by
  have := List.pairwise_mergeSort (le := fun a b : Int => decide (a ≤ b)) (fun a b c h1 h2 => by simp at *; omega) (fun a b => by simp; omega) l
  exact this.imp fun {a b} h => by simpa using h
theorem srtI_uniq {l m : List Int} (hp : m.Perm l) (hs : m.Pairwise (· ≤ ·)) : m = srtI l :=
  List.Perm.eq_of_pairwise (fun a b _ _ h1 h2 => by omega) hs (srtI_sorted l) (hp.trans (srtI_perm l).symm)
theorem w_sortedI {K : Fr1} {H : Hp} {Q : VK} {a : Addr} {ns : List Int} (h : H a = some (.lst (ns.map V.int))) (k : ∀ p H', H p = none → Ex H H' → H' p = some (.lst ((srtI ns).map V.int)) → Q (.ref p) H') : rSortedI K [.ref a] H Q :=
  ⟨a, ns, rfl, SqL.of h, fun ns' p hp hs hn => by
    rw [srtI_uniq hp hs]
    exact k p _ hn (Evl.Ex.new hn) upd_same⟩
theorem range_map_int (rs : Rows) (f : Int × Int → Int) : (List.range rs.length).filterMap (fun i => (rs[i]?).map f) = rs.map f := range_map_get rs f
theorem paired_ints : ∀ {vs : List V} {as : List Int}, Paired (fun v (a : Int) => v = .int a) vs as → vs = as.map V.int
  | _, _, .nil => rfl
  | _, _, .cons h t => by rw [h, paired_ints t] <;> rfl

/-! ### rows that a law draws -/
/-- begins differ, and each rest is nearer than any other begin -/
structure Spread (N : Int) (l : Rows) : Prop where
  nd : (l.map (·.1)).Nodup
  far : ∀ p ∈ l, ∀ q ∈ l, p.1 ≠ q.1 → (p.2 - p.1) % N < (q.1 - p.1) % N
theorem srt_mem {l : Rows} {p : Int × Int} : p ∈ srt l ↔ p ∈ l := (srt_perm l).mem_iff
theorem srt_len (l : Rows) : (srt l).length = l.length := (srt_perm l).length_eq
theorem srt_asc {l : Rows} (nd : (l.map (·.1)).Nodup) : (srt l).Pairwise (fun p q => p.1 < q.1) := by
  have nd2 : ((srt l).map (·.1)).Nodup := ((srt_perm l).map _).nodup_iff.mpr nd
  have h1 : (srt l).Pairwise (fun p q => p.1 ≠ q.1) := List.pairwise_map.mp nd2
  exact (h1.and (srt_sorted l)).imp fun {p q} ⟨z1, z2⟩ => by
    rw [lexLe_iff] at z2
    omega
theorem good_srt {N : Int} {l : Rows} (hN : 2 ≤ N) (hN2 : N ≤ 360) (h1 : 1 ≤ l.length) (h2 : l.length ≤ 12) (rng : ∀ p ∈ l, 0 ≤ p.1 ∧ p.1 < N ∧ 0 ≤ p.2 ∧ p.2 < N) (S : Spread N l) : GoodT N (srt l) := by
  have asc := srt_asc S.nd
  refine ⟨hN, hN2, by rw [srt_len]; exact h1, by rw [srt_len]; exact h2, fun p hp => rng p (srt_mem.mp hp), asc, fun i p hp => ?_⟩
  have hpm : p ∈ l := srt_mem.mp (List.mem_of_getElem? hp)
  obtain ⟨hi, ep⟩ := List.getElem?_eq_some_iff.mp hp
  have rp := rng p hpm
  rw [List.pairwise_iff_getElem] at asc
  unfold behindOf
  cases hn : (srt l)[i + 1]? with
  | some q =>
    obtain ⟨hj, eq⟩ := List.getElem?_eq_some_iff.mp hn
    have lt := asc i (i + 1) hi hj (by omega)
    rw [ep, eq] at lt
    have hqm : q ∈ l := srt_mem.mp (List.mem_of_getElem? hn)
    have rq := rng q hqm
    have := S.far p hpm q hqm (by omega)
    rw [Int.emod_eq_of_lt (a := q.1 - p.1) (by omega) (by omega)] at this
    dsimp only
    omega
  | none =>
    have hj : (srt l).length ≤ i + 1 := List.getElem?_eq_none_iff.mp hn
    obtain ⟨p0, r0, hs⟩ : ∃ p0 r0, srt l = p0 :: r0 := by
      cases e : srt l with
      | nil => rw [e] at hi; simp at hi
      | cons a b => exact ⟨a, b, rfl⟩
    have h0 : (srt l)[0]? = some p0 := by rw [hs]; rfl
    obtain ⟨h0i, e0⟩ := List.getElem?_eq_some_iff.mp h0
    have hm0 : p0 ∈ l := srt_mem.mp (List.mem_of_getElem? h0)
    have r0' := rng p0 hm0
    have hhd : ((srt l).headD (0, 0)) = p0 := by rw [hs]; rfl
    dsimp only
    rw [hhd]
    by_cases e : i = 0
    · subst e
      rw [hp] at h0
      cases h0
      have := Int.emod_lt_of_pos (p.2 - p.1) (show 0 < N by omega)
      omega
    · have lt := asc 0 i h0i hi (by omega)
      rw [ep, e0] at lt
      have := S.far p hpm p0 hm0 (by omega)
      have e2 : (p0.1 - p.1) % N = p0.1 - p.1 + N := by
        rw [← Int.add_emod_right, Int.emod_eq_of_lt (by omega) (by omega)]
      omega
/-- the rows of one lifted pair -/
def lapsOf (N u : Int) (m : Nat) (g : Int × Int) : Rows := (List.range m).map fun (j : Nat) => ((g.1 + (j : Int) * u) % N, (g.2 + (j : Int) * u) % N)
def allLaps (N u : Int) (m : Nat) (gs : Rows) : Rows := gs.flatMap (lapsOf N u m)
theorem lapsOf_succ (N u : Int) (j : Nat) (g : Int × Int) : lapsOf N u (j + 1) g = lapsOf N u j g ++ [((g.1 + (j : Int) * u) % N, (g.2 + (j : Int) * u) % N)] := by
  unfold lapsOf
  rw [List.range_succ, List.map_append]
  rfl
theorem lapsOf_len (N u : Int) (j : Nat) (g : Int × Int) : (lapsOf N u j g).length = j := by
  unfold lapsOf
  rw [List.length_map, List.length_range]
theorem dqA_snoc {K : Fr1} {H : Hp} {v : V} {d : PyData} (h : Dq K H v d) : ∀ {xs : List V} {ds : List PyData}, DqAll K H xs ds → DqAll K H (xs ++ [v]) (ds ++ [d])
  | _, _, .nil => .cons h .nil
  | _, _, .cons z t => .cons z (dqA_snoc h t)
theorem del_upd {H : Hp} {R : Addr} {o : HO} : del (upd H R o) R = del H R := by
  funext b
  by_cases q : b = R
  · rw [q, del_same, del_same]
  · rw [del_ne q, del_ne q, upd_ne q]
theorem dqA_app {K : Fr1} {H H4 : Hp} {R : Addr} {o : HO} {ys : List V} {ds : List PyData} {v : V} {d : PyData} (hd : DqAll K (del H R) ys ds) (e : Ex H H4) (h : Dq K (del H4 R) v d) : DqAll K (del (upd H4 R o) R) (ys ++ [v]) (ds ++ [d]) := by
  rw [del_upd]
  exact dqA_snoc h (hd.mono (Evl.Ex.delD (ex_del.trans e) del_same))
theorem mem_allLaps {N u : Int} {m : Nat} {gs : Rows} {p : Int × Int} : p ∈ allLaps N u m gs ↔ ∃ g ∈ gs, ∃ j : Nat, j < m ∧ p = ((g.1 + j * u) % N, (g.2 + j * u) % N) := by
  unfold allLaps lapsOf
  simp only [List.mem_flatMap, List.mem_map, List.mem_range]
  constructor
  · rintro ⟨g, hg, j, hj, rfl⟩
    exact ⟨g, hg, j, hj, rfl⟩
  · rintro ⟨g, hg, j, hj, rfl⟩
    exact ⟨g, hg, j, hj, rfl⟩
theorem allLaps_len (N u : Int) (m : Nat) (gs : Rows) : (allLaps N u m gs).length = gs.length * m := by
  unfold allLaps
  induction gs with
  | nil => simp
  | cons g r ih =>
    rw [List.flatMap_cons, List.length_append, ih, List.length_cons, Nat.succ_mul, Nat.add_comm]
    unfold lapsOf
    simp
/-- lifted pairs within one unit from P on, one behind the other -/
structure Lifted (P u : Int) (gs : Rows) : Prop where
  rng : ∀ g ∈ gs, P ≤ g.1 ∧ g.1 ≤ g.2 ∧ g.2 < P + u
  asc : gs.Pairwise (fun g h => g.2 < h.1)
theorem Lifted.before {P u : Int} {gs : Rows} (L : Lifted P u gs) {g h : Int × Int} (hg : g ∈ gs) (hh : h ∈ gs) (c : g ≠ h) : g.2 < h.1 ∨ h.2 < g.1 := by
  obtain ⟨i, hi, ei⟩ := List.mem_iff_getElem.mp hg
  obtain ⟨j, hj, ej⟩ := List.mem_iff_getElem.mp hh
  have asc := L.asc
  rw [List.pairwise_iff_getElem] at asc
  rcases Nat.lt_trichotomy i j with z | z | z
  · have := asc i j hi hj z
    rw [ei, ej] at this
    exact .inl this
  · subst z
    exact absurd (ei.symm.trans ej) c
  · have := asc j i hj hi z
    rw [ei, ej] at this
    exact .inr this
theorem emod_unit {N u : Int} {m : Nat} (hm : N = u * m) (x : Int) : x % N % u = x % u := Int.emod_emod_of_dvd x ⟨m, hm⟩
/-- two lifted begins that are alike modulo the unit are one -/
theorem lifted_inj {P u : Int} {gs : Rows} (L : Lifted P u gs) (hu : 0 < u) {g h : Int × Int} (hg : g ∈ gs) (hh : h ∈ gs) (e : (g.1 - h.1) % u = 0) : g = h := by
  obtain ⟨a1, a2, a3⟩ := L.rng g hg
  obtain ⟨b1, b2, b3⟩ := L.rng h hh
  have e1 : g.1 = h.1 := by
    by_cases c : h.1 ≤ g.1
    · rw [Int.emod_eq_of_lt (by omega) (by omega)] at e
      omega
    · rw [← Int.add_emod_right, Int.emod_eq_of_lt (by omega) (by omega)] at e
      omega
  obtain ⟨i, hi, ei⟩ := List.mem_iff_getElem.mp hg
  obtain ⟨j, hj, ej⟩ := List.mem_iff_getElem.mp hh
  have asc := L.asc
  rw [List.pairwise_iff_getElem] at asc
  rcases Nat.lt_trichotomy i j with c | c | c
  · have := asc i j hi hj c
    rw [ei, ej] at this
    omega
  · subst c
    rw [← ei, ← ej]
  · have := asc j i hj hi c
    rw [ei, ej] at this
    omega
theorem laps_inj {N u : Int} {m : Nat} (hm : N = u * m) (hu : 0 < u) {i j : Nat} (hi : i < m) (hj : j < m) {x : Int} (e : (x + i * u) % N = (x + j * u) % N) : i = j := by
  have z := Int.emod_emod_of_dvd
  have d : N ∣ ((x + i * u) - (x + j * u)) := Int.dvd_of_emod_eq_zero (by rw [Int.sub_emod, e]; simp)
  have d2 : u * m ∣ u * ((i : Int) - j) := by
    rw [← hm]
    have : u * ((i : Int) - j) = (x + i * u) - (x + j * u) := by rw [Int.mul_sub, Int.mul_comm u i, Int.mul_comm u j]; omega
    rw [this]
    exact d
  have d3 : (m : Int) ∣ ((i : Int) - j) := Int.dvd_of_mul_dvd_mul_left (by omega) d2
  obtain ⟨c, hc⟩ := d3
  rcases Int.lt_trichotomy c 0 with h | h | h
  · have : (m : Int) * c ≤ m * (-1) := Int.mul_le_mul_of_nonneg_left (by omega) (by omega)
    omega
  · subst h
    omega
  · have : (m : Int) * 1 ≤ m * c := Int.mul_le_mul_of_nonneg_left (by omega) (by omega)
    omega
theorem spread_all {N P u : Int} {m : Nat} {gs : Rows} (hm : N = u * m) (hu : 0 < u) (L : Lifted P u gs) : Spread N (allLaps N u m gs) := by
  have hN : 0 ≤ N := by rw [hm]; exact Int.mul_nonneg (by omega) (by omega)
  have key : ∀ g ∈ gs, ∀ h ∈ gs, ∀ i j : Nat, i < m → j < m → (g.1 + i * u) % N = (h.1 + j * u) % N → g = h ∧ i = j := by
    intro g hg h hh i j hi hj e
    have e2 : (g.1 - h.1) % u = 0 := by
      have e3 : (g.1 + i * u) % u = (h.1 + j * u) % u := by rw [← emod_unit hm (g.1 + i * u), ← emod_unit hm (h.1 + j * u), e]
      rw [Int.add_mul_emod_self_right, Int.add_mul_emod_self_right] at e3
      rw [Int.sub_emod, e3]
      simp
    have e4 := lifted_inj L hu hg hh e2
    subst e4
    exact ⟨rfl, laps_inj hm hu hi hj e⟩
  refine ⟨?_, ?_⟩
  · rw [List.Nodup, List.pairwise_map]
    unfold allLaps
    rw [List.pairwise_flatMap]
    refine ⟨fun g hg => ?_, L.asc.imp_of_mem fun {g h} hg hh lt x hx y hy e => ?_⟩
    · unfold lapsOf
      rw [List.pairwise_map]
      refine List.pairwise_lt_range.imp_of_mem fun {i j} hi hj lt e => ?_
      have := (key g hg g hg i j (List.mem_range.mp hi) (List.mem_range.mp hj) e).2
      omega
    · unfold lapsOf at hx hy
      obtain ⟨i, hi, rfl⟩ := List.mem_map.mp hx
      obtain ⟨j, hj, rfl⟩ := List.mem_map.mp hy
      have := (key g hg h hh i j (List.mem_range.mp hi) (List.mem_range.mp hj) e).1
      subst this
      have := (L.rng g hg).2.1
      omega
  · intro p hp q hq hne
    obtain ⟨g, hg, i, hi, rfl⟩ := mem_allLaps.mp hp
    obtain ⟨h, hh, j, hj, rfl⟩ := mem_allLaps.mp hq
    obtain ⟨a1, a2, a3⟩ := L.rng g hg
    obtain ⟨b1, b2, b3⟩ := L.rng h hh
    have hm1 : 1 ≤ m := by omega
    have hNu : u ≤ N := by
      rw [hm]
      have : u * 1 ≤ u * (m : Int) := Int.mul_le_mul_of_nonneg_left (by omega) (by omega)
      omega
    have e1 : ((g.2 + i * u) % N - (g.1 + i * u) % N) % N = g.2 - g.1 := by
      rw [← Int.sub_emod, show g.2 + i * u - (g.1 + i * u) = g.2 - g.1 by omega]
      exact Int.emod_eq_of_lt (by omega) (by omega)
    have e2 : ((h.1 + j * u) % N - (g.1 + i * u) % N) % N = (h.1 + j * u - (g.1 + i * u)) % N := by rw [← Int.sub_emod]
    rw [e1, e2]
    have dpos := Int.emod_nonneg (h.1 + j * u - (g.1 + i * u)) (show N ≠ 0 by omega)
    have dmod : (h.1 + j * u - (g.1 + i * u)) % N % u = (h.1 - g.1) % u := by
      rw [emod_unit hm, show h.1 + j * u - (g.1 + i * u) = (h.1 - g.1) + ((j : Int) - i) * u by rw [Int.sub_mul]; omega]
      exact Int.add_mul_emod_self_right ..
    have dne : (h.1 + j * u - (g.1 + i * u)) % N ≠ 0 := by
      intro z
      apply hne
      have d := Int.dvd_of_emod_eq_zero z
      exact (Int.emod_eq_emod_iff_emod_sub_eq_zero.mpr z).symm
    generalize (h.1 + j * u - (g.1 + i * u)) % N = d at *
    by_cases c : g = h
    · subst c
      rw [Int.sub_self, Int.zero_emod] at dmod
      obtain ⟨k, hk⟩ := Int.dvd_of_emod_eq_zero dmod
      have hk1 : 1 ≤ k := by
        rcases Int.lt_trichotomy k 0 with z | z | z
        · have : u * k ≤ u * (-1) := Int.mul_le_mul_of_nonneg_left (by omega) (by omega)
          omega
        · subst z
          omega
        · omega
      have : u * 1 ≤ u * k := Int.mul_le_mul_of_nonneg_left hk1 (by omega)
      omega
    · have h3 := Int.emod_add_mul_ediv d u
      have h4 : 0 ≤ d / u := Int.ediv_nonneg dpos (by omega)
      have h5 : 0 ≤ u * (d / u) := Int.mul_nonneg (by omega) h4
      have h6 : g.2 - g.1 < (h.1 - g.1) % u := by
        rcases L.before hg hh c with z | z
        · rw [Int.emod_eq_of_lt (by omega) (by omega)]
          omega
        · rw [← Int.add_emod_right, Int.emod_eq_of_lt (by omega) (by omega)]
          omega
      omega
theorem wrap_lap {N u : Int} {m : Nat} (hm : N = u * m) (j c : Nat) (hj : j < m) (hc : c < m) : ∃ k : Nat, k < m ∧ ∀ x : Int, ((x + j * u) % N + c * u) % N = (x + k * u) % N := by
  have e : ∀ x : Int, ((x + j * u) % N + c * u) % N = (x + (j + c : Int) * u) % N := fun x => by
    rw [Int.emod_add_emod, Int.add_mul]
    congr 1
    omega
  by_cases h : j + c < m
  · refine ⟨j + c, h, fun x => ?_⟩
    rw [e x]
    norm_cast
  · refine ⟨j + c - m, by omega, fun x => ?_⟩
    rw [e x]
    have e2 : x + (j + c : Int) * u = (x + ((j + c - m : Nat) : Int) * u) + N := by
      have e3 : ((j + c - m : Nat) : Int) = (j + c : Int) - m := by omega
      rw [e3, hm, Int.sub_mul, Int.mul_comm u m]
      omega
    rw [e2, Int.add_emod_right]
theorem nodup_of_fst {l : Rows} (h : (l.map (·.1)).Nodup) : l.Nodup := (List.pairwise_map.mp h).imp fun {a b} z e => z (by rw [e])
/-- drawn rows are the same when they are turned by a multiple of their unit -/
theorem turn_unit {N P u : Int} {m : Nat} {gs : Rows} (hm : N = u * m) (hu : 0 < u) (hm1 : 0 < m) (L : Lifted P u gs) (c : Nat) (hc : c < m) : turnR N (c * u) (srt (allLaps N u m gs)) = srt (allLaps N u m gs) := by
  have hN : 0 < N := by rw [hm]; exact Int.mul_pos hu (by omega)
  have S := spread_all hm hu L
  have rng : ∀ p ∈ allLaps N u m gs, 0 ≤ p.1 ∧ p.1 < N ∧ 0 ≤ p.2 ∧ p.2 < N := fun p hp => by
    obtain ⟨g, hg, j, hj, rfl⟩ := mem_allLaps.mp hp
    exact ⟨Int.emod_nonneg _ (by omega), Int.emod_lt_of_pos _ hN, Int.emod_nonneg _ (by omega), Int.emod_lt_of_pos _ hN⟩
  have maps : ∀ c : Nat, c < m → ∀ p ∈ allLaps N u m gs, ((p.1 + c * u) % N, (p.2 + c * u) % N) ∈ allLaps N u m gs := fun c hc p hp => by
    obtain ⟨g, hg, j, hj, rfl⟩ := mem_allLaps.mp hp
    obtain ⟨k, hk, e⟩ := wrap_lap hm j c hj hc
    refine mem_allLaps.mpr ⟨g, hg, k, hk, ?_⟩
    rw [e g.1, e g.2]
  have nd := nodup_of_fst S.nd
  have inj : ∀ p ∈ allLaps N u m gs, ∀ q ∈ allLaps N u m gs, (p.1 + c * u) % N = (q.1 + c * u) % N → p = q := fun p hp q hq e => by
    have e1 : (p.1 - q.1) % N = 0 := by
      have := Int.emod_eq_emod_iff_emod_sub_eq_zero.mp e
      rw [show p.1 + c * u - (q.1 + c * u) = p.1 - q.1 by omega] at this
      exact this
    obtain ⟨a1, a2, _⟩ := rng p hp
    obtain ⟨b1, b2, _⟩ := rng q hq
    have e2 : p.1 = q.1 := by
      by_cases z : q.1 ≤ p.1
      · rw [Int.emod_eq_of_lt (by omega) (by omega)] at e1
        omega
      · rw [← Int.add_emod_right, Int.emod_eq_of_lt (by omega) (by omega)] at e1
        omega
    obtain ⟨i, hi, ei⟩ := List.mem_iff_getElem.mp hp
    obtain ⟨j, hj, ej⟩ := List.mem_iff_getElem.mp hq
    have nd1 := List.pairwise_map.mp S.nd
    rw [List.pairwise_iff_getElem] at nd1
    rcases Nat.lt_trichotomy i j with z | z | z
    · exact absurd (by rw [ei, ej]; exact e2) (nd1 i j hi hj z)
    · subst z
      exact ei.symm.trans ej
    · exact absurd (by rw [ei, ej]; exact e2.symm) (nd1 j i hj hi z)
  have pm : ((srt (allLaps N u m gs)).map fun p => ((p.1 + c * u) % N, (p.2 + c * u) % N)).Perm (allLaps N u m gs) := by
    refine ((srt_perm _).map _).trans ?_
    refine (List.perm_ext_iff_of_nodup ?_ nd).mpr fun p => ⟨fun hp => ?_, fun hp => ?_⟩
    · rw [List.Nodup, List.pairwise_map]
      refine nd.imp_of_mem fun {a b} ha hb ne e => ne (inj a ha b hb ?_)
      exact (Prod.mk.inj e).1
    · obtain ⟨q, hq, rfl⟩ := List.mem_map.mp hp
      exact maps c hc q hq
    · by_cases z : c = 0
      · refine List.mem_map.mpr ⟨p, hp, ?_⟩
        obtain ⟨a1, a2, a3, a4⟩ := rng p hp
        subst z
        simp only [Int.natCast_zero, Int.zero_mul, Int.add_zero]
        rw [Int.emod_eq_of_lt a1 a2, Int.emod_eq_of_lt a3 a4]
      · refine List.mem_map.mpr ⟨_, maps (m - c) (by omega) p hp, ?_⟩
        obtain ⟨a1, a2, a3, a4⟩ := rng p hp
        have e : ∀ x : Int, 0 ≤ x → x < N → ((x + (m - c : Nat) * u) % N + c * u) % N = x := fun x h1 h2 => by
          rw [Int.emod_add_emod]
          have e3 : ((m - c : Nat) : Int) = (m : Int) - c := by omega
          have e4 : x + ((m - c : Nat) : Int) * u + c * u = x + N := by
            rw [e3, hm, Int.sub_mul, Int.mul_comm u m]
            omega
          rw [e4, Int.add_emod_right, Int.emod_eq_of_lt h1 h2]
        dsimp only
        rw [e _ a1 a2, e _ a3 a4]
  unfold turnR
  exact srt_uniq ((srt_perm _).trans pm) (srt_sorted _)

section
variable {P : Program} {w : World} {K : Fr1} {mg : Str → Option Value} {base : Heap}
def sp_law_stateC (K : Fr1) : Sp := fun vs H Q _ => ∃ (a : Addr) (ns : List Int), vs = [.ref a] ∧ SqL K H a (ns.map V.int) ∧
  ∀ L s, H L = none → (upd H L (.lst (ns.map V.int))) s = none → Q (.ref s) (upd (upd H L (.lst (ns.map V.int))) s (.lst (drL L 0 0 0 0 0)))
theorem ok_law_stateC (T : Txt K mg) : FnOk P w K mg base (L2.CX P w) 1 (a_law_state K) (d_law_state K) P_law_state (sp_law_stateC K) := by
  refine T.F_law_state.ok sc_law_state (fun vs H Q E h => ?_) (fun cdv A outer s H vs Q E hr h => ?_)
  · obtain ⟨_, _, rfl, _⟩ := h
    rfl
  · obtain ⟨a, ns, rfl, hS, k⟩ := h
    refine ⟨_, (pss_one (ps_ret (pe_lst (pa_cons (pe_callTy call_list_of (by rfl) T.n_list (by decide +kernel) (pa_cons (pv 0) pa_nil)) (pa_cons pe_int (pa_cons pe_int (pa_cons pe_int (pa_cons pe_int (pa_cons pe_int pa_nil))))))))), ?_⟩
    rw [show L2.start N_law_state [V.ref a] = [some (V.ref a)] from rfl]
    try dsimp only [cxOf]
    walk_at "js"
    intro L hL
    walk_at "js"
    exact ⟨by show 6 ≤ sizeLine; decide, fun s hs => k L s hL hs⟩
def sp_law_state (K : Fr1) : Sp := fun vs H Q _ => ∃ (a : Addr) (ns : List Int), vs = [.ref a] ∧ SqL K H a (ns.map V.int) ∧
  ∀ L s H', Ex H H' → H' s = some (StO s L) → H' L = some (.lst (ns.map V.int)) → Q (.ref s) H'
theorem ok_law_state (T : Txt K mg) : FnOk P w K mg base (L2.CX P w) 1 (a_law_state K) (d_law_state K) P_law_state (sp_law_state K) := by
  refine ⟨fun vs H Q E h => ?_, fun A outer s H args us vs Q E hr he hb hv h => ?_⟩
  · obtain ⟨_, _, rfl, _⟩ := h
    rfl
  · obtain ⟨a, ns, rfl, hS, k⟩ := h
    refine codeAny_mono ((ok_law_stateC (base := base) (P := P) (w := w) T).run A outer s H args us _ (fun v H2 => ∃ L q, H L = none ∧ (upd H L (.lst (ns.map V.int))) q = none ∧ v = .ref q ∧ H2 = upd (upd H L (.lst (ns.map V.int))) q (.lst (drL L 0 0 0 0 0))) (fun _ _ _ => False) hr he hb hv
      ⟨a, ns, rfl, hS, fun L q h1 h2 => ⟨L, q, h1, h2, rfl, rfl⟩⟩) fun r s' hq => ?_
    cases r with
    | error x =>
      obtain ⟨_, _, _, _, _, _, _, _, _, _, _, _, z⟩ := hq
      exact z.elim
    | ok f =>
      cases f with
      | next => exact hq.elim
      | brk => exact hq.elim
      | cont => exact hq.elim
      | ret u =>
        obtain ⟨v, H2, os, bare, un, hok, rv, L, q, h1, h2, rfl, rfl⟩ := hq
        have cl := st_close (s := q) (L := L) hok upd_same (Int.le_refl 0)
        rw [upd_upd] at cl
        have x1 : Ex H (upd H L (.lst (ns.map V.int))) := Ex.new h1
        have x2 : Ex H (upd (upd H L (.lst (ns.map V.int))) q (StO q L)) := Ex.trans x1 (Ex.new h2)
        have nq : ∀ {y : Addr} {o : Obj}, s.heap.get? y = some o → H y = none → y ≠ q := fun {y o} g n z => by
          have := un.free y o g n (by simp)
          rw [z, upd_same] at this
          cases this
        have q1 : ∀ y, y ≠ q → upd (upd H L (.lst (ns.map V.int))) q (.lst (drL L 0 0 0 0 0)) y = upd (upd H L (.lst (ns.map V.int))) q (StO q L) y := fun y hy => by rw [upd_ne hy, upd_ne hy]
        refine ⟨.ref q, _, os, bare, ⟨un.keep, un.slot, fun y o g n f => by rw [← q1 y (nq g n)]; exact un.free y o g n f, un.there, fun y xs g => x2 y _ g, fun y o z g => x2 y _ g, fun y ps g => ⟨#[], by rw [x2 y _ g]; simp⟩⟩, cl, rv, k L q _ x2 upd_same ?_⟩
        rw [upd_ne (ne_of_none upd_same h2), upd_same]

def sp_law_drawC : Sp := fun vs H Q _ => ∃ (s L : Addr) (ns : List Int) (a b c d e m : Int), vs = [.ref s, .int m] ∧ H s = some (.lst (drL L a b c d e)) ∧ H L = some (.lst (ns.map V.int)) ∧ L ≠ s ∧ 0 ≤ a ∧ 0 < m ∧ m ≤ 100000000000000000000 ∧
  ∀ r a' b' c' d' e', 0 ≤ r → r < m → 0 ≤ a' → Q (.int r) (upd H s (.lst (drL L a' b' c' d' e')))
theorem ok_law_drawC (T : Txt K mg) : FnOk P w K mg base (L2.CX P w) 1 (a_law_draw K) (d_law_draw K) P_law_draw sp_law_drawC := by
  refine T.F_law_draw.ok sc_law_draw (fun vs H Q E h => ?_) (fun cdv A outer s H vs Q E hr h => ?_)
  · obtain ⟨_, _, _, _, _, _, _, _, _, rfl, _⟩ := h
    rfl
  · obtain ⟨s, L, ns, a, b, c, d, e, m, rfl, hs, hL, hne, ha, hm, hm2, k⟩ := h
    refine ⟨_, (Evl.pss_cut (ps_if (PW.pt (pw_and (pt_cmpR op_gt (pe_ix ix_list (pv 0) pe_int (fun _ _ => rfl)) pe_int (nomark _)) (pw_and1 (pt_cmpR op_lt (pe_ix ix_list (pv 0) pe_int (fun _ _ => rfl)) pe_int (nomark _))))) (pss_cons (ps_set (i := 2) sc_law_draw.nd rfl (.inl rfl) (pe_op op_modN (pe_callTy call_int1 (by rfl) T.n_int (by decide +kernel) (pa_cons (pe_ix ix_list (pv 0) pe_int (fun _ _ => rfl)) pa_nil)) (pv 1)))
    (pss_cons (ps_asg (pe_op op_fdivW (pe_ix ix_list (pv 0) pe_int (fun _ _ => rfl)) (pv 1)) (pg_sub (pv 0) pe_int set_list))
    (pss_cons (ps_asg (pe_op op_add (pe_ix ix_list (pv 0) pe_int (fun _ _ => rfl)) pe_int) (pg_sub (pv 0) pe_int set_list))
    (pss_one (ps_ret (pv 2)))))) pss_nil)
    (pss_cons (ps_asg (pe_op op_add (pe_ix ix_list (pv 0) pe_int (fun _ _ => rfl)) pe_int) (pg_sub (pv 0) pe_int set_list))
    (Evl.pss_cut (ps_if (pt_cmpR op_lt (pe_ix ix_list (pv 0) pe_int (fun _ _ => rfl)) (pe_callB call_len_seq (by rfl) T.n_len (by decide +kernel) (pa_cons (pe_ix ix_list (pv 0) pe_int (fun _ _ => rfl)) pa_nil)) (nomark _)) (pss_cons (ps_set (i := 3) sc_law_draw.nd rfl (.inl rfl) (pe_ix ix_list (pe_ix ix_list (pv 0) pe_int (fun _ _ => rfl)) (pe_ix ix_list (pv 0) pe_int (fun _ _ => rfl)) (fun _ _ => rfl)))
    (pss_cons (ps_asg (pe_op op_add (pe_ix ix_list (pv 0) pe_int (fun _ _ => rfl)) pe_int) (pg_sub (pv 0) pe_int set_list))
    (pss_cons (ps_asg (pe_op op_modN (pe_op op_add (pe_op op_mul (pe_ix ix_list (pv 0) pe_int (fun _ _ => rfl)) pe_int) (pe_callTy call_int1 (by rfl) T.n_int (by decide +kernel) (pa_cons (pv 3) pa_nil))) (pe_op op_pow pe_int pe_int)) (pg_sub (pv 0) pe_int set_list))
    (pss_one (ps_if (pt_cmpR op_ge (pv 3) (pe_op op_pow pe_int pe_int) (nomark _)) (pss_cons (ps_asg (pe_op op_fdivW (pv 3) (pv 1)) (pg_sub (pv 0) pe_int set_list))
    (pss_cons (ps_asg pe_int (pg_sub (pv 0) pe_int set_list))
    (pss_one (ps_ret (pe_op op_modN (pe_callTy call_int1 (by rfl) T.n_int (by decide +kernel) (pa_cons (pv 3) pa_nil)) (pv 1)))))) pss_nil))))) pss_nil)
    (pss_cons (ps_set (i := 4) sc_law_draw.nd rfl (.inl rfl) (pe_op op_modN (pe_op op_mul (pe_op op_add (pe_op op_add (pe_op op_mul (pe_callTy call_int1 (by rfl) T.n_int (by decide +kernel) (pa_cons (pe_ix ix_list (pv 0) pe_int (fun _ _ => rfl)) pa_nil)) pe_int) (pe_op op_mul pe_int (pe_ix ix_list (pv 0) pe_int (fun _ _ => rfl)))) pe_int) pe_int) pe_int))
    (pss_cons (ps_set (i := 4) sc_law_draw.nd rfl (.inl rfl) (pe_op op_modN (pe_op op_mul (pv 4) (pe_op op_add (pe_op op_fdivN (pv 4) pe_int) pe_int)) pe_int))
    (pss_cons (ps_set (i := 4) sc_law_draw.nd rfl (.inl rfl) (pe_op op_modN (pe_op op_mul (pv 4) (pe_op op_add (pe_op op_fdivN (pv 4) pe_int) pe_int)) pe_int))
    (pss_one (ps_ret (pe_op op_modN (pv 4) (pv 1)))))))))), ?_⟩
    rw [show L2.start N_law_draw [V.ref s, V.int m] = [some (V.ref s), some (V.int m), none, none, none] from rfl]
    try dsimp only [cxOf]
    have m0 : m ≠ 0 := by omega
    have last : ∀ (z a' b' c' d' e' : Int), 0 ≤ a' → Q (.int (z.fmod m)) (upd H s (.lst (drL L a' b' c' d' e'))) := fun z a' b' c' d' e' h1 =>
      k _ _ _ _ _ _ (fmod_in hm).1 (fmod_in hm).2 h1
    have e0 : upd H s (.lst (drL L a b c d e)) = H := by
      funext q
      by_cases hq : q = s
      · rw [hq, upd_same, hs]
      · rw [upd_ne hq]
    refine Evl.q_cut (M := fun σ' H' => σ' = [some (V.ref s), some (V.int m), none, none, none] ∧ H' = H) ?_ ?_
    · walk_at "js"
      refine w_if (fun c1 => ?_) (fun c1 => ?_)
      · walk_at "js"
        refine w_if (fun c2 => ?_) (fun c2 => ?_)
        · walk_at "js"
          exact last _ _ _ _ _ _ ha
        · walk_at "js"
          exact ⟨rfl, rfl⟩
      · walk_at "js"
        exact ⟨rfl, rfl⟩
    · rintro _ H ⟨rfl, rfl⟩
      walk_at "js"
      refine Evl.q_cut (M := fun σ' H' => ∃ a' b' c' d' e' v, 0 ≤ a' ∧ σ' = [some (V.ref s), some (V.int m), none, v, none] ∧ H' = upd H s (.lst (drL L a' b' c' d' e'))) ?_ ?_
      · walk_at "js"
        refine w_if (fun c1 => ?_) (fun c1 => ?_)
        · walk_at "js"
          have c3 : a < (ns.length : Int) := by simpa using c1
          obtain ⟨z, hz⟩ := atI_int ha c3
          refine w_ixL (SqL.of (by rw [upd_ne hne]; exact hL)) hz ?_
          walk_at "js"
          refine w_if (fun c4 => ?_) (fun c4 => ?_)
          · walk_at "js"
            exact last _ _ _ _ _ _ (by omega)
          · walk_at "js"
            exact ⟨_, _, _, _, _, _, by omega, rfl, rfl⟩
        · walk_at "js"
          exact ⟨_, _, _, _, _, _, ha, rfl, rfl⟩
      · rintro _ _ ⟨a', b', c', d', e', v, h1, rfl, rfl⟩
        walk_at "js"
        have r1 := fmod_in (a := (e' * 1000003 + 7919 * d' + 1) * 48271) (b := 2147483647) (by decide)
        generalize ((e' * 1000003 + 7919 * d' + 1) * 48271).fmod 2147483647 = z at *
        walk_at "js"
        have r2 := fmod_in (a := z * (z.fdiv 1009 + 69621)) (b := 2147483647) (by decide)
        generalize (z * (z.fdiv 1009 + 69621)).fmod 2147483647 = z2 at *
        walk_at "js"
        exact last _ _ _ _ _ _ h1

def sp_law_draw : Sp := fun vs H Q _ => ∃ (s L : Addr) (ns : List Int) (m : Int), vs = [.ref s, .int m] ∧ H s = some (StO s L) ∧ H L = some (.lst (ns.map V.int)) ∧ 0 < m ∧ m ≤ 100000000000000000000 ∧
  ∀ r, 0 ≤ r → r < m → Q (.int r) H
theorem ok_law_draw (T : Txt K mg) : FnOk P w K mg base (L2.CX P w) 1 (a_law_draw K) (d_law_draw K) P_law_draw sp_law_draw := by
  refine ⟨fun vs H Q E h => ?_, fun A outer s H args us vs Q E hr he hb hv h => ?_⟩
  · obtain ⟨_, _, _, _, rfl, _⟩ := h
    rfl
  · obtain ⟨q, L, ns, m, rfl, hs, hL, hm, hm2, k⟩ := h
    obtain ⟨a, b, c, d, e, h0, ok1⟩ := st_open he.hok hs
    have hne : L ≠ q := ne_of hL hs (by intro z; cases z)
    have nq : ∀ {y : Addr}, H y = none → y ≠ q := fun {y} z y' => by rw [y', hs] at z; cases z
    have he1 : Env0 P w K mg base A outer s (upd H q (.lst (drL L a b c d e))) :=
      ⟨he.frames, he.mod, fun y o z => ⟨(he.bs y o z).1, by rw [upd_ne (nq (he.bs y o z).2)]; exact (he.bs y o z).2⟩, he.bsz, he.funs, fun y hy => by rw [upd_ne (nq (he.frf y hy))]; exact he.frf y hy, ok1, he.bare⟩
    refine codeAny_mono ((ok_law_drawC (base := base) (P := P) (w := w) T).run A outer s _ args us _ (fun v H2 => ∃ r a' b' c' d' e', v = .int r ∧ 0 ≤ r ∧ r < m ∧ 0 ≤ a' ∧ H2 = upd H q (.lst (drL L a' b' c' d' e'))) (fun _ _ _ => False) hr he1 hb hv
      ⟨q, L, ns, a, b, c, d, e, m, rfl, upd_same, by rw [upd_ne hne]; exact hL, hne, h0, hm, hm2, fun r a' b' c' d' e' z1 z2 z3 => ⟨r, a', b', c', d', e', rfl, z1, z2, z3, by rw [upd_upd]⟩⟩) fun r s' hq => ?_
    cases r with
    | error x =>
      obtain ⟨_, _, _, _, _, _, _, _, _, _, _, _, z⟩ := hq
      exact z.elim
    | ok f =>
      cases f with
      | next => exact hq.elim
      | brk => exact hq.elim
      | cont => exact hq.elim
      | ret u =>
        obtain ⟨v, H2, os, bare, un, hok, rv, r, a', b', c', d', e', rfl, z1, z2, z3, rfl⟩ := hq
        have cl := st_close (s := q) (L := L) hok upd_same z3
        rw [upd_upd] at cl
        have eH : upd H q (StO q L) = H := by
          funext y
          by_cases hy : y = q
          · rw [hy, upd_same, hs]
          · rw [upd_ne hy]
        rw [eH] at cl
        refine ⟨.int r, H, os, bare, ⟨fun y o g n f1 f2 => un.keep y o g (by rw [upd_ne (nq n)]; exact n) f1 f2, fun y o g n f1 f2 => un.slot y o g (by rw [upd_ne (nq n)]; exact n) f1 f2,
          fun y o g n f => n, un.there, fun y xs g => g, fun y o z g => g, fun y ps g => ⟨#[], by rw [g]; simp⟩⟩, cl, rv, k r z1 z2⟩

def sp_law_large : Sp := fun vs H Q _ => ∃ (s L : Addr) (ns : List Int) (n : Int), vs = [.ref s, .int n] ∧ H s = some (StO s L) ∧ H L = some (.lst (ns.map V.int)) ∧ 0 < n ∧ n ≤ 1000 ∧
  ∀ r : Int, r.natAbs < 2 ^ 110 → Q (.int r) H
theorem ok_law_large (T : Txt K mg) : FnOk P w K mg base (L2.CX P w) 3 (a_law_large K) (d_law_large K) P_law_large sp_law_large := by
  refine T.F_law_large.ok sc_law_large (fun vs H Q E h => ?_) (fun cdv A outer s H vs Q E hr h => ?_)
  · obtain ⟨_, _, _, _, rfl, _⟩ := h
    rfl
  · obtain ⟨s, L, ns, n, rfl, hs, hL, hn, hn2, k⟩ := h
    refine ⟨_, (pss_cons (ps_set (i := 2) sc_law_large.nd rfl (.inl rfl) (pe_call (ok_law_draw T) (hr.mono (by decide)) (by rfl) T.m__law_draw T.F_law_draw.kp (b_law_draw T) .nil passL (pa_cons (pv 0) (pa_cons (pe_op op_mul pe_int (pv 1)) pa_nil))))
    (Evl.pss_cut (ps_if (pt_cmpR op_eq (pe_call (ok_law_draw T) (hr.mono (by decide)) (by rfl) T.m__law_draw T.F_law_draw.kp (b_law_draw T) .nil passL (pa_cons (pv 0) (pa_cons pe_int pa_nil))) pe_int (nomark _)) (pss_one (ps_set (i := 2) sc_law_large.nd rfl (.inl rfl) (pe_op op_add (pe_op op_add (pv 2) (pe_op op_mul (pe_call (ok_law_draw T) (hr.mono (by decide)) (by rfl) T.m__law_draw T.F_law_draw.kp (b_law_draw T) .nil passL (pa_cons (pv 0) (pa_cons (pe_op op_pow pe_int pe_int) pa_nil))) (pe_op op_pow pe_int pe_int))) (pe_call (ok_law_draw T) (hr.mono (by decide)) (by rfl) T.m__law_draw T.F_law_draw.kp (b_law_draw T) .nil passL (pa_cons (pv 0) (pa_cons (pe_op op_pow pe_int pe_int) pa_nil)))))) pss_nil)
    (pss_cons (ps_if (pt_cmpR op_eq (pe_call (ok_law_draw T) (hr.mono (by decide)) (by rfl) T.m__law_draw T.F_law_draw.kp (b_law_draw T) .nil passL (pa_cons (pv 0) (pa_cons pe_int pa_nil))) pe_int (nomark _)) (pss_one (ps_ret (pe_un un_neg (pv 2)))) pss_nil)
    (pss_one (ps_ret (pv 2)))))), ?_⟩
    rw [show L2.start N_law_large [V.ref s, V.int n] = [some (V.ref s), some (V.int n), none] from rfl]
    try dsimp only [cxOf]
    walk_at "js"
    refine ⟨s, L, ns, _, rfl, hs, hL, by omega, by omega, fun r h0 h1 => ?_⟩
    walk_at "js"
    refine Evl.q_cut (M := fun σ' H' => ∃ r : Int, 0 ≤ r ∧ r < 2 ^ 109 ∧ σ' = [some (V.ref s), some (V.int n), some (V.int r)] ∧ H' = H) ?_ ?_
    · walk_at "js"
      refine ⟨s, L, ns, _, rfl, hs, hL, by omega, by omega, fun r2 h2 h3 => ?_⟩
      walk_at "js"
      refine w_if (fun c => ?_) (fun c => ?_)
      · walk_at "js"
        refine ⟨s, L, ns, _, rfl, hs, hL, by omega, by omega, fun r4 h4 h5 => ?_⟩
        walk_at "js"
        refine ⟨s, L, ns, _, rfl, hs, hL, by omega, by omega, fun r6 h6 h7 => ?_⟩
        walk_at "js"
        refine ⟨_, ?_, ?_, rfl, rfl⟩
        · simp at *
          omega
        · simp at *
          omega
      · walk_at "js"
        refine ⟨_, h0, by omega, rfl, rfl⟩
    · rintro _ _ ⟨r, h0, h1, rfl, rfl⟩
      walk_at "js"
      refine ⟨s, L, ns, _, rfl, hs, hL, by omega, by omega, fun r2 h2 h3 => ?_⟩
      walk_at "js"
      refine w_if (fun c => ?_) (fun c => ?_)
      · walk_at "js"
        exact k _ (by omega)
      · walk_at "js"
        exact k _ (by omega)

/-- a row of at most 13 items, or no row -/
def lenLe (d : PyData) : Prop := ∀ l, rowsOf d = some l → l.length ≤ 13
theorem lenLe_l {ds : List PyData} (h : ds.length ≤ 13) : lenLe (.list ds) := fun l e => by cases e; exact h
theorem lenLe_t {ds : List PyData} (h : ds.length ≤ 13) : lenLe (.tuple ds) := fun l e => by cases e; exact h
theorem lenLe_o {d : PyData} (h : rowsOf d = none) : lenLe d := fun l e => by rw [h] at e; cases e
/-- of the texts, three -/
def fewW (d : PyData) : Prop := ∀ z, d = .str z → z = ("" : Str) ∨ z = ("push" : Str) ∨ z = ("12" : Str)
def Odd (K : Fr1) (H : Hp) (v : V) : Prop := SameV K H v ∧ ∃ d, Dq K H v d ∧ isI d = false ∧ lenLe d ∧ fewW d
theorem SameV.mono {K : Fr1} {H H' : Hp} {v : V} (e : Ex H H') : SameV K H v → SameV K H' v
  | .inl h => .inl h
  | .inr (.inl ⟨a, xs, h1, h2⟩) => .inr (.inl ⟨a, xs, h1, h2.imp (fun h => e _ _ h) (fun h => e _ _ h)⟩)
  | .inr (.inr ⟨a, kvs, h1, h2, h3⟩) => .inr (.inr ⟨a, kvs, h1, e _ _ h2, h3⟩)
theorem Odd.mono {K : Fr1} {H H' : Hp} {v : V} (e : Ex H H') : Odd K H v → Odd K H' v
  | ⟨h1, d, h2, h3, h4⟩ => ⟨h1.mono e, d, h2.mono e, h3, h4⟩
theorem odd_l {K : Fr1} {H : Hp} {a : Addr} {xs : List V} {ds : List PyData} (h : H a = some (.lst xs)) (hd : DqAll K H xs ds) (hl : ds.length ≤ 13 := by decide) : Odd K H (.ref a) := ⟨.inr (.inl ⟨a, xs, rfl, .inl h⟩), _, .lst h hd, rfl, lenLe_l hl, fun z e => by cases e⟩
theorem odd_t {K : Fr1} {H : Hp} {a : Addr} {xs : List V} {ds : List PyData} (h : H a = some (.tup xs)) (hd : DqAll K H xs ds) (hl : ds.length ≤ 13 := by decide) : Odd K H (.ref a) := ⟨.inr (.inl ⟨a, xs, rfl, .inr h⟩), _, .tup h hd, rfl, lenLe_t hl, fun z e => by cases e⟩
theorem odd_d {K : Fr1} {H : Hp} {a : Addr} {kvs : List (Key × V)} (h : H a = some (.dK kvs)) (hl : kvs.length ≤ 1) : Odd K H (.ref a) := ⟨.inr (.inr ⟨a, kvs, rfl, h, hl⟩), _, .dct (ds := []) h, rfl, lenLe_o rfl, fun z e => by cases e⟩
def sp_law_strange (K : Fr1) : Sp := fun vs H Q _ => ∃ (s L : Addr) (ns : List Int), vs = [.ref s] ∧ H s = some (StO s L) ∧ H L = some (.lst (ns.map V.int)) ∧ ∀ v H', Ex H H' → Odd K H' v → Q v H'
/-- the objects of H' that are new since H -/
def newOf (H H' : Hp) : Hp := fun b => if H b = none then H' b else none
theorem newOf_at {H H' : Hp} {p : Addr} {o : HO} (h0 : H p = none) (h : H' p = some o) : newOf H H' p = some o := by
  unfold newOf
  rw [if_pos h0, h]
theorem newOf_sub {H H' : Hp} : Ex (newOf H H') H' := fun b o h => by
  unfold newOf at h
  split at h
  · exact h
  · cases h
theorem newOf_old {H H' : Hp} {b : Addr} {o : HO} (h : newOf H H' b = some o) : H b = none := by
  unfold newOf at h
  split at h
  · assumption
  · cases h
theorem newOf_ex {H H1 H2 : Hp} (e : Ex H1 H2) : Ex (newOf H H1) (newOf H H2) := fun b o h => newOf_at (newOf_old h) (e b o (newOf_sub b o h))
/-- what is strange is new -/
def sp_law_strangeN (K : Fr1) : Sp := fun vs H Q _ => ∃ (s L : Addr) (ns : List Int), vs = [.ref s] ∧ H s = some (StO s L) ∧ H L = some (.lst (ns.map V.int)) ∧ ∀ v H', Ex H H' → Odd K (newOf H H') v → Q v H'
theorem ok_law_strangeN (T : Txt K mg) : FnOk P w K mg base (L2.CX P w) 3 (a_law_strange K) (d_law_strange K) P_law_strange (sp_law_strangeN K) := by
  refine T.F_law_strange.ok sc_law_strange (fun vs H Q E h => ?_) (fun cdv A outer s H vs Q E hr h => ?_)
  · obtain ⟨_, _, _, rfl, _⟩ := h
    rfl
  · obtain ⟨s, L, ns, rfl, hs, hL, k⟩ := h
    refine ⟨_, (pss_cons (ps_set (i := 1) sc_law_strange.nd rfl (.inl rfl) (pe_ix ix_list (pe_lst (pa_cons (pe_lst pa_nil) (pa_cons (pe_tup pa_nil) (pa_cons pe_dnewK pa_nil)))) (pe_call (ok_law_draw T) (hr.mono (by decide)) (by rfl) T.m__law_draw T.F_law_draw.kp (b_law_draw T) .nil passL (pa_cons (pv 0) (pa_cons pe_int pa_nil))) (fun _ _ => rfl)))
    (pss_cons (ps_for (passes_of rfl) rfl (pi_range1 (by rfl) T.n_range (pa_cons pe_int pa_nil)) (pg_name (i := 2) sc_law_strange.nd rfl (.inl rfl)) (pss_one (ps_if (pt_val (pe_callB call_isi (by rfl) T.n_isinstance (by decide +kernel) (pa_cons (pv 1) (pa_cons (pe_bltn (v := .ty "list") (by rfl) T.n_list (by decide +kernel) rfl) pa_nil)))) (pss_one (ps_set (i := 1) sc_law_strange.nd rfl (.inl rfl) (pe_lst (pa_cons (pv 1) pa_nil)))) (pss_one (ps_if (pt_val (pe_callB call_isi (by rfl) T.n_isinstance (by decide +kernel) (pa_cons (pv 1) (pa_cons (pe_bltn (v := .ty "tuple") (by rfl) T.n_tuple (by decide +kernel) rfl) pa_nil)))) (pss_one (ps_set (i := 1) sc_law_strange.nd rfl (.inl rfl) (pe_tup (pa_cons (pv 1) pa_nil)))) (pss_one (ps_set (i := 1) sc_law_strange.nd rfl (.inl rfl) (pe_disp (pps_cons pe_str (pv 1) pps_nil) rfl rfl (by decide) (by decide)))))))))
    (pss_cons (ps_set (i := 3) sc_law_strange.nd rfl (.inl rfl) (pe_lst (pa_cons pe_non (pa_cons pe_bl (pa_cons pe_bl (pa_cons pe_str (pa_cons pe_str (pa_cons pe_str (pa_cons (pe_lst pa_nil) (pa_cons (pe_lst (pa_cons pe_int pa_nil)) (pa_cons (pe_tup pa_nil) (pa_cons (pe_tup (pa_cons pe_int (pa_cons pe_int pa_nil))) (pa_cons pe_dnewK (pa_cons (pe_disp (pps_cons pe_str (pe_lst pa_nil) pps_nil) rfl rfl (by decide) (by decide)) (pa_cons (pe_lst (pa_cons (pe_lst (pa_cons (pe_tup (pa_cons pe_int (pa_cons pe_non pa_nil))) pa_nil)) pa_nil)) (pa_cons (pv 1) pa_nil))))))))))))))))
    (pss_one (ps_ret (pe_ix ix_list (pv 3) (pe_call (ok_law_draw T) (hr.mono (by decide)) (by rfl) T.m__law_draw T.F_law_draw.kp (b_law_draw T) .nil passL (pa_cons (pv 0) (pa_cons (pe_callB call_len_seq (by rfl) T.n_len (by decide +kernel) (pa_cons (pv 3) pa_nil)) pa_nil))) (fun _ _ => rfl))))))), ?_⟩
    rw [show L2.start N_law_strange [.ref s] = [some (.ref s), none, none, none] from rfl]
    try dsimp only [cxOf]
    walk_at "js"
    refine ⟨by decide, fun p1 hp1 => ?_⟩
    generalize g1 : upd H p1 _ = H1
    obtain ⟨e1, h1⟩ := gen_new hp1 g1
    walk_at "js"
    refine ⟨by decide, fun p2 hp2 => ?_⟩
    generalize g2 : upd H1 p2 _ = H2
    obtain ⟨e2, h2⟩ := gen_new hp2 g2
    walk_at "js"
    intro p3 hp3
    generalize g3 : upd H2 p3 _ = H3
    obtain ⟨e3, h3⟩ := gen_new hp3 g3
    walk_at "js"
    refine ⟨(by show 3 ≤ sizeLine; decide), fun p4 hp4 => ?_⟩
    generalize g4 : upd H3 p4 _ = H4
    obtain ⟨e4, h4⟩ := gen_new hp4 g4
    walk_at "js"
    have x4 : Ex H H4 := e1.trans (e2.trans (e3.trans e4))
    refine ⟨s, L, ns, 3, rfl, x4.get hs, x4.get hL, by omega, by omega, fun q q0 q1 => ?_⟩
    have hel : ∃ v, atI [V.ref p1, .ref p2, .ref p3] q = some v ∧ ∃ d, Dq K (newOf H H4) v d ∧ (tyn d = "list" ∨ tyn d = "tuple" ∨ tyn d = "dict") ∧ isI d = false ∧ SameV K (newOf H H4) v ∧ lenLe d := by
      rcases (show q = 0 ∨ q = 1 ∨ q = 2 by omega) with rfl | rfl | rfl
      · exact ⟨.ref p1, rfl, .list [], .lst (newOf_at hp1 ((e2.trans (e3.trans e4)).get h1)) .nil, .inl rfl, rfl, .inr (.inl ⟨p1, [], rfl, .inl (newOf_at hp1 ((e2.trans (e3.trans e4)).get h1))⟩), lenLe_l (by decide)⟩
      · exact ⟨.ref p2, rfl, .tuple [], .tup (newOf_at (e1.free hp2) ((e3.trans e4).get h2)) .nil, .inr (.inl rfl), rfl, .inr (.inl ⟨p2, [], rfl, .inr (newOf_at (e1.free hp2) ((e3.trans e4).get h2))⟩), lenLe_t (by decide)⟩
      · exact ⟨.ref p3, rfl, .dict [], .dct (newOf_at ((e1.trans e2).free hp3) (e4.get h3)), .inr (.inr rfl), rfl, .inr (.inr ⟨p3, [], rfl, newOf_at ((e1.trans e2).free hp3) (e4.get h3), by decide⟩), lenLe_o rfl⟩
    obtain ⟨v0, hv0, d0, hd0, ht0, hi0, hs0, hl0⟩ := hel
    refine w_ixL (SqL.of h4) hv0 ?_
    walk_at "js"
    refine ⟨39, rfl, by decide, by decide, ?_⟩
    refine for_range (lo := 0) (n := 39) (fun i σ' H' => Ex H H' ∧ ∃ (v : V) (d : PyData) (v2 : Option V), σ' = [some (.ref s), some v, v2, none] ∧ Dq K (newOf H H') v d ∧ (tyn d = "list" ∨ tyn d = "tuple" ∨ tyn d = "dict") ∧ isI d = false ∧ SameV K (newOf H H') v ∧ lenLe d) ?_ ?_ ?_
    · exact ⟨x4, v0, d0, _, rfl, hd0, ht0, hi0, hs0, hl0⟩
    · rintro i σ' H5 hi ⟨e5, v, d, v2, rfl, hd, ht, hi5, hs5, hl5⟩
      walk_at "js"
      have nx : ∀ v' d' H', Ex H5 H' → Dq K (newOf H H') v' d' → (tyn d' = "list" ∨ tyn d' = "tuple" ∨ tyn d' = "dict") → isI d' = false → SameV K (newOf H H') v' → lenLe d' → Ex H H' ∧ ∃ (v : V) (d : PyData) (w2 : Option V), [some (V.ref s), some v', some (V.int (0 + (i : Int))), none] = [some (.ref s), some v, w2, none] ∧ Dq K (newOf H H') v d ∧ (tyn d = "list" ∨ tyn d = "tuple" ∨ tyn d = "dict") ∧ isI d = false ∧ SameV K (newOf H H') v ∧ lenLe d :=
        fun v' d' H' e' a1 a2 a3 a4 a5 => ⟨e5.trans e', v', d', _, rfl, a1, a2, a3, a4, a5⟩
      refine w_isi (hd.mono newOf_sub) (kit_list d) ?_
      walk_at "js"
      cases c1 : (tyn d == "list") with
      | true =>
        walk_at "js"
        refine ⟨(by show 1 ≤ sizeLine; decide), fun p hp => ?_⟩
        generalize g6 : upd H5 p _ = H6
        obtain ⟨e6, h6⟩ := gen_new hp g6
        walk_at "js"
        exact nx _ _ H6 e6 (.lst (newOf_at (e5.free hp) h6) (.cons (hd.mono (newOf_ex e6)) .nil)) (.inl rfl) rfl (.inr (.inl ⟨p, _, rfl, .inl (newOf_at (e5.free hp) h6)⟩)) (lenLe_l (by show 1 ≤ 13; omega))
      | false =>
        walk_at "js"
        refine w_isi (hd.mono newOf_sub) (kit_tuple d) ?_
        walk_at "js"
        cases c2 : (tyn d == "tuple") with
        | true =>
          walk_at "js"
          refine ⟨(by show 1 ≤ sizeLine; decide), fun p hp => ?_⟩
          generalize g6 : upd H5 p _ = H6
          obtain ⟨e6, h6⟩ := gen_new hp g6
          walk_at "js"
          exact nx _ _ H6 e6 (.tup (newOf_at (e5.free hp) h6) (.cons (hd.mono (newOf_ex e6)) .nil)) (.inr (.inl rfl)) rfl (.inr (.inl ⟨p, _, rfl, .inr (newOf_at (e5.free hp) h6)⟩)) (lenLe_t (by show 1 ≤ 13; omega))
        | false =>
          walk_at "js"
          intro p hp
          generalize g6 : upd H5 p _ = H6
          obtain ⟨e6, h6⟩ := gen_new hp g6
          walk_at "js"
          refine ⟨h6, [(.inr "start", v)], rfl, (by show 1 ≤ 15; omega), ?_⟩
          rw [show mergeK [] [((.inr "start" : Key), v)] = [(.inr "start", v)] from rfl]
          generalize g7 : upd H6 p _ = H7
          obtain ⟨e7, h7, _⟩ := gen_mut hp e6 g7
          walk_at "js"
          exact nx _ (.dict []) H7 e7 (.dct (newOf_at (e5.free hp) h7)) (.inr (.inr rfl)) rfl (.inr (.inr ⟨p, _, rfl, newOf_at (e5.free hp) h7, by show 1 ≤ 1; omega⟩)) (lenLe_o rfl)
    · rintro σ' H5 ⟨e5, v, d, v2, rfl, hd, ht, hi5, hs5, hl5⟩
      have hod : Odd K (newOf H H5) v := ⟨hs5, d, hd, hi5, hl5, fun z e => by subst e; rcases ht with h | h | h <;> (simp only [tyn] at h; exact absurd h (by decide))⟩
      walk_at "js"
      refine ⟨by decide, fun a1 ha1 => ?_⟩
      generalize f1 : upd H5 a1 _ = A1
      obtain ⟨x1, y1⟩ := gen_new ha1 f1
      walk_at "js"
      refine ⟨(by show 1 ≤ sizeLine; decide), fun a2 ha2 => ?_⟩
      generalize f2 : upd A1 a2 _ = A2
      obtain ⟨x2, y2⟩ := gen_new ha2 f2
      walk_at "js"
      refine ⟨by decide, fun a3 ha3 => ?_⟩
      generalize f3 : upd A2 a3 _ = A3
      obtain ⟨x3, y3⟩ := gen_new ha3 f3
      walk_at "js"
      refine ⟨(by show 2 ≤ sizeLine; decide), fun a4 ha4 => ?_⟩
      generalize f4 : upd A3 a4 _ = A4
      obtain ⟨x4, y4⟩ := gen_new ha4 f4
      walk_at "js"
      intro a5 ha5
      generalize f5 : upd A4 a5 _ = A5
      obtain ⟨x5, y5⟩ := gen_new ha5 f5
      walk_at "js"
      intro a6 ha6
      generalize f6 : upd A5 a6 _ = A6
      obtain ⟨x6, y6⟩ := gen_new ha6 f6
      walk_at "js"
      refine ⟨by decide, fun a7 ha7 => ?_⟩
      generalize f7 : upd A6 a7 _ = A7
      obtain ⟨x7, y7⟩ := gen_new ha7 f7
      walk_at "js"
      refine ⟨x7.get y6, [(.inr "start", .ref a7)], rfl, (by show 1 ≤ 15; omega), ?_⟩
      rw [show mergeK [] [((.inr "start" : Key), V.ref a7)] = [(.inr "start", .ref a7)] from rfl]
      generalize f8 : upd A7 a6 _ = A8
      obtain ⟨x8, y8, _⟩ := gen_mut ha6 (x6.trans x7) f8
      walk_at "js"
      refine ⟨(by show 2 ≤ sizeLine; decide), fun a9 ha9 => ?_⟩
      generalize f9 : upd A8 a9 _ = A9
      obtain ⟨x9, y9⟩ := gen_new ha9 f9
      walk_at "js"
      refine ⟨(by show 1 ≤ sizeLine; decide), fun a10 ha10 => ?_⟩
      generalize f10 : upd A9 a10 _ = A10
      obtain ⟨x10, y10⟩ := gen_new ha10 f10
      walk_at "js"
      refine ⟨(by show 1 ≤ sizeLine; decide), fun a11 ha11 => ?_⟩
      generalize f11 : upd A10 a11 _ = A11
      obtain ⟨x11, y11⟩ := gen_new ha11 f11
      walk_at "js"
      refine ⟨(by show 14 ≤ sizeLine; decide), fun a12 ha12 => ?_⟩
      generalize f12 : upd A11 a12 _ = A12
      obtain ⟨x12, y12⟩ := gen_new ha12 f12
      walk_at "js"
      have x05 : Ex H A5 := e5.trans (x1.trans (x2.trans (x3.trans (x4.trans x5))))
      have z8 : Ex A8 A12 := x9.trans (x10.trans (x11.trans x12))
      have z5 : Ex A5 A12 := x8.trans z8
      have z4 := x5.trans z5
      have z3 := x4.trans z4
      have z2 := x3.trans z3
      have z1 := x2.trans z2
      have zz : Ex H5 A12 := x1.trans z1
      refine ⟨s, L, ns, 14, rfl, (e5.trans zz).get hs, (e5.trans zz).get hL, by omega, by omega, fun q q0 q1 => ?_⟩
      have all : ∀ n : Nat, n < 14 → ∃ u, atI [V.non, .bl true, .bl false, .str "", .str "push", .str "12", .ref a1, .ref a2, .ref a3, .ref a4, .ref a5, .ref a6, .ref a11, v] n = some u ∧ Odd K (newOf H A12) u := fun n hn =>
        match n, hn with
        | 0, _ => ⟨_, rfl, .inl rfl, _, .non, rfl, lenLe_o rfl, fun z e => by cases e⟩
        | 1, _ => ⟨_, rfl, .inl rfl, _, .bl _, rfl, lenLe_o rfl, fun z e => by cases e⟩
        | 2, _ => ⟨_, rfl, .inl rfl, _, .bl _, rfl, lenLe_o rfl, fun z e => by cases e⟩
        | 3, _ => ⟨_, rfl, .inl rfl, _, .str _, rfl, lenLe_o rfl, fun z e => by cases e; exact .inl rfl⟩
        | 4, _ => ⟨_, rfl, .inl rfl, _, .str _, rfl, lenLe_o rfl, fun z e => by cases e; exact .inr (.inl rfl)⟩
        | 5, _ => ⟨_, rfl, .inl rfl, _, .str _, rfl, lenLe_o rfl, fun z e => by cases e; exact .inr (.inr rfl)⟩
        | 6, _ => ⟨_, rfl, odd_l (newOf_at (e5.free ha1) (z1.get y1)) .nil⟩
        | 7, _ => ⟨_, rfl, odd_l (newOf_at ((e5.trans x1).free ha2) (z2.get y2)) (.cons (.int _) .nil)⟩
        | 8, _ => ⟨_, rfl, odd_t (newOf_at ((e5.trans (x1.trans x2)).free ha3) (z3.get y3)) .nil⟩
        | 9, _ => ⟨_, rfl, odd_t (newOf_at ((e5.trans (x1.trans (x2.trans x3))).free ha4) (z4.get y4)) (.cons (.int _) (.cons (.int _) .nil))⟩
        | 10, _ => ⟨_, rfl, odd_d (newOf_at ((e5.trans (x1.trans (x2.trans (x3.trans x4)))).free ha5) (z5.get y5)) (Nat.zero_le _)⟩
        | 11, _ => ⟨_, rfl, odd_d (newOf_at (x05.free ha6) (z8.get y8)) (Nat.le_refl _)⟩
        | 12, _ => ⟨_, rfl, odd_l (newOf_at ((x05.trans (x8.trans (x9.trans x10))).free ha11) (x12.get y11)) (.cons (.lst (newOf_at ((x05.trans (x8.trans x9)).free ha10) ((x11.trans x12).get y10)) (.cons (.tup (newOf_at ((x05.trans x8).free ha9) ((x10.trans (x11.trans x12)).get y9)) (.cons (.int _) (.cons .non .nil))) .nil)) .nil)⟩
        | 13, _ => ⟨_, rfl, hod.mono (newOf_ex zz)⟩
        | n + 14, h => absurd h (by omega)
      obtain ⟨u, hu, ho⟩ := all q.toNat (by omega)
      rw [show ((q.toNat : Nat) : Int) = q by omega] at hu
      refine w_ixL (SqL.of y12) hu ?_
      walk_at "js"
      exact k u _ (e5.trans zz) ho
theorem ok_law_strange (T : Txt K mg) : FnOk P w K mg base (L2.CX P w) 3 (a_law_strange K) (d_law_strange K) P_law_strange (sp_law_strange K) := by
  have o := ok_law_strangeN (P := P) (w := w) (base := base) T
  have up : ∀ vs H Q E, sp_law_strange K vs H Q E → sp_law_strangeN K vs H Q E := fun vs H Q E h => by
    obtain ⟨s, L, ns, h1, h2, h3, k⟩ := h
    exact ⟨s, L, ns, h1, h2, h3, fun v H' e od => k v H' e (od.mono newOf_sub)⟩
  exact ⟨fun vs H Q E h => o.len vs H Q E (up _ _ _ _ h), fun A outer s H args us vs Q E hr he hb hv h => o.run A outer s H args us vs Q E hr he hb hv (up _ _ _ _ h)⟩

def sp_BadRound_p__init__ (K : Fr1) : Sp := sp_err (He.ga K "BadRound") "value"
theorem ok_BadRound_p__init__ (T : Txt K mg) : FnOk P w K mg base (L2.CX P w) 1 (a_BadRound_p__init__ K) (d_BadRound_p__init__ K) P_BadRound_p__init__ (sp_BadRound_p__init__ K) := by
  refine T.F_BadRound_p__init__.ok sc_BadRound_p__init__ (fun vs H Q E h => ?_) (fun cdv A outer s H vs Q E hr h => ?_)
  · obtain ⟨_, _, rfl, _⟩ := h
    rfl
  · obtain ⟨a, v, rfl, ha, k⟩ := h
    refine ⟨_, (pss_one (ps_ost (pv 0) (pv 1))), ?_⟩
    exact ⟨_, rfl, _, rfl, a, _, rfl, T.o_BadRound, T.na_BadRound_value, .inl ⟨ha, fun dx h1 h2 => k dx h1 h2⟩⟩

def sp_BadTurn_p__init__ (K : Fr1) : Sp := sp_err (He.ga K "BadTurn") "value"
theorem ok_BadTurn_p__init__ (T : Txt K mg) : FnOk P w K mg base (L2.CX P w) 1 (a_BadTurn_p__init__ K) (d_BadTurn_p__init__ K) P_BadTurn_p__init__ (sp_BadTurn_p__init__ K) := by
  refine T.F_BadTurn_p__init__.ok sc_BadTurn_p__init__ (fun vs H Q E h => ?_) (fun cdv A outer s H vs Q E hr h => ?_)
  · obtain ⟨_, _, rfl, _⟩ := h
    rfl
  · obtain ⟨a, v, rfl, ha, k⟩ := h
    refine ⟨_, (pss_one (ps_ost (pv 0) (pv 1))), ?_⟩
    exact ⟨_, rfl, _, rfl, a, _, rfl, T.o_BadTurn, T.na_BadTurn_value, .inl ⟨ha, fun dx h1 h2 => k dx h1 h2⟩⟩

def sp_BadStanding_p__init__ (K : Fr1) : Sp := sp_err (He.ga K "BadStanding") "value"
theorem ok_BadStanding_p__init__ (T : Txt K mg) : FnOk P w K mg base (L2.CX P w) 1 (a_BadStanding_p__init__ K) (d_BadStanding_p__init__ K) P_BadStanding_p__init__ (sp_BadStanding_p__init__ K) := by
  refine T.F_BadStanding_p__init__.ok sc_BadStanding_p__init__ (fun vs H Q E h => ?_) (fun cdv A outer s H vs Q E hr h => ?_)
  · obtain ⟨_, _, rfl, _⟩ := h
    rfl
  · obtain ⟨a, v, rfl, ha, k⟩ := h
    refine ⟨_, (pss_one (ps_ost (pv 0) (pv 1))), ?_⟩
    exact ⟨_, rfl, _, rfl, a, _, rfl, T.o_BadStanding, T.na_BadStanding_value, .inl ⟨ha, fun dx h1 h2 => k dx h1 h2⟩⟩

def sp_BadWord_p__init__ (K : Fr1) : Sp := sp_err (He.ga K "BadWord") "value"
theorem ok_BadWord_p__init__ (T : Txt K mg) : FnOk P w K mg base (L2.CX P w) 1 (a_BadWord_p__init__ K) (d_BadWord_p__init__ K) P_BadWord_p__init__ (sp_BadWord_p__init__ K) := by
  refine T.F_BadWord_p__init__.ok sc_BadWord_p__init__ (fun vs H Q E h => ?_) (fun cdv A outer s H vs Q E hr h => ?_)
  · obtain ⟨_, _, rfl, _⟩ := h
    rfl
  · obtain ⟨a, v, rfl, ha, k⟩ := h
    refine ⟨_, (pss_one (ps_ost (pv 0) (pv 1))), ?_⟩
    exact ⟨_, rfl, _, rfl, a, _, rfl, T.o_BadWord, T.na_BadWord_value, .inl ⟨ha, fun dx h1 h2 => k dx h1 h2⟩⟩

def sp_BadSlack_p__init__ (K : Fr1) : Sp := sp_err (He.ga K "BadSlack") "value"
theorem ok_BadSlack_p__init__ (T : Txt K mg) : FnOk P w K mg base (L2.CX P w) 1 (a_BadSlack_p__init__ K) (d_BadSlack_p__init__ K) P_BadSlack_p__init__ (sp_BadSlack_p__init__ K) := by
  refine T.F_BadSlack_p__init__.ok sc_BadSlack_p__init__ (fun vs H Q E h => ?_) (fun cdv A outer s H vs Q E hr h => ?_)
  · obtain ⟨_, _, rfl, _⟩ := h
    rfl
  · obtain ⟨a, v, rfl, ha, k⟩ := h
    refine ⟨_, (pss_one (ps_ost (pv 0) (pv 1))), ?_⟩
    exact ⟨_, rfl, _, rfl, a, _, rfl, T.o_BadSlack, T.na_BadSlack_value, .inl ⟨ha, fun dx h1 h2 => k dx h1 h2⟩⟩

def sp_BadRows_p__init__ (K : Fr1) : Sp := sp_err (He.ga K "BadRows") "at"
theorem ok_BadRows_p__init__ (T : Txt K mg) : FnOk P w K mg base (L2.CX P w) 1 (a_BadRows_p__init__ K) (d_BadRows_p__init__ K) P_BadRows_p__init__ (sp_BadRows_p__init__ K) := by
  refine T.F_BadRows_p__init__.ok sc_BadRows_p__init__ (fun vs H Q E h => ?_) (fun cdv A outer s H vs Q E hr h => ?_)
  · obtain ⟨_, _, rfl, _⟩ := h
    rfl
  · obtain ⟨a, v, rfl, ha, k⟩ := h
    refine ⟨_, (pss_one (ps_ost (pv 0) (pv 1))), ?_⟩
    exact ⟨_, rfl, _, rfl, a, _, rfl, T.o_BadRows, T.na_BadRows_at, .inl ⟨ha, fun dx h1 h2 => k dx h1 h2⟩⟩

def sp_BadPlan_p__init__ (K : Fr1) : Sp := sp_err (He.ga K "BadPlan") "at"
theorem ok_BadPlan_p__init__ (T : Txt K mg) : FnOk P w K mg base (L2.CX P w) 1 (a_BadPlan_p__init__ K) (d_BadPlan_p__init__ K) P_BadPlan_p__init__ (sp_BadPlan_p__init__ K) := by
  refine T.F_BadPlan_p__init__.ok sc_BadPlan_p__init__ (fun vs H Q E h => ?_) (fun cdv A outer s H vs Q E hr h => ?_)
  · obtain ⟨_, _, rfl, _⟩ := h
    rfl
  · obtain ⟨a, v, rfl, ha, k⟩ := h
    refine ⟨_, (pss_one (ps_ost (pv 0) (pv 1))), ?_⟩
    exact ⟨_, rfl, _, rfl, a, _, rfl, T.o_BadPlan, T.na_BadPlan_at, .inl ⟨ha, fun dx h1 h2 => k dx h1 h2⟩⟩

def sp_BadKinds_p__init__ (K : Fr1) : Sp := sp_err (He.ga K "BadKinds") "at"
theorem ok_BadKinds_p__init__ (T : Txt K mg) : FnOk P w K mg base (L2.CX P w) 1 (a_BadKinds_p__init__ K) (d_BadKinds_p__init__ K) P_BadKinds_p__init__ (sp_BadKinds_p__init__ K) := by
  refine T.F_BadKinds_p__init__.ok sc_BadKinds_p__init__ (fun vs H Q E h => ?_) (fun cdv A outer s H vs Q E hr h => ?_)
  · obtain ⟨_, _, rfl, _⟩ := h
    rfl
  · obtain ⟨a, v, rfl, ha, k⟩ := h
    refine ⟨_, (pss_one (ps_ost (pv 0) (pv 1))), ?_⟩
    exact ⟨_, rfl, _, rfl, a, _, rfl, T.o_BadKinds, T.na_BadKinds_at, .inl ⟨ha, fun dx h1 h2 => k dx h1 h2⟩⟩

def sp_BadLog_p__init__ (K : Fr1) : Sp := sp_err (He.ga K "BadLog") "at"
theorem ok_BadLog_p__init__ (T : Txt K mg) : FnOk P w K mg base (L2.CX P w) 1 (a_BadLog_p__init__ K) (d_BadLog_p__init__ K) P_BadLog_p__init__ (sp_BadLog_p__init__ K) := by
  refine T.F_BadLog_p__init__.ok sc_BadLog_p__init__ (fun vs H Q E h => ?_) (fun cdv A outer s H vs Q E hr h => ?_)
  · obtain ⟨_, _, rfl, _⟩ := h
    rfl
  · obtain ⟨a, v, rfl, ha, k⟩ := h
    refine ⟨_, (pss_one (ps_ost (pv 0) (pv 1))), ?_⟩
    exact ⟨_, rfl, _, rfl, a, _, rfl, T.o_BadLog, T.na_BadLog_at, .inl ⟨ha, fun dx h1 h2 => k dx h1 h2⟩⟩

def sp_BadText_p__init__ (K : Fr1) : Sp := sp_err (He.ga K "BadText") "at"
theorem ok_BadText_p__init__ (T : Txt K mg) : FnOk P w K mg base (L2.CX P w) 1 (a_BadText_p__init__ K) (d_BadText_p__init__ K) P_BadText_p__init__ (sp_BadText_p__init__ K) := by
  refine T.F_BadText_p__init__.ok sc_BadText_p__init__ (fun vs H Q E h => ?_) (fun cdv A outer s H vs Q E hr h => ?_)
  · obtain ⟨_, _, rfl, _⟩ := h
    rfl
  · obtain ⟨a, v, rfl, ha, k⟩ := h
    refine ⟨_, (pss_one (ps_ost (pv 0) (pv 1))), ?_⟩
    exact ⟨_, rfl, _, rfl, a, _, rfl, T.o_BadText, T.na_BadText_at, .inl ⟨ha, fun dx h1 h2 => k dx h1 h2⟩⟩

def sp_BadMachine_p__init__ (K : Fr1) : Sp := sp_err (He.ga K "BadMachine") "state"
theorem ok_BadMachine_p__init__ (T : Txt K mg) : FnOk P w K mg base (L2.CX P w) 1 (a_BadMachine_p__init__ K) (d_BadMachine_p__init__ K) P_BadMachine_p__init__ (sp_BadMachine_p__init__ K) := by
  refine T.F_BadMachine_p__init__.ok sc_BadMachine_p__init__ (fun vs H Q E h => ?_) (fun cdv A outer s H vs Q E hr h => ?_)
  · obtain ⟨_, _, rfl, _⟩ := h
    rfl
  · obtain ⟨a, v, rfl, ha, k⟩ := h
    refine ⟨_, (pss_one (ps_ost (pv 0) (pv 1))), ?_⟩
    exact ⟨_, rfl, _, rfl, a, _, rfl, T.o_BadMachine, T.na_BadMachine_state, .inl ⟨ha, fun dx h1 h2 => k dx h1 h2⟩⟩

def sp_TooMany_p__init__ (K : Fr1) : Sp := sp_err (He.ga K "TooMany") "limit"
theorem ok_TooMany_p__init__ (T : Txt K mg) : FnOk P w K mg base (L2.CX P w) 1 (a_TooMany_p__init__ K) (d_TooMany_p__init__ K) P_TooMany_p__init__ (sp_TooMany_p__init__ K) := by
  refine T.F_TooMany_p__init__.ok sc_TooMany_p__init__ (fun vs H Q E h => ?_) (fun cdv A outer s H vs Q E hr h => ?_)
  · obtain ⟨_, _, rfl, _⟩ := h
    rfl
  · obtain ⟨a, v, rfl, ha, k⟩ := h
    refine ⟨_, (pss_one (ps_ost (pv 0) (pv 1))), ?_⟩
    exact ⟨_, rfl, _, rfl, a, _, rfl, T.o_TooMany, T.na_TooMany_limit, .inl ⟨ha, fun dx h1 h2 => k dx h1 h2⟩⟩

def sp_law_made (K : Fr1) : Sp := fun vs H Q _ => ∃ v, vs = [v] ∧ ∀ l H', H l = none → Ex H H' → MadeV K H' l v → Q (.ref l) H'
theorem ok_law_made (T : Txt K mg) : FnOk P w K mg base (L2.CX P w) 3 (a_law_made K) (d_law_made K) P_law_made (sp_law_made K) := by
  refine T.F_law_made.ok sc_law_made (fun vs H Q E h => ?_) (fun cdv A outer s H vs Q E hr h => ?_)
  · obtain ⟨_, rfl, _⟩ := h
    rfl
  · obtain ⟨v, rfl, k⟩ := h
    refine ⟨_, (pss_one (ps_ret (pe_lst (pa_cons (pe_tup (pa_cons pe_str (pa_cons (pe_errV (f := "value") (pe_ofMk (pmk_oex T.o_BadRound T.M_BadRound_p__init__.at_ T.t_BadRound_p__init__ (ok_BadRound_p__init__ T) (hr.mono (by decide)) (b_BadRound_p__init__ T) .nil passL (by rfl) T.m_BadRound (pa_cons (pv 0) pa_nil)))) pa_nil))) (pa_cons (pe_tup (pa_cons pe_str (pa_cons (pe_errV (f := "value") (pe_ofMk (pmk_oex T.o_BadTurn T.M_BadTurn_p__init__.at_ T.t_BadTurn_p__init__ (ok_BadTurn_p__init__ T) (hr.mono (by decide)) (b_BadTurn_p__init__ T) .nil passL (by rfl) T.m_BadTurn (pa_cons (pv 0) pa_nil)))) pa_nil))) (pa_cons (pe_tup (pa_cons pe_str (pa_cons (pe_errV (f := "value") (pe_ofMk (pmk_oex T.o_BadStanding T.M_BadStanding_p__init__.at_ T.t_BadStanding_p__init__ (ok_BadStanding_p__init__ T) (hr.mono (by decide)) (b_BadStanding_p__init__ T) .nil passL (by rfl) T.m_BadStanding (pa_cons (pv 0) pa_nil)))) pa_nil))) (pa_cons (pe_tup (pa_cons pe_str (pa_cons (pe_errV (f := "value") (pe_ofMk (pmk_oex T.o_BadWord T.M_BadWord_p__init__.at_ T.t_BadWord_p__init__ (ok_BadWord_p__init__ T) (hr.mono (by decide)) (b_BadWord_p__init__ T) .nil passL (by rfl) T.m_BadWord (pa_cons (pv 0) pa_nil)))) pa_nil))) (pa_cons (pe_tup (pa_cons pe_str (pa_cons (pe_errV (f := "value") (pe_ofMk (pmk_oex T.o_BadSlack T.M_BadSlack_p__init__.at_ T.t_BadSlack_p__init__ (ok_BadSlack_p__init__ T) (hr.mono (by decide)) (b_BadSlack_p__init__ T) .nil passL (by rfl) T.m_BadSlack (pa_cons (pv 0) pa_nil)))) pa_nil))) (pa_cons (pe_tup (pa_cons pe_str (pa_cons (pe_errV (f := "at") (pe_ofMk (pmk_oex T.o_BadRows T.M_BadRows_p__init__.at_ T.t_BadRows_p__init__ (ok_BadRows_p__init__ T) (hr.mono (by decide)) (b_BadRows_p__init__ T) .nil passL (by rfl) T.m_BadRows (pa_cons (pv 0) pa_nil)))) pa_nil))) (pa_cons (pe_tup (pa_cons pe_str (pa_cons (pe_errV (f := "at") (pe_ofMk (pmk_oex T.o_BadPlan T.M_BadPlan_p__init__.at_ T.t_BadPlan_p__init__ (ok_BadPlan_p__init__ T) (hr.mono (by decide)) (b_BadPlan_p__init__ T) .nil passL (by rfl) T.m_BadPlan (pa_cons (pv 0) pa_nil)))) pa_nil))) (pa_cons (pe_tup (pa_cons pe_str (pa_cons (pe_errV (f := "at") (pe_ofMk (pmk_oex T.o_BadKinds T.M_BadKinds_p__init__.at_ T.t_BadKinds_p__init__ (ok_BadKinds_p__init__ T) (hr.mono (by decide)) (b_BadKinds_p__init__ T) .nil passL (by rfl) T.m_BadKinds (pa_cons (pv 0) pa_nil)))) pa_nil))) (pa_cons (pe_tup (pa_cons pe_str (pa_cons (pe_errV (f := "at") (pe_ofMk (pmk_oex T.o_BadLog T.M_BadLog_p__init__.at_ T.t_BadLog_p__init__ (ok_BadLog_p__init__ T) (hr.mono (by decide)) (b_BadLog_p__init__ T) .nil passL (by rfl) T.m_BadLog (pa_cons (pv 0) pa_nil)))) pa_nil))) (pa_cons (pe_tup (pa_cons pe_str (pa_cons (pe_errV (f := "at") (pe_ofMk (pmk_oex T.o_BadText T.M_BadText_p__init__.at_ T.t_BadText_p__init__ (ok_BadText_p__init__ T) (hr.mono (by decide)) (b_BadText_p__init__ T) .nil passL (by rfl) T.m_BadText (pa_cons (pv 0) pa_nil)))) pa_nil))) (pa_cons (pe_tup (pa_cons pe_str (pa_cons (pe_errV (f := "state") (pe_ofMk (pmk_oex T.o_BadMachine T.M_BadMachine_p__init__.at_ T.t_BadMachine_p__init__ (ok_BadMachine_p__init__ T) (hr.mono (by decide)) (b_BadMachine_p__init__ T) .nil passL (by rfl) T.m_BadMachine (pa_cons (pv 0) pa_nil)))) pa_nil))) (pa_cons (pe_tup (pa_cons pe_str (pa_cons (pe_errV (f := "limit") (pe_ofMk (pmk_oex T.o_TooMany T.M_TooMany_p__init__.at_ T.t_TooMany_p__init__ (ok_TooMany_p__init__ T) (hr.mono (by decide)) (b_TooMany_p__init__ T) .nil passL (by rfl) T.m_TooMany (pa_cons (pv 0) pa_nil)))) pa_nil))) (pa_cons (pe_tup (pa_cons pe_str (pa_cons (pe_ofMk (pmk_exn T.exn_NoPlan (by rfl) T.m_NoPlan)) pa_nil))) (pa_cons (pe_tup (pa_cons pe_str (pa_cons (pe_ofMk (pmk_exn T.exn_NothingDone (by rfl) T.m_NothingDone)) pa_nil))) pa_nil))))))))))))))))), ?_⟩
    rw [show L2.start N_law_made [v] = [some v] from rfl]
    try dsimp only [cxOf]
    walk_at "js"
    refine ⟨v, rfl, fun d0 A0 a0 B0 hd0 e0 hx0 ha0 ee0 hh0 => ?_⟩
    walk_at "js"
    refine ⟨sz_of (by simp), fun t0 hp_t0 => ?_⟩
    generalize g_t0 : upd B0 t0 _ = C0
    obtain ⟨e_C0, h_t0⟩ := gen_new hp_t0 g_t0
    walk_at "js"
    refine ⟨v, rfl, fun d1 A1 a1 B1 hd1 e1 hx1 ha1 ee1 hh1 => ?_⟩
    walk_at "js"
    refine ⟨sz_of (by simp), fun t1 hp_t1 => ?_⟩
    generalize g_t1 : upd B1 t1 _ = C1
    obtain ⟨e_C1, h_t1⟩ := gen_new hp_t1 g_t1
    walk_at "js"
    refine ⟨v, rfl, fun d2 A2 a2 B2 hd2 e2 hx2 ha2 ee2 hh2 => ?_⟩
    walk_at "js"
    refine ⟨sz_of (by simp), fun t2 hp_t2 => ?_⟩
    generalize g_t2 : upd B2 t2 _ = C2
    obtain ⟨e_C2, h_t2⟩ := gen_new hp_t2 g_t2
    walk_at "js"
    refine ⟨v, rfl, fun d3 A3 a3 B3 hd3 e3 hx3 ha3 ee3 hh3 => ?_⟩
    walk_at "js"
    refine ⟨sz_of (by simp), fun t3 hp_t3 => ?_⟩
    generalize g_t3 : upd B3 t3 _ = C3
    obtain ⟨e_C3, h_t3⟩ := gen_new hp_t3 g_t3
    walk_at "js"
    refine ⟨v, rfl, fun d4 A4 a4 B4 hd4 e4 hx4 ha4 ee4 hh4 => ?_⟩
    walk_at "js"
    refine ⟨sz_of (by simp), fun t4 hp_t4 => ?_⟩
    generalize g_t4 : upd B4 t4 _ = C4
    obtain ⟨e_C4, h_t4⟩ := gen_new hp_t4 g_t4
    walk_at "js"
    refine ⟨v, rfl, fun d5 A5 a5 B5 hd5 e5 hx5 ha5 ee5 hh5 => ?_⟩
    walk_at "js"
    refine ⟨sz_of (by simp), fun t5 hp_t5 => ?_⟩
    generalize g_t5 : upd B5 t5 _ = C5
    obtain ⟨e_C5, h_t5⟩ := gen_new hp_t5 g_t5
    walk_at "js"
    refine ⟨v, rfl, fun d6 A6 a6 B6 hd6 e6 hx6 ha6 ee6 hh6 => ?_⟩
    walk_at "js"
    refine ⟨sz_of (by simp), fun t6 hp_t6 => ?_⟩
    generalize g_t6 : upd B6 t6 _ = C6
    obtain ⟨e_C6, h_t6⟩ := gen_new hp_t6 g_t6
    walk_at "js"
    refine ⟨v, rfl, fun d7 A7 a7 B7 hd7 e7 hx7 ha7 ee7 hh7 => ?_⟩
    walk_at "js"
    refine ⟨sz_of (by simp), fun t7 hp_t7 => ?_⟩
    generalize g_t7 : upd B7 t7 _ = C7
    obtain ⟨e_C7, h_t7⟩ := gen_new hp_t7 g_t7
    walk_at "js"
    refine ⟨v, rfl, fun d8 A8 a8 B8 hd8 e8 hx8 ha8 ee8 hh8 => ?_⟩
    walk_at "js"
    refine ⟨sz_of (by simp), fun t8 hp_t8 => ?_⟩
    generalize g_t8 : upd B8 t8 _ = C8
    obtain ⟨e_C8, h_t8⟩ := gen_new hp_t8 g_t8
    walk_at "js"
    refine ⟨v, rfl, fun d9 A9 a9 B9 hd9 e9 hx9 ha9 ee9 hh9 => ?_⟩
    walk_at "js"
    refine ⟨sz_of (by simp), fun t9 hp_t9 => ?_⟩
    generalize g_t9 : upd B9 t9 _ = C9
    obtain ⟨e_C9, h_t9⟩ := gen_new hp_t9 g_t9
    walk_at "js"
    refine ⟨v, rfl, fun d10 A10 a10 B10 hd10 e10 hx10 ha10 ee10 hh10 => ?_⟩
    walk_at "js"
    refine ⟨sz_of (by simp), fun t10 hp_t10 => ?_⟩
    generalize g_t10 : upd B10 t10 _ = C10
    obtain ⟨e_C10, h_t10⟩ := gen_new hp_t10 g_t10
    walk_at "js"
    refine ⟨v, rfl, fun d11 A11 a11 B11 hd11 e11 hx11 ha11 ee11 hh11 => ?_⟩
    walk_at "js"
    refine ⟨sz_of (by simp), fun t11 hp_t11 => ?_⟩
    generalize g_t11 : upd B11 t11 _ = C11
    obtain ⟨e_C11, h_t11⟩ := gen_new hp_t11 g_t11
    walk_at "js"
    intro a12 ha12
    generalize g12 : upd C11 a12 _ = B12
    obtain ⟨ee12, hh12⟩ := gen_new ha12 g12
    walk_at "js"
    refine ⟨sz_of (by simp), fun t12 hp_t12 => ?_⟩
    generalize g_t12 : upd B12 t12 _ = C12
    obtain ⟨e_C12, h_t12⟩ := gen_new hp_t12 g_t12
    walk_at "js"
    intro a13 ha13
    generalize g13 : upd C12 a13 _ = B13
    obtain ⟨ee13, hh13⟩ := gen_new ha13 g13
    walk_at "js"
    refine ⟨sz_of (by simp), fun t13 hp_t13 => ?_⟩
    generalize g_t13 : upd B13 t13 _ = C13
    obtain ⟨e_C13, h_t13⟩ := gen_new hp_t13 g_t13
    walk_at "js"
    refine ⟨sz_of (by simp), fun l hp_l => ?_⟩
    generalize g_l : upd C13 l _ = F
    obtain ⟨e_F, h_l⟩ := gen_new hp_l g_l
    walk_at "js"
    have x13 := e_F
    have x12 := (ee13.trans e_C13).trans x13
    have x11 := (ee12.trans e_C12).trans x12
    have x10 := (e11.trans (ee11.trans e_C11)).trans x11
    have x9 := (e10.trans (ee10.trans e_C10)).trans x10
    have x8 := (e9.trans (ee9.trans e_C9)).trans x9
    have x7 := (e8.trans (ee8.trans e_C8)).trans x8
    have x6 := (e7.trans (ee7.trans e_C7)).trans x7
    have x5 := (e6.trans (ee6.trans e_C6)).trans x6
    have x4 := (e5.trans (ee5.trans e_C5)).trans x5
    have x3 := (e4.trans (ee4.trans e_C4)).trans x4
    have x2 := (e3.trans (ee3.trans e_C3)).trans x3
    have x1 := (e2.trans (ee2.trans e_C2)).trans x2
    have x0 := (e1.trans (ee1.trans e_C1)).trans x1
    have x := (e0.trans (ee0.trans e_C0)).trans x0
    refine k l F ?_ x ⟨_, h_l, ?_⟩
    · have y : Ex H C13 := ((((((((((((((e0.trans (ee0.trans e_C0)).trans (e1.trans (ee1.trans e_C1))).trans (e2.trans (ee2.trans e_C2))).trans (e3.trans (ee3.trans e_C3))).trans (e4.trans (ee4.trans e_C4))).trans (e5.trans (ee5.trans e_C5))).trans (e6.trans (ee6.trans e_C6))).trans (e7.trans (ee7.trans e_C7))).trans (e8.trans (ee8.trans e_C8))).trans (e9.trans (ee9.trans e_C9))).trans (e10.trans (ee10.trans e_C10))).trans (e11.trans (ee11.trans e_C11))).trans (ee12.trans e_C12)).trans (ee13.trans e_C13))
      exact y.free hp_l
    · show Paired (ErrT K F v) _ [0, 1, 2, 3, 4, 5, 6, 7, 8, 9, 10, 11, 12, 13]
      exact .cons ⟨t0, a0, some d0, rfl, x0.get h_t0, (e_C0.trans x0).get hh0, fun _ => ⟨d0, rfl, ((ee0.trans e_C0).trans x0).get hx0⟩, fun h => absurd h (by decide)⟩ (.cons ⟨t1, a1, some d1, rfl, x1.get h_t1, (e_C1.trans x1).get hh1, fun _ => ⟨d1, rfl, ((ee1.trans e_C1).trans x1).get hx1⟩, fun h => absurd h (by decide)⟩ (.cons ⟨t2, a2, some d2, rfl, x2.get h_t2, (e_C2.trans x2).get hh2, fun _ => ⟨d2, rfl, ((ee2.trans e_C2).trans x2).get hx2⟩, fun h => absurd h (by decide)⟩ (.cons ⟨t3, a3, some d3, rfl, x3.get h_t3, (e_C3.trans x3).get hh3, fun _ => ⟨d3, rfl, ((ee3.trans e_C3).trans x3).get hx3⟩, fun h => absurd h (by decide)⟩ (.cons ⟨t4, a4, some d4, rfl, x4.get h_t4, (e_C4.trans x4).get hh4, fun _ => ⟨d4, rfl, ((ee4.trans e_C4).trans x4).get hx4⟩, fun h => absurd h (by decide)⟩ (.cons ⟨t5, a5, some d5, rfl, x5.get h_t5, (e_C5.trans x5).get hh5, fun _ => ⟨d5, rfl, ((ee5.trans e_C5).trans x5).get hx5⟩, fun h => absurd h (by decide)⟩ (.cons ⟨t6, a6, some d6, rfl, x6.get h_t6, (e_C6.trans x6).get hh6, fun _ => ⟨d6, rfl, ((ee6.trans e_C6).trans x6).get hx6⟩, fun h => absurd h (by decide)⟩ (.cons ⟨t7, a7, some d7, rfl, x7.get h_t7, (e_C7.trans x7).get hh7, fun _ => ⟨d7, rfl, ((ee7.trans e_C7).trans x7).get hx7⟩, fun h => absurd h (by decide)⟩ (.cons ⟨t8, a8, some d8, rfl, x8.get h_t8, (e_C8.trans x8).get hh8, fun _ => ⟨d8, rfl, ((ee8.trans e_C8).trans x8).get hx8⟩, fun h => absurd h (by decide)⟩ (.cons ⟨t9, a9, some d9, rfl, x9.get h_t9, (e_C9.trans x9).get hh9, fun _ => ⟨d9, rfl, ((ee9.trans e_C9).trans x9).get hx9⟩, fun h => absurd h (by decide)⟩ (.cons ⟨t10, a10, some d10, rfl, x10.get h_t10, (e_C10.trans x10).get hh10, fun _ => ⟨d10, rfl, ((ee10.trans e_C10).trans x10).get hx10⟩, fun h => absurd h (by decide)⟩ (.cons ⟨t11, a11, some d11, rfl, x11.get h_t11, (e_C11.trans x11).get hh11, fun _ => ⟨d11, rfl, ((ee11.trans e_C11).trans x11).get hx11⟩, fun h => absurd h (by decide)⟩ (.cons ⟨t12, a12, none, rfl, x12.get h_t12, (e_C12.trans x12).get hh12, fun h => absurd h (by decide), fun _ => rfl⟩ (.cons ⟨t13, a13, none, rfl, x13.get h_t13, (e_C13.trans x13).get hh13, fun h => absurd h (by decide), fun _ => rfl⟩ (.nil))))))))))))))

def sp_law_classes (K : Fr1) : Sp := fun vs H Q _ => ∃ (a : Addr) (i : Nat) (d : Option Addr), vs = [.ref a] ∧ i < 14 ∧ H a = some (ExV (.ref (He.ga K (enN.getD i ""))) d a) ∧ (∀ dd, d = some dd → ∃ fs, H dd = some (.xd fs)) ∧
  ∀ l H', H l = none → Ex H H' → H' l = some (.lst ((List.range 14).map fun j => V.bl (decide (i = j)))) → Q (.ref l) H'
theorem ok_law_classes (T : Txt K mg) : FnOk P w K mg base (L2.CX P w) 1 (a_law_classes K) (d_law_classes K) P_law_classes (sp_law_classes K) := by
  refine T.F_law_classes.ok sc_law_classes (fun vs H Q E h => ?_) (fun cdv A outer s H vs Q E hr h => ?_)
  · obtain ⟨_, _, _, rfl, _⟩ := h
    rfl
  · obtain ⟨a, i, d, rfl, hi, ha, hd, k⟩ := h
    refine ⟨_, (pss_one (ps_ret (pe_lst (pa_cons (pe_callB call_isV (by rfl) T.n_isinstance (by decide +kernel) (pa_cons (pv 0) (pa_cons (pe_glob (v := .ref (He.ga K "BadRound")) rfl T.m_BadRound rfl) pa_nil))) (pa_cons (pe_callB call_isV (by rfl) T.n_isinstance (by decide +kernel) (pa_cons (pv 0) (pa_cons (pe_glob (v := .ref (He.ga K "BadTurn")) rfl T.m_BadTurn rfl) pa_nil))) (pa_cons (pe_callB call_isV (by rfl) T.n_isinstance (by decide +kernel) (pa_cons (pv 0) (pa_cons (pe_glob (v := .ref (He.ga K "BadStanding")) rfl T.m_BadStanding rfl) pa_nil))) (pa_cons (pe_callB call_isV (by rfl) T.n_isinstance (by decide +kernel) (pa_cons (pv 0) (pa_cons (pe_glob (v := .ref (He.ga K "BadWord")) rfl T.m_BadWord rfl) pa_nil))) (pa_cons (pe_callB call_isV (by rfl) T.n_isinstance (by decide +kernel) (pa_cons (pv 0) (pa_cons (pe_glob (v := .ref (He.ga K "BadSlack")) rfl T.m_BadSlack rfl) pa_nil))) (pa_cons (pe_callB call_isV (by rfl) T.n_isinstance (by decide +kernel) (pa_cons (pv 0) (pa_cons (pe_glob (v := .ref (He.ga K "BadRows")) rfl T.m_BadRows rfl) pa_nil))) (pa_cons (pe_callB call_isV (by rfl) T.n_isinstance (by decide +kernel) (pa_cons (pv 0) (pa_cons (pe_glob (v := .ref (He.ga K "BadPlan")) rfl T.m_BadPlan rfl) pa_nil))) (pa_cons (pe_callB call_isV (by rfl) T.n_isinstance (by decide +kernel) (pa_cons (pv 0) (pa_cons (pe_glob (v := .ref (He.ga K "BadKinds")) rfl T.m_BadKinds rfl) pa_nil))) (pa_cons (pe_callB call_isV (by rfl) T.n_isinstance (by decide +kernel) (pa_cons (pv 0) (pa_cons (pe_glob (v := .ref (He.ga K "BadLog")) rfl T.m_BadLog rfl) pa_nil))) (pa_cons (pe_callB call_isV (by rfl) T.n_isinstance (by decide +kernel) (pa_cons (pv 0) (pa_cons (pe_glob (v := .ref (He.ga K "BadText")) rfl T.m_BadText rfl) pa_nil))) (pa_cons (pe_callB call_isV (by rfl) T.n_isinstance (by decide +kernel) (pa_cons (pv 0) (pa_cons (pe_glob (v := .ref (He.ga K "BadMachine")) rfl T.m_BadMachine rfl) pa_nil))) (pa_cons (pe_callB call_isV (by rfl) T.n_isinstance (by decide +kernel) (pa_cons (pv 0) (pa_cons (pe_glob (v := .ref (He.ga K "TooMany")) rfl T.m_TooMany rfl) pa_nil))) (pa_cons (pe_callB call_isV (by rfl) T.n_isinstance (by decide +kernel) (pa_cons (pv 0) (pa_cons (pe_glob (v := .ref (He.ga K "NoPlan")) rfl T.m_NoPlan rfl) pa_nil))) (pa_cons (pe_callB call_isV (by rfl) T.n_isinstance (by decide +kernel) (pa_cons (pv 0) (pa_cons (pe_glob (v := .ref (He.ga K "NothingDone")) rfl T.m_NothingDone rfl) pa_nil))) pa_nil))))))))))))))))), ?_⟩
    rw [show L2.start N_law_classes [.ref a] = [some (.ref a)] from rfl]
    try dsimp only [cxOf]
    have is : ∀ (j : Nat) (c : Str) (hj : j < 14) (e : enN.getD j "" = c) (Q' : VK), Q' (.bl (decide (i = j))) H → rIsV K [V.ref a, V.ref (He.ga K c)] H Q' := fun j c hj e Q' q =>
      ⟨a, _, d, _, _, _, rfl, ha, hd, ⟨T.ens.x i hi, T.ens.i i hi⟩, fun u r => r, by rw [← e]; exact T.ens.pair i j hi hj, q⟩
    walk_at "js"
    refine is 0 "BadRound" (by decide) rfl _ ?_
    walk_at "js"
    refine is 1 "BadTurn" (by decide) rfl _ ?_
    walk_at "js"
    refine is 2 "BadStanding" (by decide) rfl _ ?_
    walk_at "js"
    refine is 3 "BadWord" (by decide) rfl _ ?_
    walk_at "js"
    refine is 4 "BadSlack" (by decide) rfl _ ?_
    walk_at "js"
    refine is 5 "BadRows" (by decide) rfl _ ?_
    walk_at "js"
    refine is 6 "BadPlan" (by decide) rfl _ ?_
    walk_at "js"
    refine is 7 "BadKinds" (by decide) rfl _ ?_
    walk_at "js"
    refine is 8 "BadLog" (by decide) rfl _ ?_
    walk_at "js"
    refine is 9 "BadText" (by decide) rfl _ ?_
    walk_at "js"
    refine is 10 "BadMachine" (by decide) rfl _ ?_
    walk_at "js"
    refine is 11 "TooMany" (by decide) rfl _ ?_
    walk_at "js"
    refine is 12 "NoPlan" (by decide) rfl _ ?_
    walk_at "js"
    refine is 13 "NothingDone" (by decide) rfl _ ?_
    walk_at "js"
    refine ⟨by show 14 ≤ sizeLine; decide, fun p hp => ?_⟩
    exact k p _ hp (Evl.Ex.new hp) (by rw [upd_same]; rfl)

def sp_law_kept (K : Fr1) : Sp := fun vs H Q _ => ∃ (a C dd : Addr) (f : Str) (v : V), vs = [.str f, .ref a] ∧ f ∈ (["value", "at", "state", "limit"] : List Str) ∧ H a = some (ExV (.ref C) (some dd) a) ∧ XfC K C ∧ PySem.W.findIn K (.ref C) f = some none ∧ H dd = some (.xd [(f, v)]) ∧ Q v H
theorem ok_law_kept (T : Txt K mg) : FnOk P w K mg base (L2.CX P w) 1 (a_law_kept K) (d_law_kept K) P_law_kept (sp_law_kept K) := by
  refine T.F_law_kept.ok sc_law_kept (fun vs H Q E h => ?_) (fun cdv A outer s H vs Q E hr h => ?_)
  · obtain ⟨_, _, _, _, _, rfl, _⟩ := h
    rfl
  · obtain ⟨a, C, dd, f, v, rfl, hf, ha, x, no, hd, k⟩ := h
    refine ⟨_, (pss_cons (ps_if (pt_cmpR op_eq (pv 0) pe_str (nomark _)) (pss_one (ps_ret (pe_xv (pv 1)))) pss_nil)
    (pss_cons (ps_if (pt_cmpR op_eq (pv 0) pe_str (nomark _)) (pss_one (ps_ret (pe_xv (pv 1)))) pss_nil)
    (pss_cons (ps_if (pt_cmpR op_eq (pv 0) pe_str (nomark _)) (pss_one (ps_ret (pe_xv (pv 1)))) pss_nil)
    (pss_one (ps_ret (pe_xv (pv 1))))))), ?_⟩
    rw [show L2.start N_law_kept [.str f, .ref a] = [some (.str f), some (.ref a)] from rfl]
    try dsimp only [cxOf]
    have go : ∀ g, f = g → ∀ Q', (Q v H → Q' v H) → tXv K g (tVar 1) [some (.str f), some (.ref a)] H Q' := fun g e Q' q => ⟨_, rfl, a, C, dd, _, v, rfl, ha, x, by rw [← e]; exact no, hd, by rw [← e]; show List.lookup f [(f, v)] = some v; rw [List.lookup_cons, beq_self_eq_true], q k⟩
    have four : f = "value" ∨ f = "at" ∨ f = "state" ∨ f = "limit" := by simpa using hf
    walk_at "js"
    refine w_eqStr ⟨_, rfl, ?_⟩
    by_cases cvalue : f = ("value" : Str)
    · rw [if_pos (decide_eq_true cvalue)]
      walk_at "js"
      exact go _ cvalue _ fun h => h
    rw [if_neg (by simpa using cvalue)]
    walk_at "js"
    refine w_eqStr ⟨_, rfl, ?_⟩
    by_cases cat : f = ("at" : Str)
    · rw [if_pos (decide_eq_true cat)]
      walk_at "js"
      exact go _ cat _ fun h => h
    rw [if_neg (by simpa using cat)]
    walk_at "js"
    refine w_eqStr ⟨_, rfl, ?_⟩
    by_cases cstate : f = ("state" : Str)
    · rw [if_pos (decide_eq_true cstate)]
      walk_at "js"
      exact go _ cstate _ fun h => h
    rw [if_neg (by simpa using cstate)]
    walk_at "js"
    exact go "limit" (by rcases four with h | h | h | h <;> first | exact absurd h cvalue | exact absurd h cat | exact absurd h cstate | exact h) _ fun h => h

abbrev k_law : Nat := 5
def sp_law (K : Fr1) : Sp := fun vs H Q _ => ∃ (a : Addr) (ns : List Int), vs = [.ref a] ∧ SqL K H a (ns.map V.int) ∧ ns.length ≤ 63 ∧ ∀ H', Q (.bl true) H'
theorem ok_law (T : Txt K mg) : FnOk P w K mg base L2.CX0 k_law (a_law K) (d_law K) P_law (sp_law K) := by
  refine T.F_law.ok sc_law (fun vs H Q E h => ?_) (fun cdv A outer s H vs Q E hr h => ?_)
  · obtain ⟨_, _, rfl, _⟩ := h
    rfl
  · obtain ⟨a, ns, rfl, hS, _, kQ⟩ := h
    refine ⟨_, PSs.nox (pss_cons (ps_set (i := 1) sc_law.nd rfl (.inl rfl) (pe_call (ok_law_state T) (hr.mono (by decide)) (by rfl) T.m__law_state T.F_law_state.kp (b_law_state T) .nil passL (pa_cons (pv 0) pa_nil)))
    (pss_cons (ps_for PassesOwn.never rfl (pi_range1 (by rfl) T.n_range (pa_cons pe_int pa_nil)) (pg_name (i := 2) sc_law.nd rfl (.inl rfl)) (pss_cons (ps_set (i := 3) sc_law.nd rfl (.inl rfl) (pe_call (ok_law_large T) (hr.mono (by decide)) (by rfl) T.m__law_large T.F_law_large.kp (b_law_large T) .nil passL (pa_cons (pv 1) (pa_cons pe_int pa_nil))))
    (Evl.pss_cut (ps_if (pt_cmpR op_eq (pe_call (ok_law_draw T) (hr.mono (by decide)) (by rfl) T.m__law_draw T.F_law_draw.kp (b_law_draw T) .nil passL (pa_cons (pv 1) (pa_cons pe_int pa_nil))) pe_int (nomark _)) (pss_one (ps_set (i := 3) sc_law.nd rfl (.inl rfl) (pe_call (ok_law_strange T) (hr.mono (by decide)) (by rfl) T.m__law_strange T.F_law_strange.kp (b_law_strange T) .nil passL (pa_cons (pv 1) pa_nil)))) pss_nil)
    (pss_cons (ps_set (i := 4) sc_law.nd rfl (.inl rfl) (pe_call (ok_law_made T) (hr.mono (by decide)) (by rfl) T.m__law_made T.F_law_made.kp (b_law_made T) .nil passL (pa_cons (pv 3) pa_nil)))
    (pss_one (ps_for PassesOwn.never rfl (pi_enumX (by rfl) T.n_enumerate (pa_cons (pv 4) pa_nil)) (pg_tup (by rfl) (pgs_cons (pg_name (i := 5) sc_law.nd rfl (.inr rfl)) (pgs_cons (pg_tup (by rfl) (pgs_cons (pg_name (i := 6) sc_law.nd rfl (.inl rfl)) (pgs_cons (pg_name (i := 7) sc_law.nd rfl (.inl rfl)) pgs_nil))) pgs_nil))) (pss_cons (ps_if (pt_cmpR (op_neD hr.units) (pe_call (ok_law_classes T) (hr.mono (by decide)) (by rfl) T.m__law_classes T.F_law_classes.kp (b_law_classes T) .nil passL (pa_cons (pv 7) pa_nil)) (pe_lc (own := [("_law_spot", 8)]) (g := gName 8) (by rfl) sc_law.nd (pi_range1 (by rfl) T.n_range (pa_cons (pe_callB call_len_seq (by rfl) T.n_len (by decide +kernel) (pa_cons (pv 4) pa_nil)) pa_nil)) (blkOk_by (N := N_law) (sc := defScope s_law) (by decide +kernel)) (fun _ _ _ _ _ => (pg_name (i := 8) sc_law.nd rfl (.inl rfl))) (fun _ _ _ _ _ => pts_nil) (fun _ _ _ _ _ => (pe_cmpR op_eq (pv 8) (pv 5) (nomark _)))) (nomark _)) (pss_one (ps_ret pe_bl)) pss_nil)
    (pss_cons (ps_if (PW.pt (pw_or (pt_not (pt_val (pe_callB call_isV (by rfl) T.n_isinstance (by decide +kernel) (pa_cons (pv 7) (pa_cons (pe_glob (v := .ref (He.ga K "JawError")) rfl T.m_JawError rfl) pa_nil))))) (pw_or (pt_not (pt_val (pe_callB call_isV (by rfl) T.n_isinstance (by decide +kernel) (pa_cons (pv 7) (pa_cons (pe_bltn (v := .ty "ValueError") (by rfl) T.n_ValueError (by decide +kernel) rfl) pa_nil))))) (pw_or1 (pt_val (pe_callB call_isV (by rfl) T.n_isinstance (by decide +kernel) (pa_cons (pv 7) (pa_cons (pe_bltn (v := .ty "LookupError") (by rfl) T.n_LookupError (by decide +kernel) rfl) pa_nil)))))))) (pss_one (ps_ret pe_bl)) pss_nil)
    (pss_one (ps_if (PW.pt (pw_and (pt_cmpR op_ne (pv 6) pe_str (nomark _)) (pw_and1 (pt_cmpR (op_neS hr.units) (pe_call (ok_law_kept T) (hr.mono (by decide)) (by rfl) T.m__law_kept T.F_law_kept.kp (b_law_kept T) .nil passL (pa_cons (pv 6) (pa_cons (pv 7) pa_nil))) (pv 3) (nomark _))))) (pss_one (ps_ret pe_bl)) pss_nil))))))))))
    (pss_one (ps_ret pe_bl)))), ?_⟩
    rw [show L2.start N_law [.ref a] = [some (.ref a), none, none, none, none, none, none, none, none] from rfl]
    try dsimp only [cxOf]
    have lim : 1000 < sizeLine := by decide
    walk_at "js"
    refine ⟨a, ns, rfl, hS, fun L s H1 e1 hs hL => ?_⟩
    walk_at "js"
    refine ⟨4, rfl, by omega, by omega, ?_⟩
    refine for_range (lo := 0) (n := 4) (fun i σ' H' => Ex H1 H' ∧ ∃ v2 v3 v4 v5 v6 v7 v8 : Option V, σ' = [some (.ref a), some (.ref s), v2, v3, v4, v5, v6, v7, v8]) ?_ ?_ ?_
    · exact ⟨Evl.Ex.refl _, _, _, _, _, _, _, _, rfl⟩
    · rintro i σ' B0 hi ⟨b0, v2, v3, v4, v5, v6, v7, v8, rfl⟩
      walk_at "js"
      refine ⟨s, L, _, 360, rfl, b0.get hs, b0.get hL, by omega, by omega, fun x _ => ?_⟩
      walk_at "js"
      refine Evl.q_cut (M := fun σ' H' => ∃ v, σ' = [some (.ref a), some (.ref s), some (.int (0 + (i : Int))), some v, v4, v5, v6, v7, v8] ∧ Ex H1 H' ∧ SameV K H' v) ?_ ?_
      · walk_at "js"
        refine ⟨s, L, _, 2, rfl, b0.get hs, b0.get hL, by omega, by omega, fun d d0 d1 => ?_⟩
        walk_at "js"
        refine w_if (fun z => ?_) (fun z => ?_)
        · walk_at "js"
          refine ⟨s, L, _, rfl, b0.get hs, b0.get hL, fun v H' e o => ?_⟩
          walk_at "js"
          exact ⟨v, rfl, b0.trans e, o.1⟩
        · walk_at "js"
          exact ⟨_, rfl, b0, .inl rfl⟩
      rintro σ' B1 ⟨v, rfl, b1, same⟩
      walk_at "js"
      refine ⟨v, rfl, fun l B2 hl0 b2 made => ?_⟩
      walk_at "js"
      obtain ⟨ts, hl, each⟩ := made
      have tl : ts.length = 14 := each.length
      have b02 := b1.trans b2
      refine w_enumX (.inl hl) fun J wk => ?_
      refine for_it wk (fun j σ' H' => Ex B2 H' ∧ ∃ v5 v6 v7 v8 : Option V, σ' = [some (.ref a), some (.ref s), some (.int (0 + (i : Int))), some v, some (.ref l), v5, v6, v7, v8]) ?_ (fun i σ' H' _ p => p.1) ?_ ?_
      · exact ⟨Evl.Ex.refl _, _, _, _, _, rfl⟩
      · rintro j x σ' C0 C1 hj ⟨c0, v5, v6, v7, v8, rfl⟩ ⟨T1, x1, y1, rfl, hT, rfl, hx1, hy1⟩
        cases (Option.some.inj hx1)
        generalize g2 : upd C0 T1 _ = C1
        obtain ⟨e2, h2⟩ := gen_new hT g2
        have c1 := c0.trans e2
        obtain ⟨j', hj', tp, ea, d, rfl, htp, hea, hd1, hd2⟩ := pair_get each hy1
        obtain rfl : j = j' := by
          rw [List.getElem?_range (by omega)] at hj'
          exact Option.some.inj hj'
        have hjl : j < 14 := by omega
        walk_at "js"
        refine ⟨ea, j, d, rfl, hjl, c1.get hea, fun dd e => ?_, fun lc C2 hlc0 c2 hlc => ?_⟩
        · by_cases q : j < 12
          · obtain ⟨dd', e', hx⟩ := hd1 q
            rw [e'] at e
            cases e
            exact ⟨_, c1.get hx⟩
          · rw [hd2 (by omega)] at e
            cases e
        have c12 := c1.trans c2
        have hl2 := c12.get hl
        walk_at "js"
        rw [tl]
        refine ⟨14, rfl, by omega, by omega, ?_⟩
        refine lc_gen (fun H v (b : Bool) => v = .bl b) (fun _ _ _ _ _ q => q) (walk_range.mono (fun _ _ => trivial) fun _ _ _ _ _ _ y => y) (fun n => some (decide (j = n))) (by decide) (fun Dl n x1 A6 A7 k1 k2 hD hn e6 hx1 y kk1 kk2 => ?_) (fun Dl A1 hD a1 hacc => ?_)
        · obtain ⟨rfl, rfl⟩ := y
          walk_at "js"
          walk_at "wp"
          walk_at "js"
          have same : decide ((0 + (n : Int)) = (j : Int)) = decide (j = n) := decide_eq_decide.mpr (by omega)
          exact kk1 _ _ _ rfl (Evl.Ex.refl _) (by rw [same])
        obtain ⟨acc, hacc, hp⟩ := hacc
        have hb : acc = ((List.range 14).map fun n => decide (j = n)).map V.bl := by
          have e : (List.range 14).filterMap (fun n => some (decide (j = n))) = (List.range 14).map fun n => decide (j = n) := congrFun (List.filterMap_eq_map (f := fun n => decide (j = n))) _
          have hp : Paired (fun v (b : Bool) => v = .bl b) acc ((List.range 14).filterMap fun n => some (decide (j = n))) := hp
          rw [e] at hp
          exact paired_bl hp
        have shp : SeqAt.shaped (.list (bD ((List.range 14).map fun n => decide (j = n)))) = true := (show ∀ j, j < 14 → SeqAt.shaped (.list (bD ((List.range 14).map fun n => decide (j = n)))) = true by decide +kernel) j hjl
        rw [show ((List.range 14).map fun n => V.bl (decide (j = n))) = ((List.range 14).map fun n => decide (j = n)).map V.bl by rw [List.map_map]; rfl] at hlc
        have hlc1 := a1.get hlc
        subst hb
        refine w_neBL hlc1 hacc shp ?_
        have c14 := c12.trans a1
        have hea1 := c14.get hea
        have hdx : ∀ dd, d = some dd → ∃ fs, A1 dd = some (.xd fs) := fun dd e => by
          by_cases q : j < 12
          · obtain ⟨dd', e', hx⟩ := hd1 q
            rw [e'] at e
            cases e
            exact ⟨_, c14.get hx⟩
          · rw [hd2 (by omega)] at e
            cases e
        have isx : ∀ (c : V) (cv : Value) (b : Bool), (∀ u, RelV c u → u = cv) → PySem.W.kitOne K (.ref (He.ga K (enN.getD j ""))) cv = some b → ∀ Q' : VK, Q' (.bl b) A1 → rIsV K [V.ref ea, c] A1 Q' := fun c cv b h1 h2 Q' q =>
          ⟨ea, _, d, c, cv, b, rfl, hea1, hdx, ⟨T.ens.x j hjl, T.ens.i j hjl⟩, h1, h2, q⟩
        have stay : ∀ o : Option V, Ex B2 A1 ∧ ∃ v5 v6 v7 v8 : Option V, [some (V.ref a), some (.ref s), some (.int (0 + (i : Int))), some v, some (.ref l), some (.int (j : Int)), some (.str (atN.getD j "")), some (.ref ea), o] = [some (V.ref a), some (.ref s), some (.int (0 + (i : Int))), some v, some (.ref l), v5, v6, v7, v8] := fun o => ⟨c14, _, _, _, o, rfl⟩
        walk_at "js"
        refine isx (.ref (He.ga K "JawError")) (.ref (He.ga K "JawError")) true (fun u r => r) (T.ens.jaw j hjl) _ ?_
        walk_at "js"
        refine isx (.ty "ValueError") (.type "ValueError") true (fun u r => r) (T.ens.val j hjl) _ ?_
        walk_at "js"
        refine isx (.ty "LookupError") (.type "LookupError") false (fun u r => r) (T.ens.look j hjl) _ ?_
        walk_at "js"
        refine w_neStr ?_
        by_cases q : j < 12
        · obtain ⟨dd, rfl, hx⟩ := hd1 q
          have nn : ¬ atN.getD j "" = "none" := (show ∀ j, j < 12 → ¬ atN.getD j "" = "none" by decide +kernel) j q
          have four : atN.getD j "" ∈ (["value", "at", "state", "limit"] : List Str) := (show ∀ j, j < 12 → atN.getD j "" ∈ (["value", "at", "state", "limit"] : List Str) by decide +kernel) j q
          have na : PySem.W.findIn K (.ref (He.ga K (enN.getD j ""))) (atN.getD j "") = some none := by
            match j, q with
            | 0, _ => exact T.na_BadRound_value
            | 1, _ => exact T.na_BadTurn_value
            | 2, _ => exact T.na_BadStanding_value
            | 3, _ => exact T.na_BadWord_value
            | 4, _ => exact T.na_BadSlack_value
            | 5, _ => exact T.na_BadRows_at
            | 6, _ => exact T.na_BadPlan_at
            | 7, _ => exact T.na_BadKinds_at
            | 8, _ => exact T.na_BadLog_at
            | 9, _ => exact T.na_BadText_at
            | 10, _ => exact T.na_BadMachine_state
            | 11, _ => exact T.na_TooMany_limit
          rw [decide_eq_false nn]
          walk_at "js"
          refine ⟨ea, _, dd, _, v, rfl, four, hea1, T.ens.x j hjl, na, c14.get hx, ?_⟩
          walk_at "js"
          refine ⟨rfl, same.mono (b2.trans c14), ?_⟩
          walk_at "js"
          exact stay _
        · have nn : atN.getD j "" = "none" := by
            rcases (by omega : j = 12 ∨ j = 13) with rfl | rfl <;> rfl
          rw [decide_eq_true nn]
          walk_at "js"
          exact stay _
      · rintro σ' C0 ⟨c0, v5, v6, v7, v8, rfl⟩
        walk_at "js"
        exact ⟨b02.trans c0, _, _, _, _, _, _, _, rfl⟩
    · rintro σ' B0 ⟨b0, v2, v3, v4, v5, v6, v7, v8, rfl⟩
      walk_at "js"
      exact kQ _

end
end J
open PySem PySem.W PySem.Calls PyProof.Rows
theorem PySem.Challenge.cw_jawturns_k37_errors_holds : PySem.Challenge.rw_jawturns_k37_errors.Holds := by
  w_on; o_law
  refine HandSHeadRun.head_any (r := OpenLaw.row PySem.Challenge.rw_jawturns_k37_errors) (q := view (OpenLaw.row PySem.Challenge.rw_jawturns_k37_errors).prog [24]) (H := J.hkL) (ob := J.obL) (M := 20000) (loose := J.looseL)
    (d := HandSHeadRun.topDef (OpenLaw.row PySem.Challenge.rw_jawturns_k37_errors).prog 24) (kwd := []) J.obL_eq
    (by kernel_rfl) (fun s => by kernel_rfl) J.runL (by kernel_rfl) (by kernel_rfl) (by kernel_rfl) (by rfl) (by first | assumption | decide +kernel) (by decide +kernel) ⟨rfl, rfl, rfl, rfl, rfl, by decide +kernel⟩ ?hw ?hc
  case hw => w_witness2
  case hc =>
    refine L2.walk_ofE (l := PySem.Challenge.rw_jawturns_k37_errors) (n := 63) (k := J.k_law) (x := "_law_script") (CX := L2.CX0) rfl (by decide) (by kernel_rfl) ⟨rfl, by decide, by decide⟩ ?F (fun _ _ _ _ z => z)
    intro w mg fa h Y G hmg0
    obtain ⟨K, KX, c⟩ := Y
    have hmg : mg ("law" : PySem.Str) = some (.ref fa) := by
      have e : (HandSHeadRun.topDef (OpenLaw.row PySem.Challenge.rw_jawturns_k37_errors).prog 24).name = ("law" : PySem.Str) := by kernel_rfl
      rw [← e]
      exact hmg0
    have T := J.txt_of KX G c
    have e := hmg.symm.trans T.m_law
    cases e
    exact ⟨K, _, J.sp_law K, KX, fun s v => T.F_law.bindsA (ps := ["_law_script"]) (fun _ _ _ _ _ _ us hl => match us, hl with | [_], _ => rfl) s [v] rfl, fun H a ns hl _ hS => ⟨a, ns, rfl, hS, hl, fun _ => rfl⟩, fun base _ _ => J.ok_law T⟩
