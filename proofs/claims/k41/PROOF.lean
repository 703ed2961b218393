import PyProof.Rows.All
import Wide.All
import OpenK.AllK
import Wide.FinOn
import HandS.ForMost
import HandS.ForExc
import HandS.ExcInit
import HandS.Wide
import HandS.IsInst
import HandS.Evl
import HandS.Defaults
import HandS.Head0
import HandS.Head1
import HandS.Head2
import HandS.HeadEnd
import HandS.HeadHook1
import HandS.HeadHook2
import HandS.HeadNt
import HandS.HeadHook4
import HandS.HeadWalk
import HandS.FStr
import KE.GoesMore
import HandS.Walk
import HandS.SortInts
import HandS.SortRule
import HandS.TupSets
import HandS.More
import HandS.Star
import HandS.MakeKwOnly
import HandS.Property
import HandS.SetBool
import PyProof.InstNe
import HandS.ExcOwn
import HandS.ExcField
import HandS.Lambda
import HandS.Strs
import HandS.SetBool
import HandS.SetFor
import KE.GoesNew
import HandS.Gcd
import HandS.DictComp
import HandS.Conv
import HandS.TupAny
import KE.KMathGC
import HandS.Head3
import Open.Pieces
import HandS.Nested
import HandS.ClsMeth
import HandS.HeadNt
import HandS.HeadHook4
import HandS.HeadWalk
import HandS.FStr
import HandS.ExcValue
import KE.KOpsOwn
import HandS.CallSlots
import KE.KExcIs
import KE.KeyNested
import KE.SortData
import HandS.Deep
import KE.DataCmp
import PySem.Challenge.RW_jawturns_k41_directions
set_option Elab.async false
set_option linter.all false
set_option maxRecDepth 100000
set_option maxHeartbeats 4000000
namespace J
open PySem L2 He
abbrev Fr1 := PySem.W.Frag
/-! ### what the top has written, by names -/
def fdOf (K : Fr1) (a : Addr) : FuncData := match K.lookup a with
  | some ⟨_, _, .func fd, _⟩ => fd
  | _ => default
abbrev Fn (K : Fr1) (x q : Str) (st : Stmt) (dvs : List V) (kws : List (Str × V)) (f : Addr) : Prop := FunD K x q (defArgs st) (defBody st) (defScope st) dvs kws f (fdOf K f)
theorem fn_at {K : Fr1} {x q : Str} {st : Stmt} {dvs : List V} {kws : List (Str × V)} {f : Addr} (h : ∃ fd, FunD K x q (defArgs st) (defBody st) (defScope st) dvs kws f fd) : Fn K x q st dvs kws f := by
  obtain ⟨fd, F⟩ := h
  obtain ⟨oc, od, dV, kV, doc, pm, an, cdv, ct, osl, e, l, r⟩ := F.ex
  have z : fdOf K f = fd := by unfold fdOf; rw [l]
  show FunD K x q _ _ _ dvs kws f (fdOf K f)
  rw [z]
  exact F
/-- an own exception class over ValueError -/
def oexB (K : Fr1) (C : Addr) : Bool := (match K.lookup C with
  | some ⟨.type "type", _, .cls cd, sl⟩ => (match cd.mro, sl.toList with
    | .ref C' :: bm, [_, _, _, _, some (.builtin n), _] => C' == C && (n == "ValueError.__new__" && (!cd.hasDel && (cd.hasDict && PySem.HandSPX.refsVE bm)))
    | _, _ => false)
  | _ => false) && (eqO (PySem.W.findIn K (.ref C) "__setattr__") (some (some (.builtin "object.__setattr__"))) && (decide (PySem.W.subIn K (.ref C) (.type "BaseException") = some true) &&
    (decide (PySem.W.typeIn K (.ref C) = some (.type "type")) && PySem.W.keepIn K (.ref C))))
theorem oexB_ok {K : Fr1} {C : Addr} (h : oexB K C = true) : OexC K C := by
  obtain ⟨h1, h2⟩ := ba h
  obtain ⟨h3, h4⟩ := ba h2
  obtain ⟨h5, h6⟩ := ba h4
  obtain ⟨h7, h8⟩ := ba h6
  refine ⟨?_, eqO_ok h3, of_decide_eq_true h5, of_decide_eq_true h7, h8⟩
  split at h1
  · rename_i dd cd sl ho
    split at h1
    · rename_i C' bm k0 k1 k2 k3 n k5 hm hs
      simp only [Bool.and_eq_true, beq_iff_eq, Bool.not_eq_true'] at h1
      obtain ⟨rfl, rfl, hdel, hhd, ht⟩ := h1
      obtain ⟨nm, bs, mro, ns, qn, hd, sn, sub, ab, col, del⟩ := cd
      dsimp only at hm hdel hhd
      subst hm hdel hhd
      have hsl : sl = #[k0, k1, k2, k3, some (.builtin "ValueError.__new__"), k5] := by
        obtain ⟨l⟩ := sl
        simp only at hs
        rw [hs]
      subst hsl
      exact ⟨nm, qn, ns, bs, bm, sn, sub, ab, col, dd, k0, k1, k2, k3, k5, ho, ht⟩
    · cases h1
  · cases h1
/-- the def behind a property (T: "property") -/
def pf (K : Fr1) (C : Addr) (T : String) (m : Str) : Addr := match PySem.W.recIn K (ma K C m) T with
  | some (.ref f :: _) => f
  | _ => 0
def prpB (K : Fr1) (C : Addr) (m : Str) : Bool := eqO (PySem.W.findIn K (.ref C) m) (some (some (.ref (ma K C m)))) && (eqO (PySem.W.specialIn K (.ref (ma K C m)) "__get__") (some (some (.builtin "property.__get__"))) &&
  (decide (PySem.W.takesIn K (.ref (ma K C m)) = some true) && (match PySem.W.recIn K (ma K C m) "property" with
    | some (.ref _ :: _) => true
    | _ => false)))
theorem prpB_ok {K : Fr1} {C : Addr} {m : Str} (h : prpB K C m = true) : PropOf K C m (ma K C m) (pf K C "property" m) := by
  obtain ⟨h1, h2⟩ := ba h
  obtain ⟨h3, h4⟩ := ba h2
  obtain ⟨h5, h6⟩ := ba h4
  refine ⟨eqO_ok h1, eqO_ok h3, of_decide_eq_true h5, ?_⟩
  split at h6
  · rename_i f rest e
    refine ⟨rest, ?_⟩
    unfold pf
    rw [e]
  · cases h6
/-- a name of a module's that the top imports -/
def bfnB (K : Fr1) (x : Str) (i : String) : Bool := eqO (PySem.W.nsIn K mainGlobals x) (some (some (.builtin i)))
theorem bfnB_ok {K : Fr1} {h : Heap} {mg : Str → Option Value} (X : K.In h) (G : h.Ns mainGlobals mg) {x : Str} {i : String} (c : bfnB K x i = true) : mg x = some (.builtin i) := PySem.W.mg_of X G (eqO_ok c)
/-- a classmethod's record and its def; a class whose attributes are read plainly -/
def cmtB (K : Fr1) (x m : Str) : Bool := He5.wrapB K (ga K x) "classmethod" "classmethod.__get__" m && PySem.W.fnIn K (He5.wf K (ga K x) "classmethod" m)
theorem cmtB_ok {K : Fr1} {x m : Str} (h : cmtB K x m = true) : ClX.CMet K (ga K x) (.type "type") m (ma K (ga K x) m) (He5.wf K (ga K x) "classmethod" m) := He5.cmet_of (ba h).1 (ba h).2
/-- C.m is a staticmethod: its record at p, its def at g -/
structure SMet (K : PySem.W.Frag) (C : Addr) (mc : Value) (m : Str) (p g : Addr) : Prop where
  at_ : PySem.W.findCls K (.ref C) mc m = some (.get (.builtin "staticmethod.__get__") (.ref p) .none (.ref C))
  rc : ∃ rest, PySem.W.recIn K p "staticmethod" = some (.ref g :: rest)
  ke : PySem.W.keepIn K (.ref g) = true
def smtB (K : Fr1) (x m : Str) : Bool := He5.wrapB K (ga K x) "staticmethod" "staticmethod.__get__" m && PySem.W.keepIn K (.ref (He5.wf K (ga K x) "staticmethod" m))
theorem smtB_ok {K : Fr1} {x m : Str} (h : smtB K x m = true) : SMet K (ga K x) (.type "type") m (ma K (ga K x) m) (He5.wf K (ga K x) "staticmethod" m) := ⟨(He5.wrapB_ok (ba h).1).1, (He5.wrapB_ok (ba h).1).2, (ba h).2⟩
theorem crdB_ok {K : Fr1} {C : Addr} (h : PySem.W.readsIn K C (.type "type") = true) : ClX.CRead K C (.type "type") := by
  refine ⟨h, ?_⟩
  simp only [PySem.W.readsIn, Bool.and_eq_true, beq_iff_eq] at h
  obtain ⟨⟨⟨⟨_, ty⟩, at_⟩, _⟩, _⟩ := h
  simp only [PySem.W.specialIn, ty, Option.bind_some, at_]
/-- facts of the kinds: He's, and own ones -/
inductive Fk where
  | cmt (x m : Str)
  | smt (x m : Str)
  | crd (x : Str)
  | nsq (x : Str)
  | bfn (x : Str) (i : String)
  | tup (x : Str) (ss : List Str)
  | bne (x : Str)
  | bop (x : Str) (n : String)
  | xf (x : Str)
  | ity (x : Str)
  | prp (x m : Str)
  | fa (f : Fa)
  | oex (x : Str)
  | tyf (x m : Str)
  | exm (x y : Str) (b : Bool)
  | nda (x : Str)
  | ens (xs : List Str)
  | exn (x : Str)
  | slf (x : Str)
def bneB (K : Fr1) (C : Addr) : Bool := eqO (PySem.W.findIn K (.ref C) "__ne__") (some (some (.builtin "object.__ne__"))) && decide (PySem.W.subIn K (.ref C) (.type "object") = some true)
theorem bneB_ok {K : Fr1} {C : Addr} (h : bneB K C = true) : PySem.W.findIn K (.ref C) "__ne__" = some (some (.builtin "object.__ne__")) ∧ PySem.W.subIn K (.ref C) (.type "object") = some true :=
  ⟨eqO_ok (ba h).1, of_decide_eq_true (ba h).2⟩
/-- an operator of the text's own class, the right operand an int -/
def refO : Option (Option Value) → Bool
  | some none => true
  | some (some (.ref _)) => true
  | _ => false
theorem refO_ok {o : Option (Option Value)} (h : refO o = true) : ∃ r, o = some r ∧ (r = none ∨ ∃ g : Addr, r = some (.ref g)) := by
  unfold refO at h
  split at h
  · exact ⟨_, rfl, .inl rfl⟩
  · exact ⟨_, rfl, .inr ⟨_, rfl⟩⟩
  · cases h
theorem someO_ok {α : Type} {o : Option α} (h : o.isSome = true) : ∃ r, o = some r := Option.isSome_iff_exists.mp h
structure BopC (K : Fr1) (C : Addr) (n : String) : Prop where
  fst : PySem.W.selfFirst K C = true
  rc : ∃ r, PySem.W.findIn K (.ref C) (PySem.dunderR n) = some r ∧ (r = none ∨ ∃ g : Addr, r = some (.ref g))
  fo : ∃ r, PySem.W.findIn K (.type "int") (PySem.dunder n) = some r
  ro : ∃ r, PySem.W.findIn K (.type "int") (PySem.dunderR n) = some r
  sub : PySem.W.subIn K (.type "int") (.ref C) = some false
def bopB (K : Fr1) (C : Addr) (n : String) : Bool := PySem.W.selfFirst K C && (refO (PySem.W.findIn K (.ref C) (PySem.dunderR n)) && ((PySem.W.findIn K (.type "int") (PySem.dunder n)).isSome && ((PySem.W.findIn K (.type "int") (PySem.dunderR n)).isSome && decide (PySem.W.subIn K (.type "int") (.ref C) = some false))))
theorem bopB_ok {K : Fr1} {C : Addr} {n : String} (h : bopB K C n = true) : BopC K C n := by
  obtain ⟨h1, h⟩ := ba h
  obtain ⟨h2, h⟩ := ba h
  obtain ⟨h3, h⟩ := ba h
  obtain ⟨h4, h⟩ := ba h
  exact ⟨h1, refO_ok h2, someO_ok h3, someO_ok h4, of_decide_eq_true h⟩
/-- a tuple of texts that the top has made -/
def strsB : List Value → List Str → Bool
  | [], [] => true
  | .str y _ :: us, x :: xs => decide (y = x) && strsB us xs
  | _, _ => false
theorem strsB_ok : ∀ {us : List Value} {xs : List Str}, strsB us xs = true → Vals (xs.map V.str) us
  | [], [], _ => .nil
  | .str y t :: us, x :: xs, h => by
    obtain ⟨h1, h2⟩ := ba h
    cases of_decide_eq_true h1
    exact .cons ⟨t, rfl⟩ (strsB_ok h2)
  | [], _ :: _, h => by cases h
  | .none :: _, _, h => by cases h
  | .bool _ :: _, _, h => by cases h
  | .int _ _ :: _, _, h => by cases h
  | .ref _ :: _, _, h => by cases h
  | .type _ :: _, _, h => by cases h
  | .builtin _ :: _, _, h => by cases h
  | .str _ _ :: _, [], h => by cases h
  | .float _ _ :: _, _, h => by cases h
  | .bytes _ _ :: _, _, h => by cases h
  | .ellipsis :: _, _, h => by cases h
  | .notImplemented :: _, _, h => by cases h
def tupB (K : Fr1) (a : Addr) (ss : List Str) : Bool := decide (ss.length ≤ sizeLine) && (match K.lookup a with
  | some ⟨.type "tuple", _, .seq its _, _⟩ => strsB its.toList ss
  | _ => false)
theorem tupB_ok {K : Fr1} {a : Addr} {ss : List Str} (h : tupB K a ss = true) (H : Hp) : SqT K H a (ss.map V.str) := by
  obtain ⟨h0, h1⟩ := ba h
  split at h1
  · rename_i d its n sl ho
    have v := strsB_ok h1
    refine .inr ⟨_, its, n, ho, rfl, rfl, ?_, v⟩
    have e := v.length
    rw [List.length_map] at e
    rw [← Array.length_toList, ← e]
    exact of_decide_eq_true h0
  · cases h1
/-- what isinstance asks of an own class -/
structure ITy (K : Fr1) (C : Addr) : Prop where
  ha : PySem.W.findIn K (.ref C) "__class__" = some (some (.builtin "object.__class__"))
  hn : PySem.W.specialIn K (.builtin "object.__class__") "__get__" = some (some (.builtin "getset_descriptor.__get__"))
  ht : PySem.W.takesIn K (.builtin "object.__class__") = some true
  hm : PySem.W.mroIn K C (.type "object") = some true
def ityB (K : Fr1) (C : Addr) : Bool := eqO (PySem.W.findIn K (.ref C) "__class__") (some (some (.builtin "object.__class__"))) && (eqO (PySem.W.specialIn K (.builtin "object.__class__") "__get__") (some (some (.builtin "getset_descriptor.__get__"))) &&
  (decide (PySem.W.takesIn K (.builtin "object.__class__") = some true) && decide (PySem.W.mroIn K C (.type "object") = some true)))
theorem ityB_ok {K : Fr1} {C : Addr} (h : ityB K C = true) : ITy K C := by
  obtain ⟨h1, h2⟩ := ba h
  obtain ⟨h3, h4⟩ := ba h2
  obtain ⟨h5, h6⟩ := ba h4
  exact ⟨eqO_ok h1, eqO_ok h3, of_decide_eq_true h5, of_decide_eq_true h6⟩
/-- things of a plain class are of no own class -/
structure NDat (K : Fr1) (C : Addr) : Prop where
  no : ∀ n ∈ (["NoneType", "bool", "int", "str", "list", "tuple", "dict"] : List String), PySem.W.kitOne K (.type n) (.ref C) = some false
def ndB (K : Fr1) (C : Addr) : Bool := (["NoneType", "bool", "int", "str", "list", "tuple", "dict"] : List String).all fun n => decide (PySem.W.kitOne K (.type n) (.ref C) = some false)
theorem ndB_ok {K : Fr1} {C : Addr} (h : ndB K C = true) : NDat K C := ⟨fun n hn => of_decide_eq_true (List.all_eq_true.mp h n hn)⟩
/-- errors held as values: what isinstance tells of a list of classes -/
structure EnsC (K : Fr1) (xs : List Str) : Prop where
  pair : ∀ i j, i < xs.length → j < xs.length → PySem.W.kitOne K (.ref (ga K (xs.getD i ""))) (.ref (ga K (xs.getD j ""))) = some (decide (i = j))
  x : ∀ i, i < xs.length → XfC K (ga K (xs.getD i ""))
  i : ∀ i, i < xs.length → ITy K (ga K (xs.getD i ""))
  jaw : ∀ i, i < xs.length → PySem.W.kitOne K (.ref (ga K (xs.getD i ""))) (.ref (ga K "JawError")) = some true
  val : ∀ i, i < xs.length → PySem.W.kitOne K (.ref (ga K (xs.getD i ""))) (.type "ValueError") = some true
  look : ∀ i, i < xs.length → PySem.W.kitOne K (.ref (ga K (xs.getD i ""))) (.type "LookupError") = some false
def eachB (xs : List Str) (p : Nat → Bool) : Bool := (List.range xs.length).all p
theorem eachB_ok {xs : List Str} {p : Nat → Bool} (h : eachB xs p = true) (i : Nat) (hi : i < xs.length) : p i = true := List.all_eq_true.mp h i (List.mem_range.mpr hi)
def ensB (K : Fr1) (xs : List Str) : Bool := eachB xs fun i => (eachB xs fun j => decide (PySem.W.kitOne K (.ref (ga K (xs.getD i ""))) (.ref (ga K (xs.getD j ""))) = some (decide (i = j)))) &&
  (xfB K (ga K (xs.getD i "")) && (ityB K (ga K (xs.getD i "")) && (decide (PySem.W.kitOne K (.ref (ga K (xs.getD i ""))) (.ref (ga K "JawError")) = some true) &&
    (decide (PySem.W.kitOne K (.ref (ga K (xs.getD i ""))) (.type "ValueError") = some true) && decide (PySem.W.kitOne K (.ref (ga K (xs.getD i ""))) (.type "LookupError") = some false)))))
theorem ensB_ok {K : Fr1} {xs : List Str} (h : ensB K xs = true) : EnsC K xs := by
  have e := eachB_ok h
  have e2 := fun i hi => (ba (e i hi)).2
  have e3 := fun i hi => (ba (e2 i hi)).2
  have e4 := fun i hi => (ba (e3 i hi)).2
  have e5 := fun i hi => (ba (e4 i hi)).2
  exact ⟨fun i j hi hj => of_decide_eq_true (eachB_ok (ba (e i hi)).1 j hj), fun i hi => xfB_ok (ba (e2 i hi)).1, fun i hi => ityB_ok (ba (e3 i hi)).1, fun i hi => of_decide_eq_true (ba (e4 i hi)).1, fun i hi => of_decide_eq_true (ba (e5 i hi)).1, fun i hi => of_decide_eq_true (ba (e5 i hi)).2⟩
/-- an own error without an own __init__ -/
structure ExnC (K : Fr1) (C : Addr) : Prop where
  q : PySem.W.excIn K C [.type "ValueError", .type "Exception", .type "BaseException", .type "object"] "ValueError.__new__" = true
  k : PySem.W.keepIn K (.ref C) = true
  s : PySem.W.subIn K (.ref C) (.type "BaseException") = some true
  t : PySem.W.typeIn K (.ref C) = some (.type "type")
def exnB (K : Fr1) (C : Addr) : Bool := PySem.W.excIn K C [.type "ValueError", .type "Exception", .type "BaseException", .type "object"] "ValueError.__new__" && (PySem.W.keepIn K (.ref C) && (decide (PySem.W.subIn K (.ref C) (.type "BaseException") = some true) && decide (PySem.W.typeIn K (.ref C) = some (.type "type"))))
theorem exnB_ok {K : Fr1} {C : Addr} (h : exnB K C = true) : ExnC K C := by
  obtain ⟨h1, h⟩ := ba h
  obtain ⟨h2, h⟩ := ba h
  obtain ⟨h3, h4⟩ := ba h
  exact ⟨h1, h2, of_decide_eq_true h3, of_decide_eq_true h4⟩
def Fk.ok (K : Fr1) : Fk → Bool
  | .cmt x m => cmtB K x m
  | .smt x m => smtB K x m
  | .crd x => PySem.W.readsIn K (ga K x) (.type "type")
  | .nsq x => PySem.W.noSeq K (ga K x)
  | .bfn x i => bfnB K x i
  | .ity x => ityB K (ga K x)
  | .bne x => bneB K (ga K x)
  | .bop x n => bopB K (ga K x) n
  | .tup x ss => tupB K (ga K x) ss
  | .xf x => xfB K (ga K x)
  | .prp x m => prpB K (ga K x) m
  | .fa f => f.ok K
  | .oex x => oexB K (ga K x)
  | .tyf x m => decide (PySem.W.typeIn K (.ref (ma K (ga K x) m)) = some (.type "function"))
  | .nda x => ndB K (ga K x)
  | .ens xs => ensB K xs
  | .exn x => exnB K (ga K x)
  | .slf x => PySem.W.selfFirst K (ga K x)
  | .exm x y b => decide (PySem.W.exmOne K (.ref (ga K x)) (.ref (ga K y)) = some b)
abbrev DefA := He5.DefA
def obsJ (fa : List Fk) (fn : List DefA) (K : Fr1) : He.AlD := ((fa.all fun f => f.ok K) && fn.all fun d => d.ok K, fn.map fun d => He5.fnA K (d.at_ K))
def SaysJ (fa : List Fk) (fn : List DefA) (K : Fr1) : Prop := obsJ fa fn K = He5.valA fn
def obsJG (n : Nat) (fa : List Fk) (fn : List DefA) (g : Addr → Option Obj) : He.AlD := obsJ fa fn (frG g (He5.asA g n))
def hookJ (n : Nat) (fa : List Fk) (fn : List DefA) : PySem.W.Hook where
  α := He.AlD
  obs := fun s => obsJG n fa fn s.heap.get?
  val := fun _ => He5.valA fn
  says := fun _ h => ∃ K : Fr1, K.In h ∧ SaysJ fa fn K
  of := fun _ _ e => ⟨_, frG_in, e⟩
  keeps := fun _ _ _ ⟨K, hK, c⟩ k => ⟨K, PySem.W.Frag.In.keeps hK k, c⟩
theorem obsJG_eq {n : Nat} {fa : List Fk} {fn : List DefA} {g : Addr → Option Obj} {s : Shared} (h : ∀ a, g a = s.heap.get? a) : obsJG n fa fn g = (hookJ n fa fn).obs s := by
  have e : g = s.heap.get? := funext h
  rw [e] <;> rfl
/-! ### defs that make defs: their code objects' tables are told apart, and are empty -/
def cdOf (K : Fr1) (f : Addr) : Addr := match (fdOf K f).code with
  | .ref c => c
  | _ => 0
def ctOf (K : Fr1) (f : Addr) : Addr := He.tabOf K (cdOf K f)
theorem cdOf_eq {K : Fr1} {f c : Addr} (h : (fdOf K f).code = .ref c) : cdOf K f = c := by
  unfold cdOf
  rw [h]
def isTab0 (g : Addr → Option Obj) (K : Fr1) (f : Addr) : Bool := PySem.W.codeHdIn K (cdOf K f) (ctOf K f) && ((g (ctOf K f)).map emptyTab).getD false
def obsKT (fa : List Fk) (fn : List DefA) (tf : List (Fr1 → Addr)) (g : Addr → Option Obj) (K : Fr1) : He.AlD := ((obsJ fa fn K).1 && tf.all fun p => isTab0 g K (p K), (obsJ fa fn K).2)
def obsKTG (n : Nat) (fa : List Fk) (fn : List DefA) (tf : List (Fr1 → Addr)) (g : Addr → Option Obj) : He.AlD := obsKT fa fn tf g (frT g (He5.asA g n))
structure SaysKT (fa : List Fk) (fn : List DefA) (tf : List (Fr1 → Addr)) (h : Heap) (K : Fr1) : Prop where
  s : SaysJ fa fn K
  hd : ∀ p ∈ tf, PySem.W.codeHdIn K (cdOf K (p K)) (ctOf K (p K)) = true
  out : ∀ p ∈ tf, K.lookup (ctOf K (p K)) = none
  mt : ∀ p ∈ tf, h.get? (ctOf K (p K)) = some { cls := .none, data := .fields #[] }
theorem saysKT_as {as : List Addr} {fa : List Fk} {fn : List DefA} {tf : List (Fr1 → Addr)} {h : Heap} (e : obsKT fa fn tf h.get? (frT h.get? as) = He5.valA fn) : SaysKT fa fn tf h (frT h.get? as) := by
  obtain ⟨K, hK⟩ : ∃ K, K = frT h.get? as := ⟨_, rfl⟩
  rw [← hK] at e ⊢
  have e1 : ((obsJ fa fn K).1 && tf.all fun p => isTab0 h.get? K (p K)) = true := congrArg Prod.fst e
  have e2 : (obsJ fa fn K).2 = fn.map He5.DefA.val := congrArg Prod.snd e
  obtain ⟨f1, f2⟩ := ba e1
  have each : ∀ p ∈ tf, PySem.W.codeHdIn K (cdOf K (p K)) (ctOf K (p K)) = true ∧ ∃ o, h.get? (ctOf K (p K)) = some o ∧ emptyTab o = true := fun p hp => by
    obtain ⟨g1, g2⟩ := ba (List.all_eq_true.mp f2 p hp)
    cases q : h.get? (ctOf K (p K)) with
    | none =>
      rw [q] at g2
      cases g2
    | some o =>
      rw [q] at g2
      exact ⟨g1, o, rfl, g2⟩
  refine ⟨Prod.ext f1 e2, fun p hp => (each p hp).1, fun p hp => ?_, fun p hp => ?_⟩
  · obtain ⟨_, o, q, z⟩ := each p hp
    have := frT_none (as := as) q z
    rwa [← hK] at this
  · obtain ⟨_, o, q, z⟩ := each p hp
    rw [q, emptyTab_eq z]
theorem saysKT_of {n : Nat} {fa : List Fk} {fn : List DefA} {tf : List (Fr1 → Addr)} {h : Heap} (e : obsKTG n fa fn tf h.get? = He5.valA fn) : SaysKT fa fn tf h (frT h.get? (He5.asA h.get? n)) := saysKT_as e
def hookKT (n : Nat) (fa : List Fk) (fn : List DefA) (tf : List (Fr1 → Addr)) : PySem.W.Hook where
  α := He.AlD
  obs := fun s => obsKTG n fa fn tf s.heap.get?
  val := fun _ => He5.valA fn
  says := fun _ h => ∃ K : Fr1, K.In h ∧ SaysKT fa fn tf h K
  of := fun _ _ e => ⟨_, frT_in, saysKT_of e⟩
  keeps := fun _ _ _ ⟨K, hK, c⟩ k => ⟨K, PySem.W.Frag.In.keeps hK k, c.s, c.hd, c.out, fun p hp => k _ _ (c.mt p hp)⟩
theorem obsKTG_eq {n : Nat} {fa : List Fk} {fn : List DefA} {tf : List (Fr1 → Addr)} {g : Addr → Option Obj} {s : Shared} (h : ∀ a, g a = s.heap.get? a) : obsKTG n fa fn tf g = (hookKT n fa fn tf).obs s := by
  obtain rfl : g = s.heap.get? := funext h
  rfl
/-! ### the same looks, off a tree that is made of the heap once -/
def offT (f : (Addr → Option Obj) → He.AlD) (s : Shared) : He.AlD := match HandSHeadRun.treeOf s with
  | some x => f (HandSHeadRun.getT x)
  | none => (false, [])
theorem offT_eq {f : (Addr → Option Obj) → He.AlD} {fn : List DefA} {s : Shared} (h : offT f s = He5.valA fn) : f s.heap.get? = He5.valA fn := by
  unfold offT at h
  cases e : HandSHeadRun.treeOf s with
  | none =>
    rw [e] at h
    cases (congrArg Prod.fst h : false = true)
  | some x =>
    rw [e] at h
    have g : HandSHeadRun.getT x = s.heap.get? := funext fun a => by rw [HandSHeadRun.getT_eq, (HandSHeadRun.treeOf_eq e).1]
    rw [← g]
    exact h
/-- all addresses below n are looked at: nothing is to be reached -/
def hookJP (n : Nat) (fa : List Fk) (fn : List DefA) : PySem.W.Hook where
  α := He.AlD
  obs := offT fun g => obsJ fa fn (frG g (List.range n))
  val := fun _ => He5.valA fn
  says := fun _ h => ∃ K : Fr1, K.In h ∧ SaysJ fa fn K
  of := fun _ s e => ⟨_, frG_in, offT_eq e⟩
  keeps := (hookJ n fa fn).keeps
def hookKTP (n : Nat) (fa : List Fk) (fn : List DefA) (tf : List (Fr1 → Addr)) : PySem.W.Hook where
  α := He.AlD
  obs := offT fun g => obsKT fa fn tf g (frT g (List.range n))
  val := fun _ => He5.valA fn
  says := fun _ h => ∃ K : Fr1, K.In h ∧ SaysKT fa fn tf h K
  of := fun _ s e => ⟨_, frT_in, saysKT_as (as := List.range n) (offT_eq e)⟩
  keeps := (hookKT n fa fn tf).keeps
section
variable {fa : List Fk} {fn : List DefA} {K : Fr1}
theorem SaysJ.fact (c : SaysJ fa fn K) (i : Nat) {f : Fk} (h : fa[i]? = some f := by rfl) : f.ok K = true := by
  have c1 := (ba (show ((fa.all fun f => f.ok K) && fn.all fun d => d.ok K) = true from congrArg (fun z : He.AlD => z.1) c)).1
  exact List.all_eq_true.mp c1 f (List.mem_of_getElem? h)
theorem SaysJ.def_ (c : SaysJ fa fn K) (i : Nat) {d : DefA} (h : fn[i]? = some d := by rfl) : ∃ fd, FunD K d.name d.qual d.params d.body d.scope (d.dvs K) (d.kws K) (d.at_ K) fd := by
  have c2 := (ba (show ((fa.all fun f => f.ok K) && fn.all fun d => d.ok K) = true from congrArg (fun z : He.AlD => z.1) c)).2
  have e : fn.map (fun d => He5.fnA K (d.at_ K)) = fn.map He5.DefA.val := congrArg (fun z : He.AlD => z.2) c
  have e2 : (fn.map fun d => He5.fnA K (d.at_ K))[i]? = (fn.map He5.DefA.val)[i]? := by rw [e]
  rw [List.getElem?_map, List.getElem?_map, h] at e2
  exact He5.DefA.funD (Option.some.inj e2) (List.all_eq_true.mp c2 d (List.mem_of_getElem? h))
end
end J

namespace J
open PySem L2
/-! ### the text by places -/
def top (i : Nat) : Stmt := PySem.Challenge.pw_jawturns_k41_directions.main.body.getD i (.Pass ⟨0, 0, 0, 0⟩)
abbrev s_BadTurn_p__init__ : Stmt := inClass (top 3) 0
abbrev N_BadTurn_p__init__ : List Str := ["self", "value"]
abbrev P_BadTurn_p__init__ : List Str := ["self", "value"]
theorem sc_BadTurn_p__init__ : FnScope N_BadTurn_p__init__ P_BadTurn_p__init__ (defScope s_BadTurn_p__init__) := ⟨rfl, rfl, rfl, by decide +kernel, rfl, by decide +kernel, by decide +kernel⟩
abbrev a_BadTurn_p__init__ (K : Fr1) : Addr := He.ma K (He.ga K "BadTurn") "__init__"
abbrev d_BadTurn_p__init__ (K : Fr1) : FuncData := fdOf K (a_BadTurn_p__init__ K)
abbrev s_is_integer : Stmt := top 5
abbrev N_is_integer : List Str := ["thing"]
abbrev P_is_integer : List Str := ["thing"]
theorem sc_is_integer : FnScope N_is_integer P_is_integer (defScope s_is_integer) := ⟨rfl, rfl, rfl, by decide +kernel, rfl, by decide +kernel, by decide +kernel⟩
abbrev a_is_integer (K : Fr1) : Addr := He.ga K "is_integer"
abbrev d_is_integer (K : Fr1) : FuncData := fdOf K (a_is_integer K)
abbrev s_is_row : Stmt := top 6
abbrev N_is_row : List Str := ["thing"]
abbrev P_is_row : List Str := ["thing"]
theorem sc_is_row : FnScope N_is_row P_is_row (defScope s_is_row) := ⟨rfl, rfl, rfl, by decide +kernel, rfl, by decide +kernel, by decide +kernel⟩
abbrev a_is_row (K : Fr1) : Addr := He.ga K "is_row"
abbrev d_is_row (K : Fr1) : FuncData := fdOf K (a_is_row K)
abbrev s_is_direction : Stmt := top 8
abbrev N_is_direction : List Str := ["thing"]
abbrev P_is_direction : List Str := ["thing"]
theorem sc_is_direction : FnScope N_is_direction P_is_direction (defScope s_is_direction) := ⟨rfl, rfl, rfl, by decide +kernel, rfl, by decide +kernel, by decide +kernel⟩
abbrev a_is_direction (K : Fr1) : Addr := He.ga K "is_direction"
abbrev d_is_direction (K : Fr1) : FuncData := fdOf K (a_is_direction K)
abbrev s_checked : Stmt := top 9
abbrev N_checked : List Str := ["thing"]
abbrev P_checked : List Str := ["thing"]
theorem sc_checked : FnScope N_checked P_checked (defScope s_checked) := ⟨rfl, rfl, rfl, by decide +kernel, rfl, by decide +kernel, by decide +kernel⟩
abbrev a_checked (K : Fr1) : Addr := He.ga K "checked"
abbrev d_checked (K : Fr1) : FuncData := fdOf K (a_checked K)
abbrev s_lowered : Stmt := top 10
abbrev N_lowered : List Str := ["a", "b", "by"]
abbrev P_lowered : List Str := ["a", "b"]
theorem sc_lowered : FnScope N_lowered P_lowered (defScope s_lowered) := ⟨rfl, rfl, rfl, by decide +kernel, rfl, by decide +kernel, by decide +kernel⟩
abbrev a_lowered (K : Fr1) : Addr := He.ga K "lowered"
abbrev d_lowered (K : Fr1) : FuncData := fdOf K (a_lowered K)
abbrev s_least : Stmt := top 11
abbrev N_least : List Str := ["d"]
abbrev P_least : List Str := ["d"]
theorem sc_least : FnScope N_least P_least (defScope s_least) := ⟨rfl, rfl, rfl, by decide +kernel, rfl, by decide +kernel, by decide +kernel⟩
abbrev a_least (K : Fr1) : Addr := He.ga K "least"
abbrev d_least (K : Fr1) : FuncData := fdOf K (a_least K)
abbrev s_times : Stmt := top 12
abbrev N_times : List Str := ["d", "e", "a", "b", "x", "y"]
abbrev P_times : List Str := ["d", "e"]
theorem sc_times : FnScope N_times P_times (defScope s_times) := ⟨rfl, rfl, rfl, by decide +kernel, rfl, by decide +kernel, by decide +kernel⟩
abbrev a_times (K : Fr1) : Addr := He.ga K "times"
abbrev d_times (K : Fr1) : FuncData := fdOf K (a_times K)
abbrev s_back : Stmt := top 13
abbrev N_back : List Str := ["d", "a", "b"]
abbrev P_back : List Str := ["d"]
theorem sc_back : FnScope N_back P_back (defScope s_back) := ⟨rfl, rfl, rfl, by decide +kernel, rfl, by decide +kernel, by decide +kernel⟩
abbrev a_back (K : Fr1) : Addr := He.ga K "back"
abbrev d_back (K : Fr1) : FuncData := fdOf K (a_back K)
abbrev s_opposite : Stmt := top 14
abbrev N_opposite : List Str := ["d", "a", "b"]
abbrev P_opposite : List Str := ["d"]
theorem sc_opposite : FnScope N_opposite P_opposite (defScope s_opposite) := ⟨rfl, rfl, rfl, by decide +kernel, rfl, by decide +kernel, by decide +kernel⟩
abbrev a_opposite (K : Fr1) : Addr := He.ga K "opposite"
abbrev d_opposite (K : Fr1) : FuncData := fdOf K (a_opposite K)
abbrev s_is_late : Stmt := top 15
abbrev N_is_late : List Str := ["d"]
abbrev P_is_late : List Str := ["d"]
theorem sc_is_late : FnScope N_is_late P_is_late (defScope s_is_late) := ⟨rfl, rfl, rfl, by decide +kernel, rfl, by decide +kernel, by decide +kernel⟩
abbrev a_is_late (K : Fr1) : Addr := He.ga K "is_late"
abbrev d_is_late (K : Fr1) : FuncData := fdOf K (a_is_late K)
abbrev s_earlier : Stmt := top 16
abbrev N_earlier : List Str := ["one", "two"]
abbrev P_earlier : List Str := ["one", "two"]
theorem sc_earlier : FnScope N_earlier P_earlier (defScope s_earlier) := ⟨rfl, rfl, rfl, by decide +kernel, rfl, by decide +kernel, by decide +kernel⟩
abbrev a_earlier (K : Fr1) : Addr := He.ga K "earlier"
abbrev d_earlier (K : Fr1) : FuncData := fdOf K (a_earlier K)
abbrev s_ahead : Stmt := top 17
abbrev N_ahead : List Str := ["d", "e"]
abbrev P_ahead : List Str := ["d", "e"]
theorem sc_ahead : FnScope N_ahead P_ahead (defScope s_ahead) := ⟨rfl, rfl, rfl, by decide +kernel, rfl, by decide +kernel, by decide +kernel⟩
abbrev a_ahead (K : Fr1) : Addr := He.ga K "ahead"
abbrev d_ahead (K : Fr1) : FuncData := fdOf K (a_ahead K)
abbrev s_ascending : Stmt := top 18
abbrev N_ascending : List Str := ["row", "found", "d", "one", "at"]
abbrev P_ascending : List Str := ["row"]
theorem sc_ascending : FnScope N_ascending P_ascending (defScope s_ascending) := ⟨rfl, rfl, rfl, by decide +kernel, rfl, by decide +kernel, by decide +kernel⟩
abbrev a_ascending (K : Fr1) : Addr := He.ga K "ascending"
abbrev d_ascending (K : Fr1) : FuncData := fdOf K (a_ascending K)
abbrev s_turned_back : Stmt := top 19
abbrev N_turned_back : List Str := ["d", "e"]
abbrev P_turned_back : List Str := ["d", "e"]
theorem sc_turned_back : FnScope N_turned_back P_turned_back (defScope s_turned_back) := ⟨rfl, rfl, rfl, by decide +kernel, rfl, by decide +kernel, by decide +kernel⟩
abbrev a_turned_back (K : Fr1) : Addr := He.ga K "turned_back"
abbrev d_turned_back (K : Fr1) : FuncData := fdOf K (a_turned_back K)
abbrev s_is_east : Stmt := top 20
abbrev N_is_east : List Str := ["d"]
abbrev P_is_east : List Str := ["d"]
theorem sc_is_east : FnScope N_is_east P_is_east (defScope s_is_east) := ⟨rfl, rfl, rfl, by decide +kernel, rfl, by decide +kernel, by decide +kernel⟩
abbrev a_is_east (K : Fr1) : Addr := He.ga K "is_east"
abbrev d_is_east (K : Fr1) : FuncData := fdOf K (a_is_east K)
abbrev s_inside : Stmt := top 21
abbrev N_inside : List Str := ["one", "low", "high", "end", "place"]
abbrev P_inside : List Str := ["one", "low", "high"]
theorem sc_inside : FnScope N_inside P_inside (defScope s_inside) := ⟨rfl, rfl, rfl, by decide +kernel, rfl, by decide +kernel, by decide +kernel⟩
abbrev a_inside (K : Fr1) : Addr := He.ga K "inside"
abbrev d_inside (K : Fr1) : FuncData := fdOf K (a_inside K)
abbrev s_within : Stmt := top 22
abbrev N_within : List Str := ["d", "low", "high"]
abbrev P_within : List Str := ["d", "low", "high"]
theorem sc_within : FnScope N_within P_within (defScope s_within) := ⟨rfl, rfl, rfl, by decide +kernel, rfl, by decide +kernel, by decide +kernel⟩
abbrev a_within (K : Fr1) : Addr := He.ga K "within"
abbrev d_within (K : Fr1) : FuncData := fdOf K (a_within K)
abbrev s_law_state : Stmt := top 24
abbrev N_law_state : List Str := ["_law_script"]
abbrev P_law_state : List Str := ["_law_script"]
theorem sc_law_state : FnScope N_law_state P_law_state (defScope s_law_state) := ⟨rfl, rfl, rfl, by decide +kernel, rfl, by decide +kernel, by decide +kernel⟩
abbrev a_law_state (K : Fr1) : Addr := He.ga K "_law_state"
abbrev d_law_state (K : Fr1) : FuncData := fdOf K (a_law_state K)
abbrev s_law_draw : Stmt := top 25
abbrev N_law_draw : List Str := ["_law_state_here", "_law_many", "_law_digit", "_law_cell", "_law_number_here"]
abbrev P_law_draw : List Str := ["_law_state_here", "_law_many"]
theorem sc_law_draw : FnScope N_law_draw P_law_draw (defScope s_law_draw) := ⟨rfl, rfl, rfl, by decide +kernel, rfl, by decide +kernel, by decide +kernel⟩
abbrev a_law_draw (K : Fr1) : Addr := He.ga K "_law_draw"
abbrev d_law_draw (K : Fr1) : FuncData := fdOf K (a_law_draw K)
abbrev s_law_number : Stmt := top 26
abbrev N_law_number : List Str := ["_law_state_here", "_law_most"]
abbrev P_law_number : List Str := ["_law_state_here", "_law_most"]
theorem sc_law_number : FnScope N_law_number P_law_number (defScope s_law_number) := ⟨rfl, rfl, rfl, by decide +kernel, rfl, by decide +kernel, by decide +kernel⟩
abbrev a_law_number (K : Fr1) : Addr := He.ga K "_law_number"
abbrev d_law_number (K : Fr1) : FuncData := fdOf K (a_law_number K)
abbrev s_law_long : Stmt := top 27
abbrev N_law_long : List Str := ["_law_state_here", "_law_number_here", "_law_k"]
abbrev P_law_long : List Str := ["_law_state_here"]
theorem sc_law_long : FnScope N_law_long P_law_long (defScope s_law_long) := ⟨rfl, rfl, rfl, by decide +kernel, rfl, by decide +kernel, by decide +kernel⟩
abbrev a_law_long (K : Fr1) : Addr := He.ga K "_law_long"
abbrev d_law_long (K : Fr1) : FuncData := fdOf K (a_law_long K)
abbrev s_law_direction : Stmt := top 28
abbrev N_law_direction : List Str := ["_law_state_here", "_law_known", "_law_kind", "_law_pair", "_law_a", "_law_b", "_law_by"]
abbrev P_law_direction : List Str := ["_law_state_here", "_law_known"]
theorem sc_law_direction : FnScope N_law_direction P_law_direction (defScope s_law_direction) := ⟨rfl, rfl, rfl, by decide +kernel, rfl, by decide +kernel, by decide +kernel⟩
abbrev a_law_direction (K : Fr1) : Addr := He.ga K "_law_direction"
abbrev d_law_direction (K : Fr1) : FuncData := fdOf K (a_law_direction K)
abbrev s_law_gcd : Stmt := top 29
abbrev N_law_gcd : List Str := ["_law_a", "_law_b"]
abbrev P_law_gcd : List Str := ["_law_a", "_law_b"]
theorem sc_law_gcd : FnScope N_law_gcd P_law_gcd (defScope s_law_gcd) := ⟨rfl, rfl, rfl, by decide +kernel, rfl, by decide +kernel, by decide +kernel⟩
abbrev a_law_gcd (K : Fr1) : Addr := He.ga K "_law_gcd"
abbrev d_law_gcd (K : Fr1) : FuncData := fdOf K (a_law_gcd K)
abbrev s_law_least : Stmt := top 30
abbrev N_law_least : List Str := ["_law_pair", "_law_by"]
abbrev P_law_least : List Str := ["_law_pair"]
theorem sc_law_least : FnScope N_law_least P_law_least (defScope s_law_least) := ⟨rfl, rfl, rfl, by decide +kernel, rfl, by decide +kernel, by decide +kernel⟩
abbrev a_law_least (K : Fr1) : Addr := He.ga K "_law_least"
abbrev d_law_least (K : Fr1) : FuncData := fdOf K (a_law_least K)
abbrev s_law_times : Stmt := top 31
abbrev N_law_times : List Str := ["_law_one", "_law_two"]
abbrev P_law_times : List Str := ["_law_one", "_law_two"]
theorem sc_law_times : FnScope N_law_times P_law_times (defScope s_law_times) := ⟨rfl, rfl, rfl, by decide +kernel, rfl, by decide +kernel, by decide +kernel⟩
abbrev a_law_times (K : Fr1) : Addr := He.ga K "_law_times"
abbrev d_law_times (K : Fr1) : FuncData := fdOf K (a_law_times K)
abbrev s_law_back : Stmt := top 32
abbrev N_law_back : List Str := ["_law_one"]
abbrev P_law_back : List Str := ["_law_one"]
theorem sc_law_back : FnScope N_law_back P_law_back (defScope s_law_back) := ⟨rfl, rfl, rfl, by decide +kernel, rfl, by decide +kernel, by decide +kernel⟩
abbrev a_law_back (K : Fr1) : Addr := He.ga K "_law_back"
abbrev d_law_back (K : Fr1) : FuncData := fdOf K (a_law_back K)
abbrev s_law_same : Stmt := top 33
abbrev N_law_same : List Str := ["_law_one", "_law_two"]
abbrev P_law_same : List Str := ["_law_one", "_law_two"]
theorem sc_law_same : FnScope N_law_same P_law_same (defScope s_law_same) := ⟨rfl, rfl, rfl, by decide +kernel, rfl, by decide +kernel, by decide +kernel⟩
abbrev a_law_same (K : Fr1) : Addr := He.ga K "_law_same"
abbrev d_law_same (K : Fr1) : FuncData := fdOf K (a_law_same K)
abbrev s_law_late : Stmt := top 34
abbrev N_law_late : List Str := ["_law_one"]
abbrev P_law_late : List Str := ["_law_one"]
theorem sc_law_late : FnScope N_law_late P_law_late (defScope s_law_late) := ⟨rfl, rfl, rfl, by decide +kernel, rfl, by decide +kernel, by decide +kernel⟩
abbrev a_law_late (K : Fr1) : Addr := He.ga K "_law_late"
abbrev d_law_late (K : Fr1) : FuncData := fdOf K (a_law_late K)
abbrev s_law_before : Stmt := top 35
abbrev N_law_before : List Str := ["_law_one", "_law_two"]
abbrev P_law_before : List Str := ["_law_one", "_law_two"]
theorem sc_law_before : FnScope N_law_before P_law_before (defScope s_law_before) := ⟨rfl, rfl, rfl, by decide +kernel, rfl, by decide +kernel, by decide +kernel⟩
abbrev a_law_before (K : Fr1) : Addr := He.ga K "_law_before"
abbrev d_law_before (K : Fr1) : FuncData := fdOf K (a_law_before K)
abbrev s_law_ascending : Stmt := top 36
abbrev N_law_ascending : List Str := ["_law_pairs", "_law_made", "_law_pair", "_law_at", "_law_old"]
abbrev P_law_ascending : List Str := ["_law_pairs"]
theorem sc_law_ascending : FnScope N_law_ascending P_law_ascending (defScope s_law_ascending) := ⟨rfl, rfl, rfl, by decide +kernel, rfl, by decide +kernel, by decide +kernel⟩
abbrev a_law_ascending (K : Fr1) : Addr := He.ga K "_law_ascending"
abbrev d_law_ascending (K : Fr1) : FuncData := fdOf K (a_law_ascending K)
abbrev s_law_inside : Stmt := top 37
abbrev N_law_inside : List Str := ["_law_one", "_law_low", "_law_high", "_law_turn"]
abbrev P_law_inside : List Str := ["_law_one", "_law_low", "_law_high"]
theorem sc_law_inside : FnScope N_law_inside P_law_inside (defScope s_law_inside) := ⟨rfl, rfl, rfl, by decide +kernel, rfl, by decide +kernel, by decide +kernel⟩
abbrev a_law_inside (K : Fr1) : Addr := He.ga K "_law_inside"
abbrev d_law_inside (K : Fr1) : FuncData := fdOf K (a_law_inside K)
abbrev s_law_is_integer : Stmt := top 38
abbrev N_law_is_integer : List Str := ["_law_thing"]
abbrev P_law_is_integer : List Str := ["_law_thing"]
theorem sc_law_is_integer : FnScope N_law_is_integer P_law_is_integer (defScope s_law_is_integer) := ⟨rfl, rfl, rfl, by decide +kernel, rfl, by decide +kernel, by decide +kernel⟩
abbrev a_law_is_integer (K : Fr1) : Addr := He.ga K "_law_is_integer"
abbrev d_law_is_integer (K : Fr1) : FuncData := fdOf K (a_law_is_integer K)
abbrev s_law_is_pair : Stmt := top 39
abbrev N_law_is_pair : List Str := ["_law_thing", "_law_part"]
abbrev P_law_is_pair : List Str := ["_law_thing"]
theorem sc_law_is_pair : FnScope N_law_is_pair P_law_is_pair (defScope s_law_is_pair) := ⟨rfl, rfl, rfl, by decide +kernel, rfl, by decide +kernel, by decide +kernel⟩
abbrev a_law_is_pair (K : Fr1) : Addr := He.ga K "_law_is_pair"
abbrev d_law_is_pair (K : Fr1) : FuncData := fdOf K (a_law_is_pair K)
abbrev s_law_strange : Stmt := top 40
abbrev N_law_strange : List Str := ["_law_state_here", "_law_deep", "_law_k", "_law_things"]
abbrev P_law_strange : List Str := ["_law_state_here"]
theorem sc_law_strange : FnScope N_law_strange P_law_strange (defScope s_law_strange) := ⟨rfl, rfl, rfl, by decide +kernel, rfl, by decide +kernel, by decide +kernel⟩
abbrev a_law_strange (K : Fr1) : Addr := He.ga K "_law_strange"
abbrev d_law_strange (K : Fr1) : FuncData := fdOf K (a_law_strange K)
abbrev s_law_is_direction : Stmt := top 41
abbrev N_law_is_direction : List Str := ["_law_thing"]
abbrev P_law_is_direction : List Str := ["_law_thing"]
theorem sc_law_is_direction : FnScope N_law_is_direction P_law_is_direction (defScope s_law_is_direction) := ⟨rfl, rfl, rfl, by decide +kernel, rfl, by decide +kernel, by decide +kernel⟩
abbrev a_law_is_direction (K : Fr1) : Addr := He.ga K "_law_is_direction"
abbrev d_law_is_direction (K : Fr1) : FuncData := fdOf K (a_law_is_direction K)
abbrev s_law_call : Stmt := top 42
abbrev N_law_call : List Str := ["_law_which", "_law_given", "_law_named", "_law_one", "_law_two", "_law_three", "bad"]
abbrev P_law_call : List Str := ["_law_which", "_law_given", "_law_named"]
theorem sc_law_call : FnScope N_law_call P_law_call (defScope s_law_call) := ⟨rfl, rfl, rfl, by decide +kernel, rfl, by decide +kernel, by decide +kernel⟩
abbrev a_law_call (K : Fr1) : Addr := He.ga K "_law_call"
abbrev d_law_call (K : Fr1) : FuncData := fdOf K (a_law_call K)
abbrev s_law_due : Stmt := top 43
abbrev N_law_due : List Str := ["_law_which", "_law_given", "_law_one", "_law_two", "_law_three", "_law_needs", "_law_thing"]
abbrev P_law_due : List Str := ["_law_which", "_law_given"]
theorem sc_law_due : FnScope N_law_due P_law_due (defScope s_law_due) := ⟨rfl, rfl, rfl, by decide +kernel, rfl, by decide +kernel, by decide +kernel⟩
abbrev a_law_due (K : Fr1) : Addr := He.ga K "_law_due"
abbrev d_law_due (K : Fr1) : FuncData := fdOf K (a_law_due K)
abbrev s_law_due_within : Stmt := top 44
abbrev N_law_due_within : List Str := ["_law_due_here", "_law_which", "_law_given"]
abbrev P_law_due_within : List Str := ["_law_due_here", "_law_which", "_law_given"]
theorem sc_law_due_within : FnScope N_law_due_within P_law_due_within (defScope s_law_due_within) := ⟨rfl, rfl, rfl, by decide +kernel, rfl, by decide +kernel, by decide +kernel⟩
abbrev a_law_due_within (K : Fr1) : Addr := He.ga K "_law_due_within"
abbrev d_law_due_within (K : Fr1) : FuncData := fdOf K (a_law_due_within K)
abbrev s_law_agrees : Stmt := top 45
abbrev N_law_agrees : List Str := ["_law_which", "_law_given", "_law_named", "_law_due_here", "_law_found"]
abbrev P_law_agrees : List Str := ["_law_which", "_law_given", "_law_named"]
theorem sc_law_agrees : FnScope N_law_agrees P_law_agrees (defScope s_law_agrees) := ⟨rfl, rfl, rfl, by decide +kernel, rfl, by decide +kernel, by decide +kernel⟩
abbrev a_law_agrees (K : Fr1) : Addr := He.ga K "_law_agrees"
abbrev d_law_agrees (K : Fr1) : FuncData := fdOf K (a_law_agrees K)
abbrev s_law_sorts : Stmt := top 46
abbrev N_law_sorts : List Str := ["_law_given", "_law_handed", "_law_k", "_law_found", "_law_pair"]
abbrev P_law_sorts : List Str := ["_law_given"]
theorem sc_law_sorts : FnScope N_law_sorts P_law_sorts (defScope s_law_sorts) := ⟨rfl, rfl, rfl, by decide +kernel, rfl, by decide +kernel, by decide +kernel⟩
abbrev a_law_sorts (K : Fr1) : Addr := He.ga K "_law_sorts"
abbrev d_law_sorts (K : Fr1) : FuncData := fdOf K (a_law_sorts K)
abbrev s_law_sort_refused : Stmt := top 47
abbrev N_law_sort_refused : List Str := ["_law_state_here", "_law_given", "_law_handed", "_law_due_here", "_law_thing", "_law_wrong", "bad", "_law_found"]
abbrev P_law_sort_refused : List Str := ["_law_state_here", "_law_given"]
theorem sc_law_sort_refused : FnScope N_law_sort_refused P_law_sort_refused (defScope s_law_sort_refused) := ⟨rfl, rfl, rfl, by decide +kernel, rfl, by decide +kernel, by decide +kernel⟩
abbrev a_law_sort_refused (K : Fr1) : Addr := He.ga K "_law_sort_refused"
abbrev d_law_sort_refused (K : Fr1) : FuncData := fdOf K (a_law_sort_refused K)
abbrev s_law_ring : Stmt := top 48
abbrev N_law_ring : List Str := ["_law_one", "_law_two", "_law_three", "_law_by", "_law_order", "_law_flag"]
abbrev P_law_ring : List Str := ["_law_one", "_law_two", "_law_three", "_law_by"]
theorem sc_law_ring : FnScope N_law_ring P_law_ring (defScope s_law_ring) := ⟨rfl, rfl, rfl, by decide +kernel, rfl, by decide +kernel, by decide +kernel⟩
abbrev a_law_ring (K : Fr1) : Addr := He.ga K "_law_ring"
abbrev d_law_ring (K : Fr1) : FuncData := fdOf K (a_law_ring K)
abbrev s_law : Stmt := top 49
abbrev N_law : List Str := ["_law_script", "_law_state_here", "_law_many", "_law_made", "_law_k", "_law_given", "_law_which"]
abbrev P_law : List Str := ["_law_script"]
theorem sc_law : FnScope N_law P_law (defScope s_law) := ⟨rfl, rfl, rfl, by decide +kernel, rfl, by decide +kernel, by decide +kernel⟩
abbrev a_law (K : Fr1) : Addr := He.ga K "law"
abbrev d_law (K : Fr1) : FuncData := fdOf K (a_law K)
/-! ### what the top has written -/
structure Txt (K : Fr1) (mg : Str → Option Value) : Prop where
  F_BadTurn_p__init__ : Fn K "__init__" "BadTurn.__init__" s_BadTurn_p__init__ [] [] (a_BadTurn_p__init__ K)
  F_is_integer : Fn K "is_integer" "is_integer" s_is_integer [] [] (a_is_integer K)
  F_is_row : Fn K "is_row" "is_row" s_is_row [] [] (a_is_row K)
  F_is_direction : Fn K "is_direction" "is_direction" s_is_direction [] [] (a_is_direction K)
  F_checked : Fn K "checked" "checked" s_checked [] [] (a_checked K)
  F_lowered : Fn K "lowered" "lowered" s_lowered [] [] (a_lowered K)
  F_least : Fn K "least" "least" s_least [] [] (a_least K)
  F_times : Fn K "times" "times" s_times [] [] (a_times K)
  F_back : Fn K "back" "back" s_back [] [] (a_back K)
  F_opposite : Fn K "opposite" "opposite" s_opposite [] [] (a_opposite K)
  F_is_late : Fn K "is_late" "is_late" s_is_late [] [] (a_is_late K)
  F_earlier : Fn K "earlier" "earlier" s_earlier [] [] (a_earlier K)
  F_ahead : Fn K "ahead" "ahead" s_ahead [] [] (a_ahead K)
  F_ascending : Fn K "ascending" "ascending" s_ascending [] [] (a_ascending K)
  F_turned_back : Fn K "turned_back" "turned_back" s_turned_back [] [] (a_turned_back K)
  F_is_east : Fn K "is_east" "is_east" s_is_east [] [] (a_is_east K)
  F_inside : Fn K "inside" "inside" s_inside [] [] (a_inside K)
  F_within : Fn K "within" "within" s_within [] [] (a_within K)
  F_law_state : Fn K "_law_state" "_law_state" s_law_state [] [] (a_law_state K)
  F_law_draw : Fn K "_law_draw" "_law_draw" s_law_draw [] [] (a_law_draw K)
  F_law_number : Fn K "_law_number" "_law_number" s_law_number [] [] (a_law_number K)
  F_law_long : Fn K "_law_long" "_law_long" s_law_long [] [] (a_law_long K)
  F_law_direction : Fn K "_law_direction" "_law_direction" s_law_direction [] [] (a_law_direction K)
  F_law_gcd : Fn K "_law_gcd" "_law_gcd" s_law_gcd [] [] (a_law_gcd K)
  F_law_least : Fn K "_law_least" "_law_least" s_law_least [] [] (a_law_least K)
  F_law_times : Fn K "_law_times" "_law_times" s_law_times [] [] (a_law_times K)
  F_law_back : Fn K "_law_back" "_law_back" s_law_back [] [] (a_law_back K)
  F_law_same : Fn K "_law_same" "_law_same" s_law_same [] [] (a_law_same K)
  F_law_late : Fn K "_law_late" "_law_late" s_law_late [] [] (a_law_late K)
  F_law_before : Fn K "_law_before" "_law_before" s_law_before [] [] (a_law_before K)
  F_law_ascending : Fn K "_law_ascending" "_law_ascending" s_law_ascending [] [] (a_law_ascending K)
  F_law_inside : Fn K "_law_inside" "_law_inside" s_law_inside [] [] (a_law_inside K)
  F_law_is_integer : Fn K "_law_is_integer" "_law_is_integer" s_law_is_integer [] [] (a_law_is_integer K)
  F_law_is_pair : Fn K "_law_is_pair" "_law_is_pair" s_law_is_pair [] [] (a_law_is_pair K)
  F_law_strange : Fn K "_law_strange" "_law_strange" s_law_strange [] [] (a_law_strange K)
  F_law_is_direction : Fn K "_law_is_direction" "_law_is_direction" s_law_is_direction [] [] (a_law_is_direction K)
  F_law_call : Fn K "_law_call" "_law_call" s_law_call [] [] (a_law_call K)
  F_law_due : Fn K "_law_due" "_law_due" s_law_due [] [] (a_law_due K)
  F_law_due_within : Fn K "_law_due_within" "_law_due_within" s_law_due_within [] [] (a_law_due_within K)
  F_law_agrees : Fn K "_law_agrees" "_law_agrees" s_law_agrees [] [] (a_law_agrees K)
  F_law_sorts : Fn K "_law_sorts" "_law_sorts" s_law_sorts [] [] (a_law_sorts K)
  F_law_sort_refused : Fn K "_law_sort_refused" "_law_sort_refused" s_law_sort_refused [] [] (a_law_sort_refused K)
  F_law_ring : Fn K "_law_ring" "_law_ring" s_law_ring [] [] (a_law_ring K)
  F_law : Fn K "law" "law" s_law [] [] (a_law K)
  m_is_integer : mg "is_integer" = some (.ref (a_is_integer K))
  m_is_row : mg "is_row" = some (.ref (a_is_row K))
  m_is_direction : mg "is_direction" = some (.ref (a_is_direction K))
  m_checked : mg "checked" = some (.ref (a_checked K))
  m_lowered : mg "lowered" = some (.ref (a_lowered K))
  m_least : mg "least" = some (.ref (a_least K))
  m_times : mg "times" = some (.ref (a_times K))
  m_back : mg "back" = some (.ref (a_back K))
  m_opposite : mg "opposite" = some (.ref (a_opposite K))
  m_is_late : mg "is_late" = some (.ref (a_is_late K))
  m_earlier : mg "earlier" = some (.ref (a_earlier K))
  m_ahead : mg "ahead" = some (.ref (a_ahead K))
  m_ascending : mg "ascending" = some (.ref (a_ascending K))
  m_turned_back : mg "turned_back" = some (.ref (a_turned_back K))
  m_is_east : mg "is_east" = some (.ref (a_is_east K))
  m_inside : mg "inside" = some (.ref (a_inside K))
  m_within : mg "within" = some (.ref (a_within K))
  m__law_state : mg "_law_state" = some (.ref (a_law_state K))
  m__law_draw : mg "_law_draw" = some (.ref (a_law_draw K))
  m__law_number : mg "_law_number" = some (.ref (a_law_number K))
  m__law_long : mg "_law_long" = some (.ref (a_law_long K))
  m__law_direction : mg "_law_direction" = some (.ref (a_law_direction K))
  m__law_gcd : mg "_law_gcd" = some (.ref (a_law_gcd K))
  m__law_least : mg "_law_least" = some (.ref (a_law_least K))
  m__law_times : mg "_law_times" = some (.ref (a_law_times K))
  m__law_back : mg "_law_back" = some (.ref (a_law_back K))
  m__law_same : mg "_law_same" = some (.ref (a_law_same K))
  m__law_late : mg "_law_late" = some (.ref (a_law_late K))
  m__law_before : mg "_law_before" = some (.ref (a_law_before K))
  m__law_ascending : mg "_law_ascending" = some (.ref (a_law_ascending K))
  m__law_inside : mg "_law_inside" = some (.ref (a_law_inside K))
  m__law_is_integer : mg "_law_is_integer" = some (.ref (a_law_is_integer K))
  m__law_is_pair : mg "_law_is_pair" = some (.ref (a_law_is_pair K))
  m__law_strange : mg "_law_strange" = some (.ref (a_law_strange K))
  m__law_is_direction : mg "_law_is_direction" = some (.ref (a_law_is_direction K))
  m__law_call : mg "_law_call" = some (.ref (a_law_call K))
  m__law_due : mg "_law_due" = some (.ref (a_law_due K))
  m__law_due_within : mg "_law_due_within" = some (.ref (a_law_due_within K))
  m__law_agrees : mg "_law_agrees" = some (.ref (a_law_agrees K))
  m__law_sorts : mg "_law_sorts" = some (.ref (a_law_sorts K))
  m__law_sort_refused : mg "_law_sort_refused" = some (.ref (a_law_sort_refused K))
  m__law_ring : mg "_law_ring" = some (.ref (a_law_ring K))
  m_law : mg "law" = some (.ref (a_law K))
  m_BadTurn : mg "BadTurn" = some (.ref (He.ga K "BadTurn"))
  x_BadTurn : XfC K (He.ga K "BadTurn")
  e_BadTurn : PySem.W.exmOne K (.ref (He.ga K "BadTurn")) (.ref (He.ga K "BadTurn")) = some true
  o_BadTurn : OexC K (He.ga K "BadTurn")
  na_BadTurn_value : PySem.W.findIn K (.ref (He.ga K "BadTurn")) "value" = some none
  M_BadTurn_p__init__ : Meth K (He.ga K "BadTurn") "__init__" (a_BadTurn_p__init__ K)
  t_BadTurn_p__init__ : PySem.W.typeIn K (.ref (a_BadTurn_p__init__ K)) = some (.type "function")
  m_gcd : mg "gcd" = some (.builtin "math.gcd")
  n_abs : mg "abs" = none
  n_all : mg "all" = none
  n_bool : mg "bool" = none
  n_int : mg "int" = none
  n_isinstance : mg "isinstance" = none
  n_len : mg "len" = none
  n_list : mg "list" = none
  n_range : mg "range" = none
  n_tuple : mg "tuple" = none
def fnL : List DefA := [
  ⟨fun K => a_BadTurn_p__init__ K, "__init__", "BadTurn.__init__", defArgs s_BadTurn_p__init__, defBody s_BadTurn_p__init__, defScope s_BadTurn_p__init__, [], []⟩,
  ⟨fun K => a_is_integer K, "is_integer", "is_integer", defArgs s_is_integer, defBody s_is_integer, defScope s_is_integer, [], []⟩,
  ⟨fun K => a_is_row K, "is_row", "is_row", defArgs s_is_row, defBody s_is_row, defScope s_is_row, [], []⟩,
  ⟨fun K => a_is_direction K, "is_direction", "is_direction", defArgs s_is_direction, defBody s_is_direction, defScope s_is_direction, [], []⟩,
  ⟨fun K => a_checked K, "checked", "checked", defArgs s_checked, defBody s_checked, defScope s_checked, [], []⟩,
  ⟨fun K => a_lowered K, "lowered", "lowered", defArgs s_lowered, defBody s_lowered, defScope s_lowered, [], []⟩,
  ⟨fun K => a_least K, "least", "least", defArgs s_least, defBody s_least, defScope s_least, [], []⟩,
  ⟨fun K => a_times K, "times", "times", defArgs s_times, defBody s_times, defScope s_times, [], []⟩,
  ⟨fun K => a_back K, "back", "back", defArgs s_back, defBody s_back, defScope s_back, [], []⟩,
  ⟨fun K => a_opposite K, "opposite", "opposite", defArgs s_opposite, defBody s_opposite, defScope s_opposite, [], []⟩,
  ⟨fun K => a_is_late K, "is_late", "is_late", defArgs s_is_late, defBody s_is_late, defScope s_is_late, [], []⟩,
  ⟨fun K => a_earlier K, "earlier", "earlier", defArgs s_earlier, defBody s_earlier, defScope s_earlier, [], []⟩,
  ⟨fun K => a_ahead K, "ahead", "ahead", defArgs s_ahead, defBody s_ahead, defScope s_ahead, [], []⟩,
  ⟨fun K => a_ascending K, "ascending", "ascending", defArgs s_ascending, defBody s_ascending, defScope s_ascending, [], []⟩,
  ⟨fun K => a_turned_back K, "turned_back", "turned_back", defArgs s_turned_back, defBody s_turned_back, defScope s_turned_back, [], []⟩,
  ⟨fun K => a_is_east K, "is_east", "is_east", defArgs s_is_east, defBody s_is_east, defScope s_is_east, [], []⟩,
  ⟨fun K => a_inside K, "inside", "inside", defArgs s_inside, defBody s_inside, defScope s_inside, [], []⟩,
  ⟨fun K => a_within K, "within", "within", defArgs s_within, defBody s_within, defScope s_within, [], []⟩,
  ⟨fun K => a_law_state K, "_law_state", "_law_state", defArgs s_law_state, defBody s_law_state, defScope s_law_state, [], []⟩,
  ⟨fun K => a_law_draw K, "_law_draw", "_law_draw", defArgs s_law_draw, defBody s_law_draw, defScope s_law_draw, [], []⟩,
  ⟨fun K => a_law_number K, "_law_number", "_law_number", defArgs s_law_number, defBody s_law_number, defScope s_law_number, [], []⟩,
  ⟨fun K => a_law_long K, "_law_long", "_law_long", defArgs s_law_long, defBody s_law_long, defScope s_law_long, [], []⟩,
  ⟨fun K => a_law_direction K, "_law_direction", "_law_direction", defArgs s_law_direction, defBody s_law_direction, defScope s_law_direction, [], []⟩,
  ⟨fun K => a_law_gcd K, "_law_gcd", "_law_gcd", defArgs s_law_gcd, defBody s_law_gcd, defScope s_law_gcd, [], []⟩,
  ⟨fun K => a_law_least K, "_law_least", "_law_least", defArgs s_law_least, defBody s_law_least, defScope s_law_least, [], []⟩,
  ⟨fun K => a_law_times K, "_law_times", "_law_times", defArgs s_law_times, defBody s_law_times, defScope s_law_times, [], []⟩,
  ⟨fun K => a_law_back K, "_law_back", "_law_back", defArgs s_law_back, defBody s_law_back, defScope s_law_back, [], []⟩,
  ⟨fun K => a_law_same K, "_law_same", "_law_same", defArgs s_law_same, defBody s_law_same, defScope s_law_same, [], []⟩,
  ⟨fun K => a_law_late K, "_law_late", "_law_late", defArgs s_law_late, defBody s_law_late, defScope s_law_late, [], []⟩,
  ⟨fun K => a_law_before K, "_law_before", "_law_before", defArgs s_law_before, defBody s_law_before, defScope s_law_before, [], []⟩,
  ⟨fun K => a_law_ascending K, "_law_ascending", "_law_ascending", defArgs s_law_ascending, defBody s_law_ascending, defScope s_law_ascending, [], []⟩,
  ⟨fun K => a_law_inside K, "_law_inside", "_law_inside", defArgs s_law_inside, defBody s_law_inside, defScope s_law_inside, [], []⟩,
  ⟨fun K => a_law_is_integer K, "_law_is_integer", "_law_is_integer", defArgs s_law_is_integer, defBody s_law_is_integer, defScope s_law_is_integer, [], []⟩,
  ⟨fun K => a_law_is_pair K, "_law_is_pair", "_law_is_pair", defArgs s_law_is_pair, defBody s_law_is_pair, defScope s_law_is_pair, [], []⟩,
  ⟨fun K => a_law_strange K, "_law_strange", "_law_strange", defArgs s_law_strange, defBody s_law_strange, defScope s_law_strange, [], []⟩,
  ⟨fun K => a_law_is_direction K, "_law_is_direction", "_law_is_direction", defArgs s_law_is_direction, defBody s_law_is_direction, defScope s_law_is_direction, [], []⟩,
  ⟨fun K => a_law_call K, "_law_call", "_law_call", defArgs s_law_call, defBody s_law_call, defScope s_law_call, [], []⟩,
  ⟨fun K => a_law_due K, "_law_due", "_law_due", defArgs s_law_due, defBody s_law_due, defScope s_law_due, [], []⟩,
  ⟨fun K => a_law_due_within K, "_law_due_within", "_law_due_within", defArgs s_law_due_within, defBody s_law_due_within, defScope s_law_due_within, [], []⟩,
  ⟨fun K => a_law_agrees K, "_law_agrees", "_law_agrees", defArgs s_law_agrees, defBody s_law_agrees, defScope s_law_agrees, [], []⟩,
  ⟨fun K => a_law_sorts K, "_law_sorts", "_law_sorts", defArgs s_law_sorts, defBody s_law_sorts, defScope s_law_sorts, [], []⟩,
  ⟨fun K => a_law_sort_refused K, "_law_sort_refused", "_law_sort_refused", defArgs s_law_sort_refused, defBody s_law_sort_refused, defScope s_law_sort_refused, [], []⟩,
  ⟨fun K => a_law_ring K, "_law_ring", "_law_ring", defArgs s_law_ring, defBody s_law_ring, defScope s_law_ring, [], []⟩,
  ⟨fun K => a_law K, "law", "law", defArgs s_law, defBody s_law, defScope s_law, [], []⟩]
def faL : List Fk := [
  .fa (.glo "is_integer"),
  .fa (.glo "is_row"),
  .fa (.glo "is_direction"),
  .fa (.glo "checked"),
  .fa (.glo "lowered"),
  .fa (.glo "least"),
  .fa (.glo "times"),
  .fa (.glo "back"),
  .fa (.glo "opposite"),
  .fa (.glo "is_late"),
  .fa (.glo "earlier"),
  .fa (.glo "ahead"),
  .fa (.glo "ascending"),
  .fa (.glo "turned_back"),
  .fa (.glo "is_east"),
  .fa (.glo "inside"),
  .fa (.glo "within"),
  .fa (.glo "_law_state"),
  .fa (.glo "_law_draw"),
  .fa (.glo "_law_number"),
  .fa (.glo "_law_long"),
  .fa (.glo "_law_direction"),
  .fa (.glo "_law_gcd"),
  .fa (.glo "_law_least"),
  .fa (.glo "_law_times"),
  .fa (.glo "_law_back"),
  .fa (.glo "_law_same"),
  .fa (.glo "_law_late"),
  .fa (.glo "_law_before"),
  .fa (.glo "_law_ascending"),
  .fa (.glo "_law_inside"),
  .fa (.glo "_law_is_integer"),
  .fa (.glo "_law_is_pair"),
  .fa (.glo "_law_strange"),
  .fa (.glo "_law_is_direction"),
  .fa (.glo "_law_call"),
  .fa (.glo "_law_due"),
  .fa (.glo "_law_due_within"),
  .fa (.glo "_law_agrees"),
  .fa (.glo "_law_sorts"),
  .fa (.glo "_law_sort_refused"),
  .fa (.glo "_law_ring"),
  .fa (.glo "law"),
  .fa (.glo "BadTurn"),
  .xf "BadTurn",
  .exm "BadTurn" "BadTurn" true,
  .oex "BadTurn",
  .fa (.noat "BadTurn" "value"),
  .fa (.meth "BadTurn" "__init__"),
  .tyf "BadTurn" "__init__",
  .bfn "gcd" "math.gcd",
  .fa (.free "abs"),
  .fa (.free "all"),
  .fa (.free "bool"),
  .fa (.free "int"),
  .fa (.free "isinstance"),
  .fa (.free "len"),
  .fa (.free "list"),
  .fa (.free "range"),
  .fa (.free "tuple")]
theorem txt_of {K : Fr1} {h : Heap} {mg : Str → Option Value} (X : K.In h) (G : h.Ns mainGlobals mg) (c : SaysJ faL fnL K) : Txt K mg := ⟨
  fn_at (c.def_ 0 rfl),
  fn_at (c.def_ 1 rfl),
  fn_at (c.def_ 2 rfl),
  fn_at (c.def_ 3 rfl),
  fn_at (c.def_ 4 rfl),
  fn_at (c.def_ 5 rfl),
  fn_at (c.def_ 6 rfl),
  fn_at (c.def_ 7 rfl),
  fn_at (c.def_ 8 rfl),
  fn_at (c.def_ 9 rfl),
  fn_at (c.def_ 10 rfl),
  fn_at (c.def_ 11 rfl),
  fn_at (c.def_ 12 rfl),
  fn_at (c.def_ 13 rfl),
  fn_at (c.def_ 14 rfl),
  fn_at (c.def_ 15 rfl),
  fn_at (c.def_ 16 rfl),
  fn_at (c.def_ 17 rfl),
  fn_at (c.def_ 18 rfl),
  fn_at (c.def_ 19 rfl),
  fn_at (c.def_ 20 rfl),
  fn_at (c.def_ 21 rfl),
  fn_at (c.def_ 22 rfl),
  fn_at (c.def_ 23 rfl),
  fn_at (c.def_ 24 rfl),
  fn_at (c.def_ 25 rfl),
  fn_at (c.def_ 26 rfl),
  fn_at (c.def_ 27 rfl),
  fn_at (c.def_ 28 rfl),
  fn_at (c.def_ 29 rfl),
  fn_at (c.def_ 30 rfl),
  fn_at (c.def_ 31 rfl),
  fn_at (c.def_ 32 rfl),
  fn_at (c.def_ 33 rfl),
  fn_at (c.def_ 34 rfl),
  fn_at (c.def_ 35 rfl),
  fn_at (c.def_ 36 rfl),
  fn_at (c.def_ 37 rfl),
  fn_at (c.def_ 38 rfl),
  fn_at (c.def_ 39 rfl),
  fn_at (c.def_ 40 rfl),
  fn_at (c.def_ 41 rfl),
  fn_at (c.def_ 42 rfl),
  fn_at (c.def_ 43 rfl),
  He.glo_ok X G (c.fact 0 (f := .fa (.glo "is_integer")) rfl),
  He.glo_ok X G (c.fact 1 (f := .fa (.glo "is_row")) rfl),
  He.glo_ok X G (c.fact 2 (f := .fa (.glo "is_direction")) rfl),
  He.glo_ok X G (c.fact 3 (f := .fa (.glo "checked")) rfl),
  He.glo_ok X G (c.fact 4 (f := .fa (.glo "lowered")) rfl),
  He.glo_ok X G (c.fact 5 (f := .fa (.glo "least")) rfl),
  He.glo_ok X G (c.fact 6 (f := .fa (.glo "times")) rfl),
  He.glo_ok X G (c.fact 7 (f := .fa (.glo "back")) rfl),
  He.glo_ok X G (c.fact 8 (f := .fa (.glo "opposite")) rfl),
  He.glo_ok X G (c.fact 9 (f := .fa (.glo "is_late")) rfl),
  He.glo_ok X G (c.fact 10 (f := .fa (.glo "earlier")) rfl),
  He.glo_ok X G (c.fact 11 (f := .fa (.glo "ahead")) rfl),
  He.glo_ok X G (c.fact 12 (f := .fa (.glo "ascending")) rfl),
  He.glo_ok X G (c.fact 13 (f := .fa (.glo "turned_back")) rfl),
  He.glo_ok X G (c.fact 14 (f := .fa (.glo "is_east")) rfl),
  He.glo_ok X G (c.fact 15 (f := .fa (.glo "inside")) rfl),
  He.glo_ok X G (c.fact 16 (f := .fa (.glo "within")) rfl),
  He.glo_ok X G (c.fact 17 (f := .fa (.glo "_law_state")) rfl),
  He.glo_ok X G (c.fact 18 (f := .fa (.glo "_law_draw")) rfl),
  He.glo_ok X G (c.fact 19 (f := .fa (.glo "_law_number")) rfl),
  He.glo_ok X G (c.fact 20 (f := .fa (.glo "_law_long")) rfl),
  He.glo_ok X G (c.fact 21 (f := .fa (.glo "_law_direction")) rfl),
  He.glo_ok X G (c.fact 22 (f := .fa (.glo "_law_gcd")) rfl),
  He.glo_ok X G (c.fact 23 (f := .fa (.glo "_law_least")) rfl),
  He.glo_ok X G (c.fact 24 (f := .fa (.glo "_law_times")) rfl),
  He.glo_ok X G (c.fact 25 (f := .fa (.glo "_law_back")) rfl),
  He.glo_ok X G (c.fact 26 (f := .fa (.glo "_law_same")) rfl),
  He.glo_ok X G (c.fact 27 (f := .fa (.glo "_law_late")) rfl),
  He.glo_ok X G (c.fact 28 (f := .fa (.glo "_law_before")) rfl),
  He.glo_ok X G (c.fact 29 (f := .fa (.glo "_law_ascending")) rfl),
  He.glo_ok X G (c.fact 30 (f := .fa (.glo "_law_inside")) rfl),
  He.glo_ok X G (c.fact 31 (f := .fa (.glo "_law_is_integer")) rfl),
  He.glo_ok X G (c.fact 32 (f := .fa (.glo "_law_is_pair")) rfl),
  He.glo_ok X G (c.fact 33 (f := .fa (.glo "_law_strange")) rfl),
  He.glo_ok X G (c.fact 34 (f := .fa (.glo "_law_is_direction")) rfl),
  He.glo_ok X G (c.fact 35 (f := .fa (.glo "_law_call")) rfl),
  He.glo_ok X G (c.fact 36 (f := .fa (.glo "_law_due")) rfl),
  He.glo_ok X G (c.fact 37 (f := .fa (.glo "_law_due_within")) rfl),
  He.glo_ok X G (c.fact 38 (f := .fa (.glo "_law_agrees")) rfl),
  He.glo_ok X G (c.fact 39 (f := .fa (.glo "_law_sorts")) rfl),
  He.glo_ok X G (c.fact 40 (f := .fa (.glo "_law_sort_refused")) rfl),
  He.glo_ok X G (c.fact 41 (f := .fa (.glo "_law_ring")) rfl),
  He.glo_ok X G (c.fact 42 (f := .fa (.glo "law")) rfl),
  He.glo_ok X G (c.fact 43 (f := .fa (.glo "BadTurn")) rfl),
  xfB_ok (c.fact 44 (f := .xf "BadTurn") rfl),
  of_decide_eq_true (c.fact 45 (f := .exm "BadTurn" "BadTurn" true) rfl),
  oexB_ok (c.fact 46 (f := .oex "BadTurn") rfl),
  He.noat_ok (c.fact 47 (f := .fa (.noat "BadTurn" "value")) rfl),
  He.meth_ok (c.fact 48 (f := .fa (.meth "BadTurn" "__init__")) rfl),
  of_decide_eq_true (c.fact 49 (f := .tyf "BadTurn" "__init__") rfl),
  bfnB_ok X G (c.fact 50 (f := .bfn "gcd" "math.gcd") rfl),
  He.free_ok X G (c.fact 51 (f := .fa (.free "abs")) rfl),
  He.free_ok X G (c.fact 52 (f := .fa (.free "all")) rfl),
  He.free_ok X G (c.fact 53 (f := .fa (.free "bool")) rfl),
  He.free_ok X G (c.fact 54 (f := .fa (.free "int")) rfl),
  He.free_ok X G (c.fact 55 (f := .fa (.free "isinstance")) rfl),
  He.free_ok X G (c.fact 56 (f := .fa (.free "len")) rfl),
  He.free_ok X G (c.fact 57 (f := .fa (.free "list")) rfl),
  He.free_ok X G (c.fact 58 (f := .fa (.free "range")) rfl),
  He.free_ok X G (c.fact 59 (f := .fa (.free "tuple")) rfl)⟩
theorem b_BadTurn_p__init__ {K : Fr1} {mg : Str → Option Value} (T : Txt K mg) : Binds K (d_BadTurn_p__init__ K) P_BadTurn_p__init__ [] := T.F_BadTurn_p__init__.bindsN fun _ _ _ _ _ _ us hl => match us, hl with | [_, _], _ => rfl
theorem b_is_integer {K : Fr1} {mg : Str → Option Value} (T : Txt K mg) : Binds K (d_is_integer K) P_is_integer [] := T.F_is_integer.bindsN fun _ _ _ _ _ _ us hl => match us, hl with | [_], _ => rfl
theorem b_is_row {K : Fr1} {mg : Str → Option Value} (T : Txt K mg) : Binds K (d_is_row K) P_is_row [] := T.F_is_row.bindsN fun _ _ _ _ _ _ us hl => match us, hl with | [_], _ => rfl
theorem b_is_direction {K : Fr1} {mg : Str → Option Value} (T : Txt K mg) : Binds K (d_is_direction K) P_is_direction [] := T.F_is_direction.bindsN fun _ _ _ _ _ _ us hl => match us, hl with | [_], _ => rfl
theorem b_checked {K : Fr1} {mg : Str → Option Value} (T : Txt K mg) : Binds K (d_checked K) P_checked [] := T.F_checked.bindsN fun _ _ _ _ _ _ us hl => match us, hl with | [_], _ => rfl
theorem b_lowered {K : Fr1} {mg : Str → Option Value} (T : Txt K mg) : Binds K (d_lowered K) P_lowered [] := T.F_lowered.bindsN fun _ _ _ _ _ _ us hl => match us, hl with | [_, _], _ => rfl
theorem b_least {K : Fr1} {mg : Str → Option Value} (T : Txt K mg) : Binds K (d_least K) P_least [] := T.F_least.bindsN fun _ _ _ _ _ _ us hl => match us, hl with | [_], _ => rfl
theorem b_times {K : Fr1} {mg : Str → Option Value} (T : Txt K mg) : Binds K (d_times K) P_times [] := T.F_times.bindsN fun _ _ _ _ _ _ us hl => match us, hl with | [_, _], _ => rfl
theorem b_back {K : Fr1} {mg : Str → Option Value} (T : Txt K mg) : Binds K (d_back K) P_back [] := T.F_back.bindsN fun _ _ _ _ _ _ us hl => match us, hl with | [_], _ => rfl
theorem b_opposite {K : Fr1} {mg : Str → Option Value} (T : Txt K mg) : Binds K (d_opposite K) P_opposite [] := T.F_opposite.bindsN fun _ _ _ _ _ _ us hl => match us, hl with | [_], _ => rfl
theorem b_is_late {K : Fr1} {mg : Str → Option Value} (T : Txt K mg) : Binds K (d_is_late K) P_is_late [] := T.F_is_late.bindsN fun _ _ _ _ _ _ us hl => match us, hl with | [_], _ => rfl
theorem b_earlier {K : Fr1} {mg : Str → Option Value} (T : Txt K mg) : Binds K (d_earlier K) P_earlier [] := T.F_earlier.bindsN fun _ _ _ _ _ _ us hl => match us, hl with | [_, _], _ => rfl
theorem b_ahead {K : Fr1} {mg : Str → Option Value} (T : Txt K mg) : Binds K (d_ahead K) P_ahead [] := T.F_ahead.bindsN fun _ _ _ _ _ _ us hl => match us, hl with | [_, _], _ => rfl
theorem b_ascending {K : Fr1} {mg : Str → Option Value} (T : Txt K mg) : Binds K (d_ascending K) P_ascending [] := T.F_ascending.bindsN fun _ _ _ _ _ _ us hl => match us, hl with | [_], _ => rfl
theorem b_turned_back {K : Fr1} {mg : Str → Option Value} (T : Txt K mg) : Binds K (d_turned_back K) P_turned_back [] := T.F_turned_back.bindsN fun _ _ _ _ _ _ us hl => match us, hl with | [_, _], _ => rfl
theorem b_is_east {K : Fr1} {mg : Str → Option Value} (T : Txt K mg) : Binds K (d_is_east K) P_is_east [] := T.F_is_east.bindsN fun _ _ _ _ _ _ us hl => match us, hl with | [_], _ => rfl
theorem b_inside {K : Fr1} {mg : Str → Option Value} (T : Txt K mg) : Binds K (d_inside K) P_inside [] := T.F_inside.bindsN fun _ _ _ _ _ _ us hl => match us, hl with | [_, _, _], _ => rfl
theorem b_within {K : Fr1} {mg : Str → Option Value} (T : Txt K mg) : Binds K (d_within K) P_within [] := T.F_within.bindsN fun _ _ _ _ _ _ us hl => match us, hl with | [_, _, _], _ => rfl
theorem b_law_state {K : Fr1} {mg : Str → Option Value} (T : Txt K mg) : Binds K (d_law_state K) P_law_state [] := T.F_law_state.bindsN fun _ _ _ _ _ _ us hl => match us, hl with | [_], _ => rfl
theorem b_law_draw {K : Fr1} {mg : Str → Option Value} (T : Txt K mg) : Binds K (d_law_draw K) P_law_draw [] := T.F_law_draw.bindsN fun _ _ _ _ _ _ us hl => match us, hl with | [_, _], _ => rfl
theorem b_law_number {K : Fr1} {mg : Str → Option Value} (T : Txt K mg) : Binds K (d_law_number K) P_law_number [] := T.F_law_number.bindsN fun _ _ _ _ _ _ us hl => match us, hl with | [_, _], _ => rfl
theorem b_law_long {K : Fr1} {mg : Str → Option Value} (T : Txt K mg) : Binds K (d_law_long K) P_law_long [] := T.F_law_long.bindsN fun _ _ _ _ _ _ us hl => match us, hl with | [_], _ => rfl
theorem b_law_direction {K : Fr1} {mg : Str → Option Value} (T : Txt K mg) : Binds K (d_law_direction K) P_law_direction [] := T.F_law_direction.bindsN fun _ _ _ _ _ _ us hl => match us, hl with | [_, _], _ => rfl
theorem b_law_gcd {K : Fr1} {mg : Str → Option Value} (T : Txt K mg) : Binds K (d_law_gcd K) P_law_gcd [] := T.F_law_gcd.bindsN fun _ _ _ _ _ _ us hl => match us, hl with | [_, _], _ => rfl
theorem b_law_least {K : Fr1} {mg : Str → Option Value} (T : Txt K mg) : Binds K (d_law_least K) P_law_least [] := T.F_law_least.bindsN fun _ _ _ _ _ _ us hl => match us, hl with | [_], _ => rfl
theorem b_law_times {K : Fr1} {mg : Str → Option Value} (T : Txt K mg) : Binds K (d_law_times K) P_law_times [] := T.F_law_times.bindsN fun _ _ _ _ _ _ us hl => match us, hl with | [_, _], _ => rfl
theorem b_law_back {K : Fr1} {mg : Str → Option Value} (T : Txt K mg) : Binds K (d_law_back K) P_law_back [] := T.F_law_back.bindsN fun _ _ _ _ _ _ us hl => match us, hl with | [_], _ => rfl
theorem b_law_same {K : Fr1} {mg : Str → Option Value} (T : Txt K mg) : Binds K (d_law_same K) P_law_same [] := T.F_law_same.bindsN fun _ _ _ _ _ _ us hl => match us, hl with | [_, _], _ => rfl
theorem b_law_late {K : Fr1} {mg : Str → Option Value} (T : Txt K mg) : Binds K (d_law_late K) P_law_late [] := T.F_law_late.bindsN fun _ _ _ _ _ _ us hl => match us, hl with | [_], _ => rfl
theorem b_law_before {K : Fr1} {mg : Str → Option Value} (T : Txt K mg) : Binds K (d_law_before K) P_law_before [] := T.F_law_before.bindsN fun _ _ _ _ _ _ us hl => match us, hl with | [_, _], _ => rfl
theorem b_law_ascending {K : Fr1} {mg : Str → Option Value} (T : Txt K mg) : Binds K (d_law_ascending K) P_law_ascending [] := T.F_law_ascending.bindsN fun _ _ _ _ _ _ us hl => match us, hl with | [_], _ => rfl
theorem b_law_inside {K : Fr1} {mg : Str → Option Value} (T : Txt K mg) : Binds K (d_law_inside K) P_law_inside [] := T.F_law_inside.bindsN fun _ _ _ _ _ _ us hl => match us, hl with | [_, _, _], _ => rfl
theorem b_law_is_integer {K : Fr1} {mg : Str → Option Value} (T : Txt K mg) : Binds K (d_law_is_integer K) P_law_is_integer [] := T.F_law_is_integer.bindsN fun _ _ _ _ _ _ us hl => match us, hl with | [_], _ => rfl
theorem b_law_is_pair {K : Fr1} {mg : Str → Option Value} (T : Txt K mg) : Binds K (d_law_is_pair K) P_law_is_pair [] := T.F_law_is_pair.bindsN fun _ _ _ _ _ _ us hl => match us, hl with | [_], _ => rfl
theorem b_law_strange {K : Fr1} {mg : Str → Option Value} (T : Txt K mg) : Binds K (d_law_strange K) P_law_strange [] := T.F_law_strange.bindsN fun _ _ _ _ _ _ us hl => match us, hl with | [_], _ => rfl
theorem b_law_is_direction {K : Fr1} {mg : Str → Option Value} (T : Txt K mg) : Binds K (d_law_is_direction K) P_law_is_direction [] := T.F_law_is_direction.bindsN fun _ _ _ _ _ _ us hl => match us, hl with | [_], _ => rfl
theorem b_law_call {K : Fr1} {mg : Str → Option Value} (T : Txt K mg) : Binds K (d_law_call K) P_law_call [] := T.F_law_call.bindsN fun _ _ _ _ _ _ us hl => match us, hl with | [_, _, _], _ => rfl
theorem b_law_due {K : Fr1} {mg : Str → Option Value} (T : Txt K mg) : Binds K (d_law_due K) P_law_due [] := T.F_law_due.bindsN fun _ _ _ _ _ _ us hl => match us, hl with | [_, _], _ => rfl
theorem b_law_due_within {K : Fr1} {mg : Str → Option Value} (T : Txt K mg) : Binds K (d_law_due_within K) P_law_due_within [] := T.F_law_due_within.bindsN fun _ _ _ _ _ _ us hl => match us, hl with | [_, _, _], _ => rfl
theorem b_law_agrees {K : Fr1} {mg : Str → Option Value} (T : Txt K mg) : Binds K (d_law_agrees K) P_law_agrees [] := T.F_law_agrees.bindsN fun _ _ _ _ _ _ us hl => match us, hl with | [_, _, _], _ => rfl
theorem b_law_sorts {K : Fr1} {mg : Str → Option Value} (T : Txt K mg) : Binds K (d_law_sorts K) P_law_sorts [] := T.F_law_sorts.bindsN fun _ _ _ _ _ _ us hl => match us, hl with | [_], _ => rfl
theorem b_law_sort_refused {K : Fr1} {mg : Str → Option Value} (T : Txt K mg) : Binds K (d_law_sort_refused K) P_law_sort_refused [] := T.F_law_sort_refused.bindsN fun _ _ _ _ _ _ us hl => match us, hl with | [_, _], _ => rfl
theorem b_law_ring {K : Fr1} {mg : Str → Option Value} (T : Txt K mg) : Binds K (d_law_ring K) P_law_ring [] := T.F_law_ring.bindsN fun _ _ _ _ _ _ us hl => match us, hl with | [_, _, _, _], _ => rfl
theorem b_law {K : Fr1} {mg : Str → Option Value} (T : Txt K mg) : Binds K (d_law K) P_law [] := T.F_law.bindsN fun _ _ _ _ _ _ us hl => match us, hl with | [_], _ => rfl
end J

namespace J
open PySem PySem.Spec PyProof.Rows L2
abbrev RowL : PySem.W.OpenRow := PySem.W.OpenLaw.row PySem.Challenge.rw_jawturns_k41_directions
abbrev hkL : PySem.W.Hook := hookJ 4 faL fnL
def obL (s : PySem.W.SharedT) : He.AlD := obsJG 4 faL fnL (HandSHeadRun.getT s)
theorem obL_eq (s : PySem.W.SharedT) : obL s = hkL.obs s.abs := obsJG_eq (HandSHeadRun.getT_eq s)
abbrev looseL : List PySem.Str := (["__name__", "JawError", "BadTurn", "is_integer", "is_row", "is_direction", "checked", "lowered", "least", "times", "back", "opposite", "is_late", "earlier", "ahead", "ascending", "turned_back", "is_east", "inside", "within", "_law_state", "_law_draw", "_law_number", "_law_long", "_law_direction", "_law_gcd", "_law_least", "_law_times", "_law_back", "_law_same"] : List PySem.Str) ++ (["_law_late", "_law_before", "_law_ascending", "_law_inside", "_law_is_integer", "_law_is_pair", "_law_strange", "_law_is_direction", "_law_call", "_law_due", "_law_due_within", "_law_agrees", "_law_sorts", "_law_sort_refused", "_law_ring"] : List PySem.Str)
theorem runL (w : World) : HandSHeadRun.RunEqI RowL (PySem.W.view RowL.prog [0, 49]) hkL obL 20000 looseL w := by
  delta HandSHeadRun.RunEqI
  kernel_rfl
end J
namespace J
open PySem L2
open Evl (Ex)
/-! ### steps: a reading's head is taken off -/
section
variable {K : Fr1} {σ : L2.St} {H : Hp} {Q : VK} {D : Ends} {ta tb te tx : TE} {t u : TT} {g : TG} {r : R2} {tA : TA} {QA : List V → Hp → Prop} {QB : Bool → Hp → Prop} {QS : L2.St → Hp → Prop}
theorem w_var {i : Nat} {v : V} (h : σ[i]? = some (some v)) (k : Q v H) : tVar i σ H Q := ⟨v, h, k⟩
theorem w_c {v : V} (k : Q v H) : tC v σ H Q := k
theorem w_op (k : ta σ H fun x H1 => tb σ H1 fun y H2 => r x y H2 Q) : tOp r ta tb σ H Q := k
theorem w_un {r : V → Hp → VK → Prop} (k : ta σ H fun x H1 => r x H1 Q) : tUn r ta σ H Q := k
theorem w_I0 {f : Int → Int → V} {i j : Int} (k : Q (f i j) H) : rI0 f (.int i) (.int j) H Q := ⟨i, j, rfl, rfl, k⟩
theorem w_mulR {f : Int → Int → V} {i j : Int} (c : -(2 ^ 64) < j ∧ j < 2 ^ 64) (k : Q (f i j) H) : rI CMul f (.int i) (.int j) H Q := ⟨i, j, rfl, rfl, .inr c, k⟩
theorem w_mulL {f : Int → Int → V} {i j : Int} (c : -(2 ^ 64) < i ∧ i < 2 ^ 64) (k : Q (f i j) H) : rI CMul f (.int i) (.int j) H Q := ⟨i, j, rfl, rfl, .inl c, k⟩
theorem w_mod {f : Int → Int → V} {i j : Int} (c : j ≠ 0) (k : Q (f i j) H) : rI (fun _ j => j ≠ 0) f (.int i) (.int j) H Q := ⟨i, j, rfl, rfl, c, k⟩
theorem w_divN {f : Int → Int → V} {i j : Int} (c : j ≠ 0 ∧ j.natAbs < 1073741824) (k : Q (f i j) H) : rI CDivN f (.int i) (.int j) H Q := ⟨i, j, rfl, rfl, c, k⟩
theorem w_modP {f : Int → Int → V} {i j : Int} (c : 0 < j) (k : Q (f i j) H) : rI (fun _ j => 0 < j) f (.int i) (.int j) H Q := ⟨i, j, rfl, rfl, c, k⟩
theorem w_divP {f : Int → Int → V} {i j : Int} (c : 0 < j ∧ j < 1073741824) (k : Q (f i j) H) : rI CDiv f (.int i) (.int j) H Q := ⟨i, j, rfl, rfl, c, k⟩
theorem w_divW {f : Int → Int → V} {i j : Int} {b : Nat} (c : 0 < j) (h : j.natAbs < 2 ^ b) (h0 : 0 < b) (h9 : b ≤ 9000) (k : Q (f i j) H) : rI CDivW f (.int i) (.int j) H Q := ⟨i, j, rfl, rfl, wide_div c h h0 h9, k⟩
theorem w_pow {f : Int → Int → V} {i j : Int} (c : 0 ≤ j ∧ j ≤ 1000000 ∧ i.natAbs < 2 ^ 64) (k : Q (f i j) H) : rI CPow f (.int i) (.int j) H Q := ⟨i, j, rfl, rfl, c, k⟩
theorem w_U {f : Int → V} {i : Int} (k : Q (f i) H) : rU f (.int i) H Q := ⟨i, rfl, k⟩
theorem w_eqI {i j : Int} (k : Q (.bl (decide (i = j))) H) : rEq (.int i) (.int j) H Q := ⟨rfl, by
  have e : decide (V.int i = V.int j) = decide (i = j) := by
    by_cases h : i = j
    · rw [h, decide_eq_true rfl, decide_eq_true rfl]
    · rw [decide_eq_false h, decide_eq_false fun z => h (V.int.inj z)]
  rw [e]; exact k⟩
theorem w_neI {i j : Int} (k : Q (.bl (!decide (i = j))) H) : rNe (.int i) (.int j) H Q := ⟨rfl, by
  have e : decide (V.int i = V.int j) = decide (i = j) := by
    by_cases h : i = j
    · rw [h, decide_eq_true rfl, decide_eq_true rfl]
    · rw [decide_eq_false h, decide_eq_false fun z => h (V.int.inj z)]
  rw [e]; exact k⟩
theorem w_ixL {p : Addr} {xs : List V} {i : Int} {v : V} (h : SqL K H p xs) (e : atI xs i = some v) (k : Q v H) : rIxL K (.ref p) (.int i) H Q := ⟨p, xs, i, v, rfl, rfl, h, e, k⟩
theorem w_ixT {p : Addr} {xs : List V} {i : Int} {v : V} (h : SqT K H p xs) (e : atI xs i = some v) (k : Q v H) : rIxT K (.ref p) (.int i) H Q := ⟨p, xs, i, v, rfl, rfl, h, e, k⟩
theorem w_setL {p : Addr} {xs : List V} {i : Int} {j : Nat} {v : V} {Q : Hp → Prop} (h : H p = some (.lst xs)) (e : ixN xs.length i = some j) (k : Q (upd H p (.lst (xs.set j v)))) : rSetL (.ref p) (.int i) v H Q := ⟨p, xs, i, j, rfl, rfl, h, e, k⟩
theorem w_sub {s : TSet} {v : V} (k : ta σ H fun o H1 => tb σ H1 fun i H2 => s o i v H2 fun H3 => QS σ H3) : gSub ta tb s v σ H QS := k
theorem w_test (k : te σ H fun x H' => ∃ c, x = .bl c ∧ QB c H') : tTest te σ H QB := k
theorem w_B (k : te σ H fun x H' => ∃ c, x = .bl c ∧ QB c H') : tB te σ H QB := k
theorem w_bl {c : Bool} {P : Bool → Prop} (k : P c) : ∃ d, V.bl c = .bl d ∧ P d := ⟨c, rfl, k⟩
theorem w_nil (k : QA [] H) : tNil σ H QA := k
theorem w_cons (k : te σ H fun x H1 => tA σ H1 fun xs H2 => QA (x :: xs) H2) : tCons te tA σ H QA := k
theorem w_cb {r : List V → Hp → VK → Prop} (k : tA σ H fun vs H1 => r vs H1 Q) : tCB r tA σ H Q := k
theorem w_call {sp : Sp} {dvs : List V} {E : XK} (k : tA σ H fun vs H1 => sp (vs ++ dvs) H1 Q E) : tCall sp dvs E tA σ H Q := k
/-- what follows, by a name -/
structure Fol (F : L2.St → Hp → Prop) (u : TS) (D : Ends) : Prop where
  go : ∀ {σ H}, u D σ H → F σ H
theorem w_seqF {t u : TS} (k : ∀ F, Fol F u D → t { D with nx := F } σ H) : tSeq t u D σ H := k _ ⟨fun h => h⟩
theorem w_asg (k : te σ H fun x H1 => g x σ H1 D.nx) : tAsg te g D σ H := k
theorem w_name {i : Nat} {v : V} (k : QS (σ.set i (some v)) H) : gName i v σ H QS := k
theorem w_ret (k : te σ H D.rt) : tRet te D σ H := k
theorem w_ifS {a b : TS} (k : t σ H fun c H1 => if c = true then a D σ H1 else b D σ H1) : tIfS t a b D σ H := k
theorem w_drop (k : te σ H fun _ H1 => D.nx σ H1) : tDrop te D σ H := k
theorem w_next (k : D.nx σ H) : tNext D σ H := k
theorem w_if {c : Prop} [Decidable c] {A B : Prop} (h1 : c → A) (h2 : ¬ c → B) : if decide c = true then A else B := by
  by_cases h : c
  · rw [decide_eq_true h]; exact iteT (h1 h)
  · rw [decide_eq_false h]; exact iteF (h2 h)
theorem w_ifn {c : Prop} [Decidable c] {A B : Prop} (h1 : ¬ c → A) (h2 : c → B) : if (!decide c) = true then A else B := by
  by_cases h : c
  · rw [decide_eq_true h]; exact iteF (h2 h)
  · rw [decide_eq_false h]; exact iteT (h1 h)
theorem w_nt {A B : Prop} (h : A) : if (!false) = true then A else B := iteT h
theorem w_nf {A B : Prop} (h : B) : if (!true) = true then A else B := iteF h
theorem w_sFld {f : Str} {tv : TE} (k : tv σ H fun y H1 => ta σ H1 fun x H2 => ∃ a C dx fs, x = .ref a ∧ H2 a = some (.ins C dx fs) ∧ Cls K C ∧ NoAttr K C f ∧ fs.length < 1000 ∧ D.nx σ (upd H2 a (.ins C dx (putF f y fs)))) : sFld K ta tv f D σ H := k
theorem w_ij {a b : Int} {P : Int → Int → Prop} (k : P a b) : ∃ i j, [V.int a, V.int b] = [.int i, .int j] ∧ P i j := ⟨a, b, rfl, k⟩
theorem w_yes (k : QB true H) : tYes σ H QB := k
theorem w_and (k : t σ H fun c H1 => if c = true then u σ H1 QB else QB false H1) : tAnd t u σ H QB := k
theorem w_or (k : t σ H fun c H1 => if c = true then QB true H1 else u σ H1 QB) : tOr t u σ H QB := k
theorem w_not (k : t σ H fun c H1 => QB (!c) H1) : tNot t σ H QB := k
theorem w_int1 {i : Int} {P : Int → Prop} {P2 : Bool → Prop} (k : P i) : (∃ j, [V.int i] = [.int j] ∧ P j) ∨ ∃ b : Bool, [V.int i] = [.bl b] ∧ P2 b := .inl ⟨i, rfl, k⟩
theorem w_lenL {p : Addr} {ys : List V} {P : List V → Prop} (h : SqL K H p ys) (k : P ys) : ∃ p' ys', [V.ref p] = [.ref p'] ∧ (SqL K H p' ys' ∨ SqT K H p' ys') ∧ P ys' := ⟨p, ys, rfl, .inl h, k⟩
theorem w_lenT {p : Addr} {ys : List V} {P : List V → Prop} (h : SqT K H p ys) (k : P ys) : ∃ p' ys', [V.ref p] = [.ref p'] ∧ (SqL K H p' ys' ∨ SqT K H p' ys') ∧ P ys' := ⟨p, ys, rfl, .inr h, k⟩
theorem gen_new {H H1 : Hp} {p : Addr} {o : HO} (hp : H p = none) (e : upd H p o = H1) : Ex H H1 ∧ H1 p = some o := by subst e; exact ⟨Ex.new hp, upd_same⟩
theorem w_tup {ta : TA} (k : ta σ H fun xs H1 => xs.length ≤ sizeLine ∧ ∀ p, H1 p = none → Q (.ref p) (upd H1 p (.tup xs))) : tTup ta σ H Q := k
theorem w_lst {ta : TA} (k : ta σ H fun xs H1 => xs.length ≤ sizeLine ∧ ∀ p, H1 p = none → Q (.ref p) (upd H1 p (.lst xs))) : tLst ta σ H Q := k
theorem w_andV (k : ta σ H fun x H1 => ∃ c, x = .bl c ∧ if c = true then tb σ H1 Q else Q (.bl false) H1) : tAndV ta tb σ H Q := k
theorem w_orV (k : ta σ H fun x H1 => ∃ c, x = .bl c ∧ if c = true then Q (.bl true) H1 else tb σ H1 Q) : tOrV ta tb σ H Q := k
theorem w_notV (k : ta σ H fun x H1 => ∃ c, x = .bl c ∧ Q (.bl (!c)) H1) : tNotV ta σ H Q := k
theorem w_ifE (k : t σ H fun c H1 => if c = true then ta σ H1 Q else tb σ H1 Q) : tIf t ta tb σ H Q := k
theorem w_chain {r' : R2} {tc : TE} (k : ta σ H fun x H1 => tb σ H1 fun y H2 => r x y H2 fun z H3 => ∃ k, z = .bl k ∧ (if k = true then tc σ H3 fun w' H4 => r' y w' H4 Q else Q (.bl false) H3)) : tChain r r' ta tb tc σ H Q := k
theorem w_par {i j : Nat} (k : tA σ H fun vs H1 => ∃ v w, vs = [v, w] ∧ D.nx ((σ.set i (some v)).set j (some w)) H1) : tPar i j tA D σ H := k
theorem w_vw {v w : V} {P : V → V → Prop} (k : P v w) : ∃ a b, [v, w] = [a, b] ∧ P a b := ⟨v, w, rfl, k⟩
theorem w_gtup {n : Nat} {gs : TGs} {p : Addr} {xs : List V} (h : SqT K H p xs) (hl : xs.length = n) (k : gs xs σ H QS) : gTup K n gs (.ref p) σ H QS := ⟨p, xs, rfl, h, hl, k⟩
theorem w_gcons {g1 : TG} {gs : TGs} {v : V} {vs : List V} (k : g1 v σ H fun σ' H' => gs vs σ' H' QS) : gCons g1 gs (v :: vs) σ H QS := ⟨v, vs, rfl, k⟩
theorem w_gnil (k : QS σ H) : gNil [] σ H QS := ⟨rfl, k⟩
theorem w_bm {T : String} {r : V → List V → Hp → VK → Prop} (k : te σ H fun x H1 => tyV K T x H1 ∧ tA σ H1 fun xs H2 => r x xs H2 Q) : tBM K T r te tA σ H Q := k
theorem w_tyL {p : Addr} {xs : List V} {c : Prop} (h : SqL K H p xs) (k : c) : tyV K "list" (.ref p) H ∧ c := ⟨.inl ⟨rfl, _, h⟩, k⟩
theorem w_append {p : Addr} {xs : List V} {y : V} (h : H p = some (.lst xs)) (hl : xs.length < sizeLine) (k : Q .non (upd H p (.lst (xs ++ [y])))) : rAppend (.ref p) [y] H Q := ⟨p, xs, y, rfl, rfl, h, hl, k⟩
theorem w_fldT {f : Str} (k : ta σ H fun x H1 => ∃ a C dx fs v, x = .ref a ∧ H1 a = some (.ins C dx fs) ∧ Cls K C ∧ NoAttr K C f ∧ fs.lookup f = some v ∧ Q v H1) : tFld K ta f σ H Q := k
end
theorem _root_.Evl.Ex.get {H H' : Hp} {p : Addr} {o : HO} (e : Ex H H') (h : H p = some o) : H' p = some o := e _ _ h
theorem _root_.Evl.Ex.free {H H' : Hp} {p : Addr} (e : Ex H H') (h : H' p = none) : H p = none := Evl.fresh_back e h
theorem sz_of {n : Nat} (h : n ≤ 1000) : n ≤ sizeLine := Nat.le_trans h (by decide)
/-! ### data in the heap -/
mutual
inductive Dq (K : Fr1) (H : Hp) : V → PyData → Prop
  | non : Dq K H .non .none
  | bl (b : Bool) : Dq K H (.bl b) (.bool b)
  | int (i : Int) : Dq K H (.int i) (.int i)
  | str (x : Str) : Dq K H (.str x) (.str x)
  | lst {a : Addr} {xs : List V} {ds : List PyData} (h : H a = some (.lst xs)) (ha : DqAll K H xs ds) : Dq K H (.ref a) (.list ds)
  | tup {a : Addr} {xs : List V} {ds : List PyData} (h : H a = some (.tup xs)) (ha : DqAll K H xs ds) : Dq K H (.ref a) (.tuple ds)
  | dct {a : Addr} {kvs : List (Key × V)} {ds : List (PyData × PyData)} (h : H a = some (.dK kvs)) : Dq K H (.ref a) (.dict ds)
inductive DqAll (K : Fr1) (H : Hp) : List V → List PyData → Prop
  | nil : DqAll K H [] []
  | cons {v : V} {vs : List V} {d : PyData} {ds : List PyData} (h : Dq K H v d) (t : DqAll K H vs ds) : DqAll K H (v :: vs) (d :: ds)
end
def tyn : PyData → String
  | .none => "NoneType"
  | .bool _ => "bool"
  | .int _ => "int"
  | .str _ => "str"
  | .list _ => "list"
  | .tuple _ => "tuple"
  | .dict _ => "dict"
theorem Dq.ty {K : Fr1} {H : Hp} {v : V} {d : PyData} (h : Dq K H v d) : TyX K H v (.type (tyn d)) := by
  cases h with
  | non => exact .base .non
  | bl b => exact .base (.bl b)
  | int i => exact .base (.int i)
  | str x => exact .base (.str x)
  | lst h _ => exact .base (.lst h)
  | tup h _ => exact .base (.tup h)
  | dct h => exact .base (.dK h)
mutual
theorem Dq.mono {K : Fr1} {H H' : Hp} (e : Ex H H') : ∀ {v : V} {d : PyData}, Dq K H v d → Dq K H' v d
  | _, _, .non => .non
  | _, _, .bl b => .bl b
  | _, _, .int i => .int i
  | _, _, .str x => .str x
  | _, _, .lst h a => .lst (e _ _ h) (DqAll.mono e a)
  | _, _, .tup h a => .tup (e _ _ h) (DqAll.mono e a)
  | _, _, .dct h => .dct (e _ _ h)
theorem DqAll.mono {K : Fr1} {H H' : Hp} (e : Ex H H') : ∀ {vs : List V} {ds : List PyData}, DqAll K H vs ds → DqAll K H' vs ds
  | _, _, .nil => .nil
  | _, _, .cons h t => .cons (Dq.mono e h) (DqAll.mono e t)
end
/-- objects that data may stand in -/
def dataO : HO → Prop
  | .lst _ => True
  | .tup _ => True
  | .dK _ => True
  | _ => False
mutual
theorem Dq.rel {K : Fr1} {H H' : Hp} (e : ∀ a o, H a = some o → dataO o → H' a = some o) : ∀ {v : V} {d : PyData}, Dq K H v d → Dq K H' v d
  | _, _, .non => .non
  | _, _, .bl b => .bl b
  | _, _, .int i => .int i
  | _, _, .str x => .str x
  | _, _, .lst h a => .lst (e _ _ h trivial) (DqAll.rel e a)
  | _, _, .tup h a => .tup (e _ _ h trivial) (DqAll.rel e a)
  | _, _, .dct h => .dct (e _ _ h trivial)
theorem DqAll.rel {K : Fr1} {H H' : Hp} (e : ∀ a o, H a = some o → dataO o → H' a = some o) : ∀ {vs : List V} {ds : List PyData}, DqAll K H vs ds → DqAll K H' vs ds
  | _, _, .nil => .nil
  | _, _, .cons h t => .cons (Dq.rel e h) (DqAll.rel e t)
end
theorem DqAll.len {K : Fr1} {H : Hp} {vs : List V} {ds : List PyData} : DqAll K H vs ds → vs.length = ds.length
  | .nil => rfl
  | .cons _ t => congrArg Nat.succ (DqAll.len t)
theorem DqAll.get {K : Fr1} {H : Hp} : ∀ {vs : List V} {ds : List PyData} {i : Nat} {v : V}, DqAll K H vs ds → vs[i]? = some v → ∃ d, ds[i]? = some d ∧ Dq K H v d
  | _, _, 0, _, .cons h _, e => by
    cases (Option.some.inj e)
    exact ⟨_, rfl, h⟩
  | _, _, i + 1, v, .cons _ t, e => DqAll.get (i := i) t e
theorem DqAll.get' {K : Fr1} {H : Hp} : ∀ {vs : List V} {ds : List PyData} {i : Nat} {d : PyData}, DqAll K H vs ds → ds[i]? = some d → ∃ v, vs[i]? = some v ∧ Dq K H v d
  | _, _, 0, _, .cons h _, e => by
    cases (Option.some.inj e)
    exact ⟨_, rfl, h⟩
  | _, _, i + 1, d, .cons _ t, e => DqAll.get' (i := i) t e
theorem dqA_ints {K : Fr1} {H : Hp} : ∀ ns : List Int, DqAll K H (ns.map V.int) (ns.map PyData.int)
  | [] => .nil
  | n :: r => .cons (.int n) (dqA_ints r)
theorem kit_int (d : PyData) : kitB (tyn d) "int" = some (tyn d == "int" || tyn d == "bool") := by cases d <;> (dsimp only [tyn]; decide +kernel)
theorem kit_bool (d : PyData) : kitB (tyn d) "bool" = some (tyn d == "bool") := by cases d <;> (dsimp only [tyn]; decide +kernel)
theorem kit_list (d : PyData) : kitB (tyn d) "list" = some (tyn d == "list") := by cases d <;> (dsimp only [tyn]; decide +kernel)
theorem kit_tuple (d : PyData) : kitB (tyn d) "tuple" = some (tyn d == "tuple") := by cases d <;> (dsimp only [tyn]; decide +kernel)
section
variable {K : Fr1} {H : Hp} {Q : VK} {v : V} {d : PyData}
/-- isinstance(x, T), T a built-in class -/
theorem w_isi {n : String} {b : Bool} (h : Dq K H v d) (k : kitB (tyn d) n = some b) (q : Q (.bl b) H) : rIsi K [v, .ty n] H Q := ⟨v, .ty n, .type (tyn d), .type n, b, rfl, .ty n, h.ty, kit_ty k, q⟩
theorem w_isiT {n m : String} {b c : Bool} {tp : Addr} (h : Dq K H v d) (ht : H tp = some (.tup [.ty n, .ty m])) (k : kitB (tyn d) n = some b) (k2 : kitB (tyn d) m = some c) (q : Q (.bl (b || c)) H) : rIsiT K [v, .ref tp] H Q :=
  ⟨v, tp, [.ty n, .ty m], .type (tyn d), [.type n, .type m], b || c, rfl, ht, .cons (.ty n) (.cons (.ty m) .nil), h.ty, kitAny_cons (kit_ty k) (fun hb => by subst hb; exact kitAny_cons (kit_ty k2) (fun hc => by subst hc; exact kitAny_nil) (fun hc => by subst hc; rfl)) (fun hb => by subst hb; rfl), q⟩
end
/-- what the checks of the program ask of data -/
def isI : PyData → Bool
  | .int _ => true
  | _ => false
theorem isI_ty (d : PyData) : ((tyn d == "int" || tyn d == "bool") && !(tyn d == "bool")) = isI d := by cases d <;> (dsimp only [tyn, isI]; decide)
def isRow : PyData → Bool
  | .list _ => true
  | .tuple _ => true
  | _ => false
theorem isRow_ty (d : PyData) : (tyn d == "list" || tyn d == "tuple") = isRow d := by cases d <;> (dsimp only [tyn, isRow]; decide)
def isPlc (N : Int) : PyData → Bool
  | .int i => decide (0 ≤ i) && decide (i < N)
  | _ => false
def isPair (N : Int) : PyData → Bool
  | .tuple [a, b] => isPlc N a && isPlc N b
  | _ => false
/-! ### own errors -/
/-- what an error's __init__ does: its one field is stored in its new dict -/
def sp_err (C : Addr) (f : Str) : Sp := fun vs H Q _ => ∃ (a : Addr) (v : V), vs = [.ref a, v] ∧ H a = some (exo a C none) ∧
  ∀ dx, H dx = none → dx ≠ a → Q .non (upd (upd H dx (exd dx [(f, v)])) a (exo a C (some dx)))
/-- the wish for a raised error of the class named c whose field f holds v -/
def Rz (K : Fr1) (c f : Str) (v : V) (H : Hp) (E : XK) : Prop := ∀ d H', H d = none → Ex H H' → H' d = some (.xd [(f, v)]) → E (.ref (He.ga K c)) (some d) H'
theorem Rz.mono {K : Fr1} {c f : Str} {v : V} {H H1 : Hp} {E : XK} (r : Rz K c f v H E) (e : Ex H H1) : Rz K c f v H1 E := fun d H' h1 h2 h3 => r d H' (Evl.fresh_back e h1) (e.trans h2) h3
section
variable {σ : L2.St} {H : Hp} {C : Addr} {f : Str} {v : V} {ta : TA} {Q : XK} {sp : Sp} {dvs : List V}
theorem w_mkO (k : ta σ H fun vs H1 => vs.length ≤ 1000 ∧ ∀ a, H1 a = none → sp (.ref a :: (vs ++ dvs)) (upd H1 a (exo a C none))
  (fun v H2 => v = .non ∧ ∃ (d : Addr) (fs : List (Str × V)), H2 a = some (exo a C (some d)) ∧ H2 d = some (exd d fs) ∧ H1 d = none ∧ Q (.ref C) (some d) (upd (del H2 a) d (.xd fs))) (fun _ _ _ => False)) : tMkO C sp dvs ta σ H Q := k
theorem w_err {P : Value → Option Addr → Hp → Prop} (k : ∀ d H', H d = none → Ex H H' → H' d = some (.xd [(f, v)]) → P (.ref C) (some d) H') :
    [v].length ≤ 1000 ∧ ∀ a, H a = none → sp_err C f (.ref a :: ([v] ++ [])) (upd H a (exo a C none))
      (fun v H2 => v = .non ∧ ∃ (d : Addr) (fs : List (Str × V)), H2 a = some (exo a C (some d)) ∧ H2 d = some (exd d fs) ∧ H d = none ∧ P (.ref C) (some d) (upd (del H2 a) d (.xd fs))) (fun _ _ _ => False) := by
  refine ⟨by show 1 ≤ 1000; decide, fun a ha => ⟨a, v, rfl, upd_same, fun dx h1 h2 => ⟨rfl, dx, [(f, v)], upd_same, by rw [upd_ne h2]; exact upd_same, ?_, ?_⟩⟩⟩
  · rw [upd_ne h2] at h1
    exact h1
  · rw [upd_ne h2] at h1
    refine k dx _ h1 (fun b o hb => ?_) upd_same
    have n1 : b ≠ dx := ne_of_none hb h1
    have n2 : b ≠ a := ne_of_none hb ha
    rw [upd_ne n1, del_ne n2, upd_ne n2, upd_ne n1, upd_ne n2]
    exact hb
end
/-- what the enumeration at e over the tuple at a keeps in its own two cells -/
structure EnAt (a e it : Addr) (i : Nat) (h : Heap) : Prop where
  cell : ∃ old, IsEnum h e it (0 + (i : Int)) old
  iter : h.IsTupleIter it a i
theorem EnAt.stays {a e it : Addr} {i : Nat} {h h' : Heap} (S : EnAt a e it i h) (k : ∀ b ∈ [e, it], ∀ o, h.get? b = some o → h'.get? b = some o) : EnAt a e it i h' :=
  ⟨S.cell.imp fun _ c => k e (by simp) _ c, S.iter.at fun o q => k it (by simp) o q⟩
/-- a list or a tuple of xs at a -/
def Sq (K : Fr1) (H : Hp) (a : Addr) (xs : List V) : Prop := H a = some (.lst xs) ∨ H a = some (.tup xs)
theorem Sq.mono {K : Fr1} {H H' : Hp} {a : Addr} {xs : List V} (e : Ex H H') (h : Sq K H a xs) : Sq K H' a xs := by
  rcases h with h | h
  · exact .inl (e _ _ h)
  · exact .inr (e _ _ h)
/-- what comes of a walked thing: its items, as long as the heap only grows -/
def tWk (K : Fr1) (H : Hp) (a : Addr) (xs : List V) (Y : Nat → Hp → V → Hp → Prop) (R : It → Hp → Prop) : Prop := ∀ J, Walk J xs.length (fun H' => H' a = H a) Y → R J H
abbrev YEn (xs : List V) : Nat → Hp → V → Hp → Prop := YPair (fun i => some (.int (i : Nat))) (fun i => xs[i]?)
def iEnumX (K : Fr1) (ta : TA) : TI := fun σ H R => ta σ H fun vs H1 => ∃ a xs, vs = [.ref a] ∧ Sq K H1 a xs ∧ tWk K H1 a xs (YEn xs) R
/-- for x in a list or a tuple -/
def iSeq (K : Fr1) (tl : TE) : TI := fun σ H R => tl σ H fun x H1 => ∃ a xs, x = .ref a ∧ Sq K H1 a xs ∧ tWk K H1 a xs (YAt xs) R
theorem pi_seq {X : Cx} {tg l : Expr} {tl : TE} (hl : PE X l tl) : PI X tg l (iSeq X.K tl) := by
  refine ⟨fun pins s σ H R I h => thn (hl.run pins s σ H _ I h) ?_⟩
  rintro v s1 ⟨_, H1, I1, r1, a, xs, rfl, hq, q⟩
  cases r1
  have fp : ∀ b ∈ [s1.heap.objs.size], FpOk X pins H1 b := by
    rintro _ (_ | ⟨_, ⟨⟩⟩)
    exact I1.fpOk Nat.le.refl (I1.hok.fresh Nat.le.refl)
  have new : ∀ (o : Obj), o.isFreed = false → (s1.heap.push o).get? s1.heap.objs.size = some o := fun o f => Heap.get?_push_size _ f
  rcases hq with hq | hq
  · obtain ⟨its, -, p, -⟩ := I1.list (SqL.of hq)
    exact wpAny_pyIter_list p.isList ⟨_, _, _, _, H1, rfl, I1.kept (t' := s1.toks) fun _ _ => Heap.get?_push_of_some _, turn_list a _, ⟨_, new _ rfl, rfl, rfl⟩, fp, q _ (walk_list.mono (fun _ x => SqL.of (x.trans hq)) fun _ _ _ _ _ _ y => y)⟩
  · obtain ⟨its, -, p, -⟩ := I1.tuple (SqT.of hq)
    exact wpAny_pyIter_tuple (t := a) (items := its.toArray) p ⟨_, _, _, _, H1, rfl, I1.kept (t' := s1.toks) fun _ _ => Heap.get?_push_of_some _, turn_tuple a _, ⟨_, new _ rfl, rfl, rfl⟩, fp, q _ (walk_tup.mono (fun _ x => SqT.of (x.trans hq)) fun _ _ _ _ _ _ y => y)⟩
theorem at_nat {xs : List V} {i : Int} {j : Nat} {v : V} (e : i = (j : Int)) (h : xs[j]? = some v) : atI xs i = some v := by
  rw [e]
  exact atI_nat h
theorem _root_.Evl.Ex.delD {H H' : Hp} {D : Addr} (e : Ex H H') (h : H D = none) : Ex H (del H' D) := fun b o hb => by
  rw [del_ne (ne_of_none hb h)]
  exact e b o hb
theorem ex_del {H : Hp} {D : Addr} : Ex (del H D) H := fun b o hb => by
  by_cases q : b = D
  · rw [q, del_same] at hb
    cases hb
  · rw [del_ne q] at hb
    exact hb
theorem paired_mono {α : Type} {R R' : V → α → Prop} (m : ∀ v a, R v a → R' v a) : ∀ {vs : List V} {as : List α}, Paired R vs as → Paired R' vs as
  | _, _, .nil => .nil
  | _, _, .cons h t => .cons (m _ _ h) (paired_mono m t)
theorem paired_snoc {α : Type} {R : V → α → Prop} {v : V} {a : α} (h : R v a) : ∀ {vs : List V} {as : List α}, Paired R vs as → Paired R (vs ++ [v]) (as ++ [a])
  | _, _, .nil => .cons h .nil
  | _, _, .cons q t => .cons q (paired_snoc h t)
theorem range_fm_succ {α : Type} (f : Nat → Option α) (n : Nat) : (List.range (n + 1)).filterMap f = (List.range n).filterMap f ++ (f n).toList := by
  rw [List.range_succ, List.filterMap_append]
  cases e : f n <;> simp [List.filterMap_cons, e]
/-- a comprehension over a walk: at turn i it gives f i's datum, or nothing -/
theorem lc_gen {α : Type} {J : It} {n : Nat} {Y : Nat → Hp → V → Hp → Prop} {H : Hp} {g : TG} {tt : TT} {te : TE} {vs : List Nat} {σ : L2.St} {Q : Addr → Hp → Prop} (R : Hp → V → α → Prop) (mono : ∀ H H' v a, Ex H H' → R H v a → R H' v a)
    (wk : Walk J n (fun H' => Ex H H') Y) (f : Nat → Option α) (hz : n < sizeLine)
    (hs : ∀ (D : Addr) (i : Nat) (x : V) (H' H1 : Hp) (k1 : V → Hp → Prop) (k2 : Hp → Prop), H D = none → i < n → Ex H H' → (∃ o, H' D = some o) → Y i H' x H1 →
      (∀ a y H4, f i = some a → Ex H' H4 → R (del H4 D) y a → k1 y H4) → (f i = none → ∀ H4, Ex H' H4 → k2 H4) →
      g x (wipe σ vs) H1 fun σ2 H2 => wipe σ2 vs = wipe σ vs ∧ tt σ2 H2 fun b H3 => if b = true then te σ2 H3 k1 else k2 H3)
    (hd : ∀ D H', H D = none → Ex H H' → (∃ acc, H' D = some (.lst acc) ∧ Paired (R H') acc ((List.range n).filterMap f)) → Q D H') :
    ∀ D, H D = none → ∃ W : Nat → Nat → Hp → Prop, (∃ m, W 0 m (upd H D (.lst []))) ∧ ∀ i m H, W i m H →
      (J.stop i H ∧ Q D H) ∨ (J.go i H ∧ ∃ Nx : Hp → Prop, (∀ H', Nx H' → ∃ m', m' < m ∧ W (i + 1) m' H') ∧ ∀ x H', J.yld i H x H' → g x (wipe σ vs) H' fun σ2 H2 => wipe σ2 vs = wipe σ vs ∧ tt σ2 H2 fun b H3 =>
        if b = true then te σ2 H3 fun y H4 => ∃ acc, H4 D = some (.lst acc) ∧ acc.length < sizeLine ∧ Nx (upd H4 D (.lst (acc ++ [y]))) else Nx H3) := by
  intro D hD
  refine lc_it wk (fun i H' => i ≤ n ∧ Ex H H' ∧ ∃ acc, H' D = some (.lst acc) ∧ acc.length ≤ i ∧ Paired (R (del H' D)) acc ((List.range i).filterMap f)) ⟨Nat.zero_le _, Ex.new hD, [], upd_same, Nat.le_refl _, .nil⟩ (fun i H' _ p => p.2.1) (fun i x H' H1 hi p y => ?_) (fun H' p => ?_)
  · obtain ⟨hi', e, acc, ha, hal, hp⟩ := p
    refine hs D i x H' H1 _ _ hD hi e ⟨_, ha⟩ y (fun a z H4 hf e4 r => ?_) (fun hf H4 e4 => ?_)
    · refine ⟨acc, e4 _ _ ha, by omega, by omega, (e.trans e4).mut hD, acc ++ [z], upd_same, by rw [List.length_append]; show acc.length + 1 ≤ i + 1; omega, ?_⟩
      have ed : del (upd H4 D (.lst (acc ++ [z]))) D = del H4 D := by
        funext b
        by_cases q : b = D
        · rw [q, del_same, del_same]
        · rw [del_ne q, del_ne q, upd_ne q]
      have e5 : Ex (del H' D) (del H4 D) := Ex.delD (ex_del.trans e4) del_same
      rw [ed, range_fm_succ, hf]
      exact paired_snoc r (paired_mono (fun v a h => mono _ _ v a e5 h) hp)
    · have e5 : Ex (del H' D) (del H4 D) := Ex.delD (ex_del.trans e4) del_same
      refine ⟨by omega, e.trans e4, acc, e4 _ _ ha, by omega, ?_⟩
      rw [range_fm_succ, hf]
      simpa using paired_mono (fun v a h => mono _ _ v a e5 h) hp
  · obtain ⟨_, e, acc, ha, _, hp⟩ := p
    exact hd D H' hD e ⟨acc, ha, paired_mono (fun v a h => mono _ _ v a ex_del h) hp⟩
section
variable {K : Fr1} {σ : L2.St} {H : Hp} {D : Ends} {ta : TA} {tl : TE} {R : It → Hp → Prop}
theorem w_for {wi : TI} {g : TG} {tb : TS} (k : wi σ H fun J H1 => ∃ W : Nat → Nat → L2.St → Hp → Prop, (∃ m, W 0 m σ H1) ∧ ∀ i m σ H, W i m σ H →
  (J.stop i H ∧ D.nx σ H) ∨ (J.go i H ∧ ∃ N : L2.St → Hp → Prop, (∀ σ' H', N σ' H' → ∃ m', m' < m ∧ W (i + 1) m' σ' H') ∧ ∀ x H', J.yld i H x H' → g x σ H' fun σ2 H2 => tb { D with nx := N, ct := N, bk := D.nx } σ2 H2)) : tFor wi g tb D σ H := k
theorem w_enumI (k : ta σ H fun vs H1 => ∃ a xs, vs = [.ref a] ∧ Sq K H1 a xs ∧ tWk K H1 a xs (YEn xs) R) : iEnumX K ta σ H R := k
theorem w_seqI (k : tl σ H fun x H1 => ∃ a xs, x = .ref a ∧ Sq K H1 a xs ∧ tWk K H1 a xs (YAt xs) R) : iSeq K tl σ H R := k
theorem sq_stay {a : Addr} {xs : List V} {H' : Hp} (h : Sq K H a xs) (e : Ex H H') : H' a = H a := by
  rcases h with h | h
  · rw [h, e _ _ h]
  · rw [h, e _ _ h]
theorem w_listI {tl : TE} (k : tl σ H fun x H1 => ∃ a, x = .ref a ∧ (∃ xs, SqL K H1 a xs) ∧ R (Itl K a) H1) : iList K tl σ H R := k
theorem w_seqX {a : Addr} {xs : List V} (h : Sq K H a xs) (k : ∀ J, Walk J xs.length (fun H' => Ex H H') (YAt xs) → R J H) : ∃ a' xs', V.ref a = .ref a' ∧ Sq K H a' xs' ∧ tWk K H a' xs' (YAt xs') R := ⟨a, xs, rfl, h, fun J wk => k J (wk.mono (fun H' e => sq_stay h e) fun _ _ _ _ _ _ y => y)⟩
theorem w_seqA {a : Addr} {xs : List V} (h : Sq K H a xs) (k : ∀ J, Walk J xs.length (fun H' => H' a = H a) (YAt xs) → R J H) : ∃ a' xs', V.ref a = .ref a' ∧ Sq K H a' xs' ∧ tWk K H a' xs' (YAt xs') R := ⟨a, xs, rfl, h, k⟩
theorem w_lc {wi : TI} {g : TG} {tt : TT} {te : TE} {vs : List Nat} {Q : VK} (k : wi σ H fun J H1 => ∀ D, H1 D = none → ∃ W : Nat → Nat → Hp → Prop, (∃ m, W 0 m (upd H1 D (.lst []))) ∧ ∀ i m H, W i m H →
  (J.stop i H ∧ Q (.ref D) H) ∨ (J.go i H ∧ ∃ Nx : Hp → Prop, (∀ H', Nx H' → ∃ m', m' < m ∧ W (i + 1) m' H') ∧ ∀ x H', J.yld i H x H' → g x (wipe σ vs) H' fun σ2 H2 => wipe σ2 vs = wipe σ vs ∧ tt σ2 H2 fun b H3 =>
    if b = true then te σ2 H3 fun y H4 => ∃ acc, H4 D = some (.lst acc) ∧ acc.length < sizeLine ∧ Nx (upd H4 D (.lst (acc ++ [y]))) else Nx H3)) : tLc wi g tt te vs σ H Q := k
theorem w_rng1 {ta : TA} (k : ta σ H fun vs H1 => ∃ j : Int, vs = [.int j] ∧ -(2 ^ 62) ≤ j ∧ j < 2 ^ 62 ∧ R (Itr 0 j.toNat) H1) : iRng1 ta σ H R := k
theorem w_rng2 {ta : TA} (k : ta σ H fun vs H1 => ∃ i j : Int, vs = [.int i, .int j] ∧ (-(2 ^ 62) ≤ i ∧ i < 2 ^ 62 ∧ -(2 ^ 62) ≤ j ∧ j < 2 ^ 62) ∧ R (Itr i (j - i).toNat) H1) : iRng2 ta σ H R := k
end
theorem fmod_in {a b : Int} (h : 0 < b) : 0 ≤ a.fmod b ∧ a.fmod b < b := ⟨Int.fmod_nonneg_of_pos a h, Int.fmod_lt_of_pos a h⟩
theorem atI_int {ns : List Int} {a : Int} (h : 0 ≤ a) (h2 : a < ns.length) : ∃ z, atI (ns.map V.int) a = some (.int z) := by
  obtain ⟨j, rfl⟩ : ∃ j : Nat, a = (j : Int) := ⟨a.toNat, by omega⟩
  have hj : j < ns.length := by omega
  exact ⟨ns[j], atI_nat (by rw [List.getElem?_map, List.getElem?_eq_getElem hj]; rfl)⟩
/-! ### the state of the draws -/
abbrev drL (L : Addr) (a b c d e : Int) : List V := [.ref L, .int a, .int b, .int c, .int d, .int e]
section
variable {P : Program} {w : World}
/-- the state of the draws, by what stays true of it -/
def drOk (s L : Addr) (h : Heap) : Prop := ∃ (a b c d e : Int) (its : List Value) (n : Nat), 0 ≤ a ∧ Vals (drL L a b c d e) its ∧ h.get? s = some { cls := .type "list", data := .seq its.toArray n }
def StO (s L : Addr) : HO := .ext (drOk s L)
theorem st_open {H : Hp} {h : Heap} {s L : Addr} (ok : HOk P w H h) (hs : H s = some (StO s L)) : ∃ a b c d e : Int, 0 ≤ a ∧ HOk P w (upd H s (.lst (drL L a b c d e))) h := by
  have x : ObjOk P w H h s (.ext (drOk s L)) := ok s _ hs
  obtain ⟨⟨a, b, c, d, e, its, n, h0, r, g⟩, _⟩ := x
  refine ⟨a, b, c, d, e, h0, fun q u eq => ?_⟩
  by_cases hq : q = s
  · subst hq
    rw [upd_same] at eq
    cases eq
    exact ⟨by show 6 ≤ sizeLine; decide, its, n, r, g⟩
  · rw [upd_ne hq] at eq
    exact (ok q u eq).stay (fun _ _ _ z => z) (fun c' hc => by rw [upd_ne (ne_of hc hs (by intro z; cases z))]; exact hc) fun c' xs hc => by rw [upd_ne (ne_of hc hs (by intro z; cases z))]; exact hc
theorem st_close {H : Hp} {h : Heap} {s L : Addr} {a b c d e : Int} (ok : HOk P w H h) (hs : H s = some (.lst (drL L a b c d e))) (h0 : 0 ≤ a) : HOk P w (upd H s (StO s L)) h := by
  intro q u eq
  by_cases hq : q = s
  · subst hq
    rw [upd_same] at eq
    cases eq
    obtain ⟨_, its, n, r, g⟩ := (show ObjOk P w H h q (.lst (drL L a b c d e)) from ok q _ hs)
    exact ⟨⟨a, b, c, d, e, its, n, h0, r, g⟩, ⟨_, g⟩, fun h1 h2 ⟨a1, b1, c1, d1, e1, its1, n1, z0, z1, z2⟩ kk => ⟨a1, b1, c1, d1, e1, its1, n1, z0, z1, kk _ z2⟩⟩
  · rw [upd_ne hq] at eq
    exact (ok q u eq).stay (fun _ _ _ z => z) (fun c' hc => by rw [upd_ne (ne_of hc hs (by intro z; cases z))]; exact hc) fun c' xs hc => by rw [upd_ne (ne_of hc hs (by intro z; cases z))]; exact hc
end
/-! ### keyword calls of defs and methods without defaults; instances that are called -/
def permL {α : Type} (l : List Nat) (xs : List α) : List α := l.filterMap fun i => xs[i]?
theorem vals_get : ∀ {vs : List V} {us : List Value}, Vals vs us → ∀ i : Nat, (vs[i]? = none ∧ us[i]? = none) ∨ ∃ v u, vs[i]? = some v ∧ us[i]? = some u ∧ RelV v u
  | _, _, .nil, _ => .inl ⟨rfl, rfl⟩
  | _, _, .cons h _, 0 => .inr ⟨_, _, rfl, rfl, h⟩
  | _, _, .cons _ t, i + 1 => vals_get t i
theorem permL_rel {vs : List V} {us : List Value} (h : Vals vs us) : ∀ l : List Nat, Vals (permL l vs) (permL l us)
  | [] => .nil
  | i :: l => by
    have ih := permL_rel h l
    unfold permL at ih ⊢
    rcases vals_get h i with ⟨e1, e2⟩ | ⟨v, u, e1, e2, r⟩
    · rw [List.filterMap_cons_none e1, List.filterMap_cons_none e2]
      exact ih
    · rw [List.filterMap_cons_some e1, List.filterMap_cons_some e2]
      exact .cons r ih
/-- the positional values and then the keywords' values, put in the parameters' order -/
def gP (l : List Nat) {α : Type} (us ws : List α) : List α := permL l (us ++ ws)
theorem kbn0 {K : Fr1} {x qual : Str} {params : Arguments} {body : List Stmt} {scope : Scope} {f : Addr} {fd : FuncData} {ps : List Str} (F : FunD K x qual params body scope [] [] f fd) (n : Nat) (ks : List Str) (l : List Nat)
    (h : ∀ (kV doc pm : Value) (an : Option Addr) (cdv ct : Value) (us ws : List Value), us.length = n → ws.length = ks.length → bindArgs (PySem.W.fnOf x qual params body scope .none kV doc pm an cdv ct) ⟨us, ks.zip ws⟩ = pure (ps.zip (gP l us ws))) : KBn K fd ps n ks (fun us ws => gP l us ws) (fun us ws => gP l us ws) := by
  obtain ⟨oc, od, dV, kV, doc, pm, an, cdv, ct, osl, rfl, lk, hcd, hD, hK⟩ := F.ex
  rcases hD with ⟨_, rfl⟩ | ⟨e, _⟩
  · exact ⟨fun s us ws _ l1 l2 => .of_eq (h kV doc pm an cdv ct us ws l1 l2), fun r1 r2 => permL_rel (r1.append r2) l⟩
  · exact absurd rfl e
/-- o.m(k = v, ..) of an instance of the class at C -/
def tMethK (C : Addr) (m : Str) (n : Nat) (l : List Nat) (sp : Sp) (E : XK) (ta : TE) (tk : TA) : TE := fun σ H Q => ta σ H fun x H1 => ∃ a dx fs, x = .ref a ∧ H1 a = some (.ins C dx fs) ∧ fs.lookup m = none ∧ tk σ H1 fun zs H2 => zs.length = n ∧ sp (gP l [x] zs) H2 Q E
/-- f(k = v, ..) -/
def tCallKw (n : Nat) (l : List Nat) (sp : Sp) (E : XK) (tk : TA) : TE := fun σ H Q => tk σ H fun zs H2 => zs.length = n ∧ sp (gP l [] zs) H2 Q E
section
variable {X : Cx} {σ : L2.St} {H : Hp} {Q : VK} {te tf : TE} {tk tA : TA} {sp : Sp} {E : XK} {C : Addr}
theorem w_prop {dvs : List V} (k : te σ H fun x H1 => ∃ a dx fs, x = .ref a ∧ H1 a = some (.ins C dx fs) ∧ sp (.ref a :: dvs) H1 Q E) : tProp C sp dvs E te σ H Q := k
theorem w_make {dvs : List V} (k : tA σ H fun vs H1 => ∀ x dx, H1 x = none → H1 dx = none → dx ≠ x → sp (.ref x :: (vs ++ dvs)) (upd (upd H1 dx (.own x)) x (.ins C dx [])) (fun v H2 => v = .non ∧ Q (.ref x) H2) E) : tMake C sp dvs E tA σ H Q := k
theorem w_methN {m : Str} {dvs : List V} (k : te σ H fun x H1 => ∃ a dx fs, x = .ref a ∧ H1 a = some (.ins C dx fs) ∧ fs.lookup m = none ∧ tA σ H1 fun vs H2 => sp (x :: (vs ++ dvs)) H2 Q E) : tMeth C m sp dvs E te tA σ H Q := k
theorem w_disp {trs : List (TE × TE)} (k : ∀ p, H p = none → tPairs trs σ (upd H p (.dK [])) fun ps H2 => H2 p = some (.dK []) ∧ ∃ kvs : List (Key × V), ps = kvs.map (fun kv => (kV kv.1, kv.2)) ∧ kvs.length ≤ 15 ∧ Q (.ref p) (upd H2 p (.dK (mergeK [] kvs)))) : tDisp trs σ H Q := k
theorem w_pairsN {QP : List (V × V) → Hp → Prop} (k : QP [] H) : tPairs [] σ H QP := k
theorem w_pairsC {QP : List (V × V) → Hp → Prop} {tk tv : TE} {trs : List (TE × TE)} (k : tk σ H fun x H1 => tv σ H1 fun y H2 => tPairs trs σ H2 fun ps H3 => QP ((x, y) :: ps) H3) : tPairs ((tk, tv) :: trs) σ H QP := k
theorem w_dnew (k : ∀ p, H p = none → Q (.ref p) (upd H p (.dK []))) : tDNewK σ H Q := k
theorem w_bm0 {K : Fr1} {T : String} {r : V → List V → Hp → VK → Prop} (k : te σ H fun x H1 => tyV K T x H1 ∧ r x [] H1 Q) : tBM0 K T r te σ H Q := k
theorem w_methK {m : Str} {n : Nat} {l : List Nat} (k : te σ H fun x H1 => ∃ a dx fs, x = .ref a ∧ H1 a = some (.ins C dx fs) ∧ fs.lookup m = none ∧ tk σ H1 fun zs H2 => zs.length = n ∧ sp (gP l [x] zs) H2 Q E) : tMethK C m n l sp E te tk σ H Q := k
theorem w_callKw {n : Nat} {l : List Nat} (k : tk σ H fun zs H2 => zs.length = n ∧ sp (gP l [] zs) H2 Q E) : tCallKw n l sp E tk σ H Q := k
theorem w_makeK {n m : Nat} {gV : List V → List V → List V} (k : tA σ H fun vs H1 => tk σ H1 fun zs H2 => vs.length = n ∧ zs.length = m ∧ ∀ x dx, H2 x = none → H2 dx = none → dx ≠ x →
  sp (gV (.ref x :: vs) zs) (upd (upd H2 dx (.own x)) x (.ins C dx [])) (fun v H3 => v = .non ∧ Q (.ref x) H3) E) : tMakeK C n m sp gV E tA tk σ H Q := k
theorem w_callO (k : tf σ H fun y H1 => ∃ a, y = V.ref a ∧ tA σ H1 fun vs H2 => StX.InsC X H2 a C ∧ sp (V.ref a :: vs) H2 Q E) : StX.tCallO X C sp E tf tA σ H Q := k
end
/-! ### list(d.values()) -/
def tListVals (td : TE) : TE := fun σ H Q => td σ H fun v H1 => ∃ d kvs, v = .ref d ∧ H1 d = some (.dK kvs) ∧ ∀ l, H1 l = none → Q (.ref l) (upd H1 l (.lst (kvs.map (·.2))))
theorem w_listVals {σ : L2.St} {H : Hp} {Q : VK} {td : TE} (k : td σ H fun v H1 => ∃ d kvs, v = .ref d ∧ H1 d = some (.dK kvs) ∧ ∀ l, H1 l = none → Q (.ref l) (upd H1 l (.lst (kvs.map (·.2))))) : tListVals td σ H Q := k
/-! ### == and != of one and the same object -/
def SameV (K : Fr1) (H : Hp) (x : V) : Prop := flatV x = true ∨ (∃ a xs, x = .ref a ∧ (H a = some (.lst xs) ∨ H a = some (.tup xs))) ∨ ∃ a kvs, x = .ref a ∧ H a = some (.dK kvs) ∧ kvs.length ≤ 1
def rEqS (K : Fr1) : R2 := fun x y H Q => y = x ∧ SameV K H x ∧ Q (.bl true) H
def rNeS (K : Fr1) : R2 := fun x y H Q => y = x ∧ SameV K H x ∧ Q (.bl false) H
theorem scal_self {x : V} (h : flatV x = true) : scal x x = true := by cases x <;> first | rfl | cases h
theorem hits_one {A : Around} {s : Shared} : ∀ {va : List (Key × Value)}, va.length ≤ 1 → PySem.W.KeqHits A s va va true
  | [], _ => .nil
  | [(k, u)], _ => by
    show PySem.W.KeqHits A s [(k, u)] [(k, u)] (true && true)
    exact .hit (by simp [valueAt]) (SeqAt.EqAt.same u) .nil
  | _ :: _ :: _, h => by simp at h
section
variable {X : Cx}
theorem op_eqS (hu : X.A.units + 64 < cLine) : OpR X (compareOp .Eq) (rEqS X.K) := by
  intro pins s σ H x y v u Q I rx ry h
  obtain ⟨rfl, hs, q⟩ := h
  rcases hs with f | ⟨a, xs, rfl, hq⟩ | ⟨a, kvs, rfl, hd, hl⟩
  · exact op_eq pins s σ H y y v u Q I rx ry ⟨scal_self f, by rw [decide_eq_true rfl]; exact q⟩
  · obtain rfl : v = Value.ref a := rx
    obtain rfl : u = Value.ref a := ry
    rcases hq with hq | hq
    · obtain ⟨its, r, pl, _⟩ := I.list (SqL.of hq)
      exact SeqAt.RcAt.lists (e := fun _ => true) pl.isList pl.isList rfl (by omega) (fun j _ _ => SeqAt.EqAt.same _) _ _ _ _ ⟨.bl true, H, I, by rw [List.all_eq_true.mpr fun _ _ => rfl] <;> rfl, q⟩
    · obtain ⟨its, r, pl, _⟩ := I.tuple (SqT.of hq)
      exact SeqAt.RcAt.tuples (e := fun _ => true) pl pl (by omega) (fun j _ _ => SeqAt.EqAt.same _) _ _ _ _ ⟨.bl true, H, I, by rw [List.all_eq_true.mpr fun _ _ => rfl, Bool.true_and, beq_self_eq_true] <;> rfl, q⟩
  · obtain rfl : v = Value.ref a := rx
    obtain rfl : u = Value.ref a := ry
    obtain ⟨_, ya, va, ra, da⟩ := dk_of I.hok hd
    have e : va.length ≤ 1 := by rw [← ra.length]; exact hl
    exact PySem.W.keq_eq (knd := mixKind X.prog X.w) (r := true) ya ya da da (by omega) (fun _ => hits_one e) (fin_bl I q (by simp))
theorem op_neS (hu : X.A.units + 64 < cLine) : OpR X (compareOp .NotEq) (rNeS X.K) := by
  intro pins s σ H x y v u Q I rx ry h
  obtain ⟨rfl, hs, q⟩ := h
  rcases hs with f | ⟨a, xs, rfl, hq⟩ | ⟨a, kvs, rfl, hd, hl⟩
  · exact op_ne pins s σ H y y v u Q I rx ry ⟨scal_self f, by rw [decide_eq_true rfl]; exact q⟩
  · obtain rfl : v = Value.ref a := rx
    obtain rfl : u = Value.ref a := ry
    rcases hq with hq | hq
    · obtain ⟨its, r, pl, _⟩ := I.list (SqL.of hq)
      exact SeqAt.RcNeAt.lists (e := fun _ => true) pl.isList pl.isList rfl (by omega) (fun j _ _ => SeqAt.EqAt.same _) _ _ _ _ ⟨.bl false, H, I, by rw [List.all_eq_true.mpr fun _ _ => rfl] <;> rfl, q⟩
    · obtain ⟨its, r, pl, _⟩ := I.tuple (SqT.of hq)
      exact SeqAt.RcNeAt.tuples (e := fun _ => true) pl pl (by omega) (fun j _ _ => SeqAt.EqAt.same _) _ _ _ _ ⟨.bl false, H, I, by rw [List.all_eq_true.mpr fun _ _ => rfl, Bool.true_and, beq_self_eq_true] <;> rfl, q⟩
  · obtain rfl : v = Value.ref a := rx
    obtain rfl : u = Value.ref a := ry
    obtain ⟨_, ya, va, ra, da⟩ := dk_of I.hok hd
    have e : va.length ≤ 1 := by rw [← ra.length]; exact hl
    exact PySem.W.keq_ne (knd := mixKind X.prog X.w) (r := true) ya ya da da (by omega) (fun _ => hits_one e) (fin_bl I q (by simp))
end
/-! ### != by an own == -/
section Ne
open Builtin
/-! ### == and != of instances by the text's own == -/
def rOwnE (C : Addr) (sp : Sp) (E : XK) : R2 := fun x y H Q => ∃ a b dx dy fs gs, x = .ref a ∧ y = .ref b ∧ H a = some (.ins C dx fs) ∧ H b = some (.ins C dy gs) ∧ sp [x, y] H (fun v H' => ∃ k, v = .bl k ∧ Q (.bl k) H') E
def rOwnN (C : Addr) (sp : Sp) (E : XK) : R2 := fun x y H Q => ∃ a b dx dy fs gs, x = .ref a ∧ y = .ref b ∧ H a = some (.ins C dx fs) ∧ H b = some (.ins C dy gs) ∧ sp [x, y] H (fun v H' => ∃ k, v = .bl k ∧ Q (.bl (!k)) H') E
end Ne
/-! ### within try: what a callee may let out is wished for at the place of the call -/
section Tr
variable {X : Cx} {CX : CXT} {k : Nat} {f C : Addr} {fd : FuncData} {ps : List Str} {sp : Sp} {E : L2.St → XK} {m x : Str} {p pos apos : Pos} {e o : Expr} {es : List Expr} {ta tf : TE} {t : TA}
def tMethE (C : Addr) (m : Str) (sp : Sp) (E : L2.St → XK) (ta : TE) (t : TA) : TE := fun σ H Q => ta σ H fun x H1 => ∃ a dx fs, x = .ref a ∧ H1 a = some (.ins C dx fs) ∧ fs.lookup m = none ∧ t σ H1 fun vs H2 => sp (x :: vs) H2 Q (E σ)
def tMakeE (C : Addr) (sp : Sp) (E : L2.St → XK) (t : TA) : TE := fun σ H Q => t σ H fun vs H1 => ∀ x dx, H1 x = none → H1 dx = none → dx ≠ x → sp (.ref x :: vs) (upd (upd H1 dx (.own x)) x (.ins C dx [])) (fun v H2 => v = .non ∧ Q (.ref x) H2) (E σ)
end Tr
section
variable {K : Fr1} {σ : L2.St} {H : Hp} {Q : VK} {ta : TE} {t : TA} {sp : Sp} {E : L2.St → XK} {C : Addr}
theorem w_methE {m : Str} (k : ta σ H fun x H1 => ∃ a dx fs, x = .ref a ∧ H1 a = some (.ins C dx fs) ∧ fs.lookup m = none ∧ t σ H1 fun vs H2 => sp (x :: vs) H2 Q (E σ)) : tMethE C m sp E ta t σ H Q := k
theorem w_makeE (k : t σ H fun vs H1 => ∀ x dx, H1 x = none → H1 dx = none → dx ≠ x → sp (.ref x :: vs) (upd (upd H1 dx (.own x)) x (.ins C dx [])) (fun v H2 => v = .non ∧ Q (.ref x) H2) (E σ)) : tMakeE C sp E t σ H Q := k
theorem w_callS (k : t σ H fun vs H1 => sp vs H1 Q (E σ)) : tCallS sp E t σ H Q := k
theorem w_callSD {dvs : List V} (k : t σ H fun vs H1 => sp (vs ++ dvs) H1 Q (E σ)) : tCallSD sp dvs E t σ H Q := k
end
/-- the clause that names the error's own class -/
theorem w_caught {K : Fr1} {C : Addr} {i : Nat} {ts : Addr → Value → Option Addr → TS} {Wout : WX} {D : Ends} {d : Option Addr} {σ : L2.St} {H : Hp} (h : PySem.W.exmOne K (.ref C) (.ref C) = some true)
    (k : ∀ a, H a = none → ts a (.ref C) d { nx := fun σ' H' => D.nx (σ'.set i none) H', rt := D.rt, bk := fun σ' H' => D.bk (σ'.set i none) H', ct := fun σ' H' => D.ct (σ'.set i none) H' } (σ.set i (some (.ref a))) H) : wAs K (.ref C) i ts Wout D (.ref C) d σ H :=
  ⟨true, h, fun _ => k, fun z => by cases z⟩
/-! ### an instance called within try -/
section Co
variable {X : Cx} {CX : CXT} {k : Nat} {g C : Addr} {fd : FuncData} {ps : List Str} {sp : Sp} {E : L2.St → XK} {pos : Pos} {e fe : Expr} {es : List Expr} {tf : TE} {t : TA}
def tCallOE (C : Addr) (sp : Sp) (E : L2.St → XK) (tf : TE) (t : TA) : TE := fun σ H Q => tf σ H fun y H1 => ∃ a, y = V.ref a ∧ t σ H1 fun vs H2 => (∃ dx fs, H2 a = some (.ins C dx fs)) ∧ sp (V.ref a :: vs) H2 Q (E σ)
theorem w_callOE {C : Addr} {sp : Sp} {E : L2.St → XK} {tf : TE} {t : TA} {σ : L2.St} {H : Hp} {Q : VK} (k : tf σ H fun y H1 => ∃ a, y = V.ref a ∧ t σ H1 fun vs H2 => (∃ dx fs, H2 a = some (.ins C dx fs)) ∧ sp (V.ref a :: vs) H2 Q (E σ)) : tCallOE C sp E tf t σ H Q := k
end Co
/-! ### several except clauses, each with or without a name -/
section TryMix
open PySem PySem.Spec PyProof.Rows L2
abbrev Clauses := List (Value × Option Nat × (Addr → Value → Option Addr → TS))
/-- the ends of a suite whose name lies in slot i: the name is taken away -/
abbrev endsAs (D : Ends) (i : Nat) : Ends := { nx := fun σ' H' => D.nx (σ'.set i none) H', rt := D.rt, bk := fun σ' H' => D.bk (σ'.set i none) H', ct := fun σ' H' => D.ct (σ'.set i none) H' }
/-- what one clause's suite is wished to do -/
def wOne (o : Option Nat) (ts : Addr → Value → Option Addr → TS) (D : Ends) (a : Addr) (cls : Value) (d : Option Addr) (σ : L2.St) (H : Hp) : Prop := match o with
  | none => ts a cls d D σ H
  | some i => ts a cls d (endsAs D i) (σ.set i (some (.ref a))) H
/-- what the clauses are wished to do, the first that fits -/
def wMix (K : PySem.W.Frag) (Wout : WX) (D : Ends) : Clauses → WX
  | [] => Wout
  | (c, o, ts) :: r => fun cls d σ H => ∃ b, PySem.W.exmOne K cls c = some b ∧ (b = true → ∀ a, H a = none → wOne o ts D a cls d σ H) ∧ (b = false → wMix K Wout D r cls d σ H)
def tMix (K : PySem.W.Frag) (tb : WX → TS) (Wout : WX) (l : Clauses) : TS := fun D σ H => tb (wMix K Wout D l) D σ H
theorem w_mix {K : PySem.W.Frag} {tb : WX → TS} {Wout : WX} {l : Clauses} {D : Ends} {σ : L2.St} {H : Hp} (k : tb (wMix K Wout D l) D σ H) : tMix K tb Wout l D σ H := k
/-- a suite's derivation, whatever exception it handles -/
abbrev SuiteOk (X : Cx) (body : List Stmt) (ts : Addr → Value → Option Addr → TS) : Prop := ∀ (a : Addr) (oe : Obj) (cls : Value) (d : Option Addr) (pn : List (Addr × Obj)), Zc cls d oe → (∃ vs, oe.data = .fields vs) → PSs (X.suite a ((a, oe) :: pn)) body (ts a cls d)
inductive HdsMix (X : Cx) : List ExceptHandler → Clauses → Prop
  | nil : HdsMix X [] []
  | bare {x : Str} {c : Value} {ts : Addr → Value → Option Addr → TS} {b : Stmt} {bs : List Stmt} {p q : Pos} {hds : List ExceptHandler} {l : Clauses} (hc : Names X x c) (hsu : SuiteOk X (b :: bs) ts) (r : HdsMix X hds l) :
      HdsMix X (.ExceptHandler (some (.Name x p)) none (b :: bs) q :: hds) ((c, none, ts) :: l)
  | as {x n : Str} {i : Nat} {c : Value} {ts : Addr → Value → Option Addr → TS} {b : Stmt} {bs : List Stmt} {p q : Pos} {hds : List ExceptHandler} {l : Clauses} (hi : X.N[i]? = some n) (hln : X.env.kindOf n = some .local) (hc : Names X x c) (hsu : SuiteOk X (b :: bs) ts) (r : HdsMix X hds l) :
      HdsMix X (.ExceptHandler (some (.Name x p)) (some n) (b :: bs) q :: hds) ((c, some i, ts) :: l)
/-- the exception at a has landed in the running def: while it lies so, the def's state holds, and it may be raised again -/
structure Caught (X : Cx) (pins : List (Addr × Obj)) (a : Addr) (cls : Value) (d : Option Addr) (σ : L2.St) (H : Hp) (B : Heap) (s : Shared) : Prop where
  free : H a = none
  flies : HandSPX.FlyingZ B (X.env :: X.outer) a (Zc cls d) s.heap
  inv : ∀ h', HandSPX.FlyingZ B (X.env :: X.outer) a (Zc cls d) h' → s.heap.UpToSlots h' → Inv X pins σ H { s with heap := h' }
  again : ∀ h' (W : WX), HandSPX.HeldZ B (X.env :: X.outer) a (Zc cls d) X.env.locals h' → s.heap.UpToSlots h' → W cls d σ H → XE X W (.ref a) { s with heap := h' }
section
variable {X : Cx} {pins : List (Addr × Obj)} {a : Addr} {cls : Value} {d : Option Addr} {σ : L2.St} {H : Hp} {B : Heap} {s : Shared}
/-- no frame of the stack is the exception's object -/
theorem flying_off {h : Heap} (hf : X.env.frame = some X.env.locals) (F : HandSPX.FlyingZ B (X.env :: X.outer) a (Zc cls d) h) : ∃ oe vs, h.get? a = some oe ∧ Zc cls d oe ∧ oe.data = .fields vs ∧ a ≠ X.env.locals ∧ a ∉ X.fs := by
  obtain ⟨oe, vs, e1, e2, e3⟩ := F.there
  have off : a ∉ frs (X.env :: X.outer) := fun hm => by
    obtain ⟨_, o', e4, no⟩ := F.2.2.1.mem hm
    cases e1.symm.trans e4
    exact no vs e3
  refine ⟨oe, vs, e1, e2, e3, fun z => off ?_, fun hm => off ?_⟩
  · rw [z]
    exact List.mem_filterMap.mpr ⟨X.env, .head _, hf⟩
  · obtain ⟨e, he, q⟩ := List.mem_filterMap.mp hm
    exact List.mem_filterMap.mpr ⟨e, .tail _ he, q⟩
/-- the state as a suite that handles it finds it -/
theorem Caught.inSuite (hf : X.env.frame = some X.env.locals) (C : Caught X pins a cls d σ H B s) {h' : Heap} (F : HandSPX.FlyingZ B (X.env :: X.outer) a (Zc cls d) h') (u : s.heap.UpToSlots h') :
    ∃ oe, Zc cls d oe ∧ (∃ vs, oe.data = .fields vs) ∧ h'.get? a = some oe ∧ Inv (X.suite a ((a, oe) :: (X.pn ++ pins))) [] σ H { s with heap := h' } := by
  obtain ⟨oe, vs, e1, e2, e3, n1, n2⟩ := flying_off hf F
  exact ⟨oe, e2, ⟨vs, e3⟩, e1, (C.inv h' F u).suite e1 e3 C.free n1 n2⟩
/-- a clause's class is looked up, and the exception held against it -/
theorem Caught.test (hf : X.env.frame = some X.env.locals) (C : Caught X pins a cls d σ H B s) {x : Str} {c : Value} {p q : Pos} {b : Bool} (hc : Names X x c) (hb : PySem.W.exmOne X.K cls c = some b) {R : Result → Shared → Prop} (k : R (.ok (if b = true then .brk else .next)) s) :
    codeAny (model X.prog X.w) (X.A.mark (some (.ref a))) (.handlers (.ref a) [.ExceptHandler (some (.Name x p)) none [] q] X.env) R s := by
  obtain ⟨oe, e2, _, e1, S⟩ := C.inSuite hf C.flies (Heap.UpToSlots.refl _)
  have fits := PySem.W.exm_one (M := model X.prog X.w) S.kIn (fun A Q E s' kp q => wpAny_typeOf_ref (kp _ _ e1) (by rw [e2.1]; exact q)) hb
  refine codeAny_handlers_test ?_
  obtain ⟨g1, g2, g3⟩ := hc
  rcases g3 with g3 | ⟨g3, g4, g5⟩
  · exact ld_glob S g1 g3 (fits.here k) g2
  · exact ld_blt S g1 g3 g4 (fits.here k) g5 g2
/-- no clause is left: the exception goes on -/
theorem Caught.leaves (hf : X.env.frame = some X.env.locals) (C : Caught X pins a cls d σ H B s) {Wout : WX} (tk : Takes X Wout) (w : Wout cls d σ H) {Q : Flow → Shared → Prop} : wpAny (model X.prog X.w) X.A (handleBy (.ref a) X.env []) Q X.xe s := by
  obtain ⟨_, _, _, oe, vs, T, _, _, e1, _, e3, e4, _⟩ := id C.flies
  have out : wpAny (model X.prog X.w) X.A (setFlight (.ref a) X.env.frame) (fun _ s4 => wpAny (model X.prog X.w) X.A (throw (.ref a) : Sem Flow) Q X.xe s4) X.xe s := by
    rw [hf]
    exact HandSPX.setFlight_upZ C.flies fun h' hh u => wpAny_throw (tk _ _ (C.again h' Wout hh u w))
  refine wpAny_handleBy_nil ?_
  unfold PySem.passOn
  refine wpAny_bind (wpAny_field e1 e3 e4 ?_)
  rw [if_neg (by simp)]
  first | exact wpAny_bind out | exact wpAny_bind (wpAny_pure (wpAny_bind out))
/-- what a suite left behind it, seen by the def -/
theorem sp_unsuite {D : Ends} {a : Addr} {q : Addr × Obj} {f : Flow} {s' : Shared} (ok : X.Ok) (h : SP (X.suite a (q :: (X.pn ++ pins))) [] D f s') : SP X pins D f s' := by
  cases f with
  | next => exact h.imp fun _ h => h.imp fun _ h => ⟨h.1.unsuite ok, h.2⟩
  | brk => exact h.imp fun _ h => h.imp fun _ h => ⟨h.1.unsuite ok, h.2⟩
  | cont => exact h.imp fun _ h => h.imp fun _ h => ⟨h.1.unsuite ok, h.2⟩
  | ret u => exact h.imp fun _ h => h.imp fun _ h => h.imp fun _ h => ⟨h.1.unsuite ok, h.2⟩
/-- a suite without a name -/
theorem Caught.bare (ok : X.Ok) (hf : X.env.frame = some X.env.locals) (C : Caught X pins a cls d σ H B s) {b : Stmt} {bs : List Stmt} {q : Pos} {ts : Addr → Value → Option Addr → TS} {D : Ends} (hsu : SuiteOk X (b :: bs) ts) (w : ts a cls d D σ H)
    {R : Result → Shared → Prop} (k : ∀ f s', SP X pins D f s' → R (.ok f) s') : codeAny (model X.prog X.w) (X.A.mark (some (.ref a))) (.handlers (.ref a) [.ExceptHandler none none (b :: bs) q] X.env) R s := by
  refine codeAny_handlers_suite (HandSPX.lands_againZ C.flies fun h' F u => ?_)
  obtain ⟨oe, e2, e3, _, S⟩ := C.inSuite hf F u
  exact wpAny_mono ((hsu a oe cls d _ e2 e3).run [] _ σ H D S w) (fun f s' h => k f s' (sp_unsuite ok h)) fun _ _ z => z.elim
/-- a suite with a name: the slot i -/
theorem Caught.named (ok : X.Ok) (hf : X.env.frame = some X.env.locals) (hN : X.N.Nodup) (C : Caught X pins a cls d σ H B s) {n : Str} {i : Nat} (hi : X.N[i]? = some n) (hln : X.env.kindOf n = some .local) {b : Stmt} {bs : List Stmt} {q : Pos} {ts : Addr → Value → Option Addr → TS} {D : Ends}
    (hsu : SuiteOk X (b :: bs) ts) (w : ts a cls d (endsAs D i) (σ.set i (some (.ref a))) H) {R : Result → Shared → Prop}
    (k : ∀ f s', wpAny (model X.prog X.w) X.A (do bindName X.env n .none; unbindBehindTheSuite X.env n q) (fun _ s7 => SP X pins D f s7) X.xe s' → R (.ok f) s') :
    codeAny (model X.prog X.w) (X.A.mark (some (.ref a))) (.handlers (.ref a) [.ExceptHandler none (some n) (b :: bs) q] X.env) R s := by
  refine codeAny_handlers_suite_as (HandSPX.lands_againZ C.flies fun h' F u => ?_)
  obtain ⟨oe, e2, e3, _, S⟩ := C.inSuite hf F u
  refine store_ok (X := X.suite a ((a, oe) :: (X.pn ++ pins))) (pins := []) (v := .ref a) S hN hi (.inl hln) rfl (fun s5 S5 => ?_) (.inr hln)
  refine wpAny_mono ((hsu a oe cls d _ e2 e3).run [] s5 _ H (endsAs D i) S5 w) (fun f s6 h => k f s6 ?_) fun _ _ z => z.elim
  have h' := sp_unsuite ok h
  cases f with
  | next =>
    obtain ⟨_, _, J, z⟩ := h'
    exact gone_ok J hN hi hln fun _ J' => ⟨_, _, J', z⟩
  | brk =>
    obtain ⟨_, _, J, z⟩ := h'
    exact gone_ok J hN hi hln fun _ J' => ⟨_, _, J', z⟩
  | cont =>
    obtain ⟨_, _, J, z⟩ := h'
    exact gone_ok J hN hi hln fun _ J' => ⟨_, _, J', z⟩
  | ret v =>
    obtain ⟨_, _, _, J, r, z⟩ := h'
    exact gone_ok J hN hi hln fun _ J' => ⟨_, _, _, J', r, z⟩
/-- clause by clause -/
theorem Caught.run (ok : X.Ok) (hf : X.env.frame = some X.env.locals) (hN : X.N.Nodup) (C : Caught X pins a cls d σ H B s) {Wout : WX} (tk : Takes X Wout) {D : Ends} {hds : List ExceptHandler} {l : Clauses} (hh : HdsMix X hds l) :
    wMix X.K Wout D l cls d σ H → wpAny (model X.prog X.w) X.A (handleBy (.ref a) X.env hds) (SP X pins D) X.xe s := by
  induction hh with
  | nil => exact fun w => C.leaves hf tk w
  | bare hc hsu _ ih =>
    rintro ⟨b, hb, yes, no⟩
    refine wpAny_handleBy_cons (C.test hf hc hb ?_) (fun z => by cases z)
    cases b with
    | false => exact ih (no rfl)
    | true => exact C.bare ok hf hsu (yes rfl a C.free) fun _ _ h => h
  | as hi hln hc hsu _ ih =>
    rintro ⟨b, hb, yes, no⟩
    refine wpAny_handleBy_cons (C.test hf hc hb ?_) (fun z => by cases z)
    cases b with
    | false => exact ih (no rfl)
    | true => exact C.named ok hf hN hi hln hsu (yes rfl a C.free) fun _ _ h => h
end
end TryMix
/-! ### one rule or another; != of a list and of its copy -/
theorem op_orR {X : Cx} {f : Value → Value → Sem Value} {r1 r2 : R2} (h1 : OpR X f r1) (h2 : OpR X f r2) : OpR X f (fun x y H Q => r1 x y H Q ∨ r2 x y H Q) := by
  intro pins s σ H x y v u Q I rx ry h
  rcases h with h | h
  · exact h1 pins s σ H x y v u Q I rx ry h
  · exact h2 pins s σ H x y v u Q I rx ry h
/-! ### == and != of texts -/
theorem str_dec (x y : Str) : decide (V.str x = V.str y) = decide (x = y) := by
  by_cases h : x = y
  · rw [h, decide_eq_true rfl, decide_eq_true rfl]
  · rw [decide_eq_false h, decide_eq_false fun z => h (V.str.inj z)]
theorem w_eqStr {x y : Str} {H : Hp} {Q : VK} (k : Q (.bl (decide (x = y))) H) : rEq (.str x) (.str y) H Q := ⟨rfl, by rw [str_dec]; exact k⟩
theorem w_neStr {x y : Str} {H : Hp} {Q : VK} (k : Q (.bl (!decide (x = y))) H) : rNe (.str x) (.str y) H Q := ⟨rfl, by rw [str_dec]; exact k⟩
theorem w_eqStrT {x : Str} {H : Hp} {Q : VK} (k : Q (.bl true) H) : rEq (.str x) (.str x) H Q := w_eqStr (by rw [decide_eq_true rfl]; exact k)
theorem w_neStrT {x : Str} {H : Hp} {Q : VK} (k : Q (.bl false) H) : rNe (.str x) (.str x) H Q := w_neStr (by rw [decide_eq_true rfl]; exact k)
theorem w_eqStrF {x y : Str} {H : Hp} {Q : VK} (h : ¬ x = y) (k : Q (.bl false) H) : rEq (.str x) (.str y) H Q := w_eqStr (by rw [decide_eq_false h]; exact k)
theorem w_neStrF {x y : Str} {H : Hp} {Q : VK} (h : ¬ x = y) (k : Q (.bl true) H) : rNe (.str x) (.str y) H Q := w_neStr (by rw [decide_eq_false h]; exact k)
/-! ### C(k = v, ..) within try -/
section MkE
variable {X : Cx} {CX : CXT} {k : Nat} {f C : Addr} {fd : FuncData} {ps ks : List Str} {sp : Sp} {E : L2.St → XK} {x : Str} {p pos : Pos} {kws : List Keyword} {tk : TA} {gv : List Value → List Value → List Value} {gV : List V → List V → List V}
def tMakeKE (C : Addr) (n : Nat) (gV : List V → List V → List V) (sp : Sp) (E : L2.St → XK) (tk : TA) : TE := fun σ H Q => tk σ H fun zs H2 => zs.length = n ∧ ∀ x dx, H2 x = none → H2 dx = none → dx ≠ x →
  sp (gV [.ref x] zs) (upd (upd H2 dx (.own x)) x (.ins C dx [])) (fun v H3 => v = .non ∧ Q (.ref x) H3) (E σ)
theorem w_makeKE {C : Addr} {n : Nat} {sp : Sp} {E : L2.St → XK} {tk : TA} {σ : L2.St} {H : Hp} {Q : VK} (k : tk σ H fun zs H2 => zs.length = n ∧ ∀ x dx, H2 x = none → H2 dx = none → dx ≠ x →
  sp (gV [.ref x] zs) (upd (upd H2 dx (.own x)) x (.ins C dx [])) (fun v H3 => v = .non ∧ Q (.ref x) H3) (E σ)) : tMakeKE C n gV sp E tk σ H Q := k
end MkE
/-! ### dicts: a reading's head is taken off -/
section
variable {σ : L2.St} {H : Hp} {Q : VK} {D : Ends} {td ty tv tx : TE}
theorem w_dgetT (k : td σ H fun x H1 => ty σ H1 fun y H2 => ∃ a v, x = .ref a ∧ DGet H2 a y (some v) ∧ Q v H2) : tDGet td ty σ H Q := k
theorem w_dinT (k : ty σ H fun y H1 => td σ H1 fun x H2 => ∃ a o, x = .ref a ∧ DGet H2 a y o ∧ Q (.bl o.isSome) H2) : tDIn ty td σ H Q := k
theorem w_dnotinT (k : ty σ H fun y H1 => td σ H1 fun x H2 => ∃ a o, x = .ref a ∧ DGet H2 a y o ∧ Q (.bl (!o.isSome)) H2) : tDNotIn ty td σ H Q := k
theorem w_dputT (k : tv σ H fun v H1 => td σ H1 fun x H2 => ty σ H2 fun y H3 => ∃ a H4, x = .ref a ∧ DPut H3 a y v H4 ∧ D.nx σ H4) : sDPut td ty tv D σ H := k
end
/-! ### o[i] by the text's own __getitem__ -/
section IxO
variable {X : Cx} {CX : CXT} {k : Nat} {f C : Addr} {fd : FuncData} {ps : List Str} {sp : Sp} {E : L2.St → XK} {pos : Pos} {o i : Expr} {ta tb : TE}
def tIxO (C : Addr) (sp : Sp) (E : L2.St → XK) (ta tb : TE) : TE := fun σ H Q => ta σ H fun x H1 => tb σ H1 fun y H2 => ∃ a dx fs, x = .ref a ∧ H2 a = some (.ins C dx fs) ∧ sp [x, y] H2 Q (E σ)
theorem w_ixO {σ : L2.St} {H : Hp} {Q : VK} (k : ta σ H fun x H1 => tb σ H1 fun y H2 => ∃ a dx fs, x = .ref a ∧ H2 a = some (.ins C dx fs) ∧ sp [x, y] H2 Q (E σ)) : tIxO C sp E ta tb σ H Q := k
end IxO
/-! ### keyword calls within try -/
section KwE
variable {X : Cx} {CX : CXT} {k n : Nat} {f C : Addr} {fd : FuncData} {ps ks : List Str} {sp : Sp} {E : L2.St → XK} {m x : Str} {p pos apos : Pos} {o : Expr} {kws : List Keyword} {ta : TE} {tk : TA} {gv : List Value → List Value → List Value} {gV : List V → List V → List V}
theorem run_kwE {pins : List (Addr × Obj)} {σ : L2.St} {H : Hp} {s : Shared} {Q : VK} {us ws : List Value} {vs zs : List V} (F : FnOk X.prog X.w X.K X.mg X.base CX k f fd ps sp) (hr : Room k X.A) (hb : KBn X.K fd ps n ks gv gV) (hx : PassesAt CX X σ (E σ))
    (I : Inv X pins σ H s) (r : Vals vs us) (rz : Vals zs ws) (l1 : us.length = n) (l2 : zs.length = ks.length) (h : sp (gV vs zs) H Q (E σ)) : wpAny (model X.prog X.w) X.A (call (.ref f) us (ks.zip ws)) (EP X pins σ Q) X.xe s := by
  have r2 := hb.rel r rz
  refine wpAny_call (codeAny_mono (F.run X.A X.stack s H ⟨us, ks.zip ws⟩ (gv us ws) (gV vs zs) Q (E σ) hr I.env0 (hb.to s us ws I.kIn l1 (rz.length.symm.trans l2)) r2 h) fun r s' hq => ?_)
  cases r with
  | error e => exact hx pins H s e s' I hq
  | ok fl =>
    cases fl with
    | ret u => exact I.after hq
    | next => exact False.elim hq
    | brk => exact False.elim hq
    | cont => exact False.elim hq
def tMethKE (C : Addr) (m : Str) (n : Nat) (gV : List V → List V → List V) (sp : Sp) (E : L2.St → XK) (ta : TE) (tk : TA) : TE := fun σ H Q => ta σ H fun x H1 => ∃ a dx fs, x = .ref a ∧ H1 a = some (.ins C dx fs) ∧ fs.lookup m = none ∧ tk σ H1 fun zs H2 => zs.length = n ∧ sp (gV [x] zs) H2 Q (E σ)
theorem w_methKE {σ : L2.St} {H : Hp} {Q : VK} (k : ta σ H fun x H1 => ∃ a dx fs, x = .ref a ∧ H1 a = some (.ins C dx fs) ∧ fs.lookup m = none ∧ tk σ H1 fun zs H2 => zs.length = n ∧ sp (gV [x] zs) H2 Q (E σ)) : tMethKE C m n gV sp E ta tk σ H Q := k
end KwE
/-! ### is None, is not None -/
def rIsN : R2 := fun x y H Q => y = .non ∧ Q (.bl (decide (x = .non))) H
def rNotN : R2 := fun x y H Q => y = .non ∧ Q (.bl (!decide (x = .non))) H
section
variable {H : Hp} {Q : VK}
theorem w_isNn (k : Q (.bl true) H) : rIsN .non .non H Q := ⟨rfl, k⟩
theorem w_isNr {a : Addr} (k : Q (.bl false) H) : rIsN (.ref a) .non H Q := ⟨rfl, by rw [decide_eq_false (fun z => by cases z)]; exact k⟩
theorem w_isNi {a : Int} (k : Q (.bl false) H) : rIsN (.int a) .non H Q := ⟨rfl, by rw [decide_eq_false (fun z => by cases z)]; exact k⟩
theorem w_isNs {a : Str} (k : Q (.bl false) H) : rIsN (.str a) .non H Q := ⟨rfl, by rw [decide_eq_false (fun z => by cases z)]; exact k⟩
theorem w_isNb {a : Bool} (k : Q (.bl false) H) : rIsN (.bl a) .non H Q := ⟨rfl, by rw [decide_eq_false (fun z => by cases z)]; exact k⟩
theorem w_notNn (k : Q (.bl false) H) : rNotN .non .non H Q := ⟨rfl, by rw [decide_eq_true rfl]; exact k⟩
theorem w_notNr {a : Addr} (k : Q (.bl true) H) : rNotN (.ref a) .non H Q := ⟨rfl, by rw [decide_eq_false (fun z => by cases z)]; exact k⟩
theorem w_notNi {a : Int} (k : Q (.bl true) H) : rNotN (.int a) .non H Q := ⟨rfl, by rw [decide_eq_false (fun z => by cases z)]; exact k⟩
theorem w_notNs {a : Str} (k : Q (.bl true) H) : rNotN (.str a) .non H Q := ⟨rfl, by rw [decide_eq_false (fun z => by cases z)]; exact k⟩
theorem w_notNb {a : Bool} (k : Q (.bl true) H) : rNotN (.bl a) .non H Q := ⟨rfl, by rw [decide_eq_false (fun z => by cases z)]; exact k⟩
end
section
variable {K : Fr1} {σ : L2.St} {H : Hp} {D : Ends} {td : TE} {R : It → Hp → Prop}
theorem w_vals (k : td σ H fun x H1 => ∃ d o kvs, x = .ref d ∧ H1 d = some (.frz o (.dK kvs)) ∧ R (Itd d o kvs) H1) : iVals td σ H R := k
theorem w_items (k : td σ H fun x H1 => ∃ d o kvs, x = .ref d ∧ H1 d = some (.frz o (.dK kvs)) ∧ R (Iti d o kvs) H1) : iItems td σ H R := k
end
/-! ### o[i] = v by the text's own __setitem__ -/
section SetO
variable {X : Cx} {CX : CXT} {k : Nat} {f C : Addr} {fd : FuncData} {ps : List Str} {sp : Sp} {E : L2.St → XK} {pos : Pos} {o i : Expr} {to ti : TE}
def gSubO (C : Addr) (sp : Sp) (E : L2.St → XK) (to ti : TE) : TG := fun v σ H Q => to σ H fun x H1 => ti σ H1 fun y H2 => ∃ a dx fs, x = .ref a ∧ H2 a = some (.ins C dx fs) ∧ sp [x, y, v] H2 (fun _ H3 => Q σ H3) (E σ)
theorem w_gSubO {v : V} {σ : L2.St} {H : Hp} {Q : L2.St → Hp → Prop} (k : to σ H fun x H1 => ti σ H1 fun y H2 => ∃ a dx fs, x = .ref a ∧ H2 a = some (.ins C dx fs) ∧ sp [x, y, v] H2 (fun _ H3 => Q σ H3) (E σ)) : gSubO C sp E to ti v σ H Q := k
end SetO
/-! ### a classmethod called by keywords; a local that holds a class -/
section CmK
variable {X : Cx} {CX : CXT} {k n i : Nat} {f C p g : Addr} {fd : FuncData} {ps ks : List Str} {sp : Sp} {E : L2.St → XK} {E1 : XK} {m x : Str} {nmp pos apos : Pos} {o e : Expr} {es : List Expr} {kws : List Keyword} {ta : TE} {t tk : TA} {gv : List Value → List Value → List Value} {gV : List V → List V → List V} {mc : Value}
def tCMethKE (C : Addr) (n : Nat) (gV : List V → List V → List V) (sp : Sp) (E : L2.St → XK) (ta : TE) (tk : TA) : TE := fun σ H Q => ta σ H fun x H1 => x = .ref C ∧ tk σ H1 fun zs H2 => zs.length = n ∧ sp (gV [.ref C] zs) H2 Q (E σ)
theorem w_cmethKE {σ : L2.St} {H : Hp} {Q : VK} (k : ta σ H fun x H1 => x = .ref C ∧ tk σ H1 fun zs H2 => zs.length = n ∧ sp (gV [.ref C] zs) H2 Q (E σ)) : tCMethKE C n gV sp E ta tk σ H Q := k
def tMakeL (i : Nat) (C : Addr) (sp : Sp) (E : XK) (t : TA) : TE := fun σ H Q => σ[i]? = some (some (.ref C)) ∧ tMake C sp [] E t σ H Q
theorem w_makeL {σ : L2.St} {H : Hp} {Q : VK} (hs : σ[i]? = some (some (.ref C))) (k : t σ H fun vs H1 => ∀ x dx, H1 x = none → H1 dx = none → dx ≠ x → sp (.ref x :: (vs ++ [])) (upd (upd H1 dx (.own x)) x (.ins C dx [])) (fun v H2 => v = .non ∧ Q (.ref x) H2) E1) : tMakeL i C sp E1 t σ H Q := ⟨hs, k⟩
/-- while: an invariant with a number that falls -/
theorem while_at {c : TT} {tb : TS} {D : Ends} {σ : L2.St} {H : Hp} (W : Nat → L2.St → Hp → Prop) (h0 : ∃ m, W m σ H)
    (hs : ∀ m σ H, W m σ H → c σ H fun b H1 => if b = true then ∃ N : L2.St → Hp → Prop, (∀ σ' H', N σ' H' → ∃ m', m' < m ∧ W m' σ' H') ∧ tb { D with nx := N, ct := N, bk := D.nx } σ H1 else D.nx σ H1) : tWhile c tb D σ H := ⟨W, h0, hs⟩
end CmK
/-! ### slices: a reading's head is taken off -/
section Sl
variable {σ : L2.St} {H : Hp} {te : TE} {tl th : TO} {QO : Option Int → Hp → Prop}
theorem w_sl {r : V → Option Int → Option Int → Hp → VK → Prop} {Q : VK} (k : te σ H fun x H1 => tl σ H1 fun l H2 => th σ H2 fun u H3 => r x l u H3 Q) : tSl r te tl th σ H Q := k
theorem w_noPart (k : QO none H) : tNoPart σ H QO := k
theorem w_part (k : te σ H fun x H1 => ∃ i, x = .int i ∧ QO (some i) H1) : tPart te σ H QO := k
theorem w_oi {i : Int} {P : Int → Prop} (k : P i) : ∃ j, V.int i = .int j ∧ P j := ⟨i, rfl, k⟩
theorem cut_to {xs : List V} {i : Int} (h : 0 ≤ i) : cutV xs none (some i) = xs.take i.toNat := by
  have e : HT.sIx xs.length xs.length (some i) = min i.toNat xs.length := by
    have := HT.sIx_nat xs.length xs.length i.toNat
    rwa [show ((i.toNat : Nat) : Int) = i by omega] at this
  unfold cutV
  rw [e, HT.sIx_none, List.drop_zero, Nat.sub_zero]
  by_cases q : i.toNat ≤ xs.length
  · rw [Nat.min_eq_left q]
  · rw [Nat.min_eq_right (by omega), List.take_of_length_le (Nat.le_refl _), List.take_of_length_le (by omega)]
end Sl
/-! ### f(k = v, ..) within try -/
section KwF
variable {X : Cx} {CX : CXT} {k n : Nat} {f : Addr} {fd : FuncData} {ps ks : List Str} {sp : Sp} {E : L2.St → XK} {x : Str} {nmp pos : Pos} {kws : List Keyword} {tk : TA} {gv : List Value → List Value → List Value} {gV : List V → List V → List V}
def tCallKwE (n : Nat) (gV : List V → List V → List V) (sp : Sp) (E : L2.St → XK) (tk : TA) : TE := fun σ H Q => tk σ H fun zs H2 => zs.length = n ∧ sp (gV [] zs) H2 Q (E σ)
theorem pe_callKwE (F : FnOk X.prog X.w X.K X.mg X.base CX k f fd ps sp) (hr : Room k X.A) (hg : Gl X x) (hm : X.mg x = some (.ref f)) (kp : PySem.W.keepIn X.K (.ref f) = true) (hb : KBn X.K fd ps 0 ks gv gV) (hx : ∀ σ, PassesAt CX X σ (E σ)) (hkw : PK X kws tk)
    (hall : (backToKw pos (keywordEach kws X.env)).all (·.1.isSome) = true := by rfl) (hks : (backToKw pos (keywordEach kws X.env)).filterMap (·.1) = ks := by rfl) (hdb : (x == ("__debug__" : Str)) = false := by decide)
    (hpl : ((backTo pos (starEach [] X.env)).any (·.1) || (backToKw pos (keywordEach kws X.env)).any (·.1.isNone)) = false := by rfl) :
    PE X (.Call (.Name x nmp) [] kws pos) (tCallKwE ks.length gV sp E tk) := by
  constructor
  intro pins s σ H Q I h
  refine wpAny_Call_Name_kw (ld_glob I hg hm (PySem.W.callWith_KW0 (h₀ := X.base) I.ok.mod.kin kp hall (thn (hkw.run pos pins s σ H _ I h) ?_) hpl) hdb)
  rintro ws s2 ⟨zs, H2, I2, rz, l2, q2⟩
  refine ⟨I2.kIn, ?_⟩
  rw [hks]
  exact run_kwE (us := []) (vs := []) F hr hb (hx σ) I2 .nil rz rfl l2 q2
theorem w_callKwE {σ : L2.St} {H : Hp} {Q : VK} (k : tk σ H fun zs H2 => zs.length = n ∧ sp (gV [] zs) H2 Q (E σ)) : tCallKwE n gV sp E tk σ H Q := k
end KwF
/-! ### texts: a reading's head is taken off -/
section Tx
variable {X : Cx} {σ : L2.St} {H : Hp} {te to : TE} {ts : List TE} {acc : Str} {Q : VK}
def tJoined (ts : List TE) : TE := fun σ H Q => tJs ts Str.empty σ H fun out H1 => Q (.str out) H1
theorem w_joined (k : tJs ts Str.empty σ H fun out H1 => Q (.str out) H1) : tJoined ts σ H Q := k
theorem w_jsC {QS : Str → Hp → Prop} (k : te σ H fun x H1 => ∃ y : Str, x = .str y ∧ (acc ++ y).length ≤ sizeLine ∧ tJs ts (acc ++ y) σ H1 QS) : tJs (te :: ts) acc σ H QS := k
theorem w_jsN {QS : Str → Hp → Prop} (k : QS acc H) : tJs [] acc σ H QS := k
theorem w_fmt (k : te σ H fun x H1 => (∃ y : Str, x = .str y ∧ y.length ≤ sizeLine ∧ Q (.str y) H1) ∨ ∃ i : Int, x = .int i ∧ i.natAbs.log2 < 1920 ∧ Q (.str (toString i)) H1) : tFmt te σ H Q := k
theorem w_m1 {r : V → List V → Hp → VK → Prop} (k : to σ H fun x H1 => (∃ a, x = .str a) ∧ te σ H1 fun y H2 => r x [y] H2 Q) : tM1 r to te σ H Q := k
theorem w_isS {z : Str} {P : Prop} (k : P) : (∃ a, V.str z = .str a) ∧ P := ⟨⟨z, rfl⟩, k⟩
theorem w_strI {R : It → Hp → Prop} (k : te σ H fun v H1 => ∃ x, v = .str x ∧ R (Its x) H1) : iStr te σ H R := k
end Tx
end J

namespace J
open PySem L2
open Evl (Ex)
local macro_rules | `(tactic| walk_at "hp") => `(tactic| first
  | assumption
  | exact upd_same
  | ((with_reducible refine' SqL.of ?hpa); (case hpa => walk_at "hp"))
  | ((with_reducible refine' SqT.of ?hpa); (case hpa => walk_at "hp"))
  | ((rw [upd_ne (by assumption)]); walk_at "hp")
  | ((with_reducible refine' Ex.get ?hpe ?hpa); (case hpe => assumption); (case hpa => walk_at "hp"))
  | ((with_reducible refine' Dq.mono ?hpe ?hpa); (case hpe => assumption); (case hpa => walk_at "hp"))
  | ((with_reducible refine' DqAll.mono ?hpe ?hpa); (case hpe => assumption); (case hpa => walk_at "hp")))
local macro_rules | `(tactic| walk_at "j") => `(tactic| first
  | (with_reducible refine w_seqF fun F hF => ?_)
  | (with_reducible refine w_asg ?_)
  | (with_reducible refine w_name ?_; try dsimp only [List.set_cons_zero, List.set_cons_succ])
  | ((with_reducible refine' w_var ?hv ?_); (case hv => exact rfl))
  | (with_reducible refine w_c ?_)
  | (with_reducible refine w_op ?_)
  | (with_reducible refine w_un ?_)
  | (with_reducible refine w_I0 ?_)
  | (with_reducible refine w_U ?_)
  | (with_reducible refine w_cons ?_)
  | (with_reducible refine w_nil ?_)
  | (with_reducible refine w_cb ?_)
  | (with_reducible refine w_call ?_)
  | (with_reducible refine w_methK ?_)
  | (with_reducible refine w_methE ?_)
  | (with_reducible refine w_bm0 ?_)
  | (with_reducible refine w_callOE ?_)
  | (with_reducible refine w_makeE ?_)
  | (with_reducible refine w_isNn ?_)
  | (with_reducible refine w_isNr ?_)
  | (with_reducible refine w_isNi ?_)
  | (with_reducible refine w_isNs ?_)
  | (with_reducible refine w_isNb ?_)
  | (with_reducible refine w_notNn ?_)
  | (with_reducible refine w_notNr ?_)
  | (with_reducible refine w_notNi ?_)
  | (with_reducible refine w_notNs ?_)
  | (with_reducible refine w_notNb ?_)
  | (with_reducible refine w_methKE ?_)
  | (with_reducible refine w_dgetT ?_)
  | (with_reducible refine w_dinT ?_)
  | (with_reducible refine w_dnotinT ?_)
  | (with_reducible refine w_dputT ?_)
  | (with_reducible refine w_ixO ?_)
  | (with_reducible refine w_joined ?_)
  | (with_reducible refine w_jsC ?_)
  | (with_reducible refine w_jsN ?_)
  | (with_reducible refine w_fmt ?_)
  | (with_reducible refine w_m1 ?_)
  | (with_reducible refine w_isS ?_)
  | (with_reducible refine w_strI ?_)
  | (with_reducible refine w_callKwE ?_)
  | (with_reducible refine w_sl ?_)
  | (with_reducible refine w_noPart ?_)
  | (with_reducible refine w_part ?_)
  | (with_reducible refine w_oi ?_)
  | (with_reducible refine w_cmethKE ?_)
  | ((with_reducible refine' w_makeL ?hs ?_); (case hs => exact rfl))
  | (with_reducible refine w_makeKE ?_)
  | (with_reducible refine w_callS ?_)
  | (with_reducible refine w_callSD ?_)
  | (with_reducible refine w_dnew ?_)
  | (with_reducible refine w_disp ?_)
  | (with_reducible refine w_pairsN ?_)
  | (with_reducible refine w_pairsC ?_)
  | (with_reducible refine w_listVals ?_)
  | (with_reducible refine w_methN ?_)
  | (with_reducible refine w_make ?_)
  | (with_reducible refine w_prop ?_)
  | (with_reducible refine w_callKw ?_)
  | (with_reducible refine w_makeK ?_)
  | (with_reducible refine w_callO ?_)
  | (with_reducible refine w_ret ?_)
  | (with_reducible refine w_mix ?_)
  | (with_reducible refine w_ifS ?_)
  | (with_reducible refine w_test ?_)
  | (with_reducible refine w_B ?_)
  | (with_reducible refine w_bl ?_)
  | (with_reducible refine w_and ?_)
  | (with_reducible refine w_or ?_)
  | (with_reducible refine w_not ?_)
  | (with_reducible refine w_drop ?_)
  | (with_reducible refine w_next ?_)
  | (with_reducible refine w_sub ?_)
  | (with_reducible refine w_gSubO ?_)
  | (with_reducible refine w_eqI ?_)
  | (with_reducible refine w_neI ?_)
  | (with_reducible refine w_eqStrT ?_)
  | (with_reducible refine w_neStrT ?_)
  | ((with_reducible refine' w_eqStrF ?hc ?_); (case hc => decide +kernel))
  | ((with_reducible refine' w_neStrF ?hc ?_); (case hc => decide +kernel))
  | (with_reducible refine w_int1 ?_)
  | (with_reducible refine w_tup ?_)
  | (with_reducible refine w_lst ?_)
  | ((with_reducible refine' w_ixL ?hq ?he ?_); (case hq => walk_at "hp"); (case he => exact rfl))
  | ((with_reducible refine' w_ixT ?hq ?he ?_); (case hq => walk_at "hp"); (case he => exact rfl))
  | ((with_reducible refine' w_lenL ?hq ?_); (case hq => walk_at "hp"))
  | ((with_reducible refine' w_lenT ?hq ?_); (case hq => walk_at "hp"))
  | ((with_reducible refine' w_setL ?hq ?he ?_); (case hq => walk_at "hp"); (case he => exact rfl); (try simp only [Int.reduceToNat, List.set_cons_zero, List.set_cons_succ, upd_upd]))
  | ((with_reducible refine w_mulR ?hc ?_); (case hc => omega))
  | ((with_reducible refine w_mulL ?hc ?_); (case hc => omega))
  | ((with_reducible refine w_mod ?hc ?_); (case hc => first | omega | assumption | decide))
  | ((with_reducible refine w_modP ?hc ?_); (case hc => first | assumption | omega | decide))
  | ((with_reducible refine w_divP ?hc ?_); (case hc => first | assumption | omega | decide))
  | ((with_reducible refine w_divN ?hc ?_); (case hc => first | omega | decide))
  | ((with_reducible refine w_pow ?hc ?_); (case hc => first | omega | decide); (try simp only [Int.reduceToNat, Int.reducePow]))
  | ((with_reducible refine w_divW (b := 70) ?hc ?hd (by decide) (by decide) ?_); (case hc => first | assumption | omega); (case hd => first | assumption | omega | decide))
  | (with_reducible refine w_andV ?_)
  | (with_reducible refine w_orV ?_)
  | (with_reducible refine w_notV ?_)
  | (with_reducible refine w_ifE ?_)
  | (with_reducible refine w_chain ?_)
  | (with_reducible refine w_par ?_)
  | (with_reducible refine w_vw ?_; try dsimp only [List.set_cons_zero, List.set_cons_succ])
  | ((with_reducible refine' w_gtup ?hq ?hl ?_); (case hq => walk_at "hp"); (case hl => exact rfl))
  | (with_reducible refine w_gcons ?_)
  | (with_reducible refine w_gnil ?_)
  | (with_reducible refine w_bm ?_)
  | ((with_reducible refine' w_tyL ?hq ?_); (case hq => walk_at "hp"))
  | (with_reducible refine w_fldT ?_)
  | (with_reducible refine w_sFld ?_)
  | (with_reducible refine w_ij ?_)
  | (with_reducible refine w_yes ?_)
  | (with_reducible refine w_for ?_)
  | (with_reducible refine w_lc ?_)
  | (with_reducible refine w_enumI ?_)
  | (with_reducible refine w_seqI ?_)
  | (with_reducible refine w_listI ?_)
  | (with_reducible refine w_vals ?_)
  | (with_reducible refine w_items ?_)
  | (with_reducible refine w_rng1 ?_)
  | (with_reducible refine w_rng2 ?_)
  | ((with_reducible refine' Fol.go ?hf ?_); (case hf => assumption))
  | (with_reducible refine w_nt ?_)
  | (with_reducible refine w_nf ?_)
  | (with_reducible refine iteF ?_)
  | (with_reducible refine iteT ?_))
local macro_rules | `(tactic| walk_at "js") => `(tactic| repeat (walk_at "j"))
local macro_rules | `(tactic| walk_at "wp") => `(tactic| (refine ⟨rfl, ?_⟩; (try dsimp only [wipe, List.map_cons, List.map_nil, List.set_cons_zero, List.set_cons_succ])))
/-! ### rows of a turning, as the program checks them -/
abbrev Rows := List (Int × Int)
def pD (p : Int × Int) : PyData := .tuple [.int p.1, .int p.2]
def rD (rs : Rows) : List PyData := rs.map pD
def asPair (N : Int) : PyData → Option (Int × Int)
  | .tuple [.int a, .int b] => if 0 ≤ a ∧ a < N ∧ 0 ≤ b ∧ b < N then some (a, b) else none
  | _ => none
theorem asPair_pair (N : Int) (d : PyData) : isPair N d = (asPair N d).isSome := by
  unfold isPair asPair
  split
  · rename_i a b
    cases a <;> cases b <;> simp only [isPlc, Bool.and_false, Bool.false_and, Option.isSome_none]
    rename_i i j
    split
    · rename_i h
      simp [h.1, h.2.1, h.2.2.1, h.2.2.2]
    · rename_i h
      have : ¬ (0 ≤ i ∧ i < N ∧ 0 ≤ j ∧ j < N) := h
      by_cases h1 : 0 ≤ i <;> by_cases h2 : i < N <;> by_cases h3 : 0 ≤ j <;> by_cases h4 : j < N <;> simp_all
  · rename_i hd
    split
    · rename_i a b
      exact absurd rfl (hd _ _)
    · rfl
theorem asPair_some {N : Int} {d : PyData} {p : Int × Int} (h : asPair N d = some p) : d = pD p ∧ 0 ≤ p.1 ∧ p.1 < N ∧ 0 ≤ p.2 ∧ p.2 < N := by
  unfold asPair at h
  split at h
  · split at h
    · rename_i a b hh
      cases h
      exact ⟨rfl, hh⟩
    · cases h
  · cases h
/-- the first loop: from the begin b on, the index i -/
def rowA (N : Int) : Int → Nat → List PyData → Except Nat Rows
  | _, _, [] => .ok []
  | b, i, d :: r => match asPair N d with
    | none => .error i
    | some p => if p.1 ≤ b then .error i else match rowA N p.1 (i + 1) r with
      | .ok l => .ok (p :: l)
      | .error e => .error e
def behindOf (N : Int) (rs : Rows) (i : Nat) : Int := match rs[i + 1]? with
  | some p => p.1
  | none => (rs.headD (0, 0)).1 + N
def badRest (N : Int) (rs : Rows) (i : Nat) : Bool := match rs[i]? with
  | some p => decide (behindOf N rs i ≤ p.1 + (p.2 - p.1) % N)
  | none => false
/-- the second loop -/
def rowBg (N : Int) (rs : Rows) : Nat → Nat → Option Nat
  | 0, _ => none
  | n + 1, i => if badRest N rs i = true then some i else rowBg N rs n (i + 1)
def rowB (N : Int) (rs : Rows) : Option Nat := rowBg N rs rs.length 0
theorem rowA_cons {N b : Int} {i : Nat} {d : PyData} {r : List PyData} : rowA N b i (d :: r) = match asPair N d with
    | none => .error i
    | some p => if p.1 ≤ b then .error i else match rowA N p.1 (i + 1) r with
      | .ok l => .ok (p :: l)
      | .error e => .error e := rfl
def rowsOf : PyData → Option (List PyData)
  | .list l => some l
  | .tuple l => some l
  | _ => none
/-- what checked_rows tells: an index, or the rows -/
def rowsChk (N : Int) (d : PyData) : Except Int Rows := match rowsOf d with
  | none => .error (-1)
  | some l => if l.length = 0 ∨ 12 < l.length then .error (-1) else match rowA N (-1) 0 l with
    | .error i => .error (i : Int)
    | .ok rs => match rowB N rs with
      | some i => .error (i : Int)
      | none => .ok rs
theorem rowA_eq {N : Int} : ∀ {ds : List PyData} {b : Int} {i : Nat} {rs : Rows}, rowA N b i ds = .ok rs → ds = rD rs
  | [], b, i, rs, h => by
    cases h
    rfl
  | d :: r, b, i, rs, h => by
    unfold rowA at h
    split at h
    · cases h
    · rename_i p hp
      split at h
      · cases h
      · split at h
        · rename_i l hl
          cases h
          rw [(asPair_some hp).1, rowA_eq hl]
          rfl
        · cases h
theorem dqA_get {K : Fr1} {H : Hp} {vs : List V} {rs : Rows} (h : DqAll K H vs (rD rs)) {i : Nat} {v : V} (e : vs[i]? = some v) : ∃ p t, rs[i]? = some p ∧ v = .ref t ∧ H t = some (.tup [.int p.1, .int p.2]) := by
  obtain ⟨d, h1, h2⟩ := h.get e
  unfold rD at h1
  rw [List.getElem?_map] at h1
  cases hp : rs[i]? with
  | none => rw [hp] at h1; cases h1
  | some p =>
    rw [hp] at h1
    have h1' : pD p = d := Option.some.inj h1
    subst h1'
    cases h2 with
    | tup ht ha =>
      cases ha with
      | cons x t =>
        cases t with
        | cons y t =>
          cases t
          cases x
          cases y
          exact ⟨p, _, rfl, rfl, ht⟩
theorem dqA_get' {K : Fr1} {H : Hp} {vs : List V} {rs : Rows} (h : DqAll K H vs (rD rs)) {i : Nat} {p : Int × Int} (e : rs[i]? = some p) : ∃ t, vs[i]? = some (.ref t) ∧ H t = some (.tup [.int p.1, .int p.2]) := by
  have e2 : (rD rs)[i]? = some (pD p) := by
    unfold rD
    rw [List.getElem?_map, e] <;> rfl
  obtain ⟨v, h1, h2⟩ := h.get' e2
  obtain ⟨p', t, h3, rfl, h4⟩ := dqA_get h h1
  rw [e] at h3
  cases h3
  exact ⟨t, h1, h4⟩
/-! ### sorted rows -/
def lexLe (p q : Int × Int) : Bool := !(SrtO.lexB q p)
def srt (l : Rows) : Rows := l.mergeSort lexLe
theorem lexLe_iff {p q : Int × Int} : lexLe p q = true ↔ p.1 < q.1 ∨ (p.1 = q.1 ∧ p.2 ≤ q.2) := by
  unfold lexLe
  rw [Bool.not_eq_true', ← Bool.not_eq_true, SrtO.lexB_iff]
  omega
theorem srt_perm (l : Rows) : (srt l).Perm l := List.mergeSort_perm l lexLe
theorem srt_sorted (l : Rows) : (srt l).Pairwise (fun p q => lexLe p q = true) := by
  refine List.pairwise_mergeSort (fun a b c h1 h2 => ?_) (fun a b => ?_) l
  · rw [lexLe_iff] at h1 h2 ⊢
    omega
  · rw [Bool.or_eq_true, lexLe_iff, lexLe_iff]
    omega
theorem srt_uniq {l m : Rows} (hp : m.Perm l) (hs : m.Pairwise (fun p q => lexLe p q = true)) : m = srt l := by
  refine List.Perm.eq_of_pairwise (fun a b _ _ h1 h2 => ?_) hs (srt_sorted l) (hp.trans (srt_perm l).symm)
  rw [lexLe_iff] at h1 h2
  obtain ⟨a1, a2⟩ := a
  obtain ⟨b1, b2⟩ := b
  simp at h1 h2
  exact Prod.ext (by simp; omega) (by simp; omega)
/-- a pair of ints, read off the heap -/
def decP (H : Hp) : V → Int × Int
  | .ref t => match H t with
    | some (.tup [.int a, .int b]) => (a, b)
    | _ => (0, 0)
  | _ => (0, 0)
theorem decP_of {H : Hp} {t : Addr} {p : Int × Int} (h : H t = some (.tup [.int p.1, .int p.2])) : decP H (.ref t) = p := by
  unfold decP
  simp only [h]
theorem dqA_dec {K : Fr1} {H : Hp} : ∀ {vs : List V} {rs : Rows}, DqAll K H vs (rD rs) → vs.map (decP H) = rs ∧ ∀ x ∈ vs, ∃ t, x = .ref t ∧ H t = some (.tup [.int (decP H x).1, .int (decP H x).2])
  | [], [], _ => ⟨rfl, fun x hx => by cases hx⟩
  | [], _ :: _, h => by cases h
  | _ :: _, [], h => by cases h
  | v :: vs, p :: rs, h => by
    cases h with
    | cons h1 h2 =>
      obtain ⟨e1, e2⟩ := dqA_dec h2
      obtain ⟨p', t, hp, rfl, ht⟩ := dqA_get (vs := v :: vs) (rs := p :: rs) (i := 0) (.cons h1 h2) rfl
      cases hp
      have ed := decP_of ht
      refine ⟨by rw [List.map_cons, ed, e1], fun x hx => ?_⟩
      rcases List.mem_cons.mp hx with rfl | hx
      · exact ⟨t, rfl, by rw [ed]; exact ht⟩
      · exact e2 x hx
theorem dq_of_dec {K : Fr1} {H : Hp} : ∀ {vs : List V}, (∀ x ∈ vs, ∃ t, x = .ref t ∧ H t = some (.tup [.int (decP H x).1, .int (decP H x).2])) → DqAll K H vs (rD (vs.map (decP H)))
  | [], _ => .nil
  | v :: vs, h => by
    obtain ⟨t, e, ht⟩ := h v (List.mem_cons_self ..)
    refine .cons ?_ (dq_of_dec fun x hx => h x (List.mem_cons_of_mem _ hx))
    rw [e] at ht ⊢
    exact .tup ht (.cons (.int _) (.cons (.int _) .nil))
/-- sorted(xs), xs a list of pairs of ints -/
theorem w_sortedP {K : Fr1} {H : Hp} {Q : VK} {a : Addr} {vs : List V} {rs : Rows} (h : H a = some (.lst vs)) (hd : DqAll K H vs (rD rs))
    (k : ∀ p H', H p = none → Ex H H' → (∃ ys, H' p = some (.lst ys) ∧ DqAll K H' ys (rD (srt rs))) → Q (.ref p) H') : rSortedPO K [.ref a] H Q := by
  obtain ⟨e1, e2⟩ := dqA_dec hd
  refine ⟨a, vs, decP H, rfl, SqL.of h, e2, fun ys p hs hb hp => ?_⟩
  have hys : ∀ x ∈ ys, ∃ t, x = .ref t ∧ H t = some (.tup [.int (decP H x).1, .int (decP H x).2]) := fun x hx => e2 x (hb.perm.mem_iff.mp hx)
  have e3 : ys.map (decP H) = srt rs := by
    refine srt_uniq ?_ ?_
    · rw [← e1]
      exact hb.perm.map _
    · rw [List.pairwise_map]
      exact hs.imp fun {x y} z => by
        unfold lexLe
        rw [show SrtO.lexB (decP H y) (decP H x) = false from z] <;> rfl
  have d := dq_of_dec (K := K) hys
  rw [e3] at d
  exact k p _ hp (Ex.new hp) ⟨ys, upd_same, d.mono (Ex.new hp)⟩
/-! ### == of rows -/
theorem eqvAll_rD : ∀ a b : Rows, PyData.eqvAll (rD a) (rD b) = decide (a = b)
  | [], [] => rfl
  | [], _ :: _ => rfl
  | _ :: _, [] => rfl
  | (a1, a2) :: as, (b1, b2) :: bs => by
    have ih := eqvAll_rD as bs
    show (PyData.eqv (.tuple [.int a1, .int a2]) (.tuple [.int b1, .int b2]) && PyData.eqvAll (rD as) (rD bs)) = _
    rw [ih]
    simp only [PyData.eqv, PyData.eqvAll]
    by_cases h1 : a1 = b1 <;> by_cases h2 : a2 = b2 <;> by_cases h3 : as = bs <;> simp [h1, h2, h3]
theorem shaped_rD (a : Rows) : SeqAt.shaped (.tuple (rD a)) = true := by
  have h1 : ∀ a : Rows, PyData.canLayAll0 (rD a) = true ∧ PyData.depthAll (rD a) ≤ 1 := by
    intro a
    induction a with
    | nil => exact ⟨rfl, Nat.zero_le _⟩
    | cons p r ih =>
      obtain ⟨i1, i2⟩ := ih
      refine ⟨?_, ?_⟩
      · show (PyData.canLay0 (.tuple [.int p.1, .int p.2]) && PyData.canLayAll0 (rD r)) = true
        rw [i1]
        rfl
      · show max (PyData.depth (.tuple [.int p.1, .int p.2])) (PyData.depthAll (rD r)) ≤ 1
        have e : PyData.depth (.tuple [.int p.1, .int p.2]) = 1 := rfl
        omega
  obtain ⟨c, d⟩ := h1 a
  unfold SeqAt.shaped
  have c2 : PyData.canLay0 (.tuple (rD a)) = true := c
  have d2 : PyData.depth (.tuple (rD a)) ≤ 64 := by
    show PyData.depthAll (rD a) + 1 ≤ 64
    omega
  rw [c2, decide_eq_true d2]
  rfl
theorem shaped_rDl (a : Rows) : SeqAt.shaped (.list (rD a)) = true := shaped_rD a
mutual
/-- data without dicts, as the library's relation has them -/
def noDict : PyData → Bool
  | .list xs => noDictA xs
  | .tuple xs => noDictA xs
  | .dict _ => false
  | _ => true
def noDictA : List PyData → Bool
  | [] => true
  | x :: r => noDict x && noDictA r
end
mutual
theorem Dq.dp {K : Fr1} {H : Hp} : ∀ {v : V} {d : PyData}, Dq K H v d → noDict d = true → Dp K H v d
  | _, _, .non, _ => .non
  | _, _, .bl b, _ => .bl b
  | _, _, .int i, _ => .int i
  | _, _, .str x, _ => .str x
  | _, _, .lst h a, e => .lst (SqL.of h) (DqAll.dp a (by simpa [noDict] using e))
  | _, _, .tup h a, e => .tup (SqT.of h) (DqAll.dp a (by simpa [noDict] using e))
  | _, _, .dct h, e => by simp [noDict] at e
theorem DqAll.dp {K : Fr1} {H : Hp} : ∀ {vs : List V} {ds : List PyData}, DqAll K H vs ds → noDictA ds = true → DpAll K H vs ds
  | _, _, .nil, _ => .nil
  | _, _, .cons h t, e => by
    have e2 := Bool.and_eq_true_iff.mp (by simpa [noDictA] using e)
    exact .cons (Dq.dp h e2.1) (DqAll.dp t e2.2)
end
theorem noDict_rD : ∀ a : Rows, noDictA (rD a) = true
  | [] => rfl
  | p :: r => by
    show (noDict (.tuple [.int p.1, .int p.2]) && noDictA (rD r)) = true
    rw [noDict_rD r]
    rfl
/-- == of two tuples of rows -/
theorem w_eqRT {K : Fr1} {H : Hp} {Q : VK} {x y : V} {a b : Rows} (hx : Dq K H x (.tuple (rD a))) (hy : Dq K H y (.tuple (rD b))) (k : Q (.bl (decide (a = b))) H) : rEqD K x y H Q := by
  refine ⟨_, _, hx.dp (by simpa [noDict] using noDict_rD a), hy.dp (by simpa [noDict] using noDict_rD b), shaped_rD a, shaped_rD b, ?_⟩
  have e : PyData.eqv (.tuple (rD a)) (.tuple (rD b)) = decide (a = b) := eqvAll_rD a b
  rw [e]
  exact k

def turnR (N c : Int) (rs : Rows) : Rows := srt (rs.map fun p => ((p.1 + c) % N, (p.2 + c) % N))
/-- what least_period tells -/
structure LeastP (N : Int) (rs : Rows) (s : Int) : Prop where
  pos : 1 ≤ s
  le : s ≤ N
  keeps : s = N ∨ (N % s = 0 ∧ turnR N s rs = rs)
  least : ∀ t, 1 ≤ t → t < s → ¬ (N % t = 0 ∧ turnR N t rs = rs)
theorem putF_ne {f g : Str} {u v : V} {r : List (Str × V)} (h : ¬ g = f) : putF f v ((g, u) :: r) = (g, u) :: putF f v r := by
  show (if g = f then _ else _) = _
  rw [if_neg h]
theorem putF_nil {f : Str} {v : V} : putF f v [] = [(f, v)] := rfl
theorem lk_eq {f : Str} {v : V} {r : List (Str × V)} : ((f, v) :: r).lookup f = some v := by simp [List.lookup]
theorem lk_ne {f g : Str} {v : V} {r : List (Str × V)} (h : (g == f) = false) : ((f, v) :: r).lookup g = r.lookup g := by simp [List.lookup, h]
theorem lk_nil {g : Str} : ([] : List (Str × V)).lookup g = none := rfl
theorem flds3 (n r p : V) : putF "_period" p (putF "rows" r (putF "around" n [])) = ([("around", n), ("rows", r), ("_period", p)] : List (Str × V)) := by
  rw [putF_nil, putF_ne (by decide +kernel), putF_nil, putF_ne (by decide +kernel), putF_ne (by decide +kernel), putF_nil]
/-- the fields of a turning -/
def tF (N : Int) (t : Addr) (s : Int) : List (Str × V) := [("around", .int N), ("rows", .ref t), ("_period", .int s)]
theorem tF_around (N : Int) (t : Addr) (s : Int) : (tF N t s).lookup ("around" : Str) = some (V.int N) := lk_eq
theorem tF_rows (N : Int) (t : Addr) (s : Int) : (tF N t s).lookup ("rows" : Str) = some (V.ref t) := (lk_ne (by decide +kernel)).trans lk_eq
theorem tF_period (N : Int) (t : Addr) (s : Int) : (tF N t s).lookup ("_period" : Str) = some (V.int s) := (lk_ne (by decide +kernel)).trans ((lk_ne (by decide +kernel)).trans lk_eq)
theorem tF_no (N : Int) (t : Addr) (s : Int) {m : Str} (h1 : (m == ("around" : Str)) = false) (h2 : (m == ("rows" : Str)) = false) (h3 : (m == ("_period" : Str)) = false) : (tF N t s).lookup m = none :=
  (lk_ne h1).trans ((lk_ne h2).trans ((lk_ne h3).trans lk_nil))
/-- v is a turning of the round N with the rows rs and the period s -/
def TurnAt (K : Fr1) (H : Hp) (v : V) (N : Int) (rs : Rows) (s : Int) : Prop := ∃ a dx t, v = .ref a ∧ H a = some (.ins (He.ga K "Turning") dx (tF N t s)) ∧ Dq K H (.ref t) (.tuple (rD rs))
theorem TurnAt.mono {K : Fr1} {H H' : Hp} {v : V} {N : Int} {rs : Rows} {s : Int} (e : Ex H H') (h : TurnAt K H v N rs s) : TurnAt K H' v N rs s := by
  obtain ⟨a, dx, t, h1, h2, h3⟩ := h
  exact ⟨a, dx, t, h1, e _ _ h2, h3.mono e⟩
/-- rows as a turning has them -/
structure GoodT (N : Int) (rs : Rows) : Prop where
  hN : 2 ≤ N
  hN2 : N ≤ 360
  len1 : 1 ≤ rs.length
  len2 : rs.length ≤ 12
  rng : ∀ p ∈ rs, 0 ≤ p.1 ∧ p.1 < N ∧ 0 ≤ p.2 ∧ p.2 < N
  asc : rs.Pairwise (fun p q => p.1 < q.1)
  rest : ∀ i p, rs[i]? = some p → p.1 + (p.2 - p.1) % N < behindOf N rs i
theorem rowA_good {N : Int} : ∀ {ds : List PyData} {b : Int} {i : Nat} {rs : Rows}, rowA N b i ds = .ok rs → (∀ p ∈ rs, b < p.1 ∧ 0 ≤ p.1 ∧ p.1 < N ∧ 0 ≤ p.2 ∧ p.2 < N) ∧ rs.Pairwise (fun p q => p.1 < q.1)
  | [], b, i, rs, h => by
    cases h
    exact ⟨fun p hp => (by cases hp), .nil⟩
  | d :: r, b, i, rs, h => by
    rw [rowA_cons] at h
    split at h
    · cases h
    · rename_i p hp
      split at h
      · cases h
      · rename_i hb
        split at h
        · rename_i l hl
          cases h
          obtain ⟨g1, g2⟩ := rowA_good hl
          obtain ⟨_, a1, a2, a3, a4⟩ := asPair_some hp
          refine ⟨fun q hq => ?_, List.pairwise_cons.mpr ⟨fun q hq => (g1 q hq).1, g2⟩⟩
          rcases List.mem_cons.mp hq with rfl | hq
          · exact ⟨by omega, a1, a2, a3, a4⟩
          · obtain ⟨z1, z2⟩ := g1 q hq
            exact ⟨by omega, z2⟩
        · cases h
theorem good_rowA {N : Int} : ∀ {rs : Rows} {b : Int} {i : Nat}, (∀ p ∈ rs, b < p.1 ∧ 0 ≤ p.1 ∧ p.1 < N ∧ 0 ≤ p.2 ∧ p.2 < N) → rs.Pairwise (fun p q => p.1 < q.1) → rowA N b i (rD rs) = .ok rs
  | [], _, _, _, _ => rfl
  | p :: r, b, i, h, hp => by
    obtain ⟨h1, h2, h3, h4, h5⟩ := h p (List.mem_cons_self ..)
    obtain ⟨g1, g2⟩ := List.pairwise_cons.mp hp
    have e : asPair N (pD p) = some p := by
      show (if 0 ≤ p.1 ∧ p.1 < N ∧ 0 ≤ p.2 ∧ p.2 < N then some (p.1, p.2) else none) = some p
      rw [if_pos ⟨h2, h3, h4, h5⟩]
    have ih := good_rowA (N := N) (rs := r) (b := p.1) (i := i + 1) (fun q hq => ⟨g1 q hq, (h q (List.mem_cons_of_mem _ hq)).2⟩) g2
    show rowA N b i (pD p :: rD r) = _
    rw [rowA_cons, e]
    dsimp only
    rw [if_neg (by omega), ih]
theorem rowBg_none {N : Int} {rs : Rows} : ∀ {n i : Nat}, rowBg N rs n i = none ↔ ∀ j, i ≤ j → j < i + n → badRest N rs j = false
  | 0, i => Iff.intro (fun _ j h1 h2 => absurd h2 (by omega)) (fun _ => rfl)
  | n + 1, i => by
    have ih := rowBg_none (N := N) (rs := rs) (n := n) (i := i + 1)
    show (if badRest N rs i = true then some i else rowBg N rs n (i + 1)) = none ↔ _
    by_cases h : badRest N rs i = true
    · rw [if_pos h]
      refine ⟨fun z => (by cases z), fun z => ?_⟩
      have := z i (Nat.le_refl _) (by omega)
      rw [h] at this
      cases this
    · rw [if_neg h, ih]
      refine ⟨fun z j h1 h2 => ?_, fun z j h1 h2 => z j (by omega) (by omega)⟩
      by_cases hj : j = i
      · subst hj
        simpa using h
      · exact z j (by omega) (by omega)
theorem good_chk {N : Int} {d : PyData} {rs : Rows} (h1 : 2 ≤ N) (h2 : N ≤ 360) (h : rowsChk N d = .ok rs) : GoodT N rs ∧ rowsOf d = some (rD rs) := by
  unfold rowsChk at h
  split at h
  · cases h
  · rename_i l hl
    split at h
    · cases h
    · rename_i hlen
      split at h
      · cases h
      · rename_i rs' hA
        split at h
        · cases h
        · rename_i hB
          cases h
          have hds := rowA_eq hA
          obtain ⟨g1, g2⟩ := rowA_good hA
          have hl2 : l.length = rs.length := by rw [hds]; exact List.length_map ..
          refine ⟨⟨h1, h2, by omega, by omega, fun p hp => (g1 p hp).2, g2, fun i p hp => ?_⟩, by rw [hl, hds]⟩
          have hi : i < rs.length := (List.getElem?_eq_some_iff.mp hp).1
          have z := (rowBg_none.mp hB) i (Nat.zero_le _) (by omega)
          unfold badRest at z
          rw [hp] at z
          simpa using z
theorem chk_good {N : Int} {d : PyData} {rs : Rows} (g : GoodT N rs) (h : rowsOf d = some (rD rs)) : rowsChk N d = .ok rs := by
  have hl : (rD rs).length = rs.length := List.length_map ..
  have h1 := g.len1
  have h2 := g.len2
  have hA : rowA N (-1) 0 (rD rs) = .ok rs := good_rowA (fun p hp => by have := g.rng p hp; omega) g.asc
  have hB : rowB N rs = none := by
    refine rowBg_none.mpr fun j _ hj => ?_
    unfold badRest
    rw [List.getElem?_eq_getElem (show j < rs.length by omega)]
    have := g.rest j _ (List.getElem?_eq_getElem (show j < rs.length by omega))
    simpa using this
  unfold rowsChk
  rw [h]
  dsimp only
  rw [if_neg (by omega), hA]
  dsimp only
  rw [hB]
/-- the lifted map -/
def pickR (rs : Rows) (x : Int) : Int × Int := rs.foldl (fun acc p => if p.1 ≤ x then p else acc) (rs.headD (0, 0))
def liftZ (N : Int) (rs : Rows) (x : Int) : Int :=
  if x % N < (rs.headD (0, 0)).1 then (x / N - 1) * N + (pickR rs (x % N + N)).1 + ((pickR rs (x % N + N)).2 - (pickR rs (x % N + N)).1) % N
  else x / N * N + (pickR rs (x % N)).1 + ((pickR rs (x % N)).2 - (pickR rs (x % N)).1) % N
/-- the wish for an error raised while the new instance x is being made -/
def RzX (K : Fr1) (x : Addr) (c f : Str) (v : V) (H : Hp) (E : XK) : Prop := ∀ d H', H d = none → (∀ b o, b ≠ x → H b = some o → H' b = some o) → H' d = some (.xd [(f, v)]) → E (.ref (He.ga K c)) (some d) H'
theorem turn_meth {K : Fr1} {H : Hp} {v : V} {N : Int} {rs : Rows} {s : Int} {m : Str} {P : Prop} (tu : TurnAt K H v N rs s) (h1 : (m == ("around" : Str)) = false) (h2 : (m == ("rows" : Str)) = false) (h3 : (m == ("_period" : Str)) = false) (k : P) :
    ∃ a dx fs, v = .ref a ∧ H a = some (.ins (He.ga K "Turning") dx fs) ∧ fs.lookup m = none ∧ P := by
  obtain ⟨a, dx, t, e, ha, _⟩ := tu
  exact ⟨a, dx, _, e, ha, tF_no N t s h1 h2 h3, k⟩
theorem turn_prop {K : Fr1} {H : Hp} {x : Addr} {N : Int} {rs : Rows} {s : Int} {P : Addr → Prop} (tu : TurnAt K H (.ref x) N rs s) (k : P x) : ∃ a dx fs, V.ref x = .ref a ∧ H a = some (.ins (He.ga K "Turning") dx fs) ∧ P a := by
  obtain ⟨a, dx, t, e, ha, _⟩ := tu
  cases e
  exact ⟨x, dx, _, rfl, ha, k⟩
theorem turn_ins {X : Cx} {H : Hp} {a : Addr} {N : Int} {rs : Rows} {s : Int} (tu : TurnAt X.K H (.ref a) N rs s) : StX.InsC X H a (He.ga X.K "Turning") := by
  obtain ⟨b, dx, t, e, ha, _⟩ := tu
  cases e
  exact .inr ⟨dx, _, ha⟩

/-! ### == and != of lists of rows, of lists of ints -/
theorem eqv_lists (a b : List PyData) : PyData.eqv (.list a) (.list b) = PyData.eqvAll a b := rfl
theorem w_eqRL {K : Fr1} {H : Hp} {Q : VK} {x y : V} {a b : Rows} (hx : Dq K H x (.list (rD a))) (hy : Dq K H y (.list (rD b))) (k : Q (.bl (decide (a = b))) H) : rEqD K x y H Q := by
  refine ⟨_, _, hx.dp (by simpa [noDict] using noDict_rD a), hy.dp (by simpa [noDict] using noDict_rD b), shaped_rDl a, shaped_rDl b, ?_⟩
  rw [eqv_lists, eqvAll_rD a b]
  exact k
theorem w_neRL {K : Fr1} {H : Hp} {Q : VK} {x y : V} {a b : Rows} (hx : Dq K H x (.list (rD a))) (hy : Dq K H y (.list (rD b))) (k : Q (.bl (!decide (a = b))) H) : rNeD K x y H Q := by
  refine ⟨_, _, hx.dp (by simpa [noDict] using noDict_rD a), hy.dp (by simpa [noDict] using noDict_rD b), shaped_rDl a, shaped_rDl b, ?_⟩
  rw [eqv_lists, eqvAll_rD a b]
  exact k
theorem w_neRT {K : Fr1} {H : Hp} {Q : VK} {x y : V} {a b : Rows} (hx : Dq K H x (.tuple (rD a))) (hy : Dq K H y (.tuple (rD b))) (k : Q (.bl (!decide (a = b))) H) : rNeD K x y H Q := by
  refine ⟨_, _, hx.dp (by simpa [noDict] using noDict_rD a), hy.dp (by simpa [noDict] using noDict_rD b), shaped_rD a, shaped_rD b, ?_⟩
  have e : PyData.eqv (.tuple (rD a)) (.tuple (rD b)) = decide (a = b) := eqvAll_rD a b
  rw [e]
  exact k
def iD (a : List Int) : List PyData := a.map PyData.int
theorem eqvAll_iD : ∀ a b : List Int, PyData.eqvAll (iD a) (iD b) = decide (a = b)
  | [], [] => rfl
  | [], _ :: _ => rfl
  | _ :: _, [] => rfl
  | a :: as, b :: bs => by
    have ih := eqvAll_iD as bs
    show (PyData.eqv (.int a) (.int b) && PyData.eqvAll (iD as) (iD bs)) = _
    rw [ih]
    simp only [PyData.eqv]
    by_cases h1 : a = b <;> by_cases h3 : as = bs <;> simp [h1, h3]
theorem noDict_iD : ∀ a : List Int, noDictA (iD a) = true
  | [] => rfl
  | p :: r => by
    show (noDict (.int p) && noDictA (iD r)) = true
    rw [noDict_iD r]
    rfl
theorem shaped_iD (a : List Int) : SeqAt.shaped (.list (iD a)) = true := by
  have h1 : PyData.canLayAll0 (iD a) = true ∧ PyData.depthAll (iD a) = 0 := by
    induction a with
    | nil => exact ⟨rfl, rfl⟩
    | cons p r ih =>
      obtain ⟨i1, i2⟩ := ih
      refine ⟨?_, ?_⟩
      · show (PyData.canLay0 (.int p) && PyData.canLayAll0 (iD r)) = true
        rw [i1]
        rfl
      · show max (PyData.depth (.int p)) (PyData.depthAll (iD r)) = 0
        rw [i2]
        rfl
  unfold SeqAt.shaped
  have c2 : PyData.canLay0 (.list (iD a)) = true := h1.1
  have d2 : PyData.depth (.list (iD a)) ≤ 64 := by
    show PyData.depthAll (iD a) + 1 ≤ 64
    rw [h1.2]
    decide
  rw [c2, decide_eq_true d2]
  rfl
theorem dq_ints {K : Fr1} {H : Hp} {a : Addr} {ns : List Int} (h : H a = some (.lst (ns.map V.int))) : Dq K H (.ref a) (.list (iD ns)) := .lst h (dqA_ints ns)
theorem w_eqIL {K : Fr1} {H : Hp} {Q : VK} {a b : Addr} {ns ms : List Int} (hx : H a = some (.lst (ns.map V.int))) (hy : H b = some (.lst (ms.map V.int))) (k : Q (.bl (decide (ns = ms))) H) : rEqD K (.ref a) (.ref b) H Q := by
  refine ⟨_, _, (dq_ints hx).dp (by simpa [noDict] using noDict_iD ns), (dq_ints hy).dp (by simpa [noDict] using noDict_iD ms), shaped_iD ns, shaped_iD ms, ?_⟩
  rw [eqv_lists, eqvAll_iD]
  exact k
theorem w_neIL {K : Fr1} {H : Hp} {Q : VK} {a b : Addr} {ns ms : List Int} (hx : H a = some (.lst (ns.map V.int))) (hy : H b = some (.lst (ms.map V.int))) (k : Q (.bl (!decide (ns = ms))) H) : rNeD K (.ref a) (.ref b) H Q := by
  refine ⟨_, _, (dq_ints hx).dp (by simpa [noDict] using noDict_iD ns), (dq_ints hy).dp (by simpa [noDict] using noDict_iD ms), shaped_iD ns, shaped_iD ms, ?_⟩
  rw [eqv_lists, eqvAll_iD]
  exact k
theorem GoodT.srt {N : Int} {rs : Rows} (g : GoodT N rs) : srt rs = rs := (srt_uniq (List.Perm.refl rs) (g.asc.imp fun {p q} h => by rw [lexLe_iff]; omega)).symm

/-! ### a list that is changed leaves rows, turnings as they were -/
theorem upd_keep {H : Hp} {l a : Addr} {xs : List V} {o o2 : HO} (hl : H l = some (.lst xs)) (ha : H a = some o) (no : ∀ ys, o ≠ .lst ys) : upd H l o2 a = some o := by
  rw [upd_ne]
  · exact ha
  · rintro rfl
    rw [hl] at ha
    cases ha
    exact no _ rfl
theorem dqA_rD_mut {K : Fr1} {H : Hp} {l : Addr} {xs : List V} {o2 : HO} (hl : H l = some (.lst xs)) : ∀ {vs : List V} {rs : Rows}, DqAll K H vs (rD rs) → DqAll K (upd H l o2) vs (rD rs)
  | _, [], h => by
    cases h
    exact .nil
  | _, p :: rs, h => by
    cases h with
    | cons h1 h2 =>
      refine .cons ?_ (dqA_rD_mut hl h2)
      cases h1 with
      | tup a1 a2 =>
        refine .tup (upd_keep hl a1 (fun _ z => by cases z)) ?_
        cases a2 with
        | cons b1 b2 =>
          cases b1
          cases b2 with
          | cons c1 c2 =>
            cases c1
            cases c2
            exact .cons (.int _) (.cons (.int _) .nil)
theorem TurnAt.mutL {K : Fr1} {H : Hp} {l : Addr} {xs : List V} {o2 : HO} {v : V} {N : Int} {rs : Rows} {s : Int} (hl : H l = some (.lst xs)) (h : TurnAt K H v N rs s) : TurnAt K (upd H l o2) v N rs s := by
  obtain ⟨a, dx, t, rfl, ha, ht⟩ := h
  refine ⟨a, dx, t, rfl, upd_keep hl ha (fun _ z => by cases z), ?_⟩
  cases ht with
  | tup h1 h2 => exact .tup (upd_keep hl h1 (fun _ z => by cases z)) (dqA_rD_mut hl h2)
theorem own_eqG {K : Fr1} {H : Hp} {a b : Addr} {N M : Int} {rs qs : Rows} {s t : Int} {Q : VK} {E : XK} {sp : Sp} (hsp : ∀ {Q E}, Q (.bl (decide (N = M) && decide (rs = qs))) H → sp [.ref a, .ref b] H Q E) (ta : TurnAt K H (.ref a) N rs s) (tb : TurnAt K H (.ref b) M qs t) (k : Q (.bl (decide (N = M) && decide (rs = qs))) H) : rOwnE (He.ga K "Turning") sp E (.ref a) (.ref b) H Q := by
  obtain ⟨_, dx, x, e1, ha, _⟩ := id ta
  obtain ⟨_, dy, y, e2, hb, _⟩ := id tb
  cases e1
  cases e2
  exact ⟨a, b, dx, dy, _, _, rfl, rfl, ha, hb, hsp ⟨_, rfl, k⟩⟩
theorem own_neG {K : Fr1} {H : Hp} {a b : Addr} {N M : Int} {rs qs : Rows} {s t : Int} {Q : VK} {E : XK} {sp : Sp} (hsp : ∀ {Q E}, Q (.bl (decide (N = M) && decide (rs = qs))) H → sp [.ref a, .ref b] H Q E) (ta : TurnAt K H (.ref a) N rs s) (tb : TurnAt K H (.ref b) M qs t) (k : Q (.bl (!(decide (N = M) && decide (rs = qs)))) H) : rOwnN (He.ga K "Turning") sp E (.ref a) (.ref b) H Q := by
  obtain ⟨_, dx, x, e1, ha, _⟩ := id ta
  obtain ⟨_, dy, y, e2, hb, _⟩ := id tb
  cases e1
  cases e2
  exact ⟨a, b, dx, dy, _, _, rfl, rfl, ha, hb, hsp ⟨_, rfl, k⟩⟩
theorem good_01 {N : Int} (h : 2 ≤ N) (h2 : N ≤ 360) : GoodT N [(0, 1)] := by
  refine ⟨h, h2, by decide, by decide, ?_, ?_, ?_⟩
  · intro p hp
    simp at hp
    subst hp
    exact ⟨by decide, by show (0:Int) < N; omega, by decide, by show (1:Int) < N; omega⟩
  · simp
  · intro i p hp
    match i, hp with
    | 0, hp =>
      cases hp
      show (0 : Int) + (1 - 0) % N < 0 + N
      rw [Int.emod_eq_of_lt (by decide) (by omega)]
      omega
    | i + 1, hp => simp at hp
theorem w_neB {H : Hp} {Q : VK} {a b : Bool} (k : Q (.bl (a != b)) H) : rNe (.bl a) (.bl b) H Q := ⟨rfl, by
  have e : (!decide (V.bl a = V.bl b)) = (a != b) := by cases a <;> cases b <;> decide
  rw [e]; exact k⟩
theorem w_eqB {H : Hp} {Q : VK} {a b : Bool} (k : Q (.bl (a == b)) H) : rEq (.bl a) (.bl b) H Q := ⟨rfl, by
  have e : (decide (V.bl a = V.bl b)) = (a == b) := by cases a <;> cases b <;> decide
  rw [e]; exact k⟩
theorem w_isiC {K : Fr1} {H : Hp} {Q : VK} {v : V} {d : PyData} {n : String} {b b' : Bool} (h : Dq K H v d) (k : kitB (tyn d) n = some b') (e : b' = b) (q : Q (.bl b) H) : rIsi K [v, .ty n] H Q := w_isi h k (by rw [e]; exact q)
theorem paired_ints_any {α : Type} : ∀ {vs : List V} {as : List α}, Paired (fun v (_ : α) => ∃ r : Int, v = .int r) vs as → ∃ ns : List Int, vs = ns.map V.int
  | _, _, .nil => ⟨[], rfl⟩
  | _, _, .cons ⟨r, h⟩ t => by
    obtain ⟨ns, e⟩ := paired_ints_any t
    exact ⟨r :: ns, by rw [h, e, List.map_cons]⟩
theorem dqA_catM {K : Fr1} {H : Hp} : ∀ {xs : List V} {ds : List PyData} {ys : List V} {es : List PyData}, DqAll K H xs ds → DqAll K H ys es → DqAll K H (xs ++ ys) (ds ++ es)
  | [], _, _, _, .nil, h => h
  | _ :: _, _, _, _, .cons h t, h2 => .cons h (dqA_catM t h2)
theorem dqA_setM {K : Fr1} {H : Hp} {v : V} {d : PyData} (hd : Dq K H v d) : ∀ (n : Nat) {xs : List V} {ds : List PyData}, DqAll K H xs ds → DqAll K H (xs.set n v) (ds.set n d)
  | _, _, _, .nil => .nil
  | 0, _, _, .cons _ t => .cons hd t
  | n + 1, _, _, .cons h t => .cons h (dqA_setM hd n t)
theorem del_ExM {H H' : Hp} {l : Addr} (e : Ex H H') : Ex (del H l) (del H' l) := Ex.delD (ex_del.trans e) del_same

/-! ### directions -/
abbrev P2 := Int × Int
def nz (p : P2) : Prop := p.1 ≠ 0 ∨ p.2 ≠ 0
def gZ (p : P2) : Int := ((Nat.gcd p.1.natAbs p.2.natAbs : Nat) : Int)
def low (p : P2) : P2 := (p.1 / gZ p, p.2 / gZ p)
def sc (k : Int) (p : P2) : P2 := (k * p.1, k * p.2)
def mulC (p q : P2) : P2 := (p.1 * q.1 - p.2 * q.2, p.1 * q.2 + p.2 * q.1)
def conjC (p : P2) : P2 := (p.1, -p.2)
def lateZ (p : P2) : Bool := decide (p.2 < 0) || (decide (p.2 = 0) && decide (p.1 < 0))
def crossZ (p q : P2) : Int := p.1 * q.2 - p.2 * q.1
def dotZ (p q : P2) : Int := p.1 * q.1 + p.2 * q.2
def earlierZ (p q : P2) : Bool := if lateZ p = lateZ q then decide (0 < crossZ p q) else lateZ q
def tbZ (d e : P2) : P2 := (d.1 * e.1 + d.2 * e.2, d.2 * e.1 - d.1 * e.2)
def eastZ (p : P2) : Bool := decide (p.2 = 0) && decide (0 < p.1)
def insideZ (one lo hi : P2) : Bool := eastZ (tbZ hi lo) || (!eastZ (tbZ one lo) && !earlierZ (tbZ hi lo) (tbZ one lo))
theorem gZ_pos {p : P2} (h : nz p) : 0 < gZ p := by
  unfold gZ
  have : 0 < Nat.gcd p.1.natAbs p.2.natAbs := by
    rcases h with h | h
    · exact Nat.gcd_pos_of_pos_left _ (by omega)
    · exact Nat.gcd_pos_of_pos_right _ (by omega)
  omega
theorem gZ_dvd1 (p : P2) : gZ p ∣ p.1 := Int.ofNat_dvd_left.mpr (Nat.gcd_dvd_left _ _)
theorem gZ_dvd2 (p : P2) : gZ p ∣ p.2 := Int.ofNat_dvd_left.mpr (Nat.gcd_dvd_right _ _)
theorem low_sc (p : P2) : p = sc (gZ p) (low p) := Prod.ext (Int.mul_ediv_cancel' (gZ_dvd1 p)).symm (Int.mul_ediv_cancel' (gZ_dvd2 p)).symm
theorem gZ_sc {k : Int} (hk : 0 < k) (p : P2) : gZ (sc k p) = k * gZ p := by
  unfold gZ sc
  dsimp only
  rw [Int.natAbs_mul, Int.natAbs_mul, Nat.gcd_mul_left, Int.natCast_mul, Int.natAbs_of_nonneg (by omega)]
theorem low_of_sc {k : Int} (hk : 0 < k) (p : P2) : low (sc k p) = low p := by
  unfold low
  rw [gZ_sc hk]
  unfold sc
  rw [Int.mul_ediv_mul_of_pos _ _ hk, Int.mul_ediv_mul_of_pos _ _ hk]
theorem sc_nz {k : Int} {p : P2} (h : nz (sc k p)) : nz p := by
  rcases h with h | h
  · exact .inl fun z => h (by show k * p.1 = 0; rw [z, Int.mul_zero])
  · exact .inr fun z => h (by show k * p.2 = 0; rw [z, Int.mul_zero])
theorem nz_sc {k : Int} {p : P2} (hk : 0 < k) (h : nz p) : nz (sc k p) := by
  rcases h with h | h
  · exact .inl (Int.mul_ne_zero (by omega) h)
  · exact .inr (Int.mul_ne_zero (by omega) h)
theorem low_nz {p : P2} (h : nz p) : nz (low p) := sc_nz (k := gZ p) (by rw [← low_sc]; exact h)
theorem low_low {p : P2} (h : nz p) : low (low p) = low p := by
  conv => rhs; rw [low_sc p]
  exact (low_of_sc (gZ_pos h) _).symm
theorem mul_pos_iff {k x : Int} (hk : 0 < k) : 0 < k * x ↔ 0 < x := by
  constructor
  · intro h
    apply Classical.byContradiction
    intro c
    have := Int.mul_nonneg (show 0 ≤ k by omega) (show 0 ≤ -x by omega)
    rw [Int.mul_neg] at this
    omega
  · exact fun h => Int.mul_pos hk h
theorem mul_zero_iff {k x : Int} (hk : 0 < k) : k * x = 0 ↔ x = 0 := by
  constructor
  · intro h
    rcases Int.mul_eq_zero.mp h with h | h
    · omega
    · exact h
  · rintro rfl
    exact Int.mul_zero k
theorem mul_neg_iff {k x : Int} (hk : 0 < k) : k * x < 0 ↔ x < 0 := by
  have h1 := mul_pos_iff (x := x) hk
  have h2 := mul_zero_iff (x := x) hk
  omega
theorem late_sc {k : Int} (hk : 0 < k) (p : P2) : lateZ (sc k p) = lateZ p := by
  unfold lateZ sc
  simp only [mul_neg_iff hk, mul_zero_iff hk]
theorem east_sc {k : Int} (hk : 0 < k) (p : P2) : eastZ (sc k p) = eastZ p := by
  unfold eastZ sc
  simp only [mul_pos_iff hk, mul_zero_iff hk]
theorem cross_sc (k l : Int) (p q : P2) : crossZ (sc k p) (sc l q) = (k * l) * crossZ p q := by
  unfold crossZ sc
  dsimp only
  grind
theorem dot_sc (k l : Int) (p q : P2) : dotZ (sc k p) (sc l q) = (k * l) * dotZ p q := by
  unfold dotZ sc
  dsimp only
  grind
theorem earlier_sc {k l : Int} (hk : 0 < k) (hl : 0 < l) (p q : P2) : earlierZ (sc k p) (sc l q) = earlierZ p q := by
  unfold earlierZ
  rw [late_sc hk, late_sc hl, cross_sc]
  simp only [mul_pos_iff (Int.mul_pos hk hl)]
theorem tb_sc (k l : Int) (p q : P2) : tbZ (sc k p) (sc l q) = sc (k * l) (tbZ p q) := by
  unfold tbZ sc
  dsimp only
  refine Prod.ext ?_ ?_ <;> dsimp only <;> grind
theorem inside_sc {a b c : Int} (ha : 0 < a) (hb : 0 < b) (hc : 0 < c) (one lo hi : P2) : insideZ (sc a one) (sc b lo) (sc c hi) = insideZ one lo hi := by
  unfold insideZ
  rw [tb_sc, tb_sc, east_sc (Int.mul_pos hc hb), east_sc (Int.mul_pos ha hb), earlier_sc (Int.mul_pos hc hb) (Int.mul_pos ha hb)]
theorem inside_low {one lo hi : P2} (h1 : nz one) (h2 : nz lo) (h3 : nz hi) : insideZ (low one) (low lo) (low hi) = insideZ one lo hi := by
  conv => rhs; rw [low_sc one, low_sc lo, low_sc hi]
  exact (inside_sc (gZ_pos h1) (gZ_pos h2) (gZ_pos h3) _ _ _).symm
theorem earlier_low {p q : P2} (h1 : nz p) (h2 : nz q) : earlierZ (low p) (low q) = earlierZ p q := by
  conv => rhs; rw [low_sc p, low_sc q]
  exact (earlier_sc (gZ_pos h1) (gZ_pos h2) _ _).symm
theorem late_low {p : P2} (h : nz p) : lateZ (low p) = lateZ p := by
  conv => rhs; rw [low_sc p]
  exact (late_sc (gZ_pos h) _).symm
theorem mul_sc (k l : Int) (p q : P2) : mulC (sc k p) (sc l q) = sc (k * l) (mulC p q) := by
  unfold mulC sc
  dsimp only
  refine Prod.ext ?_ ?_ <;> dsimp only <;> grind
theorem low_mul {p q : P2} (h1 : nz p) (h2 : nz q) : low (mulC (low p) (low q)) = low (mulC p q) := by
  conv => rhs; rw [low_sc p, low_sc q]
  rw [mul_sc]
  exact (low_of_sc (Int.mul_pos (gZ_pos h1) (gZ_pos h2)) _).symm
theorem norm_pos {p : P2} (h : nz p) : 0 < dotZ p p := by
  have key : ∀ x : Int, 0 ≤ x * x ∧ (x ≠ 0 → 0 < x * x) := fun x => by
    rcases Int.lt_trichotomy x 0 with c | c | c
    · have := Int.mul_pos_of_neg_of_neg c c
      omega
    · subst c
      exact ⟨by decide, fun z => absurd rfl z⟩
    · have := Int.mul_pos c c
      omega
  have k1 := key p.1
  have k2 := key p.2
  unfold dotZ
  rcases h with h | h
  · have := k1.2 h
    omega
  · have := k2.2 h
    omega
theorem norm_mul (p q : P2) : dotZ (mulC p q) (mulC p q) = dotZ p p * dotZ q q := by
  unfold dotZ mulC
  dsimp only
  grind
theorem zero_of {p : P2} (h : ¬ nz p) : p.1 = 0 ∧ p.2 = 0 := by
  unfold nz at h
  omega
theorem nz_mul {p q : P2} (h1 : nz p) (h2 : nz q) : nz (mulC p q) := by
  apply Classical.byContradiction
  intro c
  obtain ⟨c1, c2⟩ := zero_of c
  have := Int.mul_pos (norm_pos h1) (norm_pos h2)
  rw [← norm_mul] at this
  unfold dotZ at this
  rw [c1, c2] at this
  simp at this
theorem nz_conj {p : P2} (h : nz p) : nz (conjC p) := by
  unfold nz conjC at *
  dsimp only
  omega
theorem tb_eq (p q : P2) : tbZ p q = mulC p (conjC q) := by
  unfold tbZ mulC conjC
  refine Prod.ext ?_ ?_ <;> dsimp only <;> grind
theorem nz_tb {p q : P2} (h1 : nz p) (h2 : nz q) : nz (tbZ p q) := by
  rw [tb_eq]
  exact nz_mul h1 (nz_conj h2)
theorem tb_mul (d e b : P2) : tbZ (mulC d b) (mulC e b) = sc (dotZ b b) (tbZ d e) := by
  unfold tbZ mulC sc dotZ
  refine Prod.ext ?_ ?_ <;> dsimp only <;> grind
theorem inside_mul {one lo hi b : P2} (hb : nz b) : insideZ (mulC one b) (mulC lo b) (mulC hi b) = insideZ one lo hi := by
  unfold insideZ
  have := norm_pos hb
  rw [tb_mul, tb_mul, east_sc this, east_sc this, earlier_sc this this]
def sameZ (p q : P2) : Bool := decide (p.1 * q.2 = p.2 * q.1) && decide (0 < dotZ p q)
theorem same_iff {p q : P2} (h1 : nz p) (h2 : nz q) : sameZ p q = true ↔ low p = low q := by
  unfold sameZ
  rw [Bool.and_eq_true, decide_eq_true_eq, decide_eq_true_eq]
  constructor
  · rintro ⟨c, d⟩
    have e : sc (dotZ p q) p = sc (dotZ p p) q := by
      unfold sc dotZ
      refine Prod.ext ?_ ?_ <;> dsimp only <;> grind
    rw [← low_of_sc d p, e, low_of_sc (norm_pos h1)]
  · intro e
    have g1 := gZ_pos h1
    have g2 := gZ_pos h2
    have n := norm_pos (low_nz h1)
    have e1 := low_sc p
    have e2 := low_sc q
    rw [← e] at e2
    refine ⟨?_, ?_⟩
    · have : crossZ p q = 0 := by
        rw [e1, e2, cross_sc]
        unfold crossZ
        grind
      unfold crossZ at this
      omega
    · rw [e1, e2, dot_sc]
      exact Int.mul_pos (Int.mul_pos g1 g2) n
theorem late_cases (p : P2) (h : nz p) : (lateZ p = true ∧ (p.2 < 0 ∨ (p.2 = 0 ∧ p.1 < 0))) ∨ (lateZ p = false ∧ (0 < p.2 ∨ (p.2 = 0 ∧ 0 < p.1))) := by
  unfold lateZ
  unfold nz at h
  by_cases c1 : p.2 < 0
  · exact .inl ⟨by rw [decide_eq_true c1]; rfl, .inl c1⟩
  · rw [decide_eq_false c1, Bool.false_or]
    by_cases c2 : p.2 = 0
    · rw [decide_eq_true c2, Bool.true_and]
      by_cases c3 : p.1 < 0
      · exact .inl ⟨decide_eq_true c3, .inr ⟨c2, c3⟩⟩
      · exact .inr ⟨decide_eq_false c3, .inr ⟨c2, by omega⟩⟩
    · rw [decide_eq_false c2, Bool.false_and]
      exact .inr ⟨rfl, .inl (by omega)⟩
theorem late_dot {p q : P2} (h1 : nz p) (h2 : nz q) (hl : lateZ p = lateZ q) (hc : crossZ p q = 0) : 0 < dotZ p q := by
  have c1 := late_cases p h1
  have c2 := late_cases q h2
  have n1 := norm_pos h1
  obtain ⟨a, b⟩ := p
  obtain ⟨c, d⟩ := q
  unfold crossZ at hc
  unfold dotZ at n1 ⊢
  dsimp only at *
  have id1 : b * (a * c + b * d) = d * (a * a + b * b) := by grind
  have id2 : a * (a * c + b * d) = c * (a * a + b * b) := by grind
  have fin : ∀ {x y : Int}, 0 < x → x * (a * c + b * d) = y * (a * a + b * b) → 0 < y → 0 < a * c + b * d := fun hx e hy => (mul_pos_iff hx).mp (by rw [e]; exact Int.mul_pos hy n1)
  have fin2 : ∀ {x y : Int}, x < 0 → x * (a * c + b * d) = y * (a * a + b * b) → y < 0 → 0 < a * c + b * d := fun {x y} hx e hy => fin (x := -x) (y := -y) (by omega) (by rw [Int.neg_mul, Int.neg_mul, e]) (by omega)
  rcases c1 with ⟨e1, c1⟩ | ⟨e1, c1⟩ <;> rcases c2 with ⟨e2, c2⟩ | ⟨e2, c2⟩
  · rcases c1 with c1 | ⟨c1, c1'⟩ <;> rcases c2 with c2 | ⟨c2, c2'⟩
    · exact fin2 c1 id1 c2
    · subst c2
      have := Int.mul_pos_of_neg_of_neg c1 c2'
      simp at hc
      omega
    · subst c1
      have := Int.mul_pos_of_neg_of_neg c1' c2
      simp at hc
      omega
    · exact fin2 c1' id2 c2'
  · rw [e1, e2] at hl; cases hl
  · rw [e1, e2] at hl; cases hl
  · rcases c1 with c1 | ⟨c1, c1'⟩ <;> rcases c2 with c2 | ⟨c2, c2'⟩
    · exact fin c1 id1 c2
    · subst c2
      have := Int.mul_pos c1 c2'
      simp at hc
      omega
    · subst c1
      have := Int.mul_pos c1' c2
      simp at hc
      omega
    · exact fin c1' id2 c2'
theorem cross_anti (p q : P2) : crossZ q p = -crossZ p q := by
  unfold crossZ
  grind
theorem same_late {p q : P2} (h1 : nz p) (h2 : nz q) (h : sameZ p q = true) : lateZ p = lateZ q := by
  rw [← late_low h1, ← late_low h2, (same_iff h1 h2).mp h]
theorem same_cross {p q : P2} (h : sameZ p q = true) : crossZ p q = 0 := by
  unfold sameZ at h
  rw [Bool.and_eq_true, decide_eq_true_eq] at h
  unfold crossZ
  omega
theorem tri {p q : P2} (h1 : nz p) (h2 : nz q) : (earlierZ p q = true ∧ earlierZ q p = false ∧ sameZ p q = false) ∨ (earlierZ p q = false ∧ earlierZ q p = true ∧ sameZ p q = false) ∨ (earlierZ p q = false ∧ earlierZ q p = false ∧ sameZ p q = true) := by
  have an := cross_anti p q
  unfold earlierZ
  by_cases hl : lateZ p = lateZ q
  · rw [if_pos hl, if_pos hl.symm, an]
    have ns : crossZ p q ≠ 0 → sameZ p q = false := fun c => by
      cases e : sameZ p q with
      | false => rfl
      | true => exact absurd (same_cross e) c
    rcases Int.lt_trichotomy (crossZ p q) 0 with c | c | c
    · exact .inr (.inl ⟨decide_eq_false (by omega), decide_eq_true (by omega), ns (by omega)⟩)
    · refine .inr (.inr ⟨decide_eq_false (by omega), decide_eq_false (by omega), ?_⟩)
      have d := late_dot h1 h2 hl c
      unfold sameZ
      unfold crossZ at c
      rw [decide_eq_true d, decide_eq_true (show p.1 * q.2 = p.2 * q.1 by omega)]
      rfl
    · exact .inl ⟨decide_eq_true (by omega), decide_eq_false (by omega), ns (by omega)⟩
  · rw [if_neg hl, if_neg (Ne.symm hl)]
    have ns : sameZ p q = false := by
      cases e : sameZ p q with
      | false => rfl
      | true => exact absurd (same_late h1 h2 e) hl
    cases e1 : lateZ p <;> cases e2 : lateZ q <;> simp_all
theorem earlier_trans {a b c : P2} (h1 : nz a) (h2 : nz b) (h3 : nz c) (hab : earlierZ a b = true) (hbc : earlierZ b c = true) : earlierZ a c = true := by
  unfold earlierZ at *
  have c1 := late_cases a h1
  have c2 := late_cases b h2
  have c3 := late_cases c h3
  by_cases l1 : lateZ a = lateZ b
  · rw [if_pos l1, decide_eq_true_eq] at hab
    by_cases l2 : lateZ b = lateZ c
    · rw [if_pos l2, decide_eq_true_eq] at hbc
      rw [if_pos (l1.trans l2), decide_eq_true_eq]
      obtain ⟨a1, a2⟩ := a
      obtain ⟨b1, b2⟩ := b
      obtain ⟨d1, d2⟩ := c
      unfold crossZ at *
      dsimp only at *
      have id : b2 * (a1 * d2 - a2 * d1) = d2 * (a1 * b2 - a2 * b1) + a2 * (b1 * d2 - b2 * d1) := by grind
      generalize hX : a1 * d2 - a2 * d1 = X at *
      generalize hY : a1 * b2 - a2 * b1 = Y at *
      generalize hZ : b1 * d2 - b2 * d1 = Z at *
      rw [l1] at c1
      rw [← l2] at c3
      rcases c2 with ⟨e2, c2⟩ | ⟨e2, c2⟩
      · rw [e2] at c1 c3
        have a0 : a2 ≤ 0 := by grind
        have d0 : d2 < 0 ∨ (d2 = 0 ∧ d1 < 0) := by grind
        rcases c2 with c2 | ⟨c2, c2'⟩
        · have dn : d2 < 0 := by
            rcases d0 with z | ⟨z, z'⟩
            · exact z
            · exfalso
              subst z
              have := Int.mul_pos_of_neg_of_neg c2 z'
              simp at hZ
              omega
          have k1 := Int.mul_pos (show 0 < -d2 by omega) hab
          have k2 := Int.mul_nonneg (show 0 ≤ -a2 by omega) (Int.le_of_lt hbc)
          rw [Int.neg_mul] at k1 k2
          exact (mul_pos_iff (k := -b2) (by omega)).mp (by rw [Int.neg_mul, id]; omega)
        · exfalso
          subst c2
          have := Int.mul_nonneg (show 0 ≤ -a2 by omega) (show 0 ≤ -b1 by omega)
          rw [Int.neg_mul_neg] at this
          simp at hY
          omega
      · rw [e2] at c1 c3
        have a0 : 0 ≤ a2 := by grind
        have d0 : 0 < d2 ∨ (d2 = 0 ∧ 0 < d1) := by grind
        rcases c2 with c2 | ⟨c2, c2'⟩
        · have dn : 0 < d2 := by
            rcases d0 with z | ⟨z, z'⟩
            · exact z
            · exfalso
              subst z
              have := Int.mul_pos c2 z'
              simp at hZ
              omega
          have k1 := Int.mul_pos dn hab
          have k2 := Int.mul_nonneg a0 (Int.le_of_lt hbc)
          exact (mul_pos_iff c2).mp (by rw [id]; omega)
        · exfalso
          subst c2
          have := Int.mul_nonneg a0 (show 0 ≤ b1 by omega)
          simp at hY
          omega
    · rw [if_neg l2] at hbc
      rw [if_neg (by rw [l1]; exact l2)]
      exact hbc
  · rw [if_neg l1] at hab
    by_cases l2 : lateZ b = lateZ c
    · rw [if_neg (by rw [← l2]; exact l1), ← l2]
      exact hab
    · rw [if_neg l2] at hbc
      cases e1 : lateZ a <;> cases e2 : lateZ b <;> cases e3 : lateZ c <;> simp_all
theorem east_same (p q : P2) : eastZ (tbZ p q) = sameZ p q := by
  unfold eastZ sameZ tbZ dotZ
  dsimp only
  congr 1
  exact decide_eq_decide.mpr ⟨fun h => by omega, fun h => by omega⟩
theorem same_comm (p q : P2) : sameZ p q = sameZ q p := by
  unfold sameZ dotZ
  congr 1
  · exact decide_eq_decide.mpr ⟨fun h => by grind, fun h => by grind⟩
  · exact decide_eq_decide.mpr ⟨fun h => by grind, fun h => by grind⟩
/-- the law's word of a sector -/
theorem inside_law {one lo hi : P2} (h1 : nz one) (h2 : nz lo) (h3 : nz hi) :
    insideZ one lo hi = if sameZ lo hi = true then true else if sameZ one hi = true then true else if sameZ one lo = true then false else earlierZ (tbZ one lo) (tbZ hi lo) := by
  have n1 := nz_tb h1 h2
  have n2 := nz_tb h3 h2
  unfold insideZ
  rw [east_same, east_same, same_comm hi lo]
  have st : sameZ (tbZ one lo) (tbZ hi lo) = sameZ one hi := by
    have hl := norm_pos h2
    have e1 : tbZ (tbZ one lo) (tbZ hi lo) = sc (dotZ lo lo) (tbZ one hi) := by
      unfold tbZ sc dotZ
      refine Prod.ext ?_ ?_ <;> dsimp only <;> grind
    rw [← east_same, e1, east_sc hl, east_same]
  cases e0 : sameZ lo hi with
  | true => rfl
  | false =>
    rw [if_neg Bool.false_ne_true, Bool.false_or]
    rcases tri n1 n2 with ⟨t1, t2, t3⟩ | ⟨t1, t2, t3⟩ | ⟨t1, t2, t3⟩
    · rw [t1, t2]
      rw [st] at t3
      rw [t3, if_neg Bool.false_ne_true]
      cases sameZ one lo <;> rfl
    · rw [t1, t2]
      rw [st] at t3
      rw [t3, if_neg Bool.false_ne_true]
      cases sameZ one lo <;> rfl
    · rw [t1, t2]
      rw [st] at t3
      rw [t3, if_pos rfl]
      cases e : sameZ one lo with
      | false => rfl
      | true =>
        exfalso
        have e1 := (same_iff h1 h2).mp e
        have e2 := (same_iff h1 h3).mp t3
        have := (same_iff h2 h3).mpr (e1.symm.trans e2)
        rw [e0] at this
        cases this
/-- two sectors of the same ends share the round -/
theorem share {p e : P2} (hp : nz p) (he : nz e) (hne : eastZ e = false) : (!eastZ p && !earlierZ e p) ≠ (!eastZ (tbZ p e) && !earlierZ (conjC e) (tbZ p e)) := by
  have c1 := late_cases p hp
  have c2 := late_cases e he
  have c3 := late_cases (conjC e) (nz_conj he)
  have c4 := late_cases (tbZ p e) (nz_tb hp he)
  have ne := norm_pos he
  obtain ⟨a, b⟩ := p
  obtain ⟨c, d⟩ := e
  have x1 : crossZ (c, d) (a, b) = b * c - a * d := by
    unfold crossZ
    grind
  have x2 : crossZ (conjC (c, d)) (tbZ (a, b) (c, d)) = b * (c * c + d * d) := by
    unfold crossZ conjC tbZ
    dsimp only
    grind
  have hq : tbZ (a, b) (c, d) = (a * c + b * d, b * c - a * d) := rfl
  have id : b * (c * c + d * d) = d * (a * c + b * d) + c * (b * c - a * d) := by grind
  have id2 : a * (c * c + d * d) = c * (a * c + b * d) - d * (b * c - a * d) := by grind
  unfold earlierZ
  rw [x1, x2]
  rw [hq] at c4 ⊢
  unfold dotZ at ne
  unfold conjC at *
  dsimp only at *
  generalize hR : a * c + b * d = R at *
  generalize hI : b * c - a * d = I at *
  generalize hn : c * c + d * d = n at *
  have sb : (0 < b * n ↔ 0 < b) := by rw [Int.mul_comm]; exact mul_pos_iff ne
  have sb2 : (b * n < 0 ↔ b < 0) := by rw [Int.mul_comm]; exact mul_neg_iff ne
  have sb3 : (b * n = 0 ↔ b = 0) := by rw [Int.mul_comm]; exact mul_zero_iff ne
  have sa : (0 < a * n ↔ 0 < a) := by rw [Int.mul_comm]; exact mul_pos_iff ne
  have sa2 : (a * n < 0 ↔ a < 0) := by rw [Int.mul_comm]; exact mul_neg_iff ne
  have sg : ∀ x y : Int, (0 < x → 0 < y → 0 < x * y) ∧ (x < 0 → y < 0 → 0 < x * y) ∧ (0 < x → y < 0 → x * y < 0) ∧ (x < 0 → 0 < y → x * y < 0) ∧ (x = 0 → x * y = 0) ∧ (y = 0 → x * y = 0) := fun x y => by
    refine ⟨Int.mul_pos, Int.mul_pos_of_neg_of_neg, Int.mul_neg_of_pos_of_neg, Int.mul_neg_of_neg_of_pos, fun h => by rw [h, Int.zero_mul], fun h => by rw [h, Int.mul_zero]⟩
  have g1 := sg d R
  have g2 := sg c I
  have g3 := sg c R
  have g4 := sg d I
  have g5 := sg a d
  have g6 := sg a c
  have g7 := sg b c
  have g8 := sg b d
  generalize hbn : b * n = bn at *
  generalize han : a * n = an at *
  generalize d * R = dR at *
  generalize c * I = cI at *
  generalize c * R = cR at *
  generalize d * I = dI at *
  generalize a * d = ad at *
  generalize a * c = ac at *
  generalize b * c = bc at *
  generalize b * d = bd at *
  clear sg x1 x2 hq
  unfold eastZ at *
  dsimp only at *
  rcases c1 with ⟨e1, c1⟩ | ⟨e1, c1⟩ <;> rcases c2 with ⟨e2, c2⟩ | ⟨e2, c2⟩ <;> rcases c3 with ⟨e3, c3⟩ | ⟨e3, c3⟩ <;> rcases c4 with ⟨e4, c4⟩ | ⟨e4, c4⟩ <;> simp only [e1, e2, e3, e4] <;> grind
theorem ring_share {one two three : P2} (h1 : nz one) (h2 : nz two) (h3 : nz three) (hs : sameZ two three = false) : insideZ one two three ≠ insideZ one three two := by
  have hl := norm_pos h2
  have e1 : tbZ (tbZ one two) (tbZ three two) = sc (dotZ two two) (tbZ one three) := by
    unfold tbZ sc dotZ
    refine Prod.ext ?_ ?_ <;> dsimp only <;> grind
  have e2 : tbZ two three = conjC (tbZ three two) := by
    unfold tbZ conjC
    refine Prod.ext ?_ ?_ <;> dsimp only <;> grind
  have ne : eastZ (tbZ three two) = false := by rw [east_same, same_comm]; exact hs
  have ne2 : eastZ (tbZ two three) = false := by rw [east_same]; exact hs
  have := share (nz_tb h1 h2) (nz_tb h3 h2) ne
  unfold insideZ
  rw [ne, ne2, Bool.false_or, Bool.false_or, e2]
  rw [e1, east_sc hl] at this
  have e3 : earlierZ (conjC (tbZ three two)) (sc (dotZ two two) (tbZ one three)) = earlierZ (conjC (tbZ three two)) (tbZ one three) := by
    have := earlier_sc (k := 1) (by decide) hl (conjC (tbZ three two)) (tbZ one three)
    rw [show sc 1 (conjC (tbZ three two)) = conjC (tbZ three two) from by unfold sc; simp] at this
    exact this
  rw [e3] at this
  exact this
/-! rows of directions -/
def insZ (l : List P2) (p : P2) : List P2 := if l[(l.takeWhile fun q => earlierZ q p).length]? = some (low p) then l else
  l.take (l.takeWhile fun q => earlierZ q p).length ++ [low p] ++ l.drop (l.takeWhile fun q => earlierZ q p).length
def ascZ (ps : List P2) : List P2 := ps.foldl insZ []
structure SortL (l : List P2) : Prop where
  asc : l.Pairwise fun a b => earlierZ a b = true
  each : ∀ q ∈ l, nz q ∧ low q = q
theorem earlier_irr {p : P2} (h : nz p) : earlierZ p p = false := by
  rcases tri h h with ⟨a, b, _⟩ | ⟨a, b, _⟩ | ⟨a, _, _⟩
  · rw [a] at b; cases b
  · rw [a] at b; cases b
  · exact a
theorem later_off {l : List P2} {q p : P2} (hs : (q :: l).Pairwise fun a b => earlierZ a b = true) (hn : ∀ r ∈ q :: l, nz r) (hp : nz p) (h : earlierZ q p = false) : ∀ r ∈ l, earlierZ r p = false := fun r hr => by
  cases e : earlierZ r p with
  | false => rfl
  | true =>
    have := earlier_trans (hn q (.head _)) (hn r (.tail _ hr)) hp ((List.pairwise_cons.mp hs).1 r hr) e
    rw [h] at this
    cases this
theorem count_take : ∀ {l : List P2} {p : P2}, (l.Pairwise fun a b => earlierZ a b = true) → (∀ r ∈ l, nz r) → nz p → (l.countP fun q => earlierZ q p) = (l.takeWhile fun q => earlierZ q p).length
  | [], _, _, _, _ => rfl
  | q :: l, p, hs, hn, hp => by
    cases e : earlierZ q p with
    | true => 
      rw [List.countP_cons_of_pos (by exact e), List.takeWhile_cons_of_pos (by exact e), List.length_cons, count_take (List.pairwise_cons.mp hs).2 (fun r hr => hn r (.tail _ hr)) hp]
    | false =>
      rw [List.countP_cons_of_neg (by rw [e]; exact Bool.false_ne_true), List.takeWhile_cons_of_neg (by rw [e]; exact Bool.false_ne_true), List.length_nil]
      exact List.countP_eq_zero.mpr fun r hr => by rw [later_off hs hn hp e r hr]; exact Bool.false_ne_true
theorem ins_pair {p : P2} (hp : nz p) : ∀ {l : List P2}, (l.Pairwise fun a b => earlierZ a b = true) → (∀ r ∈ l, nz r ∧ low r = r) → ¬ l[(l.takeWhile fun q => earlierZ q p).length]? = some (low p) →
    (l.take (l.takeWhile fun q => earlierZ q p).length ++ [low p] ++ l.drop (l.takeWhile fun q => earlierZ q p).length).Pairwise fun a b => earlierZ a b = true
  | [], _, _, _ => by simp
  | q :: l, hs, hn, hne => by
    obtain ⟨s1, s2⟩ := List.pairwise_cons.mp hs
    cases e : earlierZ q p with
    | true =>
      rw [List.takeWhile_cons_of_pos (by exact e), List.length_cons] at hne ⊢
      rw [List.getElem?_cons_succ] at hne
      have := ins_pair hp s2 (fun r hr => hn r (.tail _ hr)) hne
      rw [List.take_succ_cons, List.drop_succ_cons, List.cons_append, List.cons_append]
      refine List.pairwise_cons.mpr ⟨fun r hr => ?_, this⟩
      rcases List.mem_append.mp hr with hr | hr
      · rcases List.mem_append.mp hr with hr | hr
        · exact s1 r (List.mem_of_mem_take hr)
        · rw [List.mem_singleton.mp hr]
          have := earlier_low (hn q (.head _)).1 hp
          rw [(hn q (.head _)).2] at this
          rw [this]
          exact e
      · exact s1 r (List.mem_of_mem_drop hr)
    | false =>
      rw [List.takeWhile_cons_of_neg (by rw [e]; exact Bool.false_ne_true), List.length_nil] at hne ⊢
      rw [List.take_zero, List.drop_zero, List.nil_append]
      have h0 : low p ≠ q := fun z => hne (by rw [z]; rfl)
      have hq := hn q (.head _)
      have hpq : earlierZ (low p) q = true := by
        rcases tri hq.1 hp with ⟨a, _, _⟩ | ⟨_, a, _⟩ | ⟨_, _, a⟩
        · rw [e] at a; cases a
        · have := earlier_low hp hq.1
          rw [hq.2] at this
          rw [this]
          exact a
        · exact absurd (by rw [← (same_iff hq.1 hp).mp a, hq.2]) h0
      refine List.pairwise_cons.mpr ⟨fun r hr => ?_, hs⟩
      rcases List.mem_cons.mp hr with rfl | hr
      · exact hpq
      · exact earlier_trans (low_nz hp) hq.1 (hn r (.tail _ hr)).1 hpq (s1 r hr)
theorem SortL.ins {l : List P2} (s : SortL l) {p : P2} (hp : nz p) : SortL (insZ l p) := by
  unfold insZ
  split
  · exact s
  · rename_i hne
    refine ⟨ins_pair hp s.asc s.each hne, fun q hq => ?_⟩
    rcases List.mem_append.mp hq with hq | hq
    · rcases List.mem_append.mp hq with hq | hq
      · exact s.each q (List.mem_of_mem_take hq)
      · rw [List.mem_singleton.mp hq]
        exact ⟨low_nz hp, low_low hp⟩
    · exact s.each q (List.mem_of_mem_drop hq)
theorem SortL.nil : SortL [] := ⟨.nil, fun q hq => by cases hq⟩
/-! sizes -/
def ft (k : Nat) (x : Int) : Prop := x.natAbs < 2 ^ k
theorem ft_mono {k l : Nat} {x : Int} (h : ft k x) (e : k ≤ l) : ft l x := Nat.lt_of_lt_of_le h (Nat.pow_le_pow_right (by decide) e)
theorem ft_mul {k l : Nat} {x y : Int} (hx : ft k x) (hy : ft l y) : ft (k + l) (x * y) := by
  unfold ft at *
  rw [Int.natAbs_mul, Nat.pow_add]
  exact Nat.mul_lt_mul'' hx hy
theorem ft_add {k : Nat} {x y : Int} (hx : ft k x) (hy : ft k y) : ft (k + 1) (x + y) := by
  unfold ft at *
  rw [Nat.pow_succ]
  omega
theorem ft_neg {k : Nat} {x : Int} (hx : ft k x) : ft k (-x) := by
  unfold ft at *
  omega
theorem ft_sub {k : Nat} {x y : Int} (hx : ft k x) (hy : ft k y) : ft (k + 1) (x - y) := by
  unfold ft at *
  rw [Nat.pow_succ]
  omega
theorem ft_div {k : Nat} {x g : Int} (hx : ft k x) : ft k (x / g) := Nat.lt_of_le_of_lt (Int.natAbs_ediv_le_natAbs x g) hx
theorem ft_g {k : Nat} {p : P2} (h1 : ft k p.1) (h2 : ft k p.2) (h : nz p) : ft k (gZ p) := by
  unfold ft gZ at *
  rw [Int.natAbs_natCast]
  rcases h with h | h
  · exact Nat.lt_of_le_of_lt (Nat.gcd_le_left _ (by omega)) h1
  · exact Nat.lt_of_le_of_lt (Nat.gcd_le_right _ (by omega)) h2
theorem ft_log {k : Nat} {x : Int} (h : ft k x) : x.natAbs.log2 ≤ k := by
  by_cases c : x.natAbs = 0
  · rw [c]
    exact Nat.zero_le _
  · exact Nat.le_of_lt ((Nat.log2_lt c).mpr h)
def fp (k : Nat) (p : P2) : Prop := ft k p.1 ∧ ft k p.2
theorem fp_mono {k l : Nat} {p : P2} (h : fp k p) (e : k ≤ l) : fp l p := ⟨ft_mono h.1 e, ft_mono h.2 e⟩
theorem fp_low {k : Nat} {p : P2} (h : fp k p) : fp k (low p) := ⟨ft_div h.1, ft_div h.2⟩
theorem fp_mul {k l : Nat} {p q : P2} (hp : fp k p) (hq : fp l q) : fp (k + l + 1) (mulC p q) := ⟨ft_sub (ft_mul hp.1 hq.1) (ft_mul hp.2 hq.2), ft_add (ft_mul hp.1 hq.2) (ft_mul hp.2 hq.1)⟩
theorem fp_tb {k l : Nat} {p q : P2} (hp : fp k p) (hq : fp l q) : fp (k + l + 1) (tbZ p q) := ⟨ft_add (ft_mul hp.1 hq.1) (ft_mul hp.2 hq.2), ft_sub (ft_mul hp.2 hq.1) (ft_mul hp.1 hq.2)⟩
theorem ft_mulW {k l : Nat} {x y : Int} (hx : ft k x) (hy : ft l y) (h : k + l < 1000000) : CMulW x y := by
  have h1 := ft_log hx
  have h2 := ft_log hy
  show x.natAbs.log2 + y.natAbs.log2 < 1000000
  omega
theorem ft_divW {k : Nat} {g x : Int} (h0 : 0 < g) (h : ft k g) (hk : k < 9000) : CDivW x g := by
  have h1 := ft_log h
  exact ⟨h0, by omega⟩
/-- a direction told as data -/
def dirD : PyData → Option P2
  | .tuple [.int a, .int b] => if a ≠ 0 ∨ b ≠ 0 then some (a, b) else none
  | _ => none
theorem dirD_some {d : PyData} {p : P2} (h : dirD d = some p) : d = .tuple [.int p.1, .int p.2] ∧ nz p := by
  unfold dirD at h
  split at h
  · split at h
    · rename_i c
      cases h
      exact ⟨rfl, c⟩
    · cases h
  · cases h
theorem dirD_of {p : P2} (h : nz p) : dirD (.tuple [.int p.1, .int p.2]) = some p := by
  unfold dirD
  exact if_pos h
def PtD (p : P2) : PyData := .tuple [.int p.1, .int p.2]
/-- the pair at t -/
def PtAt (H : Hp) (t : Addr) (p : P2) : Prop := H t = some (.tup [.int p.1, .int p.2])
theorem PtAt.dq {K : Fr1} {H : Hp} {t : Addr} {p : P2} (h : PtAt H t p) : Dq K H (.ref t) (PtD p) := .tup h (.cons (.int _) (.cons (.int _) .nil))
theorem PtAt.mono {H H' : Hp} {t : Addr} {p : P2} (h : PtAt H t p) (e : Evl.Ex H H') : PtAt H' t p := e.get h
theorem dq_pt {K : Fr1} {H : Hp} {v : V} {p : P2} (h : Dq K H v (.tuple [.int p.1, .int p.2])) : ∃ t, v = .ref t ∧ PtAt H t p := by
  cases h with
  | tup h q =>
    cases q with
    | cons a q =>
      cases q with
      | cons b q =>
        cases a
        cases b
        cases q
        exact ⟨_, rfl, h⟩
theorem dirD_no {d : PyData} (h : ∀ i j, d = .tuple [.int i, .int j] → False) : (dirD d).isSome = false := by
  unfold dirD
  split
  · exact (h _ _ rfl).elim
  · rfl
theorem low_conj (p : P2) : low (conjC p) = conjC (low p) := by
  have e : gZ (conjC p) = gZ p := by
    unfold gZ conjC
    rw [Int.natAbs_neg]
  unfold low
  rw [e]
  unfold conjC
  refine Prod.ext rfl ?_
  exact Int.neg_ediv_of_dvd (gZ_dvd2 p)
theorem low_opp (p : P2) : low (sc (-1) p) = (-(low p).1, -(low p).2) := by
  have e : gZ (sc (-1) p) = gZ p := by
    unfold gZ sc
    dsimp only
    rw [Int.neg_one_mul, Int.neg_one_mul, Int.natAbs_neg, Int.natAbs_neg]
  unfold low
  rw [e]
  unfold sc
  refine Prod.ext ?_ ?_
  · dsimp only
    rw [Int.neg_one_mul]
    exact Int.neg_ediv_of_dvd (gZ_dvd1 p)
  · dsimp only
    rw [Int.neg_one_mul]
    exact Int.neg_ediv_of_dvd (gZ_dvd2 p)
/-- a row of pairs -/
def PtsAt (H : Hp) (vs : List V) (ps : List P2) : Prop := Paired (fun v p => ∃ t, v = .ref t ∧ PtAt H t p) vs ps
theorem PtsAt.mono {H H' : Hp} {vs : List V} {ps : List P2} (h : PtsAt H vs ps) (e : Evl.Ex H H') : PtsAt H' vs ps := by
  unfold PtsAt at *
  induction h with
  | nil => exact .nil
  | cons h _ ih =>
    obtain ⟨t, e1, e2⟩ := h
    exact .cons ⟨t, e1, e2.mono e⟩ ih
theorem PtsAt.len {H : Hp} {vs : List V} {ps : List P2} (h : PtsAt H vs ps) : vs.length = ps.length := Paired.length h
theorem PtsAt.get {H : Hp} {vs : List V} {ps : List P2} (h : PtsAt H vs ps) {i : Nat} {v : V} (e : vs[i]? = some v) : ∃ p t, ps[i]? = some p ∧ v = .ref t ∧ PtAt H t p := by
  unfold PtsAt at h
  induction h generalizing i with
  | nil => cases e
  | cons h _ ih =>
    cases i with
    | zero =>
      cases e
      obtain ⟨t, e1, e2⟩ := h
      exact ⟨_, t, rfl, e1, e2⟩
    | succ i => exact ih e
theorem PtsAt.get' {H : Hp} {vs : List V} {ps : List P2} (h : PtsAt H vs ps) {i : Nat} {p : P2} (e : ps[i]? = some p) : ∃ t, vs[i]? = some (.ref t) ∧ PtAt H t p := by
  have l := h.len
  have hi := (List.getElem?_eq_some_iff.mp e).1
  obtain ⟨q, t, e1, e2, e3⟩ := h.get (List.getElem?_eq_getElem (show i < vs.length by omega))
  rw [e] at e1
  cases e1
  exact ⟨t, by rw [List.getElem?_eq_getElem (show i < vs.length by omega), e2], e3⟩
theorem PtsAt.dq {K : Fr1} {H : Hp} {vs : List V} {ps : List P2} (h : PtsAt H vs ps) : DqAll K H vs (ps.map PtD) := by
  unfold PtsAt at h
  induction h with
  | nil => exact .nil
  | cons h _ ih =>
    obtain ⟨t, e1, e2⟩ := h
    rw [e1]
    exact .cons e2.dq ih
theorem eqv_pt (p q : P2) : PyData.eqv (PtD p) (PtD q) = decide (p = q) := by
  obtain ⟨a1, a2⟩ := p
  obtain ⟨b1, b2⟩ := q
  unfold PtD
  simp only [PyData.eqv, PyData.eqvAll]
  by_cases h1 : a1 = b1 <;> by_cases h2 : a2 = b2 <;> simp [h1, h2]
theorem shaped_pt (p : P2) : SeqAt.shaped (PtD p) = true := by
  unfold SeqAt.shaped
  rw [show PyData.canLay0 (PtD p) = true from rfl, show PyData.depth (PtD p) = 1 from rfl]
  rfl
theorem w_eqP {K : Fr1} {H : Hp} {Q : VK} {x y : V} {p q : P2} (hx : Dq K H x (PtD p)) (hy : Dq K H y (PtD q)) (k : Q (.bl (decide (p = q))) H) : rEqD K x y H Q := by
  refine ⟨_, _, hx.dp rfl, hy.dp rfl, shaped_pt p, shaped_pt q, ?_⟩
  rw [eqv_pt]
  exact k
theorem w_neP {K : Fr1} {H : Hp} {Q : VK} {x y : V} {p q : P2} (hx : Dq K H x (PtD p)) (hy : Dq K H y (PtD q)) (k : Q (.bl (!decide (p = q))) H) : rNeD K x y H Q := by
  refine ⟨_, _, hx.dp rfl, hy.dp rfl, shaped_pt p, shaped_pt q, ?_⟩
  rw [eqv_pt]
  exact k
/-- a thing that is no direction, alike itself -/
def OddP (K : Fr1) (H : Hp) (v : V) : Prop := SameV K H v ∧ ∃ d, Dq K H v d ∧ dirD d = none
theorem SameV.mono' {K : Fr1} {H H' : Hp} {v : V} (e : Evl.Ex H H') : SameV K H v → SameV K H' v
  | .inl h => .inl h
  | .inr (.inl ⟨a, xs, h1, h2⟩) => .inr (.inl ⟨a, xs, h1, h2.imp (fun h => e _ _ h) (fun h => e _ _ h)⟩)
  | .inr (.inr ⟨a, kvs, h1, h2, h3⟩) => .inr (.inr ⟨a, kvs, h1, e _ _ h2, h3⟩)
theorem OddP.mono {K : Fr1} {H H' : Hp} {v : V} (e : Evl.Ex H H') : OddP K H v → OddP K H' v
  | ⟨h1, d, h2, h3⟩ => ⟨h1.mono' e, d, h2.mono e, h3⟩
theorem odp_f {K : Fr1} {H : Hp} {v : V} {d : PyData} (hf : flatV v = true) (hd : Dq K H v d) (e : dirD d = none) : OddP K H v := ⟨.inl hf, d, hd, e⟩
theorem odp_l {K : Fr1} {H : Hp} {a : Addr} {xs : List V} {ds : List PyData} (h : H a = some (.lst xs)) (hd : DqAll K H xs ds) : OddP K H (.ref a) := ⟨.inr (.inl ⟨a, xs, rfl, .inl h⟩), _, .lst h hd, rfl⟩
theorem odp_t {K : Fr1} {H : Hp} {a : Addr} {xs : List V} {ds : List PyData} (h : H a = some (.tup xs)) (hd : DqAll K H xs ds) (e : dirD (.tuple ds) = none) : OddP K H (.ref a) := ⟨.inr (.inl ⟨a, xs, rfl, .inr h⟩), _, .tup h hd, e⟩
theorem odp_d {K : Fr1} {H : Hp} {a : Addr} {kvs : List (Key × V)} (h : H a = some (.dK kvs)) (hl : kvs.length ≤ 1) : OddP K H (.ref a) := ⟨.inr (.inr ⟨a, kvs, rfl, h, hl⟩), _, .dct (ds := []) h, rfl⟩
theorem PtsAt.stay {H : Hp} {D : Addr} {zs : List V} {o' : HO} (hD : H D = some (.lst zs)) {vs : List V} {ps : List P2} (h : PtsAt H vs ps) : PtsAt (upd H D o') vs ps := by
  unfold PtsAt at *
  induction h with
  | nil => exact .nil
  | cons h _ ih =>
    obtain ⟨t, e1, e2⟩ := h
    refine .cons ⟨t, e1, ?_⟩ ih
    show upd H D o' t = _
    rw [upd_ne (fun z => by subst z; unfold PtAt at e2; rw [hD] at e2; cases e2)]
    exact e2
theorem PtsAt.app {H : Hp} {vs vs' : List V} {ps ps' : List P2} (h : PtsAt H vs ps) (h' : PtsAt H vs' ps') : PtsAt H (vs ++ vs') (ps ++ ps') := by
  unfold PtsAt at *
  induction h with
  | nil => exact h'
  | cons h _ ih => exact .cons h ih
theorem PtsAt.take {H : Hp} {vs : List V} {ps : List P2} (h : PtsAt H vs ps) (n : Nat) : PtsAt H (vs.take n) (ps.take n) := by
  unfold PtsAt at *
  induction h generalizing n with
  | nil => rw [List.take_nil, List.take_nil]; exact .nil
  | cons h _ ih => cases n with
    | zero => exact .nil
    | succ n => exact .cons h (ih n)
theorem PtsAt.drop {H : Hp} {vs : List V} {ps : List P2} (h : PtsAt H vs ps) (n : Nat) : PtsAt H (vs.drop n) (ps.drop n) := by
  unfold PtsAt at *
  induction h generalizing n with
  | nil => rw [List.drop_nil, List.drop_nil]; exact .nil
  | cons h t ih => cases n with
    | zero => exact .cons h t
    | succ n => exact ih n
theorem tw_lt {f : P2 → Bool} : ∀ {l : List P2} {j : Nat}, j < (l.takeWhile f).length → ∃ q, l[j]? = some q ∧ f q = true
  | [], _, h => by simp at h
  | a :: l, j, h => by
    cases e : f a with
    | false =>
      rw [List.takeWhile_cons_of_neg (by rw [e]; exact Bool.false_ne_true)] at h
      simp at h
    | true =>
      rw [List.takeWhile_cons_of_pos e, List.length_cons] at h
      cases j with
      | zero => exact ⟨a, rfl, e⟩
      | succ j => exact tw_lt (l := l) (j := j) (by omega)
theorem tw_end {f : P2 → Bool} : ∀ {l : List P2} {q : P2}, l[(l.takeWhile f).length]? = some q → f q = false
  | [], _, h => by simp at h
  | a :: l, q, h => by
    cases e : f a with
    | false =>
      rw [List.takeWhile_cons_of_neg (by rw [e]; exact Bool.false_ne_true)] at h
      cases h
      exact e
    | true =>
      rw [List.takeWhile_cons_of_pos e, List.length_cons, List.getElem?_cons_succ] at h
      exact tw_end h
theorem tw_le (f : P2 → Bool) (l : List P2) : (l.takeWhile f).length ≤ l.length := (List.takeWhile_sublist _).length_le
theorem ins_mem {l : List P2} {p q : P2} (h : q ∈ insZ l p) : q ∈ l ∨ q = low p := by
  unfold insZ at h
  split at h
  · exact .inl h
  · rcases List.mem_append.mp h with h | h
    · rcases List.mem_append.mp h with h | h
      · exact .inl (List.mem_of_mem_take h)
      · exact .inr (List.mem_singleton.mp h)
    · exact .inl (List.mem_of_mem_drop h)
theorem ins_len (l : List P2) (p : P2) : (insZ l p).length ≤ l.length + 1 := by
  unfold insZ
  split
  · omega
  · rw [List.length_append, List.length_append, List.length_take, List.length_drop, List.length_singleton]
    omega
theorem asc_snoc (ps : List P2) (p : P2) : ascZ (ps ++ [p]) = insZ (ascZ ps) p := by
  unfold ascZ
  rw [List.foldl_append]
  rfl
theorem ptd_inj {p q : P2} (h : PtD p = PtD q) : p = q := by
  unfold PtD at h
  simp only [PyData.tuple.injEq, List.cons.injEq, PyData.int.injEq, and_true] at h
  exact Prod.ext h.1 h.2
theorem ptds_inj : ∀ {ps qs : List P2}, ps.map PtD = qs.map PtD → ps = qs
  | [], [], _ => rfl
  | [], _ :: _, h => by cases h
  | _ :: _, [], h => by cases h
  | p :: ps, q :: qs, h => by
    rw [List.map_cons, List.map_cons] at h
    obtain ⟨h1, h2⟩ := List.cons.inj h
    rw [ptd_inj h1, ptds_inj h2]
theorem bools_of {acc : List V} {bs : List Bool} (h : Paired (fun v (b : Bool) => v = .bl b) acc bs) : acc = bs.map V.bl := by
  induction h with
  | nil => rfl
  | cons h _ ih => rw [h, ih, List.map_cons]
/-! what a call answers -/
inductive Ans where
  | bad (i : Nat)
  | pt (p : P2)
  | tr (b : Bool)
def lawIn (one lo hi : P2) : Bool := if sameZ one lo = true ∨ sameZ one hi = true then false else if sameZ lo hi = true then true else earlierZ (tbZ one lo) (tbZ hi lo)
/-- the answer, by the number of the call and by what the last one tells -/
def ansF (f : P2 → P2 → P2 → Bool) (wh : Nat) (d1 d2 d3 : PyData) : Ans := match dirD d1 with
  | none => .bad 0
  | some p => if wh = 0 then .pt (low p) else if wh = 2 then .pt (low (conjC p)) else if wh = 3 then .pt (low (sc (-1) p)) else match dirD d2 with
    | none => .bad 1
    | some q => if wh = 1 then .pt (low (mulC p q)) else if wh = 4 then .tr (earlierZ p q) else match dirD d3 with
      | none => .bad 2
      | some r => .tr (f p q r)
def AnsAt (H : Hp) (r : Addr) (v1 v2 v3 : V) : Ans → Prop
  | .bad 0 => H r = some (.tup [.str "turn", v1])
  | .bad 1 => H r = some (.tup [.str "turn", v2])
  | .bad _ => H r = some (.tup [.str "turn", v3])
  | .pt p => ∃ t, H r = some (.tup [.str "told", .ref t]) ∧ PtAt H t p
  | .tr b => H r = some (.tup [.str "told", .bl b])
theorem AnsAt.mono {H H' : Hp} {r : Addr} {v1 v2 v3 : V} (e : Evl.Ex H H') : ∀ {x : Ans}, AnsAt H r v1 v2 v3 x → AnsAt H' r v1 v2 v3 x
  | .bad 0, h => e.get h
  | .bad 1, h => e.get h
  | .bad (_ + 2), h => e.get h
  | .pt _, ⟨t, h, q⟩ => ⟨t, e.get h, q.mono e⟩
  | .tr _, h => e.get h
theorem in_law {p q r : P2} (h1 : nz p) (h2 : nz q) (h3 : nz r) : insideZ p q r = if sameZ q r = true then true else (sameZ p r || lawIn p q r) := by
  rw [inside_law h1 h2 h3]
  unfold lawIn
  cases c1 : sameZ q r <;> cases c2 : sameZ p r <;> cases c3 : sameZ p q <;> simp
theorem nz_opp {p : P2} (h : nz p) : nz (sc (-1) p) := by
  unfold nz sc at *
  dsimp only
  rw [Int.neg_one_mul, Int.neg_one_mul]
  omega
theorem fp_opp {k : Nat} {p : P2} (h : fp k p) : fp k (sc (-1) p) := by
  refine ⟨?_, ?_⟩
  · show ft k (-1 * p.1)
    rw [Int.neg_one_mul]
    exact ft_neg h.1
  · show ft k (-1 * p.2)
    rw [Int.neg_one_mul]
    exact ft_neg h.2
def dueF (p q r : P2) : Bool := sameZ p r || lawIn p q r
def withF (p q r : P2) : Bool := if sameZ q r = true then true else dueF p q r
theorem low_mulL {p q : P2} (h1 : nz p) (h2 : nz q) : low (mulC (low p) q) = low (mulC p q) := by
  rw [← low_mul (low_nz h1) h2, low_low h1, low_mul h1 h2]
theorem low_mulR {p q : P2} (h1 : nz p) (h2 : nz q) : low (mulC p (low q)) = low (mulC p q) := by
  rw [← low_mul h1 (low_nz h2), low_low h2, low_mul h1 h2]
theorem mul_assoc3 (p q r : P2) : mulC (mulC p q) r = mulC p (mulC q r) := by
  unfold mulC
  refine Prod.ext ?_ ?_ <;> dsimp only <;> grind
theorem low_assoc {p q r : P2} (h1 : nz p) (h2 : nz q) (h3 : nz r) : low (mulC (low (mulC p q)) r) = low (mulC p (low (mulC q r))) := by
  rw [low_mulL (nz_mul h1 h2) h3, low_mulR h1 (nz_mul h2 h3), mul_assoc3]
theorem low_one {p : P2} (h : nz p) : low (mulC p (low (conjC p))) = (1, 0) := by
  rw [low_mulR h (nz_conj h)]
  have e : mulC p (conjC p) = sc (dotZ p p) (1, 0) := by
    unfold mulC conjC sc dotZ
    refine Prod.ext ?_ ?_ <;> dsimp only <;> grind
  rw [e, low_of_sc (norm_pos h)]
  rfl
theorem low_opp2 {p : P2} (h : nz p) : low (sc (-1) (low (sc (-1) p))) = low p := by
  rw [low_opp p, show sc (-1) (-(low p).1, -(low p).2) = low p from by unfold sc; dsimp only; rw [Int.neg_one_mul, Int.neg_one_mul, Int.neg_neg, Int.neg_neg]]
  exact low_low h
theorem one_of {p q : P2} (h1 : nz p) (h2 : nz q) : (([earlierZ p q, earlierZ q p, decide (low p = low q)]).filter id).length = 1 := by
  have hs : decide (low p = low q) = sameZ p q := by
    rw [Bool.eq_iff_iff, decide_eq_true_eq]
    exact (same_iff h1 h2).symm
  rw [hs]
  rcases tri h1 h2 with ⟨a, b, c⟩ | ⟨a, b, c⟩ | ⟨a, b, c⟩ <;> rw [a, b, c] <;> rfl
theorem asc_len (ps : List P2) : (ascZ ps).length ≤ ps.length := by
  have key : ∀ (ps l : List P2), (ps.foldl insZ l).length ≤ l.length + ps.length := by
    intro ps
    induction ps with
    | nil => exact fun l => Nat.le_refl _
    | cons p ps ih =>
      intro l
      have h1 := ih (insZ l p)
      have h2 := ins_len l p
      rw [List.foldl_cons, List.length_cons]
      omega
  have := key ps []
  rw [List.length_nil, Nat.zero_add] at this
  exact this
/-- the objects of H' that are new since H -/
def newOf (H H' : Hp) : Hp := fun b => if H b = none then H' b else none
theorem newOf_at {H H' : Hp} {p : Addr} {o : HO} (h0 : H p = none) (h : H' p = some o) : newOf H H' p = some o := by
  unfold newOf
  rw [if_pos h0, h]
theorem newOf_sub {H H' : Hp} : Evl.Ex (newOf H H') H' := fun b o h => by
  unfold newOf at h
  split at h
  · exact h
  · cases h
theorem newOf_old {H H' : Hp} {b : Addr} {o : HO} (h : newOf H H' b = some o) : H b = none := by
  unfold newOf at h
  split at h
  · assumption
  · cases h
theorem newOf_ex {H H1 H2 : Hp} (e : Evl.Ex H1 H2) : Evl.Ex (newOf H H1) (newOf H H2) := fun b o h => newOf_at (newOf_old h) (e b o (newOf_sub b o h))
def GoodV (K : Fr1) (H : Hp) (v : V) (d : PyData) : Prop := Dq K H v d ∧ (∀ p, dirD d = some p → fp 400 p) ∧ (dirD d = none → SameV K H v)
theorem GoodV.mono {K : Fr1} {H H' : Hp} {v : V} {d : PyData} (e : Evl.Ex H H') (h : GoodV K H v d) : GoodV K H' v d := ⟨h.1.mono e, h.2.1, fun z => (h.2.2 z).mono' e⟩
theorem OddP.good {K : Fr1} {H : Hp} {v : V} : OddP K H v → ∃ d, GoodV K H v d ∧ dirD d = none
  | ⟨h1, d, h2, h3⟩ => ⟨d, ⟨h2, fun p e => by (rw [h3] at e; cases e), fun _ => h1⟩, h3⟩
theorem PtAt.good {K : Fr1} {H : Hp} {t : Addr} {p : P2} (h : PtAt H t p) (np : nz p) (hf : fp 400 p) : GoodV K H (.ref t) (PtD p) := ⟨h.dq, fun q e => by (rw [show dirD (PtD p) = some p from dirD_of np] at e; cases e; exact hf), fun e => by (rw [show dirD (PtD p) = some p from dirD_of np] at e; cases e)⟩
/-- a row of such things -/
inductive GoodL (K : Fr1) (H : Hp) : List V → List PyData → Prop
  | nil : GoodL K H [] []
  | cons {v : V} {d : PyData} {vs : List V} {ds : List PyData} (h : GoodV K H v d) (t : GoodL K H vs ds) : GoodL K H (v :: vs) (d :: ds)
theorem GoodL.mono {K : Fr1} {H H' : Hp} {vs : List V} {ds : List PyData} (e : Evl.Ex H H') (h : GoodL K H vs ds) : GoodL K H' vs ds := by
  induction h with
  | nil => exact .nil
  | cons h _ ih => exact .cons (h.mono e) ih
theorem GoodL.len {K : Fr1} {H : Hp} {vs : List V} {ds : List PyData} (h : GoodL K H vs ds) : vs.length = ds.length := by
  induction h with
  | nil => rfl
  | cons _ _ ih => rw [List.length_cons, List.length_cons, ih]
theorem GoodL.dq {K : Fr1} {H : Hp} {vs : List V} {ds : List PyData} (h : GoodL K H vs ds) : DqAll K H vs ds := by
  induction h with
  | nil => exact .nil
  | cons h _ ih => exact .cons h.1 ih
theorem GoodL.app {K : Fr1} {H : Hp} {vs vs' : List V} {ds ds' : List PyData} (h : GoodL K H vs ds) (h' : GoodL K H vs' ds') : GoodL K H (vs ++ vs') (ds ++ ds') := by
  induction h with
  | nil => exact h'
  | cons h _ ih => exact .cons h ih
theorem GoodL.take {K : Fr1} {H : Hp} {vs : List V} {ds : List PyData} (h : GoodL K H vs ds) (n : Nat) : GoodL K H (vs.take n) (ds.take n) := by
  induction h generalizing n with
  | nil => rw [List.take_nil, List.take_nil]; exact .nil
  | cons h _ ih => cases n with
    | zero => exact .nil
    | succ n => exact .cons h (ih n)
theorem GoodL.drop {K : Fr1} {H : Hp} {vs : List V} {ds : List PyData} (h : GoodL K H vs ds) (n : Nat) : GoodL K H (vs.drop n) (ds.drop n) := by
  induction h generalizing n with
  | nil => rw [List.drop_nil, List.drop_nil]; exact .nil
  | cons h t ih => cases n with
    | zero => exact .cons h t
    | succ n => exact ih n
theorem GoodL.get {K : Fr1} {H : Hp} {vs : List V} {ds : List PyData} (h : GoodL K H vs ds) {i : Nat} {v : V} {d : PyData} (e1 : vs[i]? = some v) (e2 : ds[i]? = some d) : GoodV K H v d := by
  induction h generalizing i with
  | nil => cases e1
  | cons h _ ih => cases i with
    | zero => cases e1; cases e2; exact h
    | succ i => exact ih e1 e2
theorem PtsAt.good {K : Fr1} {H : Hp} {vs : List V} {ps : List P2} (h : PtsAt H vs ps) (hz : ∀ p ∈ ps, nz p ∧ fp 200 p) : GoodL K H vs (ps.map PtD) := by
  unfold PtsAt at h
  induction h with
  | nil => exact .nil
  | cons h _ ih =>
    obtain ⟨t, e1, e2⟩ := h
    rw [e1]
    exact .cons (e2.good (hz _ (.head _)).1 (fp_mono (hz _ (.head _)).2 (by decide))) (ih fun q hq => hz q (.tail _ hq))
theorem ex_newdel {H H' : Hp} {h : Addr} {o : HO} (hh : H h = some o) : Evl.Ex (newOf H H') (del H' h) := fun b u e => by
  rw [del_ne (fun z => by have := newOf_old e; rw [z, hh] at this; cases this)]
  exact newOf_sub b u e
theorem ex_olddel {H H' : Hp} {h : Addr} (h0 : H h = none) (e : Evl.Ex H H') : Evl.Ex H (del H' h) := fun b u hb => by
  rw [del_ne (fun z => by rw [z, h0] at hb; cases hb)]
  exact e b u hb
/-- the first of those that are filtered -/
theorem first_of {f : Nat → Option V} {n : Nat} {x : V} (h : ((List.range n).filterMap f)[0]? = some x) : ∃ i, i < n ∧ f i = some x ∧ ∀ j, j < i → f j = none := by
  rw [← List.head?_eq_getElem?, List.head?_filterMap, List.findSome?_eq_some_iff] at h
  obtain ⟨l1, i, l2, h1, h2, h3⟩ := h
  have hi : i = l1.length := by
    have : (List.range n)[l1.length]? = some i := by rw [h1, List.getElem?_append_right (Nat.le_refl _), Nat.sub_self]; rfl
    have hl := (List.getElem?_eq_some_iff.mp this).1
    rw [List.getElem?_eq_getElem hl, List.getElem_range] at this
    exact (Option.some.inj this).symm
  have hn : l1.length < n := by
    have := congrArg List.length h1
    rw [List.length_range, List.length_append, List.length_cons] at this
    omega
  refine ⟨i, by omega, h2, fun j hj => h3 j ?_⟩
  have : (List.range n)[j]? = l1[j]? := by rw [h1, List.getElem?_append_left (by omega)]
  rw [List.getElem?_eq_getElem (by rw [List.length_range]; omega), List.getElem_range] at this
  exact List.mem_of_getElem? this.symm

/-! ### any thing == a text -/
section
open PySem.AutoSeq1 (wpAny_loadPart')
theorem sub_str_dict : isSubtype (.type "str") (.type "dict") = pure false := by rw [isSubtype_type]; kernel_rfl
theorem sub_dict_str : isSubtype (.type "dict") (.type "str") = pure false := by rw [isSubtype_type]; kernel_rfl
/-- a text and a dict: the text's own == says nothing -/
theorem str_eq_dict (b : Str) (u : Tok) (a : Addr) (o : Obj) (hc : o.cls = .type "dict") (es : Array DictEntry) (ep : Nat) (hd : o.data = .dict es ep) : Meets (Builtin.«str.__eq__» ⟨[.str b u, .ref a], []⟩) (fun _ R s => s.heap.get? a = some o ∧ R (.ok (.ret .notImplemented)) s) :=
  .of_wp fun prog w A R s ⟨ho, want⟩ => by
    obtain ⟨hp, g, d, tk, os⟩ := s
    obtain ⟨c, dc, dt, sl⟩ := o
    obtain rfl : c = .type "dict" := hc
    obtain rfl : dt = .dict es ep := hd
    have no := sub_dict_str
    wp_walk using wpAny_loadPart' ho
    exact ⟨_, rfl, want⟩
variable {prog : Program} {w : World} {A : Around} {E : Value → Shared → Prop} {s : Shared} {T : Type} [DecidableEq T] {knd : KeyKind prog w T}
theorem dict_is_no_str {a : Addr} {kvs : List (T × Value)} {b : Str} {u : Tok} {Q : Value → Shared → Prop} (da : s.heap.DictOf knd a kvs) (hu : A.units < cLine) (q : Q (.bool false) s) : wpAny (model prog w) A (richCompare .Eq (.ref a) (.str b u)) Q E s := by
  obtain ⟨o, es, ep, ho, hc, hd, -⟩ := id da
  refine SeqAt.rc_eq_decline_or (k := false) da.typeIs (typeIs_str s b u) (by decide) sub_str_dict PySem.F.slot_dict_eq PySem.F.slot_str_eq_refl (fun Q' q' => wpAny_call_entry PySem.F.slot_dict_eq da.typeIs PySem.F.entry_dict_eq ?_ (PySem.F.args_dict_eq_2 _ _))
    (fun Q' q' => call_meets PySem.F.slot_str_eq_refl (typeIs_str s b u) PySem.F.entry_str_eq (PySem.F.args_str_eq_2 _ _) (str_eq_dict b u a o hc.1 es ep hd) ⟨ho, q'⟩) (fun _ q' => wpAny_of_eq (rfl : isSame (.ref a) (.str b u) = pure false) q') (.inr hu) q
  show wpAny _ _ (Builtin.Dict.dictSlotArgs "__eq__" ⟨[.ref a, .str b u], []⟩ >>= _) _ _ s
  unfold Builtin.Dict.dictSlotArgs
  refine wpAny_bind (wpAny_bind (wpAny_notOrdered_dict da.typeIs (wpAny_bind (wpAny_pure (wpAny_pure (wpAny_bind (wpAny_isInstance (T := "str") (typeIs_str s b u) sub_str_dict ?_)))))))
  exact wpAny_bind (wpAny_rule (wpAny_pure ⟨_, rfl, q'⟩))
/-- d is the text b -/
def isTxt (d : PyData) (b : Str) : Bool := match d with
  | .str z => decide (z = b)
  | _ => false
/-- anything == a text -/
def rEqW (K : Fr1) : R2 := fun x y H Q => ∃ d b, y = .str b ∧ Dq K H x d ∧ Q (.bl (isTxt d b)) H
theorem op_eqW {X : Cx} (hu : X.A.units + 64 < cLine) : OpR X (compareOp .Eq) (rEqW X.K) := by
  rintro pins s σ H x _ v u Q I rx ry ⟨d, b, rfl, hd, q⟩
  obtain ⟨tk, rfl⟩ : ∃ t, u = .str b t := ry
  have flat : ∀ k : Bool, (scal x (.str b) = true ∧ decide (x = .str b) = k) → Q (.bl k) H → wpAny (model X.prog X.w) X.A (compareOp .Eq v (.str b tk)) (EP X pins σ Q) X.xe s := fun k ⟨h1, h2⟩ q => op_eq pins s σ H x (.str b) v (.str b tk) Q I rx ⟨tk, rfl⟩ ⟨h1, by rw [h2]; exact q⟩
  have end_ : Q (.bl false) H → EP X pins σ Q (.bool false) s := fun q => ⟨.bl false, H, I, rfl, q⟩
  cases hd with
  | non => exact flat false ⟨rfl, by simp⟩ q
  | bl c => exact flat false ⟨rfl, by simp⟩ q
  | int i => exact flat false ⟨rfl, by simp⟩ q
  | str z => exact flat (decide (z = b)) ⟨rfl, by simp⟩ q
  | @lst a xs ds hl _ =>
    obtain rfl : v = .ref a := rx
    obtain ⟨its, r, pl, _⟩ := I.list (SqL.of hl)
    exact SeqAt.RcAt.list_str b tk pl.isList (by omega) _ _ _ _ (end_ q)
  | @tup a xs ds hl _ =>
    obtain rfl : v = .ref a := rx
    obtain ⟨its, r, pl, _⟩ := I.tuple (SqT.of hl)
    exact SeqAt.RcAt.tuple_str b tk pl (by omega) _ _ _ _ (end_ q)
  | @dct a kvs ds hl =>
    obtain rfl : v = .ref a := rx
    obtain ⟨_, ya, va, ra, da⟩ := dk_of I.hok hl
    exact dict_is_no_str da (by omega) (end_ q)
end

/-! ### a dict == a tuple: never -/
section
open PySem.AutoSeq1 (wpAny_loadPart')
theorem sub_tuple_dict : isSubtype (.type "tuple") (.type "dict") = pure false := by rw [isSubtype_type]; kernel_rfl
theorem sub_dict_tuple : isSubtype (.type "dict") (.type "tuple") = pure false := by rw [isSubtype_type]; kernel_rfl
/-- a tuple's own == says nothing about a dict -/
theorem tup_says_nothing (t : Addr) (its : Array Value) (n : Nat) (dd : Option Addr) (sl : Array (Option Value)) (a : Addr) (o : Obj) (hc : o.cls = .type "dict") (es : Array DictEntry) (ep : Nat) (hd : o.data = .dict es ep) :
    Meets (Builtin.«tuple.__eq__» ⟨[.ref t, .ref a], []⟩) (fun _ R s => (s.heap.get? t = some { cls := .type "tuple", dict := dd, data := .seq its n, slots := sl } ∧ s.heap.get? a = some o) ∧ R (.ok (.ret .notImplemented)) s) :=
  .of_wp fun prog w A R s ⟨⟨ht, ho⟩, want⟩ => by
    obtain ⟨hp, g, d, tk, os⟩ := s
    obtain ⟨c, dc, dt, sl⟩ := o
    obtain rfl : c = .type "dict" := hc
    obtain rfl : dt = .dict es ep := hd
    have no := sub_dict_tuple
    wp_walk using wpAny_loadPart' ht, wpAny_loadPart' ho
    exact ⟨_, rfl, want⟩
variable {prog : Program} {w : World} {A : Around} {E : Value → Shared → Prop} {s : Shared} {T : Type} [DecidableEq T] {knd : KeyKind prog w T}
theorem dict_is_no_tuple {a t : Addr} {kvs : List (T × Value)} {its : Array Value} {Q : Value → Shared → Prop} (da : s.heap.DictOf knd a kvs) (ht : s.heap.IsTuple t its) (hu : A.units < cLine) (q : Q (.bool false) s) : wpAny (model prog w) A (richCompare .Eq (.ref a) (.ref t)) Q E s := by
  obtain ⟨o, es, ep, ho, hc, hd, -⟩ := id da
  obtain ⟨⟨c2, dd2, data2, sl2⟩, ho2, hc2, n, hd2⟩ := id ht
  obtain rfl : c2 = .type "tuple" := hc2
  obtain rfl : data2 = .seq its n := hd2
  have far : a ≠ t := fun z => by
    subst z
    rw [ho] at ho2
    cases ho2
    cases hd
  refine SeqAt.rc_eq_decline_or (k := false) da.typeIs ⟨_, ho2, rfl⟩ (by decide) sub_tuple_dict PySem.F.slot_dict_eq PySem.F.slot_tuple_eq_refl (fun Q' q' => wpAny_call_entry PySem.F.slot_dict_eq da.typeIs PySem.F.entry_dict_eq ?_ (PySem.F.args_dict_eq_2 _ _))
    (fun Q' q' => call_meets PySem.F.slot_tuple_eq_refl ⟨_, ho2, rfl⟩ PySem.F.entry_tuple_eq (PySem.F.args_tuple_eq_2 _ _) (tup_says_nothing t its n dd2 sl2 a o hc.1 es ep hd) ⟨⟨ho2, ho⟩, q'⟩)
    (fun _ q' => wpAny_isSame_ref_other far ho ho2 (by rw [hc.1]; simp) q') (.inr hu) q
  show wpAny _ _ (Builtin.Dict.dictSlotArgs "__eq__" ⟨[.ref a, .ref t], []⟩ >>= _) _ _ s
  unfold Builtin.Dict.dictSlotArgs
  refine wpAny_bind (wpAny_bind (wpAny_notOrdered_dict da.typeIs (wpAny_bind (wpAny_pure (wpAny_pure (wpAny_bind (wpAny_isInstance (T := "tuple") ⟨_, ho2, rfl⟩ sub_tuple_dict ?_)))))))
  exact wpAny_bind (wpAny_rule (wpAny_pure ⟨_, rfl, q'⟩))
def rEqDTu : R2 := fun x y H Q => ∃ a t kvs xs, x = .ref a ∧ y = .ref t ∧ H a = some (.dK kvs) ∧ H t = some (.tup xs) ∧ Q (.bl false) H
theorem op_eqDTu {X : Cx} (hu : X.A.units + 64 < cLine) : OpR X (compareOp .Eq) rEqDTu := by
  rintro pins s σ H _ _ v u Q I rx ry ⟨a, t, kvs, xs, rfl, rfl, ha, ht, q⟩
  obtain rfl : v = .ref a := rx
  obtain rfl : u = .ref t := ry
  obtain ⟨_, ya, va, ra, da⟩ := dk_of I.hok ha
  obtain ⟨its, r, pl, _⟩ := I.tuple (SqT.of ht)
  exact dict_is_no_tuple da pl (by omega) ⟨.bl false, H, I, rfl, q⟩
end

section
variable {P : Program} {w : World} {K : Fr1} {mg : Str → Option Value} {base : Heap}
def sp_law_stateC (K : Fr1) : Sp := fun vs H Q _ => ∃ (a : Addr) (ns : List Int), vs = [.ref a] ∧ SqL K H a (ns.map V.int) ∧
  ∀ L s, H L = none → (upd H L (.lst (ns.map V.int))) s = none → Q (.ref s) (upd (upd H L (.lst (ns.map V.int))) s (.lst (drL L 0 0 0 0 0)))
theorem ok_law_stateC (T : Txt K mg) : FnOk P w K mg base (L2.CX P w) 1 (a_law_state K) (d_law_state K) P_law_state (sp_law_stateC K) := by
  refine T.F_law_state.ok sc_law_state (fun vs H Q E h => ?_) (fun cdv A outer s H vs Q E hr h => ?_)
  · obtain ⟨_, _, rfl, _⟩ := h
    rfl
  · obtain ⟨a, ns, rfl, hS, k⟩ := h
    refine ⟨_, (pss_one (ps_ret (pe_lst (pa_cons (pe_callTy call_list_of (by rfl) T.n_list (by decide +kernel) (pa_cons (pv 0) pa_nil)) (pa_cons pe_int (pa_cons pe_int (pa_cons pe_int (pa_cons pe_int (pa_cons pe_int pa_nil))))))))), ?_⟩
    rw [show L2.start N_law_state [V.ref a] = [some (V.ref a)] from rfl]
    try dsimp only [cxOf]
    walk_at "js"
    intro L hL
    walk_at "js"
    exact ⟨by show 6 ≤ sizeLine; decide, fun s hs => k L s hL hs⟩
def sp_law_state (K : Fr1) : Sp := fun vs H Q _ => ∃ (a : Addr) (ns : List Int), vs = [.ref a] ∧ SqL K H a (ns.map V.int) ∧
  ∀ L s H', Ex H H' → H' s = some (StO s L) → H' L = some (.lst (ns.map V.int)) → Q (.ref s) H'
theorem ok_law_state (T : Txt K mg) : FnOk P w K mg base (L2.CX P w) 1 (a_law_state K) (d_law_state K) P_law_state (sp_law_state K) := by
  refine ⟨fun vs H Q E h => ?_, fun A outer s H args us vs Q E hr he hb hv h => ?_⟩
  · obtain ⟨_, _, rfl, _⟩ := h
    rfl
  · obtain ⟨a, ns, rfl, hS, k⟩ := h
    refine codeAny_mono ((ok_law_stateC (base := base) (P := P) (w := w) T).run A outer s H args us _ (fun v H2 => ∃ L q, H L = none ∧ (upd H L (.lst (ns.map V.int))) q = none ∧ v = .ref q ∧ H2 = upd (upd H L (.lst (ns.map V.int))) q (.lst (drL L 0 0 0 0 0))) (fun _ _ _ => False) hr he hb hv
      ⟨a, ns, rfl, hS, fun L q h1 h2 => ⟨L, q, h1, h2, rfl, rfl⟩⟩) fun r s' hq => ?_
    cases r with
    | error x =>
      obtain ⟨_, _, _, _, _, _, _, _, _, _, _, _, z⟩ := hq
      exact z.elim
    | ok f =>
      cases f with
      | next => exact hq.elim
      | brk => exact hq.elim
      | cont => exact hq.elim
      | ret u =>
        obtain ⟨v, H2, os, bare, un, hok, rv, L, q, h1, h2, rfl, rfl⟩ := hq
        have cl := st_close (s := q) (L := L) hok upd_same (Int.le_refl 0)
        rw [upd_upd] at cl
        have x1 : Ex H (upd H L (.lst (ns.map V.int))) := Ex.new h1
        have x2 : Ex H (upd (upd H L (.lst (ns.map V.int))) q (StO q L)) := Ex.trans x1 (Ex.new h2)
        have nq : ∀ {y : Addr} {o : Obj}, s.heap.get? y = some o → H y = none → y ≠ q := fun {y o} g n z => by
          have := un.free y o g n (by simp)
          rw [z, upd_same] at this
          cases this
        have q1 : ∀ y, y ≠ q → upd (upd H L (.lst (ns.map V.int))) q (.lst (drL L 0 0 0 0 0)) y = upd (upd H L (.lst (ns.map V.int))) q (StO q L) y := fun y hy => by rw [upd_ne hy, upd_ne hy]
        refine ⟨.ref q, _, os, bare, ⟨un.keep, un.slot, fun y o g n f => by rw [← q1 y (nq g n)]; exact un.free y o g n f, un.there, fun y xs g => x2 y _ g, fun y o z g => x2 y _ g, fun y ps g => ⟨#[], by rw [x2 y _ g]; simp⟩⟩, cl, rv, k L q _ x2 upd_same ?_⟩
        rw [upd_ne (ne_of_none upd_same h2), upd_same]

def sp_law_drawC : Sp := fun vs H Q _ => ∃ (s L : Addr) (ns : List Int) (a b c d e m : Int), vs = [.ref s, .int m] ∧ H s = some (.lst (drL L a b c d e)) ∧ H L = some (.lst (ns.map V.int)) ∧ L ≠ s ∧ 0 ≤ a ∧ 0 < m ∧ m ≤ 100000000000000000000 ∧
  ∀ r a' b' c' d' e', 0 ≤ r → r < m → 0 ≤ a' → Q (.int r) (upd H s (.lst (drL L a' b' c' d' e')))
theorem ok_law_drawC (T : Txt K mg) : FnOk P w K mg base (L2.CX P w) 1 (a_law_draw K) (d_law_draw K) P_law_draw sp_law_drawC := by
  refine T.F_law_draw.ok sc_law_draw (fun vs H Q E h => ?_) (fun cdv A outer s H vs Q E hr h => ?_)
  · obtain ⟨_, _, _, _, _, _, _, _, _, rfl, _⟩ := h
    rfl
  · obtain ⟨s, L, ns, a, b, c, d, e, m, rfl, hs, hL, hne, ha, hm, hm2, k⟩ := h
    refine ⟨_, (Evl.pss_cut (ps_if (PW.pt (pw_and (pt_cmpR op_gt (pe_ix ix_list (pv 0) pe_int (fun _ _ => rfl)) pe_int (nomark _)) (pw_and1 (pt_cmpR op_lt (pe_ix ix_list (pv 0) pe_int (fun _ _ => rfl)) pe_int (nomark _))))) (pss_cons (ps_set (i := 2) sc_law_draw.nd rfl (.inl rfl) (pe_op op_modN (pe_callTy call_int1 (by rfl) T.n_int (by decide +kernel) (pa_cons (pe_ix ix_list (pv 0) pe_int (fun _ _ => rfl)) pa_nil)) (pv 1)))
    (pss_cons (ps_asg (pe_op op_fdivW (pe_ix ix_list (pv 0) pe_int (fun _ _ => rfl)) (pv 1)) (pg_sub (pv 0) pe_int set_list))
    (pss_cons (ps_asg (pe_op op_add (pe_ix ix_list (pv 0) pe_int (fun _ _ => rfl)) pe_int) (pg_sub (pv 0) pe_int set_list))
    (pss_one (ps_ret (pv 2)))))) pss_nil)
    (pss_cons (ps_asg (pe_op op_add (pe_ix ix_list (pv 0) pe_int (fun _ _ => rfl)) pe_int) (pg_sub (pv 0) pe_int set_list))
    (Evl.pss_cut (ps_if (pt_cmpR op_lt (pe_ix ix_list (pv 0) pe_int (fun _ _ => rfl)) (pe_callB call_len_seq (by rfl) T.n_len (by decide +kernel) (pa_cons (pe_ix ix_list (pv 0) pe_int (fun _ _ => rfl)) pa_nil)) (nomark _)) (pss_cons (ps_set (i := 3) sc_law_draw.nd rfl (.inl rfl) (pe_ix ix_list (pe_ix ix_list (pv 0) pe_int (fun _ _ => rfl)) (pe_ix ix_list (pv 0) pe_int (fun _ _ => rfl)) (fun _ _ => rfl)))
    (pss_cons (ps_asg (pe_op op_add (pe_ix ix_list (pv 0) pe_int (fun _ _ => rfl)) pe_int) (pg_sub (pv 0) pe_int set_list))
    (pss_cons (ps_asg (pe_op op_modN (pe_op op_add (pe_op op_mul (pe_ix ix_list (pv 0) pe_int (fun _ _ => rfl)) pe_int) (pe_callTy call_int1 (by rfl) T.n_int (by decide +kernel) (pa_cons (pv 3) pa_nil))) (pe_op op_pow pe_int pe_int)) (pg_sub (pv 0) pe_int set_list))
    (pss_one (ps_if (pt_cmpR op_ge (pv 3) (pe_op op_pow pe_int pe_int) (nomark _)) (pss_cons (ps_asg (pe_op op_fdivW (pv 3) (pv 1)) (pg_sub (pv 0) pe_int set_list))
    (pss_cons (ps_asg pe_int (pg_sub (pv 0) pe_int set_list))
    (pss_one (ps_ret (pe_op op_modN (pe_callTy call_int1 (by rfl) T.n_int (by decide +kernel) (pa_cons (pv 3) pa_nil)) (pv 1)))))) pss_nil))))) pss_nil)
    (pss_cons (ps_set (i := 4) sc_law_draw.nd rfl (.inl rfl) (pe_op op_modN (pe_op op_mul (pe_op op_add (pe_op op_add (pe_op op_mul (pe_callTy call_int1 (by rfl) T.n_int (by decide +kernel) (pa_cons (pe_ix ix_list (pv 0) pe_int (fun _ _ => rfl)) pa_nil)) pe_int) (pe_op op_mul pe_int (pe_ix ix_list (pv 0) pe_int (fun _ _ => rfl)))) pe_int) pe_int) pe_int))
    (pss_cons (ps_set (i := 4) sc_law_draw.nd rfl (.inl rfl) (pe_op op_modN (pe_op op_mul (pv 4) (pe_op op_add (pe_op op_fdivN (pv 4) pe_int) pe_int)) pe_int))
    (pss_cons (ps_set (i := 4) sc_law_draw.nd rfl (.inl rfl) (pe_op op_modN (pe_op op_mul (pv 4) (pe_op op_add (pe_op op_fdivN (pv 4) pe_int) pe_int)) pe_int))
    (pss_one (ps_ret (pe_op op_modN (pv 4) (pv 1)))))))))), ?_⟩
    rw [show L2.start N_law_draw [V.ref s, V.int m] = [some (V.ref s), some (V.int m), none, none, none] from rfl]
    try dsimp only [cxOf]
    have m0 : m ≠ 0 := by omega
    have last : ∀ (z a' b' c' d' e' : Int), 0 ≤ a' → Q (.int (z.fmod m)) (upd H s (.lst (drL L a' b' c' d' e'))) := fun z a' b' c' d' e' h1 =>
      k _ _ _ _ _ _ (fmod_in hm).1 (fmod_in hm).2 h1
    have e0 : upd H s (.lst (drL L a b c d e)) = H := by
      funext q
      by_cases hq : q = s
      · rw [hq, upd_same, hs]
      · rw [upd_ne hq]
    refine Evl.q_cut (M := fun σ' H' => σ' = [some (V.ref s), some (V.int m), none, none, none] ∧ H' = H) ?_ ?_
    · walk_at "js"
      refine w_if (fun c1 => ?_) (fun c1 => ?_)
      · walk_at "js"
        refine w_if (fun c2 => ?_) (fun c2 => ?_)
        · walk_at "js"
          exact last _ _ _ _ _ _ ha
        · walk_at "js"
          exact ⟨rfl, rfl⟩
      · walk_at "js"
        exact ⟨rfl, rfl⟩
    · rintro _ H ⟨rfl, rfl⟩
      walk_at "js"
      refine Evl.q_cut (M := fun σ' H' => ∃ a' b' c' d' e' v, 0 ≤ a' ∧ σ' = [some (V.ref s), some (V.int m), none, v, none] ∧ H' = upd H s (.lst (drL L a' b' c' d' e'))) ?_ ?_
      · walk_at "js"
        refine w_if (fun c1 => ?_) (fun c1 => ?_)
        · walk_at "js"
          have c3 : a < (ns.length : Int) := by simpa using c1
          obtain ⟨z, hz⟩ := atI_int ha c3
          refine w_ixL (SqL.of (by rw [upd_ne hne]; exact hL)) hz ?_
          walk_at "js"
          refine w_if (fun c4 => ?_) (fun c4 => ?_)
          · walk_at "js"
            exact last _ _ _ _ _ _ (by omega)
          · walk_at "js"
            exact ⟨_, _, _, _, _, _, by omega, rfl, rfl⟩
        · walk_at "js"
          exact ⟨_, _, _, _, _, _, ha, rfl, rfl⟩
      · rintro _ _ ⟨a', b', c', d', e', v, h1, rfl, rfl⟩
        walk_at "js"
        have r1 := fmod_in (a := (e' * 1000003 + 7919 * d' + 1) * 48271) (b := 2147483647) (by decide)
        generalize ((e' * 1000003 + 7919 * d' + 1) * 48271).fmod 2147483647 = z at *
        walk_at "js"
        have r2 := fmod_in (a := z * (z.fdiv 1009 + 69621)) (b := 2147483647) (by decide)
        generalize (z * (z.fdiv 1009 + 69621)).fmod 2147483647 = z2 at *
        walk_at "js"
        exact last _ _ _ _ _ _ h1

def sp_law_draw : Sp := fun vs H Q _ => ∃ (s L : Addr) (ns : List Int) (m : Int), vs = [.ref s, .int m] ∧ H s = some (StO s L) ∧ H L = some (.lst (ns.map V.int)) ∧ 0 < m ∧ m ≤ 100000000000000000000 ∧
  ∀ r, 0 ≤ r → r < m → Q (.int r) H
theorem ok_law_draw (T : Txt K mg) : FnOk P w K mg base (L2.CX P w) 1 (a_law_draw K) (d_law_draw K) P_law_draw sp_law_draw := by
  refine ⟨fun vs H Q E h => ?_, fun A outer s H args us vs Q E hr he hb hv h => ?_⟩
  · obtain ⟨_, _, _, _, rfl, _⟩ := h
    rfl
  · obtain ⟨q, L, ns, m, rfl, hs, hL, hm, hm2, k⟩ := h
    obtain ⟨a, b, c, d, e, h0, ok1⟩ := st_open he.hok hs
    have hne : L ≠ q := ne_of hL hs (by intro z; cases z)
    have nq : ∀ {y : Addr}, H y = none → y ≠ q := fun {y} z y' => by rw [y', hs] at z; cases z
    have he1 : Env0 P w K mg base A outer s (upd H q (.lst (drL L a b c d e))) :=
      ⟨he.frames, he.mod, fun y o z => ⟨(he.bs y o z).1, by rw [upd_ne (nq (he.bs y o z).2)]; exact (he.bs y o z).2⟩, he.bsz, he.funs, fun y hy => by rw [upd_ne (nq (he.frf y hy))]; exact he.frf y hy, ok1, he.bare⟩
    refine codeAny_mono ((ok_law_drawC (base := base) (P := P) (w := w) T).run A outer s _ args us _ (fun v H2 => ∃ r a' b' c' d' e', v = .int r ∧ 0 ≤ r ∧ r < m ∧ 0 ≤ a' ∧ H2 = upd H q (.lst (drL L a' b' c' d' e'))) (fun _ _ _ => False) hr he1 hb hv
      ⟨q, L, ns, a, b, c, d, e, m, rfl, upd_same, by rw [upd_ne hne]; exact hL, hne, h0, hm, hm2, fun r a' b' c' d' e' z1 z2 z3 => ⟨r, a', b', c', d', e', rfl, z1, z2, z3, by rw [upd_upd]⟩⟩) fun r s' hq => ?_
    cases r with
    | error x =>
      obtain ⟨_, _, _, _, _, _, _, _, _, _, _, _, z⟩ := hq
      exact z.elim
    | ok f =>
      cases f with
      | next => exact hq.elim
      | brk => exact hq.elim
      | cont => exact hq.elim
      | ret u =>
        obtain ⟨v, H2, os, bare, un, hok, rv, r, a', b', c', d', e', rfl, z1, z2, z3, rfl⟩ := hq
        have cl := st_close (s := q) (L := L) hok upd_same z3
        rw [upd_upd] at cl
        have eH : upd H q (StO q L) = H := by
          funext y
          by_cases hy : y = q
          · rw [hy, upd_same, hs]
          · rw [upd_ne hy]
        rw [eH] at cl
        refine ⟨.int r, H, os, bare, ⟨fun y o g n f1 f2 => un.keep y o g (by rw [upd_ne (nq n)]; exact n) f1 f2, fun y o g n f1 f2 => un.slot y o g (by rw [upd_ne (nq n)]; exact n) f1 f2,
          fun y o g n f => n, un.there, fun y xs g => g, fun y o z g => g, fun y ps g => ⟨#[], by rw [g]; simp⟩⟩, cl, rv, k r z1 z2⟩

def sp_law_number : Sp := fun vs H Q _ => ∃ (s L : Addr) (sc : List Int) (m : Int), vs = [.ref s, .int m] ∧ H s = some (StO s L) ∧ H L = some (.lst (sc.map V.int)) ∧ 1 ≤ m ∧ m ≤ 100 ∧ ∀ r, -m ≤ r → r ≤ m → Q (.int r) H
theorem ok_law_number (T : Txt K mg) : FnOk P w K mg base (L2.CX P w) 2 (a_law_number K) (d_law_number K) P_law_number (sp_law_number) := by
  refine T.F_law_number.ok sc_law_number (fun vs H Q E h => ?_) (fun cdv A outer s H vs Q E hr h => ?_)
  · obtain ⟨_, _, _, _, rfl, _⟩ := h
    rfl
  · obtain ⟨s, L, sc0, m, rfl, hs, hL, hm, hm2, k⟩ := h
    refine ⟨_, (pss_one (ps_ret (pe_op op_sub (pe_call (ok_law_draw T) (hr.mono (by decide)) (by rfl) T.m__law_draw T.F_law_draw.kp (b_law_draw T) .nil passL (pa_cons (pv 0) (pa_cons (pe_op op_add (pe_op op_mul pe_int (pv 1)) pe_int) pa_nil))) (pv 1)))), ?_⟩
    rw [show L2.start N_law_number [.ref s, .int m] = [some (.ref s), some (.int m)] from rfl]
    try dsimp only [cxOf]
    have lim : 1000 < sizeLine := by decide
    walk_at "js"
    refine ⟨s, L, _, _, rfl, hs, hL, by omega, by omega, fun r r0 r1 => ?_⟩
    walk_at "js"
    exact k _ (by omega) (by omega)

def sp_law_long : Sp := fun vs H Q _ => ∃ (s L : Addr) (sc : List Int), vs = [.ref s] ∧ H s = some (StO s L) ∧ H L = some (.lst (sc.map V.int)) ∧ ∀ r, ft 130 r → Q (.int r) H
theorem ok_law_long (T : Txt K mg) : FnOk P w K mg base (L2.CX P w) 2 (a_law_long K) (d_law_long K) P_law_long (sp_law_long) := by
  refine T.F_law_long.ok sc_law_long (fun vs H Q E h => ?_) (fun cdv A outer s H vs Q E hr h => ?_)
  · obtain ⟨_, _, _, rfl, _⟩ := h
    rfl
  · obtain ⟨s, L, sc0, rfl, hs, hL, k⟩ := h
    refine ⟨_, (pss_cons (ps_set (i := 1) sc_law_long.nd rfl (.inl rfl) (pe_call (ok_law_draw T) (hr.mono (by decide)) (by rfl) T.m__law_draw T.F_law_draw.kp (b_law_draw T) .nil passL (pa_cons (pv 0) (pa_cons (pe_op op_pow pe_int pe_int) pa_nil))))
    (pss_cons (ps_for (passes_of rfl) rfl (pi_range1 (by rfl) T.n_range (pa_cons pe_int pa_nil)) (pg_name (i := 2) sc_law_long.nd rfl (.inl rfl)) (pss_one (ps_if (pt_cmpR op_gt (pe_call (ok_law_draw T) (hr.mono (by decide)) (by rfl) T.m__law_draw T.F_law_draw.kp (b_law_draw T) .nil passL (pa_cons (pv 0) (pa_cons pe_int pa_nil))) pe_int (nomark _)) (pss_one (ps_set (i := 1) sc_law_long.nd rfl (.inl rfl) (pe_op op_add (pe_op op_mul (pv 1) (pe_op op_pow pe_int pe_int)) (pe_call (ok_law_draw T) (hr.mono (by decide)) (by rfl) T.m__law_draw T.F_law_draw.kp (b_law_draw T) .nil passL (pa_cons (pv 0) (pa_cons (pe_op op_pow pe_int pe_int) pa_nil)))))) pss_nil)))
    (pss_cons (ps_if (pt_cmpR op_eq (pe_call (ok_law_draw T) (hr.mono (by decide)) (by rfl) T.m__law_draw T.F_law_draw.kp (b_law_draw T) .nil passL (pa_cons (pv 0) (pa_cons pe_int pa_nil))) pe_int (nomark _)) (pss_one (ps_ret (pe_un un_neg (pv 1)))) pss_nil)
    (pss_one (ps_ret (pv 1)))))), ?_⟩
    rw [show L2.start N_law_long [.ref s] = [some (.ref s), none, none] from rfl]
    try dsimp only [cxOf]
    have lim : 1000 < sizeLine := by decide
    walk_at "js"
    refine ⟨s, L, _, _, rfl, hs, hL, by omega, by omega, fun r r0 r1 => ?_⟩
    walk_at "js"
    refine ⟨3, rfl, by decide, by decide, ?_⟩
    refine for_range (lo := 0) (n := (3 : Int).toNat) (fun i σ' H' => H' = H ∧ ∃ (n : Int) (v2 : Option V), 0 ≤ n ∧ n < (1073741824 : Int) ^ (i + 1) ∧ σ' = [some (.ref s), some (.int n), v2]) ?_ ?_ ?_
    · exact ⟨rfl, r, _, r0, by rw [Int.pow_succ, Int.pow_zero]; omega, rfl⟩
    · rintro i σ' B hi ⟨rfl, n, v2, n0, n1, rfl⟩
      have np : n < (1073741824 : Int) ^ (i + 1 + 1) := by
        rw [Int.pow_succ]
        omega
      walk_at "js"
      refine ⟨s, L, _, _, rfl, hs, hL, by omega, by omega, fun q q0 q1 => ?_⟩
      walk_at "js"
      refine w_if (fun c => ?_) (fun c => ?_)
      · walk_at "js"
        refine ⟨s, L, _, _, rfl, hs, hL, by omega, by omega, fun z z0 z1 => ?_⟩
        walk_at "js"
        refine ⟨rfl, _, _, by omega, ?_, rfl⟩
        rw [Int.pow_succ]
        omega
      · walk_at "js"
        exact ⟨rfl, n, _, n0, np, rfl⟩
    · rintro σ' B ⟨rfl, n, v2, n0, n1, rfl⟩
      have hn : ft 130 n := by
        unfold ft
        have : (1073741824 : Int) ^ ((3 : Int).toNat + 1) < 2 ^ 130 := by decide
        omega
      walk_at "js"
      refine ⟨s, L, _, _, rfl, hs, hL, by omega, by omega, fun q q0 q1 => ?_⟩
      walk_at "js"
      refine w_if (fun c => ?_) (fun c => ?_)
      · walk_at "js"
        exact k _ (ft_neg hn)
      · walk_at "js"
        exact k _ hn

def sp_law_direction : Sp := fun vs H Q _ => ∃ (s L l : Addr) (sc : List Int) (xs : List V) (ps : List P2), vs = [.ref s, .ref l] ∧ H s = some (StO s L) ∧ H L = some (.lst (sc.map V.int)) ∧ H l = some (.lst xs) ∧ PtsAt H xs ps ∧ ps.length ≤ 100 ∧ (∀ p ∈ ps, fp 180 p) ∧
  ∀ t p H', H t = none → Ex H H' → PtAt H' t p → nz p → fp 180 p → Q (.ref t) H'
theorem ok_law_direction (T : Txt K mg) : FnOk P w K mg base (L2.CX P w) 3 (a_law_direction K) (d_law_direction K) P_law_direction (sp_law_direction) := by
  refine T.F_law_direction.ok sc_law_direction (fun vs H Q E h => ?_) (fun cdv A outer s H vs Q E hr h => ?_)
  · obtain ⟨_, _, _, _, _, _, rfl, _⟩ := h
    rfl
  · obtain ⟨s, L, l, sc0, xs, ps, rfl, hs, hL, hl, hps, few, hf, k⟩ := h
    refine ⟨_, (pss_cons (ps_set (i := 2) sc_law_direction.nd rfl (.inl rfl) (pe_call (ok_law_draw T) (hr.mono (by decide)) (by rfl) T.m__law_draw T.F_law_draw.kp (b_law_draw T) .nil passL (pa_cons (pv 0) (pa_cons pe_int pa_nil))))
    (pss_cons (ps_set (i := 3) sc_law_direction.nd rfl (.inl rfl) (pe_tup (pa_cons (pe_call (ok_law_number T) (hr.mono (by decide)) (by rfl) T.m__law_number T.F_law_number.kp (b_law_number T) .nil passL (pa_cons (pv 0) (pa_cons pe_int pa_nil))) (pa_cons (pe_call (ok_law_number T) (hr.mono (by decide)) (by rfl) T.m__law_number T.F_law_number.kp (b_law_number T) .nil passL (pa_cons (pv 0) (pa_cons pe_int pa_nil))) pa_nil))))
    (Evl.pss_cut (ps_if (pt_cmpR op_eq (pv 2) pe_int (nomark _)) (pss_one (ps_set (i := 3) sc_law_direction.nd rfl (.inl rfl) (pe_tup (pa_cons (pe_call (ok_law_long T) (hr.mono (by decide)) (by rfl) T.m__law_long T.F_law_long.kp (b_law_long T) .nil passL (pa_cons (pv 0) pa_nil)) (pa_cons (pe_call (ok_law_long T) (hr.mono (by decide)) (by rfl) T.m__law_long T.F_law_long.kp (b_law_long T) .nil passL (pa_cons (pv 0) pa_nil)) pa_nil))))) pss_nil)
    (Evl.pss_cut (ps_if (pt_cmpR op_eq (pv 2) pe_int (nomark _)) (pss_one (ps_set (i := 3) sc_law_direction.nd rfl (.inl rfl) (pe_ix ix_list (pe_lst (pa_cons (pe_tup (pa_cons pe_int (pa_cons (pe_op op_add pe_int (pe_op op_mul (pe_ix ix_tup (pv 3) pe_int (fun _ _ => rfl)) (pe_ix ix_tup (pv 3) pe_int (fun _ _ => rfl)))) pa_nil))) (pa_cons (pe_tup (pa_cons (pe_ix ix_tup (pv 3) pe_int (fun _ _ => rfl)) (pa_cons pe_int pa_nil))) (pa_cons (pe_tup (pa_cons pe_int (pa_cons (pe_un un_neg pe_int) pa_nil))) (pa_cons (pe_tup (pa_cons (pe_un un_neg pe_int) (pa_cons pe_int pa_nil))) pa_nil))))) (pe_call (ok_law_draw T) (hr.mono (by decide)) (by rfl) T.m__law_draw T.F_law_draw.kp (b_law_draw T) .nil passL (pa_cons (pv 0) (pa_cons pe_int pa_nil))) (fun _ _ => rfl)))) pss_nil)
    (Evl.pss_cut (ps_if (PW.pt (pw_and (pt_cmpR op_gt (pv 2) pe_int (nomark _)) (pw_and1 (pt_cmpR op_gt (pe_callB call_len_seq (by rfl) T.n_len (by decide +kernel) (pa_cons (pv 1) pa_nil)) pe_int (nomark _))))) (pss_cons (ps_asg (pe_ix ix_list (pv 1) (pe_call (ok_law_draw T) (hr.mono (by decide)) (by rfl) T.m__law_draw T.F_law_draw.kp (b_law_draw T) .nil passL (pa_cons (pv 0) (pa_cons (pe_callB call_len_seq (by rfl) T.n_len (by decide +kernel) (pa_cons (pv 1) pa_nil)) pa_nil))) (fun _ _ => rfl)) (pg_tup (by rfl) (pgs_cons (pg_name (i := 4) sc_law_direction.nd rfl (.inl rfl)) (pgs_cons (pg_name (i := 5) sc_law_direction.nd rfl (.inl rfl)) pgs_nil))))
    (Evl.pss_cut (ps_if (pt_cmpR op_gt (pe_op op_add (pe_callB call_abs (by rfl) T.n_abs (by decide +kernel) (pa_cons (pv 4) pa_nil)) (pe_callB call_abs (by rfl) T.n_abs (by decide +kernel) (pa_cons (pv 5) pa_nil))) (pe_op op_pow pe_int pe_int) (nomark _)) (pss_one (ps_asg (pv 3) (pg_tup (by rfl) (pgs_cons (pg_name (i := 4) sc_law_direction.nd rfl (.inl rfl)) (pgs_cons (pg_name (i := 5) sc_law_direction.nd rfl (.inl rfl)) pgs_nil))))) pss_nil)
    (pss_cons (ps_set (i := 6) sc_law_direction.nd rfl (.inl rfl) (pe_op op_add pe_int (pe_call (ok_law_draw T) (hr.mono (by decide)) (by rfl) T.m__law_draw T.F_law_draw.kp (b_law_draw T) .nil passL (pa_cons (pv 0) (pa_cons pe_int pa_nil)))))
    (Evl.pss_cut (ps_if (pt_cmpR op_eq (pv 2) pe_int (nomark _)) (pss_one (ps_set (i := 6) sc_law_direction.nd rfl (.inl rfl) (pe_ix ix_list (pe_lst (pa_cons pe_int (pa_cons pe_int (pa_cons (pe_op op_pow pe_int pe_int) (pa_cons (pe_op op_pow pe_int pe_int) (pa_cons (pe_op op_pow pe_int pe_int) pa_nil)))))) (pe_call (ok_law_draw T) (hr.mono (by decide)) (by rfl) T.m__law_draw T.F_law_draw.kp (b_law_draw T) .nil passL (pa_cons (pv 0) (pa_cons pe_int pa_nil))) (fun _ _ => rfl)))) pss_nil)
    (pss_cons (ps_set (i := 3) sc_law_direction.nd rfl (.inl rfl) (pe_tup (pa_cons (pe_op op_mul (pv 4) (pv 6)) (pa_cons (pe_op op_mul (pv 5) (pv 6)) pa_nil))))
    (pss_one (ps_if (pt_cmpR op_gt (pv 2) pe_int (nomark _)) (pss_one (ps_set (i := 3) sc_law_direction.nd rfl (.inl rfl) (pe_tup (pa_cons (pe_op op_add (pe_op op_mul (pv 4) (pv 6)) (pe_call (ok_law_number T) (hr.mono (by decide)) (by rfl) T.m__law_number T.F_law_number.kp (b_law_number T) .nil passL (pa_cons (pv 0) (pa_cons pe_int pa_nil)))) (pa_cons (pe_op op_add (pe_op op_mul (pv 5) (pv 6)) (pe_call (ok_law_number T) (hr.mono (by decide)) (by rfl) T.m__law_number T.F_law_number.kp (b_law_number T) .nil passL (pa_cons (pv 0) (pa_cons pe_int pa_nil)))) pa_nil))))) pss_nil))))))) pss_nil)
    (pss_cons (ps_if (pt_cmpR (op_eqD hr.units) (pv 3) (pe_tup (pa_cons pe_int (pa_cons pe_int pa_nil))) (nomark _)) (pss_one (ps_ret (pe_tup (pa_cons pe_int (pa_cons pe_int pa_nil))))) pss_nil)
    (pss_one (ps_ret (pv 3))))))))), ?_⟩
    rw [show L2.start N_law_direction [.ref s, .ref l] = [some (.ref s), some (.ref l), none, none, none, none, none] from rfl]
    try dsimp only [cxOf]
    have lim : 1000 < sizeLine := by decide
    walk_at "js"
    refine ⟨s, L, _, 8, rfl, hs, hL, by omega, by omega, fun kd k0 k1 => ?_⟩
    walk_at "js"
    refine ⟨s, L, _, 6, rfl, hs, hL, by omega, by omega, fun x x0 x1 => ?_⟩
    walk_at "js"
    refine ⟨s, L, _, 6, rfl, hs, hL, by omega, by omega, fun y y0 y1 => ?_⟩
    walk_at "js"
    refine ⟨sz_of (by simp), fun t0 hp_t0 => ?_⟩
    generalize g_t0 : upd H t0 _ = H1
    obtain ⟨e_H1, h_t0⟩ := gen_new hp_t0 g_t0
    walk_at "js"
    have small : ∀ {x : Int}, x ≤ 10 → -10 ≤ x → ft 10 x := fun h1 h2 => by
      unfold ft
      omega
    have fxy : fp 10 (x, y) := ⟨small (by omega) (by omega), small (by omega) (by omega)⟩
    refine Evl.q_cut (M := fun σ' H' => Ex H H' ∧ ∃ (t : Addr) (p : P2), PtAt H' t p ∧ H t = none ∧ fp 130 p ∧ (kd ≠ 0 → fp 10 p) ∧ σ' = [some (.ref s), some (.ref l), some (.int kd), some (.ref t), none, none, none]) ?_ ?_
    · walk_at "js"
      by_cases c : kd = 0
      · rw [decide_eq_true c]
        walk_at "js"
        refine ⟨s, L, _, rfl, e_H1.get hs, e_H1.get hL, fun a ha => ?_⟩
        walk_at "js"
        refine ⟨s, L, _, rfl, e_H1.get hs, e_H1.get hL, fun b hb => ?_⟩
        walk_at "js"
        refine ⟨sz_of (by simp), fun t1 hp_t1 => ?_⟩
        generalize g_t1 : upd H1 t1 _ = H2
        obtain ⟨e_H2, h_t1⟩ := gen_new hp_t1 g_t1
        walk_at "js"
        exact ⟨e_H1.trans e_H2, t1, (a, b), h_t1, e_H1.free hp_t1, ⟨ha, hb⟩, fun z => absurd c z, rfl⟩
      · rw [decide_eq_false c]
        walk_at "js"
        exact ⟨e_H1, t0, (x, y), h_t0, hp_t0, fp_mono fxy (by decide), fun _ => fxy, rfl⟩
    rintro σ' H2 ⟨e2, t1, p1, ht1, ht10, f1, f1', rfl⟩
    have ht1' : H2 t1 = some (.tup [.int p1.1, .int p1.2]) := ht1
    walk_at "js"
    refine Evl.q_cut (M := fun σ' H' => Ex H H' ∧ ∃ (t : Addr) (p : P2), PtAt H' t p ∧ H t = none ∧ fp 130 p ∧ σ' = [some (.ref s), some (.ref l), some (.int kd), some (.ref t), none, none, none]) ?_ ?_
    · walk_at "js"
      by_cases c : kd = 1
      · rw [decide_eq_true c]
        have f10 := f1' (by omega)
        have hsq : ft 130 (1 + p1.1 * p1.1) := ft_mono (ft_add (k := 20) (x := 1) (by unfold ft; decide) (ft_mul f10.1 f10.1)) (by decide)
        walk_at "js"
        have hb1 : CMul p1.1 p1.1 := by
          have := f10.1
          unfold ft at this
          exact .inl ⟨by omega, by omega⟩
        refine ⟨_, _, rfl, rfl, hb1, ?_⟩
        walk_at "js"
        refine ⟨sz_of (by simp), fun u1 hp_u1 => ?_⟩
        generalize g_u1 : upd H2 u1 _ = H3
        obtain ⟨e_H3, h_u1⟩ := gen_new hp_u1 g_u1
        walk_at "js"
        refine ⟨sz_of (by simp), fun u2 hp_u2 => ?_⟩
        generalize g_u2 : upd H3 u2 _ = H4
        obtain ⟨e_H4, h_u2⟩ := gen_new hp_u2 g_u2
        walk_at "js"
        refine ⟨sz_of (by simp), fun u3 hp_u3 => ?_⟩
        generalize g_u3 : upd H4 u3 _ = H5
        obtain ⟨e_H5, h_u3⟩ := gen_new hp_u3 g_u3
        walk_at "js"
        refine ⟨sz_of (by simp), fun u4 hp_u4 => ?_⟩
        generalize g_u4 : upd H5 u4 _ = H6
        obtain ⟨e_H6, h_u4⟩ := gen_new hp_u4 g_u4
        walk_at "js"
        refine ⟨sz_of (by simp), fun ul hp_ul => ?_⟩
        generalize g_ul : upd H6 ul _ = H7
        obtain ⟨e_H7, h_ul⟩ := gen_new hp_ul g_ul
        walk_at "js"
        have e27 := e_H3.trans (e_H4.trans (e_H5.trans (e_H6.trans e_H7)))
        have e07 := e2.trans e27
        refine ⟨s, L, _, 4, rfl, e07.get hs, e07.get hL, by omega, by omega, fun r r0 r1 => ?_⟩
        have z0 : ∀ {k : Nat}, ft k 0 := fun {k} => Nat.pos_of_ne_zero (by exact Nat.ne_of_gt (Nat.pow_pos (by decide)))
        have cs : r = 0 ∨ r = 1 ∨ r = 2 ∨ r = 3 := by omega
        rcases cs with rfl | rfl | rfl | rfl
        · refine w_ixL (SqL.of h_ul) rfl ?_
          walk_at "js"
          exact ⟨e07, u1, (0, 1 + p1.1 * p1.1), (e_H4.trans (e_H5.trans (e_H6.trans e_H7))).get h_u1, e2.free hp_u1, ⟨z0, hsq⟩, rfl⟩
        · refine w_ixL (SqL.of h_ul) rfl ?_
          walk_at "js"
          exact ⟨e07, u2, (p1.2, 0), (e_H5.trans (e_H6.trans e_H7)).get h_u2, (e2.trans e_H3).free hp_u2, ⟨f1.2, z0⟩, rfl⟩
        · refine w_ixL (SqL.of h_ul) rfl ?_
          walk_at "js"
          exact ⟨e07, u3, (0, -2), (e_H6.trans e_H7).get h_u3, (e2.trans (e_H3.trans e_H4)).free hp_u3, ⟨z0, by unfold ft; decide⟩, rfl⟩
        · refine w_ixL (SqL.of h_ul) rfl ?_
          walk_at "js"
          exact ⟨e07, u4, (-3, 0), e_H7.get h_u4, (e2.trans (e_H3.trans (e_H4.trans e_H5))).free hp_u4, ⟨by unfold ft; decide, z0⟩, rfl⟩
      · rw [decide_eq_false c]
        walk_at "js"
        exact ⟨e2, t1, p1, ht1, ht10, f1, rfl⟩
    rintro σ' H3 ⟨e3, t2, p2, ht2, ht20, f2, rfl⟩
    have ht2' : H3 t2 = some (.tup [.int p2.1, .int p2.2]) := ht2
    walk_at "js"
    refine Evl.q_cut (M := fun σ' H' => Ex H H' ∧ ∃ (t : Addr) (p : P2) (v4 v5 v6 : Option V), PtAt H' t p ∧ H t = none ∧ fp 180 p ∧ σ' = [some (.ref s), some (.ref l), some (.int kd), some (.ref t), v4, v5, v6]) ?_ ?_
    · walk_at "js"
      have pass : Ex H H3 ∧ ∃ (t : Addr) (p : P2) (v4 v5 v6 : Option V), PtAt H3 t p ∧ H t = none ∧ fp 180 p ∧ [some (V.ref s), some (.ref l), some (.int kd), some (.ref t2), none, none, none] = [some (.ref s), some (.ref l), some (.int kd), some (.ref t), v4, v5, v6] := ⟨e3, t2, p2, none, none, none, ht2, ht20, fp_mono f2 (by decide), rfl⟩
      have hl3 := e3.get hl
      have hs3 := e3.get hs
      have hL3 := e3.get hL
      have hpl := hps.len
      refine w_if (fun c => ?_) (fun c => ?_)
      case refine_2 =>
        walk_at "js"
        exact pass
      walk_at "js"
      refine w_if (fun c1 => ?_) (fun c1 => ?_)
      case refine_2 =>
        walk_at "js"
        exact pass
      walk_at "js"
      refine ⟨s, L, _, _, rfl, hs3, hL3, by omega, by omega, fun r r0 r1 => ?_⟩
      obtain ⟨p, hp⟩ : ∃ p, ps[r.toNat]? = some p := ⟨_, List.getElem?_eq_getElem (by omega)⟩
      obtain ⟨tp, htp, hpt⟩ := (hps.mono e3).get' hp
      have hpt' : H3 tp = some (.tup [.int p.1, .int p.2]) := hpt
      have fP := hf p (List.mem_of_getElem? hp)
      refine w_ixL (SqL.of hl3) (at_nat (j := r.toNat) (by omega) htp) ?_
      walk_at "js"
      refine Evl.q_cut (M := fun σ' H' => H' = H3 ∧ ∃ (a b : Int), ft 134 a ∧ ft 134 b ∧ σ' = [some (.ref s), some (.ref l), some (.int kd), some (.ref t2), some (.int a), some (.int b), none]) ?_ ?_
      · walk_at "js"
        refine ⟨p.1, rfl, ?_⟩
        walk_at "js"
        refine ⟨p.2, rfl, ?_⟩
        walk_at "js"
        refine w_if (fun c2 => ?_) (fun c2 => ?_)
        · walk_at "js"
          exact ⟨rfl, p2.1, p2.2, ft_mono f2.1 (by decide), ft_mono f2.2 (by decide), rfl⟩
        · walk_at "js"
          refine ⟨rfl, p.1, p.2, ?_, ?_, rfl⟩
          · unfold ft
            split at c2 <;> split at c2 <;> omega
          · unfold ft
            split at c2 <;> split at c2 <;> omega
      rintro σ' H3' ⟨rfl, a, b, fa, fb, rfl⟩
      walk_at "js"
      refine ⟨s, L, _, _, rfl, hs3, hL3, by omega, by omega, fun q q0 q1 => ?_⟩
      walk_at "js"
      refine Evl.q_cut (M := fun σ' H' => Ex H3' H' ∧ ∃ (by_ : Int), 1 ≤ by_ ∧ by_ ≤ 1000000000000 ∧ σ' = [some (.ref s), some (.ref l), some (.int kd), some (.ref t2), some (.int a), some (.int b), some (.int by_)]) ?_ ?_
      · walk_at "js"
        refine w_if (fun c2 => ?_) (fun c2 => ?_)
        · walk_at "js"
          refine ⟨sz_of (by simp), fun ul hp_ul => ?_⟩
          generalize g_ul : upd H3' ul _ = H4
          obtain ⟨e_H4, h_ul⟩ := gen_new hp_ul g_ul
          walk_at "js"
          refine ⟨s, L, _, _, rfl, e_H4.get hs3, e_H4.get hL3, by omega, by omega, fun z z0 z1 => ?_⟩
          have cs : z = 0 ∨ z = 1 ∨ z = 2 ∨ z = 3 ∨ z = 4 := by omega
          rcases cs with rfl | rfl | rfl | rfl | rfl <;>
          · refine w_ixL (SqL.of h_ul) rfl ?_
            walk_at "js"
            exact ⟨e_H4, _, by decide, by decide, rfl⟩
        · walk_at "js"
          exact ⟨Evl.Ex.refl _, _, by omega, by omega, rfl⟩
      rintro σ' H4 ⟨e34, m, m1, m2, rfl⟩
      have fm : ft 40 m := by
        unfold ft
        omega
      have fA := ft_mul fa fm
      have fB := ft_mul fb fm
      have hmul : ∀ i : Int, CMul i m := fun i => .inr ⟨by omega, by omega⟩
      walk_at "js"
      refine ⟨sz_of (by simp), fun t3 hp_t3 => ?_⟩
      generalize g_t3 : upd H4 t3 _ = H5
      obtain ⟨e_H5, h_t3⟩ := gen_new hp_t3 g_t3
      walk_at "js"
      refine w_if (fun c2 => ?_) (fun c2 => ?_)
      · walk_at "js"
        refine ⟨s, L, _, 2, rfl, (e34.trans e_H5).get hs3, (e34.trans e_H5).get hL3, by omega, by omega, fun g g0 g1 => ?_⟩
        walk_at "js"
        refine ⟨s, L, _, 2, rfl, (e34.trans e_H5).get hs3, (e34.trans e_H5).get hL3, by omega, by omega, fun g' g0' g1' => ?_⟩
        walk_at "js"
        refine ⟨sz_of (by simp), fun t4 hp_t4 => ?_⟩
        generalize g_t4 : upd H5 t4 _ = H6
        obtain ⟨e_H6, h_t4⟩ := gen_new hp_t4 g_t4
        walk_at "js"
        have sm : ∀ {x : Int}, -2 ≤ x → x ≤ 2 → ft (134 + 40) x := fun h1 h2 => by
          unfold ft
          omega
        exact ⟨e3.trans (e34.trans (e_H5.trans e_H6)), t4, (a * m + g, b * m + g'), _, _, _, h_t4, (e3.trans (e34.trans e_H5)).free hp_t4, ⟨ft_mono (ft_add fA (sm (by omega) (by omega))) (by decide), ft_mono (ft_add fB (sm (by omega) (by omega))) (by decide)⟩, rfl⟩
      · walk_at "js"
        exact ⟨e3.trans (e34.trans e_H5), t3, (a * m, b * m), _, _, _, h_t3, (e3.trans e34).free hp_t3, ⟨ft_mono fA (by decide), ft_mono fB (by decide)⟩, rfl⟩
    rintro σ' H4 ⟨e4, t3, p3, v4, v5, v6, ht3, ht30, f3, rfl⟩
    walk_at "js"
    refine ⟨sz_of (by simp), fun z hp_z => ?_⟩
    generalize g_z : upd H4 z _ = H5
    obtain ⟨e_H5, h_z⟩ := gen_new hp_z g_z
    walk_at "js"
    refine w_eqP (p := p3) (q := (0, 0)) (ht3.mono e_H5).dq (show PtAt H5 z (0, 0) from h_z).dq ?_
    by_cases c : p3 = (0, 0)
    · rw [decide_eq_true c]
      walk_at "js"
      refine ⟨sz_of (by simp), fun u hp_u => ?_⟩
      generalize g_u : upd H5 u _ = H6
      obtain ⟨e_H6, h_u⟩ := gen_new hp_u g_u
      walk_at "js"
      exact k u (1, 0) H6 ((e4.trans e_H5).free hp_u) (e4.trans (e_H5.trans e_H6)) h_u (.inl (by decide)) ⟨by unfold ft; decide, by unfold ft; decide⟩
    · rw [decide_eq_false c]
      walk_at "js"
      refine k t3 p3 H5 ht30 (e4.trans e_H5) (ht3.mono e_H5) ?_ f3
      unfold nz
      obtain ⟨i, j⟩ := p3
      simp only [Prod.mk.injEq, not_and] at c
      dsimp only
      omega

def sp_turned_back : Sp := fun vs H Q _ => ∃ (t u : Addr) (p q : P2), vs = [.ref t, .ref u] ∧ PtAt H t p ∧ PtAt H u q ∧ fp 8000 p ∧ fp 8000 q ∧ ∀ r H', H r = none → Ex H H' → PtAt H' r (tbZ p q) → Q (.ref r) H'
theorem ok_turned_back (T : Txt K mg) : FnOk P w K mg base (L2.CX P w) 1 (a_turned_back K) (d_turned_back K) P_turned_back (sp_turned_back) := by
  refine T.F_turned_back.ok sc_turned_back (fun vs H Q E h => ?_) (fun cdv A outer s H vs Q E hr h => ?_)
  · obtain ⟨_, _, _, _, rfl, _⟩ := h
    rfl
  · obtain ⟨t, u, p, q, rfl, ht, hu, f1, f2, k⟩ := h
    refine ⟨_, (pss_one (ps_ret (pe_tup (pa_cons (pe_op op_add (pe_op op_mulW (pe_ix ix_tup (pv 0) pe_int (fun _ _ => rfl)) (pe_ix ix_tup (pv 1) pe_int (fun _ _ => rfl))) (pe_op op_mulW (pe_ix ix_tup (pv 0) pe_int (fun _ _ => rfl)) (pe_ix ix_tup (pv 1) pe_int (fun _ _ => rfl)))) (pa_cons (pe_op op_sub (pe_op op_mulW (pe_ix ix_tup (pv 0) pe_int (fun _ _ => rfl)) (pe_ix ix_tup (pv 1) pe_int (fun _ _ => rfl))) (pe_op op_mulW (pe_ix ix_tup (pv 0) pe_int (fun _ _ => rfl)) (pe_ix ix_tup (pv 1) pe_int (fun _ _ => rfl)))) pa_nil))))), ?_⟩
    rw [show L2.start N_turned_back [.ref t, .ref u] = [some (.ref t), some (.ref u)] from rfl]
    try dsimp only [cxOf]
    have ht' : H t = some (.tup [.int p.1, .int p.2]) := ht
    have hu' : H u = some (.tup [.int q.1, .int q.2]) := hu
    walk_at "js"
    refine ⟨_, _, rfl, rfl, ft_mulW f1.1 f2.1 (by decide), ?_⟩
    walk_at "js"
    refine ⟨_, _, rfl, rfl, ft_mulW f1.2 f2.2 (by decide), ?_⟩
    walk_at "js"
    refine ⟨_, _, rfl, rfl, ft_mulW f1.2 f2.1 (by decide), ?_⟩
    walk_at "js"
    refine ⟨_, _, rfl, rfl, ft_mulW f1.1 f2.2 (by decide), ?_⟩
    walk_at "js"
    refine ⟨sz_of (by simp), fun r hp_r => ?_⟩
    generalize g_r : upd H r _ = H1
    obtain ⟨e_H1, h_r⟩ := gen_new hp_r g_r
    walk_at "js"
    exact k r H1 hp_r e_H1 h_r

def sp_is_east : Sp := fun vs H Q _ => ∃ (t : Addr) (p : P2), vs = [.ref t] ∧ PtAt H t p ∧ Q (.bl (eastZ p)) H
theorem ok_is_east (T : Txt K mg) : FnOk P w K mg base (L2.CX P w) 1 (a_is_east K) (d_is_east K) P_is_east (sp_is_east) := by
  refine T.F_is_east.ok sc_is_east (fun vs H Q E h => ?_) (fun cdv A outer s H vs Q E hr h => ?_)
  · obtain ⟨_, _, rfl, _⟩ := h
    rfl
  · obtain ⟨t, p, rfl, ht, k⟩ := h
    refine ⟨_, (pss_one (ps_ret (pe_and (pe_cmpR op_eq (pe_ix ix_tup (pv 0) pe_int (fun _ _ => rfl)) pe_int (nomark _)) (pe_one (pe_cmpR op_gt (pe_ix ix_tup (pv 0) pe_int (fun _ _ => rfl)) pe_int (nomark _)))))), ?_⟩
    rw [show L2.start N_is_east [.ref t] = [some (.ref t)] from rfl]
    try dsimp only [cxOf]
    have ht' : H t = some (.tup [.int p.1, .int p.2]) := ht
    unfold eastZ at k
    walk_at "js"
    cases c2 : decide (p.2 = 0) with
    | false =>
      rw [c2] at k
      walk_at "js"
      exact k
    | true =>
      rw [c2] at k
      walk_at "js"
      exact k

def sp_is_late : Sp := fun vs H Q _ => ∃ (t : Addr) (p : P2), vs = [.ref t] ∧ PtAt H t p ∧ Q (.bl (lateZ p)) H
theorem ok_is_late (T : Txt K mg) : FnOk P w K mg base (L2.CX P w) 1 (a_is_late K) (d_is_late K) P_is_late (sp_is_late) := by
  refine T.F_is_late.ok sc_is_late (fun vs H Q E h => ?_) (fun cdv A outer s H vs Q E hr h => ?_)
  · obtain ⟨_, _, rfl, _⟩ := h
    rfl
  · obtain ⟨t, p, rfl, ht, k⟩ := h
    refine ⟨_, (pss_one (ps_ret (pe_or (pe_cmpR op_lt (pe_ix ix_tup (pv 0) pe_int (fun _ _ => rfl)) pe_int (nomark _)) (pe_one (pe_and (pe_cmpR op_eq (pe_ix ix_tup (pv 0) pe_int (fun _ _ => rfl)) pe_int (nomark _)) (pe_one (pe_cmpR op_lt (pe_ix ix_tup (pv 0) pe_int (fun _ _ => rfl)) pe_int (nomark _)))))))), ?_⟩
    rw [show L2.start N_is_late [.ref t] = [some (.ref t)] from rfl]
    try dsimp only [cxOf]
    have ht' : H t = some (.tup [.int p.1, .int p.2]) := ht
    unfold lateZ at k
    walk_at "js"
    cases c1 : decide (p.2 < 0) with
    | true =>
      rw [c1] at k
      walk_at "js"
      exact k
    | false =>
      rw [c1] at k
      walk_at "js"
      cases c2 : decide (p.2 = 0) with
      | false =>
        rw [c2] at k
        walk_at "js"
        exact k
      | true =>
        rw [c2] at k
        walk_at "js"
        exact k

def sp_earlier : Sp := fun vs H Q _ => ∃ (t u : Addr) (p q : P2), vs = [.ref t, .ref u] ∧ PtAt H t p ∧ PtAt H u q ∧ fp 20000 p ∧ fp 20000 q ∧ Q (.bl (earlierZ p q)) H
theorem ok_earlier (T : Txt K mg) : FnOk P w K mg base (L2.CX P w) 2 (a_earlier K) (d_earlier K) P_earlier (sp_earlier) := by
  refine T.F_earlier.ok sc_earlier (fun vs H Q E h => ?_) (fun cdv A outer s H vs Q E hr h => ?_)
  · obtain ⟨_, _, _, _, rfl, _⟩ := h
    rfl
  · obtain ⟨t, u, p, q, rfl, ht, hu, f1, f2, k⟩ := h
    refine ⟨_, (pss_cons (ps_if (pt_cmpR op_ne (pe_call (ok_is_late T) (hr.mono (by decide)) (by rfl) T.m_is_late T.F_is_late.kp (b_is_late T) .nil passL (pa_cons (pv 0) pa_nil)) (pe_call (ok_is_late T) (hr.mono (by decide)) (by rfl) T.m_is_late T.F_is_late.kp (b_is_late T) .nil passL (pa_cons (pv 1) pa_nil)) (nomark _)) (pss_one (ps_ret (pe_call (ok_is_late T) (hr.mono (by decide)) (by rfl) T.m_is_late T.F_is_late.kp (b_is_late T) .nil passL (pa_cons (pv 1) pa_nil)))) pss_nil)
    (pss_one (ps_ret (pe_cmpR op_gt (pe_op op_sub (pe_op op_mulW (pe_ix ix_tup (pv 0) pe_int (fun _ _ => rfl)) (pe_ix ix_tup (pv 1) pe_int (fun _ _ => rfl))) (pe_op op_mulW (pe_ix ix_tup (pv 0) pe_int (fun _ _ => rfl)) (pe_ix ix_tup (pv 1) pe_int (fun _ _ => rfl)))) pe_int (nomark _))))), ?_⟩
    rw [show L2.start N_earlier [.ref t, .ref u] = [some (.ref t), some (.ref u)] from rfl]
    try dsimp only [cxOf]
    have ht' : H t = some (.tup [.int p.1, .int p.2]) := ht
    have hu' : H u = some (.tup [.int q.1, .int q.2]) := hu
    walk_at "js"
    refine ⟨t, p, rfl, ht, ?_⟩
    walk_at "js"
    refine ⟨u, q, rfl, hu, ?_⟩
    refine w_neB ?_
    unfold earlierZ crossZ at k
    by_cases c : lateZ p = lateZ q
    · rw [if_pos c] at k
      rw [show (lateZ p != lateZ q) = false by rw [c]; simp]
      walk_at "js"
      refine ⟨_, _, rfl, rfl, ft_mulW f1.1 f2.2 (by decide), ?_⟩
      walk_at "js"
      refine ⟨_, _, rfl, rfl, ft_mulW f1.2 f2.1 (by decide), ?_⟩
      walk_at "js"
      exact k
    · rw [if_neg c] at k
      rw [show (lateZ p != lateZ q) = true from bne_iff_ne.mpr c]
      walk_at "js"
      exact ⟨u, q, rfl, hu, k⟩

def sp_inside : Sp := fun vs H Q _ => ∃ (t u r : Addr) (p q z : P2), vs = [.ref t, .ref u, .ref r] ∧ PtAt H t p ∧ PtAt H u q ∧ PtAt H r z ∧ fp 3000 p ∧ fp 3000 q ∧ fp 3000 z ∧ ∀ H', Ex H H' → Q (.bl (insideZ p q z)) H'
theorem ok_inside (T : Txt K mg) : FnOk P w K mg base (L2.CX P w) 3 (a_inside K) (d_inside K) P_inside (sp_inside) := by
  refine T.F_inside.ok sc_inside (fun vs H Q E h => ?_) (fun cdv A outer s H vs Q E hr h => ?_)
  · obtain ⟨_, _, _, _, _, _, rfl, _⟩ := h
    rfl
  · obtain ⟨t, u, r, p, q, z, rfl, ht, hu, hr0, f1, f2, f3, k⟩ := h
    refine ⟨_, (pss_cons (ps_set (i := 3) sc_inside.nd rfl (.inl rfl) (pe_call (ok_turned_back T) (hr.mono (by decide)) (by rfl) T.m_turned_back T.F_turned_back.kp (b_turned_back T) .nil passL (pa_cons (pv 2) (pa_cons (pv 1) pa_nil))))
    (pss_cons (ps_if (pt_val (pe_call (ok_is_east T) (hr.mono (by decide)) (by rfl) T.m_is_east T.F_is_east.kp (b_is_east T) .nil passL (pa_cons (pv 3) pa_nil))) (pss_one (ps_ret pe_bl)) pss_nil)
    (pss_cons (ps_set (i := 4) sc_inside.nd rfl (.inl rfl) (pe_call (ok_turned_back T) (hr.mono (by decide)) (by rfl) T.m_turned_back T.F_turned_back.kp (b_turned_back T) .nil passL (pa_cons (pv 0) (pa_cons (pv 1) pa_nil))))
    (pss_one (ps_ret (pe_and (pe_not (pe_call (ok_is_east T) (hr.mono (by decide)) (by rfl) T.m_is_east T.F_is_east.kp (b_is_east T) .nil passL (pa_cons (pv 4) pa_nil))) (pe_one (pe_not (pe_call (ok_earlier T) (hr.mono (by decide)) (by rfl) T.m_earlier T.F_earlier.kp (b_earlier T) .nil passL (pa_cons (pv 3) (pa_cons (pv 4) pa_nil))))))))))), ?_⟩
    rw [show L2.start N_inside [.ref t, .ref u, .ref r] = [some (.ref t), some (.ref u), some (.ref r), none, none] from rfl]
    try dsimp only [cxOf]
    unfold insideZ at k
    walk_at "js"
    refine ⟨r, u, z, q, rfl, hr0, hu, fp_mono f3 (by decide), fp_mono f2 (by decide), fun a H1 ha0 e1 ha => ?_⟩
    walk_at "js"
    refine ⟨a, _, rfl, ha, ?_⟩
    cases c : eastZ (tbZ z q) with
    | true =>
      rw [c] at k
      walk_at "js"
      exact k H1 e1
    | false =>
      rw [c] at k
      walk_at "js"
      refine ⟨t, u, p, q, rfl, ht.mono e1, hu.mono e1, fp_mono f1 (by decide), fp_mono f2 (by decide), fun b H2 hb0 e2 hb => ?_⟩
      walk_at "js"
      refine ⟨b, _, rfl, hb, ?_⟩
      cases c2 : eastZ (tbZ p q) with
      | true =>
        rw [c2] at k
        walk_at "js"
        exact k H2 (e1.trans e2)
      | false =>
        rw [c2] at k
        walk_at "js"
        refine ⟨a, b, _, _, rfl, ha.mono e2, hb, fp_mono (fp_tb f3 f2) (by decide), fp_mono (fp_tb f1 f2) (by decide), ?_⟩
        walk_at "js"
        exact k H2 (e1.trans e2)

def sp_is_integer (K : Fr1) : Sp := fun vs H Q _ => ∃ (v : V) (d : PyData), vs = [v] ∧ Dq K H v d ∧ Q (.bl (isI d)) H
theorem ok_is_integer (T : Txt K mg) : FnOk P w K mg base (L2.CX P w) 1 (a_is_integer K) (d_is_integer K) P_is_integer (sp_is_integer K) := by
  refine T.F_is_integer.ok sc_is_integer (fun vs H Q E h => ?_) (fun cdv A outer s H vs Q E hr h => ?_)
  · obtain ⟨_, _, rfl, _⟩ := h
    rfl
  · obtain ⟨v, d, rfl, hd, k⟩ := h
    refine ⟨_, (pss_one (ps_ret (pe_and (pe_callB call_isi (by rfl) T.n_isinstance (by decide +kernel) (pa_cons (pv 0) (pa_cons (pe_bltn (v := .ty "int") (by rfl) T.n_int (by decide +kernel) rfl) pa_nil))) (pe_one (pe_not (pe_callB call_isi (by rfl) T.n_isinstance (by decide +kernel) (pa_cons (pv 0) (pa_cons (pe_bltn (v := .ty "bool") (by rfl) T.n_bool (by decide +kernel) rfl) pa_nil)))))))), ?_⟩
    rw [show L2.start N_is_integer [v] = [some v] from rfl]
    try dsimp only [cxOf]
    rw [← isI_ty d] at k
    walk_at "js"
    refine w_isi hd (kit_int d) ?_
    refine w_bl ?_
    cases e : (tyn d == "int" || tyn d == "bool") with
    | false =>
      rw [e] at k
      walk_at "js"
      exact k
    | true =>
      rw [e] at k
      walk_at "js"
      refine w_isi hd (kit_bool d) ?_
      walk_at "js"
      exact k

def sp_is_direction (K : Fr1) : Sp := fun vs H Q _ => ∃ (v : V) (d : PyData), vs = [v] ∧ Dq K H v d ∧ Q (.bl (dirD d).isSome) H
theorem ok_is_direction (T : Txt K mg) : FnOk P w K mg base (L2.CX P w) 2 (a_is_direction K) (d_is_direction K) P_is_direction (sp_is_direction K) := by
  refine T.F_is_direction.ok sc_is_direction (fun vs H Q E h => ?_) (fun cdv A outer s H vs Q E hr h => ?_)
  · obtain ⟨_, _, rfl, _⟩ := h
    rfl
  · obtain ⟨v, d, rfl, hd, k⟩ := h
    refine ⟨_, (pss_cons (ps_if (PW.pt (pw_or (pt_not (pt_val (pe_callB call_isi (by rfl) T.n_isinstance (by decide +kernel) (pa_cons (pv 0) (pa_cons (pe_bltn (v := .ty "tuple") (by rfl) T.n_tuple (by decide +kernel) rfl) pa_nil))))) (pw_or1 (pt_cmpR op_ne (pe_callB call_len_seq (by rfl) T.n_len (by decide +kernel) (pa_cons (pv 0) pa_nil)) pe_int (nomark _))))) (pss_one (ps_ret pe_bl)) pss_nil)
    (pss_cons (ps_if (PW.pt (pw_or (pt_not (pt_val (pe_call (ok_is_integer T) (hr.mono (by decide)) (by rfl) T.m_is_integer T.F_is_integer.kp (b_is_integer T) .nil passL (pa_cons (pe_ix ix_tup (pv 0) pe_int (fun _ _ => rfl)) pa_nil)))) (pw_or1 (pt_not (pt_val (pe_call (ok_is_integer T) (hr.mono (by decide)) (by rfl) T.m_is_integer T.F_is_integer.kp (b_is_integer T) .nil passL (pa_cons (pe_ix ix_tup (pv 0) pe_int (fun _ _ => rfl)) pa_nil))))))) (pss_one (ps_ret pe_bl)) pss_nil)
    (pss_one (ps_ret (pe_or (pe_cmpR op_ne (pe_ix ix_tup (pv 0) pe_int (fun _ _ => rfl)) pe_int (nomark _)) (pe_one (pe_cmpR op_ne (pe_ix ix_tup (pv 0) pe_int (fun _ _ => rfl)) pe_int (nomark _)))))))), ?_⟩
    rw [show L2.start N_is_direction [v] = [some v] from rfl]
    try dsimp only [cxOf]
    walk_at "js"
    refine w_isi hd (kit_tuple d) ?_
    cases e : (tyn d == "tuple") with
    | false =>
      walk_at "js"
      have z : (dirD d).isSome = false := by cases d <;> first | rfl | (cases e)
      rw [z] at k
      exact k
    | true =>
      obtain ⟨ds, rfl⟩ : ∃ ds, d = .tuple ds := by cases d <;> first | exact ⟨_, rfl⟩ | cases e
      cases hd with
      | @tup a xs _ ha hx =>
        have hl := hx.len
        walk_at "js"
        refine w_ifn (fun c => ?_) (fun c => ?_)
        · walk_at "js"
          rw [dirD_no (fun x y e => by cases e; simp at hl; omega)] at k
          exact k
        · have c2 : xs.length = 2 := by omega
          match xs, ds, hx, c2 with
          | [x, y], [a1, b1], .cons h1 (.cons h2 .nil), _ =>
            walk_at "js"
            refine ⟨x, a1, rfl, h1, ?_⟩
            by_cases g1 : ∃ i, a1 = .int i
            case neg =>
              have e1 : isI a1 = false := by cases a1 <;> first | rfl | exact absurd ⟨_, rfl⟩ g1
              rw [e1]
              walk_at "js"
              rw [dirD_no (fun x y e => by cases e; exact g1 ⟨_, rfl⟩)] at k
              exact k
            obtain ⟨i, rfl⟩ := g1
            cases h1
            rw [show isI (.int i) = true from rfl]
            walk_at "js"
            refine ⟨y, b1, rfl, h2, ?_⟩
            by_cases g2 : ∃ i, b1 = .int i
            case neg =>
              have e1 : isI b1 = false := by cases b1 <;> first | rfl | exact absurd ⟨_, rfl⟩ g2
              rw [e1]
              walk_at "js"
              rw [dirD_no (fun x y e => by cases e; exact g2 ⟨_, rfl⟩)] at k
              exact k
            obtain ⟨j, rfl⟩ := g2
            cases h2
            rw [show isI (.int j) = true from rfl]
            have hk : (dirD (.tuple [.int i, .int j])).isSome = (!decide (i = 0) || !decide (j = 0)) := by
              unfold dirD
              by_cases c1 : i = 0 <;> by_cases c2 : j = 0 <;> simp [c1, c2]
            rw [hk] at k
            walk_at "js"
            cases e1 : decide (i = 0) with
            | false =>
              rw [e1] at k
              walk_at "js"
              exact k
            | true =>
              rw [e1] at k
              walk_at "js"
              exact k

def sp_BadTurn_p__init__ (K : Fr1) : Sp := sp_err (He.ga K "BadTurn") "value"
theorem ok_BadTurn_p__init__ (T : Txt K mg) : FnOk P w K mg base (L2.CX P w) 1 (a_BadTurn_p__init__ K) (d_BadTurn_p__init__ K) P_BadTurn_p__init__ (sp_BadTurn_p__init__ K) := by
  refine T.F_BadTurn_p__init__.ok sc_BadTurn_p__init__ (fun vs H Q E h => ?_) (fun cdv A outer s H vs Q E hr h => ?_)
  · obtain ⟨_, _, rfl, _⟩ := h
    rfl
  · obtain ⟨a, v, rfl, ha, k⟩ := h
    refine ⟨_, (pss_one (ps_ost (pv 0) (pv 1))), ?_⟩
    exact ⟨_, rfl, _, rfl, a, _, rfl, T.o_BadTurn, T.na_BadTurn_value, .inl ⟨ha, fun dx h1 h2 => k dx h1 h2⟩⟩

def sp_lowered : Sp := fun vs H Q _ => ∃ (p : P2), vs = [.int p.1, .int p.2] ∧ nz p ∧ fp 8000 p ∧ ∀ t H', H t = none → Ex H H' → PtAt H' t (low p) → Q (.ref t) H'
theorem ok_lowered (T : Txt K mg) : FnOk P w K mg base (L2.CX P w) 1 (a_lowered K) (d_lowered K) P_lowered sp_lowered := by
  refine T.F_lowered.ok sc_lowered (fun vs H Q E h => ?_) (fun cdv A outer s H vs Q E hr h => ?_)
  · obtain ⟨_, rfl, _⟩ := h
    rfl
  · obtain ⟨p, rfl, hp, hf, k⟩ := h
    refine ⟨_, (pss_cons (ps_set (i := 2) sc_lowered.nd rfl (.inl rfl) (pe_callBfun cr_gcd (by rfl) T.m_gcd (pa_cons (pv 0) (pa_cons (pv 1) pa_nil))))
    (pss_one (ps_ret (pe_tup (pa_cons (pe_op op_fdivW (pv 0) (pv 2)) (pa_cons (pe_op op_fdivW (pv 1) (pv 2)) pa_nil)))))), ?_⟩
    rw [show L2.start N_lowered [.int p.1, .int p.2] = [some (.int p.1), some (.int p.2), none] from rfl]
    try dsimp only [cxOf]
    walk_at "js"
    refine ⟨p.1, p.2, rfl, ?_⟩
    rw [show (((Nat.gcd p.1.natAbs p.2.natAbs : Nat)) : Int) = gZ p from rfl]
    walk_at "js"
    refine ⟨_, _, rfl, rfl, ft_divW (gZ_pos hp) (ft_g hf.1 hf.2 hp) (by decide), ?_⟩
    walk_at "js"
    refine ⟨_, _, rfl, rfl, ft_divW (gZ_pos hp) (ft_g hf.1 hf.2 hp) (by decide), ?_⟩
    walk_at "js"
    refine ⟨sz_of (by simp), fun t hp_t => ?_⟩
    generalize g_t : upd H t _ = H1
    obtain ⟨e_H1, h_t⟩ := gen_new hp_t g_t
    walk_at "js"
    exact k t H1 hp_t e_H1 h_t

def sp_checked (K : Fr1) : Sp := fun vs H Q E => ∃ (v : V) (d : PyData), vs = [v] ∧ Dq K H v d ∧ (∀ p, dirD d = some p → fp 8000 p) ∧ (dirD d = none → Rz K "BadTurn" "value" v H E) ∧
  (∀ p, dirD d = some p → ∀ t H', H t = none → Ex H H' → PtAt H' t (low p) → Q (.ref t) H')
theorem ok_checked (T : Txt K mg) : FnOk P w K mg base (L2.CX P w) 3 (a_checked K) (d_checked K) P_checked (sp_checked K) := by
  refine T.F_checked.ok sc_checked (fun vs H Q E h => ?_) (fun cdv A outer s H vs Q E hr h => ?_)
  · obtain ⟨_, _, rfl, _⟩ := h
    rfl
  · obtain ⟨v, d, rfl, hd, hf, kE, k⟩ := h
    refine ⟨_, (pss_cons (ps_if (pt_not (pt_val (pe_call (ok_is_direction T) (hr.mono (by decide)) (by rfl) T.m_is_direction T.F_is_direction.kp (b_is_direction T) .nil passL (pa_cons (pv 0) pa_nil)))) (pss_one (ps_raise rfl (takes_of rfl rfl rfl rfl) (pmk_oex T.o_BadTurn T.M_BadTurn_p__init__.at_ T.t_BadTurn_p__init__ (ok_BadTurn_p__init__ T) (hr.mono (by decide)) (b_BadTurn_p__init__ T) .nil passL (by rfl) T.m_BadTurn (pa_cons (pv 0) pa_nil)))) pss_nil)
    (pss_one (ps_ret (pe_call (ok_lowered T) (hr.mono (by decide)) (by rfl) T.m_lowered T.F_lowered.kp (b_lowered T) .nil passL (pa_cons (pe_ix ix_tup (pv 0) pe_int (fun _ _ => rfl)) (pa_cons (pe_ix ix_tup (pv 0) pe_int (fun _ _ => rfl)) pa_nil)))))), ?_⟩
    rw [show L2.start N_checked [v] = [some v] from rfl]
    try dsimp only [cxOf]
    walk_at "js"
    refine ⟨v, d, rfl, hd, ?_⟩
    cases e : dirD d with
    | none =>
      rw [show (none : Option P2).isSome = false from rfl]
      walk_at "js"
      refine w_mkO ?_
      walk_at "js"
      exact w_err (kE e)
    | some p =>
      rw [show (some p).isSome = true from rfl]
      obtain ⟨rfl, hp⟩ := dirD_some e
      obtain ⟨t, rfl, ht⟩ := dq_pt hd
      have ht' : H t = some (.tup [.int p.1, .int p.2]) := ht
      walk_at "js"
      exact ⟨p, rfl, hp, hf p e, fun t' H' h0 e' ht2 => k p e t' H' h0 e' ht2⟩

def sp_within (K : Fr1) : Sp := fun vs H Q E => ∃ (v1 v2 v3 : V) (d1 d2 d3 : PyData), vs = [v1, v2, v3] ∧ Dq K H v1 d1 ∧ Dq K H v2 d2 ∧ Dq K H v3 d3 ∧ (∀ p, dirD d1 = some p → fp 3000 p) ∧ (∀ p, dirD d2 = some p → fp 3000 p) ∧ (∀ p, dirD d3 = some p → fp 3000 p) ∧
  (dirD d1 = none → Rz K "BadTurn" "value" v1 H E) ∧ (∀ p, dirD d1 = some p → dirD d2 = none → Rz K "BadTurn" "value" v2 H E) ∧ (∀ p q, dirD d1 = some p → dirD d2 = some q → dirD d3 = none → Rz K "BadTurn" "value" v3 H E) ∧
  (∀ p q r, dirD d1 = some p → dirD d2 = some q → dirD d3 = some r → ∀ H', Ex H H' → Q (.bl (insideZ p q r)) H')
theorem ok_within (T : Txt K mg) : FnOk P w K mg base (L2.CX P w) 4 (a_within K) (d_within K) P_within (sp_within K) := by
  refine T.F_within.ok sc_within (fun vs H Q E h => ?_) (fun cdv A outer s H vs Q E hr h => ?_)
  · obtain ⟨_, _, _, _, _, _, rfl, _⟩ := h
    rfl
  · obtain ⟨v1, v2, v3, d1, d2, d3, rfl, hd1, hd2, hd3, hf1, hf2, hf3, kE1, kE2, kE3, k⟩ := h
    refine ⟨_, (pss_one (ps_ret (pe_call (ok_inside T) (hr.mono (by decide)) (by rfl) T.m_inside T.F_inside.kp (b_inside T) .nil passL (pa_cons (pe_call (ok_checked T) (hr.mono (by decide)) (by rfl) T.m_checked T.F_checked.kp (b_checked T) .nil (passes_call (takes_of rfl rfl rfl rfl) (fun _ _ _ _ h => h)) (pa_cons (pv 0) pa_nil)) (pa_cons (pe_call (ok_checked T) (hr.mono (by decide)) (by rfl) T.m_checked T.F_checked.kp (b_checked T) .nil (passes_call (takes_of rfl rfl rfl rfl) (fun _ _ _ _ h => h)) (pa_cons (pv 1) pa_nil)) (pa_cons (pe_call (ok_checked T) (hr.mono (by decide)) (by rfl) T.m_checked T.F_checked.kp (b_checked T) .nil (passes_call (takes_of rfl rfl rfl rfl) (fun _ _ _ _ h => h)) (pa_cons (pv 2) pa_nil)) pa_nil)))))), ?_⟩
    rw [show L2.start N_within [v1, v2, v3] = [some v1, some v2, some v3] from rfl]
    try dsimp only [cxOf]
    walk_at "js"
    refine ⟨v1, d1, rfl, hd1, fun p e => fp_mono (hf1 p e) (by decide), kE1, fun p e1 t H1 h0 e01 ht => ?_⟩
    walk_at "js"
    refine ⟨v2, d2, rfl, hd2.mono e01, fun p e => fp_mono (hf2 p e) (by decide), fun e => (kE2 p e1 e).mono e01, fun q e2 t2 H2 h02 e12 ht2 => ?_⟩
    walk_at "js"
    refine ⟨v3, d3, rfl, hd3.mono (e01.trans e12), fun p e => fp_mono (hf3 p e) (by decide), fun e => (kE3 p q e1 e2 e).mono (e01.trans e12), fun r e3 t3 H3 h03 e23 ht3 => ?_⟩
    refine ⟨t, t2, t3, _, _, _, rfl, ht.mono (e12.trans e23), ht2.mono e23, ht3, fp_low (hf1 p e1), fp_low (hf2 q e2), fp_low (hf3 r e3), fun H4 e34 => ?_⟩
    rw [inside_low (dirD_some e1).2 (dirD_some e2).2 (dirD_some e3).2]
    exact k p q r e1 e2 e3 H4 (e01.trans (e12.trans (e23.trans e34)))

def sp_times (K : Fr1) : Sp := fun vs H Q E => ∃ (v1 v2 : V) (d1 d2 : PyData), vs = [v1, v2] ∧ Dq K H v1 d1 ∧ Dq K H v2 d2 ∧ (∀ p, dirD d1 = some p → fp 3000 p) ∧ (∀ p, dirD d2 = some p → fp 3000 p) ∧ (dirD d1 = none → Rz K "BadTurn" "value" v1 H E) ∧
  (∀ p, dirD d1 = some p → dirD d2 = none → Rz K "BadTurn" "value" v2 H E) ∧ (∀ p q, dirD d1 = some p → dirD d2 = some q → ∀ t H', H t = none → Ex H H' → PtAt H' t (low (mulC p q)) → Q (.ref t) H')
theorem ok_times (T : Txt K mg) : FnOk P w K mg base (L2.CX P w) 4 (a_times K) (d_times K) P_times (sp_times K) := by
  refine T.F_times.ok sc_times (fun vs H Q E h => ?_) (fun cdv A outer s H vs Q E hr h => ?_)
  · obtain ⟨_, _, _, _, rfl, _⟩ := h
    rfl
  · obtain ⟨v1, v2, d1, d2, rfl, hd1, hd2, hf1, hf2, kE1, kE2, k⟩ := h
    refine ⟨_, (pss_cons (ps_asg (pe_call (ok_checked T) (hr.mono (by decide)) (by rfl) T.m_checked T.F_checked.kp (b_checked T) .nil (passes_call (takes_of rfl rfl rfl rfl) (fun _ _ _ _ h => h)) (pa_cons (pv 0) pa_nil)) (pg_tup (by rfl) (pgs_cons (pg_name (i := 2) sc_times.nd rfl (.inl rfl)) (pgs_cons (pg_name (i := 3) sc_times.nd rfl (.inl rfl)) pgs_nil))))
    (pss_cons (ps_asg (pe_call (ok_checked T) (hr.mono (by decide)) (by rfl) T.m_checked T.F_checked.kp (b_checked T) .nil (passes_call (takes_of rfl rfl rfl rfl) (fun _ _ _ _ h => h)) (pa_cons (pv 1) pa_nil)) (pg_tup (by rfl) (pgs_cons (pg_name (i := 4) sc_times.nd rfl (.inl rfl)) (pgs_cons (pg_name (i := 5) sc_times.nd rfl (.inl rfl)) pgs_nil))))
    (pss_one (ps_ret (pe_call (ok_lowered T) (hr.mono (by decide)) (by rfl) T.m_lowered T.F_lowered.kp (b_lowered T) .nil passL (pa_cons (pe_op op_sub (pe_op op_mulW (pv 2) (pv 4)) (pe_op op_mulW (pv 3) (pv 5))) (pa_cons (pe_op op_add (pe_op op_mulW (pv 2) (pv 5)) (pe_op op_mulW (pv 3) (pv 4))) pa_nil))))))), ?_⟩
    rw [show L2.start N_times [v1, v2] = [some v1, some v2, none, none, none, none] from rfl]
    try dsimp only [cxOf]
    walk_at "js"
    refine ⟨v1, d1, rfl, hd1, fun p e => fp_mono (hf1 p e) (by decide), kE1, fun p e1 t H1 h0 e01 ht => ?_⟩
    have ht' : H1 t = some (.tup [.int (low p).1, .int (low p).2]) := ht
    walk_at "js"
    refine ⟨v2, d2, rfl, hd2.mono e01, fun p e => fp_mono (hf2 p e) (by decide), fun e => (kE2 p e1 e).mono e01, fun q e2 t2 H2 h02 e12 ht2 => ?_⟩
    have ht2' : H2 t2 = some (.tup [.int (low q).1, .int (low q).2]) := ht2
    have f1 := fp_low (hf1 p e1)
    have f2 := fp_low (hf2 q e2)
    have n1 := (dirD_some e1).2
    have n2 := (dirD_some e2).2
    walk_at "js"
    refine ⟨_, _, rfl, rfl, ft_mulW f1.1 f2.1 (by decide), ?_⟩
    walk_at "js"
    refine ⟨_, _, rfl, rfl, ft_mulW f1.2 f2.2 (by decide), ?_⟩
    walk_at "js"
    refine ⟨_, _, rfl, rfl, ft_mulW f1.1 f2.2 (by decide), ?_⟩
    walk_at "js"
    refine ⟨_, _, rfl, rfl, ft_mulW f1.2 f2.1 (by decide), ?_⟩
    walk_at "js"
    refine ⟨mulC (low p) (low q), rfl, nz_mul (low_nz n1) (low_nz n2), fp_mono (fp_mul f1 f2) (by decide), fun t3 H3 h03 e23 ht3 => ?_⟩
    rw [low_mul n1 n2] at ht3
    exact k p q e1 e2 t3 H3 ((e01.trans e12).free h03) (e01.trans (e12.trans e23)) ht3

def sp_back (K : Fr1) : Sp := fun vs H Q E => ∃ (v : V) (d : PyData), vs = [v] ∧ Dq K H v d ∧ (∀ p, dirD d = some p → fp 8000 p) ∧ (dirD d = none → Rz K "BadTurn" "value" v H E) ∧
  (∀ p, dirD d = some p → ∀ t H', H t = none → Ex H H' → PtAt H' t (low (conjC p)) → Q (.ref t) H')
theorem ok_back (T : Txt K mg) : FnOk P w K mg base (L2.CX P w) 4 (a_back K) (d_back K) P_back (sp_back K) := by
  refine T.F_back.ok sc_back (fun vs H Q E h => ?_) (fun cdv A outer s H vs Q E hr h => ?_)
  · obtain ⟨_, _, rfl, _⟩ := h
    rfl
  · obtain ⟨v, d, rfl, hd, hf, kE, k⟩ := h
    refine ⟨_, (pss_cons (ps_asg (pe_call (ok_checked T) (hr.mono (by decide)) (by rfl) T.m_checked T.F_checked.kp (b_checked T) .nil (passes_call (takes_of rfl rfl rfl rfl) (fun _ _ _ _ h => h)) (pa_cons (pv 0) pa_nil)) (pg_tup (by rfl) (pgs_cons (pg_name (i := 1) sc_back.nd rfl (.inl rfl)) (pgs_cons (pg_name (i := 2) sc_back.nd rfl (.inl rfl)) pgs_nil))))
    (pss_one (ps_ret (pe_tup (pa_cons (pv 1) (pa_cons (pe_un un_neg (pv 2)) pa_nil)))))), ?_⟩
    rw [show L2.start N_back [v] = [some v, none, none] from rfl]
    try dsimp only [cxOf]
    walk_at "js"
    refine ⟨v, d, rfl, hd, hf, kE, fun p e1 t H1 h0 e01 ht => ?_⟩
    have ht' : H1 t = some (.tup [.int (low p).1, .int (low p).2]) := ht
    walk_at "js"
    refine ⟨sz_of (by simp), fun t2 hp_t2 => ?_⟩
    generalize g_t2 : upd H1 t2 _ = H2
    obtain ⟨e_H2, h_t2⟩ := gen_new hp_t2 g_t2
    walk_at "js"
    refine k p e1 t2 H2 (e01.free hp_t2) (e01.trans e_H2) ?_
    rw [low_conj]
    exact h_t2

def sp_law_same : Sp := fun vs H Q _ => ∃ (t u : Addr) (p q : P2), vs = [.ref t, .ref u] ∧ PtAt H t p ∧ PtAt H u q ∧ fp 8000 p ∧ fp 8000 q ∧ Q (.bl (sameZ p q)) H
theorem ok_law_same (T : Txt K mg) : FnOk P w K mg base (L2.CX P w) 1 (a_law_same K) (d_law_same K) P_law_same (sp_law_same) := by
  refine T.F_law_same.ok sc_law_same (fun vs H Q E h => ?_) (fun cdv A outer s H vs Q E hr h => ?_)
  · obtain ⟨_, _, _, _, rfl, _⟩ := h
    rfl
  · obtain ⟨t, u, p, q, rfl, ht, hu, f1, f2, k⟩ := h
    refine ⟨_, (pss_one (ps_ret (pe_and (pe_cmpR op_eq (pe_op op_mulW (pe_ix ix_tup (pv 0) pe_int (fun _ _ => rfl)) (pe_ix ix_tup (pv 1) pe_int (fun _ _ => rfl))) (pe_op op_mulW (pe_ix ix_tup (pv 0) pe_int (fun _ _ => rfl)) (pe_ix ix_tup (pv 1) pe_int (fun _ _ => rfl))) (nomark _)) (pe_one (pe_cmpR op_gt (pe_op op_add (pe_op op_mulW (pe_ix ix_tup (pv 0) pe_int (fun _ _ => rfl)) (pe_ix ix_tup (pv 1) pe_int (fun _ _ => rfl))) (pe_op op_mulW (pe_ix ix_tup (pv 0) pe_int (fun _ _ => rfl)) (pe_ix ix_tup (pv 1) pe_int (fun _ _ => rfl)))) pe_int (nomark _)))))), ?_⟩
    rw [show L2.start N_law_same [.ref t, .ref u] = [some (.ref t), some (.ref u)] from rfl]
    try dsimp only [cxOf]
    have lim : 1000 < sizeLine := by decide
    have ht' : H t = some (.tup [.int p.1, .int p.2]) := ht
    have hu' : H u = some (.tup [.int q.1, .int q.2]) := hu
    unfold sameZ dotZ at k
    walk_at "js"
    refine ⟨_, _, rfl, rfl, ft_mulW f1.1 f2.2 (by decide), ?_⟩
    walk_at "js"
    refine ⟨_, _, rfl, rfl, ft_mulW f1.2 f2.1 (by decide), ?_⟩
    walk_at "js"
    cases c : decide (p.1 * q.2 = p.2 * q.1) with
    | false =>
      rw [c] at k
      walk_at "js"
      exact k
    | true =>
      rw [c] at k
      walk_at "js"
      refine ⟨_, _, rfl, rfl, ft_mulW f1.1 f2.1 (by decide), ?_⟩
      walk_at "js"
      refine ⟨_, _, rfl, rfl, ft_mulW f1.2 f2.2 (by decide), ?_⟩
      walk_at "js"
      exact k

def sp_ahead (K : Fr1) : Sp := fun vs H Q E => ∃ (v1 v2 : V) (d1 d2 : PyData), vs = [v1, v2] ∧ Dq K H v1 d1 ∧ Dq K H v2 d2 ∧ (∀ p, dirD d1 = some p → fp 3000 p) ∧ (∀ p, dirD d2 = some p → fp 3000 p) ∧ (dirD d1 = none → Rz K "BadTurn" "value" v1 H E) ∧
  (∀ p, dirD d1 = some p → dirD d2 = none → Rz K "BadTurn" "value" v2 H E) ∧ (∀ p q, dirD d1 = some p → dirD d2 = some q → ∀ H', Ex H H' → Q (.bl (earlierZ p q)) H')
theorem ok_ahead (T : Txt K mg) : FnOk P w K mg base (L2.CX P w) 4 (a_ahead K) (d_ahead K) P_ahead (sp_ahead K) := by
  refine T.F_ahead.ok sc_ahead (fun vs H Q E h => ?_) (fun cdv A outer s H vs Q E hr h => ?_)
  · obtain ⟨_, _, _, _, rfl, _⟩ := h
    rfl
  · obtain ⟨v1, v2, d1, d2, rfl, hd1, hd2, hf1, hf2, kE1, kE2, k⟩ := h
    refine ⟨_, (pss_one (ps_ret (pe_call (ok_earlier T) (hr.mono (by decide)) (by rfl) T.m_earlier T.F_earlier.kp (b_earlier T) .nil passL (pa_cons (pe_call (ok_checked T) (hr.mono (by decide)) (by rfl) T.m_checked T.F_checked.kp (b_checked T) .nil (passes_call (takes_of rfl rfl rfl rfl) (fun _ _ _ _ h => h)) (pa_cons (pv 0) pa_nil)) (pa_cons (pe_call (ok_checked T) (hr.mono (by decide)) (by rfl) T.m_checked T.F_checked.kp (b_checked T) .nil (passes_call (takes_of rfl rfl rfl rfl) (fun _ _ _ _ h => h)) (pa_cons (pv 1) pa_nil)) pa_nil))))), ?_⟩
    rw [show L2.start N_ahead [v1, v2] = [some v1, some v2] from rfl]
    try dsimp only [cxOf]
    walk_at "js"
    refine ⟨v1, d1, rfl, hd1, fun p e => fp_mono (hf1 p e) (by decide), kE1, fun p e1 t H1 h0 e01 ht => ?_⟩
    walk_at "js"
    refine ⟨v2, d2, rfl, hd2.mono e01, fun p e => fp_mono (hf2 p e) (by decide), fun e => (kE2 p e1 e).mono e01, fun q e2 t2 H2 h02 e12 ht2 => ?_⟩
    have n1 := (dirD_some e1).2
    have n2 := (dirD_some e2).2
    refine ⟨t, t2, _, _, rfl, ht.mono e12, ht2, fp_mono (fp_low (hf1 p e1)) (by decide), fp_mono (fp_low (hf2 q e2)) (by decide), ?_⟩
    rw [earlier_low n1 n2]
    exact k p q e1 e2 H2 (e01.trans e12)

def sp_least (K : Fr1) : Sp := fun vs H Q E => ∃ (v : V) (d : PyData), vs = [v] ∧ Dq K H v d ∧ (∀ p, dirD d = some p → fp 8000 p) ∧ (dirD d = none → Rz K "BadTurn" "value" v H E) ∧
  (∀ p, dirD d = some p → ∀ t H', H t = none → Ex H H' → PtAt H' t (low p) → Q (.ref t) H')
theorem ok_least (T : Txt K mg) : FnOk P w K mg base (L2.CX P w) 4 (a_least K) (d_least K) P_least (sp_least K) := by
  refine T.F_least.ok sc_least (fun vs H Q E h => ?_) (fun cdv A outer s H vs Q E hr h => ?_)
  · obtain ⟨_, _, rfl, _⟩ := h
    rfl
  · obtain ⟨v, d, rfl, hd, hf, kE, k⟩ := h
    refine ⟨_, (pss_one (ps_ret (pe_call (ok_checked T) (hr.mono (by decide)) (by rfl) T.m_checked T.F_checked.kp (b_checked T) .nil (passes_call (takes_of rfl rfl rfl rfl) (fun _ _ _ _ h => h)) (pa_cons (pv 0) pa_nil)))), ?_⟩
    rw [show L2.start N_least [v] = [some v] from rfl]
    try dsimp only [cxOf]
    walk_at "js"
    exact ⟨v, d, rfl, hd, hf, kE, k⟩

def sp_opposite (K : Fr1) : Sp := fun vs H Q E => ∃ (v : V) (d : PyData), vs = [v] ∧ Dq K H v d ∧ (∀ p, dirD d = some p → fp 8000 p) ∧ (dirD d = none → Rz K "BadTurn" "value" v H E) ∧
  (∀ p, dirD d = some p → ∀ t H', H t = none → Ex H H' → PtAt H' t (low (sc (-1) p)) → Q (.ref t) H')
theorem ok_opposite (T : Txt K mg) : FnOk P w K mg base (L2.CX P w) 4 (a_opposite K) (d_opposite K) P_opposite (sp_opposite K) := by
  refine T.F_opposite.ok sc_opposite (fun vs H Q E h => ?_) (fun cdv A outer s H vs Q E hr h => ?_)
  · obtain ⟨_, _, rfl, _⟩ := h
    rfl
  · obtain ⟨v, d, rfl, hd, hf, kE, k⟩ := h
    refine ⟨_, (pss_cons (ps_asg (pe_call (ok_checked T) (hr.mono (by decide)) (by rfl) T.m_checked T.F_checked.kp (b_checked T) .nil (passes_call (takes_of rfl rfl rfl rfl) (fun _ _ _ _ h => h)) (pa_cons (pv 0) pa_nil)) (pg_tup (by rfl) (pgs_cons (pg_name (i := 1) sc_opposite.nd rfl (.inl rfl)) (pgs_cons (pg_name (i := 2) sc_opposite.nd rfl (.inl rfl)) pgs_nil))))
    (pss_one (ps_ret (pe_tup (pa_cons (pe_un un_neg (pv 1)) (pa_cons (pe_un un_neg (pv 2)) pa_nil)))))), ?_⟩
    rw [show L2.start N_opposite [v] = [some v, none, none] from rfl]
    try dsimp only [cxOf]
    walk_at "js"
    refine ⟨v, d, rfl, hd, hf, kE, fun p e1 t H1 h0 e01 ht => ?_⟩
    have ht' : H1 t = some (.tup [.int (low p).1, .int (low p).2]) := ht
    walk_at "js"
    refine ⟨sz_of (by simp), fun t2 hp_t2 => ?_⟩
    generalize g_t2 : upd H1 t2 _ = H2
    obtain ⟨e_H2, h_t2⟩ := gen_new hp_t2 g_t2
    walk_at "js"
    refine k p e1 t2 H2 (e01.free hp_t2) (e01.trans e_H2) ?_
    rw [low_opp]
    exact h_t2

theorem times_at {K : Fr1} {H : Hp} {t u : Addr} {p q : P2} {Q : VK} {E : XK} (ht : PtAt H t p) (hu : PtAt H u q) (np : nz p) (nq : nz q) (fp1 : fp 3000 p) (fq : fp 3000 q) (k : ∀ r H', H r = none → Ex H H' → PtAt H' r (low (mulC p q)) → Q (.ref r) H') : sp_times K [.ref t, .ref u] H Q E :=
  ⟨_, _, PtD p, PtD q, rfl, ht.dq, hu.dq, fun x e => by (rw [show dirD (PtD p) = some p from dirD_of np] at e; cases e; exact fp1), fun x e => by (rw [show dirD (PtD q) = some q from dirD_of nq] at e; cases e; exact fq), fun e => by (rw [show dirD (PtD p) = some p from dirD_of np] at e; cases e),
    fun x _ e => by (rw [show dirD (PtD q) = some q from dirD_of nq] at e; cases e), fun x y e1 e2 r H' h0 e h => by
      rw [show dirD (PtD p) = some p from dirD_of np] at e1
      rw [show dirD (PtD q) = some q from dirD_of nq] at e2
      cases e1
      cases e2
      exact k r H' h0 e h⟩
theorem ahead_at {K : Fr1} {H : Hp} {t u : Addr} {p q : P2} {Q : VK} {E : XK} (ht : PtAt H t p) (hu : PtAt H u q) (np : nz p) (nq : nz q) (fp1 : fp 3000 p) (fq : fp 3000 q) (k : ∀ H', Ex H H' → Q (.bl (earlierZ p q)) H') : sp_ahead K [.ref t, .ref u] H Q E :=
  ⟨_, _, PtD p, PtD q, rfl, ht.dq, hu.dq, fun x e => by (rw [show dirD (PtD p) = some p from dirD_of np] at e; cases e; exact fp1), fun x e => by (rw [show dirD (PtD q) = some q from dirD_of nq] at e; cases e; exact fq), fun e => by (rw [show dirD (PtD p) = some p from dirD_of np] at e; cases e),
    fun x _ e => by (rw [show dirD (PtD q) = some q from dirD_of nq] at e; cases e), fun x y e1 e2 H' e => by
      rw [show dirD (PtD p) = some p from dirD_of np] at e1
      rw [show dirD (PtD q) = some q from dirD_of nq] at e2
      cases e1
      cases e2
      exact k H' e⟩
theorem within_at {K : Fr1} {H : Hp} {t u w : Addr} {p q r : P2} {Q : VK} {E : XK} (ht : PtAt H t p) (hu : PtAt H u q) (hw : PtAt H w r) (np : nz p) (nq : nz q) (nr : nz r) (fp1 : fp 3000 p) (fq : fp 3000 q) (fr : fp 3000 r) (k : ∀ H', Ex H H' → Q (.bl (insideZ p q r)) H') : sp_within K [.ref t, .ref u, .ref w] H Q E :=
  ⟨_, _, _, PtD p, PtD q, PtD r, rfl, ht.dq, hu.dq, hw.dq, fun x e => by (rw [show dirD (PtD p) = some p from dirD_of np] at e; cases e; exact fp1), fun x e => by (rw [show dirD (PtD q) = some q from dirD_of nq] at e; cases e; exact fq), fun x e => by (rw [show dirD (PtD r) = some r from dirD_of nr] at e; cases e; exact fr),
    fun e => by (rw [show dirD (PtD p) = some p from dirD_of np] at e; cases e), fun x _ e => by (rw [show dirD (PtD q) = some q from dirD_of nq] at e; cases e), fun x y _ _ e => by (rw [show dirD (PtD r) = some r from dirD_of nr] at e; cases e), fun x y z e1 e2 e3 H' e => by
      rw [show dirD (PtD p) = some p from dirD_of np] at e1
      rw [show dirD (PtD q) = some q from dirD_of nq] at e2
      rw [show dirD (PtD r) = some r from dirD_of nr] at e3
      cases e1
      cases e2
      cases e3
      exact k H' e⟩
theorem un_at {K : Fr1} {H : Hp} {t : Addr} {p : P2} {Q : VK} {E : XK} {f : P2 → P2} {sp : Sp} (hsp : sp = fun vs H Q E => ∃ (v : V) (d : PyData), vs = [v] ∧ Dq K H v d ∧ (∀ p, dirD d = some p → fp 8000 p) ∧ (dirD d = none → Rz K "BadTurn" "value" v H E) ∧ (∀ p, dirD d = some p → ∀ t H', H t = none → Ex H H' → PtAt H' t (low (f p)) → Q (.ref t) H'))
    (ht : PtAt H t p) (np : nz p) (fp1 : fp 8000 p) (k : ∀ r H', H r = none → Ex H H' → PtAt H' r (low (f p)) → Q (.ref r) H') : sp [.ref t] H Q E := by
  rw [hsp]
  exact ⟨_, PtD p, rfl, ht.dq, fun x e => by (rw [show dirD (PtD p) = some p from dirD_of np] at e; cases e; exact fp1), fun e => by (rw [show dirD (PtD p) = some p from dirD_of np] at e; cases e), fun x e1 r H' h0 e h => by
    rw [show dirD (PtD p) = some p from dirD_of np] at e1
    cases e1
    exact k r H' h0 e h⟩
def sp_law_ring (K : Fr1) : Sp := fun vs H Q _ => ∃ (t1 t2 t3 t4 : Addr) (p q r b : P2), vs = [.ref t1, .ref t2, .ref t3, .ref t4] ∧ PtAt H t1 p ∧ PtAt H t2 q ∧ PtAt H t3 r ∧ PtAt H t4 b ∧ nz p ∧ nz q ∧ nz r ∧ nz b ∧ fp 200 p ∧ fp 200 q ∧ fp 200 r ∧ fp 200 b ∧ ∀ H', Ex H H' → Q (.bl true) H'
theorem ok_law_ring (T : Txt K mg) : FnOk P w K mg base (L2.CX P w) 6 (a_law_ring K) (d_law_ring K) P_law_ring (sp_law_ring K) := by
  refine T.F_law_ring.ok sc_law_ring (fun vs H Q E h => ?_) (fun cdv A outer s H vs Q E hr h => ?_)
  · obtain ⟨_, _, _, _, _, _, _, _, rfl, _⟩ := h
    rfl
  · obtain ⟨t1, t2, t3, t4, p, q, r, b, rfl, h1, h2, h3, h4, np, nq, nr, nb, f1, f2, f3, f4, k⟩ := h
    refine ⟨_, (pss_cons (ps_if (pt_cmpR op_ne (pe_call (ok_within T) (hr.mono (by decide)) (by rfl) T.m_within T.F_within.kp (b_within T) .nil passL (pa_cons (pe_call (ok_times T) (hr.mono (by decide)) (by rfl) T.m_times T.F_times.kp (b_times T) .nil passL (pa_cons (pv 0) (pa_cons (pv 3) pa_nil))) (pa_cons (pe_call (ok_times T) (hr.mono (by decide)) (by rfl) T.m_times T.F_times.kp (b_times T) .nil passL (pa_cons (pv 1) (pa_cons (pv 3) pa_nil))) (pa_cons (pe_call (ok_times T) (hr.mono (by decide)) (by rfl) T.m_times T.F_times.kp (b_times T) .nil passL (pa_cons (pv 2) (pa_cons (pv 3) pa_nil))) pa_nil)))) (pe_call (ok_within T) (hr.mono (by decide)) (by rfl) T.m_within T.F_within.kp (b_within T) .nil passL (pa_cons (pv 0) (pa_cons (pv 1) (pa_cons (pv 2) pa_nil)))) (nomark _)) (pss_one (ps_ret pe_bl)) pss_nil)
    (pss_cons (ps_if (PW.pt (pw_or (pt_cmpR (op_neD hr.units) (pe_call (ok_times T) (hr.mono (by decide)) (by rfl) T.m_times T.F_times.kp (b_times T) .nil passL (pa_cons (pe_call (ok_times T) (hr.mono (by decide)) (by rfl) T.m_times T.F_times.kp (b_times T) .nil passL (pa_cons (pv 0) (pa_cons (pv 1) pa_nil))) (pa_cons (pv 2) pa_nil))) (pe_call (ok_times T) (hr.mono (by decide)) (by rfl) T.m_times T.F_times.kp (b_times T) .nil passL (pa_cons (pv 0) (pa_cons (pe_call (ok_times T) (hr.mono (by decide)) (by rfl) T.m_times T.F_times.kp (b_times T) .nil passL (pa_cons (pv 1) (pa_cons (pv 2) pa_nil))) pa_nil))) (nomark _)) (pw_or1 (pt_cmpR (op_neD hr.units) (pe_call (ok_times T) (hr.mono (by decide)) (by rfl) T.m_times T.F_times.kp (b_times T) .nil passL (pa_cons (pv 0) (pa_cons (pe_call (ok_back T) (hr.mono (by decide)) (by rfl) T.m_back T.F_back.kp (b_back T) .nil passL (pa_cons (pv 0) pa_nil)) pa_nil))) (pe_tup (pa_cons pe_int (pa_cons pe_int pa_nil))) (nomark _))))) (pss_one (ps_ret pe_bl)) pss_nil)
    (Evl.pss_cut (ps_if (PW.pt (pw_and (pt_not (pt_val (pe_call (ok_law_same T) (hr.mono (by decide)) (by rfl) T.m__law_same T.F_law_same.kp (b_law_same T) .nil passL (pa_cons (pv 1) (pa_cons (pv 2) pa_nil))))) (pw_and1 (pt_cmpR op_eq (pe_call (ok_within T) (hr.mono (by decide)) (by rfl) T.m_within T.F_within.kp (b_within T) .nil passL (pa_cons (pv 0) (pa_cons (pv 1) (pa_cons (pv 2) pa_nil)))) (pe_call (ok_within T) (hr.mono (by decide)) (by rfl) T.m_within T.F_within.kp (b_within T) .nil passL (pa_cons (pv 0) (pa_cons (pv 2) (pa_cons (pv 1) pa_nil)))) (nomark _))))) (pss_one (ps_ret pe_bl)) pss_nil)
    (pss_cons (ps_set (i := 4) sc_law_ring.nd rfl (.inl rfl) (pe_lst (pa_cons (pe_call (ok_ahead T) (hr.mono (by decide)) (by rfl) T.m_ahead T.F_ahead.kp (b_ahead T) .nil passL (pa_cons (pv 0) (pa_cons (pv 1) pa_nil))) (pa_cons (pe_call (ok_ahead T) (hr.mono (by decide)) (by rfl) T.m_ahead T.F_ahead.kp (b_ahead T) .nil passL (pa_cons (pv 1) (pa_cons (pv 0) pa_nil))) (pa_cons (pe_cmpR (op_eqD hr.units) (pe_call (ok_least T) (hr.mono (by decide)) (by rfl) T.m_least T.F_least.kp (b_least T) .nil passL (pa_cons (pv 0) pa_nil)) (pe_call (ok_least T) (hr.mono (by decide)) (by rfl) T.m_least T.F_least.kp (b_least T) .nil passL (pa_cons (pv 1) pa_nil)) (nomark _)) pa_nil)))))
    (pss_one (ps_ret (pe_and (pe_cmpR op_eq (pe_callB call_len_seq (by rfl) T.n_len (by decide +kernel) (pa_cons (pe_lc (own := [("_law_flag", 5)]) (g := gName 5) (by rfl) sc_law_ring.nd (pi_list (pv 4)) (blkOk_by (N := N_law_ring) (sc := defScope s_law_ring) (by decide +kernel)) (fun _ _ _ _ _ => (pg_name (i := 5) sc_law_ring.nd rfl (.inl rfl))) (fun _ _ _ _ _ => (pts_one (pt_val (pv 5)))) (fun _ _ _ _ _ => (pv 5))) pa_nil)) pe_int (nomark _)) (pe_one (pe_cmpR (op_eqD hr.units) (pe_call (ok_opposite T) (hr.mono (by decide)) (by rfl) T.m_opposite T.F_opposite.kp (b_opposite T) .nil passL (pa_cons (pe_call (ok_opposite T) (hr.mono (by decide)) (by rfl) T.m_opposite T.F_opposite.kp (b_opposite T) .nil passL (pa_cons (pv 0) pa_nil)) pa_nil)) (pe_call (ok_least T) (hr.mono (by decide)) (by rfl) T.m_least T.F_least.kp (b_least T) .nil passL (pa_cons (pv 0) pa_nil)) (nomark _)))))))))), ?_⟩
    rw [show L2.start N_law_ring [.ref t1, .ref t2, .ref t3, .ref t4] = [some (.ref t1), some (.ref t2), some (.ref t3), some (.ref t4), none, none] from rfl]
    try dsimp only [cxOf]
    have lim : 1000 < sizeLine := by decide
    have up : ∀ {x : P2}, fp 200 x → fp 3000 x := fun h => fp_mono h (by decide)
    have fm : ∀ {x y : P2}, fp 200 x → fp 200 y → fp 500 (low (mulC x y)) := fun hx hy => fp_mono (fp_low (fp_mul hx hy)) (by decide)
    have u5 : ∀ {x : P2}, fp 500 x → fp 3000 x := fun h => fp_mono h (by decide)
    walk_at "js"
    refine times_at h1 h4 np nb (up f1) (up f4) fun a1 H1 a10 e1 ha1 => ?_
    walk_at "js"
    refine times_at (h2.mono e1) (h4.mono e1) nq nb (up f2) (up f4) fun a2 H2 a20 e2 ha2 => ?_
    have e02 := e1.trans e2
    walk_at "js"
    refine times_at (h3.mono e02) (h4.mono e02) nr nb (up f3) (up f4) fun a3 H3 a30 e3 ha3 => ?_
    have e03 := e02.trans e3
    walk_at "js"
    refine within_at (ha1.mono (e2.trans e3)) (ha2.mono e3) ha3 (low_nz (nz_mul np nb)) (low_nz (nz_mul nq nb)) (low_nz (nz_mul nr nb)) (u5 (fm f1 f4)) (u5 (fm f2 f4)) (u5 (fm f3 f4)) fun H4 e4 => ?_
    have e04 := e03.trans e4
    rw [inside_low (nz_mul np nb) (nz_mul nq nb) (nz_mul nr nb), inside_mul nb]
    walk_at "js"
    refine within_at (h1.mono e04) (h2.mono e04) (h3.mono e04) np nq nr (up f1) (up f2) (up f3) fun H5 e5 => ?_
    have e05 := e04.trans e5
    refine w_neB ?_
    rw [show (insideZ p q r != insideZ p q r) = false by simp]
    walk_at "js"
    refine times_at (h1.mono e05) (h2.mono e05) np nq (up f1) (up f2) fun b1 H6 b10 e6 hb1 => ?_
    have e06 := e05.trans e6
    walk_at "js"
    refine times_at hb1 (h3.mono e06) (low_nz (nz_mul np nq)) nr (u5 (fm f1 f2)) (up f3) fun b2 H7 b20 e7 hb2 => ?_
    have e07 := e06.trans e7
    walk_at "js"
    refine times_at (h2.mono e07) (h3.mono e07) nq nr (up f2) (up f3) fun b3 H8 b30 e8 hb3 => ?_
    have e08 := e07.trans e8
    walk_at "js"
    refine times_at (h1.mono e08) hb3 np (low_nz (nz_mul nq nr)) (up f1) (u5 (fm f2 f3)) fun b4 H9 b40 e9 hb4 => ?_
    have e09 := e08.trans e9
    refine w_neP (hb2.mono (e8.trans e9)).dq hb4.dq ?_
    rw [decide_eq_true (low_assoc np nq nr)]
    walk_at "js"
    refine un_at (f := conjC) (K := K) rfl (h1.mono e09) np (fp_mono f1 (by decide)) fun c1 C1 c10 g1 hc1 => ?_
    walk_at "js"
    refine times_at (h1.mono (e09.trans g1)) hc1 np (low_nz (nz_conj np)) (up f1) (fp_mono (fp_low (show fp 200 (conjC p) from ⟨f1.1, ft_neg f1.2⟩)) (by decide)) fun c2 C2 c20 g2 hc2 => ?_
    walk_at "js"
    refine ⟨sz_of (by simp), fun c3 hp_c3 => ?_⟩
    generalize g_c3 : upd C2 c3 _ = C3
    obtain ⟨e_C3, h_c3⟩ := gen_new hp_c3 g_c3
    walk_at "js"
    have g03 := e09.trans (g1.trans (g2.trans e_C3))
    refine w_neP (hc2.mono e_C3).dq (show PtAt C3 c3 (1, 0) from h_c3).dq ?_
    rw [decide_eq_true (low_one np)]
    walk_at "js"
    refine Evl.q_cut (M := fun σ' H' => Ex C3 H' ∧ σ' = [some (.ref t1), some (.ref t2), some (.ref t3), some (.ref t4), none, none]) ?_ ?_
    · walk_at "js"
      refine ⟨t2, t3, q, r, rfl, h2.mono g03, h3.mono g03, fp_mono f2 (by decide), fp_mono f3 (by decide), ?_⟩
      cases cs : sameZ q r with
      | true =>
        walk_at "js"
        exact ⟨Evl.Ex.refl _, rfl⟩
      | false =>
        walk_at "js"
        refine within_at (h1.mono g03) (h2.mono g03) (h3.mono g03) np nq nr (up f1) (up f2) (up f3) fun D1 d1 => ?_
        have g04 := g03.trans d1
        walk_at "js"
        refine within_at (h1.mono g04) (h3.mono g04) (h2.mono g04) np nr nq (up f1) (up f3) (up f2) fun D2 d2 => ?_
        refine w_eqB ?_
        rw [show (insideZ p q r == insideZ p r q) = false from beq_false_of_ne (ring_share np nq nr cs)]
        walk_at "js"
        exact ⟨d1.trans d2, rfl⟩
    · rintro σ' D1 ⟨d1, rfl⟩
      have g1' := g03.trans d1
      walk_at "js"
      refine ahead_at (h1.mono g1') (h2.mono g1') np nq (up f1) (up f2) fun D2 d2 => ?_
      have g2' := g1'.trans d2
      walk_at "js"
      refine ahead_at (h2.mono g2') (h1.mono g2') nq np (up f2) (up f1) fun D3 d3 => ?_
      have g3' := g2'.trans d3
      walk_at "js"
      refine un_at (f := fun p => p) (K := K) rfl (h1.mono g3') np (fp_mono f1 (by decide)) fun l1 D4 l10 d4 hl1 => ?_
      have g4' := g3'.trans d4
      walk_at "js"
      refine un_at (f := fun p => p) (K := K) rfl (h2.mono g4') nq (fp_mono f2 (by decide)) fun l2 D5 l20 d5 hl2 => ?_
      have g5' := g4'.trans d5
      refine w_eqP (hl1.mono d5).dq hl2.dq ?_
      walk_at "js"
      refine ⟨sz_of (by simp), fun ol hp_ol => ?_⟩
      generalize g_ol : upd D5 ol _ = D6
      obtain ⟨e_D6, h_ol⟩ := gen_new hp_ol g_ol
      walk_at "js"
      have hone := one_of np nq
      generalize earlierZ p q = z1 at *
      generalize earlierZ q p = z2 at *
      generalize decide (low p = low q) = z3 at *
      refine ⟨ol, rfl, ⟨_, SqL.of h_ol⟩, ?_⟩
      have hlen : ((List.range 3).filterMap fun i : Nat => (([z1, z2, z3])[i]?).bind fun b => if b = true then some true else none).length = 1 := by
        cases z1 <;> cases z2 <;> cases z3 <;> first | rfl | (exact absurd hone (by decide))
      refine lc_gen (fun H v (b : Bool) => v = .bl b) (fun _ _ _ _ _ q => q) (walk_list.mono (fun H' e => SqL.of (e.get h_ol)) fun _ _ _ _ _ _ y => y) (fun i : Nat => (([z1, z2, z3])[i]?).bind fun b => if b = true then some true else none) (by show 3 < sizeLine; decide) (fun Dl i u B1 B2 k1 k2 hD hi b0 hx' yy kk1 kk2 => ?_) (fun Dl B1 hD b1' hacc => ?_)
      · obtain ⟨rfl, hy⟩ := yy
        obtain ⟨z, hz, rfl⟩ : ∃ z, ([z1, z2, z3])[i]? = some z ∧ u = .bl z := by
          match i, hi, hy with
          | 0, _, hy => cases hy; exact ⟨_, rfl, rfl⟩
          | 1, _, hy => cases hy; exact ⟨_, rfl, rfl⟩
          | 2, _, hy => cases hy; exact ⟨_, rfl, rfl⟩
        rw [hz] at kk1 kk2
        walk_at "js"
        walk_at "wp"
        walk_at "js"
        cases z with
        | true =>
          walk_at "js"
          exact kk1 true _ _ rfl (Evl.Ex.refl _) rfl
        | false =>
          rw [if_neg Bool.false_ne_true]
          exact kk2 rfl _ (Evl.Ex.refl _)
      · obtain ⟨acc, hacc, hpr⟩ := hacc
        have al : acc.length = 1 := by
          have := hpr.length
          rw [show ([V.bl z1, V.bl z2, V.bl z3] : List V).length = 3 from rfl, hlen] at this
          exact this
        have g6' := g5'.trans (e_D6.trans b1')
        walk_at "js"
        rw [al, decide_eq_true (show ((1 : Nat) : Int) = 1 from rfl)]
        walk_at "js"
        refine un_at (f := sc (-1)) (K := K) rfl (h1.mono g6') np (fp_mono f1 (by decide)) fun m1 E1 m10 x1 hm1 => ?_
        walk_at "js"
        refine un_at (f := sc (-1)) (K := K) rfl hm1 (low_nz (nz_opp np)) (fp_mono (fp_low (fp_opp f1)) (by decide)) fun m2 E2 m20 x2 hm2 => ?_
        rw [low_opp2 np] at hm2
        walk_at "js"
        refine un_at (f := fun p => p) (K := K) rfl (h1.mono (g6'.trans (x1.trans x2))) np (fp_mono f1 (by decide)) fun m3 E3 m30 x3 hm3 => ?_
        refine w_eqP (hm2.mono x3).dq hm3.dq ?_
        rw [decide_eq_true rfl]
        exact k E3 (g6'.trans (x1.trans (x2.trans x3)))

def sp_law_strange (K : Fr1) : Sp := fun vs H Q _ => ∃ (s L : Addr) (ns : List Int), vs = [.ref s] ∧ H s = some (StO s L) ∧ H L = some (.lst (ns.map V.int)) ∧ ∀ v H', Ex H H' → OddP K (newOf H H') v → Q v H'
theorem ok_law_strange (T : Txt K mg) : FnOk P w K mg base (L2.CX P w) 3 (a_law_strange K) (d_law_strange K) P_law_strange (sp_law_strange K) := by
  refine T.F_law_strange.ok sc_law_strange (fun vs H Q E h => ?_) (fun cdv A outer s H vs Q E hr h => ?_)
  · obtain ⟨_, _, _, rfl, _⟩ := h
    rfl
  · obtain ⟨s, L, ns, rfl, hs, hL, k⟩ := h
    refine ⟨_, (pss_cons (ps_set (i := 1) sc_law_strange.nd rfl (.inl rfl) (pe_ix ix_list (pe_lst (pa_cons (pe_lst pa_nil) (pa_cons (pe_tup pa_nil) (pa_cons pe_dnewK pa_nil)))) (pe_call (ok_law_draw T) (hr.mono (by decide)) (by rfl) T.m__law_draw T.F_law_draw.kp (b_law_draw T) .nil passL (pa_cons (pv 0) (pa_cons pe_int pa_nil))) (fun _ _ => rfl)))
    (pss_cons (ps_for (passes_of rfl) rfl (pi_range1 (by rfl) T.n_range (pa_cons pe_int pa_nil)) (pg_name (i := 2) sc_law_strange.nd rfl (.inl rfl)) (pss_one (ps_if (pt_val (pe_callB call_isi (by rfl) T.n_isinstance (by decide +kernel) (pa_cons (pv 1) (pa_cons (pe_bltn (v := .ty "list") (by rfl) T.n_list (by decide +kernel) rfl) pa_nil)))) (pss_one (ps_set (i := 1) sc_law_strange.nd rfl (.inl rfl) (pe_lst (pa_cons (pv 1) pa_nil)))) (pss_one (ps_if (pt_val (pe_callB call_isi (by rfl) T.n_isinstance (by decide +kernel) (pa_cons (pv 1) (pa_cons (pe_bltn (v := .ty "tuple") (by rfl) T.n_tuple (by decide +kernel) rfl) pa_nil)))) (pss_one (ps_set (i := 1) sc_law_strange.nd rfl (.inl rfl) (pe_tup (pa_cons (pv 1) pa_nil)))) (pss_one (ps_set (i := 1) sc_law_strange.nd rfl (.inl rfl) (pe_disp (pps_cons pe_str (pv 1) pps_nil) rfl rfl (by decide) (by decide)))))))))
    (pss_cons (ps_set (i := 3) sc_law_strange.nd rfl (.inl rfl) (pe_lst (pa_cons pe_non (pa_cons pe_bl (pa_cons pe_bl (pa_cons pe_str (pa_cons pe_str (pa_cons pe_str (pa_cons (pe_tup pa_nil) (pa_cons (pe_tup (pa_cons pe_int (pa_cons pe_int pa_nil))) (pa_cons (pe_tup (pa_cons pe_int pa_nil)) (pa_cons (pe_tup (pa_cons pe_int (pa_cons pe_int (pa_cons pe_int pa_nil)))) (pa_cons (pe_lst (pa_cons pe_int (pa_cons pe_int pa_nil))) (pa_cons (pe_tup (pa_cons pe_bl (pa_cons pe_int pa_nil))) (pa_cons (pe_tup (pa_cons pe_int (pa_cons pe_bl pa_nil))) pa_nil)))))))))))))))
    (Evl.pss_cut (ps_set (i := 3) sc_law_strange.nd rfl (.inl rfl) (pe_op op_cat (pv 3) (pe_lst (pa_cons (pe_tup (pa_cons pe_int (pa_cons pe_non pa_nil))) (pa_cons (pe_tup (pa_cons pe_str (pa_cons pe_str pa_nil))) (pa_cons pe_dnewK (pa_cons (pe_tup (pa_cons (pe_tup (pa_cons pe_int (pa_cons pe_int pa_nil))) (pa_cons (pe_tup (pa_cons pe_int (pa_cons pe_int pa_nil))) pa_nil))) (pa_cons (pe_lst (pa_cons (pe_tup (pa_cons pe_int (pa_cons pe_int pa_nil))) pa_nil)) (pa_cons pe_int (pa_cons (pe_op op_pow pe_int pe_int) (pa_cons (pv 1) pa_nil)))))))))))
    (pss_one (ps_ret (pe_ix ix_list (pv 3) (pe_call (ok_law_draw T) (hr.mono (by decide)) (by rfl) T.m__law_draw T.F_law_draw.kp (b_law_draw T) .nil passL (pa_cons (pv 0) (pa_cons (pe_callB call_len_seq (by rfl) T.n_len (by decide +kernel) (pa_cons (pv 3) pa_nil)) pa_nil))) (fun _ _ => rfl)))))))), ?_⟩
    rw [show L2.start N_law_strange [.ref s] = [some (.ref s), none, none, none] from rfl]
    try dsimp only [cxOf]
    have lim : 1000 < sizeLine := by decide
    walk_at "js"
    refine ⟨sz_of (by simp), fun p1 hp_p1 => ?_⟩
    generalize g_p1 : upd H p1 _ = H1
    obtain ⟨e_H1, h_p1⟩ := gen_new hp_p1 g_p1
    walk_at "js"
    refine ⟨sz_of (by simp), fun p2 hp_p2 => ?_⟩
    generalize g_p2 : upd H1 p2 _ = H2
    obtain ⟨e_H2, h_p2⟩ := gen_new hp_p2 g_p2
    walk_at "js"
    intro p3 hp_p3
    generalize g_p3 : upd H2 p3 _ = H3
    obtain ⟨e_H3, h_p3⟩ := gen_new hp_p3 g_p3
    walk_at "js"
    refine ⟨sz_of (by simp), fun p4 hp_p4 => ?_⟩
    generalize g_p4 : upd H3 p4 _ = H4
    obtain ⟨e_H4, h_p4⟩ := gen_new hp_p4 g_p4
    walk_at "js"
    have x4 : Ex H H4 := e_H1.trans (e_H2.trans (e_H3.trans e_H4))
    refine ⟨s, L, ns, 3, rfl, x4.get hs, x4.get hL, by omega, by omega, fun q q0 q1 => ?_⟩
    have hel : ∃ v, atI [V.ref p1, .ref p2, .ref p3] q = some v ∧ OddP K (newOf H H4) v ∧ (∃ d, Dq K (newOf H H4) v d ∧ (tyn d = "list" ∨ tyn d = "tuple" ∨ tyn d = "dict")) := by
      rcases (show q = 0 ∨ q = 1 ∨ q = 2 by omega) with rfl | rfl | rfl
      · exact ⟨.ref p1, rfl, odp_l (newOf_at hp_p1 ((e_H2.trans (e_H3.trans e_H4)).get h_p1)) .nil, _, .lst (newOf_at hp_p1 ((e_H2.trans (e_H3.trans e_H4)).get h_p1)) .nil, .inl rfl⟩
      · exact ⟨.ref p2, rfl, odp_t (newOf_at (e_H1.free hp_p2) ((e_H3.trans e_H4).get h_p2)) .nil rfl, _, .tup (newOf_at (e_H1.free hp_p2) ((e_H3.trans e_H4).get h_p2)) .nil, .inr (.inl rfl)⟩
      · exact ⟨.ref p3, rfl, odp_d (newOf_at ((e_H1.trans e_H2).free hp_p3) (e_H4.get h_p3)) (by decide), _, .dct (ds := []) (newOf_at ((e_H1.trans e_H2).free hp_p3) (e_H4.get h_p3)), .inr (.inr rfl)⟩
    obtain ⟨v0, hv0, ho0, d0, hd0, ht0⟩ := hel
    refine w_ixL (SqL.of h_p4) hv0 ?_
    walk_at "js"
    refine ⟨36, rfl, by decide, by decide, ?_⟩
    refine for_range (lo := 0) (n := 36) (fun i σ' H' => Ex H H' ∧ ∃ (v : V) (d : PyData) (v2 : Option V), σ' = [some (.ref s), some v, v2, none] ∧ OddP K (newOf H H') v ∧ Dq K (newOf H H') v d ∧ (tyn d = "list" ∨ tyn d = "tuple" ∨ tyn d = "dict")) ?_ ?_ ?_
    · exact ⟨x4, v0, d0, _, rfl, ho0, hd0, ht0⟩
    · rintro i σ' H5 hi ⟨e5, v, d, v2, rfl, ho, hd, ht⟩
      walk_at "js"
      refine w_isi (hd.mono newOf_sub) (kit_list d) ?_
      walk_at "js"
      cases c1 : (tyn d == "list") with
      | true =>
        walk_at "js"
        refine ⟨sz_of (by simp), fun p hp_p => ?_⟩
        generalize g_p : upd H5 p _ = H6
        obtain ⟨e_H6, h_p⟩ := gen_new hp_p g_p
        walk_at "js"
        exact ⟨e5.trans e_H6, .ref p, _, _, rfl, odp_l (newOf_at (e5.free hp_p) h_p) (.cons (hd.mono (newOf_ex e_H6)) .nil), .lst (newOf_at (e5.free hp_p) h_p) (.cons (hd.mono (newOf_ex e_H6)) .nil), .inl rfl⟩
      | false =>
        walk_at "js"
        refine w_isi (hd.mono newOf_sub) (kit_tuple d) ?_
        walk_at "js"
        cases c2 : (tyn d == "tuple") with
        | true =>
          walk_at "js"
          refine ⟨sz_of (by simp), fun p hp_p => ?_⟩
          generalize g_p : upd H5 p _ = H6
          obtain ⟨e_H6, h_p⟩ := gen_new hp_p g_p
          walk_at "js"
          exact ⟨e5.trans e_H6, .ref p, _, _, rfl, odp_t (newOf_at (e5.free hp_p) h_p) (.cons (hd.mono (newOf_ex e_H6)) .nil) (by cases d <;> rfl), .tup (newOf_at (e5.free hp_p) h_p) (.cons (hd.mono (newOf_ex e_H6)) .nil), .inr (.inl rfl)⟩
        | false =>
          walk_at "js"
          intro p hp
          walk_at "js"
          refine ⟨upd_same, [(.inr "start", v)], rfl, (by show 1 ≤ 15; omega), ?_⟩
          rw [upd_upd, show mergeK ([] : List (Key × V)) [(.inr "start", v)] = [(.inr "start", v)] from rfl]
          generalize g6 : upd H5 p _ = H6
          obtain ⟨e6, h6⟩ := gen_new hp g6
          walk_at "js"
          exact ⟨e5.trans e6, .ref p, _, _, rfl, odp_d (newOf_at (e5.free hp) h6) (by show 1 ≤ 1; omega), .dct (ds := []) (newOf_at (e5.free hp) h6), .inr (.inr rfl)⟩
    · rintro σ' B0 ⟨b0, u, du, v2, rfl, hu, _, _⟩
      walk_at "js"
      refine ⟨sz_of (by simp), fun a1 hp_a1 => ?_⟩
      generalize g_a1 : upd B0 a1 _ = B1
      obtain ⟨e_B1, h_a1⟩ := gen_new hp_a1 g_a1
      walk_at "js"
      refine ⟨sz_of (by simp), fun a2 hp_a2 => ?_⟩
      generalize g_a2 : upd B1 a2 _ = B2
      obtain ⟨e_B2, h_a2⟩ := gen_new hp_a2 g_a2
      walk_at "js"
      refine ⟨sz_of (by simp), fun a3 hp_a3 => ?_⟩
      generalize g_a3 : upd B2 a3 _ = B3
      obtain ⟨e_B3, h_a3⟩ := gen_new hp_a3 g_a3
      walk_at "js"
      refine ⟨sz_of (by simp), fun a4 hp_a4 => ?_⟩
      generalize g_a4 : upd B3 a4 _ = B4
      obtain ⟨e_B4, h_a4⟩ := gen_new hp_a4 g_a4
      walk_at "js"
      refine ⟨sz_of (by simp), fun a5 hp_a5 => ?_⟩
      generalize g_a5 : upd B4 a5 _ = B5
      obtain ⟨e_B5, h_a5⟩ := gen_new hp_a5 g_a5
      walk_at "js"
      refine ⟨sz_of (by simp), fun a6 hp_a6 => ?_⟩
      generalize g_a6 : upd B5 a6 _ = B6
      obtain ⟨e_B6, h_a6⟩ := gen_new hp_a6 g_a6
      walk_at "js"
      refine ⟨sz_of (by simp), fun a7 hp_a7 => ?_⟩
      generalize g_a7 : upd B6 a7 _ = B7
      obtain ⟨e_B7, h_a7⟩ := gen_new hp_a7 g_a7
      walk_at "js"
      refine ⟨sz_of (by simp), fun m1 hp_m1 => ?_⟩
      generalize g_m1 : upd B7 m1 _ = B8
      obtain ⟨e_B8, h_m1⟩ := gen_new hp_m1 g_m1
      walk_at "js"
      have x18 := e_B2.trans (e_B3.trans (e_B4.trans (e_B5.trans (e_B6.trans (e_B7.trans e_B8)))))
      have x08 := e_B1.trans x18
      have A : ∀ v ∈ ([.non, .bl true, .bl false, .str "", .str "push", .str "10", .ref a1, .ref a2, .ref a3, .ref a4, .ref a5, .ref a6, .ref a7] : List V), OddP K (newOf H B8) v := fun v hv => by
        have o1 : OddP K (newOf H B8) (.ref a1) := odp_t (newOf_at ((b0).free hp_a1) (x18.get h_a1)) .nil rfl
        have o2 : OddP K (newOf H B8) (.ref a2) := odp_t (newOf_at ((b0.trans e_B1).free hp_a2) ((e_B3.trans (e_B4.trans (e_B5.trans (e_B6.trans (e_B7.trans e_B8))))).get h_a2)) (.cons (.int 0) (.cons (.int 0) .nil)) rfl
        have o3 : OddP K (newOf H B8) (.ref a3) := odp_t (newOf_at (((b0.trans e_B1).trans e_B2).free hp_a3) ((e_B4.trans (e_B5.trans (e_B6.trans (e_B7.trans e_B8)))).get h_a3)) (.cons (.int 1) .nil) rfl
        have o4 : OddP K (newOf H B8) (.ref a4) := odp_t (newOf_at ((((b0.trans e_B1).trans e_B2).trans e_B3).free hp_a4) ((e_B5.trans (e_B6.trans (e_B7.trans e_B8))).get h_a4)) (.cons (.int 1) (.cons (.int 2) (.cons (.int 3) .nil))) rfl
        have o5 : OddP K (newOf H B8) (.ref a5) := odp_l (newOf_at (((((b0.trans e_B1).trans e_B2).trans e_B3).trans e_B4).free hp_a5) ((e_B6.trans (e_B7.trans e_B8)).get h_a5)) (.cons (.int 1) (.cons (.int 0) .nil))
        have o6 : OddP K (newOf H B8) (.ref a6) := odp_t (newOf_at ((((((b0.trans e_B1).trans e_B2).trans e_B3).trans e_B4).trans e_B5).free hp_a6) ((e_B7.trans e_B8).get h_a6)) (.cons (.bl true) (.cons (.int 0) .nil)) rfl
        have o7 : OddP K (newOf H B8) (.ref a7) := odp_t (newOf_at (((((((b0.trans e_B1).trans e_B2).trans e_B3).trans e_B4).trans e_B5).trans e_B6).free hp_a7) (e_B8.get h_a7)) (.cons (.int 0) (.cons (.bl false) .nil)) rfl
        simp only [List.mem_cons, List.not_mem_nil, or_false] at hv
        rcases hv with rfl | rfl | rfl | rfl | rfl | rfl | rfl | rfl | rfl | rfl | rfl | rfl | rfl
        · exact odp_f rfl .non rfl
        · exact odp_f rfl (.bl _) rfl
        · exact odp_f rfl (.bl _) rfl
        · exact odp_f rfl (.str _) rfl
        · exact odp_f rfl (.str _) rfl
        · exact odp_f rfl (.str _) rfl
        · exact o1
        · exact o2
        · exact o3
        · exact o4
        · exact o5
        · exact o6
        · exact o7
      refine Evl.q_cut (M := fun σ' H' => Ex B8 H' ∧ ∃ (m : Addr) (X : List V), H' m = some (.lst X) ∧ X ≠ [] ∧ X.length ≤ 50 ∧ (∀ v ∈ X, OddP K (newOf H H') v) ∧ σ' = [some (.ref s), some u, v2, some (.ref m)]) ?_ ?_
      · walk_at "js"
        refine ⟨sz_of (by simp), fun b1 hp_b1 => ?_⟩
        generalize g_b1 : upd B8 b1 _ = C1
        obtain ⟨e_C1, h_b1⟩ := gen_new hp_b1 g_b1
        walk_at "js"
        refine ⟨sz_of (by simp), fun b2 hp_b2 => ?_⟩
        generalize g_b2 : upd C1 b2 _ = C2
        obtain ⟨e_C2, h_b2⟩ := gen_new hp_b2 g_b2
        walk_at "js"
        intro b3 hp_b3
        generalize g_b3 : upd C2 b3 _ = C3
        obtain ⟨e_C3, h_b3⟩ := gen_new hp_b3 g_b3
        walk_at "js"
        refine ⟨sz_of (by simp), fun i1 hp_i1 => ?_⟩
        generalize g_i1 : upd C3 i1 _ = C4
        obtain ⟨e_C4, h_i1⟩ := gen_new hp_i1 g_i1
        walk_at "js"
        refine ⟨sz_of (by simp), fun i2 hp_i2 => ?_⟩
        generalize g_i2 : upd C4 i2 _ = C5
        obtain ⟨e_C5, h_i2⟩ := gen_new hp_i2 g_i2
        walk_at "js"
        refine ⟨sz_of (by simp), fun b4 hp_b4 => ?_⟩
        generalize g_b4 : upd C5 b4 _ = C6
        obtain ⟨e_C6, h_b4⟩ := gen_new hp_b4 g_b4
        walk_at "js"
        refine ⟨sz_of (by simp), fun i3 hp_i3 => ?_⟩
        generalize g_i3 : upd C6 i3 _ = C7
        obtain ⟨e_C7, h_i3⟩ := gen_new hp_i3 g_i3
        walk_at "js"
        refine ⟨sz_of (by simp), fun b5 hp_b5 => ?_⟩
        generalize g_b5 : upd C7 b5 _ = C8
        obtain ⟨e_C8, h_b5⟩ := gen_new hp_b5 g_b5
        walk_at "js"
        refine ⟨sz_of (by simp), fun m2 hp_m2 => ?_⟩
        generalize g_m2 : upd C8 m2 _ = C9
        obtain ⟨e_C9, h_m2⟩ := gen_new hp_m2 g_m2
        walk_at "js"
        have y9 := e_C4.trans (e_C5.trans (e_C6.trans (e_C7.trans (e_C8.trans e_C9))))
        have y29 := e_C3.trans y9
        have y19 := e_C2.trans y29
        have y09 := e_C1.trans y19
        refine ⟨m1, m2, _, _, rfl, rfl, y09.get h_m1, h_m2, by show 13 + 8 ≤ sizeLine; omega, fun m3 hm3 => ?_⟩
        generalize g7 : upd C9 m3 _ = D1
        obtain ⟨e7, h7⟩ := gen_new hm3 g7
        walk_at "js"
        refine ⟨y09.trans e7, m3, _, h7, by simp, by show 21 ≤ 50; omega, fun v hv => ?_, rfl⟩
        rcases List.mem_append.mp hv with hv | hv
        · exact (A v hv).mono (newOf_ex (y09.trans e7))
        · have o1 : OddP K (newOf H C9) (.ref b1) := odp_t (newOf_at ((b0.trans x08).free hp_b1) (y19.get h_b1)) (.cons (.int 1) (.cons .non .nil)) rfl
          have o2 : OddP K (newOf H C9) (.ref b2) := odp_t (newOf_at (((b0.trans x08).trans e_C1).free hp_b2) (y29.get h_b2)) (.cons (.str _) (.cons (.str _) .nil)) rfl
          have o3 : OddP K (newOf H C9) (.ref b3) := odp_d (newOf_at ((((b0.trans x08).trans e_C1).trans e_C2).free hp_b3) (y9.get h_b3)) (by decide)
          have j1 : PtAt (newOf H C9) i1 (1, 0) := newOf_at (((((b0.trans x08).trans e_C1).trans e_C2).trans e_C3).free hp_i1) ((e_C5.trans (e_C6.trans (e_C7.trans (e_C8.trans e_C9)))).get h_i1)
          have j2 : PtAt (newOf H C9) i2 (0, 1) := newOf_at ((((((b0.trans x08).trans e_C1).trans e_C2).trans e_C3).trans e_C4).free hp_i2) ((e_C6.trans (e_C7.trans (e_C8.trans e_C9))).get h_i2)
          have j3 : PtAt (newOf H C9) i3 (1, 0) := newOf_at ((((((((b0.trans x08).trans e_C1).trans e_C2).trans e_C3).trans e_C4).trans e_C5).trans e_C6).free hp_i3) ((e_C8.trans e_C9).get h_i3)
          have o4 : OddP K (newOf H C9) (.ref b4) := odp_t (newOf_at (((((((b0.trans x08).trans e_C1).trans e_C2).trans e_C3).trans e_C4).trans e_C5).free hp_b4) ((e_C7.trans (e_C8.trans e_C9)).get h_b4)) (.cons j1.dq (.cons j2.dq .nil)) rfl
          have o5 : OddP K (newOf H C9) (.ref b5) := odp_l (newOf_at (((((((((b0.trans x08).trans e_C1).trans e_C2).trans e_C3).trans e_C4).trans e_C5).trans e_C6).trans e_C7).free hp_b5) (e_C9.get h_b5)) (.cons j3.dq .nil)
          simp only [List.mem_cons, List.not_mem_nil, or_false] at hv
          refine OddP.mono (newOf_ex e7) ?_
          rcases hv with rfl | rfl | rfl | rfl | rfl | rfl | rfl | rfl
          · exact o1
          · exact o2
          · exact o3
          · exact o4
          · exact o5
          · exact odp_f rfl (.int _) rfl
          · exact odp_f rfl (.int _) rfl
          · exact hu.mono (newOf_ex (x08.trans y09))
      · rintro σ' B9 ⟨b9, m, X, hm, hne, hl, hX, rfl⟩
        have e09 := b0.trans (x08.trans b9)
        have hpos := List.length_pos_iff.mpr hne
        walk_at "js"
        refine ⟨s, L, ns, _, rfl, e09.get hs, e09.get hL, by omega, by omega, fun r r0 r1 => ?_⟩
        have hx := List.getElem?_eq_getElem (show r.toNat < X.length by omega)
        refine w_ixL (SqL.of hm) (at_nat (j := r.toNat) (by omega) hx) ?_
        exact k _ B9 e09 (hX _ (List.mem_of_getElem? hx))

def sp_law_due_within (K : Fr1) : Sp := fun vs H Q _ => ∃ (wh : Int) (g a : Addr) (v1 v2 v3 : V) (d1 d2 d3 : PyData), vs = [.ref a, .int wh, .ref g] ∧ 0 ≤ wh ∧ wh ≤ 5 ∧ H g = some (.lst [v1, v2, v3]) ∧ Dq K H v1 d1 ∧ Dq K H v2 d2 ∧ Dq K H v3 d3 ∧
  (∀ p, dirD d1 = some p → fp 400 p) ∧ (∀ p, dirD d2 = some p → fp 400 p) ∧ (∀ p, dirD d3 = some p → fp 400 p) ∧ AnsAt H a v1 v2 v3 (ansF dueF wh.toNat d1 d2 d3) ∧ ∀ r H', Ex H H' → AnsAt H' r v1 v2 v3 (ansF withF wh.toNat d1 d2 d3) → Q (.ref r) H'
theorem ok_law_due_within (T : Txt K mg) : FnOk P w K mg base (L2.CX P w) 2 (a_law_due_within K) (d_law_due_within K) P_law_due_within (sp_law_due_within K) := by
  refine T.F_law_due_within.ok sc_law_due_within (fun vs H Q E h => ?_) (fun cdv A outer s H vs Q E hr h => ?_)
  · obtain ⟨_, _, _, _, _, _, _, _, _, rfl, _⟩ := h
    rfl
  · obtain ⟨wh, g, a, v1, v2, v3, d1, d2, d3, rfl, w0, w5, hg, hd1, hd2, hd3, hf1, hf2, hf3, ha, k⟩ := h
    refine ⟨_, (pss_cons (ps_if (PW.pt (pw_and (pt_cmpR op_eq (pv 1) pe_int (nomark _)) (pw_and (pt_cmpR op_eq (pe_ix ix_tup (pv 0) pe_int (fun _ _ => rfl)) pe_str (nomark _)) (pw_and1 (pt_val (pe_call (ok_law_same T) (hr.mono (by decide)) (by rfl) T.m__law_same T.F_law_same.kp (b_law_same T) .nil passL (pa_cons (pe_ix ix_list (pv 2) pe_int (fun _ _ => rfl)) (pa_cons (pe_ix ix_list (pv 2) pe_int (fun _ _ => rfl)) pa_nil)))))))) (pss_one (ps_ret (pe_tup (pa_cons pe_str (pa_cons pe_bl pa_nil))))) pss_nil)
    (pss_one (ps_ret (pv 0)))), ?_⟩
    rw [show L2.start N_law_due_within [.ref a, .int wh, .ref g] = [some (.ref a), some (.int wh), some (.ref g)] from rfl]
    try dsimp only [cxOf]
    have lim : 1000 < sizeLine := by decide
    walk_at "js"
    by_cases c : wh = 5
    case neg =>
      rw [decide_eq_false c]
      walk_at "js"
      refine k a H (Evl.Ex.refl _) ?_
      have : ansF withF wh.toNat d1 d2 d3 = ansF dueF wh.toNat d1 d2 d3 := by
        unfold ansF
        rcases (show wh = 0 ∨ wh = 1 ∨ wh = 2 ∨ wh = 3 ∨ wh = 4 by omega) with rfl | rfl | rfl | rfl | rfl <;> rfl
      rw [this]
      exact ha
    subst c
    rw [decide_eq_true rfl]
    have ha : AnsAt H a v1 v2 v3 (ansF dueF 5 d1 d2 d3) := ha
    have k : ∀ r H', Ex H H' → AnsAt H' r v1 v2 v3 (ansF withF 5 d1 d2 d3) → Q (.ref r) H' := k
    unfold ansF at ha k
    cases c1 : dirD d1 with
    | none =>
      rw [c1] at ha k
      have ha' : H a = some (.tup [.str "turn", v1]) := ha
      walk_at "js"
      exact k a H (Evl.Ex.refl _) ha
    | some p =>
    rw [c1] at ha k
    cases c2 : dirD d2 with
    | none =>
      rw [c2] at ha k
      have ha' : H a = some (.tup [.str "turn", v2]) := ha
      walk_at "js"
      exact k a H (Evl.Ex.refl _) ha
    | some q =>
    rw [c2] at ha k
    cases c3 : dirD d3 with
    | none =>
      rw [c3] at ha k
      have ha' : H a = some (.tup [.str "turn", v3]) := ha
      walk_at "js"
      exact k a H (Evl.Ex.refl _) ha
    | some r =>
    rw [c3] at ha k
    have ha' : H a = some (.tup [.str "told", .bl (dueF p q r)]) := ha
    have k5 : ∀ z H', Ex H H' → H' z = some (.tup [.str "told", .bl (withF p q r)]) → Q (.ref z) H' := k
    obtain ⟨t2, rfl, ht2⟩ : ∃ t, v2 = .ref t ∧ PtAt H t q := dq_pt (by rw [(dirD_some c2).1] at hd2; exact hd2)
    obtain ⟨t3, rfl, ht3⟩ : ∃ t, v3 = .ref t ∧ PtAt H t r := dq_pt (by rw [(dirD_some c3).1] at hd3; exact hd3)
    walk_at "js"
    refine ⟨t2, t3, q, r, rfl, ht2, ht3, fp_mono (hf2 q c2) (by decide), fp_mono (hf3 r c3) (by decide), ?_⟩
    cases c : sameZ q r with
    | true =>
      walk_at "js"
      refine ⟨sz_of (by simp), fun z hp_z => ?_⟩
      generalize g_z : upd H z _ = H1
      obtain ⟨e_H1, h_z⟩ := gen_new hp_z g_z
      walk_at "js"
      refine k5 z H1 e_H1 ?_
      rw [h_z]
      unfold withF
      rw [if_pos c]
    | false =>
      walk_at "js"
      refine k5 a H (Evl.Ex.refl _) ?_
      rw [ha']
      unfold withF
      rw [if_neg (by rw [c]; exact Bool.false_ne_true)]

def sp_law_is_integer (K : Fr1) : Sp := fun vs H Q _ => ∃ (v : V) (d : PyData), vs = [v] ∧ Dq K H v d ∧ Q (.bl (isI d)) H
theorem ok_law_is_integer (T : Txt K mg) : FnOk P w K mg base (L2.CX P w) 1 (a_law_is_integer K) (d_law_is_integer K) P_law_is_integer (sp_law_is_integer K) := by
  refine T.F_law_is_integer.ok sc_law_is_integer (fun vs H Q E h => ?_) (fun cdv A outer s H vs Q E hr h => ?_)
  · obtain ⟨_, _, rfl, _⟩ := h
    rfl
  · obtain ⟨v, d, rfl, hd, k⟩ := h
    refine ⟨_, (pss_one (ps_ret (pe_and (pe_callB call_isi (by rfl) T.n_isinstance (by decide +kernel) (pa_cons (pv 0) (pa_cons (pe_bltn (v := .ty "int") (by rfl) T.n_int (by decide +kernel) rfl) pa_nil))) (pe_one (pe_not (pe_callB call_isi (by rfl) T.n_isinstance (by decide +kernel) (pa_cons (pv 0) (pa_cons (pe_bltn (v := .ty "bool") (by rfl) T.n_bool (by decide +kernel) rfl) pa_nil)))))))), ?_⟩
    rw [show L2.start N_law_is_integer [v] = [some v] from rfl]
    try dsimp only [cxOf]
    rw [← isI_ty d] at k
    walk_at "js"
    refine w_isi hd (kit_int d) ?_
    refine w_bl ?_
    cases e : (tyn d == "int" || tyn d == "bool") with
    | false =>
      rw [e] at k
      walk_at "js"
      exact k
    | true =>
      rw [e] at k
      walk_at "js"
      refine w_isi hd (kit_bool d) ?_
      walk_at "js"
      exact k
theorem law_isint {K : Fr1} {H : Hp} {x : Int} {Q : VK} {E : XK} (k : Q (.bl true) H) : sp_law_is_integer K [.int x] H Q E := ⟨_, .int _, rfl, .int _, k⟩

def isPr : PyData → Bool
  | .tuple [.int _, .int _] => true
  | _ => false
def sp_law_is_pair (K : Fr1) : Sp := fun vs H Q _ => ∃ (v : V) (d : PyData), vs = [v] ∧ Dq K H v d ∧ ∀ H', Ex H H' → Q (.bl (isPr d)) H'
theorem ok_law_is_pair (T : Txt K mg) : FnOk P w K mg base (L2.CX P w) 2 (a_law_is_pair K) (d_law_is_pair K) P_law_is_pair (sp_law_is_pair K) := by
  refine T.F_law_is_pair.ok sc_law_is_pair (fun vs H Q E h => ?_) (fun cdv A outer s H vs Q E hr h => ?_)
  · obtain ⟨_, _, rfl, _⟩ := h
    rfl
  · obtain ⟨v, d, rfl, hd, k⟩ := h
    refine ⟨_, (pss_one (ps_ret (pe_and (pe_callB call_isi (by rfl) T.n_isinstance (by decide +kernel) (pa_cons (pv 0) (pa_cons (pe_bltn (v := .ty "tuple") (by rfl) T.n_tuple (by decide +kernel) rfl) pa_nil))) (pe_and (pe_cmpR op_eq (pe_callB call_len_seq (by rfl) T.n_len (by decide +kernel) (pa_cons (pv 0) pa_nil)) pe_int (nomark _)) (pe_one (pe_callB (cr_all rfl) (by rfl) T.n_all (by decide +kernel) (pa_cons (pe_lc (own := [("_law_part", 1)]) (g := gName 1) (by rfl) sc_law_is_pair.nd (pi_seq (pv 0)) (blkOk_by (N := N_law_is_pair) (sc := defScope s_law_is_pair) (by decide +kernel)) (fun _ _ _ _ _ => (pg_name (i := 1) sc_law_is_pair.nd rfl (.inl rfl))) (fun _ _ _ _ _ => pts_nil) (fun _ _ _ _ _ => (pe_call (ok_law_is_integer T) (hr.mono (by decide)) (by rfl) T.m__law_is_integer T.F_law_is_integer.kp (b_law_is_integer T) .nil passL (pa_cons (pv 1) pa_nil)))) pa_nil))))))), ?_⟩
    rw [show L2.start N_law_is_pair [v] = [some v, none] from rfl]
    try dsimp only [cxOf]
    have lim : 1000 < sizeLine := by decide
    walk_at "js"
    refine w_isi hd (kit_tuple d) ?_
    cases e : (tyn d == "tuple") with
    | false =>
      walk_at "js"
      have z : isPr d = false := by cases d <;> first | rfl | (cases e)
      rw [z] at k
      exact k H (Evl.Ex.refl _)
    | true =>
      obtain ⟨ds, rfl⟩ : ∃ ds, d = .tuple ds := by cases d <;> first | exact ⟨_, rfl⟩ | cases e
      cases hd with
      | @tup a xs _ ha hx =>
        have hl := hx.len
        walk_at "js"
        by_cases c2 : xs.length = 2
        case neg =>
          rw [decide_eq_false (by omega)]
          have z : isPr (.tuple ds) = false := by
            unfold isPr
            split
            · rename_i h
              cases h
              simp at hl
              omega
            · rfl
          rw [z] at k
          walk_at "js"
          exact k H (Evl.Ex.refl _)
        match xs, ds, hx, c2 with
        | [x, y], [a1, b1], .cons h1 (.cons h2 .nil), _ =>
          walk_at "js"
          rw [decide_eq_true (show ((([x, y] : List V).length : Nat) : Int) = 2 from rfl)]
          walk_at "js"
          refine w_seqX (.inr ha) fun J wk => ?_
          refine lc_gen (fun H v (b : Bool) => v = .bl b) (fun _ _ _ _ _ q => q) wk (fun i : Nat => ([isI a1, isI b1])[i]?) (by show 2 < sizeLine; decide) (fun Dl i u B1 B2 k1 k2 hD hi b0 hx' yy kk1 kk2 => ?_) (fun Dl B1 hD b1' hacc => ?_)
          · obtain ⟨rfl, hy⟩ := yy
            walk_at "js"
            walk_at "wp"
            walk_at "js"
            match i, hi, hy with
            | 0, _, hy =>
              cases hy
              exact ⟨_, a1, rfl, h1.mono b0, kk1 _ _ _ rfl (Evl.Ex.refl _) rfl⟩
            | 1, _, hy =>
              cases hy
              exact ⟨_, b1, rfl, h2.mono b0, kk1 _ _ _ rfl (Evl.Ex.refl _) rfl⟩
          · obtain ⟨acc, hacc, hp⟩ := hacc
            have hp : Paired (fun v (b : Bool) => v = .bl b) acc [isI a1, isI b1] := hp
            have := bools_of hp
            rw [this] at hacc
            walk_at "js"
            refine ⟨Dl, _, rfl, SqL.of hacc, ?_⟩
            have z : ([isI a1, isI b1]).all id = isPr (.tuple [a1, b1]) := by cases a1 <;> cases b1 <;> rfl
            rw [z]
            exact k B1 b1'

def sp_law_is_direction (K : Fr1) : Sp := fun vs H Q _ => ∃ (v : V) (d : PyData), vs = [v] ∧ Dq K H v d ∧ ∀ H', Ex H H' → Q (.bl (dirD d).isSome) H'
theorem ok_law_is_direction (T : Txt K mg) : FnOk P w K mg base (L2.CX P w) 3 (a_law_is_direction K) (d_law_is_direction K) P_law_is_direction (sp_law_is_direction K) := by
  refine T.F_law_is_direction.ok sc_law_is_direction (fun vs H Q E h => ?_) (fun cdv A outer s H vs Q E hr h => ?_)
  · obtain ⟨_, _, rfl, _⟩ := h
    rfl
  · obtain ⟨v, d, rfl, hd, k⟩ := h
    refine ⟨_, (pss_one (ps_ret (pe_and (pe_call (ok_law_is_pair T) (hr.mono (by decide)) (by rfl) T.m__law_is_pair T.F_law_is_pair.kp (b_law_is_pair T) .nil passL (pa_cons (pv 0) pa_nil)) (pe_one (pe_cmpR (op_neD hr.units) (pv 0) (pe_tup (pa_cons pe_int (pa_cons pe_int pa_nil))) (nomark _)))))), ?_⟩
    rw [show L2.start N_law_is_direction [v] = [some v] from rfl]
    try dsimp only [cxOf]
    have lim : 1000 < sizeLine := by decide
    walk_at "js"
    refine ⟨v, d, rfl, hd, fun H1 e1 => ?_⟩
    cases c : isPr d with
    | false =>
      have z : (dirD d).isSome = false := dirD_no fun i j h => by rw [h] at c; cases c
      rw [z] at k
      walk_at "js"
      exact k H1 e1
    | true =>
      obtain ⟨i, j, rfl⟩ : ∃ i j, d = .tuple [.int i, .int j] := by
        unfold isPr at c
        split at c
        · exact ⟨_, _, rfl⟩
        · cases c
      walk_at "js"
      refine ⟨sz_of (by simp), fun z hp_z => ?_⟩
      generalize g_z : upd H1 z _ = H2
      obtain ⟨e_H2, h_z⟩ := gen_new hp_z g_z
      walk_at "js"
      refine w_neP (p := (i, j)) (q := (0, 0)) (hd.mono (e1.trans e_H2)) (show PtAt H2 z (0, 0) from h_z).dq ?_
      have hk : (dirD (.tuple [.int i, .int j])).isSome = !decide (((i, j) : P2) = (0, 0)) := by
        unfold dirD
        by_cases c1 : i = 0 <;> by_cases c2 : j = 0 <;> simp [c1, c2]
      rw [hk] at k
      exact k H2 (e1.trans e_H2)

def sp_law_gcd : Sp := fun vs H Q _ => ∃ (a b : Int), vs = [.int a, .int b] ∧ ∀ H', Ex H H' → Q (.int ((Nat.gcd a.natAbs b.natAbs : Nat) : Int)) H'
theorem ok_law_gcd (T : Txt K mg) : FnOk P w K mg base (L2.CX P w) 1 (a_law_gcd K) (d_law_gcd K) P_law_gcd (sp_law_gcd) := by
  refine T.F_law_gcd.ok sc_law_gcd (fun vs H Q E h => ?_) (fun cdv A outer s H vs Q E hr h => ?_)
  · obtain ⟨_, _, rfl, _⟩ := h
    rfl
  · obtain ⟨a, b, rfl, k⟩ := h
    refine ⟨_, (pss_cons (ps_set (i := 0) sc_law_gcd.nd rfl (.inl rfl) (pe_callB call_abs (by rfl) T.n_abs (by decide +kernel) (pa_cons (pv 0) pa_nil)))
    (pss_cons (ps_set (i := 1) sc_law_gcd.nd rfl (.inl rfl) (pe_callB call_abs (by rfl) T.n_abs (by decide +kernel) (pa_cons (pv 1) pa_nil)))
    (pss_cons (ps_while (passes_of rfl) (pt_cmpR op_gt (pv 1) pe_int (nomark _)) (pss_one (ps_par (i := 0) (j := 1) (by rfl) sc_law_gcd.nd rfl rfl (by decide) rfl rfl (pa_cons (pv 1) (pa_cons (pe_op op_mod (pe_callTy call_int1 (by rfl) T.n_int (by decide +kernel) (pa_cons (pv 0) pa_nil)) (pv 1)) pa_nil)) (by rfl))))
    (pss_one (ps_ret (pv 0)))))), ?_⟩
    rw [show L2.start N_law_gcd [.int a, .int b] = [some (.int a), some (.int b)] from rfl]
    try dsimp only [cxOf]
    have lim : 1000 < sizeLine := by decide
    have ab : ∀ x : Int, (if x < 0 then -x else x) = ((x.natAbs : Nat) : Int) := fun x => by
      split <;> omega
    walk_at "js"
    refine ⟨a, rfl, ?_⟩
    rw [ab]
    walk_at "js"
    refine ⟨b, rfl, ?_⟩
    rw [ab]
    walk_at "js"
    refine while_at (fun m σ' H' => H' = H ∧ ∃ x y : Nat, m = y ∧ Nat.gcd x y = Nat.gcd a.natAbs b.natAbs ∧ σ' = [some (.int (x : Int)), some (.int (y : Int))]) ⟨_, rfl, _, _, rfl, rfl, rfl⟩ (fun m σ' H' h => ?_)
    obtain ⟨rfl, x, y, rfl, hg, rfl⟩ := h
    walk_at "js"
    rcases Nat.eq_zero_or_pos m with c | c
    · subst c
      rw [decide_eq_false (by omega)]
      rw [Nat.gcd_zero_right] at hg
      walk_at "js"
      rw [hg]
      exact k _ (Evl.Ex.refl _)
    · rw [decide_eq_true (by omega)]
      walk_at "js"
      refine ⟨fun σ' H'' => H'' = H' ∧ σ' = [some (.int (m : Int)), some (.int ((x : Int) % (m : Int)))], ?_, ?_⟩
      · rintro σ' H'' ⟨rfl, rfl⟩
        refine ⟨x % m, Nat.mod_lt _ c, rfl, m, x % m, rfl, ?_, rfl⟩
        rw [← hg, Nat.gcd_comm m, ← Nat.gcd_rec, Nat.gcd_comm]
      · walk_at "js"
        exact ⟨rfl, rfl⟩

def sp_law_least : Sp := fun vs H Q _ => ∃ (t : Addr) (p : P2), vs = [.ref t] ∧ PtAt H t p ∧ nz p ∧ fp 8000 p ∧ ∀ r H', H r = none → Ex H H' → PtAt H' r (low p) → Q (.ref r) H'
theorem ok_law_least (T : Txt K mg) : FnOk P w K mg base (L2.CX P w) 2 (a_law_least K) (d_law_least K) P_law_least (sp_law_least) := by
  refine T.F_law_least.ok sc_law_least (fun vs H Q E h => ?_) (fun cdv A outer s H vs Q E hr h => ?_)
  · obtain ⟨_, _, rfl, _⟩ := h
    rfl
  · obtain ⟨t, p, rfl, ht, hp, hf, k⟩ := h
    refine ⟨_, (pss_cons (ps_set (i := 1) sc_law_least.nd rfl (.inl rfl) (pe_call (ok_law_gcd T) (hr.mono (by decide)) (by rfl) T.m__law_gcd T.F_law_gcd.kp (b_law_gcd T) .nil passL (pa_cons (pe_ix ix_tup (pv 0) pe_int (fun _ _ => rfl)) (pa_cons (pe_ix ix_tup (pv 0) pe_int (fun _ _ => rfl)) pa_nil))))
    (pss_one (ps_ret (pe_tup (pa_cons (pe_op op_fdivW (pe_ix ix_tup (pv 0) pe_int (fun _ _ => rfl)) (pv 1)) (pa_cons (pe_op op_fdivW (pe_ix ix_tup (pv 0) pe_int (fun _ _ => rfl)) (pv 1)) pa_nil)))))), ?_⟩
    rw [show L2.start N_law_least [.ref t] = [some (.ref t), none] from rfl]
    try dsimp only [cxOf]
    have lim : 1000 < sizeLine := by decide
    have ht' : H t = some (.tup [.int p.1, .int p.2]) := ht
    walk_at "js"
    refine ⟨p.1, p.2, rfl, fun H1 e1 => ?_⟩
    rw [show (((Nat.gcd p.1.natAbs p.2.natAbs : Nat)) : Int) = gZ p from rfl]
    have ht1 := e1.get ht'
    walk_at "js"
    refine ⟨_, _, rfl, rfl, ft_divW (gZ_pos hp) (ft_g hf.1 hf.2 hp) (by decide), ?_⟩
    walk_at "js"
    refine ⟨_, _, rfl, rfl, ft_divW (gZ_pos hp) (ft_g hf.1 hf.2 hp) (by decide), ?_⟩
    walk_at "js"
    refine ⟨sz_of (by simp), fun r hp_r => ?_⟩
    generalize g_r : upd H1 r _ = H2
    obtain ⟨e_H2, h_r⟩ := gen_new hp_r g_r
    walk_at "js"
    exact k r H2 (e1.free hp_r) (e1.trans e_H2) h_r

def sp_law_times : Sp := fun vs H Q _ => ∃ (t u : Addr) (p q : P2), vs = [.ref t, .ref u] ∧ PtAt H t p ∧ PtAt H u q ∧ fp 8000 p ∧ fp 8000 q ∧ ∀ r H', H r = none → Ex H H' → PtAt H' r (mulC p q) → Q (.ref r) H'
theorem ok_law_times (T : Txt K mg) : FnOk P w K mg base (L2.CX P w) 1 (a_law_times K) (d_law_times K) P_law_times (sp_law_times) := by
  refine T.F_law_times.ok sc_law_times (fun vs H Q E h => ?_) (fun cdv A outer s H vs Q E hr h => ?_)
  · obtain ⟨_, _, _, _, rfl, _⟩ := h
    rfl
  · obtain ⟨t, u, p, q, rfl, ht, hu, f1, f2, k⟩ := h
    refine ⟨_, (pss_one (ps_ret (pe_tup (pa_cons (pe_op op_sub (pe_op op_mulW (pe_ix ix_tup (pv 0) pe_int (fun _ _ => rfl)) (pe_ix ix_tup (pv 1) pe_int (fun _ _ => rfl))) (pe_op op_mulW (pe_ix ix_tup (pv 0) pe_int (fun _ _ => rfl)) (pe_ix ix_tup (pv 1) pe_int (fun _ _ => rfl)))) (pa_cons (pe_op op_add (pe_op op_mulW (pe_ix ix_tup (pv 0) pe_int (fun _ _ => rfl)) (pe_ix ix_tup (pv 1) pe_int (fun _ _ => rfl))) (pe_op op_mulW (pe_ix ix_tup (pv 0) pe_int (fun _ _ => rfl)) (pe_ix ix_tup (pv 1) pe_int (fun _ _ => rfl)))) pa_nil))))), ?_⟩
    rw [show L2.start N_law_times [.ref t, .ref u] = [some (.ref t), some (.ref u)] from rfl]
    try dsimp only [cxOf]
    have lim : 1000 < sizeLine := by decide
    have ht' : H t = some (.tup [.int p.1, .int p.2]) := ht
    have hu' : H u = some (.tup [.int q.1, .int q.2]) := hu
    walk_at "js"
    refine ⟨_, _, rfl, rfl, ft_mulW f1.1 f2.1 (by decide), ?_⟩
    walk_at "js"
    refine ⟨_, _, rfl, rfl, ft_mulW f1.2 f2.2 (by decide), ?_⟩
    walk_at "js"
    refine ⟨_, _, rfl, rfl, ft_mulW f1.1 f2.2 (by decide), ?_⟩
    walk_at "js"
    refine ⟨_, _, rfl, rfl, ft_mulW f1.2 f2.1 (by decide), ?_⟩
    walk_at "js"
    refine ⟨sz_of (by simp), fun r hp_r => ?_⟩
    generalize g_r : upd H r _ = H1
    obtain ⟨e_H1, h_r⟩ := gen_new hp_r g_r
    walk_at "js"
    exact k r H1 hp_r e_H1 h_r

def sp_law_late : Sp := fun vs H Q _ => ∃ (t : Addr) (p : P2), vs = [.ref t] ∧ PtAt H t p ∧ Q (.bl (lateZ p)) H
theorem ok_law_late (T : Txt K mg) : FnOk P w K mg base (L2.CX P w) 1 (a_law_late K) (d_law_late K) P_law_late (sp_law_late) := by
  refine T.F_law_late.ok sc_law_late (fun vs H Q E h => ?_) (fun cdv A outer s H vs Q E hr h => ?_)
  · obtain ⟨_, _, rfl, _⟩ := h
    rfl
  · obtain ⟨t, p, rfl, ht, k⟩ := h
    refine ⟨_, (pss_one (ps_ret (pe_or (pe_cmpR op_lt (pe_ix ix_tup (pv 0) pe_int (fun _ _ => rfl)) pe_int (nomark _)) (pe_one (pe_and (pe_cmpR op_eq (pe_ix ix_tup (pv 0) pe_int (fun _ _ => rfl)) pe_int (nomark _)) (pe_one (pe_cmpR op_lt (pe_ix ix_tup (pv 0) pe_int (fun _ _ => rfl)) pe_int (nomark _)))))))), ?_⟩
    rw [show L2.start N_law_late [.ref t] = [some (.ref t)] from rfl]
    try dsimp only [cxOf]
    have ht' : H t = some (.tup [.int p.1, .int p.2]) := ht
    unfold lateZ at k
    walk_at "js"
    cases c1 : decide (p.2 < 0) with
    | true =>
      rw [c1] at k
      walk_at "js"
      exact k
    | false =>
      rw [c1] at k
      walk_at "js"
      cases c2 : decide (p.2 = 0) with
      | false =>
        rw [c2] at k
        walk_at "js"
        exact k
      | true =>
        rw [c2] at k
        walk_at "js"
        exact k

def sp_law_before : Sp := fun vs H Q _ => ∃ (t u : Addr) (p q : P2), vs = [.ref t, .ref u] ∧ PtAt H t p ∧ PtAt H u q ∧ fp 20000 p ∧ fp 20000 q ∧ Q (.bl (earlierZ p q)) H
theorem ok_law_before (T : Txt K mg) : FnOk P w K mg base (L2.CX P w) 2 (a_law_before K) (d_law_before K) P_law_before (sp_law_before) := by
  refine T.F_law_before.ok sc_law_before (fun vs H Q E h => ?_) (fun cdv A outer s H vs Q E hr h => ?_)
  · obtain ⟨_, _, _, _, rfl, _⟩ := h
    rfl
  · obtain ⟨t, u, p, q, rfl, ht, hu, f1, f2, k⟩ := h
    refine ⟨_, (pss_cons (ps_if (pt_cmpR op_ne (pe_call (ok_law_late T) (hr.mono (by decide)) (by rfl) T.m__law_late T.F_law_late.kp (b_law_late T) .nil passL (pa_cons (pv 0) pa_nil)) (pe_call (ok_law_late T) (hr.mono (by decide)) (by rfl) T.m__law_late T.F_law_late.kp (b_law_late T) .nil passL (pa_cons (pv 1) pa_nil)) (nomark _)) (pss_one (ps_ret (pe_call (ok_law_late T) (hr.mono (by decide)) (by rfl) T.m__law_late T.F_law_late.kp (b_law_late T) .nil passL (pa_cons (pv 1) pa_nil)))) pss_nil)
    (pss_one (ps_ret (pe_cmpR op_gt (pe_op op_mulW (pe_ix ix_tup (pv 0) pe_int (fun _ _ => rfl)) (pe_ix ix_tup (pv 1) pe_int (fun _ _ => rfl))) (pe_op op_mulW (pe_ix ix_tup (pv 0) pe_int (fun _ _ => rfl)) (pe_ix ix_tup (pv 1) pe_int (fun _ _ => rfl))) (nomark _))))), ?_⟩
    rw [show L2.start N_law_before [.ref t, .ref u] = [some (.ref t), some (.ref u)] from rfl]
    try dsimp only [cxOf]
    have ht' : H t = some (.tup [.int p.1, .int p.2]) := ht
    have hu' : H u = some (.tup [.int q.1, .int q.2]) := hu
    walk_at "js"
    refine ⟨t, p, rfl, ht, ?_⟩
    walk_at "js"
    refine ⟨u, q, rfl, hu, ?_⟩
    refine w_neB ?_
    unfold earlierZ crossZ at k
    by_cases c : lateZ p = lateZ q
    · rw [if_pos c] at k
      rw [show (lateZ p != lateZ q) = false by rw [c]; simp]
      walk_at "js"
      refine ⟨_, _, rfl, rfl, ft_mulW f1.1 f2.2 (by decide), ?_⟩
      walk_at "js"
      refine ⟨_, _, rfl, rfl, ft_mulW f1.2 f2.1 (by decide), ?_⟩
      walk_at "js"
      rw [show decide (p.2 * q.1 < p.1 * q.2) = decide (0 < p.1 * q.2 - p.2 * q.1) from decide_eq_decide.mpr (by omega)]
      exact k
    · rw [if_neg c] at k
      rw [show (lateZ p != lateZ q) = true from bne_iff_ne.mpr c]
      walk_at "js"
      exact ⟨u, q, rfl, hu, k⟩

def sp_law_back : Sp := fun vs H Q _ => ∃ (t : Addr) (p : P2), vs = [.ref t] ∧ PtAt H t p ∧ ∀ r H', H r = none → Ex H H' → PtAt H' r (conjC p) → Q (.ref r) H'
theorem ok_law_back (T : Txt K mg) : FnOk P w K mg base (L2.CX P w) 1 (a_law_back K) (d_law_back K) P_law_back (sp_law_back) := by
  refine T.F_law_back.ok sc_law_back (fun vs H Q E h => ?_) (fun cdv A outer s H vs Q E hr h => ?_)
  · obtain ⟨_, _, rfl, _⟩ := h
    rfl
  · obtain ⟨t, p, rfl, ht, k⟩ := h
    refine ⟨_, (pss_one (ps_ret (pe_tup (pa_cons (pe_ix ix_tup (pv 0) pe_int (fun _ _ => rfl)) (pa_cons (pe_un un_neg (pe_ix ix_tup (pv 0) pe_int (fun _ _ => rfl))) pa_nil))))), ?_⟩
    rw [show L2.start N_law_back [.ref t] = [some (.ref t)] from rfl]
    try dsimp only [cxOf]
    have lim : 1000 < sizeLine := by decide
    have ht' : H t = some (.tup [.int p.1, .int p.2]) := ht
    walk_at "js"
    refine ⟨sz_of (by simp), fun r hp_r => ?_⟩
    generalize g_r : upd H r _ = H1
    obtain ⟨e_H1, h_r⟩ := gen_new hp_r g_r
    walk_at "js"
    exact k r H1 hp_r e_H1 h_r

def sp_law_inside : Sp := fun vs H Q _ => ∃ (t u r : Addr) (p q z : P2), vs = [.ref t, .ref u, .ref r] ∧ PtAt H t p ∧ PtAt H u q ∧ PtAt H r z ∧ fp 3000 p ∧ fp 3000 q ∧ fp 3000 z ∧ ∀ H', Ex H H' → Q (.bl (lawIn p q z)) H'
theorem ok_law_inside (T : Txt K mg) : FnOk P w K mg base (L2.CX P w) 3 (a_law_inside K) (d_law_inside K) P_law_inside (sp_law_inside) := by
  refine T.F_law_inside.ok sc_law_inside (fun vs H Q E h => ?_) (fun cdv A outer s H vs Q E hr h => ?_)
  · obtain ⟨_, _, _, _, _, _, rfl, _⟩ := h
    rfl
  · obtain ⟨t, u, r, p, q, z, rfl, ht, hu, hr0, f1, f2, f3, k⟩ := h
    refine ⟨_, (pss_cons (ps_if (PW.pt (pw_or (pt_val (pe_call (ok_law_same T) (hr.mono (by decide)) (by rfl) T.m__law_same T.F_law_same.kp (b_law_same T) .nil passL (pa_cons (pv 0) (pa_cons (pv 1) pa_nil)))) (pw_or1 (pt_val (pe_call (ok_law_same T) (hr.mono (by decide)) (by rfl) T.m__law_same T.F_law_same.kp (b_law_same T) .nil passL (pa_cons (pv 0) (pa_cons (pv 2) pa_nil))))))) (pss_one (ps_ret pe_bl)) pss_nil)
    (pss_cons (ps_if (pt_val (pe_call (ok_law_same T) (hr.mono (by decide)) (by rfl) T.m__law_same T.F_law_same.kp (b_law_same T) .nil passL (pa_cons (pv 1) (pa_cons (pv 2) pa_nil)))) (pss_one (ps_ret pe_bl)) pss_nil)
    (pss_cons (ps_set (i := 3) sc_law_inside.nd rfl (.inl rfl) (pe_call (ok_law_back T) (hr.mono (by decide)) (by rfl) T.m__law_back T.F_law_back.kp (b_law_back T) .nil passL (pa_cons (pv 1) pa_nil)))
    (pss_one (ps_ret (pe_call (ok_law_before T) (hr.mono (by decide)) (by rfl) T.m__law_before T.F_law_before.kp (b_law_before T) .nil passL (pa_cons (pe_call (ok_law_times T) (hr.mono (by decide)) (by rfl) T.m__law_times T.F_law_times.kp (b_law_times T) .nil passL (pa_cons (pv 0) (pa_cons (pv 3) pa_nil))) (pa_cons (pe_call (ok_law_times T) (hr.mono (by decide)) (by rfl) T.m__law_times T.F_law_times.kp (b_law_times T) .nil passL (pa_cons (pv 2) (pa_cons (pv 3) pa_nil))) pa_nil)))))))), ?_⟩
    rw [show L2.start N_law_inside [.ref t, .ref u, .ref r] = [some (.ref t), some (.ref u), some (.ref r), none] from rfl]
    try dsimp only [cxOf]
    have lim : 1000 < sizeLine := by decide
    unfold lawIn at k
    walk_at "js"
    refine ⟨t, u, p, q, rfl, ht, hu, fp_mono f1 (by decide), fp_mono f2 (by decide), ?_⟩
    cases c1 : sameZ p q with
    | true =>
      rw [c1, if_pos (.inl rfl)] at k
      walk_at "js"
      exact k H (Evl.Ex.refl _)
    | false =>
    walk_at "js"
    refine ⟨t, r, p, z, rfl, ht, hr0, fp_mono f1 (by decide), fp_mono f3 (by decide), ?_⟩
    cases c2 : sameZ p z with
    | true =>
      rw [c2, if_pos (.inr rfl)] at k
      walk_at "js"
      exact k H (Evl.Ex.refl _)
    | false =>
    rw [c1, c2, if_neg (by simp)] at k
    walk_at "js"
    refine ⟨u, r, q, z, rfl, hu, hr0, fp_mono f2 (by decide), fp_mono f3 (by decide), ?_⟩
    cases c3 : sameZ q z with
    | true =>
      rw [c3, if_pos rfl] at k
      walk_at "js"
      exact k H (Evl.Ex.refl _)
    | false =>
    rw [c3, if_neg Bool.false_ne_true] at k
    walk_at "js"
    refine ⟨u, q, rfl, hu, fun b H1 hb0 e1 hb => ?_⟩
    have fb : fp 3000 (conjC q) := ⟨f2.1, ft_neg f2.2⟩
    walk_at "js"
    refine ⟨t, b, p, _, rfl, ht.mono e1, hb, fp_mono f1 (by decide), fp_mono fb (by decide), fun x H2 hx0 e2 hx => ?_⟩
    walk_at "js"
    refine ⟨r, b, z, _, rfl, hr0.mono (e1.trans e2), hb.mono e2, fp_mono f3 (by decide), fp_mono fb (by decide), fun y H3 hy0 e3 hy => ?_⟩
    rw [← tb_eq] at hx hy
    refine ⟨x, y, _, _, rfl, hx.mono e3, hy, fp_mono (fp_tb f1 f2) (by decide), fp_mono (fp_tb f3 f2) (by decide), ?_⟩
    exact k H3 (e1.trans (e2.trans e3))

def sp_law_due (K : Fr1) : Sp := fun vs H Q _ => ∃ (wh : Int) (g : Addr) (v1 v2 v3 : V) (d1 d2 d3 : PyData), vs = [.int wh, .ref g] ∧ 0 ≤ wh ∧ wh ≤ 5 ∧ H g = some (.lst [v1, v2, v3]) ∧ Dq K H v1 d1 ∧ Dq K H v2 d2 ∧ Dq K H v3 d3 ∧
  (∀ p, dirD d1 = some p → fp 400 p) ∧ (∀ p, dirD d2 = some p → fp 400 p) ∧ (∀ p, dirD d3 = some p → fp 400 p) ∧ ∀ r H', Ex H H' → AnsAt H' r v1 v2 v3 (ansF dueF wh.toNat d1 d2 d3) → Q (.ref r) H'
theorem ok_law_due (T : Txt K mg) : FnOk P w K mg base (L2.CX P w) 5 (a_law_due K) (d_law_due K) P_law_due (sp_law_due K) := by
  refine T.F_law_due.ok sc_law_due (fun vs H Q E h => ?_) (fun cdv A outer s H vs Q E hr h => ?_)
  · obtain ⟨_, _, _, _, _, _, _, _, rfl, _⟩ := h
    rfl
  · obtain ⟨wh, g, v1, v2, v3, d1, d2, d3, rfl, w0, w5, hg, hd1, hd2, hd3, hf1, hf2, hf3, k⟩ := h
    refine ⟨_, (pss_cons (ps_asg (pv 1) (pg_lst rfl (pgs_cons (pg_name (i := 2) sc_law_due.nd rfl (.inl rfl)) (pgs_cons (pg_name (i := 3) sc_law_due.nd rfl (.inl rfl)) (pgs_cons (pg_name (i := 4) sc_law_due.nd rfl (.inl rfl)) pgs_nil)))))
    (pss_cons (ps_set (i := 5) sc_law_due.nd rfl (.inl rfl) (pe_slice sl_list (pv 1) po_none (po_some (pe_ix ix_list (pe_lst (pa_cons pe_int (pa_cons pe_int (pa_cons pe_int (pa_cons pe_int (pa_cons pe_int (pa_cons pe_int pa_nil))))))) (pv 0) (fun _ _ => rfl)))))
    (pss_cons (ps_for (passes_of rfl) rfl (pi_list (pv 5)) (pg_name (i := 6) sc_law_due.nd rfl (.inl rfl)) (pss_one (ps_if (pt_not (pt_val (pe_call (ok_law_is_direction T) (hr.mono (by decide)) (by rfl) T.m__law_is_direction T.F_law_is_direction.kp (b_law_is_direction T) .nil passL (pa_cons (pv 6) pa_nil)))) (pss_one (ps_ret (pe_tup (pa_cons pe_str (pa_cons (pv 6) pa_nil))))) pss_nil)))
    (pss_cons (ps_if (pt_cmpR op_eq (pv 0) pe_int (nomark _)) (pss_one (ps_ret (pe_tup (pa_cons pe_str (pa_cons (pe_call (ok_law_least T) (hr.mono (by decide)) (by rfl) T.m__law_least T.F_law_least.kp (b_law_least T) .nil passL (pa_cons (pv 2) pa_nil)) pa_nil))))) pss_nil)
    (pss_cons (ps_if (pt_cmpR op_eq (pv 0) pe_int (nomark _)) (pss_one (ps_ret (pe_tup (pa_cons pe_str (pa_cons (pe_call (ok_law_least T) (hr.mono (by decide)) (by rfl) T.m__law_least T.F_law_least.kp (b_law_least T) .nil passL (pa_cons (pe_call (ok_law_times T) (hr.mono (by decide)) (by rfl) T.m__law_times T.F_law_times.kp (b_law_times T) .nil passL (pa_cons (pv 2) (pa_cons (pv 3) pa_nil))) pa_nil)) pa_nil))))) pss_nil)
    (pss_cons (ps_if (pt_cmpR op_eq (pv 0) pe_int (nomark _)) (pss_one (ps_ret (pe_tup (pa_cons pe_str (pa_cons (pe_call (ok_law_least T) (hr.mono (by decide)) (by rfl) T.m__law_least T.F_law_least.kp (b_law_least T) .nil passL (pa_cons (pe_tup (pa_cons (pe_ix ix_tup (pv 2) pe_int (fun _ _ => rfl)) (pa_cons (pe_un un_neg (pe_ix ix_tup (pv 2) pe_int (fun _ _ => rfl))) pa_nil))) pa_nil)) pa_nil))))) pss_nil)
    (pss_cons (ps_if (pt_cmpR op_eq (pv 0) pe_int (nomark _)) (pss_one (ps_ret (pe_tup (pa_cons pe_str (pa_cons (pe_call (ok_law_least T) (hr.mono (by decide)) (by rfl) T.m__law_least T.F_law_least.kp (b_law_least T) .nil passL (pa_cons (pe_tup (pa_cons (pe_un un_neg (pe_ix ix_tup (pv 2) pe_int (fun _ _ => rfl))) (pa_cons (pe_un un_neg (pe_ix ix_tup (pv 2) pe_int (fun _ _ => rfl))) pa_nil))) pa_nil)) pa_nil))))) pss_nil)
    (pss_cons (ps_if (pt_cmpR op_eq (pv 0) pe_int (nomark _)) (pss_one (ps_ret (pe_tup (pa_cons pe_str (pa_cons (pe_call (ok_law_before T) (hr.mono (by decide)) (by rfl) T.m__law_before T.F_law_before.kp (b_law_before T) .nil passL (pa_cons (pv 2) (pa_cons (pv 3) pa_nil))) pa_nil))))) pss_nil)
    (pss_one (ps_ret (pe_tup (pa_cons pe_str (pa_cons (pe_or (pe_call (ok_law_same T) (hr.mono (by decide)) (by rfl) T.m__law_same T.F_law_same.kp (b_law_same T) .nil passL (pa_cons (pv 2) (pa_cons (pv 4) pa_nil))) (pe_one (pe_call (ok_law_inside T) (hr.mono (by decide)) (by rfl) T.m__law_inside T.F_law_inside.kp (b_law_inside T) .nil passL (pa_cons (pv 2) (pa_cons (pv 3) (pa_cons (pv 4) pa_nil)))))) pa_nil))))))))))))), ?_⟩
    rw [show L2.start N_law_due [.int wh, .ref g] = [some (.int wh), some (.ref g), none, none, none, none, none] from rfl]
    try dsimp only [cxOf]
    have lim : 1000 < sizeLine := by decide
    walk_at "js"
    refine ⟨g, _, rfl, SqL.of hg, rfl, ?_⟩
    walk_at "js"
    refine ⟨sz_of (by simp), fun z0 hp_z0 => ?_⟩
    generalize g_z0 : upd H z0 _ = H1
    obtain ⟨e_H1, h_z0⟩ := gen_new hp_z0 g_z0
    walk_at "js"
    have hg1 := e_H1.get hg
    obtain ⟨n, hn, n1, n3, hz2, hz3, hz4, hz5⟩ : ∃ n : Nat, atI ([.int 1, .int 2, .int 1, .int 1, .int 2, .int 3] : List V) wh = some (.int (n : Int)) ∧ 1 ≤ n ∧ n ≤ 3 ∧ (2 ≤ n → wh = 1 ∨ wh = 4 ∨ wh = 5) ∧ (3 ≤ n → wh = 5) ∧ (wh = 1 ∨ wh = 4 → n = 2) ∧ (wh = 5 → n = 3) := by
      rcases (show wh = 0 ∨ wh = 1 ∨ wh = 2 ∨ wh = 3 ∨ wh = 4 ∨ wh = 5 by omega) with rfl | rfl | rfl | rfl | rfl | rfl
      · exact ⟨1, rfl, by omega⟩
      · exact ⟨2, rfl, by omega⟩
      · exact ⟨1, rfl, by omega⟩
      · exact ⟨1, rfl, by omega⟩
      · exact ⟨2, rfl, by omega⟩
      · exact ⟨3, rfl, by omega⟩
    refine w_ixL (SqL.of h_z0) hn ?_
    walk_at "js"
    refine ⟨g, _, rfl, SqL.of hg1, fun nl hnl0 => ?_⟩
    rw [cut_to (by omega), Int.toNat_natCast]
    generalize g2 : upd H1 nl _ = H2
    obtain ⟨e_H2, hnl⟩ := gen_new hnl0 g2
    have e02 := e_H1.trans e_H2
    walk_at "js"
    refine ⟨nl, rfl, ⟨_, SqL.of hnl⟩, ?_⟩
    have nlen : (([v1, v2, v3] : List V).take n).length = n := by
      rw [List.length_take]
      show min n 3 = n
      omega
    refine for_it (walk_list (xs := ([v1, v2, v3] : List V).take n)) (fun i σ' H' => Ex H2 H' ∧ (1 ≤ i → (dirD d1).isSome = true) ∧ (2 ≤ i → (dirD d2).isSome = true) ∧ (3 ≤ i → (dirD d3).isSome = true) ∧ ∃ v6 : Option V, σ' = [some (.int wh), some (.ref g), some v1, some v2, some v3, some (.ref nl), v6]) ?_ (fun i σ' H' _ h => SqL.of (h.1.get hnl)) ?_ ?_
    · exact ⟨Evl.Ex.refl _, fun z => absurd z (by omega), fun z => absurd z (by omega), fun z => absurd z (by omega), _, rfl⟩
    · rintro i y σ' B0' B0 hi ⟨b0, q1, q2, q3, v6, rfl⟩ ⟨rfl, hy⟩
      rw [nlen] at hi
      rw [List.getElem?_take, if_pos hi] at hy
      have e0B := e02.trans b0
      have w5' : wh.toNat ≠ 5 → wh ≠ 5 := fun z h => z (by rw [h]; rfl)
      rcases (show i = 0 ∨ i = 1 ∨ i = 2 by omega) with rfl | rfl | rfl
      · cases hy
        walk_at "js"
        refine ⟨_, d1, rfl, hd1.mono e0B, fun B1 b1 => ?_⟩
        cases c : dirD d1 with
        | none =>
          rw [show (none : Option P2).isSome = false from rfl]
          walk_at "js"
          refine ⟨sz_of (by simp), fun r hp_r => ?_⟩
          generalize g_r : upd B1 r _ = B2
          obtain ⟨e_B2, h_r⟩ := gen_new hp_r g_r
          walk_at "js"
          refine k r B2 (e0B.trans (b1.trans e_B2)) ?_
          rw [show ansF dueF wh.toNat d1 d2 d3 = .bad 0 from by unfold ansF; rw [c]]
          exact h_r
        | some p =>
          rw [show (some p).isSome = true from rfl]
          walk_at "js"
          exact ⟨b0.trans b1, fun _ => rfl, fun z => absurd z (by omega), fun z => absurd z (by omega), _, rfl⟩
      · cases hy
        walk_at "js"
        refine ⟨_, d2, rfl, hd2.mono e0B, fun B1 b1 => ?_⟩
        obtain ⟨p, hp⟩ := Option.isSome_iff_exists.mp (q1 (by omega))
        cases c : dirD d2 with
        | none =>
          rw [show (none : Option P2).isSome = false from rfl]
          walk_at "js"
          refine ⟨sz_of (by simp), fun r hp_r => ?_⟩
          generalize g_r : upd B1 r _ = B2
          obtain ⟨e_B2, h_r⟩ := gen_new hp_r g_r
          walk_at "js"
          refine k r B2 (e0B.trans (b1.trans e_B2)) ?_
          have : ansF dueF wh.toNat d1 d2 d3 = .bad 1 := by
            unfold ansF
            rw [hp, c]
            rcases hz2 (by omega) with rfl | rfl | rfl <;> rfl
          rw [this]
          exact h_r
        | some q =>
          rw [show (some q).isSome = true from rfl]
          walk_at "js"
          exact ⟨b0.trans b1, fun _ => q1 (by omega), fun _ => rfl, fun z => absurd z (by omega), _, rfl⟩
      · cases hy
        walk_at "js"
        refine ⟨_, d3, rfl, hd3.mono e0B, fun B1 b1 => ?_⟩
        obtain ⟨p, hp⟩ := Option.isSome_iff_exists.mp (q1 (by omega))
        obtain ⟨q, hq⟩ := Option.isSome_iff_exists.mp (q2 (by omega))
        cases c : dirD d3 with
        | none =>
          rw [show (none : Option P2).isSome = false from rfl]
          walk_at "js"
          refine ⟨sz_of (by simp), fun r hp_r => ?_⟩
          generalize g_r : upd B1 r _ = B2
          obtain ⟨e_B2, h_r⟩ := gen_new hp_r g_r
          walk_at "js"
          refine k r B2 (e0B.trans (b1.trans e_B2)) ?_
          have : ansF dueF wh.toNat d1 d2 d3 = .bad 2 := by
            unfold ansF
            rw [hp, hq, c, hz3 (by omega)]
            rfl
          rw [this]
          exact h_r
        | some r =>
          rw [show (some r).isSome = true from rfl]
          walk_at "js"
          exact ⟨b0.trans b1, fun _ => q1 (by omega), fun _ => q2 (by omega), fun _ => rfl, _, rfl⟩
    · rintro σ' B0 ⟨b0, q1, q2, q3, v6, rfl⟩
      rw [nlen] at q1 q2 q3
      have e0B := e02.trans b0
      obtain ⟨p, hp⟩ := Option.isSome_iff_exists.mp (q1 (by omega))
      have np := (dirD_some hp).2
      have fpp := hf1 p hp
      obtain ⟨t1, ev1, ht1⟩ : ∃ t, v1 = .ref t ∧ PtAt B0 t p := dq_pt (by have := hd1.mono e0B; rw [(dirD_some hp).1] at this; exact this)
      have ht1' : B0 t1 = some (.tup [.int p.1, .int p.2]) := ht1
      have two : 2 ≤ n → ∃ q t, dirD d2 = some q ∧ nz q ∧ fp 400 q ∧ v2 = .ref t ∧ PtAt B0 t q := fun h => by
        obtain ⟨q, hq⟩ := Option.isSome_iff_exists.mp (q2 h)
        obtain ⟨t, ev, ht⟩ : ∃ t, v2 = .ref t ∧ PtAt B0 t q := dq_pt (by have := hd2.mono e0B; rw [(dirD_some hq).1] at this; exact this)
        exact ⟨q, t, hq, (dirD_some hq).2, hf2 q hq, ev, ht⟩
      have three : 3 ≤ n → ∃ q t, dirD d3 = some q ∧ nz q ∧ fp 400 q ∧ v3 = .ref t ∧ PtAt B0 t q := fun h => by
        obtain ⟨q, hq⟩ := Option.isSome_iff_exists.mp (q3 h)
        obtain ⟨t, ev, ht⟩ : ∃ t, v3 = .ref t ∧ PtAt B0 t q := dq_pt (by have := hd3.mono e0B; rw [(dirD_some hq).1] at this; exact this)
        exact ⟨q, t, hq, (dirD_some hq).2, hf3 q hq, ev, ht⟩
      subst ev1
      rcases (show wh = 0 ∨ wh = 1 ∨ wh = 2 ∨ wh = 3 ∨ wh = 4 ∨ wh = 5 by omega) with rfl | rfl | rfl | rfl | rfl | rfl
      · skip
        walk_at "js"
        rw [show decide ((0 : Int) = 0) = true from rfl]
        walk_at "js"
        refine ⟨t1, p, rfl, ht1, np, fp_mono fpp (by decide), fun u B1 hu0 b1 hu => ?_⟩
        walk_at "js"
        refine ⟨sz_of (by simp), fun r hp_r => ?_⟩
        generalize g_r : upd B1 r _ = B2
        obtain ⟨e_B2, h_r⟩ := gen_new hp_r g_r
        walk_at "js"
        refine k r _ (e0B.trans (b1.trans e_B2)) ?_
        show AnsAt _ _ _ _ _ (ansF dueF 0 d1 d2 d3)
        rw [show ansF dueF 0 d1 d2 d3 = .pt (low p) from by unfold ansF; rw [hp]; rfl]
        exact ⟨u, h_r, hu.mono e_B2⟩
      · skip
        obtain ⟨q, t2, hq, nq, fq, rfl, ht2⟩ := two (by omega)
        walk_at "js"
        rw [show decide ((1 : Int) = 0) = false from rfl]
        walk_at "js"
        rw [show decide ((1 : Int) = 1) = true from rfl]
        walk_at "js"
        refine ⟨t1, t2, p, q, rfl, ht1, ht2, fp_mono fpp (by decide), fp_mono fq (by decide), fun z B1 hz0 b1 hz => ?_⟩
        refine ⟨z, _, rfl, hz, nz_mul np nq, fp_mono (fp_mul fpp fq) (by decide), fun u B2 hu0 b2 hu => ?_⟩
        walk_at "js"
        refine ⟨sz_of (by simp), fun r hp_r => ?_⟩
        generalize g_r : upd B2 r _ = B3
        obtain ⟨e_B3, h_r⟩ := gen_new hp_r g_r
        walk_at "js"
        refine k r _ (e0B.trans (b1.trans (b2.trans e_B3))) ?_
        show AnsAt _ _ _ _ _ (ansF dueF 1 d1 d2 d3)
        rw [show ansF dueF 1 d1 d2 d3 = .pt (low (mulC p q)) from by unfold ansF; rw [hp, hq]; rfl]
        exact ⟨u, h_r, hu.mono e_B3⟩
      · skip
        walk_at "js"
        rw [show decide ((2 : Int) = 0) = false from rfl]
        walk_at "js"
        rw [show decide ((2 : Int) = 1) = false from rfl]
        walk_at "js"
        rw [show decide ((2 : Int) = 2) = true from rfl]
        walk_at "js"
        refine ⟨sz_of (by simp), fun z hp_z => ?_⟩
        generalize g_z : upd B0 z _ = B1
        obtain ⟨e_B1, h_z⟩ := gen_new hp_z g_z
        walk_at "js"
        have hs1 : PtAt B1 z (conjC p) := h_z
        have fz : fp 400 (conjC p) := ⟨fpp.1, ft_neg fpp.2⟩
        refine ⟨z, _, rfl, hs1, nz_conj np, fp_mono fz (by decide), fun u B2 hu0 b2 hu => ?_⟩
        walk_at "js"
        refine ⟨sz_of (by simp), fun r hp_r => ?_⟩
        generalize g_r : upd B2 r _ = B3
        obtain ⟨e_B3, h_r⟩ := gen_new hp_r g_r
        walk_at "js"
        refine k r _ (e0B.trans (e_B1.trans (b2.trans e_B3))) ?_
        show AnsAt _ _ _ _ _ (ansF dueF 2 d1 d2 d3)
        rw [show ansF dueF 2 d1 d2 d3 = .pt (low (conjC p)) from by unfold ansF; rw [hp]; rfl]
        exact ⟨u, h_r, hu.mono e_B3⟩
      · skip
        walk_at "js"
        rw [show decide ((3 : Int) = 0) = false from rfl]
        walk_at "js"
        rw [show decide ((3 : Int) = 1) = false from rfl]
        walk_at "js"
        rw [show decide ((3 : Int) = 2) = false from rfl]
        walk_at "js"
        rw [show decide ((3 : Int) = 3) = true from rfl]
        walk_at "js"
        refine ⟨sz_of (by simp), fun z hp_z => ?_⟩
        generalize g_z : upd B0 z _ = B1
        obtain ⟨e_B1, h_z⟩ := gen_new hp_z g_z
        walk_at "js"
        have hs1 : PtAt B1 z (sc (-1) p) := by
          unfold PtAt sc
          dsimp only
          rw [Int.neg_one_mul, Int.neg_one_mul]
          exact h_z
        have fz : fp 400 (sc (-1) p) := fp_opp fpp
        refine ⟨z, _, rfl, hs1, nz_opp np, fp_mono fz (by decide), fun u B2 hu0 b2 hu => ?_⟩
        walk_at "js"
        refine ⟨sz_of (by simp), fun r hp_r => ?_⟩
        generalize g_r : upd B2 r _ = B3
        obtain ⟨e_B3, h_r⟩ := gen_new hp_r g_r
        walk_at "js"
        refine k r _ (e0B.trans (e_B1.trans (b2.trans e_B3))) ?_
        show AnsAt _ _ _ _ _ (ansF dueF 3 d1 d2 d3)
        rw [show ansF dueF 3 d1 d2 d3 = .pt (low (sc (-1) p)) from by unfold ansF; rw [hp]; rfl]
        exact ⟨u, h_r, hu.mono e_B3⟩
      · skip
        obtain ⟨q, t2, hq, nq, fq, rfl, ht2⟩ := two (by omega)
        walk_at "js"
        rw [show decide ((4 : Int) = 0) = false from rfl]
        walk_at "js"
        rw [show decide ((4 : Int) = 1) = false from rfl]
        walk_at "js"
        rw [show decide ((4 : Int) = 2) = false from rfl]
        walk_at "js"
        rw [show decide ((4 : Int) = 3) = false from rfl]
        walk_at "js"
        rw [show decide ((4 : Int) = 4) = true from rfl]
        walk_at "js"
        refine ⟨t1, t2, p, q, rfl, ht1, ht2, fp_mono fpp (by decide), fp_mono fq (by decide), ?_⟩
        walk_at "js"
        refine ⟨sz_of (by simp), fun r hp_r => ?_⟩
        generalize g_r : upd B0 r _ = B1
        obtain ⟨e_B1, h_r⟩ := gen_new hp_r g_r
        walk_at "js"
        refine k r _ (e0B.trans e_B1) ?_
        show AnsAt _ _ _ _ _ (ansF dueF 4 d1 d2 d3)
        rw [show ansF dueF 4 d1 d2 d3 = .tr (earlierZ p q) from by unfold ansF; rw [hp, hq]; rfl]
        exact h_r
      · skip
        obtain ⟨q, t2, hq, nq, fq, rfl, ht2⟩ := two (by omega)
        obtain ⟨z, t3, hz, nzz, fz, rfl, ht3⟩ := three (by omega)
        walk_at "js"
        rw [show decide ((5 : Int) = 0) = false from rfl]
        walk_at "js"
        rw [show decide ((5 : Int) = 1) = false from rfl]
        walk_at "js"
        rw [show decide ((5 : Int) = 2) = false from rfl]
        walk_at "js"
        rw [show decide ((5 : Int) = 3) = false from rfl]
        walk_at "js"
        rw [show decide ((5 : Int) = 4) = false from rfl]
        walk_at "js"
        refine ⟨t1, t3, p, z, rfl, ht1, ht3, fp_mono fpp (by decide), fp_mono fz (by decide), ?_⟩
        have res : ansF dueF 5 d1 d2 d3 = .tr (sameZ p z || lawIn p q z) := by unfold ansF; rw [hp, hq, hz]; rfl
        cases c : sameZ p z with
        | true =>
          walk_at "js"
          refine ⟨sz_of (by simp), fun r hp_r => ?_⟩
          generalize g_r : upd B0 r _ = B1
          obtain ⟨e_B1, h_r⟩ := gen_new hp_r g_r
          walk_at "js"
          refine k r _ (e0B.trans e_B1) ?_
          show AnsAt _ _ _ _ _ (ansF dueF 5 d1 d2 d3)
          rw [res, c]
          exact h_r
        | false =>
          walk_at "js"
          refine ⟨t1, t2, t3, p, q, z, rfl, ht1, ht2, ht3, fp_mono fpp (by decide), fp_mono fq (by decide), fp_mono fz (by decide), fun B1 b1 => ?_⟩
          walk_at "js"
          refine ⟨sz_of (by simp), fun r hp_r => ?_⟩
          generalize g_r : upd B1 r _ = B2
          obtain ⟨e_B2, h_r⟩ := gen_new hp_r g_r
          walk_at "js"
          refine k r _ (e0B.trans (b1.trans e_B2)) ?_
          show AnsAt _ _ _ _ _ (ansF dueF 5 d1 d2 d3)
          rw [res, c]
          exact h_r

def sp_law_call (K : Fr1) : Sp := fun vs H Q _ => ∃ (wh : Int) (g : Addr) (nm : Bool) (v1 v2 v3 : V) (d1 d2 d3 : PyData), vs = [.int wh, .ref g, .bl nm] ∧ 0 ≤ wh ∧ wh ≤ 5 ∧ H g = some (.lst [v1, v2, v3]) ∧ Dq K H v1 d1 ∧ Dq K H v2 d2 ∧ Dq K H v3 d3 ∧
  (∀ p, dirD d1 = some p → fp 400 p) ∧ (∀ p, dirD d2 = some p → fp 400 p) ∧ (∀ p, dirD d3 = some p → fp 400 p) ∧ ∀ r H', Ex H H' → AnsAt H' r v1 v2 v3 (ansF insideZ wh.toNat d1 d2 d3) → Q (.ref r) H'
theorem ok_law_call (T : Txt K mg) : FnOk P w K mg base (L2.CX P w) 6 (a_law_call K) (d_law_call K) P_law_call (sp_law_call K) := by
  refine T.F_law_call.ok sc_law_call (fun vs H Q E h => ?_) (fun cdv A outer s H vs Q E hr h => ?_)
  · obtain ⟨_, _, _, _, _, _, _, _, _, rfl, _⟩ := h
    rfl
  · obtain ⟨wh, g, nm, v1, v2, v3, d1, d2, d3, rfl, w0, w5, hg, hd1, hd2, hd3, hf1, hf2, hf3, k⟩ := h
    refine ⟨_, (pss_cons (ps_asg (pv 1) (pg_lst rfl (pgs_cons (pg_name (i := 3) sc_law_call.nd rfl (.inl rfl)) (pgs_cons (pg_name (i := 4) sc_law_call.nd rfl (.inl rfl)) (pgs_cons (pg_name (i := 5) sc_law_call.nd rfl (.inl rfl)) pgs_nil)))))
    (pss_one (ps_try_as (i := 6) (Wout := fun _ _ _ _ => False) rfl rfl sc_law_call.nd rfl rfl ⟨rfl, by decide, .inl T.m_BadTurn⟩ takes0 (fun W pn xe tk _ => (pss_cons (ps_if (pt_cmpR op_eq (pv 0) pe_int (nomark _)) (pss_one (ps_ret (pe_tup (pa_cons pe_str (pa_cons (pe_callSD (ok_least T) (hr.mono (by decide)) (by rfl) T.m_least T.F_least.kp (b_least T) .nil (fun σ => passAt tk σ) (pa_cons (pv 3) pa_nil)) pa_nil))))) pss_nil)
    (pss_cons (ps_if (PW.pt (pw_and (pt_cmpR op_eq (pv 0) pe_int (nomark _)) (pw_and1 (pt_val (pv 2))))) (pss_one (ps_ret (pe_tup (pa_cons pe_str (pa_cons (pe_callKwE (ok_times T) (hr.mono (by decide)) (by rfl) T.m_times T.F_times.kp (kbn0 T.F_times 0 ["e", "d"] [1, 0] (fun _ _ _ _ _ _ us ws h1 h2 => match us, ws, h1, h2 with | [], [_, _], _, _ => rfl)) (fun σ => passAt tk σ) (pk_cons (pv 4) (pk_cons (pv 3) pk_nil))) pa_nil))))) pss_nil)
    (pss_cons (ps_if (pt_cmpR op_eq (pv 0) pe_int (nomark _)) (pss_one (ps_ret (pe_tup (pa_cons pe_str (pa_cons (pe_callSD (ok_times T) (hr.mono (by decide)) (by rfl) T.m_times T.F_times.kp (b_times T) .nil (fun σ => passAt tk σ) (pa_cons (pv 3) (pa_cons (pv 4) pa_nil))) pa_nil))))) pss_nil)
    (pss_cons (ps_if (pt_cmpR op_eq (pv 0) pe_int (nomark _)) (pss_one (ps_ret (pe_tup (pa_cons pe_str (pa_cons (pe_callSD (ok_back T) (hr.mono (by decide)) (by rfl) T.m_back T.F_back.kp (b_back T) .nil (fun σ => passAt tk σ) (pa_cons (pv 3) pa_nil)) pa_nil))))) pss_nil)
    (pss_cons (ps_if (pt_cmpR op_eq (pv 0) pe_int (nomark _)) (pss_one (ps_ret (pe_tup (pa_cons pe_str (pa_cons (pe_callSD (ok_opposite T) (hr.mono (by decide)) (by rfl) T.m_opposite T.F_opposite.kp (b_opposite T) .nil (fun σ => passAt tk σ) (pa_cons (pv 3) pa_nil)) pa_nil))))) pss_nil)
    (pss_cons (ps_if (PW.pt (pw_and (pt_cmpR op_eq (pv 0) pe_int (nomark _)) (pw_and1 (pt_val (pv 2))))) (pss_one (ps_ret (pe_tup (pa_cons pe_str (pa_cons (pe_callKwE (ok_ahead T) (hr.mono (by decide)) (by rfl) T.m_ahead T.F_ahead.kp (kbn0 T.F_ahead 0 ["e", "d"] [1, 0] (fun _ _ _ _ _ _ us ws h1 h2 => match us, ws, h1, h2 with | [], [_, _], _, _ => rfl)) (fun σ => passAt tk σ) (pk_cons (pv 4) (pk_cons (pv 3) pk_nil))) pa_nil))))) pss_nil)
    (pss_cons (ps_if (pt_cmpR op_eq (pv 0) pe_int (nomark _)) (pss_one (ps_ret (pe_tup (pa_cons pe_str (pa_cons (pe_callSD (ok_ahead T) (hr.mono (by decide)) (by rfl) T.m_ahead T.F_ahead.kp (b_ahead T) .nil (fun σ => passAt tk σ) (pa_cons (pv 3) (pa_cons (pv 4) pa_nil))) pa_nil))))) pss_nil)
    (pss_cons (ps_if (pt_val (pv 2)) (pss_one (ps_ret (pe_tup (pa_cons pe_str (pa_cons (pe_callKwE (ok_within T) (hr.mono (by decide)) (by rfl) T.m_within T.F_within.kp (kbn0 T.F_within 0 ["high", "low", "d"] [2, 1, 0] (fun _ _ _ _ _ _ us ws h1 h2 => match us, ws, h1, h2 with | [], [_, _, _], _, _ => rfl)) (fun σ => passAt tk σ) (pk_cons (pv 5) (pk_cons (pv 4) (pk_cons (pv 3) pk_nil)))) pa_nil))))) pss_nil)
    (pss_one (ps_ret (pe_tup (pa_cons pe_str (pa_cons (pe_callSD (ok_within T) (hr.mono (by decide)) (by rfl) T.m_within T.F_within.kp (b_within T) .nil (fun σ => passAt tk σ) (pa_cons (pv 3) (pa_cons (pv 4) (pa_cons (pv 5) pa_nil)))) pa_nil))))))))))))))
    (fun a oe cls d pn hz hf => (pss_one (ps_ret (pe_tup (pa_cons pe_str (pa_cons (pe_xf T.x_BadTurn T.na_BadTurn_value hz hf (pv 6)) pa_nil))))))))), ?_⟩
    rw [show L2.start N_law_call [.int wh, .ref g, .bl nm] = [some (.int wh), some (.ref g), some (.bl nm), none, none, none, none] from rfl]
    try dsimp only [cxOf]
    have lim : 1000 < sizeLine := by decide
    walk_at "js"
    refine ⟨g, _, rfl, SqL.of hg, rfl, ?_⟩
    walk_at "js"
    have cs : wh = 0 ∨ wh = 1 ∨ wh = 2 ∨ wh = 3 ∨ wh = 4 ∨ wh = 5 := by omega
    rcases cs with rfl | rfl | rfl | rfl | rfl | rfl
    · skip
      walk_at "js"
      rw [show decide ((0 : Int) = 0) = true from rfl]
      walk_at "js"
      refine ⟨v1, d1, rfl, hd1, fun p e => fp_mono (hf1 p e) (by decide), fun e1 => ?_, fun p e1 t H' h0 e ht => ?_⟩
      · intro dd H' hdd e hv
        refine w_caught T.e_BadTurn fun ea hea => ?_
        walk_at "js"
        refine ⟨_, rfl, rfl, rfl, dd, _, v1, rfl, hv, lk_eq, ?_⟩
        try dsimp only [List.set_cons_zero, List.set_cons_succ]
        walk_at "js"
        refine ⟨sz_of (by simp), fun r hp_r => ?_⟩
        generalize g_r : upd H' r _ = H1
        obtain ⟨e_H1, h_r⟩ := gen_new hp_r g_r
        walk_at "js"
        refine k r H1 (e.trans e_H1) ?_
        show AnsAt _ _ _ _ _ (ansF insideZ 0 d1 d2 d3)
        rw [show ansF insideZ 0 d1 d2 d3 = .bad 0 from by unfold ansF; rw [e1]]
        exact h_r
      · walk_at "js"
        refine ⟨sz_of (by simp), fun r hp_r => ?_⟩
        generalize g_r : upd H' r _ = H1
        obtain ⟨e_H1, h_r⟩ := gen_new hp_r g_r
        walk_at "js"
        refine k r H1 (e.trans e_H1) ?_
        show AnsAt _ _ _ _ _ (ansF insideZ 0 d1 d2 d3)
        rw [show ansF insideZ 0 d1 d2 d3 = .pt (low p) from by unfold ansF; rw [e1]; rfl]
        exact ⟨t, h_r, ht.mono e_H1⟩
    · skip
      cases nm with
      | true =>
        walk_at "js"
        rw [show decide ((1 : Int) = 0) = false from rfl]
        walk_at "js"
        rw [show decide ((1 : Int) = 1) = true from rfl]
        walk_at "js"
        refine ⟨rfl, v1, v2, d1, d2, rfl, hd1, hd2, fun p e => fp_mono (hf1 p e) (by decide), fun p e => fp_mono (hf2 p e) (by decide), fun e1 => ?_, fun p e1 e2 => ?_, fun p q e1 e2 t H' h0 e ht => ?_⟩
        · intro dd H' hdd e hv
          refine w_caught T.e_BadTurn fun ea hea => ?_
          walk_at "js"
          refine ⟨_, rfl, rfl, rfl, dd, _, v1, rfl, hv, lk_eq, ?_⟩
          try dsimp only [List.set_cons_zero, List.set_cons_succ]
          walk_at "js"
          refine ⟨sz_of (by simp), fun r hp_r => ?_⟩
          generalize g_r : upd H' r _ = H1
          obtain ⟨e_H1, h_r⟩ := gen_new hp_r g_r
          walk_at "js"
          refine k r H1 (e.trans e_H1) ?_
          show AnsAt _ _ _ _ _ (ansF insideZ 1 d1 d2 d3)
          rw [show ansF insideZ 1 d1 d2 d3 = .bad 0 from by unfold ansF; rw [e1]]
          exact h_r
        · intro dd H' hdd e hv
          refine w_caught T.e_BadTurn fun ea hea => ?_
          walk_at "js"
          refine ⟨_, rfl, rfl, rfl, dd, _, v2, rfl, hv, lk_eq, ?_⟩
          try dsimp only [List.set_cons_zero, List.set_cons_succ]
          walk_at "js"
          refine ⟨sz_of (by simp), fun r hp_r => ?_⟩
          generalize g_r : upd H' r _ = H1
          obtain ⟨e_H1, h_r⟩ := gen_new hp_r g_r
          walk_at "js"
          refine k r H1 (e.trans e_H1) ?_
          show AnsAt _ _ _ _ _ (ansF insideZ 1 d1 d2 d3)
          rw [show ansF insideZ 1 d1 d2 d3 = .bad 1 from by unfold ansF; rw [e1, e2]; rfl]
          exact h_r
        · walk_at "js"
          refine ⟨sz_of (by simp), fun r hp_r => ?_⟩
          generalize g_r : upd H' r _ = H1
          obtain ⟨e_H1, h_r⟩ := gen_new hp_r g_r
          walk_at "js"
          refine k r H1 (e.trans e_H1) ?_
          show AnsAt _ _ _ _ _ (ansF insideZ 1 d1 d2 d3)
          rw [show ansF insideZ 1 d1 d2 d3 = .pt (low (mulC p q)) from by unfold ansF; rw [e1, e2]; rfl]
          exact ⟨t, h_r, ht.mono e_H1⟩
      | false =>
        walk_at "js"
        rw [show decide ((1 : Int) = 0) = false from rfl]
        walk_at "js"
        rw [show decide ((1 : Int) = 1) = true from rfl]
        walk_at "js"
        rw [show decide ((1 : Int) = 1) = true from rfl]
        walk_at "js"
        refine ⟨v1, v2, d1, d2, rfl, hd1, hd2, fun p e => fp_mono (hf1 p e) (by decide), fun p e => fp_mono (hf2 p e) (by decide), fun e1 => ?_, fun p e1 e2 => ?_, fun p q e1 e2 t H' h0 e ht => ?_⟩
        · intro dd H' hdd e hv
          refine w_caught T.e_BadTurn fun ea hea => ?_
          walk_at "js"
          refine ⟨_, rfl, rfl, rfl, dd, _, v1, rfl, hv, lk_eq, ?_⟩
          try dsimp only [List.set_cons_zero, List.set_cons_succ]
          walk_at "js"
          refine ⟨sz_of (by simp), fun r hp_r => ?_⟩
          generalize g_r : upd H' r _ = H1
          obtain ⟨e_H1, h_r⟩ := gen_new hp_r g_r
          walk_at "js"
          refine k r H1 (e.trans e_H1) ?_
          show AnsAt _ _ _ _ _ (ansF insideZ 1 d1 d2 d3)
          rw [show ansF insideZ 1 d1 d2 d3 = .bad 0 from by unfold ansF; rw [e1]]
          exact h_r
        · intro dd H' hdd e hv
          refine w_caught T.e_BadTurn fun ea hea => ?_
          walk_at "js"
          refine ⟨_, rfl, rfl, rfl, dd, _, v2, rfl, hv, lk_eq, ?_⟩
          try dsimp only [List.set_cons_zero, List.set_cons_succ]
          walk_at "js"
          refine ⟨sz_of (by simp), fun r hp_r => ?_⟩
          generalize g_r : upd H' r _ = H1
          obtain ⟨e_H1, h_r⟩ := gen_new hp_r g_r
          walk_at "js"
          refine k r H1 (e.trans e_H1) ?_
          show AnsAt _ _ _ _ _ (ansF insideZ 1 d1 d2 d3)
          rw [show ansF insideZ 1 d1 d2 d3 = .bad 1 from by unfold ansF; rw [e1, e2]; rfl]
          exact h_r
        · walk_at "js"
          refine ⟨sz_of (by simp), fun r hp_r => ?_⟩
          generalize g_r : upd H' r _ = H1
          obtain ⟨e_H1, h_r⟩ := gen_new hp_r g_r
          walk_at "js"
          refine k r H1 (e.trans e_H1) ?_
          show AnsAt _ _ _ _ _ (ansF insideZ 1 d1 d2 d3)
          rw [show ansF insideZ 1 d1 d2 d3 = .pt (low (mulC p q)) from by unfold ansF; rw [e1, e2]; rfl]
          exact ⟨t, h_r, ht.mono e_H1⟩
    · skip
      walk_at "js"
      rw [show decide ((2 : Int) = 0) = false from rfl]
      walk_at "js"
      rw [show decide ((2 : Int) = 1) = false from rfl]
      walk_at "js"
      rw [show decide ((2 : Int) = 1) = false from rfl]
      walk_at "js"
      rw [show decide ((2 : Int) = 2) = true from rfl]
      walk_at "js"
      refine ⟨v1, d1, rfl, hd1, fun p e => fp_mono (hf1 p e) (by decide), fun e1 => ?_, fun p e1 t H' h0 e ht => ?_⟩
      · intro dd H' hdd e hv
        refine w_caught T.e_BadTurn fun ea hea => ?_
        walk_at "js"
        refine ⟨_, rfl, rfl, rfl, dd, _, v1, rfl, hv, lk_eq, ?_⟩
        try dsimp only [List.set_cons_zero, List.set_cons_succ]
        walk_at "js"
        refine ⟨sz_of (by simp), fun r hp_r => ?_⟩
        generalize g_r : upd H' r _ = H1
        obtain ⟨e_H1, h_r⟩ := gen_new hp_r g_r
        walk_at "js"
        refine k r H1 (e.trans e_H1) ?_
        show AnsAt _ _ _ _ _ (ansF insideZ 2 d1 d2 d3)
        rw [show ansF insideZ 2 d1 d2 d3 = .bad 0 from by unfold ansF; rw [e1]]
        exact h_r
      · walk_at "js"
        refine ⟨sz_of (by simp), fun r hp_r => ?_⟩
        generalize g_r : upd H' r _ = H1
        obtain ⟨e_H1, h_r⟩ := gen_new hp_r g_r
        walk_at "js"
        refine k r H1 (e.trans e_H1) ?_
        show AnsAt _ _ _ _ _ (ansF insideZ 2 d1 d2 d3)
        rw [show ansF insideZ 2 d1 d2 d3 = .pt (low (conjC p)) from by unfold ansF; rw [e1]; rfl]
        exact ⟨t, h_r, ht.mono e_H1⟩
    · skip
      walk_at "js"
      rw [show decide ((3 : Int) = 0) = false from rfl]
      walk_at "js"
      rw [show decide ((3 : Int) = 1) = false from rfl]
      walk_at "js"
      rw [show decide ((3 : Int) = 1) = false from rfl]
      walk_at "js"
      rw [show decide ((3 : Int) = 2) = false from rfl]
      walk_at "js"
      rw [show decide ((3 : Int) = 3) = true from rfl]
      walk_at "js"
      refine ⟨v1, d1, rfl, hd1, fun p e => fp_mono (hf1 p e) (by decide), fun e1 => ?_, fun p e1 t H' h0 e ht => ?_⟩
      · intro dd H' hdd e hv
        refine w_caught T.e_BadTurn fun ea hea => ?_
        walk_at "js"
        refine ⟨_, rfl, rfl, rfl, dd, _, v1, rfl, hv, lk_eq, ?_⟩
        try dsimp only [List.set_cons_zero, List.set_cons_succ]
        walk_at "js"
        refine ⟨sz_of (by simp), fun r hp_r => ?_⟩
        generalize g_r : upd H' r _ = H1
        obtain ⟨e_H1, h_r⟩ := gen_new hp_r g_r
        walk_at "js"
        refine k r H1 (e.trans e_H1) ?_
        show AnsAt _ _ _ _ _ (ansF insideZ 3 d1 d2 d3)
        rw [show ansF insideZ 3 d1 d2 d3 = .bad 0 from by unfold ansF; rw [e1]]
        exact h_r
      · walk_at "js"
        refine ⟨sz_of (by simp), fun r hp_r => ?_⟩
        generalize g_r : upd H' r _ = H1
        obtain ⟨e_H1, h_r⟩ := gen_new hp_r g_r
        walk_at "js"
        refine k r H1 (e.trans e_H1) ?_
        show AnsAt _ _ _ _ _ (ansF insideZ 3 d1 d2 d3)
        rw [show ansF insideZ 3 d1 d2 d3 = .pt (low (sc (-1) p)) from by unfold ansF; rw [e1]; rfl]
        exact ⟨t, h_r, ht.mono e_H1⟩
    · skip
      cases nm with
      | true =>
        walk_at "js"
        rw [show decide ((4 : Int) = 0) = false from rfl]
        walk_at "js"
        rw [show decide ((4 : Int) = 1) = false from rfl]
        walk_at "js"
        rw [show decide ((4 : Int) = 1) = false from rfl]
        walk_at "js"
        rw [show decide ((4 : Int) = 2) = false from rfl]
        walk_at "js"
        rw [show decide ((4 : Int) = 3) = false from rfl]
        walk_at "js"
        rw [show decide ((4 : Int) = 4) = true from rfl]
        walk_at "js"
        refine ⟨rfl, v1, v2, d1, d2, rfl, hd1, hd2, fun p e => fp_mono (hf1 p e) (by decide), fun p e => fp_mono (hf2 p e) (by decide), fun e1 => ?_, fun p e1 e2 => ?_, fun p q e1 e2 H' e => ?_⟩
        · intro dd H' hdd e hv
          refine w_caught T.e_BadTurn fun ea hea => ?_
          walk_at "js"
          refine ⟨_, rfl, rfl, rfl, dd, _, v1, rfl, hv, lk_eq, ?_⟩
          try dsimp only [List.set_cons_zero, List.set_cons_succ]
          walk_at "js"
          refine ⟨sz_of (by simp), fun r hp_r => ?_⟩
          generalize g_r : upd H' r _ = H1
          obtain ⟨e_H1, h_r⟩ := gen_new hp_r g_r
          walk_at "js"
          refine k r H1 (e.trans e_H1) ?_
          show AnsAt _ _ _ _ _ (ansF insideZ 4 d1 d2 d3)
          rw [show ansF insideZ 4 d1 d2 d3 = .bad 0 from by unfold ansF; rw [e1]]
          exact h_r
        · intro dd H' hdd e hv
          refine w_caught T.e_BadTurn fun ea hea => ?_
          walk_at "js"
          refine ⟨_, rfl, rfl, rfl, dd, _, v2, rfl, hv, lk_eq, ?_⟩
          try dsimp only [List.set_cons_zero, List.set_cons_succ]
          walk_at "js"
          refine ⟨sz_of (by simp), fun r hp_r => ?_⟩
          generalize g_r : upd H' r _ = H1
          obtain ⟨e_H1, h_r⟩ := gen_new hp_r g_r
          walk_at "js"
          refine k r H1 (e.trans e_H1) ?_
          show AnsAt _ _ _ _ _ (ansF insideZ 4 d1 d2 d3)
          rw [show ansF insideZ 4 d1 d2 d3 = .bad 1 from by unfold ansF; rw [e1, e2]; rfl]
          exact h_r
        · walk_at "js"
          refine ⟨sz_of (by simp), fun r hp_r => ?_⟩
          generalize g_r : upd H' r _ = H1
          obtain ⟨e_H1, h_r⟩ := gen_new hp_r g_r
          walk_at "js"
          refine k r H1 (e.trans e_H1) ?_
          show AnsAt _ _ _ _ _ (ansF insideZ 4 d1 d2 d3)
          rw [show ansF insideZ 4 d1 d2 d3 = .tr (earlierZ p q) from by unfold ansF; rw [e1, e2]; rfl]
          exact h_r
      | false =>
        walk_at "js"
        rw [show decide ((4 : Int) = 0) = false from rfl]
        walk_at "js"
        rw [show decide ((4 : Int) = 1) = false from rfl]
        walk_at "js"
        rw [show decide ((4 : Int) = 1) = false from rfl]
        walk_at "js"
        rw [show decide ((4 : Int) = 2) = false from rfl]
        walk_at "js"
        rw [show decide ((4 : Int) = 3) = false from rfl]
        walk_at "js"
        rw [show decide ((4 : Int) = 4) = true from rfl]
        walk_at "js"
        rw [show decide ((4 : Int) = 4) = true from rfl]
        walk_at "js"
        refine ⟨v1, v2, d1, d2, rfl, hd1, hd2, fun p e => fp_mono (hf1 p e) (by decide), fun p e => fp_mono (hf2 p e) (by decide), fun e1 => ?_, fun p e1 e2 => ?_, fun p q e1 e2 H' e => ?_⟩
        · intro dd H' hdd e hv
          refine w_caught T.e_BadTurn fun ea hea => ?_
          walk_at "js"
          refine ⟨_, rfl, rfl, rfl, dd, _, v1, rfl, hv, lk_eq, ?_⟩
          try dsimp only [List.set_cons_zero, List.set_cons_succ]
          walk_at "js"
          refine ⟨sz_of (by simp), fun r hp_r => ?_⟩
          generalize g_r : upd H' r _ = H1
          obtain ⟨e_H1, h_r⟩ := gen_new hp_r g_r
          walk_at "js"
          refine k r H1 (e.trans e_H1) ?_
          show AnsAt _ _ _ _ _ (ansF insideZ 4 d1 d2 d3)
          rw [show ansF insideZ 4 d1 d2 d3 = .bad 0 from by unfold ansF; rw [e1]]
          exact h_r
        · intro dd H' hdd e hv
          refine w_caught T.e_BadTurn fun ea hea => ?_
          walk_at "js"
          refine ⟨_, rfl, rfl, rfl, dd, _, v2, rfl, hv, lk_eq, ?_⟩
          try dsimp only [List.set_cons_zero, List.set_cons_succ]
          walk_at "js"
          refine ⟨sz_of (by simp), fun r hp_r => ?_⟩
          generalize g_r : upd H' r _ = H1
          obtain ⟨e_H1, h_r⟩ := gen_new hp_r g_r
          walk_at "js"
          refine k r H1 (e.trans e_H1) ?_
          show AnsAt _ _ _ _ _ (ansF insideZ 4 d1 d2 d3)
          rw [show ansF insideZ 4 d1 d2 d3 = .bad 1 from by unfold ansF; rw [e1, e2]; rfl]
          exact h_r
        · walk_at "js"
          refine ⟨sz_of (by simp), fun r hp_r => ?_⟩
          generalize g_r : upd H' r _ = H1
          obtain ⟨e_H1, h_r⟩ := gen_new hp_r g_r
          walk_at "js"
          refine k r H1 (e.trans e_H1) ?_
          show AnsAt _ _ _ _ _ (ansF insideZ 4 d1 d2 d3)
          rw [show ansF insideZ 4 d1 d2 d3 = .tr (earlierZ p q) from by unfold ansF; rw [e1, e2]; rfl]
          exact h_r
    · skip
      cases nm with
      | true =>
        walk_at "js"
        rw [show decide ((5 : Int) = 0) = false from rfl]
        walk_at "js"
        rw [show decide ((5 : Int) = 1) = false from rfl]
        walk_at "js"
        rw [show decide ((5 : Int) = 1) = false from rfl]
        walk_at "js"
        rw [show decide ((5 : Int) = 2) = false from rfl]
        walk_at "js"
        rw [show decide ((5 : Int) = 3) = false from rfl]
        walk_at "js"
        rw [show decide ((5 : Int) = 4) = false from rfl]
        walk_at "js"
        rw [show decide ((5 : Int) = 4) = false from rfl]
        walk_at "js"
        refine ⟨rfl, v1, v2, v3, d1, d2, d3, rfl, hd1, hd2, hd3, fun p e => fp_mono (hf1 p e) (by decide), fun p e => fp_mono (hf2 p e) (by decide), fun p e => fp_mono (hf3 p e) (by decide), fun e1 => ?_, fun p e1 e2 => ?_, fun p q e1 e2 e3 => ?_, fun p q r0 e1 e2 e3 H' e => ?_⟩
        · intro dd H' hdd e hv
          refine w_caught T.e_BadTurn fun ea hea => ?_
          walk_at "js"
          refine ⟨_, rfl, rfl, rfl, dd, _, v1, rfl, hv, lk_eq, ?_⟩
          try dsimp only [List.set_cons_zero, List.set_cons_succ]
          walk_at "js"
          refine ⟨sz_of (by simp), fun r hp_r => ?_⟩
          generalize g_r : upd H' r _ = H1
          obtain ⟨e_H1, h_r⟩ := gen_new hp_r g_r
          walk_at "js"
          refine k r H1 (e.trans e_H1) ?_
          show AnsAt _ _ _ _ _ (ansF insideZ 5 d1 d2 d3)
          rw [show ansF insideZ 5 d1 d2 d3 = .bad 0 from by unfold ansF; rw [e1]]
          exact h_r
        · intro dd H' hdd e hv
          refine w_caught T.e_BadTurn fun ea hea => ?_
          walk_at "js"
          refine ⟨_, rfl, rfl, rfl, dd, _, v2, rfl, hv, lk_eq, ?_⟩
          try dsimp only [List.set_cons_zero, List.set_cons_succ]
          walk_at "js"
          refine ⟨sz_of (by simp), fun r hp_r => ?_⟩
          generalize g_r : upd H' r _ = H1
          obtain ⟨e_H1, h_r⟩ := gen_new hp_r g_r
          walk_at "js"
          refine k r H1 (e.trans e_H1) ?_
          show AnsAt _ _ _ _ _ (ansF insideZ 5 d1 d2 d3)
          rw [show ansF insideZ 5 d1 d2 d3 = .bad 1 from by unfold ansF; rw [e1, e2]; rfl]
          exact h_r
        · intro dd H' hdd e hv
          refine w_caught T.e_BadTurn fun ea hea => ?_
          walk_at "js"
          refine ⟨_, rfl, rfl, rfl, dd, _, v3, rfl, hv, lk_eq, ?_⟩
          try dsimp only [List.set_cons_zero, List.set_cons_succ]
          walk_at "js"
          refine ⟨sz_of (by simp), fun r hp_r => ?_⟩
          generalize g_r : upd H' r _ = H1
          obtain ⟨e_H1, h_r⟩ := gen_new hp_r g_r
          walk_at "js"
          refine k r H1 (e.trans e_H1) ?_
          show AnsAt _ _ _ _ _ (ansF insideZ 5 d1 d2 d3)
          rw [show ansF insideZ 5 d1 d2 d3 = .bad 2 from by unfold ansF; rw [e1, e2, e3]; rfl]
          exact h_r
        · walk_at "js"
          refine ⟨sz_of (by simp), fun r hp_r => ?_⟩
          generalize g_r : upd H' r _ = H1
          obtain ⟨e_H1, h_r⟩ := gen_new hp_r g_r
          walk_at "js"
          refine k r H1 (e.trans e_H1) ?_
          show AnsAt _ _ _ _ _ (ansF insideZ 5 d1 d2 d3)
          rw [show ansF insideZ 5 d1 d2 d3 = .tr (insideZ p q r0) from by unfold ansF; rw [e1, e2, e3]; rfl]
          exact h_r
      | false =>
        walk_at "js"
        rw [show decide ((5 : Int) = 0) = false from rfl]
        walk_at "js"
        rw [show decide ((5 : Int) = 1) = false from rfl]
        walk_at "js"
        rw [show decide ((5 : Int) = 1) = false from rfl]
        walk_at "js"
        rw [show decide ((5 : Int) = 2) = false from rfl]
        walk_at "js"
        rw [show decide ((5 : Int) = 3) = false from rfl]
        walk_at "js"
        rw [show decide ((5 : Int) = 4) = false from rfl]
        walk_at "js"
        rw [show decide ((5 : Int) = 4) = false from rfl]
        walk_at "js"
        refine ⟨v1, v2, v3, d1, d2, d3, rfl, hd1, hd2, hd3, fun p e => fp_mono (hf1 p e) (by decide), fun p e => fp_mono (hf2 p e) (by decide), fun p e => fp_mono (hf3 p e) (by decide), fun e1 => ?_, fun p e1 e2 => ?_, fun p q e1 e2 e3 => ?_, fun p q r0 e1 e2 e3 H' e => ?_⟩
        · intro dd H' hdd e hv
          refine w_caught T.e_BadTurn fun ea hea => ?_
          walk_at "js"
          refine ⟨_, rfl, rfl, rfl, dd, _, v1, rfl, hv, lk_eq, ?_⟩
          try dsimp only [List.set_cons_zero, List.set_cons_succ]
          walk_at "js"
          refine ⟨sz_of (by simp), fun r hp_r => ?_⟩
          generalize g_r : upd H' r _ = H1
          obtain ⟨e_H1, h_r⟩ := gen_new hp_r g_r
          walk_at "js"
          refine k r H1 (e.trans e_H1) ?_
          show AnsAt _ _ _ _ _ (ansF insideZ 5 d1 d2 d3)
          rw [show ansF insideZ 5 d1 d2 d3 = .bad 0 from by unfold ansF; rw [e1]]
          exact h_r
        · intro dd H' hdd e hv
          refine w_caught T.e_BadTurn fun ea hea => ?_
          walk_at "js"
          refine ⟨_, rfl, rfl, rfl, dd, _, v2, rfl, hv, lk_eq, ?_⟩
          try dsimp only [List.set_cons_zero, List.set_cons_succ]
          walk_at "js"
          refine ⟨sz_of (by simp), fun r hp_r => ?_⟩
          generalize g_r : upd H' r _ = H1
          obtain ⟨e_H1, h_r⟩ := gen_new hp_r g_r
          walk_at "js"
          refine k r H1 (e.trans e_H1) ?_
          show AnsAt _ _ _ _ _ (ansF insideZ 5 d1 d2 d3)
          rw [show ansF insideZ 5 d1 d2 d3 = .bad 1 from by unfold ansF; rw [e1, e2]; rfl]
          exact h_r
        · intro dd H' hdd e hv
          refine w_caught T.e_BadTurn fun ea hea => ?_
          walk_at "js"
          refine ⟨_, rfl, rfl, rfl, dd, _, v3, rfl, hv, lk_eq, ?_⟩
          try dsimp only [List.set_cons_zero, List.set_cons_succ]
          walk_at "js"
          refine ⟨sz_of (by simp), fun r hp_r => ?_⟩
          generalize g_r : upd H' r _ = H1
          obtain ⟨e_H1, h_r⟩ := gen_new hp_r g_r
          walk_at "js"
          refine k r H1 (e.trans e_H1) ?_
          show AnsAt _ _ _ _ _ (ansF insideZ 5 d1 d2 d3)
          rw [show ansF insideZ 5 d1 d2 d3 = .bad 2 from by unfold ansF; rw [e1, e2, e3]; rfl]
          exact h_r
        · walk_at "js"
          refine ⟨sz_of (by simp), fun r hp_r => ?_⟩
          generalize g_r : upd H' r _ = H1
          obtain ⟨e_H1, h_r⟩ := gen_new hp_r g_r
          walk_at "js"
          refine k r H1 (e.trans e_H1) ?_
          show AnsAt _ _ _ _ _ (ansF insideZ 5 d1 d2 d3)
          rw [show ansF insideZ 5 d1 d2 d3 = .tr (insideZ p q r0) from by unfold ansF; rw [e1, e2, e3]; rfl]
          exact h_r

def sp_law_agrees (K : Fr1) : Sp := fun vs H Q _ => ∃ (wh : Int) (g : Addr) (nm : Bool) (v1 v2 v3 : V) (d1 d2 d3 : PyData), vs = [.int wh, .ref g, .bl nm] ∧ 0 ≤ wh ∧ wh ≤ 5 ∧ H g = some (.lst [v1, v2, v3]) ∧ GoodV K H v1 d1 ∧ GoodV K H v2 d2 ∧ GoodV K H v3 d3 ∧ ∀ H', Ex H H' → Q (.bl true) H'
theorem ok_law_agrees (T : Txt K mg) : FnOk P w K mg base (L2.CX P w) 7 (a_law_agrees K) (d_law_agrees K) P_law_agrees (sp_law_agrees K) := by
  refine T.F_law_agrees.ok sc_law_agrees (fun vs H Q E h => ?_) (fun cdv A outer s H vs Q E hr h => ?_)
  · obtain ⟨_, _, _, _, _, _, _, _, _, rfl, _⟩ := h
    rfl
  · obtain ⟨wh, g, nm, v1, v2, v3, d1, d2, d3, rfl, w0, w5, hg, g1, g2, g3, k⟩ := h
    refine ⟨_, (pss_cons (ps_set (i := 3) sc_law_agrees.nd rfl (.inl rfl) (pe_call (ok_law_due_within T) (hr.mono (by decide)) (by rfl) T.m__law_due_within T.F_law_due_within.kp (b_law_due_within T) .nil passL (pa_cons (pe_call (ok_law_due T) (hr.mono (by decide)) (by rfl) T.m__law_due T.F_law_due.kp (b_law_due T) .nil passL (pa_cons (pv 0) (pa_cons (pv 1) pa_nil))) (pa_cons (pv 0) (pa_cons (pv 1) pa_nil)))))
    (pss_cons (ps_set (i := 4) sc_law_agrees.nd rfl (.inl rfl) (pe_call (ok_law_call T) (hr.mono (by decide)) (by rfl) T.m__law_call T.F_law_call.kp (b_law_call T) .nil passL (pa_cons (pv 0) (pa_cons (pv 1) (pa_cons (pv 2) pa_nil)))))
    (pss_cons (ps_if (PW.pt (pw_or (pt_cmpR op_ne (pe_ix ix_tup (pv 4) pe_int (fun _ _ => rfl)) (pe_ix ix_tup (pv 3) pe_int (fun _ _ => rfl)) (nomark _)) (pw_or (pt_cmpR (op_orR (op_neS hr.units) (op_orR (op_neD hr.units) op_ne)) (pe_ix ix_tup (pv 4) pe_int (fun _ _ => rfl)) (pe_ix ix_tup (pv 3) pe_int (fun _ _ => rfl)) (nomark _)) (pw_or1 (pt_cmpR op_ne (pe_callB call_isi (by rfl) T.n_isinstance (by decide +kernel) (pa_cons (pe_ix ix_tup (pv 4) pe_int (fun _ _ => rfl)) (pa_cons (pe_bltn (v := .ty "bool") (by rfl) T.n_bool (by decide +kernel) rfl) pa_nil))) (pe_callB call_isi (by rfl) T.n_isinstance (by decide +kernel) (pa_cons (pe_ix ix_tup (pv 3) pe_int (fun _ _ => rfl)) (pa_cons (pe_bltn (v := .ty "bool") (by rfl) T.n_bool (by decide +kernel) rfl) pa_nil))) (nomark _)))))) (pss_one (ps_ret pe_bl)) pss_nil)
    (pss_one (ps_ret (pe_or (pe_cmpR op_gt (pv 0) pe_int (nomark _)) (pe_or (pe_cmpR op_ne (pe_ix ix_tup (pv 3) pe_int (fun _ _ => rfl)) pe_str (nomark _)) (pe_one (pe_call (ok_law_is_pair T) (hr.mono (by decide)) (by rfl) T.m__law_is_pair T.F_law_is_pair.kp (b_law_is_pair T) .nil passL (pa_cons (pe_ix ix_tup (pv 4) pe_int (fun _ _ => rfl)) pa_nil)))))))))), ?_⟩
    rw [show L2.start N_law_agrees [.int wh, .ref g, .bl nm] = [some (.int wh), some (.ref g), some (.bl nm), none, none] from rfl]
    try dsimp only [cxOf]
    have lim : 1000 < sizeLine := by decide
    walk_at "js"
    refine ⟨wh, g, v1, v2, v3, d1, d2, d3, rfl, w0, w5, hg, g1.1, g2.1, g3.1, g1.2.1, g2.2.1, g3.2.1, fun a H1 e1 ha => ?_⟩
    walk_at "js"
    refine ⟨wh, g, a, v1, v2, v3, d1, d2, d3, rfl, w0, w5, e1.get hg, g1.1.mono e1, g2.1.mono e1, g3.1.mono e1, g1.2.1, g2.2.1, g3.2.1, ha, fun b H2 e2 hb => ?_⟩
    have e02 := e1.trans e2
    walk_at "js"
    refine ⟨wh, g, nm, v1, v2, v3, d1, d2, d3, rfl, w0, w5, e02.get hg, g1.1.mono e02, g2.1.mono e02, g3.1.mono e02, g1.2.1, g2.2.1, g3.2.1, fun c H3 e3 hc => ?_⟩
    have e03 := e02.trans e3
    have same : ansF withF wh.toNat d1 d2 d3 = ansF insideZ wh.toNat d1 d2 d3 := by
      unfold ansF
      cases c1 : dirD d1 with
      | none => rfl
      | some p =>
        cases c2 : dirD d2 with
        | none => rfl
        | some q =>
          cases c3 : dirD d3 with
          | none => rfl
          | some r =>
            have hw : withF p q r = insideZ p q r := (in_law (dirD_some c1).2 (dirD_some c2).2 (dirD_some c3).2).symm
            dsimp only
            rw [hw]
    rw [same] at hb
    replace hb := hb.mono e3
    have kind : (∃ i, ansF insideZ wh.toNat d1 d2 d3 = .bad i ∧ (i = 0 → dirD d1 = none) ∧ (i = 1 → dirD d2 = none) ∧ (2 ≤ i → dirD d3 = none)) ∨ (∃ p, ansF insideZ wh.toNat d1 d2 d3 = .pt p) ∨ ∃ x, ansF insideZ wh.toNat d1 d2 d3 = .tr x ∧ 3 < wh := by
      unfold ansF
      cases c1 : dirD d1 with
      | none => exact .inl ⟨0, rfl, fun _ => rfl, fun z => absurd z (by decide), fun z => absurd z (by decide)⟩
      | some p =>
        rcases (show wh = 0 ∨ wh = 1 ∨ wh = 2 ∨ wh = 3 ∨ wh = 4 ∨ wh = 5 by omega) with rfl | rfl | rfl | rfl | rfl | rfl
        · exact .inr (.inl ⟨_, rfl⟩)
        · cases c2 : dirD d2 with
          | none => exact .inl ⟨1, rfl, fun z => absurd z (by decide), fun _ => rfl, fun z => absurd z (by decide)⟩
          | some q => exact .inr (.inl ⟨_, rfl⟩)
        · exact .inr (.inl ⟨_, rfl⟩)
        · exact .inr (.inl ⟨_, rfl⟩)
        · cases c2 : dirD d2 with
          | none => exact .inl ⟨1, rfl, fun z => absurd z (by decide), fun _ => rfl, fun z => absurd z (by decide)⟩
          | some q => exact .inr (.inr ⟨_, rfl, by decide⟩)
        · cases c2 : dirD d2 with
          | none => exact .inl ⟨1, rfl, fun z => absurd z (by decide), fun _ => rfl, fun z => absurd z (by decide)⟩
          | some q => cases c3 : dirD d3 with
            | none => exact .inl ⟨2, rfl, fun z => absurd z (by decide), fun z => absurd z (by decide), fun _ => rfl⟩
            | some r => exact .inr (.inr ⟨_, rfl, by decide⟩)
    rcases kind with ⟨i, hi, i0, i1, i2⟩ | ⟨p, hp⟩ | ⟨x, hx, h3⟩
    · rw [hi] at hb hc
      obtain ⟨v, d, gv, hdn, hb', hc'⟩ : ∃ (v : V) (d : PyData), GoodV K H v d ∧ dirD d = none ∧ H3 b = some (.tup [.str "turn", v]) ∧ H3 c = some (.tup [.str "turn", v]) := by
        match i, i0, i1, i2, hb, hc with
        | 0, i0, _, _, hb, hc => exact ⟨v1, d1, g1, i0 rfl, hb, hc⟩
        | 1, _, i1, _, hb, hc => exact ⟨v2, d2, g2, i1 rfl, hb, hc⟩
        | i + 2, _, _, i2, hb, hc => exact ⟨v3, d3, g3, i2 (by omega), hb, hc⟩
      have sv := (gv.2.2 hdn).mono' e03
      clear hb hc
      walk_at "js"
      refine .inl ⟨rfl, sv, ?_⟩
      walk_at "js"
      refine w_isi (gv.1.mono e03) (kit_bool d) ?_
      walk_at "js"
      refine w_isi (gv.1.mono e03) (kit_bool d) ?_
      refine w_neB ?_
      rw [show ((tyn d == "bool") != (tyn d == "bool")) = false by simp]
      walk_at "js"
      cases c3 : decide (3 < wh) with
      | true =>
        walk_at "js"
        exact k H3 e03
      | false =>
        walk_at "js"
        exact k H3 e03
    · rw [hp] at hb hc
      obtain ⟨tb_, hb', hpb⟩ := hb
      obtain ⟨tc, hc', hpc⟩ := hc
      walk_at "js"
      refine .inr (.inl (w_neP hpc.dq hpb.dq ?_))
      rw [decide_eq_true rfl]
      walk_at "js"
      refine w_isi hpc.dq (kit_bool _) ?_
      walk_at "js"
      refine w_isi hpb.dq (kit_bool _) ?_
      refine w_neB ?_
      rw [show ((tyn (PtD p) == "bool") != (tyn (PtD p) == "bool")) = false by simp]
      walk_at "js"
      cases c3 : decide (3 < wh) with
      | true =>
        walk_at "js"
        exact k H3 e03
      | false =>
        walk_at "js"
        refine ⟨_, _, rfl, hpc.dq, fun H4 e4 => ?_⟩
        exact k H4 (e03.trans e4)
    · rw [hx] at hb hc
      have hb' : H3 b = some (.tup [.str "told", .bl x]) := hb
      have hc' : H3 c = some (.tup [.str "told", .bl x]) := hc
      walk_at "js"
      refine .inr (.inr (w_neB ?_))
      rw [show (x != x) = false by simp]
      walk_at "js"
      refine w_isi (.bl x) (kit_bool _) ?_
      walk_at "js"
      refine w_isi (.bl x) (kit_bool _) ?_
      refine w_neB ?_
      rw [show ((tyn (PyData.bool x) == "bool") != (tyn (PyData.bool x) == "bool")) = false by simp]
      walk_at "js"
      rw [decide_eq_true h3]
      walk_at "js"
      exact k H3 e03

def sp_is_row (K : Fr1) : Sp := fun vs H Q _ => ∃ (v : V) (d : PyData), vs = [v] ∧ Dq K H v d ∧ ∀ H', Ex H H' → Q (.bl (isRow d)) H'
theorem ok_is_row (T : Txt K mg) : FnOk P w K mg base (L2.CX P w) 1 (a_is_row K) (d_is_row K) P_is_row (sp_is_row K) := by
  refine T.F_is_row.ok sc_is_row (fun vs H Q E h => ?_) (fun cdv A outer s H vs Q E hr h => ?_)
  · obtain ⟨_, _, rfl, _⟩ := h
    rfl
  · obtain ⟨v, d, rfl, hd, k⟩ := h
    refine ⟨_, (pss_one (ps_ret (pe_callB call_isiT (by rfl) T.n_isinstance (by decide +kernel) (pa_cons (pv 0) (pa_cons (pe_tup (pa_cons (pe_bltn (v := .ty "list") (by rfl) T.n_list (by decide +kernel) rfl) (pa_cons (pe_bltn (v := .ty "tuple") (by rfl) T.n_tuple (by decide +kernel) rfl) pa_nil))) pa_nil))))), ?_⟩
    rw [show L2.start N_is_row [v] = [some v] from rfl]
    try dsimp only [cxOf]
    rw [← isRow_ty d] at k
    walk_at "js"
    refine ⟨by show 2 ≤ sizeLine; decide, fun p hp => ?_⟩
    generalize g1 : upd H p _ = H1
    obtain ⟨e1, h1⟩ := gen_new hp g1
    walk_at "js"
    refine w_isiT (hd.mono e1) h1 (kit_list d) (kit_tuple d) ?_
    exact k H1 e1

def sp_ascending (K : Fr1) : Sp := fun vs H Q E => ∃ (v : V) (d : PyData), vs = [v] ∧ Dq K H v d ∧ (rowsOf d = none → Rz K "BadTurn" "value" v H E) ∧
  (∀ a xs ds, v = .ref a → Sq K H a xs → rowsOf d = some ds → DqAll K H xs ds → ds.length ≤ 100 ∧ (∀ d' ∈ ds, ∀ p, dirD d' = some p → fp 3000 p) ∧
    (∀ (i : Nat) x d', xs[i]? = some x → ds[i]? = some d' → dirD d' = none → (∀ (j : Nat) e', j < i → ds[j]? = some e' → (dirD e').isSome = true) → Rz K "BadTurn" "value" x H E) ∧
    (∀ ps, ds = ps.map PtD → (∀ p ∈ ps, nz p) → ∀ l ys H', H l = none → Ex H H' → H' l = some (.lst ys) → PtsAt H' ys (ascZ ps) → Q (.ref l) H'))
theorem ok_ascending (T : Txt K mg) : FnOk P w K mg base (L2.CX P w) 5 (a_ascending K) (d_ascending K) P_ascending (sp_ascending K) := by
  refine T.F_ascending.ok sc_ascending (fun vs H Q E h => ?_) (fun cdv A outer s H vs Q E hr h => ?_)
  · obtain ⟨_, _, rfl, _⟩ := h
    rfl
  · obtain ⟨v, d, rfl, hd, kR, k⟩ := h
    refine ⟨_, (pss_cons (ps_if (pt_not (pt_val (pe_call (ok_is_row T) (hr.mono (by decide)) (by rfl) T.m_is_row T.F_is_row.kp (b_is_row T) .nil passL (pa_cons (pv 0) pa_nil)))) (pss_one (ps_raise rfl (takes_of rfl rfl rfl rfl) (pmk_oex T.o_BadTurn T.M_BadTurn_p__init__.at_ T.t_BadTurn_p__init__ (ok_BadTurn_p__init__ T) (hr.mono (by decide)) (b_BadTurn_p__init__ T) .nil passL (by rfl) T.m_BadTurn (pa_cons (pv 0) pa_nil)))) pss_nil)
    (pss_cons (ps_set (i := 1) sc_ascending.nd rfl (.inl rfl) (pe_lst pa_nil))
    (pss_cons (ps_for (passes_of rfl) rfl (pi_seq (pv 0)) (pg_name (i := 2) sc_ascending.nd rfl (.inl rfl)) (pss_cons (ps_set (i := 3) sc_ascending.nd rfl (.inl rfl) (pe_call (ok_checked T) (hr.mono (by decide)) (by rfl) T.m_checked T.F_checked.kp (b_checked T) .nil (passes_call (takes_of rfl rfl rfl rfl) (fun _ _ _ _ h => h)) (pa_cons (pv 2) pa_nil)))
    (pss_cons (ps_set (i := 4) sc_ascending.nd rfl (.inl rfl) pe_int)
    (Evl.pss_cut (ps_while (passes_of rfl) (PW.pt (pw_and (pt_cmpR op_lt (pv 4) (pe_callB call_len_seq (by rfl) T.n_len (by decide +kernel) (pa_cons (pv 1) pa_nil)) (nomark _)) (pw_and1 (pt_val (pe_call (ok_earlier T) (hr.mono (by decide)) (by rfl) T.m_earlier T.F_earlier.kp (b_earlier T) .nil passL (pa_cons (pe_ix ix_list (pv 1) (pv 4) (fun _ _ => rfl)) (pa_cons (pv 3) pa_nil))))))) (pss_one (ps_aug (i := 4) sc_ascending.nd rfl (.inl rfl) pe_int ip_add)))
    (pss_one (ps_if (PW.pt (pw_or (pt_cmpR op_eq (pv 4) (pe_callB call_len_seq (by rfl) T.n_len (by decide +kernel) (pa_cons (pv 1) pa_nil)) (nomark _)) (pw_or1 (pt_cmpR (op_neD hr.units) (pe_ix ix_list (pv 1) (pv 4) (fun _ _ => rfl)) (pv 3) (nomark _))))) (pss_one (ps_expr (pe_bm PySem.F.plainAttrs_list PySem.F.slot_list_insert PySem.F.type_list_insert mt_insert (pv 1) (pa_cons (pv 4) (pa_cons (pv 3) pa_nil))))) pss_nil))))))
    (pss_one (ps_ret (pv 1)))))), ?_⟩
    rw [show L2.start N_ascending [v] = [some v, none, none, none, none] from rfl]
    try dsimp only [cxOf]
    have lim : 1000 < sizeLine := by decide
    walk_at "js"
    refine ⟨v, d, rfl, hd, fun H0 e0 => ?_⟩
    cases hrow : rowsOf d with
    | none =>
      have : isRow d = false := by cases d <;> first | rfl | cases hrow
      rw [this]
      walk_at "js"
      refine w_mkO ?_
      walk_at "js"
      exact w_err ((kR hrow).mono e0)
    | some ds =>
      have hir : isRow d = true := by cases d <;> first | rfl | cases hrow
      obtain ⟨a, xs, rfl, hsq, hda⟩ : ∃ a xs, v = .ref a ∧ Sq K H a xs ∧ DqAll K H xs ds := by
        cases hd with
        | lst h q => cases hrow; exact ⟨_, _, rfl, .inl h, q⟩
        | tup h q => cases hrow; exact ⟨_, _, rfl, .inr h, q⟩
        | _ => cases hrow
      obtain ⟨hlen, hfp, kE, kQ⟩ := k a xs ds rfl hsq hrow hda
      rw [hir]
      walk_at "js"
      refine ⟨sz_of (by simp), fun l hp_l => ?_⟩
      generalize g_l : upd H0 l _ = H1
      obtain ⟨e_H1, h_l⟩ := gen_new hp_l g_l
      walk_at "js"
      have l0 : H l = none := e0.free hp_l
      have e01 := e0.trans e_H1
      have hxl := hda.len
      have hsq1 := hsq.mono e01
      have hda1 := hda.mono e01
      have stay : ∀ H', Ex H0 H' → H' a = H1 a := fun H' e => by
        rcases hsq.mono e0 with h | h
        · rw [e.get h, e_H1.get h]
        · rw [e.get h, e_H1.get h]
      refine w_seqA hsq1 fun J wk => ?_
      refine for_it wk (fun i σ' H' => Ex H0 H' ∧ ∃ (qs : List P2) (ys : List V) (v2 v3 v4 : Option V), qs.length = i ∧ (∀ (j : Nat) e', j < i → ds[j]? = some e' → ∃ q, qs[j]? = some q ∧ e' = PtD q) ∧ (∀ q ∈ qs, nz q) ∧ SortL (ascZ qs) ∧ (ascZ qs).length ≤ i ∧ (∀ q ∈ ascZ qs, fp 3000 q) ∧ H' l = some (.lst ys) ∧ PtsAt H' ys (ascZ qs) ∧ σ' = [some (.ref a), some (.ref l), v2, v3, v4]) ?_ (fun i σ' H' _ h => stay H' h.1) ?_ ?_
      · exact ⟨e_H1, [], [], _, _, _, rfl, fun j e' hj => absurd hj (by omega), fun q hq => by (cases hq), SortL.nil, Nat.le_refl _, fun q hq => by (cases hq), h_l, .nil, rfl⟩
      · rintro i y σ' B0' B0 hi ⟨b0, qs, ys, v2, v3, v4, ql, hqs, hnz, hsort, hal, hfq, hl, hys, rfl⟩ ⟨rfl, hy⟩
        have e0B := e0.trans b0
        obtain ⟨d', hd', hyd⟩ := hda.get hy
        have hdm := List.mem_of_getElem? hd'
        walk_at "js"
        refine ⟨y, d', rfl, hyd.mono e0B, fun p e => fp_mono (hfp d' hdm p e) (by decide), fun e => (kE i y d' hy hd' e fun j e' hj hje => ?_).mono e0B, fun p ep t B1 ht0 b1 htp => ?_⟩
        · obtain ⟨q, h1, rfl⟩ := hqs j e' hj hje
          rw [show dirD (PtD q) = some q from dirD_of (hnz q (List.mem_of_getElem? h1))]
          rfl
        · have np := (dirD_some ep).2
          have epd : d' = PtD p := (dirD_some ep).1
          have fpp := hfp d' hdm p ep
          have hl1 := b1.get hl
          have hys1 := hys.mono b1
          have ylen := hys.len
          have twl := tw_le (fun q => earlierZ q p) (ascZ qs)
          have c0B := b0.trans b1
          walk_at "js"
          refine Evl.q_cut (M := fun σ' H' => H' = B1 ∧ σ' = [some (.ref a), some (.ref l), some y, some (.ref t), some (.int (((ascZ qs).takeWhile fun q => earlierZ q p).length : Nat))]) ?_ ?_
          · walk_at "js"
            refine while_at (fun m σ' H' => H' = B1 ∧ ∃ n : Nat, n + m = ((ascZ qs).takeWhile fun q => earlierZ q p).length ∧ σ' = [some (.ref a), some (.ref l), some y, some (.ref t), some (.int (n : Int))]) ⟨_, rfl, 0, Nat.zero_add _, rfl⟩ (fun m σ' H' h => ?_)
            obtain ⟨rfl, n, hn, rfl⟩ := h
            have ask : ∀ q, (ascZ qs)[n]? = some q → earlierZ q (low p) = earlierZ q p := fun q hq => by
              have := hsort.each q (List.mem_of_getElem? hq)
              have e := earlier_low this.1 np
              rw [this.2] at e
              exact e
            walk_at "js"
            rcases Nat.eq_zero_or_pos m with hm | hm
            · subst hm
              rw [Nat.add_zero] at hn
              by_cases hlt : n < ys.length
              · rw [decide_eq_true (by omega)]
                obtain ⟨q, hq⟩ : ∃ q, (ascZ qs)[n]? = some q := ⟨_, List.getElem?_eq_getElem (by omega)⟩
                obtain ⟨tq, htq, hpq⟩ := hys1.get' hq
                walk_at "js"
                refine w_ixL (SqL.of hl1) (at_nat (j := n) rfl htq) ?_
                walk_at "js"
                refine ⟨tq, t, q, low p, rfl, hpq, htp, fp_mono (hfq q (List.mem_of_getElem? hq)) (by decide), fp_mono (fp_low fpp) (by decide), ?_⟩
                rw [ask q hq, tw_end (f := fun q => earlierZ q p) (by rw [← hn]; exact hq)]
                walk_at "js"
                rw [hn]
                exact ⟨rfl, rfl⟩
              · rw [decide_eq_false (by omega)]
                walk_at "js"
                rw [hn]
                exact ⟨rfl, rfl⟩
            · obtain ⟨q, hq, hf⟩ := tw_lt (f := fun q => earlierZ q p) (l := ascZ qs) (j := n) (by omega)
              obtain ⟨tq, htq, hpq⟩ := hys1.get' hq
              have hlt := (List.getElem?_eq_some_iff.mp htq).1
              rw [decide_eq_true (by omega)]
              walk_at "js"
              refine w_ixL (SqL.of hl1) (at_nat (j := n) rfl htq) ?_
              walk_at "js"
              refine ⟨tq, t, q, low p, rfl, hpq, htp, fp_mono (hfq q (List.mem_of_getElem? hq)) (by decide), fp_mono (fp_low fpp) (by decide), ?_⟩
              rw [ask q hq, show earlierZ q p = true from hf]
              walk_at "js"
              refine ⟨fun σ' H'' => H'' = H' ∧ σ' = [some (.ref a), some (.ref l), some y, some (.ref t), some (.int ((n : Int) + 1))], ?_, ?_⟩
              · rintro σ' H'' ⟨rfl, rfl⟩
                exact ⟨m - 1, by omega, rfl, n + 1, by omega, rfl⟩
              · walk_at "js"
                refine ⟨_, rfl, ?_⟩
                walk_at "js"
                exact ⟨_, _, rfl, rfl, rfl, rfl⟩
          · rintro σ' B2 ⟨rfl, rfl⟩
            have tnl : l ≠ t := fun z => by rw [← z, hl] at ht0; cases ht0
            have fin : ∀ (B3 : Hp) (zs : List V), Ex H0 B3 → B3 l = some (.lst zs) → PtsAt B3 zs (insZ (ascZ qs) p) → ∀ v4' : Option V, Ex H0 B3 ∧ ∃ (qs' : List P2) (ys : List V) (v2 v3 v4 : Option V), qs'.length = i + 1 ∧ (∀ (j : Nat) e', j < i + 1 → ds[j]? = some e' → ∃ q, qs'[j]? = some q ∧ e' = PtD q) ∧ (∀ q ∈ qs', nz q) ∧ SortL (ascZ qs') ∧ (ascZ qs').length ≤ i + 1 ∧ (∀ q ∈ ascZ qs', fp 3000 q) ∧ B3 l = some (.lst ys) ∧ PtsAt B3 ys (ascZ qs') ∧ [some (.ref a), some (.ref l), some y, some (.ref t), v4'] = [some (.ref a), some (.ref l), v2, v3, v4] := fun B3 zs eB hz hpz v4' => by
              refine ⟨eB, qs ++ [p], zs, _, _, _, by rw [List.length_append, ql]; rfl, fun j e' hj he' => ?_, fun q hq => ?_, ?_, ?_, fun q hq => ?_, hz, ?_, rfl⟩
              · by_cases hji : j < i
                · obtain ⟨q, h1, h2⟩ := hqs j e' hji he'
                  exact ⟨q, by rw [List.getElem?_append_left (by omega)]; exact h1, h2⟩
                · obtain rfl : j = i := by omega
                  rw [hd'] at he'
                  cases he'
                  exact ⟨p, by rw [List.getElem?_append_right (by omega), ql, Nat.sub_self]; rfl, epd⟩
              · rcases List.mem_append.mp hq with hq | hq
                · exact hnz q hq
                · rw [List.mem_singleton.mp hq]
                  exact np
              · rw [asc_snoc]
                exact hsort.ins np
              · rw [asc_snoc]
                have := ins_len (ascZ qs) p
                omega
              · rw [asc_snoc] at hq
                rcases ins_mem hq with hq | rfl
                · exact hfq q hq
                · exact fp_low fpp
              · rw [asc_snoc]
                exact hpz
            have hins : ¬ (ascZ qs)[((ascZ qs).takeWhile fun q => earlierZ q p).length]? = some (low p) → PtsAt (upd B2 l (.lst (ys.take ((ascZ qs).takeWhile fun q => earlierZ q p).length ++ [.ref t] ++ ys.drop ((ascZ qs).takeWhile fun q => earlierZ q p).length))) (ys.take ((ascZ qs).takeWhile fun q => earlierZ q p).length ++ [.ref t] ++ ys.drop ((ascZ qs).takeWhile fun q => earlierZ q p).length) (insZ (ascZ qs) p) := fun hne => by
              refine PtsAt.stay hl1 ?_
              unfold insZ
              rw [if_neg hne]
              exact ((hys1.take _).app (.cons ⟨t, rfl, htp⟩ .nil)).app (hys1.drop _)
            generalize hk : ((ascZ qs).takeWhile fun q => earlierZ q p).length = n at *
            walk_at "js"
            by_cases hlt : n = ys.length
            · rw [decide_eq_true (by omega)]
              have hne : ¬ (ascZ qs)[n]? = some (low p) := by
                rw [List.getElem?_eq_none (by omega)]
                exact fun z => by cases z
              walk_at "js"
              refine ⟨l, ys, _, _, rfl, rfl, hl1, by omega, by omega, by omega, ?_⟩
              rw [Int.toNat_natCast]
              walk_at "js"
              exact fin _ _ (c0B.mut hp_l) upd_same (hins hne) _
            · rw [decide_eq_false (by omega)]
              obtain ⟨q, hq⟩ : ∃ q, (ascZ qs)[n]? = some q := ⟨_, List.getElem?_eq_getElem (by omega)⟩
              obtain ⟨tq, htq, hpq⟩ := hys1.get' hq
              walk_at "js"
              refine w_ixL (SqL.of hl1) (at_nat (j := n) rfl htq) ?_
              walk_at "js"
              refine w_neP hpq.dq htp.dq ?_
              by_cases he : q = low p
              · rw [decide_eq_true he]
                walk_at "js"
                refine fin B2 ys c0B hl1 ?_ _
                unfold insZ
                rw [hk, if_pos (by rw [hq, he])]
                exact hys1
              · rw [decide_eq_false he]
                walk_at "js"
                refine ⟨l, ys, _, _, rfl, rfl, hl1, by omega, by omega, by omega, ?_⟩
                rw [Int.toNat_natCast]
                walk_at "js"
                exact fin _ _ (c0B.mut hp_l) upd_same (hins (by rw [hq]; exact fun z => he (Option.some.inj z))) _
      · rintro σ' B0 ⟨b0, qs, ys, v2, v3, v4, ql, hqs, hnz, hsort, hal, hfq, hl, hys, rfl⟩
        have hds : ds = qs.map PtD := by
          refine List.ext_getElem? fun j => ?_
          rw [List.getElem?_map]
          by_cases hj : j < ds.length
          · obtain ⟨q, h1, h2⟩ := hqs j _ (by omega) (List.getElem?_eq_getElem hj)
            rw [List.getElem?_eq_getElem hj, h1, h2]
            rfl
          · rw [List.getElem?_eq_none (by omega), List.getElem?_eq_none (by omega)]
            rfl
        walk_at "js"
        exact kQ qs hds hnz l ys B0 l0 (e0.trans b0) hl hys

def sp_law_ascending : Sp := fun vs H Q _ => ∃ (a : Addr) (xs : List V) (ps : List P2), vs = [.ref a] ∧ H a = some (.lst xs) ∧ PtsAt H xs ps ∧ (∀ p ∈ ps, nz p ∧ fp 3000 p) ∧ ps.length ≤ 100 ∧ ∀ l ys H', H l = none → Ex H H' → H' l = some (.lst ys) → PtsAt H' ys (ascZ ps) → Q (.ref l) H'
theorem ok_law_ascending (T : Txt K mg) : FnOk P w K mg base (L2.CX P w) 3 (a_law_ascending K) (d_law_ascending K) P_law_ascending (sp_law_ascending) := by
  refine T.F_law_ascending.ok sc_law_ascending (fun vs H Q E h => ?_) (fun cdv A outer s H vs Q E hr h => ?_)
  · obtain ⟨_, _, _, rfl, _⟩ := h
    rfl
  · obtain ⟨a, xs, ps, rfl, ha, hps, hnz, hlen, kQ⟩ := h
    refine ⟨_, (pss_cons (ps_set (i := 1) sc_law_ascending.nd rfl (.inl rfl) (pe_lst pa_nil))
    (pss_cons (ps_for (passes_of rfl) rfl (pi_list (pv 0)) (pg_name (i := 2) sc_law_ascending.nd rfl (.inl rfl)) (pss_cons (ps_set (i := 3) sc_law_ascending.nd rfl (.inl rfl) pe_int)
    (Evl.pss_cut (ps_for (passes_of rfl) rfl (pi_list (pv 1)) (pg_name (i := 4) sc_law_ascending.nd rfl (.inl rfl)) (pss_one (ps_if (pt_val (pe_call (ok_law_before T) (hr.mono (by decide)) (by rfl) T.m__law_before T.F_law_before.kp (b_law_before T) .nil passL (pa_cons (pv 4) (pa_cons (pv 2) pa_nil)))) (pss_one (ps_set (i := 3) sc_law_ascending.nd rfl (.inl rfl) (pe_op op_add (pv 3) pe_int))) pss_nil)))
    (pss_one (ps_if (PW.pt (pw_or (pt_cmpR op_eq (pv 3) (pe_callB call_len_seq (by rfl) T.n_len (by decide +kernel) (pa_cons (pv 1) pa_nil)) (nomark _)) (pw_or1 (pt_not (pt_val (pe_call (ok_law_same T) (hr.mono (by decide)) (by rfl) T.m__law_same T.F_law_same.kp (b_law_same T) .nil passL (pa_cons (pe_ix ix_list (pv 1) (pv 3) (fun _ _ => rfl)) (pa_cons (pv 2) pa_nil)))))))) (pss_one (ps_expr (pe_bm PySem.F.plainAttrs_list PySem.F.slot_list_insert PySem.F.type_list_insert mt_insert (pv 1) (pa_cons (pv 3) (pa_cons (pe_call (ok_law_least T) (hr.mono (by decide)) (by rfl) T.m__law_least T.F_law_least.kp (b_law_least T) .nil passL (pa_cons (pv 2) pa_nil)) pa_nil))))) pss_nil)))))
    (pss_one (ps_ret (pv 1))))), ?_⟩
    rw [show L2.start N_law_ascending [.ref a] = [some (.ref a), none, none, none, none] from rfl]
    try dsimp only [cxOf]
    have lim : 1000 < sizeLine := by decide
    walk_at "js"
    refine ⟨sz_of (by simp), fun l hp_l => ?_⟩
    generalize g_l : upd H l _ = H1
    obtain ⟨e_H1, h_l⟩ := gen_new hp_l g_l
    walk_at "js"
    have l0 := hp_l
    have hxl := hps.len
    refine ⟨a, rfl, ⟨_, SqL.of (e_H1.get ha)⟩, ?_⟩
    refine for_it (walk_list (xs := xs)) (fun i σ' H' => Ex H H' ∧ ∃ (ys : List V) (v2 v3 v4 : Option V), SortL (ascZ (ps.take i)) ∧ (ascZ (ps.take i)).length ≤ i ∧ (∀ q ∈ ascZ (ps.take i), fp 3000 q) ∧ H' l = some (.lst ys) ∧ PtsAt H' ys (ascZ (ps.take i)) ∧ σ' = [some (.ref a), some (.ref l), v2, v3, v4]) ?_ (fun i σ' H' _ h => SqL.of (h.1.get ha)) ?_ ?_
    · exact ⟨e_H1, [], _, _, _, SortL.nil, Nat.le_refl _, fun q hq => by (cases hq), h_l, .nil, rfl⟩
    · rintro i y σ' B0' B0 hi ⟨b0, ys, v2, v3, v4, hsort, hal, hfq, hl, hys, rfl⟩ ⟨rfl, hy⟩
      obtain ⟨p, t, hp, rfl, htp0⟩ := hps.get hy
      have htp := htp0.mono b0
      obtain ⟨np, fpp⟩ := hnz p (List.mem_of_getElem? hp)
      have htk : ps.take (i + 1) = ps.take i ++ [p] := by rw [List.take_add_one, hp]; rfl
      have hasc : ascZ (ps.take (i + 1)) = insZ (ascZ (ps.take i)) p := by rw [htk, asc_snoc]
      generalize hqs : ascZ (ps.take i) = L at *
      have ylen := hys.len
      have cnt := count_take (p := p) hsort.asc (fun r hr => (hsort.each r hr).1) np
      walk_at "js"
      refine Evl.q_cut (M := fun σ' H' => H' = B0 ∧ ∃ v4 : Option V, σ' = [some (.ref a), some (.ref l), some (.ref t), some (.int ((L.takeWhile fun q => earlierZ q p).length : Nat)), v4]) ?_ ?_
      · walk_at "js"
        refine ⟨l, rfl, ⟨_, SqL.of hl⟩, ?_⟩
        refine for_it (walk_list (xs := ys)) (fun j σ' H' => H' = B0 ∧ ∃ v4 : Option V, σ' = [some (.ref a), some (.ref l), some (.ref t), some (.int (((L.take j).countP fun q => earlierZ q p) : Nat)), v4]) ?_ (fun j σ' H' _ h => by rw [h.1]; exact SqL.of hl) ?_ ?_
        · exact ⟨rfl, _, rfl⟩
        · rintro j z σ' B1' B1 hj ⟨rfl, v4, rfl⟩ ⟨rfl, hz⟩
          obtain ⟨q, tq, hq, rfl, hpq⟩ := hys.get hz
          have cs : (L.take (j + 1)).countP (fun q => earlierZ q p) = (L.take j).countP (fun q => earlierZ q p) + if earlierZ q p = true then 1 else 0 := by
            rw [List.take_add_one, hq, List.countP_append, Option.toList_some, List.countP_singleton]
          walk_at "js"
          refine ⟨tq, t, q, p, rfl, hpq, htp, fp_mono (hfq q (List.mem_of_getElem? hq)) (by decide), fp_mono fpp (by decide), ?_⟩
          cases c : earlierZ q p with
          | true =>
            walk_at "js"
            refine ⟨rfl, some (.ref tq), ?_⟩
            rw [cs, if_pos c]
            rfl
          | false =>
            walk_at "js"
            refine ⟨rfl, some (.ref tq), ?_⟩
            rw [cs, if_neg (by rw [c]; exact Bool.false_ne_true), Nat.add_zero]
        · rintro σ' B1 ⟨rfl, v4, rfl⟩
          rw [ylen, List.take_length, cnt]
          walk_at "js"
          exact ⟨rfl, _, rfl⟩
      · rintro σ' B2 ⟨rfl, v4, rfl⟩
        have fin : ∀ (B3 : Hp) (zs : List V), Ex H B3 → B3 l = some (.lst zs) → PtsAt B3 zs (insZ L p) → ∀ v4' v5' : Option V, Ex H B3 ∧ ∃ (ys : List V) (v2 v3 v4 : Option V), SortL (ascZ (ps.take (i + 1))) ∧ (ascZ (ps.take (i + 1))).length ≤ i + 1 ∧ (∀ q ∈ ascZ (ps.take (i + 1)), fp 3000 q) ∧ B3 l = some (.lst ys) ∧ PtsAt B3 ys (ascZ (ps.take (i + 1))) ∧ [some (.ref a), some (.ref l), some (.ref t), v4', v5'] = [some (.ref a), some (.ref l), v2, v3, v4] := fun B3 zs eB hz hpz v4' v5' => by
          rw [hasc]
          refine ⟨eB, zs, _, _, _, hsort.ins np, ?_, fun q hq => ?_, hz, hpz, rfl⟩
          · have := ins_len L p
            omega
          · rcases ins_mem hq with hq | rfl
            · exact hfq q hq
            · exact fp_low fpp
        have twl := tw_le (fun q => earlierZ q p) L
        have hunf : insZ L p = if L[(L.takeWhile fun q => earlierZ q p).length]? = some (low p) then L else L.take (L.takeWhile fun q => earlierZ q p).length ++ [low p] ++ L.drop (L.takeWhile fun q => earlierZ q p).length := rfl
        generalize hk : (L.takeWhile fun q => earlierZ q p).length = n at *
        have ins : ¬ L[n]? = some (low p) → sp_law_least [.ref t] B2 (fun v B3 => ∃ u, v = .ref u ∧ Ex B2 B3 ∧ B2 u = none ∧ PtAt B3 u (low p)) (fun _ _ _ => False) := fun _ => ⟨t, p, rfl, htp, np, fp_mono fpp (by decide), fun r H' h0 e hr => ⟨r, rfl, e, h0, hr⟩⟩
        have fin2 : ¬ L[n]? = some (low p) → ∀ (u : Addr) (B3 : Hp), B2 u = none → Ex B2 B3 → PtAt B3 u (low p) → PtsAt (upd B3 l (.lst (ys.take n ++ [.ref u] ++ ys.drop n))) (ys.take n ++ [.ref u] ++ ys.drop n) (insZ L p) := fun hne u B3 hu0 e3 hu => by
          refine PtsAt.stay (e3.get hl) ?_
          rw [hunf, if_neg hne]
          exact (((hys.mono e3).take _).app (.cons ⟨u, rfl, hu⟩ .nil)).app ((hys.mono e3).drop _)
        walk_at "js"
        by_cases hlt : n = ys.length
        · rw [decide_eq_true (by omega)]
          have hne : ¬ L[n]? = some (low p) := by
            rw [List.getElem?_eq_none (by omega)]
            exact fun z => by cases z
          walk_at "js"
          refine ⟨t, p, rfl, htp, np, fp_mono fpp (by decide), fun u B3 hu0 e3 hu => ?_⟩
          walk_at "js"
          refine ⟨l, ys, _, _, rfl, rfl, e3.get hl, by omega, by omega, by omega, ?_⟩
          rw [Int.toNat_natCast]
          walk_at "js"
          exact fin _ _ ((b0.trans e3).mut l0) upd_same (fin2 hne u B3 hu0 e3 hu) _ _
        · rw [decide_eq_false (by omega)]
          obtain ⟨q, hq⟩ : ∃ q, L[n]? = some q := ⟨_, List.getElem?_eq_getElem (by omega)⟩
          obtain ⟨tq, htq, hpq⟩ := hys.get' hq
          have hqm := hsort.each q (List.mem_of_getElem? hq)
          have hsi := same_iff hqm.1 np
          rw [hqm.2] at hsi
          walk_at "js"
          refine w_ixL (SqL.of hl) (at_nat (j := n) rfl htq) ?_
          walk_at "js"
          refine ⟨tq, t, q, p, rfl, hpq, htp, fp_mono (hfq q (List.mem_of_getElem? hq)) (by decide), fp_mono fpp (by decide), ?_⟩
          cases c : sameZ q p with
          | true =>
            walk_at "js"
            refine fin B2 ys b0 hl ?_ _ _
            rw [hunf, if_pos (by rw [hq, hsi.mp c])]
            exact hys
          | false =>
            have hne : ¬ L[n]? = some (low p) := by
              rw [hq]
              intro z
              have := hsi.mpr (Option.some.inj z)
              rw [c] at this
              cases this
            walk_at "js"
            refine ⟨t, p, rfl, htp, np, fp_mono fpp (by decide), fun u B3 hu0 e3 hu => ?_⟩
            walk_at "js"
            refine ⟨l, ys, _, _, rfl, rfl, e3.get hl, by omega, by omega, by omega, ?_⟩
            rw [Int.toNat_natCast]
            walk_at "js"
            exact fin _ _ ((b0.trans e3).mut l0) upd_same (fin2 hne u B3 hu0 e3 hu) _ _
    · rintro σ' B0 ⟨b0, ys, v2, v3, v4, hsort, hal, hfq, hl, hys, rfl⟩
      rw [hxl, List.take_length] at hys
      walk_at "js"
      exact kQ l ys B0 l0 b0 hl hys

def sp_law_sorts (K : Fr1) : Sp := fun vs H Q _ => ∃ (g : Addr) (xs : List V) (ps : List P2), vs = [.ref g] ∧ H g = some (.lst xs) ∧ PtsAt H xs ps ∧ ps.length ≤ 60 ∧ (∀ p ∈ ps, nz p ∧ fp 200 p) ∧ ∀ H', Ex H H' → Q (.bl true) H'
theorem asc_at {K : Fr1} {H : Hp} {a : Addr} {xs : List V} {ps : List P2} {Q : VK} {E : XK} (ha : Sq K H a xs) (hp : PtsAt H xs ps) (hl : ps.length ≤ 60) (hz : ∀ p ∈ ps, nz p ∧ fp 200 p) (k : ∀ l ys H', H l = none → Ex H H' → H' l = some (.lst ys) → PtsAt H' ys (ascZ ps) → Q (.ref l) H') : sp_ascending K [.ref a] H Q E := by
  have hdq := hp.dq (K := K)
  obtain ⟨d, hd, hrow⟩ : ∃ d, Dq K H (.ref a) d ∧ rowsOf d = some (ps.map PtD) := by
    rcases ha with h | h
    · exact ⟨_, .lst h hdq, rfl⟩
    · exact ⟨_, .tup h hdq, rfl⟩
  refine ⟨_, d, rfl, hd, fun e => by (rw [hrow] at e; cases e), fun a' xs' ds' e hs hr hda => ?_⟩
  cases e
  rw [hrow] at hr
  cases hr
  refine ⟨by rw [List.length_map]; omega, fun d' hd' p hdp => ?_, fun i x d' hx hd' hn hj => ?_, fun qs hqs hnz l ys H' h0 e hl hy => ?_⟩
  · obtain ⟨q, hq, rfl⟩ := List.mem_map.mp hd'
    rw [show dirD (PtD q) = some q from dirD_of (hz q hq).1] at hdp
    cases hdp
    exact fp_mono (hz _ hq).2 (by decide)
  · rw [List.getElem?_map] at hd'
    obtain ⟨q, hq, rfl⟩ := Option.map_eq_some_iff.mp hd'
    rw [show dirD (PtD q) = some q from dirD_of (hz q (List.mem_of_getElem? hq)).1] at hn
    cases hn
  · rw [← ptds_inj hqs] at hy
    exact k l ys H' h0 e hl hy
theorem ok_law_sorts (T : Txt K mg) : FnOk P w K mg base (L2.CX P w) 6 (a_law_sorts K) (d_law_sorts K) P_law_sorts (sp_law_sorts K) := by
  refine T.F_law_sorts.ok sc_law_sorts (fun vs H Q E h => ?_) (fun cdv A outer s H vs Q E hr h => ?_)
  · obtain ⟨_, _, _, rfl, _⟩ := h
    rfl
  · obtain ⟨g, xs, ps, rfl, hg, hps, hlen, hz, k⟩ := h
    refine ⟨_, (pss_cons (ps_set (i := 1) sc_law_sorts.nd rfl (.inl rfl) (pe_callTy call_list_of (by rfl) T.n_list (by decide +kernel) (pa_cons (pv 0) pa_nil)))
    (pss_cons (ps_for (passes_of rfl) rfl (pi_range1 (by rfl) T.n_range (pa_cons pe_int pa_nil)) (pg_name (i := 2) sc_law_sorts.nd rfl (.inl rfl)) (pss_cons (ps_set (i := 3) sc_law_sorts.nd rfl (.inl rfl) (pe_call (ok_ascending T) (hr.mono (by decide)) (by rfl) T.m_ascending T.F_ascending.kp (b_ascending T) .nil passL (pa_cons (pv 1) pa_nil)))
    (pss_cons (ps_if (PW.pt (pw_or (pt_not (pt_val (pe_callB call_isi (by rfl) T.n_isinstance (by decide +kernel) (pa_cons (pv 3) (pa_cons (pe_bltn (v := .ty "list") (by rfl) T.n_list (by decide +kernel) rfl) pa_nil))))) (pw_or (pt_cmpR (op_neD hr.units) (pv 3) (pe_call (ok_law_ascending T) (hr.mono (by decide)) (by rfl) T.m__law_ascending T.F_law_ascending.kp (b_law_ascending T) .nil passL (pa_cons (pv 0) pa_nil)) (nomark _)) (pw_or1 (pt_cmpR (op_neD hr.units) (pv 1) (pv 0) (nomark _)))))) (pss_one (ps_ret pe_bl)) pss_nil)
    (pss_cons (ps_if (pt_not (pt_val (pe_callB (cr_all rfl) (by rfl) T.n_all (by decide +kernel) (pa_cons (pe_lc (own := [("_law_pair", 4)]) (g := gName 4) (by rfl) sc_law_sorts.nd (pi_list (pv 3)) (blkOk_by (N := N_law_sorts) (sc := defScope s_law_sorts) (by decide +kernel)) (fun _ _ _ _ _ => (pg_name (i := 4) sc_law_sorts.nd rfl (.inl rfl))) (fun _ _ _ _ _ => pts_nil) (fun _ _ _ _ _ => (pe_call (ok_law_is_pair T) (hr.mono (by decide)) (by rfl) T.m__law_is_pair T.F_law_is_pair.kp (b_law_is_pair T) .nil passL (pa_cons (pv 4) pa_nil)))) pa_nil)))) (pss_one (ps_ret pe_bl)) pss_nil)
    (pss_one (ps_expr (pe_bm PySem.F.plainAttrs_list PySem.F.slot_list_append PySem.F.type_list_append mt_append (pv 3) (pa_cons (pe_tup (pa_cons pe_int (pa_cons pe_int pa_nil))) pa_nil))))))))
    (pss_one (ps_ret (pe_cmpR (op_eqD hr.units) (pe_call (ok_ascending T) (hr.mono (by decide)) (by rfl) T.m_ascending T.F_ascending.kp (b_ascending T) .nil passL (pa_cons (pe_callTy call_tuple_of (by rfl) T.n_tuple (by decide +kernel) (pa_cons (pv 0) pa_nil)) pa_nil)) (pe_call (ok_law_ascending T) (hr.mono (by decide)) (by rfl) T.m__law_ascending T.F_law_ascending.kp (b_law_ascending T) .nil passL (pa_cons (pv 0) pa_nil)) (nomark _)))))), ?_⟩
    rw [show L2.start N_law_sorts [.ref g] = [some (.ref g), none, none, none, none] from rfl]
    try dsimp only [cxOf]
    have lim : 1000 < sizeLine := by decide
    have hxl := hps.len
    walk_at "js"
    intro hh hh0
    generalize g1 : upd H hh _ = H1
    obtain ⟨e1, hh1⟩ := gen_new hh0 g1
    walk_at "js"
    refine ⟨2, rfl, by decide, by decide, ?_⟩
    refine for_range (lo := 0) (n := (2 : Int).toNat) (fun i σ' H' => Ex H H' ∧ H' hh = some (.lst xs) ∧ ∃ (v2 v3 v4 : Option V), σ' = [some (.ref g), some (.ref hh), v2, v3, v4]) ?_ ?_ ?_
    · exact ⟨e1, hh1, _, _, _, rfl⟩
    · rintro i σ' B hi ⟨b0, hhB, v2, v3, v4, rfl⟩
      walk_at "js"
      refine asc_at (.inl hhB) (hps.mono b0) hlen hz fun l ys B1 l0 b1 hl hy => ?_
      have hyl := hy.len
      walk_at "js"
      refine w_isi (.lst hl (hy.dq (K := K))) (kit_list _) ?_
      walk_at "js"
      rw [show (tyn (.list ((ascZ ps).map PtD)) == "list") = true from rfl]
      have b01 := b0.trans b1
      walk_at "js"
      refine ⟨g, xs, ps, rfl, b01.get hg, hps.mono b01, fun p hp => ⟨(hz p hp).1, fp_mono (hz p hp).2 (by decide)⟩, by omega, fun l2 zs B2 l20 b2 hl2 hz2 => ?_⟩
      refine w_neRL (a := ascZ ps) (b := ascZ ps) (.lst (b2.get hl) (hy.mono b2).dq) (.lst hl2 hz2.dq) ?_
      rw [decide_eq_true rfl]
      have b02 := b01.trans b2
      walk_at "js"
      refine w_neRL (a := ps) (b := ps) (.lst ((b1.trans b2).get hhB) (hps.mono b02).dq) (.lst (b02.get hg) (hps.mono b02).dq) ?_
      rw [decide_eq_true rfl]
      walk_at "js"
      have hlB2 := b2.get hl
      refine ⟨l, rfl, ⟨_, SqL.of hlB2⟩, ?_⟩
      have asl := asc_len ps
      refine lc_gen (fun H v (b : Bool) => v = .bl b) (fun _ _ _ _ _ q => q) (walk_list.mono (fun H' e => SqL.of (e.get hlB2)) fun _ _ _ _ _ _ y => y) (fun _ : Nat => some true) (by omega) (fun Dl j u C1 C2 k1 k2 hD hj c0 hx' yy kk1 kk2 => ?_) (fun Dl C1 hD c1 hacc => ?_)
      · obtain ⟨rfl, hu⟩ := yy
        obtain ⟨p, t, hp, rfl, htp⟩ := (hy.mono (b2.trans c0)).get hu
        walk_at "js"
        walk_at "wp"
        walk_at "js"
        exact ⟨_, _, rfl, htp.dq, fun C3 c3 => kk1 true _ _ rfl c3 rfl⟩
      · obtain ⟨acc, hacc, hpr⟩ := hacc
        have hb := bools_of hpr
        rw [hb] at hacc
        walk_at "js"
        refine ⟨Dl, _, rfl, SqL.of hacc, ?_⟩
        rw [show ((List.range ys.length).filterMap fun _ => some true).all id = true from List.all_eq_true.mpr fun b hb => by
          obtain ⟨_, _, q⟩ := List.mem_filterMap.mp hb
          cases q
          rfl]
        walk_at "js"
        refine ⟨sz_of (by simp), fun z hp_z => ?_⟩
        generalize g_z : upd C1 z _ = C2
        obtain ⟨e_C2, h_z⟩ := gen_new hp_z g_z
        walk_at "js"
        have hlC := (c1.trans e_C2).get hlB2
        refine w_append hlC (by omega) ?_
        have hhl : hh ≠ l := fun z => by rw [← z, hhB] at l0; cases l0
        walk_at "js"
        refine ⟨(b02.trans (c1.trans e_C2)).mut (b0.free l0), ?_, _, _, _, rfl⟩
        rw [upd_ne hhl]
        exact (b1.trans (b2.trans (c1.trans e_C2))).get hhB
    · rintro σ' B ⟨b0, hhB, v2, v3, v4, rfl⟩
      walk_at "js"
      refine ⟨g, xs, rfl, .inl ⟨SqL.of (b0.get hg), fun t ht0 => ?_⟩⟩
      generalize g3 : upd B t _ = B1
      obtain ⟨b1, ht⟩ := gen_new ht0 g3
      have b01 := b0.trans b1
      walk_at "js"
      refine asc_at (.inr ht) (hps.mono b01) hlen hz fun l ys B2 l0 b2 hl hy => ?_
      have b02 := b01.trans b2
      walk_at "js"
      refine ⟨g, xs, ps, rfl, b02.get hg, hps.mono b02, fun p hp => ⟨(hz p hp).1, fp_mono (hz p hp).2 (by decide)⟩, by omega, fun l2 zs B3 l20 b3 hl2 hz2 => ?_⟩
      refine w_eqRL (a := ascZ ps) (b := ascZ ps) (.lst (b3.get hl) (hy.mono b3).dq) (.lst hl2 hz2.dq) ?_
      rw [decide_eq_true rfl]
      exact k B3 (b02.trans b3)

def sp_law_sort_refused (K : Fr1) : Sp := fun vs H Q _ => ∃ (s L g : Addr) (sc : List Int) (xs : List V) (ps : List P2), vs = [.ref s, .ref g] ∧ H s = some (StO s L) ∧ H L = some (.lst (sc.map V.int)) ∧ H g = some (.lst xs) ∧ PtsAt H xs ps ∧ ps.length ≤ 60 ∧ (∀ p ∈ ps, nz p ∧ fp 200 p) ∧ ∀ H', Ex H H' → Q (.bl true) H'
/-- sorting v raises for u -/
def Refuses (K : Fr1) (H : Hp) (v u : V) : Prop := ∀ (Q : VK) (E : XK), Rz K "BadTurn" "value" u H E → sp_ascending K [v] H Q E
theorem refuses_no {K : Fr1} {H : Hp} {v : V} {d : PyData} (hd : Dq K H v d) (h : rowsOf d = none) : Refuses K H v v := fun Q E hz => ⟨v, d, rfl, hd, fun _ => hz, fun a xs ds _ _ hr => by (rw [h] at hr; cases hr)⟩
theorem refuses_row {K : Fr1} {H : Hp} {a : Addr} {xs : List V} {ds : List PyData} {i : Nat} {u : V} {d : PyData} (ha : Sq K H a xs) (hda : DqAll K H xs ds) (hl : ds.length ≤ 100) (hf : ∀ d' ∈ ds, ∀ p, dirD d' = some p → fp 3000 p) (hu : xs[i]? = some u) (hd : ds[i]? = some d) (hn : dirD d = none) (hj : ∀ (j : Nat) e', j < i → ds[j]? = some e' → (dirD e').isSome = true) : Refuses K H (.ref a) u := fun Q E hz => by
  obtain ⟨D, hD, hrow⟩ : ∃ D, Dq K H (.ref a) D ∧ rowsOf D = some ds := by
    rcases ha with h | h
    · exact ⟨_, .lst h hda, rfl⟩
    · exact ⟨_, .tup h hda, rfl⟩
  refine ⟨_, D, rfl, hD, fun e => by (rw [hrow] at e; cases e), fun a' xs' ds' e hs hr hda' => ?_⟩
  cases e
  rw [hrow] at hr
  cases hr
  obtain rfl : xs' = xs := by
    rcases ha with h | h <;> rcases hs with h' | h' <;> rw [h] at h' <;> cases h' <;> rfl
  refine ⟨hl, hf, fun j x d' hx hd' hn' hj' => ?_, fun qs hqs hnz l ys H' h0 e hl hy => ?_⟩
  · have : i = j := by
      rcases Nat.lt_trichotomy i j with c | c | c
      · have := hj' i d c hd
        rw [hn] at this
        cases this
      · exact c
      · have := hj j d' c hd'
        rw [hn'] at this
        cases this
    subst this
    rw [hu] at hx
    cases hx
    exact hz
  · rw [hqs, List.getElem?_map] at hd
    obtain ⟨q, hq, rfl⟩ := Option.map_eq_some_iff.mp hd
    rw [show dirD (PtD q) = some q from dirD_of (hnz q (List.mem_of_getElem? hq))] at hn
    cases hn
theorem del_upd41 {H : Hp} {R : Addr} {o : HO} : del (upd H R o) R = del H R := by
  funext b
  unfold del upd
  by_cases c : b = R
  · rw [if_pos c, if_pos c]
  · rw [if_neg c, if_neg c, if_neg c]
theorem paired_eq41 {xs ys : List V} (h : Paired (fun v x => v = x) xs ys) : xs = ys := by
  induction h with
  | nil => rfl
  | cons h _ ih => rw [h, ih]
theorem ok_law_sort_refused (T : Txt K mg) : FnOk P w K mg base (L2.CX P w) 6 (a_law_sort_refused K) (d_law_sort_refused K) P_law_sort_refused (sp_law_sort_refused K) := by
  refine T.F_law_sort_refused.ok sc_law_sort_refused (fun vs H Q E h => ?_) (fun cdv A outer s H vs Q E hr h => ?_)
  · obtain ⟨_, _, _, _, _, _, rfl, _⟩ := h
    rfl
  · obtain ⟨s, L, g, sc0, xs, ps, rfl, hs, hL, hg, hps, hlen, hz, k⟩ := h
    refine ⟨_, (Evl.pss_cut (ps_if (pt_cmpR op_eq (pe_call (ok_law_draw T) (hr.mono (by decide)) (by rfl) T.m__law_draw T.F_law_draw.kp (b_law_draw T) .nil passL (pa_cons (pv 0) (pa_cons pe_int pa_nil))) pe_int (nomark _)) (pss_cons (ps_set (i := 2) sc_law_sort_refused.nd rfl (.inl rfl) (pe_ix ix_list (pe_lst (pa_cons pe_non (pa_cons (pe_tup (pa_cons pe_int (pa_cons pe_int pa_nil))) (pa_cons pe_str (pa_cons pe_dnewK (pa_cons pe_int (pa_cons pe_bl pa_nil))))))) (pe_call (ok_law_draw T) (hr.mono (by decide)) (by rfl) T.m__law_draw T.F_law_draw.kp (b_law_draw T) .nil passL (pa_cons (pv 0) (pa_cons pe_int pa_nil))) (fun _ _ => rfl)))
    (pss_cons (ps_set (i := 3) sc_law_sort_refused.nd rfl (.inl rfl) (pv 2))
    (pss_one (ps_if (pt_cmpR (op_orR (op_eqDTu hr.units) (op_eqD hr.units)) (pv 2) (pe_tup (pa_cons pe_int (pa_cons pe_int pa_nil))) (nomark _)) (pss_one (ps_set (i := 3) sc_law_sort_refused.nd rfl (.inl rfl) pe_int)) pss_nil)))) (pss_cons (ps_set (i := 2) sc_law_sort_refused.nd rfl (.inl rfl) (pe_callTy call_list_of (by rfl) T.n_list (by decide +kernel) (pa_cons (pv 1) pa_nil)))
    (pss_cons (ps_expr (pe_bm PySem.F.plainAttrs_list PySem.F.slot_list_insert PySem.F.type_list_insert mt_insert (pv 2) (pa_cons (pe_call (ok_law_draw T) (hr.mono (by decide)) (by rfl) T.m__law_draw T.F_law_draw.kp (b_law_draw T) .nil passL (pa_cons (pv 0) (pa_cons (pe_op op_add (pe_callB call_len_seq (by rfl) T.n_len (by decide +kernel) (pa_cons (pv 1) pa_nil)) pe_int) pa_nil))) (pa_cons (pe_call (ok_law_strange T) (hr.mono (by decide)) (by rfl) T.m__law_strange T.F_law_strange.kp (b_law_strange T) .nil passL (pa_cons (pv 0) pa_nil)) pa_nil))))
    (Evl.pss_cut (ps_if (pt_cmpR op_eq (pe_call (ok_law_draw T) (hr.mono (by decide)) (by rfl) T.m__law_draw T.F_law_draw.kp (b_law_draw T) .nil passL (pa_cons (pv 0) (pa_cons pe_int pa_nil))) pe_int (nomark _)) (pss_one (ps_expr (pe_bm PySem.F.plainAttrs_list PySem.F.slot_list_insert PySem.F.type_list_insert mt_insert (pv 2) (pa_cons (pe_call (ok_law_draw T) (hr.mono (by decide)) (by rfl) T.m__law_draw T.F_law_draw.kp (b_law_draw T) .nil passL (pa_cons (pv 0) (pa_cons (pe_op op_add (pe_callB call_len_seq (by rfl) T.n_len (by decide +kernel) (pa_cons (pv 2) pa_nil)) pe_int) pa_nil))) (pa_cons (pe_call (ok_law_strange T) (hr.mono (by decide)) (by rfl) T.m__law_strange T.F_law_strange.kp (b_law_strange T) .nil passL (pa_cons (pv 0) pa_nil)) pa_nil))))) pss_nil)
    (pss_cons (ps_setLc (i := 5) (own := [("_law_thing", 4)]) (g := gName 4) (by rfl) sc_law_sort_refused.nd rfl rfl (sw_true rfl rfl rfl (by decide +kernel)) (pi_list (pv 2)) (blkOk_by (N := N_law_sort_refused) (sc := defScope s_law_sort_refused) (by decide +kernel)) (fun _ _ _ _ _ => (pg_name (i := 4) sc_law_sort_refused.nd rfl (.inl rfl))) (fun _ _ _ _ _ => (pts_one (pt_not (pt_val (pe_call (ok_law_is_direction T) (hr.mono (by decide)) (by rfl) T.m__law_is_direction T.F_law_is_direction.kp (b_law_is_direction T) .nil passL (pa_cons (pv 4) pa_nil)))))) (fun _ _ _ _ _ => (pv 4)))
    (pss_one (ps_set (i := 3) sc_law_sort_refused.nd rfl (.inl rfl) (pe_ix ix_list (pv 5) pe_int (fun _ _ => rfl)))))))))
    (pss_cons (ps_try_as (i := 6) (Wout := fun _ _ _ _ => False) rfl rfl sc_law_sort_refused.nd rfl rfl ⟨rfl, by decide, .inl T.m_BadTurn⟩ takes0 (fun W pn xe tk _ => (pss_cons (ps_expr (pe_callSD (ok_ascending T) (hr.mono (by decide)) (by rfl) T.m_ascending T.F_ascending.kp (b_ascending T) .nil (fun σ => passAt tk σ) (pa_cons (pv 2) pa_nil)))
    (pss_one (ps_ret pe_bl))))
    (fun a oe cls d pn hz hf => (pss_one (ps_set (i := 7) sc_law_sort_refused.nd rfl (.inl rfl) (pe_xf T.x_BadTurn T.na_BadTurn_value hz hf (pv 6))))))
    (pss_one (ps_ret (pe_and (pe_cmpR (op_eqS hr.units) (pv 7) (pv 3) (nomark _)) (pe_one (pe_cmpR op_eq (pe_callB call_isi (by rfl) T.n_isinstance (by decide +kernel) (pa_cons (pv 7) (pa_cons (pe_bltn (v := .ty "bool") (by rfl) T.n_bool (by decide +kernel) rfl) pa_nil))) (pe_callB call_isi (by rfl) T.n_isinstance (by decide +kernel) (pa_cons (pv 3) (pa_cons (pe_bltn (v := .ty "bool") (by rfl) T.n_bool (by decide +kernel) rfl) pa_nil))) (nomark _)))))))), ?_⟩
    rw [show L2.start N_law_sort_refused [.ref s, .ref g] = [some (.ref s), some (.ref g), none, none, none, none, none, none] from rfl]
    try dsimp only [cxOf]
    have lim : 1000 < sizeLine := by decide
    have hxl := hps.len
    walk_at "js"
    refine Evl.q_cut (M := fun σ' H' => Ex H H' ∧ ∃ (v u : V) (du : PyData) (v4 v5 : Option V), Refuses K H' v u ∧ SameV K H' u ∧ Dq K H' u du ∧ σ' = [some (.ref s), some (.ref g), some v, some u, v4, v5, none, none]) ?_ ?_
    · walk_at "js"
      refine ⟨s, L, _, 3, rfl, hs, hL, by omega, by omega, fun q q0 q1 => ?_⟩
      walk_at "js"
      refine w_if (fun c => ?_) (fun c => ?_)
      · walk_at "js"
        refine ⟨sz_of (by simp), fun t1 hp_t1 => ?_⟩
        generalize g_t1 : upd H t1 _ = H1
        obtain ⟨e_H1, h_t1⟩ := gen_new hp_t1 g_t1
        walk_at "js"
        intro t2 hp_t2
        generalize g_t2 : upd H1 t2 _ = H2
        obtain ⟨e_H2, h_t2⟩ := gen_new hp_t2 g_t2
        walk_at "js"
        refine ⟨sz_of (by simp), fun m hp_m => ?_⟩
        generalize g_m : upd H2 m _ = H3
        obtain ⟨e_H3, h_m⟩ := gen_new hp_m g_m
        walk_at "js"
        have e03 := e_H1.trans (e_H2.trans e_H3)
        refine ⟨s, L, _, 6, rfl, e03.get hs, e03.get hL, by omega, by omega, fun r r0 r1 => ?_⟩
        have pt : PtAt H3 t1 (0, 1) := (e_H2.trans e_H3).get h_t1
        have hd2 : H3 t2 = some (.dK []) := e_H3.get h_t2
        have sh : SeqAt.shaped (PtD (0, 1)) = true := shaped_pt _
        have sh10 : SeqAt.shaped (PyData.str "10") = true := by
          unfold SeqAt.shaped
          rw [show PyData.canLay0 (.str "10") = true from by decide +kernel]
          rfl
        have flat : ∀ {v : V} {d : PyData}, Dq K H3 v d → flatV v = true → rowsOf d = none → noDict d = true → SeqAt.shaped d = true → PyData.eqv d (PtD (0, 1)) = false → ∀ z H4, Ex H3 H4 → PtAt H4 z (0, 1) → (∀ Q : VK, Q (.bl false) H4 → (rEqDTu v (.ref z) H4 Q ∨ rEqD K v (.ref z) H4 Q)) ∧ Refuses K H4 v v ∧ SameV K H4 v ∧ Dq K H4 v d := fun {v d} hv hf hr hn hsd hq z H4 e hz => ⟨fun Q q => .inr ⟨d, PtD (0, 1), (hv.mono e).dp hn, hz.dq.dp rfl, hsd, sh, by rw [hq]; exact q⟩, refuses_no (hv.mono e) hr, .inl hf, hv.mono e⟩
        rcases (show r = 0 ∨ r = 1 ∨ r = 2 ∨ r = 3 ∨ r = 4 ∨ r = 5 by omega) with rfl | rfl | rfl | rfl | rfl | rfl
        · refine w_ixL (SqL.of h_m) rfl ?_
          walk_at "js"
          refine ⟨sz_of (by simp), fun z hp_z => ?_⟩
          generalize g_z : upd H3 z _ = H4
          obtain ⟨e_H4, h_z⟩ := gen_new hp_z g_z
          walk_at "js"
          obtain ⟨hE, hR, hS, hD⟩ := flat (v := .non) .non rfl rfl rfl (by decide) (by decide) z H4 e_H4 h_z
          refine hE _ ⟨false, rfl, ?_⟩
          walk_at "js"
          exact ⟨e03.trans e_H4, _, _, _, _, _, hR, hS, hD, rfl⟩
        · refine w_ixL (SqL.of h_m) rfl ?_
          walk_at "js"
          refine ⟨sz_of (by simp), fun z hp_z => ?_⟩
          generalize g_z : upd H3 z _ = H4
          obtain ⟨e_H4, h_z⟩ := gen_new hp_z g_z
          walk_at "js"
          have pt4 := pt.mono e_H4
          have ptz : PtAt H4 z (0, 1) := h_z
          refine .inr (w_eqP pt4.dq ptz.dq ⟨true, by rw [decide_eq_true rfl], ?_⟩)
          walk_at "js"
          exact ⟨e03.trans e_H4, .ref t1, .int 0, .int 0, _, _, refuses_row (i := 0) (.inr pt4) (.cons (.int 0) (.cons (.int 1) .nil)) (by decide) (fun d' hd' p hp => by
            simp only [List.mem_cons, List.not_mem_nil, or_false] at hd'
            rcases hd' with rfl | rfl <;> cases hp) rfl rfl rfl (fun j e' hj => absurd hj (by omega)), .inl rfl, .int 0, rfl⟩
        · refine w_ixL (SqL.of h_m) rfl ?_
          walk_at "js"
          refine ⟨sz_of (by simp), fun z hp_z => ?_⟩
          generalize g_z : upd H3 z _ = H4
          obtain ⟨e_H4, h_z⟩ := gen_new hp_z g_z
          walk_at "js"
          obtain ⟨hE, hR, hS, hD⟩ := flat (v := .str "10") (.str _) rfl rfl rfl sh10 (by decide) z H4 e_H4 h_z
          refine hE _ ⟨false, rfl, ?_⟩
          walk_at "js"
          exact ⟨e03.trans e_H4, _, _, _, _, _, hR, hS, hD, rfl⟩
        · refine w_ixL (SqL.of h_m) rfl ?_
          walk_at "js"
          refine ⟨sz_of (by simp), fun z hp_z => ?_⟩
          generalize g_z : upd H3 z _ = H4
          obtain ⟨e_H4, h_z⟩ := gen_new hp_z g_z
          walk_at "js"
          refine .inl ⟨t2, z, [], _, rfl, rfl, e_H4.get hd2, h_z, false, rfl, ?_⟩
          walk_at "js"
          exact ⟨e03.trans e_H4, _, _, _, _, _, refuses_no (.dct (ds := []) (e_H4.get hd2)) rfl, .inr (.inr ⟨t2, [], rfl, e_H4.get hd2, by decide⟩), .dct (ds := []) (e_H4.get hd2), rfl⟩
        · refine w_ixL (SqL.of h_m) rfl ?_
          walk_at "js"
          refine ⟨sz_of (by simp), fun z hp_z => ?_⟩
          generalize g_z : upd H3 z _ = H4
          obtain ⟨e_H4, h_z⟩ := gen_new hp_z g_z
          walk_at "js"
          obtain ⟨hE, hR, hS, hD⟩ := flat (v := .int 5) (.int 5) rfl rfl rfl (by decide) (by decide) z H4 e_H4 h_z
          refine hE _ ⟨false, rfl, ?_⟩
          walk_at "js"
          exact ⟨e03.trans e_H4, _, _, _, _, _, hR, hS, hD, rfl⟩
        · refine w_ixL (SqL.of h_m) rfl ?_
          walk_at "js"
          refine ⟨sz_of (by simp), fun z hp_z => ?_⟩
          generalize g_z : upd H3 z _ = H4
          obtain ⟨e_H4, h_z⟩ := gen_new hp_z g_z
          walk_at "js"
          obtain ⟨hE, hR, hS, hD⟩ := flat (v := .bl true) (.bl true) rfl rfl rfl (by decide) (by decide) z H4 e_H4 h_z
          refine hE _ ⟨false, rfl, ?_⟩
          walk_at "js"
          exact ⟨e03.trans e_H4, _, _, _, _, _, hR, hS, hD, rfl⟩
      · walk_at "js"
        intro h hh0
        generalize g1 : upd H h _ = H1
        obtain ⟨e1, hh1⟩ := gen_new hh0 g1
        walk_at "js"
        refine ⟨s, L, _, (xs.length : Int) + 1, rfl, e1.get hs, e1.get hL, by omega, by omega, fun r r0 r1 => ?_⟩
        walk_at "js"
        refine ⟨s, L, sc0, rfl, e1.get hs, e1.get hL, fun v2 H2 e2 ov => ?_⟩
        have e02 := e1.trans e2
        have hh2 := e2.get hh1
        refine ⟨h, _, r, _, rfl, rfl, hh2, by omega, r0, by omega, ?_⟩
        obtain ⟨d2, gd2, hn2⟩ := ov.good
        have gl0 : GoodL K (del H2 h) xs (ps.map PtD) := (hps.good hz).mono (ex_olddel hh0 e02)
        have gl1 := ((gl0.take r.toNat).app (.cons (gd2.mono (ex_newdel hh1)) .nil)).app (gl0.drop r.toNat)
        generalize g3 : upd H2 h _ = H3
        have hd3 : del H3 h = del H2 h := by rw [← g3]; exact del_upd41
        have hh3 : H3 h = some (.lst (List.take r.toNat xs ++ [v2] ++ List.drop r.toNat xs)) := by rw [← g3]; exact upd_same
        have e03 : Ex H H3 := by
          rw [← g3]
          exact e02.mut hh0
        rw [← hd3] at gl1
        walk_at "js"
        have hlen3 : (List.take r.toNat xs ++ [v2] ++ List.drop r.toNat xs).length = xs.length + 1 := by
          simp only [List.length_append, List.length_take, List.length_drop, List.length_cons, List.length_nil]
          omega
        have in3 : ∃ d ∈ ((ps.map PtD).take r.toNat ++ [d2] ++ (ps.map PtD).drop r.toNat), dirD d = none := ⟨d2, by simp, hn2⟩
        refine Evl.q_cut (M := fun σ' H' => Ex H H' ∧ ∃ ys ds, H' h = some (.lst ys) ∧ GoodL K (del H' h) ys ds ∧ ys.length ≤ 62 ∧ (∃ d ∈ ds, dirD d = none) ∧ σ' = [some (.ref s), some (.ref g), some (.ref h), none, none, none, none, none]) ?_ ?_
        · walk_at "js"
          refine ⟨s, L, sc0, 2, rfl, e03.get hs, e03.get hL, by omega, by omega, fun q2 q20 q21 => ?_⟩
          walk_at "js"
          refine w_if (fun c2 => ?_) (fun c2 => ?_)
          · walk_at "js"
            rw [hlen3]
            refine ⟨s, L, sc0, ((xs.length + 1 : Nat) : Int) + 1, rfl, e03.get hs, e03.get hL, by omega, by omega, fun r2 r20 r21 => ?_⟩
            walk_at "js"
            refine ⟨s, L, sc0, rfl, e03.get hs, e03.get hL, fun v4 H4 e4 ov4 => ?_⟩
            have e04 := e03.trans e4
            have hh4 := e4.get hh3
            refine ⟨h, _, r2, _, rfl, rfl, hh4, by omega, r20, by omega, ?_⟩
            obtain ⟨d4, gd4, hn4⟩ := ov4.good
            have gm := gl1.mono (del_ExM e4)
            have gm1 := ((gm.take r2.toNat).app (.cons (gd4.mono (ex_newdel hh3)) .nil)).app (gm.drop r2.toNat)
            generalize g5 : upd H4 h _ = H5
            have hd5 : del H5 h = del H4 h := by rw [← g5]; exact del_upd41
            have hh5 : H5 h = some (.lst (List.take r2.toNat (List.take r.toNat xs ++ [v2] ++ List.drop r.toNat xs) ++ [v4] ++ List.drop r2.toNat (List.take r.toNat xs ++ [v2] ++ List.drop r.toNat xs))) := by rw [← g5]; exact upd_same
            have e05 : Ex H H5 := by
              rw [← g5]
              exact e04.mut hh0
            rw [← hd5] at gm1
            walk_at "js"
            refine ⟨e05, _, _, hh5, gm1, ?_, ⟨d4, by simp, hn4⟩, rfl⟩
            simp only [List.length_append, List.length_take, List.length_drop, List.length_cons, List.length_nil]
            omega
          · walk_at "js"
            exact ⟨e03, _, _, hh3, gl1, by omega, in3, rfl⟩
        · rintro σ' B ⟨b0, ys, ds, hhB, gl, yl, ⟨dd, hdd, hdn⟩, rfl⟩
          walk_at "js"
          refine ⟨h, rfl, ⟨_, SqL.of hhB⟩, ?_⟩
          have glB := gl.mono ex_del
          have gll := gl.len
          refine lc_gen (fun H v (x : V) => v = x) (fun _ _ _ _ _ q => q) (walk_list.mono (fun H' e => SqL.of (e.get hhB)) fun _ _ _ _ _ _ y => y) (fun i => (ds[i]?).bind fun d => if (dirD d).isSome = true then none else ys[i]?) (by omega) (fun Dl j u C1 C2 k1 k2 hD hj c0 hx' yy kk1 kk2 => ?_) (fun Dl C1 hD c1 hacc => ?_)
          · obtain ⟨rfl, hu⟩ := yy
            have hjl := (List.getElem?_eq_some_iff.mp hu).1
            obtain ⟨dj, hdj⟩ : ∃ dj, ds[j]? = some dj := ⟨_, List.getElem?_eq_getElem (show j < ds.length by omega)⟩
            have gv := glB.get hu hdj
            rw [hdj] at kk1 kk2
            walk_at "js"
            walk_at "wp"
            walk_at "js"
            refine ⟨_, dj, rfl, (gv.mono c0).1, fun C3 c3 => ?_⟩
            by_cases hn : (dirD dj).isSome = true
            · rw [hn]
              walk_at "js"
              exact kk2 (if_pos hn) _ c3
            · rw [Bool.eq_false_iff.mpr hn]
              walk_at "js"
              exact kk1 u _ _ ((if_neg hn).trans hu) c3 rfl
          · obtain ⟨acc, hacc, hpr⟩ := hacc
            have hb : acc = (List.range ys.length).filterMap _ := paired_eq41 hpr
            walk_at "js"
            obtain ⟨i0, hi0⟩ := List.getElem?_of_mem hdd
            have hi0l := (List.getElem?_eq_some_iff.mp hi0).1
            have hpos : 0 < acc.length := by
              rw [hb]
              refine List.length_pos_of_mem (a := ys[i0]'(by omega)) (List.mem_filterMap.mpr ⟨i0, List.mem_range.mpr (by omega), ?_⟩)
              rw [hi0, Option.bind_some, hdn, if_neg (by simp), List.getElem?_eq_getElem]
            obtain ⟨u0, hx0⟩ : ∃ u, acc[0]? = some u := ⟨_, List.getElem?_eq_getElem hpos⟩
            refine w_ixL (SqL.of hacc) (at_nat (j := 0) rfl hx0) ?_
            rw [hb] at hx0
            obtain ⟨i1, hi1, hf1, hfj⟩ := first_of hx0
            walk_at "js"
            obtain ⟨d1, hd1⟩ : ∃ d1, ds[i1]? = some d1 := ⟨_, List.getElem?_eq_getElem (show i1 < ds.length by omega)⟩
            rw [hd1, Option.bind_some] at hf1
            have hn1 : dirD d1 = none := by
              cases h : dirD d1 with
              | none => rfl
              | some x =>
                rw [h, if_pos (show (some x).isSome = true from rfl)] at hf1
                cases hf1
            rw [hn1, if_neg (by simp)] at hf1
            have glC := glB.mono c1
            have g1 := glC.get hf1 hd1
            refine ⟨b0.trans c1, .ref h, u0, d1, _, _, refuses_row (i := i1) (.inl (c1.get hhB)) glC.dq (by omega) (fun d' hd' p hp => ?_) hf1 hd1 hn1 (fun j e' hji hej => ?_), g1.2.2 hn1, g1.1, rfl⟩
            · obtain ⟨ii, hii⟩ := List.getElem?_of_mem hd'
              have hil := (List.getElem?_eq_some_iff.mp hii).1
              exact fp_mono ((glC.get (List.getElem?_eq_getElem (show ii < ys.length by omega)) hii).2.1 p hp) (by decide)
            · have := hfj j hji
              rw [hej, Option.bind_some] at this
              have hjl := (List.getElem?_eq_some_iff.mp hej).1
              cases hs : (dirD e').isSome with
              | true => rfl
              | false =>
                rw [hs, if_neg (by simp), List.getElem?_eq_getElem (show j < ys.length by omega)] at this
                cases this
    · rintro σ' B ⟨b0, v, u, du, v4, v5, hRef, hSame, hDu, rfl⟩
      walk_at "js"
      refine hRef _ _ ?_
      intro dd H' hdd e hv
      refine w_caught T.e_BadTurn fun ea hea => ?_
      walk_at "js"
      refine ⟨_, rfl, rfl, rfl, dd, _, u, rfl, hv, lk_eq, ?_⟩
      try dsimp only [List.set_cons_zero, List.set_cons_succ]
      walk_at "js"
      refine ⟨rfl, hSame.mono' e, ?_⟩
      walk_at "js"
      refine w_isi (hDu.mono e) (kit_bool _) ?_
      walk_at "js"
      refine w_isi (hDu.mono e) (kit_bool _) ?_
      refine w_eqB ?_
      rw [show ((tyn du == "bool") == (tyn du == "bool")) = true by simp]
      exact k H' (b0.trans e)

abbrev k_law : Nat := 17
theorem near41 {H : Hp} {xs : List V} {ps : List P2} (hp : PtsAt H xs ps) (hz : ∀ p ∈ ps, nz p ∧ fp 180 p) (h3 : 3 ≤ ps.length) (j : Int) : ∃ (k : Nat) (t : Addr) (p : P2), (k : Int) = j % (ps.length : Int) ∧ xs[k]? = some (.ref t) ∧ PtAt H t p ∧ nz p ∧ fp 180 p := by
  have m0 := Int.emod_nonneg j (show (ps.length : Int) ≠ 0 by omega)
  have m1 := Int.emod_lt_of_pos j (show (0 : Int) < ps.length by omega)
  obtain ⟨p, h⟩ : ∃ p, ps[(j % (ps.length : Int)).toNat]? = some p := ⟨_, List.getElem?_eq_getElem (by omega)⟩
  obtain ⟨t, h1, h2⟩ := hp.get' h
  exact ⟨_, t, p, by omega, h1, h2, (hz p (List.mem_of_getElem? h)).1, (hz p (List.mem_of_getElem? h)).2⟩
theorem del_upd42 {H : Hp} {R : Addr} {o : HO} : del (upd H R o) R = del H R := by
  funext b
  unfold del upd
  by_cases c : b = R
  · rw [if_pos c, if_pos c]
  · rw [if_neg c, if_neg c, if_neg c]
/-- three things of a list that is changed -/
def Three (K : Fr1) (H : Hp) (g : Addr) : Prop := ∃ v1 v2 v3 d1 d2 d3, H g = some (.lst [v1, v2, v3]) ∧ GoodV K (del H g) v1 d1 ∧ GoodV K (del H g) v2 d2 ∧ GoodV K (del H g) v3 d3
theorem Three.put {K : Fr1} {H : Hp} {g : Addr} {v : V} {d : PyData} {q : Int} {j : Nat} (h : Three K H g) (hv : GoodV K (del H g) v d) (hj : ixN 3 q = some j) : ∃ v1 v2 v3, H g = some (.lst [v1, v2, v3]) ∧ Three K (upd H g (.lst ([v1, v2, v3].set j v))) g := by
  obtain ⟨v1, v2, v3, d1, d2, d3, hg, h1, h2, h3⟩ := h
  refine ⟨v1, v2, v3, hg, ?_⟩
  unfold Three
  rw [del_upd42, upd_same]
  match j with
  | 0 => exact ⟨_, _, _, _, _, _, rfl, hv, h2, h3⟩
  | 1 => exact ⟨_, _, _, _, _, _, rfl, h1, hv, h3⟩
  | 2 => exact ⟨_, _, _, _, _, _, rfl, h1, h2, hv⟩
  | _ + 3 => exact ⟨_, _, _, _, _, _, rfl, h1, h2, h3⟩
theorem Three.mono {K : Fr1} {H H' : Hp} {g : Addr} (e : Ex H H') (h : Three K H g) : Three K H' g := by
  obtain ⟨v1, v2, v3, d1, d2, d3, hg, h1, h2, h3⟩ := h
  exact ⟨v1, v2, v3, d1, d2, d3, e.get hg, h1.mono (del_ExM e), h2.mono (del_ExM e), h3.mono (del_ExM e)⟩
def sp_law (K : Fr1) : Sp := fun vs H Q _ => ∃ (a : Addr) (ns : List Int), vs = [.ref a] ∧ SqL K H a (ns.map V.int) ∧ ns.length ≤ 63 ∧ ∀ H', Q (.bl true) H'
theorem ok_law (T : Txt K mg) : FnOk P w K mg base L2.CX0 k_law (a_law K) (d_law K) P_law (sp_law K) := by
  refine T.F_law.ok sc_law (fun vs H Q E h => ?_) (fun cdv A outer s H vs Q E hr h => ?_)
  · obtain ⟨_, _, rfl, _⟩ := h
    rfl
  · obtain ⟨a, ns, rfl, hS, _, kQ⟩ := h
    refine ⟨_, PSs.nox (pss_cons (ps_set (i := 1) sc_law.nd rfl (.inl rfl) (pe_call (ok_law_state T) (hr.mono (by decide)) (by rfl) T.m__law_state T.F_law_state.kp (b_law_state T) .nil passL (pa_cons (pv 0) pa_nil)))
    (pss_cons (ps_set (i := 2) sc_law.nd rfl (.inl rfl) (pe_op op_add pe_int (pe_call (ok_law_draw T) (hr.mono (by decide)) (by rfl) T.m__law_draw T.F_law_draw.kp (b_law_draw T) .nil passL (pa_cons (pv 1) (pa_cons pe_int pa_nil)))))
    (pss_cons (ps_set (i := 3) sc_law.nd rfl (.inl rfl) (pe_lst pa_nil))
    (pss_cons (ps_for PassesOwn.never rfl (pi_range1 (by rfl) T.n_range (pa_cons (pv 2) pa_nil)) (pg_name (i := 4) sc_law.nd rfl (.inl rfl)) (pss_one (ps_expr (pe_bm PySem.F.plainAttrs_list PySem.F.slot_list_append PySem.F.type_list_append mt_append (pv 3) (pa_cons (pe_call (ok_law_direction T) (hr.mono (by decide)) (by rfl) T.m__law_direction T.F_law_direction.kp (b_law_direction T) .nil passL (pa_cons (pv 1) (pa_cons (pv 3) pa_nil))) pa_nil)))))
    (pss_cons (ps_for PassesOwn.never rfl (pi_range1 (by rfl) T.n_range (pa_cons (pv 2) pa_nil)) (pg_name (i := 4) sc_law.nd rfl (.inl rfl)) (pss_cons (ps_set (i := 5) sc_law.nd rfl (.inl rfl) (pe_lst (pa_cons (pe_ix ix_list (pv 3) (pv 4) (fun _ _ => rfl)) (pa_cons (pe_ix ix_list (pv 3) (pe_op op_mod (pe_op op_add (pv 4) pe_int) (pv 2)) (fun _ _ => rfl)) (pa_cons (pe_ix ix_list (pv 3) (pe_op op_mod (pe_op op_add (pv 4) pe_int) (pv 2)) (fun _ _ => rfl)) pa_nil)))))
    (Evl.pss_cut (ps_if (pt_cmpR op_eq (pe_call (ok_law_draw T) (hr.mono (by decide)) (by rfl) T.m__law_draw T.F_law_draw.kp (b_law_draw T) .nil passL (pa_cons (pv 1) (pa_cons pe_int pa_nil))) pe_int (nomark _)) (pss_one (ps_asg (pe_tup (pa_cons (pe_op op_mul pe_int (pe_ix ix_tup (pe_ix ix_list (pv 5) pe_int (fun _ _ => rfl)) pe_int (fun _ _ => rfl))) (pa_cons (pe_op op_mul pe_int (pe_ix ix_tup (pe_ix ix_list (pv 5) pe_int (fun _ _ => rfl)) pe_int (fun _ _ => rfl))) pa_nil))) (pg_sub (pv 5) pe_int set_list))) pss_nil)
    (pss_cons (ps_if (pt_not (pt_val (pe_call (ok_law_ring T) (hr.mono (by decide)) (by rfl) T.m__law_ring T.F_law_ring.kp (b_law_ring T) .nil passL (pa_cons (pe_ix ix_list (pv 5) pe_int (fun _ _ => rfl)) (pa_cons (pe_ix ix_list (pv 5) pe_int (fun _ _ => rfl)) (pa_cons (pe_ix ix_list (pv 5) pe_int (fun _ _ => rfl)) (pa_cons (pe_ix ix_list (pv 3) (pe_op op_mod (pe_op op_add (pv 4) pe_int) (pv 2)) (fun _ _ => rfl)) pa_nil))))))) (pss_one (ps_ret pe_bl)) pss_nil)
    (Evl.pss_cut (ps_if (pt_cmpR op_eq (pe_call (ok_law_draw T) (hr.mono (by decide)) (by rfl) T.m__law_draw T.F_law_draw.kp (b_law_draw T) .nil passL (pa_cons (pv 1) (pa_cons pe_int pa_nil))) pe_int (nomark _)) (pss_one (ps_asg (pe_call (ok_law_strange T) (hr.mono (by decide)) (by rfl) T.m__law_strange T.F_law_strange.kp (b_law_strange T) .nil passL (pa_cons (pv 1) pa_nil)) (pg_sub (pv 5) (pe_call (ok_law_draw T) (hr.mono (by decide)) (by rfl) T.m__law_draw T.F_law_draw.kp (b_law_draw T) .nil passL (pa_cons (pv 1) (pa_cons pe_int pa_nil))) set_list))) pss_nil)
    (Evl.pss_cut (ps_if (pt_cmpR op_eq (pe_call (ok_law_draw T) (hr.mono (by decide)) (by rfl) T.m__law_draw T.F_law_draw.kp (b_law_draw T) .nil passL (pa_cons (pv 1) (pa_cons pe_int pa_nil))) pe_int (nomark _)) (pss_one (ps_asg (pe_call (ok_law_strange T) (hr.mono (by decide)) (by rfl) T.m__law_strange T.F_law_strange.kp (b_law_strange T) .nil passL (pa_cons (pv 1) pa_nil)) (pg_sub (pv 5) (pe_call (ok_law_draw T) (hr.mono (by decide)) (by rfl) T.m__law_draw T.F_law_draw.kp (b_law_draw T) .nil passL (pa_cons (pv 1) (pa_cons pe_int pa_nil))) set_list))) pss_nil)
    (pss_one (ps_for PassesOwn.never rfl (pi_range1 (by rfl) T.n_range (pa_cons pe_int pa_nil)) (pg_name (i := 6) sc_law.nd rfl (.inl rfl)) (pss_one (ps_if (pt_not (pt_val (pe_call (ok_law_agrees T) (hr.mono (by decide)) (by rfl) T.m__law_agrees T.F_law_agrees.kp (b_law_agrees T) .nil passL (pa_cons (pv 6) (pa_cons (pv 5) (pa_cons (pe_cmpR op_eq (pe_call (ok_law_draw T) (hr.mono (by decide)) (by rfl) T.m__law_draw T.F_law_draw.kp (b_law_draw T) .nil passL (pa_cons (pv 1) (pa_cons pe_int pa_nil))) pe_int (nomark _)) pa_nil)))))) (pss_one (ps_ret pe_bl)) pss_nil))))))))))
    (pss_one (ps_ret (pe_and (pe_call (ok_law_sorts T) (hr.mono (by decide)) (by rfl) T.m__law_sorts T.F_law_sorts.kp (b_law_sorts T) .nil passL (pa_cons (pv 3) pa_nil)) (pe_and (pe_call (ok_law_sorts T) (hr.mono (by decide)) (by rfl) T.m__law_sorts T.F_law_sorts.kp (b_law_sorts T) .nil passL (pa_cons (pe_lst pa_nil) pa_nil)) (pe_one (pe_call (ok_law_sort_refused T) (hr.mono (by decide)) (by rfl) T.m__law_sort_refused T.F_law_sort_refused.kp (b_law_sort_refused T) .nil passL (pa_cons (pv 1) (pa_cons (pv 3) pa_nil))))))))))))), ?_⟩
    rw [show L2.start N_law [.ref a] = [some (.ref a), none, none, none, none, none, none] from rfl]
    try dsimp only [cxOf]
    have lim0 : 1000000 < sizeLine := by decide
    walk_at "js"
    refine ⟨a, ns, rfl, hS, fun L s H1 e1 hs hL => ?_⟩
    walk_at "js"
    refine ⟨s, L, _, 38, rfl, hs, hL, by omega, by omega, fun q0 q00 q01 => ?_⟩
    walk_at "js"
    refine ⟨sz_of (by simp), fun m hp_m => ?_⟩
    generalize g_m : upd H1 m _ = H2
    obtain ⟨e_H2, h_m⟩ := gen_new hp_m g_m
    walk_at "js"
    have hm0 := hp_m
    have e2 := e_H2
    have hm2 := h_m
    walk_at "js"
    refine ⟨3 + q0, rfl, by omega, by omega, ?_⟩
    refine for_range (lo := 0) (n := (3 + q0).toNat) (fun i σ' H' => Ex H1 H' ∧ ∃ (xs : List V) (ps : List P2) (v4 : Option V), H' m = some (.lst xs) ∧ PtsAt H' xs ps ∧ ps.length = i ∧ (∀ p ∈ ps, nz p ∧ fp 180 p) ∧ σ' = [some (.ref a), some (.ref s), some (.int (3 + q0)), some (.ref m), v4, none, none]) ?_ ?_ ?_
    · exact ⟨e2, [], [], _, hm2, .nil, rfl, (fun p hp => by cases hp), rfl⟩
    · rintro i σ' B hi ⟨b0, xs, ps, v4, hm, hps, hlen, hz, rfl⟩
      have hxl := hps.len
      walk_at "js"
      refine ⟨s, L, m, _, xs, ps, rfl, b0.get hs, b0.get hL, hm, hps, by omega, fun p hp => (hz p hp).2, fun t p B1 t0 b1 hpt np fpp => ?_⟩
      have hm1 := b1.get hm
      walk_at "js"
      refine w_append hm1 (by omega) ?_
      walk_at "js"
      refine ⟨(b0.trans b1).mut hm0, xs ++ [.ref t], ps ++ [p], _, upd_same, PtsAt.stay hm1 ((hps.mono b1).app (.cons ⟨t, rfl, hpt⟩ .nil)), by rw [List.length_append, hlen]; rfl, fun p' hp' => ?_, rfl⟩
      rcases List.mem_append.mp hp' with h | h
      · exact hz p' h
      · rw [List.mem_singleton.mp h]
        exact ⟨np, fpp⟩
    · rintro σ' B ⟨b0, xs, ps, v4, hm, hps, hlen, hz, rfl⟩
      have hxl := hps.len
      have hs1 := b0.get hs
      have hL1 := b0.get hL
      have h3 : 3 ≤ ps.length := by omega
      obtain ⟨n, hn⟩ : ∃ n : Int, n = 3 + q0 := ⟨_, rfl⟩
      rw [← hn]
      have hnl : n = (ps.length : Int) := by omega
      subst hnl
      walk_at "js"
      refine ⟨_, rfl, by omega, by omega, ?_⟩
      refine for_range (lo := 0) (n := (ps.length : Int).toNat) (fun i σ' H' => Ex B H' ∧ ∃ (v4 v5 v6 : Option V), σ' = [some (.ref a), some (.ref s), some (.int (ps.length : Int)), some (.ref m), v4, v5, v6]) ?_ ?_ ?_
      · exact ⟨Evl.Ex.refl _, _, _, _, rfl⟩
      · rintro i σ' B1 hi ⟨b1, v4, v5, v6, rfl⟩
        have hmB := b1.get hm
        have hpB := hps.mono b1
        have near := near41 hps hz h3
        have up2 : ∀ {p : P2}, fp 180 p → fp 200 p := fun h => fp_mono h (by decide)
        have hi' : i < ps.length := by omega
        walk_at "js"
        obtain ⟨p1, hp1⟩ : ∃ p, ps[i]? = some p := ⟨_, List.getElem?_eq_getElem hi'⟩
        obtain ⟨t1, ht1, hq1⟩ := hps.get' hp1
        have hz1 := hz p1 (List.mem_of_getElem? hp1)
        refine w_ixL (SqL.of hmB) (at_nat (j := i) (by omega) ht1) ?_
        walk_at "js"
        obtain ⟨k2, t2, p2, hk2, ht2, hq2, n2, f2⟩ := near (0 + (i : Int) + 1)
        refine w_ixL (SqL.of hmB) (at_nat (j := k2) (by omega) ht2) ?_
        walk_at "js"
        obtain ⟨k3, t3, p3, hk3, ht3, hq3, n3, f3⟩ := near (0 + (i : Int) + 2)
        refine w_ixL (SqL.of hmB) (at_nat (j := k3) (by omega) ht3) ?_
        walk_at "js"
        refine ⟨sz_of (by simp), fun g hp_g => ?_⟩
        generalize g_g : upd B1 g _ = B2
        obtain ⟨e_B2, h_g⟩ := gen_new hp_g g_g
        walk_at "js"
        have g0 : B g = none := b1.free hp_g
        have b12 := b1.trans e_B2
        have hm2' := b12.get hm
        have hpB2 := hps.mono b12
        refine Evl.q_cut (M := fun σ' H' => Ex B H' ∧ ∃ (t3 : Addr) (p3 : P2), H' g = some (.lst [.ref t1, .ref t2, .ref t3]) ∧ PtAt (del H' g) t3 p3 ∧ nz p3 ∧ fp 200 p3 ∧ σ' = [some (.ref a), some (.ref s), some (.int (ps.length : Int)), some (.ref m), some (.int (0 + (i : Int))), some (.ref g), v6]) ?_ ?_
        · walk_at "js"
          refine ⟨s, L, _, 4, rfl, b12.get hs1, b12.get hL1, by omega, by omega, fun q q0 q1 => ?_⟩
          walk_at "js"
          refine w_if (fun c => ?_) (fun c => ?_)
          · walk_at "js"
            refine ⟨sz_of (by simp), fun z hp_z => ?_⟩
            generalize g_z : upd B2 z _ = B3
            obtain ⟨e_B3, h_z⟩ := gen_new hp_z g_z
            walk_at "js"
            have hgz := e_B3.get h_g
            have hz3 : PtAt (newOf B2 B3) z (3 * p2.1, 3 * p2.2) := newOf_at hp_z h_z
            refine ⟨(b12.trans e_B3).mut g0, z, (3 * p2.1, 3 * p2.2), upd_same, ?_, ?_, ?_, trivial⟩
            · rw [del_upd42]
              exact hz3.mono (ex_newdel h_g)
            · exact nz_sc (k := 3) (by decide) n2
            · exact ⟨ft_mono (ft_mul (k := 2) (show ft 2 3 from by unfold ft; decide) f2.1) (by decide), ft_mono (ft_mul (k := 2) (show ft 2 3 from by unfold ft; decide) f2.2) (by decide)⟩
          · walk_at "js"
            exact ⟨b12, t3, p3, h_g, (hq3.mono (ex_olddel g0 b12)), n3, up2 f3, rfl⟩
        · rintro σ' B3 ⟨b3, t4, p4, hg3, hq4, n4, f4, rfl⟩
          have hq1B : PtAt (del B3 g) t1 p1 := hq1.mono (ex_olddel g0 b3)
          have hq2B : PtAt (del B3 g) t2 p2 := hq2.mono (ex_olddel g0 b3)
          walk_at "js"
          obtain ⟨k5, t5, p5, hk5, ht5, hq5, n5, f5⟩ := near41 (hps.mono b3) hz h3 (0 + (i : Int) + 3)
          refine w_ixL (SqL.of (b3.get hm)) (at_nat (j := k5) (by omega) ht5) ?_
          walk_at "js"
          refine ⟨t1, t2, t4, t5, p1, p2, p4, p5, rfl, hq1B.mono ex_del, hq2B.mono ex_del, hq4.mono ex_del, hq5, hz1.1, n2, n4, n5, up2 hz1.2, up2 f2, f4, up2 f5, fun B4 b4 => ?_⟩
          have b04 := b3.trans b4
          have up4 : ∀ {p : P2}, fp 200 p → fp 400 p := fun h => fp_mono h (by decide)
          have th : Three K B4 g := ⟨_, _, _, _, _, _, b4.get hg3, (hq1B.good hz1.1 (up4 (up2 hz1.2))).mono (del_ExM b4), (hq2B.good n2 (up4 (up2 f2))).mono (del_ExM b4), (hq4.good n4 (up4 f4)).mono (del_ExM b4)⟩
          have turn : ∀ {H5 : Hp}, Three K H5 g → Ex B H5 → ∀ {v : V} {H6 : Hp}, Ex H5 H6 → OddP K (newOf H5 H6) v → ∀ (Q : Hp → Prop) (q : Int), 0 ≤ q → q < 3 → (∀ H7, Ex B H7 → Three K H7 g → Q H7) → rSetL (.ref g) (.int q) v H6 Q := fun {H5} th5 b5 {v H6} e56 ov Q q q0 q1 kk => by
            obtain ⟨d, gd, _⟩ := ov.good
            obtain ⟨_, _, _, _, _, _, hg5, _⟩ := id th5
            have hj : ixN 3 q = some q.toNat := by
              unfold ixN
              rw [if_pos q0, if_pos (by omega)]
            obtain ⟨v1, v2, v3, hg6, th7⟩ := (th5.mono e56).put (gd.mono (ex_newdel hg5)) hj
            exact ⟨g, _, q, _, rfl, rfl, hg6, hj, kk _ ((b5.trans e56).mut g0) th7⟩
          clear hq1B hq2B hq4 hg3
          walk_at "js"
          refine Evl.q_cut (M := fun σ' H' => Ex B H' ∧ Three K H' g ∧ σ' = [some (.ref a), some (.ref s), some (.int (ps.length : Int)), some (.ref m), some (.int (0 + (i : Int))), some (.ref g), v6]) ?_ ?_
          · walk_at "js"
            refine ⟨s, L, _, 5, rfl, b04.get hs1, b04.get hL1, by omega, by omega, fun q q0 q1 => ?_⟩
            walk_at "js"
            refine w_if (fun c => ?_) (fun c => ?_)
            · walk_at "js"
              refine ⟨s, L, _, rfl, b04.get hs1, b04.get hL1, fun v B5 b5 ov => ?_⟩
              have b05 := b04.trans b5
              walk_at "js"
              refine ⟨s, L, _, 3, rfl, b05.get hs1, b05.get hL1, by omega, by omega, fun q2 q20 q21 => ?_⟩
              walk_at "js"
              exact turn th b04 b5 ov _ q2 q20 q21 fun H7 b7 th7 => ⟨b7, th7, rfl⟩
            · walk_at "js"
              exact ⟨b04, th, rfl⟩
          clear th b4 b04
          rintro σ' B4 ⟨b04, th, rfl⟩
          refine Evl.q_cut (M := fun σ' H' => Ex B H' ∧ Three K H' g ∧ σ' = [some (.ref a), some (.ref s), some (.int (ps.length : Int)), some (.ref m), some (.int (0 + (i : Int))), some (.ref g), v6]) ?_ ?_
          · walk_at "js"
            refine ⟨s, L, _, 10, rfl, b04.get hs1, b04.get hL1, by omega, by omega, fun q q0 q1 => ?_⟩
            walk_at "js"
            refine w_if (fun c => ?_) (fun c => ?_)
            · walk_at "js"
              refine ⟨s, L, _, rfl, b04.get hs1, b04.get hL1, fun v B5 b5 ov => ?_⟩
              have b05 := b04.trans b5
              walk_at "js"
              refine ⟨s, L, _, 3, rfl, b05.get hs1, b05.get hL1, by omega, by omega, fun q2 q20 q21 => ?_⟩
              walk_at "js"
              exact turn th b04 b5 ov _ q2 q20 q21 fun H7 b7 th7 => ⟨b7, th7, rfl⟩
            · walk_at "js"
              exact ⟨b04, th, rfl⟩
          clear th b04
          rintro σ' B5 ⟨b05, ⟨v1, v2, v3, d1, d2, d3, hg5, gv1, gv2, gv3⟩, rfl⟩
          walk_at "js"
          refine ⟨6, rfl, by decide, by decide, ?_⟩
          refine for_range (lo := 0) (n := (6 : Int).toNat) (fun i6 σ' H' => Ex B5 H' ∧ ∃ w6 : Option V, σ' = [some (.ref a), some (.ref s), some (.int (ps.length : Int)), some (.ref m), some (.int (0 + (i : Int))), some (.ref g), w6]) ?_ ?_ ?_
          · exact ⟨Evl.Ex.refl _, _, rfl⟩
          · rintro i6 σ' B6 hi6 ⟨b6, w6, rfl⟩
            have hi6' : i6 < 6 := hi6
            have b06 := b05.trans b6
            walk_at "js"
            refine ⟨s, L, _, 2, rfl, b06.get hs1, b06.get hL1, by omega, by omega, fun q q0 q1 => ?_⟩
            walk_at "js"
            refine ⟨_, g, _, v1, v2, v3, d1, d2, d3, rfl, by omega, by omega, b6.get hg5, (gv1.mono ex_del).mono b6, (gv2.mono ex_del).mono b6, (gv3.mono ex_del).mono b6, fun B7 b7 => ?_⟩
            walk_at "js"
            exact ⟨b6.trans b7, _, rfl⟩
          · rintro σ' B6 ⟨b6, w6, rfl⟩
            walk_at "js"
            exact ⟨b05.trans b6, _, _, _, rfl⟩
      · rintro σ' B1 ⟨b1, v4, v5, v6, rfl⟩
        walk_at "js"
        refine ⟨m, xs, ps, rfl, b1.get hm, hps.mono b1, by omega, fun p hp => ⟨(hz p hp).1, fp_mono (hz p hp).2 (by decide)⟩, fun B2 b2 => ?_⟩
        walk_at "js"
        refine ⟨sz_of (by simp), fun z hp_z => ?_⟩
        generalize g_z : upd B2 z _ = B3
        obtain ⟨e_B3, h_z⟩ := gen_new hp_z g_z
        walk_at "js"
        refine ⟨z, [], [], rfl, h_z, .nil, by decide, (fun p hp => by cases hp), fun B4 b4 => ?_⟩
        have b04 := b1.trans (b2.trans (e_B3.trans b4))
        walk_at "js"
        refine ⟨s, L, m, _, xs, ps, rfl, b04.get hs1, b04.get hL1, b04.get hm, hps.mono b04, by omega, fun p hp => ⟨(hz p hp).1, fp_mono (hz p hp).2 (by decide)⟩, fun B5 b5 => ?_⟩
        exact kQ B5

end
end J
open PySem PySem.W PySem.Calls PyProof.Rows
theorem PySem.Challenge.cw_jawturns_k41_directions_holds : PySem.Challenge.rw_jawturns_k41_directions.Holds := by
  w_on; o_law
  refine HandSHeadRun.head_imp (r := OpenLaw.row PySem.Challenge.rw_jawturns_k41_directions) (q := view (OpenLaw.row PySem.Challenge.rw_jawturns_k41_directions).prog [0, 49]) (H := J.hkL) (ob := J.obL) (M := 20000) (loose := J.looseL)
    (d := HandSHeadRun.topDef (OpenLaw.row PySem.Challenge.rw_jawturns_k41_directions).prog 49) (kwd := []) J.obL_eq J.runL (by kernel_rfl) (by kernel_rfl) (by kernel_rfl) (by rfl) (by first | assumption | decide +kernel) (by decide +kernel) ⟨rfl, rfl, rfl, rfl, rfl, by decide +kernel⟩ ?hw ?hc
  case hw => w_witness2
  case hc =>
    refine L2.walk_ofE (l := PySem.Challenge.rw_jawturns_k41_directions) (n := 63) (k := J.k_law) (x := "_law_script") (CX := L2.CX0) rfl (by decide) (by kernel_rfl) ⟨rfl, by decide, by decide⟩ ?F (fun _ _ _ _ z => z)
    intro w mg fa h Y G hmg0
    obtain ⟨K, KX, c⟩ := Y
    have hmg : mg ("law" : PySem.Str) = some (.ref fa) := by
      have e : (HandSHeadRun.topDef (OpenLaw.row PySem.Challenge.rw_jawturns_k41_directions).prog 49).name = ("law" : PySem.Str) := by kernel_rfl
      rw [← e]
      exact hmg0
    have T := J.txt_of KX G c
    have e := hmg.symm.trans T.m_law
    cases e
    exact ⟨K, _, J.sp_law K, KX, fun s v => T.F_law.bindsA (ps := ["_law_script"]) (fun _ _ _ _ _ _ us hl => match us, hl with | [_], _ => rfl) s [v] rfl, fun H a ns hl _ hS => ⟨a, ns, rfl, hS, hl, fun _ => rfl⟩, fun base _ _ => J.ok_law T⟩
