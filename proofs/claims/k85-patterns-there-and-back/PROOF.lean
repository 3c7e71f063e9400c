import PyProof.Rows.All
import HandS.Head0
import HandS.Head1
import HandS.Head2
import HandS.Head3
import HandS.HeadHook1
import Wide.All
import OpenK.AllK
import Wide.FinOn
import HandS.ForMost
import HandS.ForExc
import HandS.Wide
import HandS.Gcd
import HandS.ExcInit
import HandS.CallSlots
import HandS.More
import HandS.ExcOwn
import HandS.IsInst
import HandS.ExcIs
import HandS.ExcField
import KE.KExcIs
import HandS.Style
import HandS.EndBits
import HandS.Zip
import HandS.Text
import HandS.Deep
import HandS.Property
import HandS.NamedTupGet
import HandS.Small
import HandS.DictComp
import KE.DataEq
import HandS.Codes
import PyProof.StrBlock2
import HandS.TupAny
import HandS.Flt
import HandS.Iter
import PyProof.NoPylong
import HandS.WideBits
import KE.GoesMore
import KE.SortData
import KE.DataCmp
import HandS.Replace
import HandS.Star
import KE.GoesEnum
import KE.KDictZip
import HandS.OwnEq
import PyProof.InstNe
import HandS.FStr
import PySem.Challenge.RW_wholeworths_k85_whole_patterns_there_and
set_option Elab.async false
set_option linter.all false
set_option maxRecDepth 100000
set_option maxHeartbeats 4000000
namespace DL
open PySem PySem.Spec PyProof.Rows L2
def eqV (a b : Option (Option Value)) : Bool := match a, b with
  | some (some x), some (some y) => x == y
  | some none, some none => true
  | _, _ => false
def oexB (K : PySem.W.Frag) (C : Addr) : Bool := match K.lookup C with
  | some ⟨.type "type", _, .cls cd, sl⟩ => (match cd.mro, sl.toList with
    | .ref C1 :: bm, [_, _, _, _, some (.builtin n), _] => C1 == C && (n == "ValueError.__new__" && (!cd.hasDel && (cd.hasDict && PySem.HandSPX.refsVE bm)))
    | _, _ => false)
  | _ => false
def gsB (K : PySem.W.Frag) : Bool := eqV (PySem.W.specialIn K (.builtin "object.__class__") "__get__") (some (some (.builtin "getset_descriptor.__get__"))) && decide (PySem.W.takesIn K (.builtin "object.__class__") = some true)
def exkB (K : PySem.W.Frag) (fI C : Addr) : Bool :=
  oexB K C && (eqV (PySem.W.findIn K (.ref C) "__setattr__") (some (some (.builtin "object.__setattr__"))) && (decide (PySem.W.subIn K (.ref C) (.type "BaseException") = some true) && ((PySem.W.typeIn K (.ref C) == some (.type "type")) && (PySem.W.keepIn K (.ref C) &&
  (eqV (PySem.W.findIn K (.ref C) "__init__") (some (some (.ref fI))) && (eqV (PySem.W.findIn K (.ref C) "value") (some none) && (eqV (PySem.W.findIn K (.ref C) "__getattribute__") (some (some (.builtin "BaseException.__getattribute__"))) &&
  (eqV (PySem.W.findIn K (.ref C) "__getattr__") (some none) && (PySem.W.hasDictIn K C && (eqV (PySem.W.findIn K (.ref C) "__class__") (some (some (.builtin "object.__class__"))) && decide (PySem.W.mroIn K C (.type "object") = some true)))))))))))
def isX (k c : Nat) : Bool := decide (k = 0 ∨ c = k)
def xTys : List String := ["ValueError", "int", "str", "bool", "list", "tuple", "dict"]
def excB (K : PySem.W.Frag) (ca : Nat → Addr) (fI : Addr) (exs : List Nat) : Bool :=
  gsB K && (exs.all (fun c => exkB K fI (ca c)) && (exs.all (fun i => exs.all fun j => decide (PySem.W.subIn K (.ref (ca i)) (.ref (ca j)) = some (isX j i))) && exs.all (fun i => xTys.all fun m => decide (PySem.W.subIn K (.ref (ca i)) (.type m) = some (decide (m = "ValueError"))))))
end DL
namespace DL
open PySem PySem.Spec PyProof.Rows L2
def pfA (K : PySem.W.Frag) (p : Addr) : Addr := match PySem.W.recIn K p "property" with
  | some (.ref a :: _) => a
  | _ => 0
inductive At where
  | glo (x : Str)
  | meth (C m : Str)
  | prop (C m : Str)
def At.a (K : PySem.W.Frag) : At → Addr
  | .glo x => He.ga K x
  | .meth C m => He.ma K (He.ga K C) m
  | .prop C m => pfA K (He.ma K (He.ga K C) m)
def At.okB (K : PySem.W.Frag) : At → Bool
  | .glo x => He.eqO (PySem.W.nsIn K mainGlobals x) (some (some (.ref (He.ga K x))))
  | .meth C m => He.eqO (PySem.W.findIn K (.ref (He.ga K C)) m) (some (some (.ref (He.ma K (He.ga K C) m))))
  | .prop C m => He.eqO (PySem.W.findIn K (.ref (He.ga K C)) m) (some (some (.ref (He.ma K (He.ga K C) m)))) && (match PySem.W.recIn K (He.ma K (He.ga K C) m) "property" with
    | some (.ref _ :: _) => true
    | _ => false)
def At.says (K : PySem.W.Frag) : At → Prop
  | .glo x => PySem.W.nsIn K mainGlobals x = some (some (.ref (He.ga K x)))
  | .meth C m => PySem.W.findIn K (.ref (He.ga K C)) m = some (some (.ref (He.ma K (He.ga K C) m)))
  | .prop C m => PySem.W.findIn K (.ref (He.ga K C)) m = some (some (.ref (He.ma K (He.ga K C) m))) ∧ ∃ pr, PySem.W.recIn K (He.ma K (He.ga K C) m) "property" = some (.ref (pfA K (He.ma K (He.ga K C) m)) :: pr)
theorem At.ok {K : PySem.W.Frag} : ∀ {t : At}, t.okB K = true → t.says K
  | .glo x, h => He.eqO_ok h
  | .meth C m, h => He.eqO_ok h
  | .prop C m, h => by
    obtain ⟨h1, h2⟩ := He.ba h
    refine ⟨He.eqO_ok h1, ?_⟩
    unfold pfA
    generalize PySem.W.recIn K (He.ma K (He.ga K C) m) "property" = r at *
    match r, h2 with
    | some (.ref a :: pr), _ => exact ⟨pr, rfl⟩
structure Fd where
  at_ : At
  name : Str
  qual : Str
  st : Stmt
def fnOb (K : PySem.W.Frag) (a : Addr) : He.FnV := match K.lookup a with
  | some ⟨_, _, .func fd, _⟩ => some (fd.name, fd.qualname, fd.params, fd.body, fd.scope, fd.globals, fd.closure, fd.defaults, fd.builtins)
  | _ => none
def Fd.val (d : Fd) : He.FnV := some (d.name, d.qual, defArgs d.st, .stmts (defBody d.st), defScope d.st, mainGlobals, [], .none, builtinsNs)
def cdB (K : PySem.W.Frag) (a : Addr) (q : Str) : Bool := match K.lookup a with
  | some ⟨_, _, .func fd, _⟩ => PySem.W.codeIn K fd.code q
  | _ => false
def Fd.okB (K : PySem.W.Frag) (d : Fd) : Bool := d.at_.okB K && (PySem.W.keepIn K (.ref (d.at_.a K)) && cdB K (d.at_.a K) d.qual)
theorem Fd.ok {K : PySem.W.Frag} {d : Fd} (e : fnOb K (d.at_.a K) = d.val) (c : d.okB K = true) :
    ∃ oc od osl kV doc pm an cdv ct, K.lookup (d.at_.a K) = some ⟨oc, od, .func (PySem.W.fnOf d.name d.qual (defArgs d.st) (defBody d.st) (defScope d.st) .none kV doc pm an cdv ct), osl⟩ ∧ PySem.W.codeIn K cdv d.qual = true ∧ PySem.W.keepIn K (.ref (d.at_.a K)) = true ∧ d.at_.says K := by
  obtain ⟨c0, c⟩ := He.ba c
  obtain ⟨c1, c2⟩ := He.ba c
  have s := At.ok c0
  unfold cdB at c2
  unfold fnOb Fd.val at e
  cases q : K.lookup (d.at_.a K) with
  | none =>
    rw [q] at c2
    cases c2
  | some o =>
    obtain ⟨oc, od, dt, osl⟩ := o
    rw [q] at c2 e
    cases dt with
    | func fd =>
      obtain ⟨n1, n2, n3, n4, n5, n6, n7, n8, n9, n10, n11, n12, n13, n14, n15⟩ := fd
      have e2 : (some (n1, n2, n3, n4, n5, n6, n7, n8, n15) : He.FnV) = some (d.name, d.qual, defArgs d.st, .stmts (defBody d.st), defScope d.st, mainGlobals, [], .none, builtinsNs) := e
      simp only [Option.some.injEq, Prod.mk.injEq] at e2
      obtain ⟨h1, h2, h3, h4, h5, h6, h7, h8, h9⟩ := e2
      subst h1 h2 h3 h4 h5 h6 h7 h8 h9
      exact ⟨oc, od, osl, n9, n10, n11, n12, n13, n14, rfl, c2, c1, s⟩
    | _ => cases c2
def hf_isI (v : Value) (i : Int) : Bool := match v with
  | .int a _ => decide (a = i)
  | _ => false
theorem hf_isI_ok {v : Value} {i : Int} (h : hf_isI v i = true) : ∃ t, v = .int i t := by
  cases v with
  | int a t => exact ⟨t, by rw [of_decide_eq_true (show decide (a = i) = true from h)]⟩
  | _ => cases h
def hf_ints2 (vs : List Value) (i j : Int) : Bool := match vs with
  | a :: r => hf_isI a i && (match r with
    | b :: s => hf_isI b j && s.isEmpty
    | [] => false)
  | [] => false
theorem hf_ints2_ok {vs : List Value} {i j : Int} (h : hf_ints2 vs i j = true) : ∃ k0 k1, vs = [.int i k0, .int j k1] := by
  cases vs with
  | nil => cases h
  | cons a r =>
    cases r with
    | nil =>
      have h1 : (hf_isI a i && false) = true := h
      rw [Bool.and_false] at h1
      cases h1
    | cons b s =>
      have h1 : (hf_isI a i && (hf_isI b j && s.isEmpty)) = true := h
      obtain ⟨e1, h2⟩ := He.ba h1
      obtain ⟨e2, e3⟩ := He.ba h2
      obtain ⟨k0, rfl⟩ := hf_isI_ok e1
      obtain ⟨k1, rfl⟩ := hf_isI_ok e2
      cases s with
      | nil => exact ⟨k0, k1, rfl⟩
      | cons _ _ => cases e3
def hf_isTy (v : Value) (c : String) : Bool := match v with
  | .type a => decide (a = c)
  | _ => false
theorem hf_isTy_ok {v : Value} {c : String} (h : hf_isTy v c = true) : v = .type c := by
  cases v with
  | type a => rw [of_decide_eq_true (show decide (a = c) = true from h)]
  | _ => cases h
def hf_seqB (d : Data) (i j : Int) : Bool := match d with
  | .seq its _ => hf_ints2 its.toList i j
  | _ => false
def hf_tup2B (o : Option Obj) (i j : Int) : Bool := match o with
  | some o => hf_isTy o.cls "tuple" && hf_seqB o.data i j
  | none => false
theorem hf_tup2_ok {o : Option Obj} {i j : Int} (h : hf_tup2B o i j = true) : ∃ gd gn gs k0 k1, o = some ⟨.type "tuple", gd, .seq #[.int i k0, .int j k1] gn, gs⟩ := by
  cases o with
  | none => cases h
  | some o =>
    obtain ⟨c, gd, dt, gs⟩ := o
    have h1 : (hf_isTy c "tuple" && hf_seqB dt i j) = true := h
    obtain ⟨e1, e2⟩ := He.ba h1
    cases hf_isTy_ok e1
    cases dt with
    | seq its gn =>
      obtain ⟨k0, k1, e⟩ := hf_ints2_ok (show hf_ints2 its.toList i j = true from e2)
      obtain ⟨l⟩ := its
      cases (show l = _ from e)
      exact ⟨gd, gn, gs, k0, k1, rfl⟩
    | _ => cases e2
def hf_isB (v : Value) (c : String) : Bool := match v with
  | .builtin a => decide (a = c)
  | _ => false
theorem hf_isB_ok {v : Value} {c : String} (h : hf_isB v c = true) : v = .builtin c := by
  cases v with
  | builtin a => rw [of_decide_eq_true (show decide (a = c) = true from h)]
  | _ => cases h
def hf_strB (o : Option (Option Value)) (z : Str) : Bool := match o with
  | some (some v) => (match v with
    | .str y _ => decide (y = z)
    | _ => false)
  | _ => false
theorem hf_strB_ok {o : Option (Option Value)} {z : Str} (h : hf_strB o z = true) : ∃ t, o = some (some (.str z t)) := by
  cases o with
  | none => cases h
  | some o =>
    cases o with
    | none => cases h
    | some v =>
      cases v with
      | str y t => exact ⟨t, by rw [of_decide_eq_true (show decide (y = z) = true from h)]⟩
      | _ => cases h
def hf_intB (o : Option (Option Value)) (i : Int) : Bool := match o with
  | some (some v) => hf_isI v i
  | _ => false
theorem hf_intB_ok {o : Option (Option Value)} {i : Int} (h : hf_intB o i = true) : ∃ t, o = some (some (.int i t)) := by
  cases o with
  | none => cases h
  | some o =>
    cases o with
    | none => cases h
    | some v =>
      obtain ⟨t, e⟩ := hf_isI_ok (show hf_isI v i = true from h)
      exact ⟨t, by rw [e]⟩
def hf_vvB (o : Option PySem.W.CFound) : Bool := match o with
  | some (.val v) => hf_isB v "ValueError.__init__"
  | _ => false
theorem hf_vvB_ok {o : Option PySem.W.CFound} (h : hf_vvB o = true) : o = some (.val (.builtin "ValueError.__init__")) := by
  cases o with
  | none => cases h
  | some o =>
    cases o with
    | val v => rw [hf_isB_ok (show hf_isB v "ValueError.__init__" = true from h)]
    | _ => cases h
inductive Fe where
  | free (x : Str)
  | blt (x : Str) (b : String)
  | str (x z : Str)
  | gint (x : Str) (i : Int)
  | tup2 (x : Str) (i j : Int)
  | cls (x : Str)
  | vV
def Fe.okB (K : PySem.W.Frag) : Fe → Bool
  | .free x => He.eqO (PySem.W.nsIn K mainGlobals x) (some none)
  | .blt x b => He.eqO (PySem.W.nsIn K mainGlobals x) (some (some (.builtin b)))
  | .str x z => hf_strB (PySem.W.nsIn K mainGlobals x) z
  | .gint x i => hf_intB (PySem.W.nsIn K mainGlobals x) i
  | .tup2 x i j => He.eqO (PySem.W.nsIn K mainGlobals x) (some (some (.ref (He.ga K x)))) && hf_tup2B (K.lookup (He.ga K x)) i j
  | .cls x => He.eqO (PySem.W.nsIn K mainGlobals x) (some (some (.ref (He.ga K x))))
  | .vV => hf_vvB (PySem.W.findCls K (.type "ValueError") (.type "type") "__init__")
def Fe.says (K : PySem.W.Frag) : Fe → Prop
  | .free x => PySem.W.nsIn K mainGlobals x = some none
  | .blt x b => PySem.W.nsIn K mainGlobals x = some (some (.builtin b))
  | .str x z => ∃ t, PySem.W.nsIn K mainGlobals x = some (some (.str z t))
  | .gint x i => ∃ t, PySem.W.nsIn K mainGlobals x = some (some (.int i t))
  | .tup2 x i j => PySem.W.nsIn K mainGlobals x = some (some (.ref (He.ga K x))) ∧ ∃ gd gn gs k0 k1, K.lookup (He.ga K x) = some ⟨.type "tuple", gd, .seq #[.int i k0, .int j k1] gn, gs⟩
  | .cls x => PySem.W.nsIn K mainGlobals x = some (some (.ref (He.ga K x)))
  | .vV => PySem.W.findCls K (.type "ValueError") (.type "type") "__init__" = some (.val (.builtin "ValueError.__init__"))
theorem Fe.ok {K : PySem.W.Frag} : ∀ {t : Fe}, t.okB K = true → t.says K
  | .free x, h => He.eqO_ok h
  | .blt x b, h => He.eqO_ok h
  | .str x z, h => hf_strB_ok h
  | .gint x i, h => hf_intB_ok h
  | .tup2 x i j, h => by
    obtain ⟨h1, h2⟩ := He.ba h
    exact ⟨He.eqO_ok h1, hf_tup2_ok h2⟩
  | .cls x, h => He.eqO_ok h
  | .vV, h => hf_vvB_ok h
def nxF (g : Addr → Option Obj) (as : List Addr) : List Addr := as.flatMap fun a => match g a with
  | some o => He.refsO o
  | none => []
/-- what is reached in n steps, step by step, not looking for what was met -/
def asF (g : Addr → Option Obj) : Nat → List Addr → List Addr
  | 0, as => as
  | n + 1, as => as ++ asF g n (nxF g as)
abbrev AlF : Type := Bool × List He.FnV
def obsF (fe : List Fe) (fn : List Fd) (ex : PySem.W.Frag → Bool) (K : PySem.W.Frag) : AlF := ((fe.all fun f => f.okB K) && ((fn.all fun d => d.okB K) && ex K), fn.map fun d => fnOb K (d.at_.a K))
def valF (fn : List Fd) : AlF := (true, fn.map Fd.val)
structure SaysF (fe : List Fe) (fn : List Fd) (ex : PySem.W.Frag → Bool) (K : PySem.W.Frag) : Prop where
  e : obsF fe fn ex K = valF fn
def obsFG (n : Nat) (fe : List Fe) (fn : List Fd) (ex : PySem.W.Frag → Bool) (g : Addr → Option Obj) : AlF := obsF fe fn ex (He.frG g (asF g n [mainGlobals]))
def hookF (n : Nat) (fe : List Fe) (fn : List Fd) (ex : PySem.W.Frag → Bool) : PySem.W.Hook where
  α := AlF
  obs := fun s => obsFG n fe fn ex s.heap.get?
  val := fun _ => valF fn
  says := fun _ h => ∃ K : PySem.W.Frag, K.In h ∧ SaysF fe fn ex K
  of := fun _ _ e => ⟨_, He.frG_in, ⟨e⟩⟩
  keeps := fun _ _ _ ⟨K, hK, c⟩ k => ⟨K, PySem.W.Frag.In.keeps hK k, c⟩
theorem obsFG_eq {n : Nat} {fe : List Fe} {fn : List Fd} {ex : PySem.W.Frag → Bool} (s : PySem.W.SharedT) : obsFG n fe fn ex (HandSHeadRun.getT s) = (hookF n fe fn ex).obs s.abs := by
  have e : HandSHeadRun.getT s = s.abs.heap.get? := funext (HandSHeadRun.getT_eq s)
  rw [e] <;> rfl
section
variable {fe : List Fe} {fn : List Fd} {ex : PySem.W.Frag → Bool} {K : PySem.W.Frag}
theorem SaysF.fact (c : SaysF fe fn ex K) (i : Nat) {f : Fe} (h : fe[i]? = some f := by rfl) : f.says K := by
  have c1 := (He.ba (show ((fe.all fun f => f.okB K) && ((fn.all fun d => d.okB K) && ex K)) = true from congrArg (fun z : AlF => z.1) c.e)).1
  exact Fe.ok (List.all_eq_true.mp c1 f (List.mem_of_getElem? h))
theorem SaysF.more (c : SaysF fe fn ex K) : ex K = true :=
  (He.ba (He.ba (show ((fe.all fun f => f.okB K) && ((fn.all fun d => d.okB K) && ex K)) = true from congrArg (fun z : AlF => z.1) c.e)).2).2
theorem SaysF.def_ (c : SaysF fe fn ex K) (i : Nat) {d : Fd} (h : fn[i]? = some d := by rfl) :
    ∃ oc od osl kV doc pm an cdv ct, K.lookup (d.at_.a K) = some ⟨oc, od, .func (PySem.W.fnOf d.name d.qual (defArgs d.st) (defBody d.st) (defScope d.st) .none kV doc pm an cdv ct), osl⟩ ∧ PySem.W.codeIn K cdv d.qual = true ∧ PySem.W.keepIn K (.ref (d.at_.a K)) = true ∧ d.at_.says K := by
  have c2 := (He.ba (He.ba (show ((fe.all fun f => f.okB K) && ((fn.all fun d => d.okB K) && ex K)) = true from congrArg (fun z : AlF => z.1) c.e)).2).1
  have e : fn.map (fun d => fnOb K (d.at_.a K)) = fn.map Fd.val := congrArg (fun z : AlF => z.2) c.e
  have e2 : (fn.map fun d => fnOb K (d.at_.a K))[i]? = (fn.map Fd.val)[i]? := by rw [e]
  rw [List.getElem?_map, List.getElem?_map, h] at e2
  exact Fd.ok (Option.some.inj e2) (List.all_eq_true.mp c2 d (List.mem_of_getElem? h))
end
end DL
namespace K85
open PySem PySem.Spec PyProof.Rows L2 DL
def topS (i : Nat) : Stmt := PySem.Challenge.pw_wholeworths_k85_whole_patterns_there_and.main.body.getD i (.Pass ⟨0, 0, 0, 0⟩)
def initS : Stmt := match topS 2 with
  | .ClassDef (body := b) .. => b.getD 0 (.Pass ⟨0, 0, 0, 0⟩)
  | s => s
abbrev S__law_common : Stmt := topS 24
abbrev S__law_dip : Stmt := topS 23
abbrev S__law_pair : Stmt := topS 25
abbrev S__law_said : Stmt := topS 26
abbrev S__law_same : Stmt := topS 31
abbrev S_is_number : Stmt := topS 5
abbrev S_whole_of : Stmt := topS 10
abbrev S_number_of : Stmt := topS 11
abbrev S_read_number : Stmt := topS 12
abbrev S_show_number : Stmt := topS 19
abbrev S__law_numbers_right : Stmt := topS 32
abbrev S__law_leaf : Stmt := topS 27
abbrev S__law_chain : Stmt := topS 30
abbrev S__law_tree : Stmt := topS 28
abbrev S__law_words : Stmt := topS 29
abbrev S_pair_at : Stmt := topS 14
abbrev S_weighed_at : Stmt := topS 13
abbrev S_part_at : Stmt := topS 15
abbrev S_pattern_at : Stmt := topS 16
abbrev S_read_pattern : Stmt := topS 17
abbrev S_show_pattern : Stmt := topS 20
abbrev S__law_patterns_right : Stmt := topS 33
abbrev S__law_well : Stmt := topS 22
abbrev S_law : Stmt := topS 34
def exs : List Nat := [0, 16]
def fds0 : List Fd := [⟨.glo ("_law_common" : Str), ("_law_common" : Str), ("_law_common" : Str), S__law_common⟩,
  ⟨.glo ("_law_dip" : Str), ("_law_dip" : Str), ("_law_dip" : Str), S__law_dip⟩,
  ⟨.glo ("_law_pair" : Str), ("_law_pair" : Str), ("_law_pair" : Str), S__law_pair⟩,
  ⟨.glo ("_law_said" : Str), ("_law_said" : Str), ("_law_said" : Str), S__law_said⟩,
  ⟨.glo ("_law_same" : Str), ("_law_same" : Str), ("_law_same" : Str), S__law_same⟩,
  ⟨.glo ("is_number" : Str), ("is_number" : Str), ("is_number" : Str), S_is_number⟩,
  ⟨.glo ("whole_of" : Str), ("whole_of" : Str), ("whole_of" : Str), S_whole_of⟩,
  ⟨.glo ("number_of" : Str), ("number_of" : Str), ("number_of" : Str), S_number_of⟩,
  ⟨.glo ("read_number" : Str), ("read_number" : Str), ("read_number" : Str), S_read_number⟩,
  ⟨.glo ("show_number" : Str), ("show_number" : Str), ("show_number" : Str), S_show_number⟩,
  ⟨.glo ("_law_numbers_right" : Str), ("_law_numbers_right" : Str), ("_law_numbers_right" : Str), S__law_numbers_right⟩,
  ⟨.glo ("_law_leaf" : Str), ("_law_leaf" : Str), ("_law_leaf" : Str), S__law_leaf⟩,
  ⟨.glo ("_law_chain" : Str), ("_law_chain" : Str), ("_law_chain" : Str), S__law_chain⟩,
  ⟨.glo ("_law_tree" : Str), ("_law_tree" : Str), ("_law_tree" : Str), S__law_tree⟩,
  ⟨.glo ("_law_words" : Str), ("_law_words" : Str), ("_law_words" : Str), S__law_words⟩,
  ⟨.glo ("pair_at" : Str), ("pair_at" : Str), ("pair_at" : Str), S_pair_at⟩,
  ⟨.glo ("weighed_at" : Str), ("weighed_at" : Str), ("weighed_at" : Str), S_weighed_at⟩,
  ⟨.glo ("part_at" : Str), ("part_at" : Str), ("part_at" : Str), S_part_at⟩,
  ⟨.glo ("pattern_at" : Str), ("pattern_at" : Str), ("pattern_at" : Str), S_pattern_at⟩,
  ⟨.glo ("read_pattern" : Str), ("read_pattern" : Str), ("read_pattern" : Str), S_read_pattern⟩,
  ⟨.glo ("show_pattern" : Str), ("show_pattern" : Str), ("show_pattern" : Str), S_show_pattern⟩,
  ⟨.glo ("_law_patterns_right" : Str), ("_law_patterns_right" : Str), ("_law_patterns_right" : Str), S__law_patterns_right⟩,
  ⟨.glo ("_law_well" : Str), ("_law_well" : Str), ("_law_well" : Str), S__law_well⟩,
  ⟨.glo ("law" : Str), ("law" : Str), ("law" : Str), S_law⟩,
  ⟨.meth ("WorthError" : Str) ("__init__" : Str), ("__init__" : Str), ("WorthError.__init__" : Str), initS⟩]
def fds : List Fd := fds0
def fes0 : List Fe := [.free ("abs" : Str),
  .free ("int" : Str),
  .free ("str" : Str),
  .free ("tuple" : Str),
  .free ("isinstance" : Str),
  .free ("list" : Str),
  .free ("len" : Str),
  .free ("range" : Str),
  .free ("bool" : Str),
  .blt ("gcd" : Str) "math.gcd",
  .gint ("MOST_DIGITS" : Str) (9),
  .free ("all" : Str),
  .str ("DIGITS" : Str) ("0123456789" : Str),
  .str ("LETTERS" : Str) ("abcdefghijklmnopqrstuvwxyz" : Str),
  .free ("max" : Str),
  .free ("min" : Str),
  .free ("ValueError" : Str),
  .vV,
  .cls ("WorthError" : Str),
  .cls ("Unreadable" : Str)]
def fes : List Fe := fes0
def eb_tI (K : PySem.W.Frag) : Bool := decide (PySem.W.typeIn K (.ref (He.ma K (He.ga K ("WorthError" : Str)) ("__init__" : Str))) = some (.type "function"))
def eb_xB (K : PySem.W.Frag) : Bool := excB K (fun c => [He.ga K ("WorthError" : Str), 0, 0, 0, 0, 0, 0, 0, 0, 0, 0, 0, 0, 0, 0, 0, He.ga K ("Unreadable" : Str)].getD c 0) (He.ma K (He.ga K ("WorthError" : Str)) ("__init__" : Str)) exs
def exB (K : PySem.W.Frag) : Bool := eb_tI K && (eb_xB K)
def topNames0 : List Str := [("WorthError" : Str),
  ("Unreadable" : Str),
  ("is_number" : Str),
  ("DIGITS" : Str),
  ("LETTERS" : Str),
  ("MOST_DIGITS" : Str),
  ("whole_of" : Str),
  ("number_of" : Str),
  ("read_number" : Str),
  ("weighed_at" : Str),
  ("pair_at" : Str),
  ("part_at" : Str),
  ("pattern_at" : Str),
  ("read_pattern" : Str),
  ("show_number" : Str),
  ("show_pattern" : Str),
  ("_law_well" : Str),
  ("_law_dip" : Str),
  ("_law_common" : Str),
  ("_law_pair" : Str),
  ("_law_said" : Str),
  ("_law_leaf" : Str),
  ("_law_tree" : Str),
  ("_law_words" : Str),
  ("_law_chain" : Str),
  ("_law_same" : Str),
  ("_law_numbers_right" : Str),
  ("_law_patterns_right" : Str)]
def topNames : List Str := topNames0
abbrev RR : PySem.W.OpenRow := PySem.W.OpenLaw.row PySem.Challenge.rw_wholeworths_k85_whole_patterns_there_and
abbrev hkF : PySem.W.Hook := hookF 5 fes fds exB
def obF (s : PySem.W.SharedT) : AlF := obsFG 5 fes fds exB (HandSHeadRun.getT s)
theorem obF_eq (s : PySem.W.SharedT) : obF s = hkF.obs s.abs := obsFG_eq s
set_option maxHeartbeats 0 in
theorem run (w : World) : HandSHeadRun.RunEqI RR (PySem.W.view RR.prog [0, 34]) hkF obF 15000 topNames w := by
  unfold HandSHeadRun.RunEqI
  kernel_rfl
end K85
namespace DL
open PySem PySem.Spec PyProof.Rows L2
/-- what a value stands for; ol, od, oi: lists, dicts, instances that one slot alone holds and that may still change -/
inductive D where
  | non | bl (b : Bool) | int (i : Int) | str (x : Str) | ty (n : String)
  | cls (c : Nat)
  | tup (xs : List D) | lst (xs : List D) | frl (xs : List D) | dct (kvs : List (Key × D))
  | ins (c : Nat) (fs : List (Str × D))
  | exc (c : Nat) (d : D)
  | rng (lo hi : Int)
  | ol (xs : List D) | od (kvs : List (Key × D)) | oi (c : Nat) (fs : List (Str × D))
/-- the written part, and where the classes stand -/
structure Bd where
  K : PySem.W.Frag
  ca : Nat → Addr
abbrev FP := Addr → Prop
def nof : FP := fun _ => False
/-- an exception object, held as a value -/
def exv (C dd a : Addr) : HO := .ext fun h => ∃ (oe : Obj) (vs : Array Value), h.get? a = some oe ∧ oe.cls = .ref C ∧ oe.dict = some dd ∧ oe.data = .fields vs
/-- G: what is frozen; H: what is tracked; the value v stands for the data d; T: the addresses that are its own -/
inductive Rep (B : Bd) (G H : Hp) : V → D → FP → Prop
  | non : Rep B G H .non .non nof
  | bl (b : Bool) : Rep B G H (.bl b) (.bl b) nof
  | int (i : Int) : Rep B G H (.int i) (.int i) nof
  | str (x : Str) : Rep B G H (.str x) (.str x) nof
  | ty (n : String) : Rep B G H (.ty n) (.ty n) nof
  | cls (c : Nat) : Rep B G H (.ref (B.ca c)) (.cls c) nof
  | tup {a : Addr} {vs : List V} {ds : List D} (h : SqT B.K G a vs) (l : vs.length = ds.length)
      (c : ∀ (i : Nat) v d, vs[i]? = some v → ds[i]? = some d → Rep B G H v d nof) : Rep B G H (.ref a) (.tup ds) nof
  | lst {a : Addr} {vs : List V} {ds : List D} (h : G a = some (.lst vs)) (l : vs.length = ds.length)
      (c : ∀ (i : Nat) v d, vs[i]? = some v → ds[i]? = some d → Rep B G H v d nof) : Rep B G H (.ref a) (.lst ds) nof
  | frl {a : Addr} {vs : List V} {ds : List D} (h : SqL B.K G a vs) (l : vs.length = ds.length)
      (c : ∀ (i : Nat) v d, vs[i]? = some v → ds[i]? = some d → Rep B G H v d nof) : Rep B G H (.ref a) (.frl ds) nof
  | dct {a : Addr} {kvs : List (Key × V)} {ds : List (Key × D)} (h : Rd G a (.dK kvs)) (l : kvs.map (·.1) = ds.map (·.1))
      (c : ∀ (i : Nat) k v k' d, kvs[i]? = some (k, v) → ds[i]? = some (k', d) → Rep B G H v d nof) : Rep B G H (.ref a) (.dct ds) nof
  | ins {a dx : Addr} {c : Nat} {fs : List (Str × V)} {ds : List (Str × D)} (h : G a = some (.ins (B.ca c) dx fs)) (ho : G dx = some (.own a)) (l : fs.map (·.1) = ds.map (·.1))
      (ch : ∀ (i : Nat) k v k' d, fs[i]? = some (k, v) → ds[i]? = some (k', d) → Rep B G H v d nof) : Rep B G H (.ref a) (.ins c ds) nof
  | exc {a dd : Addr} {c : Nat} {v : V} {d : D} (h : G a = some (exv (B.ca c) dd a)) (ho : G dd = some (.xd [(("value" : Str), v)]))
      (r : Rep B G H v d nof) : Rep B G H (.ref a) (.exc c d) nof
  | rng {a : Addr} {lo hi : Int} (h : G a = some (.rng lo hi)) : Rep B G H (.ref a) (.rng lo hi) nof
  | ol {a : Addr} {vs : List V} {ds : List D} {F : Nat → FP} (h : H a = some (.lst vs)) (g : G a = none) (l : vs.length = ds.length)
      (c : ∀ (i : Nat) v d, vs[i]? = some v → ds[i]? = some d → Rep B G H v d (F i)) (bd : ∀ i x, F i x → i < ds.length)
      (dj : ∀ i j x, F i x → F j x → i = j) (na : ∀ i, ¬ F i a) : Rep B G H (.ref a) (.ol ds) (fun x => x = a ∨ ∃ i, F i x)
  | od {a : Addr} {kvs : List (Key × V)} {ds : List (Key × D)} {F : Nat → FP} (h : H a = some (.dK kvs)) (g : G a = none) (l : kvs.map (·.1) = ds.map (·.1))
      (c : ∀ (i : Nat) k v k' d, kvs[i]? = some (k, v) → ds[i]? = some (k', d) → Rep B G H v d (F i)) (bd : ∀ i x, F i x → i < ds.length)
      (dj : ∀ i j x, F i x → F j x → i = j) (na : ∀ i, ¬ F i a) : Rep B G H (.ref a) (.od ds) (fun x => x = a ∨ ∃ i, F i x)
  | oi {a dx : Addr} {c : Nat} {fs : List (Str × V)} {ds : List (Str × D)} {F : Nat → FP} (h : H a = some (.ins (B.ca c) dx fs)) (ho : H dx = some (.own a)) (g : G a = none) (g2 : G dx = none) (l : fs.map (·.1) = ds.map (·.1))
      (ch : ∀ (i : Nat) k v k' d, fs[i]? = some (k, v) → ds[i]? = some (k', d) → Rep B G H v d (F i)) (bd : ∀ i x, F i x → i < ds.length)
      (dj : ∀ i j x, F i x → F j x → i = j) (na : ∀ i, ¬ F i a) (na2 : ∀ i, ¬ F i dx) : Rep B G H (.ref a) (.oi c ds) (fun x => x = a ∨ x = dx ∨ ∃ i, F i x)
section
variable {B : Bd} {G H G' H' : Hp} {v : V} {d : D} {T : FP}
theorem get_both {α β : Type} {xs : List α} {ys : List β} (l : xs.length = ys.length) {i : Nat} (hi : i < ys.length) : ∃ x y, xs[i]? = some x ∧ ys[i]? = some y :=
  ⟨xs[i], ys[i], List.getElem?_eq_getElem (by omega), List.getElem?_eq_getElem hi⟩
theorem len_of_keys {κ α β : Type} {xs : List (κ × α)} {ys : List (κ × β)} (l : xs.map (·.1) = ys.map (·.1)) : xs.length = ys.length := by
  have := congrArg List.length l
  simpa using this
/-- own addresses stand in the heap, not frozen -/
theorem Rep.dom (r : Rep B G H v d T) : ∀ x, T x → (∃ o, H x = some o) ∧ G x = none := by
  induction r with
  | non | bl | int | str | ty | cls | tup | lst | frl | dct | ins | exc | rng => intro x h; exact h.elim
  | ol h g l c bd dj na ih =>
    rintro x (rfl | ⟨i, hx⟩)
    · exact ⟨⟨_, h⟩, g⟩
    · obtain ⟨v, d, e1, e2⟩ := get_both l (bd i x hx)
      exact ih i v d e1 e2 x hx
  | od h g l c bd dj na ih =>
    rintro x (rfl | ⟨i, hx⟩)
    · exact ⟨⟨_, h⟩, g⟩
    · obtain ⟨⟨k, v⟩, ⟨k', d⟩, e1, e2⟩ := get_both (len_of_keys l) (bd i x hx)
      exact ih i k v k' d e1 e2 x hx
  | oi h ho g g2 l c bd dj na na2 ih =>
    rintro x (rfl | rfl | ⟨i, hx⟩)
    · exact ⟨⟨_, h⟩, g⟩
    · exact ⟨⟨_, ho⟩, g2⟩
    · obtain ⟨⟨k, v⟩, ⟨k', d⟩, e1, e2⟩ := get_both (len_of_keys l) (bd i x hx)
      exact ih i k v k' d e1 e2 x hx
theorem sqL_mono {K : PySem.W.Frag} {a : Addr} {vs : List V} (h : SqL K G a vs) (k : ∀ b o, G b = some o → G' b = some o) : SqL K G' a vs := by
  rcases h with (h | ⟨o, h⟩) | h
  · exact .inl (.inl (k _ _ h))
  · exact .inl (.inr ⟨o, k _ _ h⟩)
  · exact .inr h
theorem rd_mono {a : Addr} {u : HO} (h : Rd G a u) (k : ∀ b o, G b = some o → G' b = some o) : Rd G' a u := by
  rcases h with h | ⟨o, h⟩
  · exact .inl (k _ _ h)
  · exact .inr ⟨o, k _ _ h⟩
theorem sqT_mono {K : PySem.W.Frag} {a : Addr} {vs : List V} (h : SqT K G a vs) (k : ∀ b o, G b = some o → G' b = some o) : SqT K G' a vs := by
  rcases h with (h | ⟨o, h⟩) | h
  · exact .inl (.inl (k _ _ h))
  · exact .inl (.inr ⟨o, k _ _ h⟩)
  · exact .inr h
/-- what stands for d still does when the frozen part grows and the own part stays -/
theorem Rep.keep (r : Rep B G H v d T) (gg : ∀ b o, G b = some o → G' b = some o) : (∀ b, T b → H' b = H b ∧ G' b = none) → Rep B G' H' v d T := by
  induction r with
  | non => intro; exact .non
  | bl b => intro; exact .bl b
  | int i => intro; exact .int i
  | str x => intro; exact .str x
  | ty n => intro; exact .ty n
  | cls c => intro; exact .cls c
  | tup h l c ih => intro _; exact .tup (sqT_mono h gg) l fun i v d e1 e2 => ih i v d e1 e2 fun b hb => hb.elim
  | lst h l c ih => intro _; exact .lst (gg _ _ h) l fun i v d e1 e2 => ih i v d e1 e2 fun b hb => hb.elim
  | frl h l c ih => intro _; exact .frl (sqL_mono h gg) l fun i v d e1 e2 => ih i v d e1 e2 fun b hb => hb.elim
  | dct h l c ih => intro _; exact .dct (rd_mono h gg) l fun i k v k' d e1 e2 => ih i k v k' d e1 e2 fun b hb => hb.elim
  | ins h ho l c ih => intro _; exact .ins (gg _ _ h) (gg _ _ ho) l fun i k v k' d e1 e2 => ih i k v k' d e1 e2 fun b hb => hb.elim
  | exc h ho r ih => intro _; exact .exc (gg _ _ h) (gg _ _ ho) (ih fun b hb => hb.elim)
  | rng h => intro _; exact .rng (gg _ _ h)
  | ol h g l c bd dj na ih =>
    intro k
    exact .ol ((k _ (.inl rfl)).1.trans h) (k _ (.inl rfl)).2 l (fun i v d e1 e2 => ih i v d e1 e2 fun b hb => k b (.inr ⟨i, hb⟩)) bd dj na
  | od h g l c bd dj na ih =>
    intro k
    exact .od ((k _ (.inl rfl)).1.trans h) (k _ (.inl rfl)).2 l (fun i q v q' d e1 e2 => ih i q v q' d e1 e2 fun b hb => k b (.inr ⟨i, hb⟩)) bd dj na
  | oi h ho g g2 l c bd dj na na2 ih =>
    intro k
    exact .oi ((k _ (.inl rfl)).1.trans h) ((k _ (.inr (.inl rfl))).1.trans ho) (k _ (.inl rfl)).2 (k _ (.inr (.inl rfl))).2 l
      (fun i q v q' d e1 e2 => ih i q v q' d e1 e2 fun b hb => k b (.inr (.inr ⟨i, hb⟩))) bd dj na na2
end
/-- not owned at its root -/
def D.sh : D → Bool
  | .ol _ => false | .od _ => false | .oi _ _ => false
  | _ => true
theorem Rep.sh_nof {B : Bd} {G H : Hp} {v : V} {d : D} {T : FP} (r : Rep B G H v d T) (h : d.sh = true) : T = nof := by
  cases r <;> first | rfl | cases h
structure Ext (G H : Hp) (W : FP) (G' H' : Hp) (W' : FP) : Prop where
  gg : ∀ b o, G b = some o → G' b = some o
  hh : ∀ b o, H b = some o → ¬ W b → H' b = some o
  ww : ∀ b, W' b → W b ∨ H b = none
  gn : ∀ b o, G' b = some o → G b = some o ∨ W b ∨ H b = none
section
variable {G H G1 H1 G2 H2 : Hp} {W W1 W2 : FP}
theorem Ext.refl (h : ∀ x, W1 x → W x) : Ext G H W G H W1 := ⟨fun _ _ e => e, fun _ _ e _ => e, fun b h' => .inl (h b h'), fun _ _ e => .inl e⟩
theorem Ext.trans (a : Ext G H W G1 H1 W1) (b : Ext G1 H1 W1 G2 H2 W2) : Ext G H W G2 H2 W2 := by
  have nn : ∀ x, H1 x = none → W x ∨ H x = none := fun x e => by
    cases q : H x with
    | none => exact .inr rfl
    | some o =>
      by_cases w : W x
      · exact .inl w
      · rw [a.hh x o q w] at e; cases e
  refine ⟨fun x o e => b.gg x o (a.gg x o e), fun x o e w => ?_, fun x w => ?_, fun x o e => ?_⟩
  · have e1 := a.hh x o e w
    refine b.hh x o e1 fun w1 => ?_
    rcases a.ww x w1 with z | z
    · exact w z
    · rw [z] at e; cases e
  · rcases b.ww x w with w1 | z
    · exact a.ww x w1
    · exact nn x z
  · rcases b.gn x o e with g1 | w1 | z
    · exact a.gn x o g1
    · exact .inr (a.ww x w1)
    · exact .inr (nn x z)
theorem Ext.mono {Wa Wb : FP} (a : Ext G H W G1 H1 W1) (h : ∀ x, W x → Wa x) (h1 : ∀ x, Wb x → W1 x) : Ext G H Wa G1 H1 Wb :=
  ⟨a.gg, fun x o e w => a.hh x o e fun z => w (h x z), fun x w => (a.ww x (h1 x w)).imp (h x) id, fun x o e => (a.gn x o e).imp id fun z => z.imp (h x) id⟩
/-- what stands apart stays, and stays apart -/
theorem Rep.frame {B : Bd} {v : V} {d : D} {T : FP} (r : Rep B G H v d T) (x : Ext G H W G1 H1 W1) (n : ∀ b, T b → ¬ W b) : Rep B G1 H1 v d T ∧ ∀ b, T b → ¬ W1 b := by
  have dm := r.dom
  refine ⟨r.keep x.gg fun b hb => ?_, fun b hb w => ?_⟩
  · obtain ⟨⟨o, e⟩, g⟩ := dm b hb
    refine ⟨(x.hh b o e (n b hb)).trans e.symm, ?_⟩
    cases q : G1 b with
    | none => rfl
    | some u =>
      rcases x.gn b u q with z | z | z
      · rw [g] at z; cases z
      · exact (n b hb z).elim
      · rw [e] at z; cases z
  · obtain ⟨⟨o, e⟩, g⟩ := dm b hb
    rcases x.ww b w with z | z
    · exact n b hb z
    · rw [e] at z; cases z
/-- a frozen thing stays whatever is done -/
theorem Rep.stay {B : Bd} {v : V} {d : D} (r : Rep B G H v d nof) (x : Ext G H W G1 H1 W1) : Rep B G1 H1 v d nof := r.keep x.gg fun _ h => h.elim
end
mutual
def frz : D → D
  | .ol xs => .lst (frzL xs)
  | .od kvs => .dct (frzK kvs)
  | .oi c fs => .ins c (frzF fs)
  | d => d
def frzL : List D → List D
  | [] => []
  | d :: ds => frz d :: frzL ds
def frzK : List (Key × D) → List (Key × D)
  | [] => []
  | (k, d) :: ds => (k, frz d) :: frzK ds
def frzF : List (Str × D) → List (Str × D)
  | [] => []
  | (k, d) :: ds => (k, frz d) :: frzF ds
end
theorem frzL_map : ∀ xs : List D, frzL xs = xs.map frz
  | [] => rfl
  | d :: ds => by rw [frzL, frzL_map ds]; rfl
theorem frzK_map : ∀ xs : List (Key × D), frzK xs = xs.map fun p => (p.1, frz p.2)
  | [] => rfl
  | (k, d) :: ds => by rw [frzK, frzK_map ds]; rfl
theorem frzF_map : ∀ xs : List (Str × D), frzF xs = xs.map fun p => (p.1, frz p.2)
  | [] => rfl
  | (k, d) :: ds => by rw [frzF, frzF_map ds]; rfl
open Classical in
/-- T is frozen too -/
noncomputable def gfr (G H : Hp) (T : FP) : Hp := fun b => if T b then H b else G b
section
variable {B : Bd} {G H G1 : Hp} {v : V} {d : D} {T : FP}
theorem gfr_in {b : Addr} (h : T b) : gfr G H T b = H b := if_pos h
theorem gfr_out {b : Addr} (h : ¬ T b) : gfr G H T b = G b := if_neg h
/-- what stood for d stands for d frozen, when all of its own is frozen -/
theorem Rep.frozen (r : Rep B G H v d T) : (∀ b o, G b = some o → G1 b = some o) → (∀ b, T b → G1 b = H b) → Rep B G1 H v (frz d) nof := by
  induction r with
  | non => intros; exact .non
  | bl b => intros; exact .bl b
  | int i => intros; exact .int i
  | str x => intros; exact .str x
  | ty n => intros; exact .ty n
  | cls c => intros; exact .cls c
  | tup h l c ih => intro gg _; exact .tup (sqT_mono h gg) l fun i v d e1 e2 => (c i v d e1 e2).keep gg fun b hb => hb.elim
  | lst h l c ih => intro gg _; exact .lst (gg _ _ h) l fun i v d e1 e2 => (c i v d e1 e2).keep gg fun b hb => hb.elim
  | frl h l c ih => intro gg _; exact .frl (sqL_mono h gg) l fun i v d e1 e2 => (c i v d e1 e2).keep gg fun b hb => hb.elim
  | dct h l c ih => intro gg _; exact .dct (rd_mono h gg) l fun i k v k' d e1 e2 => (c i k v k' d e1 e2).keep gg fun b hb => hb.elim
  | ins h ho l c ih => intro gg _; exact .ins (gg _ _ h) (gg _ _ ho) l fun i k v k' d e1 e2 => (c i k v k' d e1 e2).keep gg fun b hb => hb.elim
  | exc h ho r ih => intro gg _; exact .exc (gg _ _ h) (gg _ _ ho) (r.keep gg fun b hb => hb.elim)
  | rng h => intro gg _; exact .rng (gg _ _ h)
  | ol h g l c bd dj na ih =>
    intro gg k
    rw [frz, frzL_map]
    refine .lst ((k _ (.inl rfl)).trans h) (by rw [List.length_map]; exact l) fun i v d e1 e2 => ?_
    rw [List.getElem?_map] at e2
    obtain ⟨d', e3, rfl⟩ := Option.map_eq_some_iff.mp e2
    exact ih i v d' e1 e3 gg fun b hb => k b (.inr ⟨i, hb⟩)
  | od h g l c bd dj na ih =>
    intro gg k
    rw [frz, frzK_map]
    refine .dct (.inl ((k _ (.inl rfl)).trans h)) (by rw [List.map_map]; exact l) fun i q v q' d e1 e2 => ?_
    rw [List.getElem?_map] at e2
    obtain ⟨⟨q'', d'⟩, e3, e4⟩ := Option.map_eq_some_iff.mp e2
    cases e4
    exact ih i q v q'' d' e1 e3 gg fun b hb => k b (.inr ⟨i, hb⟩)
  | oi h ho g g2 l c bd dj na na2 ih =>
    intro gg k
    rw [frz, frzF_map]
    refine .ins ((k _ (.inl rfl)).trans h) ((k _ (.inr (.inl rfl))).trans ho) (by rw [List.map_map]; exact l) fun i q v q' d e1 e2 => ?_
    rw [List.getElem?_map] at e2
    obtain ⟨⟨q'', d'⟩, e3, e4⟩ := Option.map_eq_some_iff.mp e2
    cases e4
    exact ih i q v q'' d' e1 e3 gg fun b hb => k b (.inr (.inr ⟨i, hb⟩))
theorem frz_sh : ∀ d : D, d.sh = true → frz d = d
  | .non, _ => rfl | .bl _, _ => rfl | .int _, _ => rfl | .str _, _ => rfl | .ty _, _ => rfl | .cls _, _ => rfl
  | .tup _, _ => rfl | .lst _, _ => rfl | .frl _, _ => rfl | .dct _, _ => rfl | .ins _ _, _ => rfl | .exc _ _, _ => rfl | .rng _ _, _ => rfl
theorem frz_is (d : D) : (frz d).sh = true := by cases d <;> rfl
end
end DL
namespace DL
open PySem PySem.Spec PyProof.Rows L2
abbrev DEnv := List (Option D)
/-- what an expression comes to: a value, or the thing that a slot holds alone -/
inductive PSt where
  | ix (j : Nat) | fl (f : Str) | ky (k : Key)
inductive AV where
  | val (d : D) | pl (i : Nat) (p : List PSt)
/-- where a key stands first -/
def kIdx {κ α : Type} [DecidableEq κ] (f : κ) : List (κ × α) → Option Nat
  | [] => none
  | (g, _) :: r => if g = f then some 0 else (kIdx f r).map (· + 1)
theorem kIdx_keys {κ α β : Type} [DecidableEq κ] (f : κ) : ∀ {xs : List (κ × α)} {ys : List (κ × β)}, xs.map (·.1) = ys.map (·.1) → kIdx f xs = kIdx f ys
  | [], [], _ => rfl
  | [], _ :: _, h => by cases h
  | _ :: _, [], h => by cases h
  | (g, _) :: r, (g', _) :: r', h => by
    simp only [List.map_cons, List.cons.injEq] at h
    obtain ⟨h1, h2⟩ := h
    subst h1
    unfold kIdx
    rw [kIdx_keys f h2]
theorem kIdx_at {κ α : Type} [DecidableEq κ] {f : κ} : ∀ {xs : List (κ × α)} {k : Nat}, kIdx f xs = some k → ∃ x, xs[k]? = some (f, x)
  | [], k, h => by cases h
  | (g, y) :: r, k, h => by
    unfold kIdx at h
    by_cases e : g = f
    · rw [if_pos e] at h
      cases h
      subst e
      exact ⟨y, rfl⟩
    · rw [if_neg e] at h
      obtain ⟨k', h1, rfl⟩ := Option.map_eq_some_iff.mp h
      obtain ⟨x, e1⟩ := kIdx_at h1
      exact ⟨x, by simpa using e1⟩
theorem kIdx_get {α : Type} {f : Str} : ∀ {xs : List (Str × α)} {k : Nat}, kIdx f xs = some k → ∃ x, xs[k]? = some (f, x) ∧ xs.lookup f = some x
  | [], k, h => by cases h
  | (g, y) :: r, k, h => by
    unfold kIdx at h
    by_cases e : g = f
    · rw [if_pos e] at h
      cases h
      subst e
      exact ⟨y, rfl, by simp [List.lookup]⟩
    · rw [if_neg e] at h
      obtain ⟨k', h1, rfl⟩ := Option.map_eq_some_iff.mp h
      obtain ⟨x, e1, e2⟩ := kIdx_get h1
      refine ⟨x, by simpa using e1, ?_⟩
      have : (f == g) = false := by simpa using Ne.symm e
      simp [List.lookup, this, e2]
/-- the part of an own thing at a path -/
def getP : D → List PSt → Option D
  | d, [] => some d
  | .ol ds, .ix j :: p => match ds[j]? with
    | some d => getP d p
    | none => none
  | .oi _ fs, .fl f :: p => match kIdx f fs with
    | some k => match fs[k]? with
      | some (_, d) => getP d p
      | none => none
    | none => none
  | .od kvs, .ky k :: p => match kIdx k kvs with
    | some n => match kvs[n]? with
      | some (_, d) => getP d p
      | none => none
    | none => none
  | _, _ => none
def putP : D → List PSt → D → Option D
  | _, [], e => some e
  | .ol ds, .ix j :: p, e => match ds[j]? with
    | some d => (putP d p e).map fun u => .ol (ds.set j u)
    | none => none
  | .oi c fs, .fl f :: p, e => match kIdx f fs with
    | some k => match fs[k]? with
      | some (_, d) => (putP d p e).map fun u => .oi c (fs.set k (f, u))
      | none => none
    | none => none
  | .od kvs, .ky k :: p, e => match kIdx k kvs with
    | some n => match kvs[n]? with
      | some (_, d) => (putP d p e).map fun u => .od (kvs.set n (k, u))
      | none => none
    | none => none
  | _, _, _ => none
def PathH (H : Hp) : V → List PSt → V → Prop
  | v0, [], v => v0 = v
  | v0, .ix j :: p, v => ∃ a vs u, v0 = .ref a ∧ H a = some (.lst vs) ∧ vs[j]? = some u ∧ PathH H u p v
  | v0, .fl f :: p, v => ∃ a C dx fs k u, v0 = .ref a ∧ H a = some (.ins C dx fs) ∧ kIdx f fs = some k ∧ fs[k]? = some (f, u) ∧ PathH H u p v
  | v0, .ky k :: p, v => ∃ a kvs n u, v0 = .ref a ∧ H a = some (.dK kvs) ∧ kIdx k kvs = some n ∧ kvs[n]? = some (k, u) ∧ PathH H u p v
inductive Out (α : Type) where
  | ok (a : α) (ρ : DEnv) | exc (e : D) (ρ : DEnv)
abbrev Ev (α : Type) := DEnv → Option (Out α)
def Ev.andThen {α β : Type} (f : Ev α) (k : α → Ev β) : Ev β := fun ρ => match f ρ with
  | none => none
  | some (.exc e ρ1) => some (.exc e ρ1)
  | some (.ok a ρ1) => k a ρ1
def Ev.pure {α : Type} (a : α) : Ev α := fun ρ => some (.ok a ρ)
def slotOf (ρ : DEnv) (i : Nat) : Option D := (ρ[i]?).bind id
theorem slotOf_eq {ρ : DEnv} {i : Nat} {d : D} (h : slotOf ρ i = some d) : ρ[i]? = some (some d) := by
  unfold slotOf at h
  cases e : ρ[i]? with
  | none => rw [e] at h; cases h
  | some o => rw [e] at h; cases o with
    | none => cases h
    | some d' => cases h; rfl
theorem slotOf_of {ρ : DEnv} {i : Nat} {d : D} (h : ρ[i]? = some (some d)) : slotOf ρ i = some d := by unfold slotOf; rw [h]; rfl
def cont (ρ : DEnv) : AV → Option D
  | .val d => some d
  | .pl i p => (slotOf ρ i).bind fun d => getP d p
theorem cont_pl (ρ : DEnv) (i : Nat) (p : List PSt) : cont ρ (.pl i p) = (slotOf ρ i).bind fun d => getP d p := rfl
section
variable {α β : Type} {f : Ev α} {k : α → Ev β} {ρ ρ1 : DEnv} {a : α} {e : D}
theorem andThen_none (h : f ρ = none) : f.andThen k ρ = none := by unfold Ev.andThen; rw [h]
theorem andThen_exc (h : f ρ = some (.exc e ρ1)) : f.andThen k ρ = some (.exc e ρ1) := by unfold Ev.andThen; rw [h]
theorem andThen_ok (h : f ρ = some (.ok a ρ1)) : f.andThen k ρ = k a ρ1 := by unfold Ev.andThen; rw [h]
end
def avF (F : Nat → FP) : AV → FP
  | .pl i _ => F i
  | .val _ => nof
def un (F : Nat → FP) : FP := fun x => ∃ i, F i x
structure Cfg (B : Bd) (G H : Hp) (σ : L2.St) (ρ : DEnv) (F : Nat → FP) : Prop where
  sub : ∀ b o, G b = some o → H b = some o
  len : ρ.length = σ.length
  slot : ∀ i d, ρ[i]? = some (some d) → ∃ v, σ[i]? = some (some v) ∧ Rep B G H v d (F i)
  emp : ∀ i, (∀ d, ρ[i]? ≠ some (some d)) → ∀ x, ¬ F i x
  dis : ∀ i j x, F i x → F j x → i = j
section
variable {B : Bd} {G H G' H' : Hp} {σ : L2.St} {ρ : DEnv} {F : Nat → FP} {W : FP}
theorem Cfg.own (c : Cfg B G H σ ρ F) {i : Nat} {x : Addr} (h : F i x) : ∃ d v, ρ[i]? = some (some d) ∧ σ[i]? = some (some v) ∧ Rep B G H v d (F i) := by
  cases e : ρ[i]? with
  | none => exact (c.emp i (fun d z => by rw [e] at z; cases z) x h).elim
  | some o =>
    cases o with
    | none => exact (c.emp i (fun d z => by rw [e] at z; cases z) x h).elim
    | some d =>
      obtain ⟨v, e1, r⟩ := c.slot i d e
      exact ⟨d, v, rfl, e1, r⟩
theorem Cfg.dom (c : Cfg B G H σ ρ F) {x : Addr} (h : un F x) : (∃ o, H x = some o) ∧ G x = none := by
  obtain ⟨i, hi⟩ := h
  obtain ⟨d, v, _, _, r⟩ := c.own hi
  exact r.dom x hi
/-- something is made, nothing is changed -/
theorem Cfg.grow (c : Cfg B G H σ ρ F) (x : Ext G H nof G' H' W) (s : ∀ b o, G' b = some o → H' b = some o) : Cfg B G' H' σ ρ F := by
  refine ⟨s, c.len, fun i d e => ?_, c.emp, c.dis⟩
  obtain ⟨v, e1, r⟩ := c.slot i d e
  exact ⟨v, e1, (r.frame x fun _ _ z => z).1⟩
/-- a step that leaves these slots apart -/
theorem Cfg.apart {W1 : FP} (c : Cfg B G H σ ρ F) (x : Ext G H W G' H' W1) (s : ∀ b o, G' b = some o → H' b = some o) (n : ∀ b, un F b → ¬ W b) : Cfg B G' H' σ ρ F := by
  refine ⟨s, c.len, fun i d e => ?_, c.emp, c.dis⟩
  obtain ⟨v, e1, r⟩ := c.slot i d e
  exact ⟨v, e1, (r.frame x fun b hb => n b ⟨i, hb⟩).1⟩
theorem Cfg.at (c : Cfg B G H σ ρ F) {i : Nat} {d : D} (h : slotOf ρ i = some d) : ∃ v, σ[i]? = some (some v) ∧ Rep B G H v d (F i) := c.slot i d (slotOf_eq h)
end
/-- a path: the parts on it are own, so it stays as long as they stay -/
theorem PathH.keep {B : Bd} {G H H' : Hp} : ∀ {p : List PSt} {v0 v : V} {d0 d : D} {T : FP}, Rep B G H v0 d0 T → getP d0 p = some d → (∀ b, T b → H' b = H b) → PathH H v0 p v → PathH H' v0 p v
  | [], _, _, _, _, _, _, _, _, h => h
  | .ix j :: p, v0, v, d0, d, T, r, e, k, h => by
    obtain ⟨a, vs, u, rfl, ha, hu, h⟩ := h
    cases r with
    | ol h' g l c bd dj na =>
      rw [h'] at ha; cases ha
      unfold getP at e
      split at e
      · rename_i dj' e2
        refine ⟨a, _, u, rfl, (k a (.inl rfl)).trans h', hu, PathH.keep (c j u dj' hu e2) e (fun b hb => k b (.inr ⟨j, hb⟩)) h⟩
      · cases e
    | _ => simp [getP] at e
  | .fl f :: p, v0, v, d0, d, T, r, e, k, h => by
    obtain ⟨a, C, dx, fs, n, u, rfl, ha, hk, hu, h⟩ := h
    cases r with
    | oi h' ho g g2 l c bd dj na na2 =>
      rw [h'] at ha; cases ha
      unfold getP at e
      rw [← kIdx_keys f l, hk] at e
      dsimp only at e
      split at e
      · rename_i f' dj' e2
        refine ⟨a, _, dx, _, n, u, rfl, (k a (.inl rfl)).trans h', hk, hu, PathH.keep (c n f u f' dj' hu e2) e (fun b hb => k b (.inr (.inr ⟨n, hb⟩))) h⟩
      · cases e
    | _ => simp [getP] at e
  | .ky kk :: p, v0, v, d0, d, T, r, e, k, h => by
    obtain ⟨a, kvs, n, u, rfl, ha, hk, hu, h⟩ := h
    cases r with
    | od h' g l c bd dj na =>
      rw [h'] at ha; cases ha
      unfold getP at e
      rw [← kIdx_keys kk l, hk] at e
      dsimp only at e
      split at e
      · rename_i f' dj' e2
        refine ⟨a, _, n, u, rfl, (k a (.inl rfl)).trans h', hk, hu, PathH.keep (c n kk u f' dj' hu e2) e (fun b hb => k b (.inr ⟨n, hb⟩)) h⟩
      · cases e
    | _ => simp [getP] at e
/-- what stands at a path -/
theorem PathH.rep {B : Bd} {G H : Hp} : ∀ {p : List PSt} {v0 v : V} {d0 d : D} {T : FP}, Rep B G H v0 d0 T → getP d0 p = some d → PathH H v0 p v → ∃ U, Rep B G H v d U ∧ ∀ x, U x → T x
  | [], v0, v, d0, d, T, r, e, h => by cases h; cases e; exact ⟨T, r, fun _ h => h⟩
  | .ix j :: p, v0, v, d0, d, T, r, e, h => by
    obtain ⟨a, vs, u, rfl, ha, hu, h⟩ := h
    cases r with
    | ol h' g l c bd dj na =>
      rw [h'] at ha; cases ha
      unfold getP at e
      split at e
      · rename_i dj' e2
        obtain ⟨U, r, s⟩ := PathH.rep (c j u dj' hu e2) e h
        exact ⟨U, r, fun x hx => .inr ⟨j, s x hx⟩⟩
      · cases e
    | _ => simp [getP] at e
  | .fl f :: p, v0, v, d0, d, T, r, e, h => by
    obtain ⟨a, C, dx, fs, n, u, rfl, ha, hk, hu, h⟩ := h
    cases r with
    | oi h' ho g g2 l c bd dj na na2 =>
      rw [h'] at ha; cases ha
      unfold getP at e
      rw [← kIdx_keys f l, hk] at e
      dsimp only at e
      split at e
      · rename_i f' dj' e2
        obtain ⟨U, r, s⟩ := PathH.rep (c n f u f' dj' hu e2) e h
        exact ⟨U, r, fun x hx => .inr (.inr ⟨n, s x hx⟩)⟩
      · cases e
    | _ => simp [getP] at e
  | .ky kk :: p, v0, v, d0, d, T, r, e, h => by
    obtain ⟨a, kvs, n, u, rfl, ha, hk, hu, h⟩ := h
    cases r with
    | od h' g l c bd dj na =>
      rw [h'] at ha; cases ha
      unfold getP at e
      rw [← kIdx_keys kk l, hk] at e
      dsimp only at e
      split at e
      · rename_i f' dj' e2
        obtain ⟨U, r, s⟩ := PathH.rep (c n kk u f' dj' hu e2) e h
        exact ⟨U, r, fun x hx => .inr ⟨n, s x hx⟩⟩
      · cases e
    | _ => simp [getP] at e
/-- a value that is held meanwhile -/
def RepA (B : Bd) (G H : Hp) (σ : L2.St) (v : V) : AV → FP → Prop
  | .val d, T => Rep B G H v d T
  | .pl i p, T => (∃ v0, σ[i]? = some (some v0) ∧ PathH H v0 p v) ∧ T = nof
def AV.deep : AV → Bool
  | .pl _ (_ :: _) => true
  | _ => false
theorem RepA.frame {B : Bd} {G H G1 H1 : Hp} {W W1 T : FP} {σ : L2.St} {v : V} {av : AV} (r : RepA B G H σ v av T) (x : Ext G H W G1 H1 W1) (n : ∀ b, T b → ¬ W b) (hd : av.deep = false) : RepA B G1 H1 σ v av T ∧ ∀ b, T b → ¬ W1 b := by
  cases av with
  | val d => exact Rep.frame r x n
  | pl i p =>
    cases p with
    | nil => obtain ⟨⟨v0, e, h⟩, rfl⟩ := r; exact ⟨⟨⟨v0, e, h⟩, rfl⟩, fun _ h => h.elim⟩
    | cons s p => cases hd
theorem RepA.dom {B : Bd} {G H : Hp} {T : FP} {σ : L2.St} {v : V} {av : AV} (r : RepA B G H σ v av T) : ∀ x, T x → (∃ o, H x = some o) ∧ G x = none := by
  cases av with
  | val d => exact Rep.dom r
  | pl i p => obtain ⟨e, rfl⟩ := r; exact fun _ h => h.elim
/-- what it stands for -/
theorem RepA.cont {B : Bd} {G H : Hp} {T : FP} {σ : L2.St} {ρ : DEnv} {F : Nat → FP} {v : V} {av : AV} {d : D} (c : Cfg B G H σ ρ F) (r : RepA B G H σ v av T) (e : cont ρ av = some d) : ∃ U, Rep B G H v d U ∧ ∀ x, U x → T x ∨ avF F av x := by
  cases av with
  | val d' => cases e; exact ⟨T, r, fun x h => .inl h⟩
  | pl i p =>
    obtain ⟨⟨v0, e0, h⟩, rfl⟩ := r
    rw [cont_pl] at e
    cases hs : slotOf ρ i with
    | none => rw [hs] at e; cases e
    | some d0 =>
      rw [hs] at e
      obtain ⟨v', e2, r'⟩ := c.at hs
      rw [e0] at e2
      cases e2
      obtain ⟨U, r, s⟩ := h.rep r' e
      exact ⟨U, r, fun x hx => .inr (s x hx)⟩
/-- several, their own addresses within Wt, apart from one another -/
inductive RepAs (B : Bd) (G H : Hp) (σ : L2.St) : FP → List V → List AV → Prop
  | nil {Wt : FP} : RepAs B G H σ Wt [] []
  | cons {Wt Wu T : FP} {v : V} {a : AV} {vs : List V} {as : List AV} (r : RepA B G H σ v a T) (hT : ∀ x, T x → Wt x) (t : RepAs B G H σ Wu vs as) (hu : ∀ x, Wu x → Wt x) (dj : ∀ x, T x → ¬ Wu x) : RepAs B G H σ Wt (v :: vs) (a :: as)
theorem RepAs.mono {B : Bd} {G H : Hp} {Wt Wu : FP} {σ : L2.St} {vs : List V} {avs : List AV} (h : ∀ b, Wt b → Wu b) (r : RepAs B G H σ Wt vs avs) : RepAs B G H σ Wu vs avs := by
  cases r with
  | nil => exact .nil
  | cons r hT t hu dj => exact .cons r (fun x k => h x (hT x k)) t (fun x k => h x (hu x k)) dj
/-- an error of an own class with its value -/
def ExcAt (B : Bd) (G : Hp) (cls : Value) (dx : Option Addr) (e : D) : Prop := ∃ c dd v d, e = .exc c d ∧ cls = .ref (B.ca c) ∧ dx = some dd ∧ G dd = some (.xd [(("value" : Str), v)]) ∧ Rep B G G v d nof
def endE (B : Bd) (W : WX) (σ : L2.St) (G H : Hp) (W0 : FP) (Q : VK) : Out AV → Prop
  | .ok av ρ' => ∀ v G' H' F' T, Cfg B G' H' σ ρ' F' → RepA B G' H' σ v av T → (∀ x, T x → ¬ un F' x) → Ext G H W0 G' H' (fun x => un F' x ∨ T x) → Q v H'
  | .exc e ρ' => ∀ G' H' F' cls dx, Cfg B G' H' σ ρ' F' → ExcAt B G' cls dx e → Ext G H W0 G' H' (un F') → W cls dx σ H'
def tD (B : Bd) (W : WX) (f : Ev AV) : TE := fun σ H Q => ∃ G ρ F o, Cfg B G H σ ρ F ∧ f ρ = some o ∧ endE B W σ G H (un F) Q o
def endL (B : Bd) (W : WX) (σ : L2.St) (G H : Hp) (W0 : FP) (Q : List V → Hp → Prop) : Out (List AV) → Prop
  | .ok avs ρ' => ∀ vs G' H' F' Wt, Cfg B G' H' σ ρ' F' → RepAs B G' H' σ Wt vs avs → (∀ x, Wt x → ¬ un F' x) → Ext G H W0 G' H' (fun x => un F' x ∨ Wt x) → Q vs H'
  | .exc e ρ' => ∀ G' H' F' cls dx, Cfg B G' H' σ ρ' F' → ExcAt B G' cls dx e → Ext G H W0 G' H' (un F') → W cls dx σ H'
def tDL (B : Bd) (W : WX) (f : Ev (List AV)) : TA := fun σ H Q => ∃ G ρ F o, Cfg B G H σ ρ F ∧ f ρ = some o ∧ endL B W σ G H (un F) Q o
def DE (ca : Nat → Addr) (X : Cx) (e : Expr) (f : Ev AV) : Prop := ∀ W, Takes X W → PE X e (tD ⟨X.K, ca⟩ W f)
def DA (ca : Nat → Addr) (X : Cx) (es : List Expr) (f : Ev (List AV)) : Prop := ∀ W, Takes X W → PA X es (tDL ⟨X.K, ca⟩ W f)
theorem PE.imp {X : Cx} {e : Expr} {t u : TE} (h : PE X e t) (k : ∀ (σ : L2.St) (H : Hp) (Q : VK), u σ H Q → t σ H Q) : PE X e u := ⟨fun pins s σ H Q I q => h.run pins s σ H Q I (k σ H Q q)⟩
theorem PA.imp {X : Cx} {e : List Expr} {t u : TA} (h : PA X e t) (k : ∀ (σ : L2.St) (H : Hp) (Q : List V → Hp → Prop), u σ H Q → t σ H Q) : PA X e u := ⟨fun pos pins s σ H Q I q => h.run pos pins s σ H Q I (k σ H Q q)⟩
def evNil : Ev (List AV) := .pure []
/-- g, while nobody looks at slot i -/
def lockE {α : Type} (i : Nat) (p : List PSt) (g : Ev α) : Ev α := fun ρ => match cont ρ (.pl i p), slotOf ρ i with
  | some _, some d => match g (ρ.set i none) with
    | none => none
    | some (.ok a ρ') => some (.ok a (ρ'.set i (some d)))
    | some (.exc e ρ') => some (.exc e (ρ'.set i (some d)))
  | _, _ => none
section
variable {α : Type} {i : Nat} {p : List PSt} {g : Ev α} {ρ ρ' : DEnv} {d dd : D} {a : α} {e : D}
theorem lockE_none (h : g (ρ.set i none) = none) : lockE i p g ρ = none := by
  unfold lockE
  split
  · rw [h]
  · rfl
theorem lockE_ok (h1 : cont ρ (.pl i p) = some dd) (h2 : slotOf ρ i = some d) (h : g (ρ.set i none) = some (.ok a ρ')) : lockE i p g ρ = some (.ok a (ρ'.set i (some d))) := by
  unfold lockE
  rw [h1, h2]
  dsimp only
  rw [h]
theorem lockE_exc (h1 : cont ρ (.pl i p) = some dd) (h2 : slotOf ρ i = some d) (h : g (ρ.set i none) = some (.exc e ρ')) : lockE i p g ρ = some (.exc e (ρ'.set i (some d))) := by
  unfold lockE
  rw [h1, h2]
  dsimp only
  rw [h]
theorem lockE_no (h1 : cont ρ (.pl i p) = none) : lockE i p g ρ = none := by
  unfold lockE
  rw [h1]
end
def lockA {α : Type} (a : AV) (g : Ev α) : Ev α := match a with
  | .pl i (s :: p) => lockE i (s :: p) g
  | _ => g
def evCons (f : Ev AV) (g : Ev (List AV)) : Ev (List AV) := f.andThen fun a => (lockA a g).andThen fun as => .pure (a :: as)
section
variable {B : Bd} {W : WX} {σ : L2.St} {H : Hp}
/-- a first part, then the rest: the first part's reading, with the rest's -/
theorem tD_bind {f : Ev AV} {β : Type} {k : AV → Ev β} {G : Hp} {ρ : DEnv} {F : Nat → FP} {o : Out β} {Q : VK} (c : Cfg B G H σ ρ F) (e : f.andThen k ρ = some o)
    (hx : ∀ er ρ', o = .exc er ρ' → ∀ G' H' F' cls dx, Cfg B G' H' σ ρ' F' → ExcAt B G' cls dx er → Ext G H (un F) G' H' (un F') → W cls dx σ H')
    (hk : ∀ av ρ1 v G1 H1 F1 T, k av ρ1 = some o → Cfg B G1 H1 σ ρ1 F1 → RepA B G1 H1 σ v av T → (∀ x, T x → ¬ un F1 x) → Ext G H (un F) G1 H1 (fun x => un F1 x ∨ T x) → Q v H1) : tD B W f σ H Q := by
  unfold Ev.andThen at e
  cases hf : f ρ with
  | none => rw [hf] at e; cases e
  | some u =>
    rw [hf] at e
    cases u with
    | exc er ρ' => cases e; exact ⟨G, ρ, F, _, c, hf, fun G' H' F' cls dx c' x' y' => hx er ρ' rfl G' H' F' cls dx c' x' y'⟩
    | ok av ρ1 => exact ⟨G, ρ, F, _, c, hf, fun v G1 H1 F1 T c1 r n x => hk av ρ1 v G1 H1 F1 T e c1 r n x⟩
theorem tD_map {f : Ev AV} {Q Q' : VK} (h : tD B W f σ H Q) (k : ∀ v H', Q v H' → Q' v H') : tD B W f σ H Q' := by
  obtain ⟨G, ρ, F, o, c, e, z⟩ := h
  refine ⟨G, ρ, F, o, c, e, ?_⟩
  cases o with
  | ok av ρ' => exact fun v G' H' F' T c r n x => k _ _ (z v G' H' F' T c r n x)
  | exc er ρ' => exact z
theorem Cfg.drop {G H : Hp} {ρ : DEnv} {F : Nat → FP} (c : Cfg B G H σ ρ F) (i : Nat) : Cfg B G H σ (ρ.set i none) (fun j x => F j x ∧ j ≠ i) := by
  refine ⟨c.sub, by simpa using c.len, fun j d e => ?_, fun j h x hx => ?_, fun j k x a b => c.dis j k x a.1 b.1⟩
  · by_cases hj : j = i
    · subst hj
      have hl : j < (ρ.set j none).length := (List.getElem?_eq_some_iff.mp e).1
      rw [List.getElem?_set_self (by simpa using hl)] at e
      cases e
    · rw [List.getElem?_set_ne (Ne.symm hj)] at e
      obtain ⟨v, e1, r⟩ := c.slot j d e
      have en : (fun x => F j x ∧ j ≠ i) = F j := by funext x; exact propext ⟨fun z => z.1, fun z => ⟨z, hj⟩⟩
      exact ⟨v, e1, by rw [en]; exact r⟩
  · obtain ⟨d, v, e1, e2, r⟩ := c.own hx.1
    exact h d (by rw [List.getElem?_set_ne (Ne.symm hx.2)]; exact e1)
/-- a slot's content is told anew -/
theorem Cfg.put {G H : Hp} {ρ : DEnv} {F : Nat → FP} {v : V} {d : D} {T : FP} (c : Cfg B G H σ ρ F) (i : Nat) (hv : σ[i]? = some (some v)) (r : Rep B G H v d T) (n : ∀ x, T x → ∀ j, F j x → j = i) :
    Cfg B G H σ (ρ.set i (some d)) (fun j x => (j = i ∧ T x) ∨ (j ≠ i ∧ F j x)) := by
  have hi : i < ρ.length := by rw [c.len]; exact (List.getElem?_eq_some_iff.mp hv).1
  refine ⟨c.sub, by simpa using c.len, fun j d' e => ?_, fun j h x hx => ?_, fun j k x a b => ?_⟩
  · by_cases hj : j = i
    · subst hj
      rw [List.getElem?_set_self hi] at e
      cases e
      have en : (fun x => (j = j ∧ T x) ∨ (j ≠ j ∧ F j x)) = T := by funext x; exact propext ⟨fun z => z.elim (·.2) fun z => absurd rfl z.1, fun z => .inl ⟨rfl, z⟩⟩
      exact ⟨v, hv, by rw [en]; exact r⟩
    · rw [List.getElem?_set_ne (Ne.symm hj)] at e
      obtain ⟨v', e1, r'⟩ := c.slot j d' e
      have en : (fun x => (j = i ∧ T x) ∨ (j ≠ i ∧ F j x)) = F j := by funext x; exact propext ⟨fun z => z.elim (fun z => absurd z.1 hj) (·.2), fun z => .inr ⟨hj, z⟩⟩
      exact ⟨v', e1, by rw [en]; exact r'⟩
  · rcases hx with ⟨rfl, hx⟩ | ⟨hj, hx⟩
    · exact h d (List.getElem?_set_self hi)
    · obtain ⟨d', v', e1, e2, r'⟩ := c.own hx
      exact h d' (by rw [List.getElem?_set_ne (Ne.symm hj)]; exact e1)
  · rcases a with ⟨rfl, a⟩ | ⟨ha, a⟩ <;> rcases b with ⟨rfl, b⟩ | ⟨hb, b⟩
    · rfl
    · exact (hb (n x a k b)).elim
    · exact (ha (n x b j a)).elim
    · exact c.dis j k x a b
/-- a list's reading opened -/
theorem tDL_cons {f : Ev AV} {g : Ev (List AV)} {Q : List V → Hp → Prop} (h : tDL B W (evCons f g) σ H Q) : tD B W f σ H fun v H1 => tDL B W g σ H1 fun vs H2 => Q (v :: vs) H2 := by
  obtain ⟨G, ρ, F, o, c, e, z⟩ := h
  refine tD_bind c e (fun er ρ' eo => by subst eo; exact z) fun av ρ1 v G1 H1 F1 T ek c1 r1 n1 x1 => ?_
  have x1' : Ext G H (un F) G1 H1 (un F1) := x1.mono (fun _ h => h) fun _ h => .inl h
  have fin : ∀ {G2 H2 : Hp} {F2 : Nat → FP} {Wt : FP}, Ext G1 H1 (un F1) G2 H2 (fun x => un F2 x ∨ Wt x) → Ext G H (un F) G2 H2 (fun x => un F2 x ∨ Wt x ∨ T x) := fun {G2 H2 F2 Wt} x2 => by
    have x3 := x1'.trans x2
    refine ⟨x3.gg, x3.hh, fun b hb => ?_, x3.gn⟩
    rcases hb with h | h | h
    · exact x3.ww b (.inl h)
    · exact x3.ww b (.inr h)
    · exact x1.ww b (.inr h)
  cases hd : av.deep with
  | false =>
    have hl : lockA av g = g := by
      cases av with
      | val d => rfl
      | pl i p => cases p with
        | nil => rfl
        | cons s p => cases hd
    rw [hl] at ek
    unfold Ev.andThen at ek
    cases hg : g ρ1 with
    | none => rw [hg] at ek; cases ek
    | some u =>
      rw [hg] at ek
      cases u with
      | exc er ρ' =>
        cases ek
        exact ⟨G1, ρ1, F1, _, c1, hg, fun G' H' F' cls dx c' ex x' => z G' H' F' cls dx c' ex (x1'.trans x')⟩
      | ok avs ρ2 =>
        cases ek
        refine ⟨G1, ρ1, F1, _, c1, hg, fun vs G2 H2 F2 Wt c2 r2 n2 x2 => ?_⟩
        have fr := r1.frame x2 n1 hd
        refine z (v :: vs) G2 H2 F2 (fun x => Wt x ∨ T x) c2 (.cons fr.1 (fun x h => .inr h) r2 (fun x h => .inl h) fun x h u => fr.2 x h (.inr u)) (fun x h => ?_) (fin x2)
        rcases h with h | h
        · exact n2 x h
        · exact fun u => fr.2 x h (.inl u)
  | true =>
    cases av with
    | val d => cases hd
    | pl i p =>
      cases p with
      | nil => cases hd
      | cons s p =>
        obtain ⟨⟨v0, e0, hp⟩, rfl⟩ := r1
        have hl : lockA (.pl i (s :: p)) g = lockE i (s :: p) g := rfl
        rw [hl] at ek
        cases hc : cont ρ1 (.pl i (s :: p)) with
        | none => rw [andThen_none (lockE_no hc)] at ek; cases ek
        | some dd =>
          cases hs : slotOf ρ1 i with
          | none => rw [cont_pl, hs] at hc; cases hc
          | some d0 =>
            obtain ⟨v0', e0', r0⟩ := c1.at hs
            rw [e0] at e0'
            cases e0'
            have hgp : getP d0 (s :: p) = some dd := by rw [cont_pl, hs] at hc; exact hc
            have cd := c1.drop i
            have apart : ∀ b, F1 i b → ¬ un (fun j x => F1 j x ∧ j ≠ i) b := fun b hb ⟨j, hj⟩ => hj.2 (c1.dis j i b hj.1 hb)
            have back : ∀ {G2 H2 : Hp} {ρ2 : DEnv} {F2 : Nat → FP} {Wt : FP}, Cfg B G2 H2 σ ρ2 F2 → Ext G1 H1 (un fun j x => F1 j x ∧ j ≠ i) G2 H2 (fun x => un F2 x ∨ Wt x) →
                Cfg B G2 H2 σ (ρ2.set i (some d0)) (fun j x => (j = i ∧ F1 i x) ∨ (j ≠ i ∧ F2 j x)) ∧ Ext G1 H1 (un F1) G2 H2 (fun x => un (fun j x => (j = i ∧ F1 i x) ∨ (j ≠ i ∧ F2 j x)) x ∨ Wt x) ∧ (∀ b, F1 i b → ¬ Wt b) ∧ PathH H2 v0 (s :: p) v := fun {G2 H2 ρ2 F2 Wt} c2 x2 => by
              obtain ⟨r2, n2⟩ := r0.frame x2 apart
              refine ⟨c2.put i e0 r2 fun x hx j hj => (n2 x hx (.inl ⟨j, hj⟩)).elim, ⟨x2.gg, fun b o e w => x2.hh b o e fun ⟨j, hj⟩ => w ⟨j, hj.1⟩, fun b hb => ?_, fun b o e => ?_⟩, fun b hb w => n2 b hb (.inr w), ?_⟩
              · rcases hb with ⟨j, ⟨rfl, hj⟩ | ⟨_, hj⟩⟩ | hb
                · exact .inl ⟨_, hj⟩
                · exact (x2.ww b (.inl ⟨j, hj⟩)).imp (fun ⟨k, hk⟩ => ⟨k, hk.1⟩) id
                · exact (x2.ww b (.inr hb)).imp (fun ⟨k, hk⟩ => ⟨k, hk.1⟩) id
              · exact (x2.gn b o e).imp id fun z => z.imp (fun ⟨k, hk⟩ => ⟨k, hk.1⟩) id
              · refine hp.keep r0 hgp fun b hb => ?_
                obtain ⟨⟨o, eo⟩, _⟩ := r0.dom b hb
                rw [x2.hh b o eo (apart b hb), eo]
            cases hg : g (ρ1.set i none) with
            | none => rw [andThen_none (lockE_none hg)] at ek; cases ek
            | some u =>
              cases u with
              | exc er ρ' =>
                rw [andThen_exc (lockE_exc hc hs hg)] at ek
                cases ek
                refine ⟨G1, _, _, _, cd, hg, fun G' H' F' cls dx c' ex x' => ?_⟩
                obtain ⟨c3, x3, _, _⟩ := back (Wt := nof) c' (x'.mono (fun _ h => h) fun _ h => h.elim id False.elim)
                exact z G' H' _ cls dx c3 ex (x1'.trans (x3.mono (fun _ h => h) fun _ h => .inl h))
              | ok avs ρ2 =>
                rw [andThen_ok (lockE_ok hc hs hg)] at ek
                cases ek
                refine ⟨G1, _, _, _, cd, hg, fun vs G2 H2 F2 Wt c2 r2 n2 x2 => ?_⟩
                obtain ⟨c3, x3, n3, p3⟩ := back c2 x2
                refine z (v :: vs) G2 H2 _ (fun x => Wt x ∨ nof x) c3 (.cons ⟨⟨v0, e0, p3⟩, rfl⟩ (fun x h => .inr h) r2 (fun x h => .inl h) fun x h => h.elim) (fun x h => ?_) (fin x3)
                rcases h with h | h
                · rintro ⟨j, ⟨rfl, hj⟩ | ⟨_, hj⟩⟩
                  · exact n3 x hj h
                  · exact n2 x h ⟨j, hj⟩
                · exact h.elim
theorem tDL_nil {Q : List V → Hp → Prop} (h : tDL B W evNil σ H Q) : Q [] H := by
  obtain ⟨G, ρ, F, o, c, e, z⟩ := h
  cases e
  exact z [] G H F nof c .nil (fun _ h => h.elim) (.refl fun x h => h.elim id False.elim)
end
section
variable {ca : Nat → Addr} {X : Cx} {e : Expr} {es : List Expr} {f : Ev AV} {g : Ev (List AV)}
theorem da_nil : DA ca X [] evNil := fun W tk => PA.imp pa_nil fun σ H Q h => tDL_nil h
theorem da_cons (he : DE ca X e f) (hs : DA ca X es g) (hst : starEach (e :: es) X.env = (false, eval e X.env) :: starEach es X.env := by rfl) : DA ca X (e :: es) (evCons f g) :=
  fun W tk => PA.imp (pa_cons (he W tk) (hs W tk) hst) fun σ H Q h => tDL_cons h
/-- a plain value, nothing made -/
def evC (d : D) : Ev AV := .pure (.val d)
theorem de_const {v : V} {d : D} (h : PE X e (tC v)) (r : ∀ G H, Rep ⟨X.K, ca⟩ G H v d nof) : DE ca X e (evC d) := fun W tk => PE.imp h fun σ H Q q => by
  obtain ⟨G, ρ, F, o, c, e, z⟩ := q
  cases e
  exact z v G H F nof c (r G H) (fun _ h => h.elim) (.refl fun x h => h.elim id False.elim)
theorem de_int {i j pos} : DE ca X (.Constant (.int i) j pos) (evC (.int i)) := de_const pe_int fun _ _ => .int i
theorem de_bl {i j pos} : DE ca X (.Constant (.bool i) j pos) (evC (.bl i)) := de_const pe_bl fun _ _ => .bl i
theorem de_non {j pos} : DE ca X (.Constant .none j pos) (evC .non) := de_const pe_non fun _ _ => .non
theorem de_str {x j pos} : DE ca X (.Constant (.str x) j pos) (evC (.str x)) := de_const pe_str fun _ _ => .str x
/-- a name of the def -/
def evV (i : Nat) : Ev AV := fun ρ => match slotOf ρ i with
  | none => none
  | some d => if d.sh then some (.ok (.val d) ρ) else some (.ok (.pl i []) ρ)
theorem de_var {i : Nat} (h : PE X e (tVar i)) : DE ca X e (evV i) := fun W tk => PE.imp h fun σ H Q q => by
  obtain ⟨G, ρ, F, o, c, e, z⟩ := q
  unfold evV at e
  cases hs : slotOf ρ i with
  | none => rw [hs] at e; cases e
  | some d =>
    rw [hs] at e
    obtain ⟨v, e1, r⟩ := c.at hs
    refine ⟨v, e1, ?_⟩
    dsimp only at e
    split at e
    · rename_i hsh
      cases e
      have t := r.sh_nof hsh
      rw [t] at r
      exact z v G H F nof c r (fun _ h => h.elim) (.refl fun x h => h.elim id False.elim)
    · cases e
      exact z v G H F nof c ⟨⟨v, e1, rfl⟩, rfl⟩ (fun _ h => h.elim) (.refl fun x h => h.elim id False.elim)
end
end DL
namespace DL
open PySem PySem.Spec PyProof.Rows L2
def conts (ρ : DEnv) : List AV → Option (List D)
  | [] => some []
  | a :: as => match cont ρ a, conts ρ as with
    | some d, some ds => some (d :: ds)
    | _, _ => none
def evOp (g : List D → Option D) (fs : Ev (List AV)) : Ev AV := fs.andThen fun avs ρ => match conts ρ avs with
  | none => none
  | some ds => match g ds with
    | none => none
    | some d => some (.ok (.val d) ρ)
abbrev Reps (B : Bd) (G H : Hp) : List V → List D → Prop := Paired fun x d => ∃ T, Rep B G H x d T
/-- what is asked of an operation by contents: its answer may be new, nothing else is changed -/
def rDL (B : Bd) (g : List D → Option D) : List V → Hp → VK → Prop := fun xs H Q => ∃ G ds d, (∀ b o, G b = some o → H b = some o) ∧ Reps B G H xs ds ∧ g ds = some d ∧
  ∀ v G' H' T, (∀ b o, G' b = some o → H' b = some o) → Rep B G' H' v d T → Ext G H nof G' H' T → Q v H'
section
variable {B : Bd} {W : WX} {σ : L2.St} {H : Hp}
theorem reps_of {G H : Hp} {σ : L2.St} {ρ : DEnv} {F : Nat → FP} {Wt : FP} (c : Cfg B G H σ ρ F) : ∀ {vs : List V} {avs : List AV} {ds : List D}, RepAs B G H σ Wt vs avs → conts ρ avs = some ds → Reps B G H vs ds
  | _, _, _, .nil, e => by cases e; exact .nil
  | v :: vs, a :: as, ds, .cons (T := T) r _ t _ _, e => by
    unfold conts at e
    cases h1 : cont ρ a with
    | none => rw [h1] at e; cases e
    | some d =>
      cases h2 : conts ρ as with
      | none => rw [h1, h2] at e; cases e
      | some ds' =>
        rw [h1, h2] at e
        cases e
        obtain ⟨U, r', _⟩ := r.cont c h1
        exact .cons ⟨U, r'⟩ (reps_of c t h2)
/-- the list's step, then what follows it -/
theorem tDL_bind {β : Type} {f : Ev (List AV)} {k : List AV → Ev β} {G : Hp} {ρ : DEnv} {F : Nat → FP} {o : Out β} {Q : List V → Hp → Prop} (c : Cfg B G H σ ρ F) (e : f.andThen k ρ = some o)
    (hx : ∀ er ρ', o = .exc er ρ' → ∀ G' H' F' cls dx, Cfg B G' H' σ ρ' F' → ExcAt B G' cls dx er → Ext G H (un F) G' H' (un F') → W cls dx σ H')
    (hk : ∀ avs ρ1 vs G1 H1 F1 Wt, k avs ρ1 = some o → Cfg B G1 H1 σ ρ1 F1 → RepAs B G1 H1 σ Wt vs avs → (∀ x, Wt x → ¬ un F1 x) → Ext G H (un F) G1 H1 (fun x => un F1 x ∨ Wt x) → Q vs H1) : tDL B W f σ H Q := by
  unfold Ev.andThen at e
  cases hf : f ρ with
  | none => rw [hf] at e; cases e
  | some u =>
    rw [hf] at e
    cases u with
    | exc er ρ' => cases e; exact ⟨G, ρ, F, _, c, hf, fun G' H' F' cls dx c' x' y' => hx er ρ' rfl G' H' F' cls dx c' x' y'⟩
    | ok av ρ1 => exact ⟨G, ρ, F, _, c, hf, fun v G1 H1 F1 T c1 r n x => hk av ρ1 v G1 H1 F1 T e c1 r n x⟩
theorem Cfg.new {G H G' H' : Hp} {ρ : DEnv} {F : Nat → FP} {T : FP} (c : Cfg B G H σ ρ F) (x : Ext G H nof G' H' T) : ∀ y, T y → ¬ un F y := fun y t u => by
  obtain ⟨⟨o, e⟩, _⟩ := c.dom u
  rcases x.ww y t with z | z
  · exact z
  · rw [e] at z; cases z
/-- behind a step of this def something is made -/
theorem Ext.more {G H G1 H1 G2 H2 : Hp} {W W1 W2 : FP} (a : Ext G H W G1 H1 W1) (b : Ext G1 H1 nof G2 H2 W2) : Ext G H W G2 H2 (fun x => W1 x ∨ W2 x) :=
  a.trans ⟨b.gg, fun x o e _ => b.hh x o e id, fun x h => h.elim .inl fun h => (b.ww x h).elim False.elim .inr, fun x o e => (b.gn x o e).imp id fun z => z.elim False.elim .inr⟩
theorem tD_op {g : List D → Option D} {fs : Ev (List AV)} {Q : VK} (h : tD B W (evOp g fs) σ H Q) : tDL B W fs σ H fun vs H1 => rDL B g vs H1 Q := by
  obtain ⟨G, ρ, F, o, c, e, z⟩ := h
  refine tDL_bind c e (fun er ρ' eo => by subst eo; exact z) fun avs ρ1 vs G1 H1 F1 Wt ek c1 r1 n1 x1 => ?_
  cases h1 : conts ρ1 avs with
  | none => rw [h1] at ek; cases ek
  | some ds =>
    rw [h1] at ek
    dsimp only at ek
    cases h2 : g ds with
    | none => rw [h2] at ek; cases ek
    | some d =>
      rw [h2] at ek
      cases ek
      refine ⟨G1, ds, d, c1.sub, reps_of c1 r1 h1, h2, fun v G' H' T s r x => ?_⟩
      have x1' : Ext G H (un F) G1 H1 (un F1) := x1.mono (fun _ h => h) fun _ h => .inl h
      exact z v G' H' F1 T (c1.grow x s) r (c1.new x) (x1'.more x)
end
section
variable {ca : Nat → Addr} {X : Cx} {a b c : Expr} {fa fb fc : Ev AV} {pos : Pos}
abbrev ev1 (g : List D → Option D) (fa : Ev AV) : Ev AV := evOp g (evCons fa evNil)
abbrev ev2 (g : List D → Option D) (fa fb : Ev AV) : Ev AV := evOp g (evCons fa (evCons fb evNil))
theorem tD_op1 {B : Bd} {W : WX} {σ : L2.St} {H : Hp} {g : List D → Option D} {Q : VK} (h : tD B W (ev1 g fa) σ H Q) : tD B W fa σ H fun x H1 => rDL B g [x] H1 Q :=
  tD_map (tDL_cons (tD_op h)) fun _ _ q => tDL_nil q
theorem tD_op2 {B : Bd} {W : WX} {σ : L2.St} {H : Hp} {g : List D → Option D} {Q : VK} (h : tD B W (ev2 g fa fb) σ H Q) : tD B W fa σ H fun x H1 => tD B W fb σ H1 fun y H2 => rDL B g [x, y] H2 Q :=
  tD_map (tDL_cons (tD_op h)) fun _ _ q => tD_map (tDL_cons q) fun _ _ q => tDL_nil q
/-- g tells the operation -/
def Op2 (ca : Nat → Addr) (X : Cx) (f : Value → Value → Sem Value) (g : List D → Option D) : Prop := OpR X f fun x y H Q => rDL ⟨X.K, ca⟩ g [x, y] H Q
def Op1 (ca : Nat → Addr) (X : Cx) (f : Value → Sem Value) (g : List D → Option D) : Prop := UnR X f fun x H Q => rDL ⟨X.K, ca⟩ g [x] H Q
theorem de_bin {op : Operator} {g : List D → Option D} (ho : Op2 ca X (binaryOp op) g) (ha : DE ca X a fa) (hb : DE ca X b fb) : DE ca X (.BinOp a op b pos) (ev2 g fa fb) :=
  fun W tk => PE.imp (pe_op ho (ha W tk) (hb W tk)) fun σ H Q h => tD_op2 h
theorem de_un {op : UnaryOp} {g : List D → Option D} (ho : Op1 ca X (unaryOp op) g) (ha : DE ca X a fa) : DE ca X (.UnaryOp op a pos) (ev1 g fa) :=
  fun W tk => PE.imp (pe_un ho (ha W tk)) fun σ H Q h => tD_op1 h
theorem de_cmp {op : CmpOp} {g : List D → Option D} (ho : Op2 ca X (compareOp op) g) (ha : DE ca X a fa) (hb : DE ca X b fb) (hm : behindInMarks op b = false) : DE ca X (.Compare a [op] [b] pos) (ev2 g fa fb) :=
  fun W tk => PE.imp (pe_cmpR ho (ha W tk) (hb W tk) hm) fun σ H Q h => tD_op2 h
end
section
variable {B : Bd} {g : List D → Option D} {xs : List V} {H : Hp} {Q : VK} {G : Hp} {d : D}
/-- an answer that is nothing new -/
theorem rDL_end {v : V} (k : ∀ v G' H' T, (∀ b o, G' b = some o → H' b = some o) → Rep B G' H' v d T → Ext G H nof G' H' T → Q v H') (s : ∀ b o, G b = some o → H b = some o) (r : Rep B G H v d nof) : Q v H :=
  k v G H nof s r (.refl fun _ h => h)
/-- a new tuple, frozen -/
theorem ext_new {p : Addr} {o : HO} (hp : H p = none) (s : ∀ b o, G b = some o → H b = some o) : Ext G H nof (upd G p o) (upd H p o) nof := by
  have gp : G p = none := by
    cases q : G p with
    | none => rfl
    | some u => rw [s _ _ q] at hp; cases hp
  refine ⟨fun b u e => ?_, fun b u e _ => ?_, fun b h => h.elim, fun b u e => ?_⟩
  · rw [upd_ne (ne_of_none e gp)]; exact e
  · rw [upd_ne (ne_of_none e hp)]; exact e
  · by_cases h : b = p
    · subst h; exact .inr (.inr hp)
    · rw [upd_ne h] at e; exact .inl e
theorem sub_new {p : Addr} {o : HO} (hp : H p = none) (s : ∀ b o, G b = some o → H b = some o) : ∀ b u, upd G p o b = some u → upd H p o b = some u := fun b u e => by
  by_cases h : b = p
  · subst h; rw [upd_same] at e ⊢; exact e
  · rw [upd_ne h] at e ⊢; exact s b u e
/-- something new, not frozen -/
theorem ext_own {p : Addr} {o : HO} (hp : H p = none) : Ext G H nof G (upd H p o) (fun x => x = p) := by
  refine ⟨fun b u e => e, fun b u e _ => ?_, fun b h => .inr (by rw [show b = p from h]; exact hp), fun b u e => .inl e⟩
  rw [upd_ne (ne_of_none e hp)]; exact e
theorem sub_own {p : Addr} {o : HO} (hp : H p = none) (s : ∀ b o, G b = some o → H b = some o) : ∀ b u, G b = some u → upd H p o b = some u := fun b u e => by
  rw [upd_ne (ne_of_none (s b u e) hp)]; exact s b u e
/-- frozen parts stand for what they stood for -/
theorem Rep.up {v : V} (r : Rep B G H v d nof) {p : Addr} {o : HO} : Rep B G (upd H p o) v d nof := r.keep (fun _ _ e => e) fun _ h => h.elim
theorem Rep.any {H' : Hp} {v : V} (r : Rep B G H v d nof) : Rep B G H' v d nof := r.keep (fun _ _ e => e) fun _ h => h.elim
/-- a new list of frozen things, own -/
theorem rep_ol {p : Addr} {vs : List V} {ds : List D} (g : G p = none) (h : H p = some (.lst vs)) (l : vs.length = ds.length) (c : ∀ (i : Nat) v d, vs[i]? = some v → ds[i]? = some d → Rep B G H v d nof) : Rep B G H (.ref p) (.ol ds) (fun x => x = p) := by
  have r := Rep.ol (B := B) (F := fun _ => nof) h g l c (fun _ _ z => z.elim) (fun _ _ _ z => z.elim) (fun _ z => z)
  have e : (fun x => x = p ∨ ∃ i : Nat, nof x) = fun x => x = p := by
    funext x
    exact propext ⟨fun z => z.elim id fun ⟨_, z⟩ => z.elim, .inl⟩
  rw [e] at r
  exact r
theorem Reps.one {x : V} {ds : List D} {G H : Hp} (h : Reps B G H [x] ds) : ∃ d T, ds = [d] ∧ Rep B G H x d T := by
  cases h with
  | cons a t => cases t; obtain ⟨T, r⟩ := a; exact ⟨_, T, rfl, r⟩
theorem Reps.two {x y : V} {ds : List D} {G H : Hp} (h : Reps B G H [x, y] ds) : ∃ d T e U, ds = [d, e] ∧ Rep B G H x d T ∧ Rep B G H y e U := by
  cases h with
  | cons a t => cases t with
    | cons b t => cases t; obtain ⟨T, r⟩ := a; obtain ⟨U, q⟩ := b; exact ⟨_, T, _, U, rfl, r, q⟩
end
/-- items of a list (own, frozen), of a tuple -/
def seqD : D → Option (List D)
  | .lst xs => some xs | .frl xs => some xs | .ol xs => some xs | .tup xs => some xs
  | _ => none
def lstD : D → Option (List D)
  | .lst xs => some xs | .ol xs => some xs
  | _ => none
section
variable {B : Bd} {G H : Hp} {v : V} {d : D} {T : FP}
theorem Rep.seq (r : Rep B G H v d T) (s : ∀ b o, G b = some o → H b = some o) {ds : List D} (h : seqD d = some ds) : ∃ a vs, v = .ref a ∧ (SqL B.K H a vs ∨ SqT B.K H a vs) ∧ vs.length = ds.length ∧
    ∀ (i : Nat) v d, vs[i]? = some v → ds[i]? = some d → ∃ U, Rep B G H v d U := by
  cases r with
  | lst h' l c => cases h; exact ⟨_, _, rfl, .inl (.of (s _ _ h')), l, fun i v d e1 e2 => ⟨_, c i v d e1 e2⟩⟩
  | frl h' l c => cases h; exact ⟨_, _, rfl, .inl (sqL_mono h' s), l, fun i v d e1 e2 => ⟨_, c i v d e1 e2⟩⟩
  | tup h' l c => cases h; exact ⟨_, _, rfl, .inr (sqT_mono h' s), l, fun i v d e1 e2 => ⟨_, c i v d e1 e2⟩⟩
  | ol h' g l c bd dj na => cases h; exact ⟨_, _, rfl, .inl (.of h'), l, fun i v d e1 e2 => ⟨_, c i v d e1 e2⟩⟩
  | _ => cases h
theorem Rep.lst_of (r : Rep B G H v d T) (s : ∀ b o, G b = some o → H b = some o) {ds : List D} (h : lstD d = some ds) : ∃ a vs, v = .ref a ∧ H a = some (.lst vs) ∧ vs.length = ds.length ∧
    ∀ (i : Nat) v d, vs[i]? = some v → ds[i]? = some d → ∃ U, Rep B G H v d U := by
  cases r with
  | lst h' l c => cases h; exact ⟨_, _, rfl, s _ _ h', l, fun i v d e1 e2 => ⟨_, c i v d e1 e2⟩⟩
  | ol h' g l c bd dj na => cases h; exact ⟨_, _, rfl, h', l, fun i v d e1 e2 => ⟨_, c i v d e1 e2⟩⟩
  | _ => cases h
theorem rep_sh {U : FP} (r : Rep B G H v d U) (h : d.sh = true) : Rep B G H v d nof := by
  have := r.sh_nof h
  rw [← this]; exact r
end
def allSh (ds : List D) : Bool := ds.all D.sh
theorem allSh_get {ds : List D} (h : allSh ds = true) {i : Nat} {d : D} (e : ds[i]? = some d) : d.sh = true := List.all_eq_true.mp h d (List.mem_of_getElem? e)
def lg (i : Int) : Nat := i.natAbs.log2
def gAdd : List D → Option D
  | [.int i, .int j] => some (.int (i + j))
  | [.str a, .str b] => if a.length + b.length ≤ 16777216 then some (.str (a ++ b)) else none
  | [x, y] => match lstD x, lstD y with
    | some xs, some ys => if allSh xs = true ∧ allSh ys = true ∧ xs.length + ys.length ≤ 16777216 then some (.ol (xs ++ ys)) else none
    | _, _ => none
  | _ => none
def gSub : List D → Option D
  | [.int i, .int j] => some (.int (i - j))
  | _ => none
def gMul : List D → Option D
  | [.int i, .int j] => if lg i + lg j < 1000000 then some (.int (i * j)) else none
  | [x, .int k] => match lstD x with
    | some xs => if allSh xs = true ∧ k < 2 ^ 63 ∧ -(2 ^ 63) ≤ k ∧ xs.length * k.toNat ≤ 16777216 then some (.ol (List.replicate k.toNat xs).flatten) else none
    | none => none
  | _ => none
def gDiv : List D → Option D
  | [.int i, .int j] => if j ≠ 0 ∧ lg j < 9000 then some (.int (i.fdiv j)) else none
  | _ => none
def gMod : List D → Option D
  | [.int i, .int j] => if j ≠ 0 then some (.int (i.fmod j)) else none
  | _ => none
def gPow : List D → Option D
  | [.int i, .int j] => if 0 ≤ j ∧ (Builtin.Int.intBits i : Int) * j ≤ 2 ^ 27 then some (.int (i ^ j.toNat)) else none
  | _ => none
def gNeg : List D → Option D
  | [.int i] => some (.int (-i))
  | _ => none
section
variable {ca : Nat → Addr} {X : Cx}
/-- ints by a rule -/
theorem op2_int {f : Value → Value → Sem Value} {g : List D → Option D} {C : Int → Int → Prop} {k : Int → Int → D} (kv : Int → Int → V) (hk : ∀ B G H i j, Rep B G H (kv i j) (k i j) nof) (ho : OpR X f (rI C kv)) (hg : ∀ ds d, g ds = some d → ∃ i j, ds = [.int i, .int j] ∧ C i j ∧ d = k i j) : Op2 ca X f g := by
  intro pins s σ H x y v u Q I rx ry h
  obtain ⟨G, ds, d, sub, rs, e, q⟩ := h
  obtain ⟨i, j, rfl, hc, rfl⟩ := hg _ _ e
  obtain ⟨d1, T1, e1, U1, ed, r1, r2⟩ := rs.two
  cases ed
  cases r1; cases r2
  exact ho pins s σ H _ _ v u Q I rx ry ⟨i, j, rfl, rfl, hc, rDL_end q sub (hk _ _ _ _ _)⟩
theorem op2_int0 {f : Value → Value → Sem Value} {g : List D → Option D} {k : Int → Int → D} (kv : Int → Int → V) (hk : ∀ B G H i j, Rep B G H (kv i j) (k i j) nof) (ho : OpR X f (rI0 kv)) (hg : ∀ ds d, g ds = some d → ∃ i j, ds = [.int i, .int j] ∧ d = k i j) : Op2 ca X f g :=
  op2_int (C := fun _ _ => True) kv hk (fun pins s σ H x y v u Q I rx ry ⟨i, j, e1, e2, _, q⟩ => ho pins s σ H x y v u Q I rx ry ⟨i, j, e1, e2, q⟩) fun ds d e => by
    obtain ⟨i, j, e1, e2⟩ := hg ds d e
    exact ⟨i, j, e1, trivial, e2⟩
theorem opD_sub : Op2 ca X (binaryOp .Sub) gSub := op2_int0 (fun i j => .int (i - j)) (fun _ _ _ _ _ => .int _) op_sub fun ds d e => by
  unfold gSub at e
  split at e
  · cases e; exact ⟨_, _, rfl, rfl⟩
  · cases e
theorem op_powA : OpR X (binaryOp .Pow) (rI (fun i j => 0 ≤ j ∧ (Builtin.Int.intBits i : Int) * j ≤ 2 ^ 27) fun i j => .int (i ^ j.toNat)) := opI fun _ _ _ _ _ _ _ hc q => pow_int hc.1 hc.2 q
theorem opD_mod : Op2 ca X (binaryOp .Mod) gMod := op2_int (fun i j => .int (i.fmod j)) (fun _ _ _ _ _ => .int _) op_modN fun ds d e => by
  unfold gMod at e
  split at e
  · split at e
    · rename_i h; cases e; exact ⟨_, _, rfl, h, rfl⟩
    · cases e
  · cases e
theorem opD_pow : Op2 ca X (binaryOp .Pow) gPow := op2_int (fun i j => .int (i ^ j.toNat)) (fun _ _ _ _ _ => .int _) op_powA fun ds d e => by
  unfold gPow at e
  split at e
  · split at e
    · rename_i h; cases e; exact ⟨_, _, rfl, h, rfl⟩
    · cases e
  · cases e
theorem opD_neg : Op1 ca X (unaryOp .USub) gNeg := by
  intro pins s σ H x v Q I rx h
  obtain ⟨G, ds, d, sub, rs, e, q⟩ := h
  obtain ⟨d1, T1, rfl, r1⟩ := rs.one
  unfold gNeg at e
  split at e
  · rename_i i heq
    cases heq
    cases e
    cases r1
    exact un_neg pins s σ H _ v Q I rx ⟨i, rfl, rDL_end q sub (.int _)⟩
  · cases e
/-- a list's items, put one behind the other -/
theorem get_append {α : Type} {xs ys : List α} {i : Nat} {z : α} (h : (xs ++ ys)[i]? = some z) : (i < xs.length ∧ xs[i]? = some z) ∨ (xs.length ≤ i ∧ ys[i - xs.length]? = some z) := by
  by_cases hi : i < xs.length
  · rw [List.getElem?_append_left hi] at h; exact .inl ⟨hi, h⟩
  · rw [List.getElem?_append_right (by omega)] at h; exact .inr ⟨by omega, h⟩
theorem opD_add : Op2 ca X (binaryOp .Add) gAdd := by
  intro pins s σ H x y v u Q I rx ry h
  obtain ⟨G, ds, d, sub, rs, e, q⟩ := h
  obtain ⟨d1, T1, d2, T2, rfl, r1, r2⟩ := rs.two
  unfold gAdd at e
  split at e
  · rename_i i j heq
    cases heq; cases e; cases r1; cases r2
    exact op_add pins s σ H _ _ v u Q I rx ry ⟨i, j, rfl, rfl, rDL_end q sub (.int _)⟩
  · rename_i i j heq
    cases heq; cases r1; cases r2
    split at e
    · rename_i hz
      cases e
      exact op_add_str pins s σ H _ _ v u Q I rx ry ⟨i, j, rfl, rfl, by rw [sizeLine_eq]; exact hz, rDL_end q sub (.str _)⟩
    · cases e
  · rename_i x' y' _ _ heq
    cases heq
    split at e
    · rename_i xs ys h1 h2
      split at e
      · rename_i hz
        obtain ⟨s1, s2, hz⟩ := hz
        cases e
        obtain ⟨a1, vs1, rfl, k1, l1, c1⟩ := r1.lst_of sub h1
        obtain ⟨a2, vs2, rfl, k2, l2, c2⟩ := r2.lst_of sub h2
        refine op_cat pins s σ H _ _ v u Q I rx ry ⟨a1, a2, vs1, vs2, rfl, rfl, k1, k2, by rw [sizeLine_eq]; omega, fun p hp => ?_⟩
        have gp : G p = none := by
          cases z : G p with
          | none => rfl
          | some o => rw [sub _ _ z] at hp; cases hp
        refine q _ G _ _ (sub_own hp sub) (rep_ol (vs := vs1 ++ vs2) gp upd_same (by simp [l1, l2]) fun i v d e1 e2 => ?_) (ext_own hp)
        rcases get_append e1 with ⟨hi, e1⟩ | ⟨hi, e1⟩
        · rw [List.getElem?_append_left (by omega)] at e2
          obtain ⟨U, r⟩ := c1 i v d e1 e2
          exact (rep_sh r (allSh_get s1 e2)).up
        · rw [List.getElem?_append_right (by omega), ← l1] at e2
          obtain ⟨U, r⟩ := c2 _ v d e1 e2
          exact (rep_sh r (allSh_get s2 e2)).up
      · cases e
    · cases e
  · cases e
theorem rep_pair {P : V → D → Prop} {vs : List V} {ds : List D} (l : vs.length = ds.length) (c : ∀ (i : Nat) v d, vs[i]? = some v → ds[i]? = some d → P v d) :
    ∀ (n i : Nat) v d, (List.replicate n vs).flatten[i]? = some v → (List.replicate n ds).flatten[i]? = some d → P v d
  | 0, i, v, d, h, _ => by simp at h
  | n + 1, i, v, d, h, h' => by
    rw [List.replicate_succ, List.flatten_cons] at h h'
    rcases get_append h with ⟨hi, e⟩ | ⟨hi, e⟩
    · rw [List.getElem?_append_left (by omega)] at h'
      exact c i v d e h'
    · rw [List.getElem?_append_right (by omega), ← l] at h'
      exact rep_pair l c n _ v d e h'
theorem opD_mul : Op2 ca X (binaryOp .Mult) gMul := by
  intro pins s σ H x y v u Q I rx ry h
  obtain ⟨G, ds, d, sub, rs, e, q⟩ := h
  obtain ⟨d1, T1, d2, T2, rfl, r1, r2⟩ := rs.two
  unfold gMul at e
  split at e
  · rename_i i j heq
    cases heq; cases r1; cases r2
    split at e
    · rename_i hc
      cases e
      exact op_mulW pins s σ H _ _ v u Q I rx ry ⟨i, j, rfl, rfl, hc, rDL_end q sub (.int _)⟩
    · cases e
  · rename_i x' k _ heq
    cases heq
    split at e
    · rename_i xs h1
      split at e
      · rename_i hz
        obtain ⟨s1, k2, k1, hz⟩ := hz
        cases e
        cases r2
        obtain ⟨a1, vs1, rfl, ha, l1, c1⟩ := r1.lst_of sub h1
        refine op_rep pins s σ H _ _ v u Q I rx ry ⟨a1, k, vs1, rfl, rfl, ha, k1, k2, by rw [sizeLine_eq, l1]; omega, fun p hp => ?_⟩
        have gp : G p = none := by
          cases z : G p with
          | none => rfl
          | some o => rw [sub _ _ z] at hp; cases hp
        refine q _ G _ _ (sub_own hp sub) (rep_ol gp upd_same (by simp [l1]) fun i v d e1 e2 => ?_) (ext_own hp)
        have fin := rep_pair (P := fun v d => ∃ U, Rep ⟨X.K, ca⟩ G H v d U) l1 c1 _ i v d e1 e2
        obtain ⟨U, r⟩ := fin
        have hs : d.sh = true := by
          have hm := List.mem_of_getElem? e2
          obtain ⟨l, hl, hd⟩ := List.mem_flatten.mp hm
          rw [List.eq_of_mem_replicate hl] at hd
          exact List.all_eq_true.mp s1 d hd
        exact (rep_sh r hs).up
      · cases e
    · cases e
  · cases e
end
end DL
namespace DL
open PySem PySem.Spec PyProof.Rows L2
def eqS : D → D → Option Bool
  | .non, .non => some true
  | .int i, .int j => some (decide (i = j))
  | .bl a, .bl b => some (decide (a = b))
  | .str a, .str b => some (decide (a = b))
  | .non, .int _ => some false | .int _, .non => some false | .non, .bl _ => some false | .bl _, .non => some false
  | .non, .str _ => some false | .str _, .non => some false | .int _, .str _ => some false | .str _, .int _ => some false
  | .bl _, .str _ => some false | .str _, .bl _ => some false
  | _, _ => none
mutual
def pyd : D → Option PyData
  | .non => some .none
  | .bl b => some (.bool b)
  | .int i => some (.int i)
  | .str x => some (.str x)
  | .tup xs => match pydL xs with | some ys => some (.tuple ys) | none => none
  | .lst xs => match pydL xs with | some ys => some (.list ys) | none => none
  | .frl xs => match pydL xs with | some ys => some (.list ys) | none => none
  | .ol xs => match pydL xs with | some ys => some (.list ys) | none => none
  | _ => none
def pydL : List D → Option (List PyData)
  | [] => some []
  | d :: ds => match pyd d, pydL ds with
    | some y, some ys => some (y :: ys)
    | _, _ => none
end
def eqD (x y : D) : Option Bool := match eqS x y with
  | some b => some b
  | none => match pyd x, pyd y with
    | some p, some q => if SeqAt.shaped p = true ∧ SeqAt.shaped q = true then some (PyData.eqv p q) else none
    | _, _ => none
def gEq : List D → Option D
  | [x, y] => (eqD x y).map .bl
  | _ => none
def gNe : List D → Option D
  | [x, y] => (eqD x y).map fun b => .bl (!b)
  | _ => none
section
variable {B : Bd} {G H : Hp} {v : V} {d : D} {T : FP}
theorem dpAll_of {K : PySem.W.Frag} {vs : List V} : ∀ {ds : List D} {ps : List PyData}, vs.length = ds.length → pydL ds = some ps → (∀ (i : Nat) v d p, vs[i]? = some v → ds[i]? = some d → pyd d = some p → Dp K H v p) → DpAll K H vs ps := by
  induction vs with
  | nil =>
    intro ds ps l e c
    cases ds with
    | nil => cases e; exact .nil
    | cons d ds => cases l
  | cons v vs ih =>
    intro ds ps l e c
    cases ds with
    | nil => cases l
    | cons d ds =>
      unfold pydL at e
      cases h1 : pyd d with
      | none => rw [h1] at e; cases e
      | some p =>
        cases h2 : pydL ds with
        | none => rw [h1, h2] at e; cases e
        | some qs =>
          rw [h1, h2] at e
          cases e
          exact .cons (c 0 v d p rfl rfl h1) (ih (by simpa using l) h2 fun i v d p e1 e2 => c (i + 1) v d p (by simpa using e1) (by simpa using e2))
theorem Rep.dp (r : Rep B G H v d T) (s : ∀ b o, G b = some o → H b = some o) : ∀ {p : PyData}, pyd d = some p → Dp B.K H v p := by
  induction r with
  | non => intro p e; cases e; exact .non
  | bl b => intro p e; cases e; exact .bl b
  | int b => intro p e; cases e; exact .int b
  | str b => intro p e; cases e; exact .str b
  | tup h l c ih =>
    intro p e
    unfold pyd at e
    split at e
    · rename_i ys h1; cases e; exact .tup (sqT_mono h s) (dpAll_of l h1 fun i v d p e1 e2 e3 => ih i v d e1 e2 e3)
    · cases e
  | lst h l c ih =>
    intro p e
    unfold pyd at e
    split at e
    · rename_i ys h1; cases e; exact .lst (.of (s _ _ h)) (dpAll_of l h1 fun i v d p e1 e2 e3 => ih i v d e1 e2 e3)
    · cases e
  | frl h l c ih =>
    intro p e
    unfold pyd at e
    split at e
    · rename_i ys h1; cases e; exact .lst (sqL_mono h s) (dpAll_of l h1 fun i v d p e1 e2 e3 => ih i v d e1 e2 e3)
    · cases e
  | ol h g l c bd dj na ih =>
    intro p e
    unfold pyd at e
    split at e
    · rename_i ys h1; cases e; exact .lst (.of h) (dpAll_of l h1 fun i v d p e1 e2 e3 => ih i v d e1 e2 e3)
    · cases e
  | _ => intro p e; cases e
theorem eqS_rep {x y : V} {d1 d2 : D} {T1 T2 : FP} {b : Bool} (r1 : Rep B G H x d1 T1) (r2 : Rep B G H y d2 T2) (e : eqS d1 d2 = some b) : scal x y = true ∧ decide (x = y) = b ∨ (x = .non ∧ y = .non ∧ b = true) := by
  cases r1 <;> cases r2 <;> first | (cases e; done) | (cases e; simp [scal])
end
section
variable {ca : Nat → Addr} {X : Cx}
theorem opD_eq (hu : X.A.units + 64 < cLine) : Op2 ca X (compareOp .Eq) gEq := by
  intro pins s σ H x y v u Q I rx ry h
  obtain ⟨G, ds, d, sub, rs, e, q⟩ := h
  obtain ⟨d1, T1, d2, T2, rfl, r1, r2⟩ := rs.two
  unfold gEq at e
  dsimp only at e
  obtain ⟨b, e1, rfl⟩ := Option.map_eq_some_iff.mp e
  unfold eqD at e1
  split at e1
  · rename_i b' h1
    cases e1
    rcases eqS_rep r1 r2 h1 with ⟨k1, k2⟩ | ⟨rfl, rfl, rfl⟩
    · exact op_eq pins s σ H _ _ v u Q I rx ry ⟨k1, by rw [k2]; exact rDL_end q sub (.bl _)⟩
    · exact op_eq pins s σ H _ _ v u Q I rx ry ⟨rfl, rDL_end q sub (.bl _)⟩
  · split at e1
    · rename_i p1 p2 h1 h2
      split at e1
      · rename_i hz
        cases e1
        exact op_eqD hu pins s σ H _ _ v u Q I rx ry ⟨p1, p2, r1.dp sub h1, r2.dp sub h2, hz.1, hz.2, rDL_end q sub (.bl _)⟩
      · cases e1
    · cases e1
theorem opD_ne (hu : X.A.units + 64 < cLine) : Op2 ca X (compareOp .NotEq) gNe := by
  intro pins s σ H x y v u Q I rx ry h
  obtain ⟨G, ds, d, sub, rs, e, q⟩ := h
  obtain ⟨d1, T1, d2, T2, rfl, r1, r2⟩ := rs.two
  unfold gNe at e
  dsimp only at e
  obtain ⟨b, e1, rfl⟩ := Option.map_eq_some_iff.mp e
  unfold eqD at e1
  split at e1
  · rename_i b' h1
    cases e1
    rcases eqS_rep r1 r2 h1 with ⟨k1, k2⟩ | ⟨rfl, rfl, rfl⟩
    · exact op_ne pins s σ H _ _ v u Q I rx ry ⟨k1, by rw [k2]; exact rDL_end q sub (.bl _)⟩
    · exact op_ne pins s σ H _ _ v u Q I rx ry ⟨rfl, rDL_end q sub (.bl _)⟩
  · split at e1
    · rename_i p1 p2 h1 h2
      split at e1
      · rename_i hz
        cases e1
        exact op_neD hu pins s σ H _ _ v u Q I rx ry ⟨p1, p2, r1.dp sub h1, r2.dp sub h2, hz.1, hz.2, rDL_end q sub (.bl _)⟩
      · cases e1
    · cases e1
def sLt (a b : Str) : Bool := decide (a.cps.toList < b.cps.toList)
def gLt : List D → Option D
  | [.int i, .int j] => some (.bl (decide (i < j)))
  | [.str i, .str j] => some (.bl (sLt i j))
  | _ => none
def gLe : List D → Option D
  | [.int i, .int j] => some (.bl (decide (i ≤ j)))
  | [.str i, .str j] => some (.bl (!sLt j i))
  | _ => none
def gGt : List D → Option D
  | [.int i, .int j] => some (.bl (decide (j < i)))
  | [.str i, .str j] => some (.bl (sLt j i))
  | _ => none
def gGe : List D → Option D
  | [.int i, .int j] => some (.bl (decide (j ≤ i)))
  | [.str i, .str j] => some (.bl (!sLt i j))
  | _ => none
theorem op2_is {f : Value → Value → Sem Value} {g : List D → Option D} {ki : Int → Int → Bool} {ks : Str → Str → Bool} (hi : OpR X f (rI0 fun i j => .bl (ki i j))) (hs : OpR X f (fun x y H Q => ∃ i j, x = .str i ∧ y = .str j ∧ Q (.bl (ks i j)) H))
    (hg : ∀ ds d, g ds = some d → (∃ i j, ds = [.int i, .int j] ∧ d = .bl (ki i j)) ∨ ∃ i j, ds = [.str i, .str j] ∧ d = .bl (ks i j)) : Op2 ca X f g := by
  intro pins s σ H x y v u Q I rx ry h
  obtain ⟨G, ds, d, sub, rs, e, q⟩ := h
  obtain ⟨d1, T1, d2, T2, rfl, r1, r2⟩ := rs.two
  rcases hg _ _ e with ⟨i, j, e1, rfl⟩ | ⟨i, j, e1, rfl⟩
  · cases e1; cases r1; cases r2
    exact hi pins s σ H _ _ v u Q I rx ry ⟨i, j, rfl, rfl, rDL_end q sub (.bl _)⟩
  · cases e1; cases r1; cases r2
    exact hs pins s σ H _ _ v u Q I rx ry ⟨i, j, rfl, rfl, rDL_end q sub (.bl _)⟩
theorem opD_lt : Op2 ca X (compareOp .Lt) gLt := op2_is op_lt op_lt_str fun ds d e => by
  unfold gLt at e
  split at e
  · cases e; exact .inl ⟨_, _, rfl, rfl⟩
  · cases e; exact .inr ⟨_, _, rfl, rfl⟩
  · cases e
theorem opD_gt : Op2 ca X (compareOp .Gt) gGt := op2_is op_gt op_gt_str fun ds d e => by
  unfold gGt at e
  split at e
  · cases e; exact .inl ⟨_, _, rfl, rfl⟩
  · cases e; exact .inr ⟨_, _, rfl, rfl⟩
  · cases e
theorem opD_ge : Op2 ca X (compareOp .GtE) gGe := op2_is op_ge op_ge_str fun ds d e => by
  unfold gGe at e
  split at e
  · cases e; exact .inl ⟨_, _, rfl, rfl⟩
  · cases e; exact .inr ⟨_, _, rfl, rfl⟩
  · cases e
def isNon : D → Bool
  | .non => true
  | _ => false
def gIsN : List D → Option D
  | [x, .non] => some (.bl (isNon x))
  | _ => none
def gNotN : List D → Option D
  | [x, .non] => some (.bl (!isNon x))
  | _ => none
theorem rep_isNon {B : Bd} {G H : Hp} {v : V} {d : D} {T : FP} (r : Rep B G H v d T) : decide (v = .non) = isNon d := by cases r <;> rfl
theorem opD_isN : Op2 ca X (compareOp .Is) gIsN := by
  intro pins s σ H x y v u Q I rx ry h
  obtain ⟨G, ds, d, sub, rs, e, q⟩ := h
  obtain ⟨d1, T1, d2, T2, rfl, r1, r2⟩ := rs.two
  unfold gIsN at e
  split at e
  · rename_i heq; cases heq; cases e; cases r2
    exact op_isN pins s σ H _ _ v u Q I rx ry ⟨rfl, by rw [rep_isNon r1]; exact rDL_end q sub (.bl _)⟩
  · cases e
theorem opD_notN : Op2 ca X (compareOp .IsNot) gNotN := by
  intro pins s σ H x y v u Q I rx ry h
  obtain ⟨G, ds, d, sub, rs, e, q⟩ := h
  obtain ⟨d1, T1, d2, T2, rfl, r1, r2⟩ := rs.two
  unfold gNotN at e
  split at e
  · rename_i heq; cases heq; cases e; cases r2
    exact op_notN pins s σ H _ _ v u Q I rx ry ⟨rfl, by rw [rep_isNon r1]; exact rDL_end q sub (.bl _)⟩
  · cases e
end
def endT (B : Bd) (W : WX) (σ : L2.St) (G H : Hp) (W0 : FP) (Q : Bool → Hp → Prop) : Out Bool → Prop
  | .ok b ρ' => ∀ G' H' F', Cfg B G' H' σ ρ' F' → Ext G H W0 G' H' (un F') → Q b H'
  | .exc e ρ' => ∀ G' H' F' cls dx, Cfg B G' H' σ ρ' F' → ExcAt B G' cls dx e → Ext G H W0 G' H' (un F') → W cls dx σ H'
def tDT (B : Bd) (W : WX) (f : Ev Bool) : TT := fun σ H Q => ∃ G ρ F o, Cfg B G H σ ρ F ∧ f ρ = some o ∧ endT B W σ G H (un F) Q o
def DT (ca : Nat → Addr) (X : Cx) (e : Expr) (f : Ev Bool) : Prop := ∀ W, Takes X W → PT X e (tDT ⟨X.K, ca⟩ W f)
/-- as DT, within and, or -/
def DW (ca : Nat → Addr) (X : Cx) (e : Expr) (f : Ev Bool) : Prop := ∀ W, Takes X W → PW X e (tDT ⟨X.K, ca⟩ W f)
theorem PT.imp {X : Cx} {e : Expr} {t u : TT} (h : PT X e t) (k : ∀ (σ : L2.St) (H : Hp) (Q : Bool → Hp → Prop), u σ H Q → t σ H Q) : PT X e u := ⟨fun pins s σ H Q I q => h.run pins s σ H Q I (k σ H Q q)⟩
theorem PW.imp {X : Cx} {e : Expr} {t u : TT} (h : PW X e t) (k : ∀ (σ : L2.St) (H : Hp) (Q : Bool → Hp → Prop), u σ H Q → t σ H Q) : PW X e u := ⟨fun w pins s σ H Q I q => h.run w pins s σ H Q I (k σ H Q q)⟩
def boolOf : AV → Option Bool
  | .val (.bl b) => some b
  | _ => none
def evT (f : Ev AV) : Ev Bool := f.andThen fun a ρ => match boolOf a with
  | some b => some (.ok b ρ)
  | none => none
/-- truth of a value -/
def truD : D → Option Bool
  | .non => some false
  | .bl b => some b
  | .int i => some (i != 0)
  | .str x => if x.length ≤ 16777216 then some ((x.length : Int) != 0) else none
  | .tup xs => some (!xs.isEmpty)
  | .lst xs => some (!xs.isEmpty)
  | .frl xs => some (!xs.isEmpty)
  | .ol xs => some (!xs.isEmpty)
  | _ => none
def evTr (f : Ev AV) : Ev Bool := f.andThen fun a ρ => match cont ρ a with
  | none => none
  | some d => match truD d with
    | some b => some (.ok b ρ)
    | none => none
section
variable {B : Bd} {W : WX} {σ : L2.St} {H : Hp}
theorem tDT_val {f : Ev AV} {Q : Bool → Hp → Prop} (h : tDT B W (evT f) σ H Q) : tD B W f σ H fun x H' => ∃ k, x = .bl k ∧ Q k H' := by
  obtain ⟨G, ρ, F, o, c, e, z⟩ := h
  refine tD_bind c e (fun er ρ' eo => by subst eo; exact z) fun av ρ1 v G1 H1 F1 T ek c1 r1 n1 x1 => ?_
  cases hb : boolOf av with
  | none => rw [hb] at ek; cases ek
  | some b =>
    rw [hb] at ek
    cases ek
    have hav : av = .val (.bl b) := by
      unfold boolOf at hb
      split at hb
      · cases hb; rfl
      · cases hb
    subst hav
    have r2 : Rep B G1 H1 v (.bl b) T := r1
    cases r2
    exact ⟨b, rfl, z G1 H1 F1 c1 (x1.mono (fun _ h => h) fun _ h => .inl h)⟩
theorem tru_rep {G : Hp} {v : V} {d : D} {T : FP} {b : Bool} (r : Rep B G H v d T) (s : ∀ b o, G b = some o → H b = some o) (e : truD d = some b) : TruV B.K v H b := by
  have emp : ∀ {vs : List V} {ds : List D}, vs.length = ds.length → (!vs.isEmpty) = !ds.isEmpty := fun {vs ds} l => by
    cases vs <;> cases ds <;> first | rfl | cases l
  cases r with
  | non => cases e; rfl
  | bl b => cases e; rfl
  | int i => cases e; rfl
  | str x =>
    unfold truD at e
    dsimp only at e
    split at e
    · cases e; exact ⟨by rw [sizeLine_eq]; assumption, rfl⟩
    · cases e
  | tup h l c => cases e; exact .inr (.inl ⟨_, sqT_mono h s, (emp l).symm⟩)
  | lst h l c => cases e; exact .inl ⟨_, .of (s _ _ h), (emp l).symm⟩
  | frl h l c => cases e; exact .inl ⟨_, sqL_mono h s, (emp l).symm⟩
  | ol h g l c bd dj na => cases e; exact .inl ⟨_, .of h, (emp l).symm⟩
  | _ => cases e
theorem tDT_tru {f : Ev AV} {Q : Bool → Hp → Prop} (h : tDT B W (evTr f) σ H Q) : tD B W f σ H fun x H' => ∃ k, TruV B.K x H' k ∧ Q k H' := by
  obtain ⟨G, ρ, F, o, c, e, z⟩ := h
  refine tD_bind c e (fun er ρ' eo => by subst eo; exact z) fun av ρ1 v G1 H1 F1 T ek c1 r1 n1 x1 => ?_
  cases hb : cont ρ1 av with
  | none => rw [hb] at ek; cases ek
  | some d =>
    rw [hb] at ek
    dsimp only at ek
    cases ht : truD d with
    | none => rw [ht] at ek; cases ek
    | some b =>
      rw [ht] at ek
      cases ek
      obtain ⟨U, r, _⟩ := r1.cont c1 hb
      exact ⟨b, tru_rep r c1.sub ht, z G1 H1 F1 c1 (x1.mono (fun _ h => h) fun _ h => .inl h)⟩
/-- a test, then what follows -/
theorem tDT_bind {β : Type} {f : Ev Bool} {k : Bool → Ev β} {G : Hp} {ρ : DEnv} {F : Nat → FP} {o : Out β} {Q : Bool → Hp → Prop} (c : Cfg B G H σ ρ F) (e : f.andThen k ρ = some o)
    (hx : ∀ er ρ', o = .exc er ρ' → ∀ G' H' F' cls dx, Cfg B G' H' σ ρ' F' → ExcAt B G' cls dx er → Ext G H (un F) G' H' (un F') → W cls dx σ H')
    (hk : ∀ b ρ1 G1 H1 F1, k b ρ1 = some o → Cfg B G1 H1 σ ρ1 F1 → Ext G H (un F) G1 H1 (un F1) → Q b H1) : tDT B W f σ H Q := by
  unfold Ev.andThen at e
  cases hf : f ρ with
  | none => rw [hf] at e; cases e
  | some u =>
    rw [hf] at e
    cases u with
    | exc er ρ' => cases e; exact ⟨G, ρ, F, _, c, hf, fun G' H' F' cls dx c' x' y' => hx er ρ' rfl G' H' F' cls dx c' x' y'⟩
    | ok b ρ1 => exact ⟨G, ρ, F, _, c, hf, fun G1 H1 F1 c1 x => hk b ρ1 G1 H1 F1 e c1 x⟩
theorem endE_trans {G G1 H1 : Hp} {W0 W1 : FP} {Q : VK} {o : Out AV} (z : endE B W σ G H W0 Q o) (x : Ext G H W0 G1 H1 W1) : endE B W σ G1 H1 W1 Q o := by
  cases o with
  | ok av ρ' => exact fun v G' H' F' T c r n x' => z v G' H' F' T c r n (x.trans x')
  | exc e ρ' => exact fun G' H' F' cls dx c r x' => z G' H' F' cls dx c r (x.trans x')
theorem endT_trans {G G1 H1 : Hp} {W0 W1 : FP} {Q : Bool → Hp → Prop} {o : Out Bool} (z : endT B W σ G H W0 Q o) (x : Ext G H W0 G1 H1 W1) : endT B W σ G1 H1 W1 Q o := by
  cases o with
  | ok av ρ' => exact fun G' H' F' c x' => z G' H' F' c (x.trans x')
  | exc e ρ' => exact fun G' H' F' cls dx c r x' => z G' H' F' cls dx c r (x.trans x')
end
def evAnd (f g : Ev Bool) : Ev Bool := f.andThen fun b => if b = true then g else .pure false
def evOr (f g : Ev Bool) : Ev Bool := f.andThen fun b => if b = true then .pure true else g
def evNot (f : Ev Bool) : Ev Bool := f.andThen fun b => .pure (!b)
def evIf (c : Ev Bool) (f g : Ev AV) : Ev AV := c.andThen fun b => if b = true then f else g
section
variable {ca : Nat → Addr} {X : Cx} {a b c : Expr} {fa fb fc : Ev AV} {ga gb : Ev Bool} {pos : Pos} {rest : List Expr}
theorem dt_cmp {op : CmpOp} {g : List D → Option D} (ho : Op2 ca X (compareOp op) g) (ha : DE ca X a fa) (hb : DE ca X b fb) (hm : behindInMarks op b = false) : DT ca X (.Compare a [op] [b] pos) (evT (ev2 g fa fb)) :=
  fun W tk => PT.imp (pt_cmpR ho (ha W tk) (hb W tk) hm) fun σ H Q h => tD_op2 (tDT_val h)
theorem dt_tru (ha : DE ca X a fa) (he : ∀ whole, isTrue a X.env whole = (do let v ← whole; standAt a.pos; holding [v] (truthy v)) := by intro _; rfl) : DT ca X a (evTr fa) :=
  fun W tk => PT.imp (pt_truth (ha W tk) he) fun σ H Q h => tDT_tru h
theorem tDT_pure {B : Bd} {W : WX} {σ : L2.St} {H : Hp} {b : Bool} {Q : Bool → Hp → Prop} {G : Hp} {ρ : DEnv} {F : Nat → FP} {o : Out Bool} (c : Cfg B G H σ ρ F) (e : Ev.pure b ρ = some o) (z : endT B W σ G H (un F) Q o) : Q b H := by
  cases e
  exact z G H F c (.refl fun _ h => h)
theorem dw_and1 (ha : DT ca X a ga) : DW ca X (.BoolOp .And [a] pos) ga := fun W tk => pw_and1 (ha W tk)
theorem dw_or1 (ha : DT ca X a ga) : DW ca X (.BoolOp .Or [a] pos) ga := fun W tk => pw_or1 (ha W tk)
theorem dw_and (ha : DT ca X a ga) (hb : DW ca X (.BoolOp .And (b :: rest) pos) gb) : DW ca X (.BoolOp .And (a :: b :: rest) pos) (evAnd ga gb) :=
  fun W tk => PW.imp (pw_and (ha W tk) (hb W tk)) fun σ H Q h => by
    obtain ⟨G, ρ, F, o, c, e, z⟩ := h
    refine tDT_bind c e (fun er ρ' eo => by subst eo; exact z) fun b ρ1 G1 H1 F1 ek c1 x1 => ?_
    cases b with
    | true => rw [if_pos rfl] at ek ⊢; exact ⟨G1, ρ1, F1, o, c1, ek, endT_trans z x1⟩
    | false => rw [if_neg Bool.false_ne_true] at ek ⊢; exact tDT_pure c1 ek (endT_trans z x1)
theorem dw_or (ha : DT ca X a ga) (hb : DW ca X (.BoolOp .Or (b :: rest) pos) gb) : DW ca X (.BoolOp .Or (a :: b :: rest) pos) (evOr ga gb) :=
  fun W tk => PW.imp (pw_or (ha W tk) (hb W tk)) fun σ H Q h => by
    obtain ⟨G, ρ, F, o, c, e, z⟩ := h
    refine tDT_bind c e (fun er ρ' eo => by subst eo; exact z) fun b ρ1 G1 H1 F1 ek c1 x1 => ?_
    cases b with
    | true => rw [if_pos rfl] at ek ⊢; exact tDT_pure c1 ek (endT_trans z x1)
    | false => rw [if_neg Bool.false_ne_true] at ek ⊢; exact ⟨G1, ρ1, F1, o, c1, ek, endT_trans z x1⟩
theorem dt_bool (h : DW ca X a ga) : DT ca X a ga := fun W tk => (h W tk).pt
theorem dt_not (ha : DT ca X a ga) : DT ca X (.UnaryOp .Not a pos) (evNot ga) := fun W tk => PT.imp (pt_not (ha W tk)) fun σ H Q h => by
  obtain ⟨G, ρ, F, o, c, e, z⟩ := h
  refine tDT_bind c e (fun er ρ' eo => by subst eo; exact z) fun b ρ1 G1 H1 F1 ek c1 x1 => tDT_pure c1 ek (endT_trans z x1)
theorem de_if (hc : DT ca X c ga) (ha : DE ca X a fa) (hb : DE ca X b fb) : DE ca X (.IfExp c a b pos) (evIf ga fa fb) := fun W tk => PE.imp (pe_ifExp (hc W tk) (ha W tk) (hb W tk)) fun σ H Q h => by
  obtain ⟨G, ρ, F, o, c, e, z⟩ := h
  refine tDT_bind c e (fun er ρ' eo => by subst eo; exact z) fun b ρ1 G1 H1 F1 ek c1 x1 => ?_
  cases b with
  | true => rw [if_pos rfl] at ek ⊢; exact ⟨G1, ρ1, F1, o, c1, ek, endE_trans z x1⟩
  | false => rw [if_neg Bool.false_ne_true] at ek ⊢; exact ⟨G1, ρ1, F1, o, c1, ek, endE_trans z x1⟩
/-- and, or, not of bools, as values -/
theorem tD_pure {B : Bd} {W : WX} {σ : L2.St} {H : Hp} {v : V} {d : D} {Q : VK} {G : Hp} {ρ : DEnv} {F : Nat → FP} {o : Out AV} (c : Cfg B G H σ ρ F) (e : Ev.pure (.val d) ρ = some o) (z : endE B W σ G H (un F) Q o) (r : Rep B G H v d nof) : Q v H := by
  cases e
  exact z v G H F nof c r (fun _ h => h.elim) (.refl fun x h => h.elim id False.elim)
def evAndV (f g : Ev AV) : Ev AV := (evT f).andThen fun b => if b = true then g else evC (.bl false)
def evOrV (f g : Ev AV) : Ev AV := (evT f).andThen fun b => if b = true then evC (.bl true) else g
def evNotV (f : Ev AV) : Ev AV := (evT f).andThen fun b => evC (.bl (!b))
theorem de_one {op} (ha : DE ca X a fa) : DE ca X (.BoolOp op [a] pos) fa := fun W tk => pe_one (ha W tk)
theorem de_and (ha : DE ca X a fa) (hb : DE ca X (.BoolOp .And (b :: rest) pos) fb) : DE ca X (.BoolOp .And (a :: b :: rest) pos) (evAndV fa fb) := fun W tk => PE.imp (pe_and (ha W tk) (hb W tk)) fun σ H Q h => by
  obtain ⟨G, ρ, F, o, c, e, z⟩ := h
  refine tDT_val (tDT_bind c e (fun er ρ' eo => by subst eo; exact z) fun b ρ1 G1 H1 F1 ek c1 x1 => ?_)
  cases b with
  | true => rw [if_pos rfl] at ek ⊢; exact ⟨G1, ρ1, F1, o, c1, ek, endE_trans z x1⟩
  | false => rw [if_neg Bool.false_ne_true] at ek ⊢; exact tD_pure c1 ek (endE_trans z x1) (.bl false)
theorem de_not (ha : DE ca X a fa) : DE ca X (.UnaryOp .Not a pos) (evNotV fa) := fun W tk => PE.imp (pe_not (ha W tk)) fun σ H Q h => by
  obtain ⟨G, ρ, F, o, c, e, z⟩ := h
  exact tDT_val (tDT_bind c e (fun er ρ' eo => by subst eo; exact z) fun b ρ1 G1 H1 F1 ek c1 x1 => tD_pure c1 ek (endE_trans z x1) (.bl _))
end
end DL
namespace DL
open PySem PySem.Spec PyProof.Rows L2
def frzAt (ρ : DEnv) (i : Nat) : DEnv := match slotOf ρ i with
  | some d => ρ.set i (some (frz d))
  | none => ρ
def frzS : List Nat → DEnv → DEnv
  | [], ρ => ρ
  | i :: S, ρ => frzS S (frzAt ρ i)
def plS : List AV → List Nat
  | [] => []
  | .val _ :: as => plS as
  | .pl i _ :: as => i :: plS as
theorem frzAt_len (ρ : DEnv) (i : Nat) : (frzAt ρ i).length = ρ.length := by unfold frzAt; split <;> simp
theorem frzS_len : ∀ (S : List Nat) (ρ : DEnv), (frzS S ρ).length = ρ.length
  | [], _ => rfl
  | i :: S, ρ => by rw [frzS, frzS_len S, frzAt_len]
theorem frzAt_get (ρ : DEnv) (i j : Nat) : (frzAt ρ i)[j]? = if j = i then (ρ[j]?).map (Option.map frz) else ρ[j]? := by
  unfold frzAt
  cases h : slotOf ρ i with
  | none =>
    dsimp only
    split
    · rename_i e
      subst e
      unfold slotOf at h
      cases q : ρ[j]? with
      | none => rfl
      | some o => rw [q] at h; cases o with
        | none => rfl
        | some d => cases h
    · rfl
  | some d =>
    have e := slotOf_eq h
    dsimp only
    split
    · rename_i e'
      subst e'
      rw [e]
      have hl : j < ρ.length := (List.getElem?_eq_some_iff.mp e).1
      rw [List.getElem?_set_self hl]
      rfl
    · rename_i ne
      rw [List.getElem?_set_ne (Ne.symm ne)]
theorem frz_frz (d : D) : frz (frz d) = frz d := frz_sh _ (frz_is d)
theorem frzS_get : ∀ (S : List Nat) (ρ : DEnv) (j : Nat), (frzS S ρ)[j]? = if j ∈ S then (ρ[j]?).map (Option.map frz) else ρ[j]?
  | [], ρ, j => by simp [frzS]
  | i :: S, ρ, j => by
    rw [frzS, frzS_get S, frzAt_get]
    by_cases h1 : j = i <;> by_cases h2 : j ∈ S
    · rw [if_pos h2, if_pos h1, if_pos (by simp [h1])]
      cases ρ[j]? with
      | none => rfl
      | some o => cases o with
        | none => rfl
        | some d => simp [frz_frz]
    · rw [if_neg h2, if_pos h1, if_pos (by simp [h1])]
    · rw [if_pos h2, if_neg h1, if_pos (by simp [h2])]
    · rw [if_neg h2, if_neg h1, if_neg (by simp [h1, h2])]
section
variable {B : Bd} {σ : L2.St} {G H : Hp} {ρ : DEnv} {F : Nat → FP} {W : WX}
/-- what is frozen: temporaries in Wt, the slots S -/
def frU (G H : Hp) (F : Nat → FP) (Wt : FP) (S : List Nat) : FP := fun x => (Wt x ∧ (∃ o, H x = some o) ∧ G x = none) ∨ ∃ i, i ∈ S ∧ F i x
theorem freeze_cfg {Wt : FP} (c : Cfg B G H σ ρ F) (n : ∀ x, Wt x → ¬ un F x) (S : List Nat) :
    Cfg B (gfr G H (frU G H F Wt S)) H σ (frzS S ρ) (fun j x => F j x ∧ j ∉ S) ∧ Ext G H (fun x => un F x ∨ Wt x) (gfr G H (frU G H F Wt S)) H (un fun j x => F j x ∧ j ∉ S) := by
  have dm : ∀ x, frU G H F Wt S x → (∃ o, H x = some o) ∧ G x = none := fun x h => by
    rcases h with ⟨_, h⟩ | ⟨i, _, h⟩
    · exact h
    · exact c.dom ⟨i, h⟩
  have gg : ∀ b o, G b = some o → gfr G H (frU G H F Wt S) b = some o := fun b o e => by
    by_cases h : frU G H F Wt S b
    · rw [(dm b h).2] at e; cases e
    · rw [gfr_out h]; exact e
  refine ⟨⟨fun b o e => ?_, by rw [frzS_len]; exact c.len, fun i d e => ?_, fun i h x hx => ?_, fun i j x a b => c.dis i j x a.1 b.1⟩, ⟨gg, fun b o e _ => e, fun b h => ?_, fun b o e => ?_⟩⟩
  · by_cases h : frU G H F Wt S b
    · rw [gfr_in h] at e; exact e
    · rw [gfr_out h] at e; exact c.sub b o e
  · rw [frzS_get] at e
    by_cases hS : i ∈ S
    · rw [if_pos hS] at e
      cases q : ρ[i]? with
      | none => rw [q] at e; cases e
      | some o =>
        rw [q] at e
        cases o with
        | none => cases e
        | some d' =>
          obtain ⟨v, e1, r⟩ := c.slot i d' q
          have ed : d = frz d' := by simpa using e.symm
          subst ed
          refine ⟨v, e1, ?_⟩
          have r2 := r.frozen (G1 := gfr G H (frU G H F Wt S)) gg fun b hb => gfr_in (.inr ⟨i, hS, hb⟩)
          have en : (fun x => F i x ∧ i ∉ S) = nof := by funext x; exact propext ⟨fun z => z.2 hS, fun z => z.elim⟩
          rw [en]; exact r2
    · rw [if_neg hS] at e
      obtain ⟨v, e1, r⟩ := c.slot i d e
      refine ⟨v, e1, ?_⟩
      have en : (fun x => F i x ∧ i ∉ S) = F i := by funext x; exact propext ⟨fun z => z.1, fun z => ⟨z, hS⟩⟩
      rw [en]
      refine r.keep gg fun b hb => ⟨rfl, ?_⟩
      have nb : ¬ frU G H F Wt S b := fun z => by
        rcases z with ⟨z, _⟩ | ⟨j, hj, z⟩
        · exact n b z ⟨i, hb⟩
        · have := c.dis i j b hb z
          subst this
          exact hS hj
      rw [gfr_out nb]
      exact (r.dom b hb).2
  · obtain ⟨d, v, e1, e2, r⟩ := c.own hx.1
    refine h d ?_
    rw [frzS_get, if_neg hx.2]
    exact e1
  · obtain ⟨i, hi⟩ := h
    exact .inl (.inl ⟨i, hi.1⟩)
  · by_cases h : frU G H F Wt S b
    · rcases h with ⟨z, _⟩ | ⟨i, _, z⟩
      · exact .inr (.inl (.inr z))
      · exact .inr (.inl (.inl ⟨i, z⟩))
    · rw [gfr_out h] at e; exact .inl e
theorem freeze_reps {Wt : FP} (c : Cfg B G H σ ρ F) (n : ∀ x, Wt x → ¬ un F x) (S : List Nat) : ∀ {vs : List V} {avs : List AV} {ds : List D}, RepAs B G H σ Wt vs avs → conts ρ avs = some ds → (∀ i ∈ plS avs, i ∈ S) →
    Paired (fun v d => Rep B (gfr G H (frU G H F Wt S)) H v d nof) vs (ds.map frz)
  | _, _, _, .nil, e, _ => by cases e; exact .nil
  | v :: vs, a :: as, ds, .cons (T := T) r hT t hu _, e, hS => by
    have t := t.mono hu
    have dm : ∀ x, frU G H F Wt S x → (∃ o, H x = some o) ∧ G x = none := fun x h => by
      rcases h with ⟨_, h⟩ | ⟨i, _, h⟩
      · exact h
      · exact c.dom ⟨i, h⟩
    have gg : ∀ b o, G b = some o → gfr G H (frU G H F Wt S) b = some o := fun b o e => by
      by_cases h : frU G H F Wt S b
      · rw [(dm b h).2] at e; cases e
      · rw [gfr_out h]; exact e
    unfold conts at e
    cases h1 : cont ρ a with
    | none => rw [h1] at e; cases e
    | some d =>
      cases h2 : conts ρ as with
      | none => rw [h1, h2] at e; cases e
      | some ds' =>
        rw [h1, h2] at e
        cases e
        cases a with
        | val d' =>
          cases h1
          have r' : Rep B G H v d T := r
          refine .cons ?_ (freeze_reps c n S t h2 fun i hi => hS i hi)
          exact r'.frozen gg fun b hb => gfr_in (.inl ⟨hT b hb, r'.dom b hb⟩)
        | pl i p =>
          refine .cons ?_ (freeze_reps c n S t h2 fun j hj => hS j (by simp [plS, hj]))
          obtain ⟨U, r', s⟩ := r.cont c h1
          have hT' := r.2
          exact r'.frozen gg fun b hb => gfr_in (.inr ⟨i, hS i (by simp [plS]), (s b hb).elim (fun z => by rw [hT'] at z; exact z.elim) id⟩)
end
def endF (B : Bd) (W : WX) (σ : L2.St) (G H : Hp) (W0 : FP) (Q : List V → Hp → Prop) : Out (List D) → Prop
  | .ok ds ρ' => ∀ vs G' H' F', Cfg B G' H' σ ρ' F' → Paired (fun v d => Rep B G' H' v d nof) vs ds → Ext G H W0 G' H' (un F') → Q vs H'
  | .exc e ρ' => ∀ G' H' F' cls dx, Cfg B G' H' σ ρ' F' → ExcAt B G' cls dx e → Ext G H W0 G' H' (un F') → W cls dx σ H'
def tDF (B : Bd) (W : WX) (f : Ev (List D)) : TA := fun σ H Q => ∃ G ρ F o, Cfg B G H σ ρ F ∧ f ρ = some o ∧ endF B W σ G H (un F) Q o
def DF (ca : Nat → Addr) (X : Cx) (es : List Expr) (f : Ev (List D)) : Prop := ∀ W, Takes X W → PA X es (tDF ⟨X.K, ca⟩ W f)
def consK (avs : List AV) : Ev (List D) := fun ρ => match conts ρ avs with
  | some ds => some (.ok (ds.map frz) (frzS (plS avs) ρ))
  | none => none
def evFz (fs : Ev (List AV)) : Ev (List D) := fs.andThen consK
section
variable {B : Bd} {W : WX} {σ : L2.St} {H : Hp}
theorem tDF_of {fs : Ev (List AV)} {Q : List V → Hp → Prop} (h : tDF B W (evFz fs) σ H Q) : tDL B W fs σ H Q := by
  obtain ⟨G, ρ, F, o, c, e, z⟩ := h
  refine tDL_bind c e (fun er ρ' eo => by subst eo; exact z) fun avs ρ1 vs G1 H1 F1 Wt ek c1 r1 n1 x1 => ?_
  unfold consK at ek
  cases h1 : conts ρ1 avs with
  | none => rw [h1] at ek; cases ek
  | some ds =>
    rw [h1] at ek
    cases ek
    obtain ⟨c2, x2⟩ := freeze_cfg c1 n1 (plS avs)
    exact z vs _ H1 _ c2 (freeze_reps c1 n1 (plS avs) r1 h1 fun i h => h) (x1.trans x2)
theorem tDF_bind {β : Type} {f : Ev (List D)} {k : List D → Ev β} {G : Hp} {ρ : DEnv} {F : Nat → FP} {o : Out β} {Q : List V → Hp → Prop} (c : Cfg B G H σ ρ F) (e : f.andThen k ρ = some o)
    (hx : ∀ er ρ', o = .exc er ρ' → ∀ G' H' F' cls dx, Cfg B G' H' σ ρ' F' → ExcAt B G' cls dx er → Ext G H (un F) G' H' (un F') → W cls dx σ H')
    (hk : ∀ ds ρ1 vs G1 H1 F1, k ds ρ1 = some o → Cfg B G1 H1 σ ρ1 F1 → Paired (fun v d => Rep B G1 H1 v d nof) vs ds → Ext G H (un F) G1 H1 (un F1) → Q vs H1) : tDF B W f σ H Q := by
  unfold Ev.andThen at e
  cases hf : f ρ with
  | none => rw [hf] at e; cases e
  | some u =>
    rw [hf] at e
    cases u with
    | exc er ρ' => cases e; exact ⟨G, ρ, F, _, c, hf, fun G' H' F' cls dx c' x' y' => hx er ρ' rfl G' H' F' cls dx c' x' y'⟩
    | ok ds ρ1 => exact ⟨G, ρ, F, _, c, hf, fun vs G1 H1 F1 c1 r x => hk ds ρ1 vs G1 H1 F1 e c1 r x⟩
end
theorem df_of {ca : Nat → Addr} {X : Cx} {es : List Expr} {fs : Ev (List AV)} (h : DA ca X es fs) : DF ca X es (evFz fs) := fun W tk => PA.imp (h W tk) fun σ H Q q => tDF_of q
/-- operations by frozen contents -/
def evOpF (g : List D → Option D) (fs : Ev (List D)) : Ev AV := fs.andThen fun ds ρ => match g ds with
  | none => none
  | some d => some (.ok (.val d) ρ)
theorem paired_len {α β : Type} {R : α → β → Prop} : ∀ {xs : List α} {ys : List β}, Paired R xs ys → xs.length = ys.length
  | _, _, .nil => rfl
  | _, _, .cons _ t => congrArg (· + 1) (paired_len t)
theorem paired_get {α β : Type} {R : α → β → Prop} : ∀ {xs : List α} {ys : List β}, Paired R xs ys → ∀ (i : Nat) x y, xs[i]? = some x → ys[i]? = some y → R x y
  | _, _, .nil, i, x, y, h, _ => by simp at h
  | _, _, .cons r t, 0, x, y, h, h' => by simp at h h'; subst h; subst h'; exact r
  | _, _, .cons r t, i + 1, x, y, h, h' => paired_get t i x y (by simpa using h) (by simpa using h')
def rDF (B : Bd) (g : List D → Option D) : List V → Hp → VK → Prop := fun xs H Q => ∃ G ds d, (∀ b o, G b = some o → H b = some o) ∧ Paired (fun v d => Rep B G H v d nof) xs ds ∧ g ds = some d ∧
  ∀ v G' H' T, (∀ b o, G' b = some o → H' b = some o) → Rep B G' H' v d T → Ext G H nof G' H' T → Q v H'
theorem tD_opF {B : Bd} {W : WX} {σ : L2.St} {H : Hp} {g : List D → Option D} {fs : Ev (List D)} {Q : VK} (h : tD B W (evOpF g fs) σ H Q) : tDF B W fs σ H fun vs H1 => rDF B g vs H1 Q := by
  obtain ⟨G, ρ, F, o, c, e, z⟩ := h
  refine tDF_bind c e (fun er ρ' eo => by subst eo; exact z) fun ds ρ1 vs G1 H1 F1 ek c1 r1 x1 => ?_
  cases h2 : g ds with
  | none => rw [h2] at ek; cases ek
  | some d =>
    rw [h2] at ek
    cases ek
    exact ⟨G1, ds, d, c1.sub, r1, h2, fun v G' H' T s r x => z v G' H' F1 T (c1.grow x s) r (c1.new x) (x1.more x)⟩
def gTup (ds : List D) : Option D := if ds.length ≤ 16777216 then some (.tup ds) else none
def gLst (ds : List D) : Option D := if ds.length ≤ 16777216 then some (.ol ds) else none
theorem no_g {G H : Hp} {p : Addr} (s : ∀ b o, G b = some o → H b = some o) (hp : H p = none) : G p = none := by
  cases z : G p with
  | none => rfl
  | some o => rw [s _ _ z] at hp; cases hp
section
variable {ca : Nat → Addr} {X : Cx} {es : List Expr} {fs : Ev (List D)} {pos : Pos}
theorem de_tup {x1} (h : DF ca X es fs) : DE ca X (.Tuple es x1 pos) (evOpF gTup fs) := fun W tk => PE.imp (pe_tup (h W tk)) fun σ H Q q => by
  obtain ⟨G, ρ, F, o, c, e, z⟩ := tD_opF q
  refine ⟨G, ρ, F, o, c, e, ?_⟩
  cases o with
  | exc er ρ' => exact z
  | ok ds ρ' =>
    intro vs G' H' F' c' r x
    obtain ⟨G2, ds2, d, sub, r2, e2, k⟩ := z vs G' H' F' c' r x
    unfold gTup at e2
    split at e2
    · rename_i hz
      cases e2
      refine ⟨by rw [paired_len r2, sizeLine_eq]; exact hz, fun p hp => ?_⟩
      refine k _ _ _ nof (sub_new hp sub) (.tup (.inl (.inl upd_same)) (paired_len r2) fun i v d e1 e3 => ?_) (ext_new hp sub)
      exact (paired_get r2 i v d e1 e3).keep (fun b o e => by rw [upd_ne (ne_of_none e (no_g sub hp))]; exact e) fun _ h => h.elim
    · cases e2
theorem de_lst (h : DF ca X es fs) : DE ca X (.List es pos) (evOpF gLst fs) := fun W tk => PE.imp (pe_lst (h W tk)) fun σ H Q q => by
  obtain ⟨G, ρ, F, o, c, e, z⟩ := tD_opF q
  refine ⟨G, ρ, F, o, c, e, ?_⟩
  cases o with
  | exc er ρ' => exact z
  | ok ds ρ' =>
    intro vs G' H' F' c' r x
    obtain ⟨G2, ds2, d, sub, r2, e2, k⟩ := z vs G' H' F' c' r x
    unfold gLst at e2
    split at e2
    · rename_i hz
      cases e2
      refine ⟨by rw [paired_len r2, sizeLine_eq]; exact hz, fun p hp => ?_⟩
      refine k _ G2 _ _ (sub_own hp sub) (rep_ol (no_g sub hp) upd_same (paired_len r2) fun i v d e1 e3 => ?_) (ext_own hp)
      exact (paired_get r2 i v d e1 e3).up
    · cases e2
end
def gIx : List D → Option D
  | [.str z, .int i] => if z.length ≤ 16777216 then (atI z.cps.toList i).map fun c => .str ⟨#[c]⟩ else none
  | [x, .int i] => match seqD x with
    | some ds => match atI ds i with
      | some d => if d.sh = true then some d else none
      | none => none
    | none => none
  | _ => none
theorem atI_pair {α β : Type} {xs : List α} {ys : List β} (l : xs.length = ys.length) {i : Int} {y : β} (h : atI ys i = some y) : ∃ (x : α) (j : Nat), atI xs i = some x ∧ xs[j]? = some x ∧ ys[j]? = some y := by
  unfold atI at h ⊢
  rw [l]
  cases hj : ixN ys.length i with
  | none => rw [hj] at h; cases h
  | some j =>
    rw [hj] at h
    have hy : ys[j]? = some y := h
    have hl : j < xs.length := by rw [l]; exact (List.getElem?_eq_some_iff.mp hy).1
    exact ⟨xs[j], j, by show xs[j]? = _; exact List.getElem?_eq_getElem hl, List.getElem?_eq_getElem hl, hy⟩
def CallD (ca : Nat → Addr) (X : Cx) (f : Value) (g : List D → Option D) : Prop := CallR X f (rDL ⟨X.K, ca⟩ g)
section
variable {ca : Nat → Addr} {X : Cx} {x : Str} {e : Expr} {es : List Expr} {fs : Ev (List AV)} {p pos : Pos} {id T : String} {g : List D → Option D}
theorem de_callB (hc : CallD ca X (.builtin id) g) (hg : Gl X x) (hm : X.mg x = none) (hv : bootBuiltins x = some (.builtin id)) (ha : DA ca X (e :: es) fs) (hn : x ≠ "__name__" := by decide) (hdb : (x == ("__debug__" : Str)) = false := by decide)
    (he : starEach (e :: es) X.env = (false, eval e X.env) :: starEach es X.env := by rfl) (hpl : (backTo pos (starEach es X.env)).any (·.1) = false := by rfl) : DE ca X (.Call (.Name x p) (e :: es) [] pos) (evOp g fs) :=
  fun W tk => PE.imp (pe_callB hc hg hm hv (ha W tk) hn hdb he hpl) fun σ H Q h => tD_op h
theorem de_callTy (hc : CallD ca X (.type T) g) (hg : Gl X x) (hm : X.mg x = none) (hv : bootBuiltins x = some (.type T)) (ha : DA ca X (e :: es) fs) (hn : x ≠ "__name__" := by decide) (hdb : (x == ("__debug__" : Str)) = false := by decide)
    (he : starEach (e :: es) X.env = (false, eval e X.env) :: starEach es X.env := by rfl) (hpl : (backTo pos (starEach es X.env)).any (·.1) = false := by rfl) : DE ca X (.Call (.Name x p) (e :: es) [] pos) (evOp g fs) :=
  fun W tk => PE.imp (pe_callTy hc hg hm hv (ha W tk) hn hdb he hpl) fun σ H Q h => tD_op h
theorem de_callG (hc : CallD ca X (.builtin id) g) (hg : Gl X x) (hm : X.mg x = some (.builtin id)) (ha : DA ca X (e :: es) fs) (hdb : (x == ("__debug__" : Str)) = false := by decide)
    (he : starEach (e :: es) X.env = (false, eval e X.env) :: starEach es X.env := by rfl) (hpl : (backTo pos (starEach es X.env)).any (·.1) = false := by rfl) : DE ca X (.Call (.Name x p) (e :: es) [] pos) (evOp g fs) :=
  fun W tk => PE.imp (pe_callBfun hc hg hm (ha W tk) hdb he hpl) fun σ H Q h => tD_op h
def gAbs : List D → Option D
  | [.int i] => some (.int (if i < 0 then -i else i))
  | _ => none
def gInt : List D → Option D
  | [.int i] => some (.int i)
  | [.bl b] => some (.int (if b then 1 else 0))
  | _ => none
def gGcd : List D → Option D
  | [.int i, .int j] => some (.int ((Nat.gcd i.natAbs j.natAbs : Nat) : Int))
  | _ => none
def gLen : List D → Option D
  | [.str x] => if x.length ≤ 16777216 then some (.int x.length) else none
  | [.dct kvs] => some (.int kvs.length)
  | [.od kvs] => some (.int kvs.length)
  | [x] => (seqD x).map fun ds => .int ds.length
  | _ => none
theorem callD_abs : CallD ca X (.builtin "abs") gAbs := by
  intro pins s σ H xs us Q I rs h
  obtain ⟨G, ds, d, sub, rr, e, q⟩ := h
  unfold gAbs at e
  split at e
  · cases e
    cases rr with
    | cons a t => cases t; obtain ⟨T, r⟩ := a; cases r; exact call_abs pins s σ H _ us Q I rs ⟨_, rfl, rDL_end q sub (.int _)⟩
  · cases e
theorem callD_int : CallD ca X (.type "int") gInt := by
  intro pins s σ H xs us Q I rs h
  obtain ⟨G, ds, d, sub, rr, e, q⟩ := h
  unfold gInt at e
  split at e
  · cases e
    cases rr with
    | cons a t => cases t; obtain ⟨T, r⟩ := a; cases r; exact call_int1 pins s σ H _ us Q I rs (.inl ⟨_, rfl, rDL_end q sub (.int _)⟩)
  · cases e
    cases rr with
    | cons a t => cases t; obtain ⟨T, r⟩ := a; cases r; exact call_int1 pins s σ H _ us Q I rs (.inr ⟨_, rfl, rDL_end q sub (.int _)⟩)
  · cases e
theorem callD_gcd : CallD ca X (.builtin "math.gcd") gGcd := by
  intro pins s σ H xs us Q I rs h
  obtain ⟨G, ds, d, sub, rr, e, q⟩ := h
  unfold gGcd at e
  split at e
  · cases e
    cases rr with
    | cons a t => cases t with
      | cons b t => cases t; obtain ⟨T, r⟩ := a; obtain ⟨U, r'⟩ := b; cases r; cases r'; exact cr_gcd pins s σ H _ us Q I rs ⟨_, _, rfl, rDL_end q sub (.int _)⟩
  · cases e
theorem call_lenR : CallR X (.builtin "len") (fun xs H Q => ∃ a kvs, xs = [V.ref a] ∧ Rd H a (.dK kvs) ∧ Q (.int kvs.length) H) := by
  intro pins s σ H xs us Q I r h
  obtain ⟨a, kvs, rfl, ha, q⟩ := h
  obtain ⟨u, rfl, ru⟩ := vals1 r
  cases ru
  exact d_len I ha fun t s' I' => ⟨.int kvs.length, H, I', ⟨t, rfl⟩, q⟩
theorem callD_len : CallD ca X (.builtin "len") gLen := by
  intro pins s σ H xs us Q I rs h
  obtain ⟨G, ds, d, sub, rr, e, q⟩ := h
  unfold gLen at e
  split at e
  · split at e
    · rename_i hz
      cases e
      cases rr with
      | cons a t => cases t; obtain ⟨T, r⟩ := a; cases r; exact call_len pins s σ H _ us Q I rs ⟨_, _, rfl, ⟨by rw [sizeLine_eq]; exact hz, rfl⟩, rDL_end q sub (.int _)⟩
    · cases e
  · cases e
    cases rr with
    | cons a t =>
      cases t
      obtain ⟨T, r⟩ := a
      cases r with
      | dct h l c => exact call_lenR pins s σ H _ us Q I rs ⟨_, _, rfl, rd_mono h sub, by rw [len_of_keys l]; exact rDL_end q sub (.int _)⟩
  · cases e
    cases rr with
    | cons a t =>
      cases t
      obtain ⟨T, r⟩ := a
      cases r with
      | od h g l c bd dj na => exact call_lenD pins s σ H _ us Q I rs ⟨_, _, rfl, h, by rw [len_of_keys l]; exact rDL_end q sub (.int _)⟩
  · obtain ⟨ds', h1, rfl⟩ := Option.map_eq_some_iff.mp e
    cases rr with
    | cons a t =>
      cases t
      obtain ⟨T, r⟩ := a
      obtain ⟨a1, vs1, rfl, hq, l1, c1⟩ := r.seq sub h1
      refine call_len_seq pins s σ H _ us Q I rs ⟨a1, vs1, rfl, hq, ?_⟩
      rw [l1]
      exact rDL_end q sub (.int _)
  · cases e
end
end DL
namespace DL
open PySem PySem.Spec PyProof.Rows L2
inductive SOut where
  | nx (ρ : DEnv) | ret (d : D) (ρ : DEnv) | brk (ρ : DEnv) | cnt (ρ : DEnv) | exc (e : D) (ρ : DEnv)
abbrev Sv := DEnv → Option SOut
/-- the slots in I hold what they held -/
structure Prot (I : List Nat) (σ σ' : L2.St) : Prop where
  len : σ'.length = σ.length
  at_ : ∀ i ∈ I, σ'[i]? = σ[i]?
theorem Prot.refl {I : List Nat} {σ : L2.St} : Prot I σ σ := ⟨rfl, fun _ _ => rfl⟩
theorem Prot.trans {I : List Nat} {σ σ1 σ2 : L2.St} (a : Prot I σ σ1) (b : Prot I σ1 σ2) : Prot I σ σ2 := ⟨b.len.trans a.len, fun i h => (b.at_ i h).trans (a.at_ i h)⟩
def endS (B : Bd) (W : WX) (I : List Nat) (σ : L2.St) (G H : Hp) (W0 : FP) (Dn : Ends) : SOut → Prop
  | .nx ρ' => ∀ σ' G' H' F', Prot I σ σ' → Cfg B G' H' σ' ρ' F' → Ext G H W0 G' H' (un F') → Dn.nx σ' H'
  | .brk ρ' => ∀ σ' G' H' F', Prot I σ σ' → Cfg B G' H' σ' ρ' F' → Ext G H W0 G' H' (un F') → Dn.bk σ' H'
  | .cnt ρ' => ∀ σ' G' H' F', Prot I σ σ' → Cfg B G' H' σ' ρ' F' → Ext G H W0 G' H' (un F') → Dn.ct σ' H'
  | .ret d ρ' => ∀ v σ' G' H' F' T, Prot I σ σ' → Cfg B G' H' σ' ρ' F' → Rep B G' H' v d T → (∀ x, T x → ¬ un F' x) → Ext G H W0 G' H' (fun x => un F' x ∨ T x) → Dn.rt v H'
  | .exc e ρ' => ∀ σ' G' H' F' cls dx, Prot I σ σ' → Cfg B G' H' σ' ρ' F' → ExcAt B G' cls dx e → Ext G H W0 G' H' (un F') → W cls dx σ' H'
def tSD (B : Bd) (W : WX) (I : List Nat) (g : Sv) : TS := fun Dn σ H => ∃ G ρ F o, Cfg B G H σ ρ F ∧ g ρ = some o ∧ endS B W I σ G H (un F) Dn o
theorem endS_trans {B : Bd} {W : WX} {I : List Nat} {σ σ1 : L2.St} {G H G1 H1 : Hp} {W0 W1 : FP} {Dn : Ends} {o : SOut} (z : endS B W I σ G H W0 Dn o) (p : Prot I σ σ1) (x : Ext G H W0 G1 H1 W1) : endS B W I σ1 G1 H1 W1 Dn o := by
  cases o with
  | nx ρ' => exact fun σ' G' H' F' p' c x' => z σ' G' H' F' (p.trans p') c (x.trans x')
  | brk ρ' => exact fun σ' G' H' F' p' c x' => z σ' G' H' F' (p.trans p') c (x.trans x')
  | cnt ρ' => exact fun σ' G' H' F' p' c x' => z σ' G' H' F' (p.trans p') c (x.trans x')
  | ret d ρ' => exact fun v σ' G' H' F' T p' c r n x' => z v σ' G' H' F' T (p.trans p') c r n (x.trans x')
  | exc e ρ' => exact fun σ' G' H' F' cls dx p' c r x' => z σ' G' H' F' cls dx (p.trans p') c r (x.trans x')
abbrev Pass (X : Cx) : Prop := PassesOwn (model X.prog X.w) X.A X.env X.xe
def DS (ca : Nat → Addr) (X : Cx) (I : List Nat) (st : Stmt) (g : Sv) : Prop := ∀ W, Takes X W → Pass X → PS X st (tSD ⟨X.K, ca⟩ W I g)
def DB (ca : Nat → Addr) (X : Cx) (I : List Nat) (st : List Stmt) (g : Sv) : Prop := ∀ W, Takes X W → Pass X → PSs X st (tSD ⟨X.K, ca⟩ W I g)
theorem PS.imp {X : Cx} {e : Stmt} {t u : TS} (h : PS X e t) (k : ∀ (Dn : Ends) (σ : L2.St) (H : Hp), u Dn σ H → t Dn σ H) : PS X e u := ⟨fun pins s σ H Dn I q => h.run pins s σ H Dn I (k Dn σ H q)⟩
theorem PSs.imp {X : Cx} {e : List Stmt} {t u : TS} (h : PSs X e t) (k : ∀ (Dn : Ends) (σ : L2.St) (H : Hp), u Dn σ H → t Dn σ H) : PSs X e u := ⟨fun pins s σ H Dn I q => h.run pins s σ H Dn I (k Dn σ H q)⟩
def sNil : Sv := fun ρ => some (.nx ρ)
def sSeq (f g : Sv) : Sv := fun ρ => match f ρ with
  | some (.nx ρ1) => g ρ1
  | o => o
/-- an expression's step within a statement -/
def evS {α : Type} (f : Ev α) (k : α → Sv) : Sv := fun ρ => match f ρ with
  | none => none
  | some (.exc e ρ1) => some (.exc e ρ1)
  | some (.ok a ρ1) => k a ρ1
section
variable {B : Bd} {W : WX} {I : List Nat} {σ : L2.St} {H : Hp} {Dn : Ends}
theorem tSD_seq {f g : Sv} (h : tSD B W I (sSeq f g) Dn σ H) : tSeq (tSD B W I f) (tSD B W I g) Dn σ H := by
  obtain ⟨G, ρ, F, o, c, e, z⟩ := h
  unfold sSeq at e
  cases hf : f ρ with
  | none => rw [hf] at e; cases e
  | some u =>
    rw [hf] at e
    cases u with
    | nx ρ1 => exact ⟨G, ρ, F, _, c, hf, fun σ' G' H' F' p c' x => ⟨G', ρ1, F', o, c', e, endS_trans z p x⟩⟩
    | brk ρ1 => cases e; exact ⟨G, ρ, F, _, c, hf, z⟩
    | cnt ρ1 => cases e; exact ⟨G, ρ, F, _, c, hf, z⟩
    | ret d ρ1 => cases e; exact ⟨G, ρ, F, _, c, hf, z⟩
    | exc er ρ1 => cases e; exact ⟨G, ρ, F, _, c, hf, z⟩
/-- an exception's way out of an expression -/
theorem exc_out {G : Hp} {W0 : FP} {er : D} {ρ' : DEnv} (z : endS B W I σ G H W0 Dn (.exc er ρ')) : ∀ G' H' F' cls dx, Cfg B G' H' σ ρ' F' → ExcAt B G' cls dx er → Ext G H W0 G' H' (un F') → W cls dx σ H' :=
  fun G' H' F' cls dx c r x => z σ G' H' F' cls dx .refl c r x
theorem tSD_E {f : Ev AV} {k : AV → Sv} {Q : VK} (h : tSD B W I (evS f k) Dn σ H)
    (hk : ∀ av ρ1 v G1 H1 F1 T o, k av ρ1 = some o → Cfg B G1 H1 σ ρ1 F1 → RepA B G1 H1 σ v av T → (∀ x, T x → ¬ un F1 x) → endS B W I σ G1 H1 (fun x => un F1 x ∨ T x) Dn o → Q v H1) : tD B W f σ H Q := by
  obtain ⟨G, ρ, F, o, c, e, z⟩ := h
  unfold evS at e
  cases hf : f ρ with
  | none => rw [hf] at e; cases e
  | some u =>
    rw [hf] at e
    cases u with
    | exc er ρ' => cases e; exact ⟨G, ρ, F, _, c, hf, exc_out z⟩
    | ok av ρ1 => exact ⟨G, ρ, F, _, c, hf, fun v G1 H1 F1 T c1 r n x => hk av ρ1 v G1 H1 F1 T o e c1 r n (endS_trans z .refl x)⟩
theorem tSD_L {f : Ev (List AV)} {k : List AV → Sv} {Q : List V → Hp → Prop} (h : tSD B W I (evS f k) Dn σ H)
    (hk : ∀ avs ρ1 vs G1 H1 F1 Wt o, k avs ρ1 = some o → Cfg B G1 H1 σ ρ1 F1 → RepAs B G1 H1 σ Wt vs avs → (∀ x, Wt x → ¬ un F1 x) → endS B W I σ G1 H1 (fun x => un F1 x ∨ Wt x) Dn o → Q vs H1) : tDL B W f σ H Q := by
  obtain ⟨G, ρ, F, o, c, e, z⟩ := h
  unfold evS at e
  cases hf : f ρ with
  | none => rw [hf] at e; cases e
  | some u =>
    rw [hf] at e
    cases u with
    | exc er ρ' => cases e; exact ⟨G, ρ, F, _, c, hf, exc_out z⟩
    | ok avs ρ1 => exact ⟨G, ρ, F, _, c, hf, fun v G1 H1 F1 T c1 r n x => hk avs ρ1 v G1 H1 F1 T o e c1 r n (endS_trans z .refl x)⟩
theorem tSD_T {f : Ev Bool} {k : Bool → Sv} {Q : Bool → Hp → Prop} (h : tSD B W I (evS f k) Dn σ H)
    (hk : ∀ b ρ1 G1 H1 F1 o, k b ρ1 = some o → Cfg B G1 H1 σ ρ1 F1 → endS B W I σ G1 H1 (un F1) Dn o → Q b H1) : tDT B W f σ H Q := by
  obtain ⟨G, ρ, F, o, c, e, z⟩ := h
  unfold evS at e
  cases hf : f ρ with
  | none => rw [hf] at e; cases e
  | some u =>
    rw [hf] at e
    cases u with
    | exc er ρ' => cases e; exact ⟨G, ρ, F, _, c, hf, exc_out z⟩
    | ok b ρ1 => exact ⟨G, ρ, F, _, c, hf, fun G1 H1 F1 c1 x => hk b ρ1 G1 H1 F1 o e c1 (endS_trans z .refl x)⟩
end
section
variable {ca : Nat → Addr} {X : Cx} {I : List Nat} {st : Stmt} {rest : List Stmt} {f g : Sv} {e : Expr} {fe : Ev AV} {pos : Pos}
theorem db_nil : DB ca X I [] sNil := fun W tk ps => PSs.imp pss_nil fun Dn σ H h => by
  obtain ⟨G, ρ, F, o, c, e, z⟩ := h
  cases e
  exact z σ G H F .refl c (.refl fun _ h => h)
theorem db_cons (h1 : DS ca X I st f) (h2 : DB ca X I rest g) : DB ca X I (st :: rest) (sSeq f g) := fun W tk ps => PSs.imp (pss_cons (h1 W tk ps) (h2 W tk ps)) fun Dn σ H h => tSD_seq h
theorem db_one (h1 : DS ca X I st f) : DB ca X I [st] f := fun W tk ps => pss_one (h1 W tk ps)
/-- an expression by itself -/
def sExpr (f : Ev AV) : Sv := evS f fun _ ρ => some (.nx ρ)
/-- if -/
def sIf (c : Ev Bool) (f g : Sv) : Sv := evS c fun b => if b = true then f else g
theorem ds_if {c : Expr} {a b : List Stmt} {fc : Ev Bool} (hc : DT ca X c fc) (ha : DB ca X I a f) (hb : DB ca X I b g) : DS ca X I (.If c a b pos) (sIf fc f g) := fun W tk ps => PS.imp (ps_if (hc W tk) (ha W tk ps) (hb W tk ps)) fun Dn σ H h =>
  tSD_T h fun b ρ1 G1 H1 F1 o ek c1 z => by
    cases b with
    | true => rw [if_pos rfl] at ek ⊢; exact ⟨G1, ρ1, F1, o, c1, ek, z⟩
    | false => rw [if_neg Bool.false_ne_true] at ek ⊢; exact ⟨G1, ρ1, F1, o, c1, ek, z⟩
/-- return e, frozen -/
def sRet (f : Ev AV) : Sv := evS f fun a ρ => match cont ρ a with
  | some d => some (.ret (frz d) (frzS (plS [a]) ρ))
  | none => none
theorem ds_ret (he : DE ca X e fe) : DS ca X I (.Return (some e) pos) (sRet fe) := fun W tk ps => PS.imp (ps_ret (he W tk)) fun Dn σ H h =>
  tSD_E h fun av ρ1 v G1 H1 F1 T o ek c1 r n z => by
    cases hc : cont ρ1 av with
    | none => rw [hc] at ek; cases ek
    | some d =>
      rw [hc] at ek
      cases ek
      obtain ⟨c2, x2⟩ := freeze_cfg c1 n (plS [av])
      have hcs : conts ρ1 [av] = some [d] := by unfold conts conts; rw [hc]
      have rr := freeze_reps c1 n (plS [av]) (.cons r (fun _ h => h) (.nil (Wt := nof)) (fun _ h => h.elim) fun _ _ h => h) hcs fun i h => h
      cases rr with
      | cons r' t => exact z v σ _ H1 _ nof .refl c2 r' (fun _ h => h.elim) (x2.mono (fun _ h => h) fun x h => h.elim id False.elim)
/-- return e, a thing of one's own (not a parameter's) -/
def sRetO (I : List Nat) (f : Ev AV) : Sv := evS f fun a ρ => match a with
  | .val d => some (.ret d ρ)
  | .pl i [] => if i ∈ I then none else match slotOf ρ i with
    | some d => some (.ret d (ρ.set i none))
    | none => none
  | .pl _ _ => none
theorem ds_retO (he : DE ca X e fe) : DS ca X I (.Return (some e) pos) (sRetO I fe) := fun W tk ps => PS.imp (ps_ret (he W tk)) fun Dn σ H h =>
  tSD_E h fun av ρ1 v G1 H1 F1 T o ek c1 r n z => by
    cases av with
    | val d => cases ek; exact z v σ G1 H1 F1 T .refl c1 r n (.refl fun x h => h)
    | pl i p =>
      cases p with
      | cons s p => cases ek
      | nil =>
      dsimp only at ek
      split at ek
      · cases ek
      · split at ek
        · rename_i d hd
          cases ek
          obtain ⟨⟨v0, e1, hp⟩, rfl⟩ := r
          cases hp
          obtain ⟨v', e2, r'⟩ := c1.at hd
          rw [e1] at e2
          cases e2
          refine z v σ G1 H1 _ (F1 i) .refl (c1.drop i) r' (fun x hx ⟨j, hj⟩ => hj.2 (c1.dis j i x hj.1 hx)) (.refl fun x h => .inl ?_)
          rcases h with ⟨j, hj⟩ | h
          · exact ⟨j, hj.1⟩
          · exact ⟨i, h⟩
        · cases ek
end
theorem Cfg.setName {B : Bd} {G H : Hp} {σ : L2.St} {ρ : DEnv} {F : Nat → FP} {v : V} {d : D} {T : FP} (c : Cfg B G H σ ρ F) (i : Nat) (r : Rep B G H v d T) (n : ∀ x, T x → ¬ un F x) (hi : i < ρ.length) :
    Cfg B G H (σ.set i (some v)) (ρ.set i (some d)) (fun j x => (j = i ∧ T x) ∨ (j ≠ i ∧ F j x)) := by
  refine ⟨c.sub, by simpa using c.len, fun j d' e => ?_, fun j h x hx => ?_, fun j k x a b => ?_⟩
  · by_cases hj : j = i
    · subst hj
      rw [List.getElem?_set_self hi] at e
      cases e
      have en : (fun x => (j = j ∧ T x) ∨ (j ≠ j ∧ F j x)) = T := by funext x; exact propext ⟨fun z => z.elim (·.2) fun z => absurd rfl z.1, fun z => .inl ⟨rfl, z⟩⟩
      exact ⟨v, List.getElem?_set_self (by rw [← c.len]; exact hi), by rw [en]; exact r⟩
    · rw [List.getElem?_set_ne (Ne.symm hj)] at e
      obtain ⟨v', e1, r'⟩ := c.slot j d' e
      have en : (fun x => (j = i ∧ T x) ∨ (j ≠ i ∧ F j x)) = F j := by funext x; exact propext ⟨fun z => z.elim (fun z => absurd z.1 hj) (·.2), fun z => .inr ⟨hj, z⟩⟩
      exact ⟨v', by rw [List.getElem?_set_ne (Ne.symm hj)]; exact e1, by rw [en]; exact r'⟩
  · rcases hx with ⟨rfl, hx⟩ | ⟨hj, hx⟩
    · exact h d (List.getElem?_set_self hi)
    · obtain ⟨d', v', e1, e2, r'⟩ := c.own hx
      exact h d' (by rw [List.getElem?_set_ne (Ne.symm hj)]; exact e1)
  · rcases a with ⟨rfl, a⟩ | ⟨ha, a⟩ <;> rcases b with ⟨rfl, b⟩ | ⟨hb, b⟩
    · rfl
    · exact (n x a ⟨k, b⟩).elim
    · exact (n x b ⟨j, a⟩).elim
    · exact c.dis j k x a b
/-- values with their own addresses, apart from one another -/
inductive RepTs (B : Bd) (G H : Hp) : FP → List V → List D → Prop
  | nil {Wt : FP} : RepTs B G H Wt [] []
  | cons {Wt Wu T : FP} {v : V} {d : D} {vs : List V} {ds : List D} (r : Rep B G H v d T) (hT : ∀ x, T x → Wt x) (t : RepTs B G H Wu vs ds) (hu : ∀ x, Wu x → Wt x) (dj : ∀ x, T x → ¬ Wu x) : RepTs B G H Wt (v :: vs) (d :: ds)
def takeL (ρ : DEnv) : List AV → Option (List D)
  | [] => some []
  | .val d :: as => (takeL ρ as).map (d :: ·)
  | .pl i p :: as => match cont ρ (.pl i p), takeL ρ as with
    | some d, some ds => some (frz d :: ds)
    | _, _ => none
theorem RepTs.mono {B : Bd} {G H : Hp} {Wt Wu : FP} {vs : List V} {ds : List D} (h : ∀ b, Wt b → Wu b) (r : RepTs B G H Wt vs ds) : RepTs B G H Wu vs ds := by
  cases r with
  | nil => exact .nil
  | cons r hT t hu dj => exact .cons r (fun x k => h x (hT x k)) t (fun x k => h x (hu x k)) dj
theorem take_reps {B : Bd} {σ : L2.St} {G H : Hp} {ρ : DEnv} {F : Nat → FP} (c : Cfg B G H σ ρ F) (S : List Nat) : ∀ {Wt : FP} {vs : List V} {avs : List AV} {ds : List D}, (∀ x, Wt x → ¬ un F x) → RepAs B G H σ Wt vs avs → takeL ρ avs = some ds → (∀ i ∈ plS avs, i ∈ S) →
    RepTs B (gfr G H (frU G H F nof S)) H Wt vs ds
  | _, _, _, _, _, .nil, e, _ => by cases e; exact .nil
  | Wt, v :: vs, a :: as, ds, n, .cons (T := T) r hT t hu dj, e, hS => by
    have dm : ∀ x, frU G H F nof S x → (∃ o, H x = some o) ∧ G x = none := fun x h => by
      rcases h with ⟨_, h⟩ | ⟨i, _, h⟩
      · exact h
      · exact c.dom ⟨i, h⟩
    have gg : ∀ b o, G b = some o → gfr G H (frU G H F nof S) b = some o := fun b o e => by
      by_cases h : frU G H F nof S b
      · rw [(dm b h).2] at e; cases e
      · rw [gfr_out h]; exact e
    cases a with
    | val d' =>
      unfold takeL at e
      obtain ⟨ds', e1, rfl⟩ := Option.map_eq_some_iff.mp e
      have r' : Rep B G H v d' T := r
      refine .cons (r'.keep gg fun b hb => ⟨rfl, ?_⟩) hT (take_reps c S (fun x h => n x (hu x h)) t e1 fun i hi => hS i hi) hu dj
      rw [gfr_out fun z => by
        rcases z with ⟨z, _⟩ | ⟨i, _, z⟩
        · exact z
        · exact n b (hT b hb) ⟨i, z⟩]
      exact (r'.dom b hb).2
    | pl i p =>
      unfold takeL at e
      cases h1 : cont ρ (.pl i p) with
      | none => rw [h1] at e; cases e
      | some d =>
        cases h2 : takeL ρ as with
        | none => rw [h1, h2] at e; cases e
        | some ds' =>
          rw [h1, h2] at e
          cases e
          obtain ⟨U, r', s⟩ := r.cont c h1
          have hT' := r.2
          subst hT'
          exact .cons (r'.frozen gg fun b hb => gfr_in (.inr ⟨i, hS i (by simp [plS]), (s b hb).elim False.elim id⟩)) (fun _ h => h.elim) (take_reps c S (fun x h => n x (hu x h)) t h2 fun j hj => hS j (by simp [plS, hj])) hu fun _ h => h.elim
/-- names bound one behind the other -/
def setN (I : List Nat) : List Nat → List D → DEnv → Option DEnv
  | [], [], ρ => some ρ
  | i :: is, d :: ds, ρ => if i ∈ I ∨ ¬ i < ρ.length then none else setN I is ds (ρ.set i (some d))
  | _, _, _ => none
def setV : List Nat → List V → L2.St → L2.St
  | i :: is, v :: vs, σ => setV is vs (σ.set i (some v))
  | _, _, σ => σ
theorem setN_cfg {B : Bd} {G H : Hp} {I : List Nat} : ∀ {is : List Nat} {ds : List D} {vs : List V} {σ : L2.St} {ρ ρ' : DEnv} {F : Nat → FP} {Wt : FP}, Cfg B G H σ ρ F → RepTs B G H Wt vs ds → (∀ x, Wt x → ¬ un F x) → setN I is ds ρ = some ρ' →
    ∃ F', Cfg B G H (setV is vs σ) ρ' F' ∧ Prot I σ (setV is vs σ) ∧ ∀ x, un F' x → un F x ∨ Wt x
  | [], _, _, σ, ρ, ρ', F, Wt, c, .nil, n, e => by cases e; exact ⟨F, c, .refl, fun _ h => .inl h⟩
  | [], _, _, σ, ρ, ρ', F, Wt, c, .cons _ _ _ _ _, n, e => by cases e
  | i :: is, _, _, σ, ρ, ρ', F, Wt, c, .nil, n, e => by cases e
  | i :: is, d :: ds, v :: vs, σ, ρ, ρ', F, Wt, c, .cons (T := T) (Wu := Wu) r hT t hu dj, n, e => by
    unfold setN at e
    split at e
    · cases e
    · rename_i hi
      have hi1 : i ∉ I := fun z => hi (.inl z)
      have hi2 : i < ρ.length := Classical.byContradiction fun z => hi (.inr z)
      have c2 := c.setName i r (fun x h => n x (hT x h)) hi2
      obtain ⟨F', c3, p3, w3⟩ := setN_cfg c2 t (fun x h ⟨j, hj⟩ => by
        rcases hj with ⟨_, hj⟩ | ⟨_, hj⟩
        · exact dj x hj h
        · exact n x (hu x h) ⟨j, hj⟩) e
      refine ⟨F', c3, ⟨?_, fun j hj => ?_⟩, fun x hx => ?_⟩
      · show (setV is vs (σ.set i (some v))).length = _
        rw [p3.len]; simp
      · show (setV is vs (σ.set i (some v)))[j]? = _
        rw [p3.at_ j hj, List.getElem?_set_ne (fun z => hi1 (by rw [z]; exact hj))]
      · rcases w3 x hx with ⟨j, hj⟩ | hx
        · rcases hj with ⟨_, hj⟩ | ⟨_, hj⟩
          · exact .inr (hT x hj)
          · exact .inl ⟨j, hj⟩
        · exact .inr (hu x hx)
/-- several names, several values -/
def sAsg (I : List Nat) (is : List Nat) (fs : Ev (List AV)) : Sv := evS fs fun avs ρ => match takeL ρ avs with
  | none => none
  | some ds => (setN I is ds (frzS (plS avs) ρ)).map .nx
theorem asg_end {B : Bd} {W : WX} {I : List Nat} {σ : L2.St} {Dn : Ends} {is : List Nat} {avs : List AV} {ρ1 : DEnv} {vs : List V} {G1 H1 : Hp} {F1 : Nat → FP} {Wt : FP} {o : SOut}
    (ek : (match takeL ρ1 avs with
      | none => none
      | some ds => (setN I is ds (frzS (plS avs) ρ1)).map SOut.nx) = some o) (c1 : Cfg B G1 H1 σ ρ1 F1) (r : RepAs B G1 H1 σ Wt vs avs) (n : ∀ x, Wt x → ¬ un F1 x) (z : endS B W I σ G1 H1 (fun x => un F1 x ∨ Wt x) Dn o) :
    Dn.nx (setV is vs σ) H1 := by
  cases ht : takeL ρ1 avs with
  | none => rw [ht] at ek; cases ek
  | some ds =>
    rw [ht] at ek
    obtain ⟨ρ', e1, rfl⟩ := Option.map_eq_some_iff.mp ek
    obtain ⟨c2, x2⟩ := freeze_cfg (Wt := nof) c1 (fun _ h => h.elim) (plS avs)
    have rr := take_reps c1 (plS avs) n r ht fun i h => h
    obtain ⟨F', c3, p3, w3⟩ := setN_cfg c2 rr (fun x h ⟨j, hj⟩ => n x h ⟨j, hj.1⟩) e1
    have xx : Ext G1 H1 (fun x => un F1 x ∨ Wt x) (gfr G1 H1 (frU G1 H1 F1 nof (plS avs))) H1 (un F') := by
      have x3 := x2.mono (Wa := fun x => un F1 x ∨ Wt x) (Wb := un fun j x => F1 j x ∧ j ∉ plS avs) (fun x h => h.elim .inl False.elim) fun _ h => h
      refine ⟨x3.gg, x3.hh, fun b hb => ?_, x3.gn⟩
      rcases w3 b hb with ⟨j, hj⟩ | h
      · exact .inl (.inl ⟨j, hj.1⟩)
      · exact .inl (.inr h)
    exact z _ _ H1 F' p3 c3 xx
section
variable {ca : Nat → Addr} {X : Cx} {I : List Nat} {st : Stmt} {fe : Ev AV}
/-- x = e -/
theorem ds_set {i : Nat} (h : ∀ (te : TE) (W : WX), (te = tD ⟨X.K, ca⟩ W fe) → Takes X W → PS X st (tAsg te (gName i))) : DS ca X I st (sAsg I [i] (evCons fe evNil)) := fun W tk ps => PS.imp (h _ W rfl tk) fun Dn σ H q => by
  have q2 : tDL ⟨X.K, ca⟩ W (evCons fe evNil) σ H fun vs H1 => Dn.nx (setV [i] vs σ) H1 := tSD_L q fun avs ρ1 vs G1 H1 F1 Wt o ek c1 r n z => asg_end ek c1 r n z
  exact tD_map (tDL_cons q2) fun v H1 k => tDL_nil k
theorem ds_par {i j : Nat} {fs : Ev (List AV)} (h : ∀ (ta : TA) (W : WX), (ta = tDL ⟨X.K, ca⟩ W fs) → Takes X W → PS X st (tPar i j ta)) (h2 : ∀ ρ avs ρ', fs ρ = some (.ok avs ρ') → avs.length = 2) : DS ca X I st (sAsg I [i, j] fs) := fun W tk ps => PS.imp (h _ W rfl tk) fun Dn σ H q => by
  obtain ⟨G, ρ, F, o, c, e, z⟩ := q
  unfold sAsg evS at e
  cases hf : fs ρ with
  | none => rw [hf] at e; cases e
  | some u =>
    rw [hf] at e
    cases u with
    | exc er ρ' => cases e; exact ⟨G, ρ, F, _, c, hf, exc_out z⟩
    | ok avs ρ1 =>
      refine ⟨G, ρ, F, _, c, hf, fun vs G1 H1 F1 Wt c1 r n x => ?_⟩
      have hl := h2 ρ avs ρ1 hf
      have hv : ∃ v w, vs = [v, w] := by
        cases r with
        | nil => cases hl
        | cons r hT t hu dj => cases t with
          | nil => cases hl
          | cons r2 hT2 t2 hu2 dj2 => cases t2 with
            | nil => exact ⟨_, _, rfl⟩
            | cons => cases hl
      obtain ⟨v, w, rfl⟩ := hv
      exact ⟨v, w, rfl, asg_end e c1 r n (endS_trans z .refl x)⟩
theorem lockA_ok {α : Type} {a : AV} {g : Ev α} {ρ ρ' : DEnv} {x : α} (h : lockA a g ρ = some (.ok x ρ')) : ∃ ρ1 ρ2, g ρ1 = some (.ok x ρ2) := by
  have lk : ∀ {i p}, lockE i p g ρ = some (.ok x ρ') → ∃ ρ1 ρ2, g ρ1 = some (.ok x ρ2) := fun {i p} h => by
    cases hc : cont ρ (.pl i p) with
    | none => rw [lockE_no hc] at h; cases h
    | some dd =>
      cases hs : slotOf ρ i with
      | none => rw [cont_pl, hs] at hc; cases hc
      | some d0 =>
        cases hg : g (ρ.set i none) with
        | none => rw [lockE_none hg] at h; cases h
        | some u =>
          cases u with
          | exc e ρ2 => rw [lockE_exc hc hs hg] at h; cases h
          | ok y ρ2 => rw [lockE_ok hc hs hg] at h; cases h; exact ⟨_, _, hg⟩
  cases a with
  | val d => exact ⟨ρ, ρ', h⟩
  | pl i p => cases p with
    | nil => exact ⟨ρ, ρ', h⟩
    | cons s p => exact lk h
theorem evCons_len {fa : Ev AV} {g : Ev (List AV)} {ρ ρ' : DEnv} {avs : List AV} (h : evCons fa g ρ = some (.ok avs ρ')) : ∃ a as ρ1 ρ2, avs = a :: as ∧ g ρ1 = some (.ok as ρ2) := by
  unfold evCons at h
  cases h1 : fa ρ with
  | none => rw [andThen_none h1] at h; cases h
  | some o =>
    cases o with
    | exc e ρ1 => rw [andThen_exc h1] at h; cases h
    | ok a ρ1 =>
      rw [andThen_ok h1] at h
      cases h2 : lockA a g ρ1 with
      | none => rw [andThen_none h2] at h; cases h
      | some o2 =>
        cases o2 with
        | exc e ρ2 => rw [andThen_exc h2] at h; cases h
        | ok as ρ2 =>
          rw [andThen_ok h2] at h
          cases h
          obtain ⟨ρ3, ρ4, h3⟩ := lockA_ok h2
          exact ⟨a, as, ρ3, ρ4, rfl, h3⟩
theorem evCons2_len {fa fb : Ev AV} {ρ ρ' : DEnv} {avs : List AV} (h : evCons fa (evCons fb evNil) ρ = some (.ok avs ρ')) : avs.length = 2 := by
  obtain ⟨a, as, ρ1, ρ2, rfl, h1⟩ := evCons_len h
  obtain ⟨b, bs, ρ3, ρ4, rfl, h2⟩ := evCons_len h1
  cases h2
  rfl
end
end DL
namespace DL
open PySem PySem.Spec PyProof.Rows L2
theorem PathH.snoc {H : Hp} : ∀ {p : List PSt} {v0 v u : V} {s : PSt}, PathH H v0 p v → PathH H v [s] u → PathH H v0 (p ++ [s]) u
  | [], v0, v, u, s, h, k => by cases h; exact k
  | .ix j :: p, v0, v, u, s, h, k => by
    obtain ⟨a, vs, x, e, ha, hu, h⟩ := h
    exact ⟨a, vs, x, e, ha, hu, PathH.snoc h k⟩
  | .fl f :: p, v0, v, u, s, h, k => by
    obtain ⟨a, C, dx, fs, n, x, e, ha, hk, hu, h⟩ := h
    exact ⟨a, C, dx, fs, n, x, e, ha, hk, hu, PathH.snoc h k⟩
  | .ky f :: p, v0, v, u, s, h, k => by
    obtain ⟨a, fs, n, x, e, ha, hk, hu, h⟩ := h
    exact ⟨a, fs, n, x, e, ha, hk, hu, PathH.snoc h k⟩
def ixK : List AV → Ev AV
  | [a, b] => fun ρ => match cont ρ a, cont ρ b with
    | some x, some y => match gIx [x, y] with
      | some d => some (.ok (.val d) ρ)
      | none => match a, x, y with
        | .pl i p, .ol ds, .int k => match ixN ds.length k with
          | some j => if j < ds.length then some (.ok (.pl i (p ++ [.ix j])) ρ) else none
          | none => none
        | _, _, _ => none
    | _, _ => none
  | _ => fun _ => none
def evIx (fa fb : Ev AV) : Ev AV := (evCons fa (evCons fb evNil)).andThen ixK
theorem RepAs.two {B : Bd} {G H : Hp} {σ : L2.St} {Wt : FP} {vs : List V} {a b : AV} (r : RepAs B G H σ Wt vs [a, b]) : ∃ x y T U, vs = [x, y] ∧ RepA B G H σ x a T ∧ RepA B G H σ y b U := by
  cases r with
  | cons r hT t hu dj => cases t with
    | cons r2 hT2 t2 hu2 dj2 => cases t2 with
      | nil => exact ⟨_, _, _, _, rfl, r, r2⟩
theorem RepAs.two' {B : Bd} {G H : Hp} {σ : L2.St} {Wt : FP} {x y : V} {avs : List AV} (r : RepAs B G H σ Wt [x, y] avs) : ∃ a b T U, avs = [a, b] ∧ RepA B G H σ x a T ∧ RepA B G H σ y b U := by
  cases r with
  | cons r hT t hu dj => cases t with
    | cons r2 hT2 t2 hu2 dj2 => cases t2 with
      | nil => exact ⟨_, _, _, _, rfl, r, r2⟩
section
variable {ca : Nat → Addr} {X : Cx} {a b : Expr} {fa fb : Ev AV} {pos : Pos}
theorem de_ix2 (ha : DE ca X a fa) (hb : DE ca X b fb) (hs : PlainIx b) : DE ca X (.Subscript a b pos) (evIx fa fb) :=
  fun W tk => PE.imp (pe_ix ix_seq (ha W tk) (hb W tk) hs) fun σ H Q h => by
    obtain ⟨G, ρ, F, o, c, e, z⟩ := h
    have q2 : tDL ⟨X.K, ca⟩ W (evCons fa (evCons fb evNil)) σ H fun vs H1 => ∀ x y, vs = [x, y] → rIx X.K x y H1 Q := by
      refine tDL_bind c e (fun er ρ' eo => by subst eo; exact z) fun avs ρ1 vs G1 H1 F1 Wt ek c1 r1 n1 x1 x y hv => ?_
      subst hv
      have x1' : Ext G H (un F) G1 H1 (un F1) := x1.mono (fun _ h => h) fun _ h => .inl h
      obtain ⟨a1, b1, T, U, rfl, rx, ry⟩ := r1.two'
      clear r1
      unfold ixK at ek
      dsimp only at ek
      cases ha1 : cont ρ1 a1 with
      | none => rw [ha1] at ek; cases ek
      | some dx =>
        cases hb1 : cont ρ1 b1 with
        | none => rw [ha1, hb1] at ek; cases ek
        | some dy =>
          rw [ha1, hb1] at ek
          dsimp only at ek
          obtain ⟨U1, r1, s1⟩ := rx.cont c1 ha1
          obtain ⟨U2, r2, s2⟩ := ry.cont c1 hb1
          cases hg : gIx [dx, dy] with
          | some d =>
            rw [hg] at ek
            cases ek
            have fin : ∀ {v}, Rep ⟨X.K, ca⟩ G1 H1 v d nof → Q v H1 := fun {v} r => z v G1 H1 F1 nof c1 r (fun _ h => h.elim) (x1'.mono (fun _ h => h) fun x h => h.elim id False.elim)
            unfold gIx at hg
            split at hg
            · rename_i zz i heq
              cases heq; cases r1; cases r2
              split at hg
              · rename_i hz
                obtain ⟨ch, e1, rfl⟩ := Option.map_eq_some_iff.mp hg
                exact .inr (.inr ⟨zz, i, ch, rfl, rfl, by rw [sizeLine_eq]; exact hz, e1, fin (.str _)⟩)
              · cases hg
            · rename_i x' i _ heq
              cases heq; cases r2
              split at hg
              · rename_i ds h1
                split at hg
                · rename_i d' h2
                  split at hg
                  · rename_i hs
                    cases hg
                    obtain ⟨a1, vs1, rfl, hq, l1, cc⟩ := r1.seq c1.sub h1
                    obtain ⟨w, j, e1, e2, e3⟩ := atI_pair l1 h2
                    obtain ⟨U, r⟩ := cc j w d e2 e3
                    have fin := fin (rep_sh r hs)
                    rcases hq with hq | hq
                    · exact .inl ⟨a1, vs1, i, w, rfl, rfl, hq, e1, fin⟩
                    · exact .inr (.inl ⟨a1, vs1, i, w, rfl, rfl, hq, e1, fin⟩)
                  · cases hg
                · cases hg
              · cases hg
            · cases hg
          | none =>
            rw [hg] at ek
            dsimp only at ek
            split at ek
            · rename_i i p ds k
              split at ek
              · rename_i j hj
                split at ek
                · rename_i hl
                  cases ek
                  cases r2
                  obtain ⟨⟨v0, e0, hp⟩, rfl⟩ := rx
                  cases r1 with
                  | ol h' g' l' c' bd dj na =>
                    rename_i aa vs1 FF
                    have hl1 : j < vs1.length := by rw [l']; exact hl
                    refine .inl ⟨aa, vs1, k, vs1[j], rfl, rfl, .of h', ?_, ?_⟩
                    · unfold atI
                      rw [l', hj]
                      exact List.getElem?_eq_getElem hl1
                    · refine z _ G1 H1 F1 nof c1 ⟨⟨v0, e0, hp.snoc ⟨aa, vs1, vs1[j], rfl, h', List.getElem?_eq_getElem hl1, rfl⟩⟩, rfl⟩ (fun _ h => h.elim) (x1'.mono (fun _ h => h) fun x h => h.elim id False.elim)
                · cases ek
              · cases ek
            · cases ek
    exact tD_map (tDL_cons q2) fun x H1 k => tD_map (tDL_cons k) fun y H2 k => tDL_nil k x y rfl
end
def evChk (chk : D → Bool) (f : Ev AV) : Ev AV := f.andThen fun a ρ => match cont ρ a with
  | some d => if chk d = true then some (.ok a ρ) else none
  | none => none
theorem tD_chk {B : Bd} {W : WX} {σ : L2.St} {H : Hp} {chk : D → Bool} {f : Ev AV} {P : V → Hp → Prop} {Q : VK} (hP : ∀ G H v d U, (∀ b o, G b = some o → H b = some o) → Rep B G H v d U → chk d = true → P v H)
    (h : tD B W (evChk chk f) σ H Q) : tD B W f σ H fun v H1 => P v H1 ∧ Q v H1 := by
  obtain ⟨G, ρ, F, o, c, e, z⟩ := h
  refine tD_bind c e (fun er ρ' eo => by subst eo; exact z) fun av ρ1 v G1 H1 F1 T ek c1 r1 n1 x1 => ?_
  cases hc : cont ρ1 av with
  | none => rw [hc] at ek; cases ek
  | some d =>
    rw [hc] at ek
    dsimp only at ek
    split at ek
    · rename_i hk
      cases ek
      obtain ⟨U, r, _⟩ := r1.cont c1 hc
      exact ⟨hP _ _ _ _ _ c1.sub r hk, z v G1 H1 F1 T c1 r1 n1 x1⟩
    · cases ek
def isLst : D → Bool
  | .lst _ => true | .ol _ => true | .frl _ => true
  | _ => false
def isStr : D → Bool
  | .str _ => true
  | _ => false
def tyOk (T : String) (chk : D → Bool) : Prop := ∀ (B : Bd) G H v d U, (∀ b o, G b = some o → H b = some o) → Rep B G H v d U → chk d = true → tyV B.K T v H
theorem ty_str : tyOk "str" isStr := fun B G H v d U s r h => by
  cases r with
  | str x => rfl
  | _ => cases h
def MethD (ca : Nat → Addr) (X : Cx) (id : String) (g : List D → Option D) : Prop := MtR X id fun x xs H Q => rDL ⟨X.K, ca⟩ g (x :: xs) H Q
section
variable {ca : Nat → Addr} {X : Cx} {o e : Expr} {es : List Expr} {fo : Ev AV} {fs : Ev (List AV)} {name : Str} {apos cpos : Pos} {T id : String} {g : List D → Option D} {chk : D → Bool}
theorem de_bm (hk : tyOk T chk) (pa : PlainAttrs T) (slot : Slot T name id) (hty : typeOf (.builtin id) = pure (.type "method_descriptor")) (hm : MethD ca X id g) (ho : DE ca X o fo) (ha : DA ca X (e :: es) fs)
    (hbase : attributeBase o name X.env (eval o X.env) = eval o X.env := by rfl)
    (hfew : ((backTo cpos (starEach (e :: es) X.env)).all (fun x => !x.1) && (backToKw cpos (keywordEach [] X.env)).all (fun x => x.1.isSome)
      && decide ((e :: es).length + ([] : List Keyword).length + (if ([] : List Keyword).isEmpty then 0 else 1) < 30)) = true := by rfl)
    (hline : (apos.endLine == cpos.line) = true := by rfl) (hs : starEach (e :: es) X.env = (false, eval e X.env) :: starEach es X.env := by rfl) (hplain : (backTo cpos (starEach es X.env)).any (·.1) = false := by rfl) :
    DE ca X (.Call (.Attribute o name apos) (e :: es) [] cpos) (evOp g (evCons (evChk chk fo) fs)) := fun W tk =>
  PE.imp (pe_bm pa slot hty hm (ho W tk) (ha W tk) hbase hfew hline hs hplain) fun σ H Q h => tD_chk (hk ⟨X.K, ca⟩) (tDL_cons (tD_op h))
end
/-- what is done at U, seen from T -/
structure Nea (G H : Hp) (T U : FP) (G' H' : Hp) (U' : FP) : Prop where
  gg : ∀ b o, G b = some o → G' b = some o
  fr : ∀ b, T b → ¬ U b → H' b = H b ∧ G' b = none
  ww : ∀ b, U' b → T b → U b
theorem Nea.sub {G H G' H' : Hp} {T S U U' : FP} (x : Nea G H T U G' H' U') (h : ∀ b, S b → T b) : Nea G H S U G' H' U' := ⟨x.gg, fun b hb => x.fr b (h b hb), fun b hu hs => x.ww b hu (h b hs)⟩
theorem Ext.loc {B : Bd} {G H G' H' : Hp} {U U' T : FP} {v : V} {d : D} (x : Ext G H U G' H' U') (r : Rep B G H v d T) : Nea G H T U G' H' U' := by
  refine ⟨x.gg, fun b hb nu => ?_, fun b hu ht => ?_⟩
  case refine_2 =>
    rcases x.ww b hu with z | z
    · exact z
    · obtain ⟨⟨o, eo⟩, _⟩ := r.dom b ht
      rw [eo] at z; cases z
  obtain ⟨⟨o, eo⟩, g⟩ := r.dom b hb
  refine ⟨(x.hh b o eo nu).trans eo.symm, ?_⟩
  cases w : G' b with
  | none => rfl
  | some u =>
    rcases x.gn b u w with w | w | w
    · rw [g] at w; cases w
    · exact (nu w).elim
    · rw [eo] at w; cases w
/-- the part at a path is changed -/
theorem PathH.put' {B : Bd} {G H : Hp} : ∀ {p : List PSt} {v0 v : V} {d0 d : D} {T : FP}, Rep B G H v0 d0 T → getP d0 p = some d → PathH H v0 p v →
    ∃ U, Rep B G H v d U ∧ (∀ x, U x → T x) ∧ ∀ G' H' U' e, Nea G H T U G' H' U' → Rep B G' H' v e U' → ∃ e0, putP d0 p e = some e0 ∧ Rep B G' H' v0 e0 (fun y => (T y ∧ ¬ U y) ∨ U' y)
  | [], v0, v, d0, d, T, r, e, h => by
    cases h; cases e
    refine ⟨T, r, fun _ h => h, fun G' H' U' e x r' => ⟨e, rfl, ?_⟩⟩
    have en : (fun y => (T y ∧ ¬ T y) ∨ U' y) = U' := by funext y; exact propext ⟨fun z => z.elim (fun z => absurd z.1 z.2) id, .inr⟩
    rw [en]; exact r'
  | .ix j :: p, v0, v, d0, d, T, r, e, h => by
    obtain ⟨a, vs, u, rfl, ha, hu, h⟩ := h
    have rr := r
    cases r with
    | ol h' g l c bd dj na =>
      rename_i ds FF
      rw [h'] at ha; cases ha
      unfold getP at e
      split at e
      · rename_i d1 e2
        obtain ⟨U, r1, s1, k⟩ := PathH.put' (c j u d1 hu e2) e h
        refine ⟨U, r1, fun x hx => .inr ⟨j, s1 x hx⟩, fun G' H' U' q x r' => ?_⟩
        obtain ⟨e0, p0, r0⟩ := k G' H' U' q (x.sub fun b hb => .inr ⟨j, hb⟩) r'
        have hj : j < ds.length := (List.getElem?_eq_some_iff.mp e2).1
        have nU : ∀ {y}, U y → ∀ {o}, H y = some o → FF j y := fun hy _ _ => s1 _ hy
        have na' : ¬ U a := fun z => na j (s1 a z)
        have ia : ∀ {y}, U' y → y ≠ a := fun {y} hy z => by
          subst z
          exact na' (x.ww _ hy (.inl rfl))
        refine ⟨.ol (ds.set j e0), by unfold putP; rw [e2]; dsimp only; rw [p0]; rfl, ?_⟩
        have re := Rep.ol (B := B) (G := G') (H := H') (a := a) (vs := vs) (ds := ds.set j e0) (F := fun i y => (i = j ∧ ((FF j y ∧ ¬ U y) ∨ U' y)) ∨ (i ≠ j ∧ FF i y)) ((x.fr a (.inl rfl) na').1.trans h') (x.fr a (.inl rfl) na').2 (by simpa using l) (fun i v' d' q1 q2 => ?_) (fun i y hy => ?_) (fun i i' y a1 a2 => ?_) (fun i hy => ?_)
        · have en : (fun y => y = a ∨ ∃ i, (i = j ∧ ((FF j y ∧ ¬ U y) ∨ U' y)) ∨ (i ≠ j ∧ FF i y)) = fun y => ((y = a ∨ ∃ i, FF i y) ∧ ¬ U y) ∨ U' y := by
            funext y
            refine propext ⟨fun z => ?_, fun z => ?_⟩
            · rcases z with rfl | ⟨i, ⟨rfl, ⟨z1, z2⟩ | z⟩ | ⟨z1, z2⟩⟩
              · exact .inl ⟨.inl rfl, na'⟩
              · exact .inl ⟨.inr ⟨i, z1⟩, z2⟩
              · exact .inr z
              · exact .inl ⟨.inr ⟨i, z2⟩, fun w => z1 (dj i j y z2 (s1 y w))⟩
            · rcases z with ⟨rfl | ⟨i, z1⟩, z2⟩ | z
              · exact .inl rfl
              · by_cases hi : i = j
                · subst hi; exact .inr ⟨i, .inl ⟨rfl, .inl ⟨z1, z2⟩⟩⟩
                · exact .inr ⟨i, .inr ⟨hi, z1⟩⟩
              · exact .inr ⟨j, .inl ⟨rfl, .inr z⟩⟩
          rw [en] at re
          exact re
        · by_cases hi : i = j
          · subst hi
            rw [List.getElem?_set_self hj] at q2
            cases q2
            rw [hu] at q1; cases q1
            have en : (fun y => (i = i ∧ ((FF i y ∧ ¬ U y) ∨ U' y)) ∨ (i ≠ i ∧ FF i y)) = fun y => (FF i y ∧ ¬ U y) ∨ U' y := by funext y; exact propext ⟨fun z => z.elim (·.2) fun z => absurd rfl z.1, fun z => .inl ⟨rfl, z⟩⟩
            rw [en]; exact r0
          · rw [List.getElem?_set_ne (Ne.symm hi)] at q2
            have en : (fun y => (i = j ∧ ((FF j y ∧ ¬ U y) ∨ U' y)) ∨ (i ≠ j ∧ FF i y)) = FF i := by funext y; exact propext ⟨fun z => z.elim (fun z => absurd z.1 hi) (·.2), fun z => .inr ⟨hi, z⟩⟩
            rw [en]
            exact (c i v' d' q1 q2).keep x.gg fun b hb => x.fr b (.inr ⟨i, hb⟩) fun w => hi (dj i j b hb (s1 b w))
        · rw [List.length_set]
          rcases hy with ⟨rfl, _⟩ | ⟨_, hy⟩
          · exact hj
          · exact bd i y hy
        · have un : ∀ {i'}, i' ≠ j → FF i' y → ((FF j y ∧ ¬ U y) ∨ U' y) → False := fun {i'} h1 h2 h3 => by
            rcases h3 with h3 | h3
            · exact h1 (dj i' j y h2 h3.1)
            · exact h1 (dj i' j y h2 (s1 y (x.ww y h3 (.inr ⟨i', h2⟩))))
          rcases a1 with ⟨rfl, a1⟩ | ⟨h1, a1⟩ <;> rcases a2 with ⟨rfl, a2⟩ | ⟨h2, a2⟩
          · rfl
          · exact (un h2 a2 a1).elim
          · exact (un h1 a1 a2).elim
          · exact dj i i' y a1 a2
        · rcases hy with ⟨rfl, hy | hy⟩ | ⟨_, hy⟩
          · exact na _ hy.1
          · exact ia hy rfl
          · exact na i hy
      · cases e
    | _ => simp [getP] at e
  | .fl f :: p, v0, v, d0, d, T, r, e, h => by
    obtain ⟨a, C, dx, fs, n, u, rfl, ha, hk, hu, h⟩ := h
    have rr := r
    cases r with
    | oi h' ho g g2 l c bd dj na na2 =>
      rename_i cc fs0 ds FF
      rw [h'] at ha; cases ha
      unfold getP at e
      have hk' := hk
      rw [kIdx_keys f l] at hk'
      rw [hk'] at e
      dsimp only at e
      split at e
      · rename_i f' d1 e2
        obtain ⟨U, r1, s1, k⟩ := PathH.put' (c n f u f' d1 hu e2) e h
        have hff : f' = f := by
          obtain ⟨x1, y1, _⟩ := kIdx_get hk'
          rw [e2] at y1
          cases y1; rfl
        subst hff
        refine ⟨U, r1, fun x hx => .inr (.inr ⟨n, s1 x hx⟩), fun G' H' U' q x r' => ?_⟩
        obtain ⟨e0, p0, r0⟩ := k G' H' U' q (x.sub fun b hb => .inr (.inr ⟨n, hb⟩)) r'
        have hj : n < ds.length := (List.getElem?_eq_some_iff.mp e2).1
        have na' : ¬ U a := fun z => na n (s1 a z)
        have na2' : ¬ U dx := fun z => na2 n (s1 dx z)
        have ia : ∀ {y}, U' y → y ≠ a := fun {y} hy z => by
          subst z
          exact na' (x.ww _ hy (.inl rfl))
        have ia2 : ∀ {y}, U' y → y ≠ dx := fun {y} hy z => by
          subst z
          exact na2' (x.ww _ hy (.inr (.inl rfl)))
        refine ⟨.oi cc (ds.set n (f', e0)), by unfold putP; rw [hk']; dsimp only; rw [e2]; dsimp only; rw [p0]; rfl, ?_⟩
        have re := Rep.oi (B := B) (G := G') (H := H') (a := a) (dx := dx) (c := cc) (fs := fs) (ds := ds.set n (f', e0)) (F := fun i y => (i = n ∧ ((FF n y ∧ ¬ U y) ∨ U' y)) ∨ (i ≠ n ∧ FF i y)) ((x.fr a (.inl rfl) na').1.trans h') ((x.fr dx (.inr (.inl rfl)) na2').1.trans ho) (x.fr a (.inl rfl) na').2 (x.fr dx (.inr (.inl rfl)) na2').2 ?_ (fun i q1 v' q2 d' w1 w2 => ?_) (fun i y hy => ?_) (fun i i' y a1 a2 => ?_) (fun i hy => ?_) (fun i hy => ?_)
        · have en : (fun y => y = a ∨ y = dx ∨ ∃ i, (i = n ∧ ((FF n y ∧ ¬ U y) ∨ U' y)) ∨ (i ≠ n ∧ FF i y)) = fun y => ((y = a ∨ y = dx ∨ ∃ i, FF i y) ∧ ¬ U y) ∨ U' y := by
            funext y
            refine propext ⟨fun z => ?_, fun z => ?_⟩
            · rcases z with rfl | rfl | ⟨i, ⟨rfl, ⟨z1, z2⟩ | z⟩ | ⟨z1, z2⟩⟩
              · exact .inl ⟨.inl rfl, na'⟩
              · exact .inl ⟨.inr (.inl rfl), na2'⟩
              · exact .inl ⟨.inr (.inr ⟨i, z1⟩), z2⟩
              · exact .inr z
              · exact .inl ⟨.inr (.inr ⟨i, z2⟩), fun w => z1 (dj i n y z2 (s1 y w))⟩
            · rcases z with ⟨rfl | rfl | ⟨i, z1⟩, z2⟩ | z
              · exact .inl rfl
              · exact .inr (.inl rfl)
              · by_cases hi : i = n
                · subst hi; exact .inr (.inr ⟨i, .inl ⟨rfl, .inl ⟨z1, z2⟩⟩⟩)
                · exact .inr (.inr ⟨i, .inr ⟨hi, z1⟩⟩)
              · exact .inr (.inr ⟨n, .inl ⟨rfl, .inr z⟩⟩)
          rw [en] at re
          exact re
        · rw [l]
          have e3 : (ds.map (·.1))[n]? = some f' := by rw [List.getElem?_map, e2]; rfl
          refine List.ext_getElem? fun m => ?_
          rw [List.getElem?_map, List.getElem?_map]
          by_cases hm : m = n
          · subst hm; rw [List.getElem?_set_self hj, e2]; rfl
          · rw [List.getElem?_set_ne (Ne.symm hm)]
        · by_cases hi : i = n
          · subst hi
            rw [List.getElem?_set_self hj] at w2
            cases w2
            rw [hu] at w1; cases w1
            have en : (fun y => (i = i ∧ ((FF i y ∧ ¬ U y) ∨ U' y)) ∨ (i ≠ i ∧ FF i y)) = fun y => (FF i y ∧ ¬ U y) ∨ U' y := by funext y; exact propext ⟨fun z => z.elim (·.2) fun z => absurd rfl z.1, fun z => .inl ⟨rfl, z⟩⟩
            rw [en]; exact r0
          · rw [List.getElem?_set_ne (Ne.symm hi)] at w2
            have en : (fun y => (i = n ∧ ((FF n y ∧ ¬ U y) ∨ U' y)) ∨ (i ≠ n ∧ FF i y)) = FF i := by funext y; exact propext ⟨fun z => z.elim (fun z => absurd z.1 hi) (·.2), fun z => .inr ⟨hi, z⟩⟩
            rw [en]
            exact (c i q1 v' q2 d' w1 w2).keep x.gg fun b hb => x.fr b (.inr (.inr ⟨i, hb⟩)) fun w => hi (dj i n b hb (s1 b w))
        · rw [List.length_set]
          rcases hy with ⟨rfl, _⟩ | ⟨_, hy⟩
          · exact hj
          · exact bd i y hy
        · have un : ∀ {i'}, i' ≠ n → FF i' y → ((FF n y ∧ ¬ U y) ∨ U' y) → False := fun {i'} h1 h2 h3 => by
            rcases h3 with h3 | h3
            · exact h1 (dj i' n y h2 h3.1)
            · exact h1 (dj i' n y h2 (s1 y (x.ww y h3 (.inr (.inr ⟨i', h2⟩)))))
          rcases a1 with ⟨rfl, a1⟩ | ⟨h1, a1⟩ <;> rcases a2 with ⟨rfl, a2⟩ | ⟨h2, a2⟩
          · rfl
          · exact (un h2 a2 a1).elim
          · exact (un h1 a1 a2).elim
          · exact dj i i' y a1 a2
        · rcases hy with ⟨rfl, hy | hy⟩ | ⟨_, hy⟩
          · exact na _ hy.1
          · exact ia hy rfl
          · exact na i hy
        · rcases hy with ⟨rfl, hy | hy⟩ | ⟨_, hy⟩
          · exact na2 _ hy.1
          · exact ia2 hy rfl
          · exact na2 i hy
      · cases e
    | _ => simp [getP] at e
  | .ky f :: p, v0, v, d0, d, T, r, e, h => by
    obtain ⟨a, fs, n, u, rfl, ha, hk, hu, h⟩ := h
    have rr := r
    cases r with
    | od h' g l c bd dj na =>
      rename_i fs0 ds FF
      rw [h'] at ha; cases ha
      unfold getP at e
      have hk' := hk
      rw [kIdx_keys f l] at hk'
      rw [hk'] at e
      dsimp only at e
      split at e
      · rename_i f' d1 e2
        obtain ⟨U, r1, s1, k⟩ := PathH.put' (c n f u f' d1 hu e2) e h
        have hff : f' = f := by
          obtain ⟨x1, y1⟩ := kIdx_at hk'
          rw [e2] at y1
          cases y1; rfl
        subst hff
        refine ⟨U, r1, fun x hx => .inr ⟨n, s1 x hx⟩, fun G' H' U' q x r' => ?_⟩
        obtain ⟨e0, p0, r0⟩ := k G' H' U' q (x.sub fun b hb => .inr ⟨n, hb⟩) r'
        have hj : n < ds.length := (List.getElem?_eq_some_iff.mp e2).1
        have na' : ¬ U a := fun z => na n (s1 a z)
        have ia : ∀ {y}, U' y → y ≠ a := fun {y} hy z => by
          subst z
          exact na' (x.ww _ hy (.inl rfl))
        refine ⟨.od (ds.set n (f', e0)), by unfold putP; rw [hk']; dsimp only; rw [e2]; dsimp only; rw [p0]; rfl, ?_⟩
        have re := Rep.od (B := B) (G := G') (H := H') (a := a) (kvs := fs) (ds := ds.set n (f', e0)) (F := fun i y => (i = n ∧ ((FF n y ∧ ¬ U y) ∨ U' y)) ∨ (i ≠ n ∧ FF i y)) ((x.fr a (.inl rfl) na').1.trans h') (x.fr a (.inl rfl) na').2 ?_ (fun i q1 v' q2 d' w1 w2 => ?_) (fun i y hy => ?_) (fun i i' y a1 a2 => ?_) (fun i hy => ?_)
        · have en : (fun y => y = a ∨ ∃ i, (i = n ∧ ((FF n y ∧ ¬ U y) ∨ U' y)) ∨ (i ≠ n ∧ FF i y)) = fun y => ((y = a ∨ ∃ i, FF i y) ∧ ¬ U y) ∨ U' y := by
            funext y
            refine propext ⟨fun z => ?_, fun z => ?_⟩
            · rcases z with rfl | ⟨i, ⟨rfl, ⟨z1, z2⟩ | z⟩ | ⟨z1, z2⟩⟩
              · exact .inl ⟨.inl rfl, na'⟩
              · exact .inl ⟨.inr ⟨i, z1⟩, z2⟩
              · exact .inr z
              · exact .inl ⟨.inr ⟨i, z2⟩, fun w => z1 (dj i n y z2 (s1 y w))⟩
            · rcases z with ⟨rfl | ⟨i, z1⟩, z2⟩ | z
              · exact .inl rfl
              · by_cases hi : i = n
                · subst hi; exact .inr ⟨i, .inl ⟨rfl, .inl ⟨z1, z2⟩⟩⟩
                · exact .inr ⟨i, .inr ⟨hi, z1⟩⟩
              · exact .inr ⟨n, .inl ⟨rfl, .inr z⟩⟩
          rw [en] at re
          exact re
        · have hl : ds[n]? = some (f', d1) := e2
          rw [l]
          refine List.ext_getElem? fun i => ?_
          rw [List.getElem?_map, List.getElem?_map]
          by_cases hi : n = i
          · subst hi
            rw [List.getElem?_set_self hj, hl]; rfl
          · rw [List.getElem?_set_ne hi]
        · by_cases hi : i = n
          · subst hi
            rw [List.getElem?_set_self hj] at w2
            cases w2
            rw [hu] at w1; cases w1
            have en : (fun y => (i = i ∧ ((FF i y ∧ ¬ U y) ∨ U' y)) ∨ (i ≠ i ∧ FF i y)) = fun y => (FF i y ∧ ¬ U y) ∨ U' y := by funext y; exact propext ⟨fun z => z.elim (·.2) fun z => absurd rfl z.1, fun z => .inl ⟨rfl, z⟩⟩
            rw [en]; exact r0
          · rw [List.getElem?_set_ne (Ne.symm hi)] at w2
            have en : (fun y => (i = n ∧ ((FF n y ∧ ¬ U y) ∨ U' y)) ∨ (i ≠ n ∧ FF i y)) = FF i := by funext y; exact propext ⟨fun z => z.elim (fun z => absurd z.1 hi) (·.2), fun z => .inr ⟨hi, z⟩⟩
            rw [en]
            exact (c i q1 v' q2 d' w1 w2).keep x.gg fun b hb => x.fr b (.inr ⟨i, hb⟩) fun w => hi (dj i n b hb (s1 b w))
        · rw [List.length_set]
          rcases hy with ⟨rfl, _⟩ | ⟨_, hy⟩
          · exact hj
          · exact bd i y hy
        · have un : ∀ {i'}, i' ≠ n → FF i' y → ((FF n y ∧ ¬ U y) ∨ U' y) → False := fun {i'} h1 h2 h3 => by
            rcases h3 with h3 | h3
            · exact h1 (dj i' n y h2 h3.1)
            · exact h1 (dj i' n y h2 (s1 y (x.ww y h3 (.inr ⟨i', h2⟩))))
          rcases a1 with ⟨rfl, a1⟩ | ⟨h1, a1⟩ <;> rcases a2 with ⟨rfl, a2⟩ | ⟨h2, a2⟩
          · rfl
          · exact (un h2 a2 a1).elim
          · exact (un h1 a1 a2).elim
          · exact dj i i' y a1 a2
        · rcases hy with ⟨rfl, hy | hy⟩ | ⟨_, hy⟩
          · exact na _ hy.1
          · exact ia hy rfl
          · exact na i hy
      · cases e
    | _ => simp [getP] at e
theorem PathH.put {B : Bd} {G H : Hp} {p : List PSt} {v0 v : V} {d0 d : D} {T : FP} (r : Rep B G H v0 d0 T) (e : getP d0 p = some d) (h : PathH H v0 p v) :
    ∃ U, Rep B G H v d U ∧ (∀ x, U x → T x) ∧ ∀ G' H' U' e, Ext G H U G' H' U' → Rep B G' H' v e U' → ∃ e0, putP d0 p e = some e0 ∧ Rep B G' H' v0 e0 (fun y => (T y ∧ ¬ U y) ∨ U' y) := by
  obtain ⟨U, a, b, k⟩ := PathH.put' r e h
  exact ⟨U, a, b, fun G' H' U' e x r' => k G' H' U' e (x.loc r) r'⟩
end DL
namespace DL
open PySem PySem.Spec PyProof.Rows L2
def mutK (gm : D → List D → Option (D × D)) (ex : List D) : List AV → Ev AV
  | .pl i p :: as => fun ρ => match conts ρ as, slotOf (frzS (plS as) ρ) i with
    | some ds, some d0 => match getP d0 p with
      | some d => match gm d (ds.map frz ++ ex) with
        | some (d', r) => if r.sh = true then (putP d0 p d').map fun e => .ok (.val r) ((frzS (plS as) ρ).set i (some e)) else none
        | none => none
      | none => none
    | _, _ => none
  | _ => fun _ => none
def rMu (B : Bd) (gm : D → List D → Option (D × D)) : V → List V → Hp → VK → Prop := fun x xs H Q => ∃ G d U ds d' r, (∀ b o, G b = some o → H b = some o) ∧ Rep B G H x d U ∧ Paired (fun v d => Rep B G H v d nof) xs ds ∧ gm d ds = some (d', r) ∧
  ∀ v G' H' U', (∀ b o, G' b = some o → H' b = some o) → Rep B G' H' x d' U' → Rep B G' H' v r nof → Ext G H U G' H' U' → Q v H'
section
variable {B : Bd} {W : WX} {σ : L2.St}
theorem paired_append {α β : Type} {R : α → β → Prop} : ∀ {xs : List α} {ys : List β} {us : List α} {ws : List β}, Paired R xs ys → Paired R us ws → Paired R (xs ++ us) (ys ++ ws)
  | _, _, _, _, .nil, h => h
  | _, _, _, _, .cons r t, h => .cons r (paired_append t h)
theorem mut_end {gm : D → List D → Option (D × D)} {G1 H1 : Hp} {ρ : DEnv} {F : Nat → FP} {Wt : FP} {x : V} {xs : List V} {avs : List AV} {ex : List D} {xe : List V} {o : Out AV} {Q : VK} (c : Cfg B G1 H1 σ ρ F) (r : RepAs B G1 H1 σ Wt (x :: xs) avs) (n : ∀ y, Wt y → ¬ un F y)
    (hx : Paired (fun v d => Rep B G1 H1 v d nof) xe ex) (e : mutK gm ex avs ρ = some o) (z : endE B W σ G1 H1 (fun y => un F y ∨ Wt y) Q o) : rMu B gm x (xs ++ xe) H1 Q := by
  cases r with
  | cons rx hT t hu dj =>
    rename_i Wu T a as
    cases a with
    | val d => cases e
    | pl i p =>
      obtain ⟨⟨v0, e0, hp⟩, rfl⟩ := rx
      unfold mutK at e
      dsimp only at e
      cases h1 : conts ρ as with
      | none => rw [h1] at e; cases e
      | some ds =>
        cases h2 : slotOf (frzS (plS as) ρ) i with
        | none => rw [h1, h2] at e; cases e
        | some d0 =>
          rw [h1, h2] at e
          dsimp only at e
          cases h3 : getP d0 p with
          | none => rw [h3] at e; cases e
          | some d =>
            rw [h3] at e
            dsimp only at e
            cases h4 : gm d (ds.map frz ++ ex) with
            | none => rw [h4] at e; cases e
            | some q =>
              obtain ⟨d', y⟩ := q
              rw [h4] at e
              dsimp only at e
              split at e
              · rename_i hy
                obtain ⟨e1, h5, rfl⟩ := Option.map_eq_some_iff.mp e
                have n2 : ∀ y, Wu y → ¬ un F y := fun y h => n y (hu y h)
                obtain ⟨c2, x2⟩ := freeze_cfg c n2 (plS as)
                have rs := freeze_reps c n2 (plS as) t h1 fun i h => h
                obtain ⟨v0', e0', r0⟩ := c2.at h2
                rw [e0] at e0'
                cases e0'
                obtain ⟨U, rU, sU, k⟩ := hp.put r0 h3
                refine ⟨_, d, U, _, d', y, c2.sub, rU, paired_append rs (L2.Paired.mapP hx fun v d r => r.stay x2), h4, fun v G' H' U' s' r1 r2 x3 => ?_⟩
                obtain ⟨e2, k1, k2⟩ := k _ _ _ _ x3 r1
                rw [h5] at k1
                cases k1
                have cd := (c2.drop i).apart x3 s' fun b ⟨j, hj⟩ hb => hj.2 (c2.dis j i b hj.1 (sU b hb))
                have ap : ∀ y, (F i y ∧ i ∉ plS as) → ∀ j, (F j y ∧ j ∉ plS as) → j = i := fun y h j hj => c2.dis j i y hj h
                have cn := cd.put i e0 k2 fun y hy j hj => by
                  rcases hy with ⟨hy, _⟩ | hy
                  · exact ap y hy j hj.1
                  · rcases x3.ww y hy with w | w
                    · exact ap y (sU y w) j hj.1
                    · obtain ⟨⟨oo, eo⟩, _⟩ := c2.dom ⟨j, hj.1⟩
                      rw [eo] at w; cases w
                rw [List.set_set] at cn
                refine z v G' H' _ nof cn r2 (fun _ h => h.elim) ?_
                have x4 := (x2.mono (Wa := fun y => un F y ∨ Wt y) (Wb := un fun j y => F j y ∧ j ∉ plS as) (fun y h => h.imp id (hu y)) fun _ h => h).trans (x3.mono (Wa := un fun j y => F j y ∧ j ∉ plS as) (Wb := U') (fun y h => ⟨i, sU y h⟩) fun _ h => h)
                refine ⟨x4.gg, x4.hh, fun b hb => ?_, x4.gn⟩
                rcases hb with ⟨j, ⟨_, ⟨hb, _⟩ | hb⟩ | ⟨_, hb⟩⟩ | hb
                · exact .inl (.inl ⟨i, hb.1⟩)
                · exact x4.ww b hb
                · exact .inl (.inl ⟨j, hb.1.1⟩)
                · exact hb.elim
              · cases e
end
def evMut (gm : D → List D → Option (D × D)) (fs : Ev (List AV)) : Ev AV := fs.andThen (mutK gm [])
theorem tDL_map {B : Bd} {W : WX} {σ : L2.St} {H : Hp} {f : Ev (List AV)} {Q Q' : List V → Hp → Prop} (h : tDL B W f σ H Q) (k : ∀ v H', Q v H' → Q' v H') : tDL B W f σ H Q' := by
  obtain ⟨G, ρ, F, o, c, e, z⟩ := h
  refine ⟨G, ρ, F, o, c, e, ?_⟩
  cases o with
  | ok av ρ' => exact fun v G' H' F' T c r n x => k _ _ (z v G' H' F' T c r n x)
  | exc er ρ' => exact z
/-- an own list's items change; m tells where each of the new ones stood -/
theorem ol_change {B : Bd} {G H : Hp} {a : Addr} {ds : List D} {U : FP} (r : Rep B G H (.ref a) (.ol ds) U) : ∃ vs, H a = some (.lst vs) ∧ vs.length = ds.length ∧ ∀ (vs' : List V) (ds' : List D) (m : Nat → Option Nat), vs'.length = ds'.length → (∀ i j k, m i = some k → m j = some k → i = j) →
    (∀ (i : Nat) v d, vs'[i]? = some v → ds'[i]? = some d → (∃ j, m i = some j ∧ vs[j]? = some v ∧ ds[j]? = some d) ∨ (m i = none ∧ Rep B G H v d nof)) → ∃ U', Rep B G (upd H a (.lst vs')) (.ref a) (.ol ds') U' ∧ Ext G H U G (upd H a (.lst vs')) U' := by
  have rr := r
  cases r with
  | ol h g l c bd dj na =>
    rename_i vs FF
    refine ⟨vs, h, l, fun vs' ds' m l' mi k => ?_⟩
    refine ⟨fun y => y = a ∨ ∃ i, ∃ j, m i = some j ∧ i < ds'.length ∧ FF j y, ?_, ⟨fun _ _ e => e, fun b o e nb => ?_, fun b hb => .inl ?_, fun _ _ e => .inl e⟩⟩
    · refine Rep.ol (F := fun i y => ∃ j, m i = some j ∧ i < ds'.length ∧ FF j y) upd_same g l' (fun i v d e1 e2 => ?_) (fun i x ⟨j, _, h, _⟩ => h) (fun i i' x ⟨j, e1, _, h1⟩ ⟨j', e2, _, h2⟩ => ?_) (fun i ⟨j, _, _, h⟩ => na j h)
      · have hi : i < ds'.length := (List.getElem?_eq_some_iff.mp e2).1
        rcases k i v d e1 e2 with ⟨j, k1, k2, k3⟩ | ⟨k1, k2⟩
        · have en : (fun y => ∃ j, m i = some j ∧ i < ds'.length ∧ FF j y) = FF j := by
            funext y
            exact propext ⟨fun ⟨j', a1, _, a2⟩ => by rw [k1] at a1; cases a1; exact a2, fun z => ⟨j, k1, hi, z⟩⟩
          rw [en]
          exact (c j v d k2 k3).keep (fun _ _ e => e) fun b hb => ⟨upd_ne fun z => na j (by rw [← z]; exact hb), (rr.dom b (.inr ⟨j, hb⟩)).2⟩
        · have en : (fun y => ∃ j, m i = some j ∧ i < ds'.length ∧ FF j y) = nof := by
            funext y
            exact propext ⟨fun ⟨j', a1, _⟩ => (by rw [k1] at a1; cases a1), fun z => z.elim⟩
          rw [en]
          exact k2.up
      · have := dj j j' x h1 h2
        subst this
        exact mi i i' j e1 e2
    · rw [upd_ne fun z => nb (.inl z)]
      exact e
    · rcases hb with rfl | ⟨i, j, _, _, hb⟩
      · exact .inl rfl
      · exact .inr ⟨j, hb⟩
def gmAppend : D → List D → Option (D × D)
  | .ol ds, [x] => if ds.length < 16777216 then some (.ol (ds ++ [x]), .non) else none
  | _, _ => none
def gmInsert : D → List D → Option (D × D)
  | .ol ds, [.int i, x] => if ds.length < 16777216 ∧ i = 0 then some (.ol (x :: ds), .non) else none
  | _, _ => none
def gmExtend : D → List D → Option (D × D)
  | .ol ds, [.lst xs] => if ds.length + xs.length ≤ 16777216 then some (.ol (ds ++ xs), .non) else none
  | _, _ => none
def gmSet : D → List D → Option (D × D)
  | .ol ds, [.int i, x] => match ixN ds.length i with
    | some j => some (.ol (ds.set j x), .non)
    | none => none
  | _, _ => none
theorem paired1 {R : V → D → Prop} {xs : List V} {d : D} (h : Paired R xs [d]) : ∃ x, xs = [x] ∧ R x d := by
  cases h with | cons r t => cases t; exact ⟨_, rfl, r⟩
theorem paired2 {R : V → D → Prop} {xs : List V} {d e : D} (h : Paired R xs [d, e]) : ∃ x y, xs = [x, y] ∧ R x d ∧ R y e := by
  cases h with | cons r t => cases t with | cons r2 t => cases t; exact ⟨_, _, rfl, r, r2⟩
theorem rep_ol_ref {B : Bd} {G H : Hp} {x : V} {ds : List D} {U : FP} (r : Rep B G H x (.ol ds) U) : ∃ a, x = .ref a := by cases r; exact ⟨_, rfl⟩
section
variable {ca : Nat → Addr} {X : Cx}
theorem g_upd {B : Bd} {G H : Hp} {a : Addr} {ds : List D} {U : FP} {o : HO} (rd : Rep B G H (.ref a) (.ol ds) U) (sub : ∀ b o, G b = some o → H b = some o) : ∀ b u, G b = some u → upd H a o b = some u := fun b u eb => by
  have hd : U a := by cases rd; exact .inl rfl
  rw [upd_ne (fun z => by rw [z, (rd.dom a hd).2] at eb; cases eb)]
  exact sub b u eb
/-- xs[i] = v -/
def SetD (ca : Nat → Addr) (X : Cx) (gm : D → List D → Option (D × D)) : Prop := PSet X fun o i v H Q => rMu ⟨X.K, ca⟩ gm o [i, v] H fun _ H' => Q H'
theorem setD_list : SetD ca X gmSet := by
  intro pins s σ H x i y ov iv u Q I rx ri ry h
  obtain ⟨G, d, U, ds, d', r, sub, rd, rr, e, q⟩ := h
  unfold gmSet at e
  split at e
  · rename_i items k y'
    split at e
    · rename_i j hj
      cases e
      obtain ⟨i', y2, e2, r1, r2⟩ := paired2 rr
      cases e2
      cases r1
      obtain ⟨a, rfl⟩ := rep_ol_ref rd
      obtain ⟨vs, ha, l, ch⟩ := ol_change rd
      have hjl := (ixN_seq hj).2.1
      obtain ⟨U', r', x'⟩ := ch (vs.set j y) (items.set j y') (fun i => if i = j then none else some i) (by simp [l]) (fun i j k h1 h2 => by
        split at h1 <;> split at h2 <;> cases h1 <;> cases h2 <;> rfl) fun i v d e1 e2 => by
        by_cases hi : i = j
        · subst hi
          rw [List.getElem?_set_self (by omega)] at e1
          rw [List.getElem?_set_self hjl] at e2
          cases e1; cases e2
          exact .inr ⟨if_pos rfl, r2⟩
        · rw [List.getElem?_set_ne (Ne.symm hi)] at e1 e2
          exact .inl ⟨i, if_neg hi, e1, e2⟩
      exact set_list pins s σ H _ _ _ ov iv u Q I rx ri ry ⟨a, vs, k, j, rfl, rfl, ha, by rw [l]; exact hj, q .non _ _ _ (g_upd rd sub) r' .non x'⟩
    · cases e
  · cases e
end
end DL
namespace DL
open PySem PySem.Spec PyProof.Rows L2
inductive FOut where
  | ok (d : D) (outs : List D) | exc (e : D) (outs : List D)
abbrev Mir := List D → Option FOut
def endC (B : Bd) (vs : List V) (G H : Hp) (W0 : FP) (Q : VK) (E : XK) : FOut → Prop
  | .ok d outs => ∀ v G' H' F' T, Cfg B G' H' (vs.map some) (outs.map some) F' → Rep B G' H' v d T → (∀ x, T x → ¬ un F' x) → Ext G H W0 G' H' (fun x => un F' x ∨ T x) → Q v H'
  | .exc e outs => ∀ G' H' F' cls dx, Cfg B G' H' (vs.map some) (outs.map some) F' → ExcAt B G' cls dx e → Ext G H W0 G' H' (un F') → E cls dx H'
def spD (B : Bd) (n : Nat) (m : Mir) : Sp := fun vs H Q E => vs.length = n ∧ ∃ G ds F o, Cfg B G H (vs.map some) (ds.map some) F ∧ m ds = some o ∧ endC B vs G H (un F) Q E o
def argD (ρ ρ1 : DEnv) : List Bool → List AV → Option (List (D × Option Nat))
  | [], [] => some []
  | true :: ms, .pl i [] :: as => match slotOf ρ1 i, argD ρ ρ1 ms as with
    | some d, some r => some ((d, some i) :: r)
    | _, _ => none
  | _ :: ms, a :: as => match cont ρ a, argD ρ ρ1 ms as with
    | some d, some r => some ((frz d, none) :: r)
    | _, _ => none
  | _, _ => none
def nio : List Bool → List AV → List Nat
  | true :: ms, .pl _ [] :: as => nio ms as
  | _ :: ms, a :: as => plS [a] ++ nio ms as
  | _, _ => []
def setOut : List (D × Option Nat) → List D → DEnv → DEnv
  | (_, some i) :: r, o :: os, ρ => setOut r os (ρ.set i (some o))
  | (_, none) :: r, _ :: os, ρ => setOut r os ρ
  | _, _, ρ => ρ
def callK (ms : List Bool) (m : Mir) (avs : List AV) : Ev AV := fun ρ => match argD ρ (frzS (nio ms avs) ρ) ms avs with
  | none => none
  | some l => if (l.filterMap (·.2)).Nodup then match m (l.map (·.1)) with
    | some (.ok d outs) => if outs.length = l.length then some (.ok (.val d) (setOut l outs (frzS (nio ms avs) ρ))) else none
    | some (.exc e outs) => if outs.length = l.length then some (.exc e (setOut l outs (frzS (nio ms avs) ρ))) else none
    | none => none
    else none
def evCall (ms : List Bool) (m : Mir) (fs : Ev (List AV)) : Ev AV := fs.andThen (callK ms m)
theorem arg_reps {B : Bd} {σ : L2.St} {G H : Hp} {ρ : DEnv} {F : Nat → FP} (c : Cfg B G H σ ρ F) {Wt0 : FP} (n : ∀ x, Wt0 x → ¬ un F x) (S : List Nat) : ∀ {ms : List Bool} {Wt : FP} {vs : List V} {avs : List AV} {l : List (D × Option Nat)}, (∀ x, Wt x → Wt0 x) → RepAs B G H σ Wt vs avs →
    argD ρ (frzS S ρ) ms avs = some l → (∀ i ∈ nio ms avs, i ∈ S) → vs.length = l.length ∧ ∀ (k : Nat) v d s, vs[k]? = some v → l[k]? = some (d, s) →
      (s = none → Rep B (gfr G H (frU G H F Wt0 S)) H v d nof) ∧ ∀ i, s = some i → σ[i]? = some (some v) ∧ slotOf (frzS S ρ) i = some d := by
  have dm : ∀ x, frU G H F Wt0 S x → (∃ o, H x = some o) ∧ G x = none := fun x h => by
    rcases h with ⟨_, h⟩ | ⟨i, _, h⟩
    · exact h
    · exact c.dom ⟨i, h⟩
  have gg : ∀ b o, G b = some o → gfr G H (frU G H F Wt0 S) b = some o := fun b o e => by
    by_cases h : frU G H F Wt0 S b
    · rw [(dm b h).2] at e; cases e
    · rw [gfr_out h]; exact e
  intro ms
  induction ms with
  | nil =>
    intro Wt vs avs l hW r e hS
    cases r with
    | nil => cases e; exact ⟨rfl, fun k v d s h => by simp at h⟩
    | cons => cases e
  | cons b ms ih =>
    intro Wt vs avs l hW r e hS
    cases r with
    | nil => cases b <;> cases e
    | cons rx hT t hu dj =>
      rename_i Wu T v a vs as
      have plain : ∀ {l}, (match cont ρ a, argD ρ (frzS S ρ) ms as with
          | some d, some r => some ((frz d, none) :: r)
          | _, _ => none) = some l → (∀ i ∈ plS [a] ++ nio ms as, i ∈ S) → (v :: vs).length = l.length ∧ ∀ (k : Nat) v' d s, (v :: vs)[k]? = some v' → l[k]? = some (d, s) →
      (s = none → Rep B (gfr G H (frU G H F Wt0 S)) H v' d nof) ∧ ∀ i, s = some i → σ[i]? = some (some v') ∧ slotOf (frzS S ρ) i = some d := fun {l} e hS => by
        cases h1 : cont ρ a with
        | none => rw [h1] at e; cases e
        | some d =>
          cases h2 : argD ρ (frzS S ρ) ms as with
          | none => rw [h1, h2] at e; cases e
          | some r =>
            rw [h1, h2] at e
            cases e
            obtain ⟨hl, hk⟩ := ih (fun x h => hW x (hu x h)) t h2 fun i hi => hS i (by simp [hi])
            refine ⟨by simp [hl], fun k v' d' s e1 e2 => ?_⟩
            cases k with
            | succ k => exact hk k v' d' s (by simpa using e1) (by simpa using e2)
            | zero =>
              simp at e1 e2
              obtain ⟨rfl, rfl⟩ := e2
              subst e1
              refine ⟨fun _ => ?_, fun i h => (by cases h)⟩
              obtain ⟨U, r', s⟩ := rx.cont c h1
              refine r'.frozen gg fun b hb => gfr_in ?_
              rcases s b hb with z | z
              · exact .inl ⟨hW b (hT b z), rx.dom b z⟩
              · cases a with
                | val d => exact z.elim
                | pl i p => exact .inr ⟨i, hS i (by simp [plS]), z⟩
      cases b with
      | false => exact plain (by cases a <;> exact e) (by cases a <;> exact hS)
      | true =>
        cases a with
        | val d => exact plain e hS
        | pl i p =>
          cases p with
          | cons q p => exact plain e hS
          | nil =>
            unfold argD at e
            cases h1 : slotOf (frzS S ρ) i with
            | none => rw [h1] at e; cases e
            | some d =>
              cases h2 : argD ρ (frzS S ρ) ms as with
              | none => rw [h1, h2] at e; cases e
              | some r =>
                rw [h1, h2] at e
                cases e
                obtain ⟨hl, hk⟩ := ih (fun x h => hW x (hu x h)) t h2 fun j hj => hS j hj
                refine ⟨by simp [hl], fun k v' d' s e1 e2 => ?_⟩
                cases k with
                | succ k => exact hk k v' d' s (by simpa using e1) (by simpa using e2)
                | zero =>
                  simp at e1 e2
                  obtain ⟨rfl, rfl⟩ := e2
                  subst e1
                  refine ⟨fun h => (by cases h), fun j h => ?_⟩
                  cases h
                  obtain ⟨⟨v0, e0, hp⟩, _⟩ := rx
                  cases hp
                  exact ⟨e0, h1⟩
theorem nodup_slot : ∀ {l : List (D × Option Nat)}, (l.filterMap (·.2)).Nodup → ∀ {k k' : Nat} {d d' : D} {i : Nat}, l[k]? = some (d, some i) → l[k']? = some (d', some i) → k = k'
  | [], _, k, _, _, _, _, h, _ => by simp at h
  | (d0, s) :: r, hn, k, k', d, d', i, h, h' => by
    have nr : (r.filterMap (·.2)).Nodup := by
      cases s with
      | none => simpa using hn
      | some j => simp at hn; exact hn.2
    have mem : ∀ {k : Nat} {d : D} {j : Nat}, r[k]? = some (d, some j) → j ∈ r.filterMap (·.2) := fun {k d j} h => List.mem_filterMap.mpr ⟨(d, some j), List.mem_of_getElem? h, rfl⟩
    cases k with
    | zero =>
      cases k' with
      | zero => rfl
      | succ k' =>
        simp at h h'
        obtain ⟨rfl, rfl⟩ := h
        have := mem h'
        simp at hn
        exact absurd this (by simpa using hn.1)
    | succ k =>
      cases k' with
      | zero =>
        simp at h h'
        obtain ⟨rfl, rfl⟩ := h'
        have := mem h
        simp at hn
        exact absurd this (by simpa using hn.1)
      | succ k' => exact congrArg (· + 1) (nodup_slot nr (k := k) (k' := k') (by simpa using h) (by simpa using h'))
theorem setOut_len : ∀ (l : List (D × Option Nat)) (os : List D) (ρ : DEnv), (setOut l os ρ).length = ρ.length
  | [], _, _ => rfl
  | (_, some i) :: r, [], _ => rfl
  | (_, none) :: r, [], _ => rfl
  | (_, some i) :: r, o :: os, ρ => by rw [setOut, setOut_len r]; simp
  | (_, none) :: r, o :: os, ρ => by rw [setOut, setOut_len r]
theorem setOut_out : ∀ {l : List (D × Option Nat)} {os : List D} {ρ : DEnv} {j : Nat}, (∀ (k : Nat) (d : D), l[k]? ≠ some (d, some j)) → (setOut l os ρ)[j]? = ρ[j]?
  | [], _, _, _, _ => rfl
  | (_, some i) :: r, [], _, _, _ => rfl
  | (_, none) :: r, [], _, _, _ => rfl
  | (d, some i) :: r, o :: os, ρ, j, h => by
    rw [setOut, setOut_out fun k d' e => h (k + 1) d' (by simpa using e)]
    exact List.getElem?_set_ne fun z => h 0 d (by simp [z])
  | (d, none) :: r, o :: os, ρ, j, h => by
    rw [setOut, setOut_out fun k d' e => h (k + 1) d' (by simpa using e)]
theorem setOut_in : ∀ {l : List (D × Option Nat)} {os : List D} {ρ : DEnv} {j k : Nat} {d : D}, (l.filterMap (·.2)).Nodup → l[k]? = some (d, some j) → os.length = l.length → j < ρ.length → (setOut l os ρ)[j]? = some os[k]?
  | [], _, _, _, k, _, _, h, _, _ => by simp at h
  | (_, some i) :: r, [], _, _, _, _, _, _, hl, _ => by cases hl
  | (_, none) :: r, [], _, _, _, _, _, _, hl, _ => by cases hl
  | (d0, none) :: r, o :: os, ρ, j, k, d, hn, h, hl, hj => by
    cases k with
    | zero => simp at h
    | succ k =>
      rw [setOut, setOut_in (by simpa using hn) (by simpa using h) (by simpa using hl) hj]
      simp
  | (d0, some i) :: r, o :: os, ρ, j, k, d, hn, h, hl, hj => by
    have hn' := hn
    simp at hn
    cases k with
    | zero =>
      simp at h
      obtain ⟨rfl, rfl⟩ := h
      rw [setOut, setOut_out fun k d' e => ?_, List.getElem?_set_self hj]
      · simp
      · have := nodup_slot hn' (k := 0) (k' := k + 1) (d := d0) (d' := d') (i := i) rfl (by simpa using e)
        cases this
    | succ k =>
      rw [setOut, setOut_in hn.2 (by simpa using h) (by simpa using hl) (by simpa using hj)]
      simp
section
variable {B : Bd} {W : WX} {σ : L2.St}
theorem call_end {ms : List Bool} {m : Mir} {n : Nat} {G H : Hp} {ρ : DEnv} {F : Nat → FP} {Wt : FP} {vs : List V} {avs : List AV} {o : Out AV} {Q : VK} (c : Cfg B G H σ ρ F) (r : RepAs B G H σ Wt vs avs) (hn : ∀ y, Wt y → ¬ un F y)
    (e : callK ms m avs ρ = some o) (z : endE B W σ G H (fun y => un F y ∨ Wt y) Q o) (hl : vs.length = n) : spD B n m vs H Q (WE W σ) := by
  unfold callK at e
  cases h1 : argD ρ (frzS (nio ms avs) ρ) ms avs with
  | none => rw [h1] at e; cases e
  | some l =>
    rw [h1] at e
    dsimp only at e
    split at e
    · rename_i nd
      obtain ⟨c2, x2⟩ := freeze_cfg c hn (nio ms avs)
      obtain ⟨hlen, hk⟩ := arg_reps c hn (nio ms avs) (fun _ h => h) r h1 fun i h => h
      -- the callee's view
      have lv : ∀ {k : Nat} {d : D}, (l.map (·.1))[k]? = some d → ∃ s, l[k]? = some (d, s) := fun {k d} h => by
        rw [List.getElem?_map] at h
        obtain ⟨⟨d', s⟩, q, rfl⟩ := Option.map_eq_some_iff.mp h
        exact ⟨s, q⟩
      have cc : Cfg B (gfr G H (frU G H F Wt (nio ms avs))) H (vs.map some) ((l.map (·.1)).map some) (fun (k : Nat) x => ∃ (d : D) (i : Nat), l[k]? = some (d, some i) ∧ (F i x ∧ i ∉ nio ms avs)) := by
        refine ⟨c2.sub, by simp [hlen], fun k d q => ?_, fun k q x hx => ?_, fun k k' x a b => ?_⟩
        · rw [List.getElem?_map] at q
          obtain ⟨d', q, e9⟩ := Option.map_eq_some_iff.mp q
          cases e9
          obtain ⟨s, q⟩ := lv q
          have hkl : k < vs.length := by rw [hlen]; exact (List.getElem?_eq_some_iff.mp q).1
          refine ⟨vs[k], by rw [List.getElem?_map, List.getElem?_eq_getElem hkl]; rfl, ?_⟩
          obtain ⟨k1, k2⟩ := hk k vs[k] d s (List.getElem?_eq_getElem hkl) q
          cases s with
          | none =>
            have en : (fun x => ∃ (d : D) (i : Nat), l[k]? = some (d, some i) ∧ (F i x ∧ i ∉ nio ms avs)) = nof := by
              funext x
              exact propext ⟨fun ⟨d2, i, w, _⟩ => (by rw [q] at w; cases w), fun w => w.elim⟩
            rw [en]; exact k1 rfl
          | some i =>
            obtain ⟨w1, w2⟩ := k2 i rfl
            obtain ⟨v', w3, w4⟩ := c2.at w2
            rw [w1] at w3
            cases w3
            have en : (fun x => ∃ (d : D) (i : Nat), l[k]? = some (d, some i) ∧ (F i x ∧ i ∉ nio ms avs)) = fun x => F i x ∧ i ∉ nio ms avs := by
              funext x
              exact propext ⟨fun ⟨d2, j, w, w'⟩ => (by rw [q] at w; cases w; exact w'), fun w => ⟨d, i, q, w⟩⟩
            rw [en]; exact w4
        · obtain ⟨d, i, q2, _⟩ := hx
          exact q d (by rw [List.getElem?_map, List.getElem?_map, q2]; rfl)
        · obtain ⟨d, i, q1, w1⟩ := a
          obtain ⟨d', i', q2, w2⟩ := b
          have := c.dis i i' x w1.1 w2.1
          subst this
          exact nodup_slot nd q1 q2
      -- behind the call: the caller's view
      have back : ∀ {outs : List D} {G' H' : Hp} {F' : Nat → FP} {T : FP}, outs.length = l.length → Cfg B G' H' (vs.map some) (outs.map some) F' → (∀ x, T x → ¬ un F' x) →
          Ext (gfr G H (frU G H F Wt (nio ms avs))) H (un fun (k : Nat) x => ∃ (d : D) (i : Nat), l[k]? = some (d, some i) ∧ (F i x ∧ i ∉ nio ms avs)) G' H' (fun x => un F' x ∨ T x) →
          ∃ Fn, Cfg B G' H' σ (setOut l outs (frzS (nio ms avs) ρ)) Fn ∧ (∀ x, T x → ¬ un Fn x) ∧ Ext G H (fun y => un F y ∨ Wt y) G' H' (fun x => un Fn x ∨ T x) := fun {outs G' H' F' T} ho c3 n3 x3 => by
        have apart : ∀ j, (∀ (k : Nat) (d : D), l[k]? ≠ some (d, some j)) → ∀ b, (F j b ∧ j ∉ nio ms avs) → ¬ un (fun (k : Nat) x => ∃ (d : D) (i : Nat), l[k]? = some (d, some i) ∧ (F i x ∧ i ∉ nio ms avs)) b := fun j hj b hb ⟨k, d, i, q, w⟩ => by
          have := c.dis i j b w.1 hb.1
          subst this
          exact hj k d q
        have fr : ∀ j, (∀ (k : Nat) (d : D), l[k]? ≠ some (d, some j)) → ∀ b, (F j b ∧ j ∉ nio ms avs) → ¬ (un F' b ∨ T b) := fun j hj b hb w => by
          obtain ⟨d, v, _, _, r'⟩ := c2.own hb
          exact (r'.frame x3 (apart j hj)).2 b hb w
        refine ⟨fun j x => (∃ (k : Nat) (d : D), l[k]? = some (d, some j) ∧ F' k x) ∨ ((∀ (k : Nat) (d : D), l[k]? ≠ some (d, some j)) ∧ (F j x ∧ j ∉ nio ms avs)), ⟨c3.sub, by rw [setOut_len]; exact c2.len, fun j d q => ?_, fun j q x hx => ?_, fun j j' x a b => ?_⟩, fun x hx hu => ?_, ?_⟩
        · by_cases hj : ∃ (k : Nat) (d : D), l[k]? = some (d, some j)
          · obtain ⟨k, d0, hj⟩ := hj
            have hkl : k < vs.length := by rw [hlen]; exact (List.getElem?_eq_some_iff.mp hj).1
            obtain ⟨_, k2⟩ := hk k vs[k] d0 _ (List.getElem?_eq_getElem hkl) hj
            obtain ⟨w1, w2⟩ := k2 j rfl
            have hjl : j < (frzS (nio ms avs) ρ).length := by rw [c2.len]; exact (List.getElem?_eq_some_iff.mp w1).1
            rw [setOut_in nd hj ho hjl] at q
            have q' : outs[k]? = some d := by simpa using q
            obtain ⟨v', w3, w4⟩ := c3.slot k d (by rw [List.getElem?_map, q']; rfl)
            rw [List.getElem?_map, List.getElem?_eq_getElem hkl] at w3
            cases w3
            refine ⟨_, w1, ?_⟩
            have en : (fun x => (∃ (k : Nat) (d : D), l[k]? = some (d, some j) ∧ F' k x) ∨ ((∀ (k : Nat) (d : D), l[k]? ≠ some (d, some j)) ∧ (F j x ∧ j ∉ nio ms avs))) = F' k := by
              funext x
              refine propext ⟨fun w => ?_, fun w => .inl ⟨k, d0, hj, w⟩⟩
              rcases w with ⟨k', d', q1, w⟩ | ⟨w, _⟩
              · rw [nodup_slot nd hj q1]; exact w
              · exact (w k d0 hj).elim
            rw [en]; exact w4
          · have hj' : ∀ (k : Nat) (d : D), l[k]? ≠ some (d, some j) := fun k d q => hj ⟨k, d, q⟩
            rw [setOut_out hj'] at q
            obtain ⟨v', w3, w4⟩ := c2.slot j d q
            refine ⟨v', w3, ?_⟩
            have en : (fun x => (∃ (k : Nat) (d : D), l[k]? = some (d, some j) ∧ F' k x) ∨ ((∀ (k : Nat) (d : D), l[k]? ≠ some (d, some j)) ∧ (F j x ∧ j ∉ nio ms avs))) = fun x => F j x ∧ j ∉ nio ms avs := by
              funext x
              exact propext ⟨fun w => w.elim (fun ⟨k, d, q, _⟩ => (hj' k d q).elim) (·.2), fun w => .inr ⟨hj', w⟩⟩
            rw [en]
            exact (w4.frame x3 (apart j hj')).1
        · rcases hx with ⟨k, d0, hj, hx⟩ | ⟨hj, hx⟩
          · have hkl : k < vs.length := by rw [hlen]; exact (List.getElem?_eq_some_iff.mp hj).1
            obtain ⟨_, k2⟩ := hk k vs[k] d0 _ (List.getElem?_eq_getElem hkl) hj
            obtain ⟨w1, w2⟩ := k2 j rfl
            have hjl : j < (frzS (nio ms avs) ρ).length := by rw [c2.len]; exact (List.getElem?_eq_some_iff.mp w1).1
            have hko : k < outs.length := by rw [ho, ← hlen]; exact hkl
            refine q outs[k] ?_
            rw [setOut_in nd hj ho hjl, List.getElem?_eq_getElem hko]
          · obtain ⟨d, v, w1, _, _⟩ := c2.own hx
            exact q d (by rw [setOut_out hj]; exact w1)
        · rcases a with ⟨k, d, q1, a⟩ | ⟨hj, a⟩ <;> rcases b with ⟨k', d', q2, b⟩ | ⟨hj', b⟩
          · have := c3.dis k k' x a b
            subst this
            rw [q1] at q2; cases q2; rfl
          · exact (fr j' hj' x b (.inl ⟨k, a⟩)).elim
          · exact (fr j hj x a (.inl ⟨k', b⟩)).elim
          · exact c.dis j j' x a.1 b.1
        · obtain ⟨j, ⟨k, d, _, hj⟩ | ⟨hj, w⟩⟩ := hu
          · exact n3 x hx ⟨k, hj⟩
          · exact fr j hj x w (.inr hx)
        · have x4 := x2.trans (x3.mono (Wa := un fun j x => F j x ∧ j ∉ nio ms avs) (fun x ⟨k, d, i, _, w⟩ => ⟨i, w⟩) fun _ h => h)
          refine ⟨x4.gg, x4.hh, fun b hb => ?_, x4.gn⟩
          rcases hb with ⟨j, ⟨k, d, _, hb⟩ | ⟨_, hb⟩⟩ | hb
          · exact x4.ww b (.inl ⟨k, hb⟩)
          · exact .inl (.inl ⟨j, hb.1⟩)
          · exact x4.ww b (.inr hb)
      cases h2 : m (l.map (·.1)) with
      | none => rw [h2] at e; cases e
      | some fo =>
        rw [h2] at e
        cases fo with
        | ok d outs =>
          dsimp only at e
          split at e
          · rename_i ho
            cases e
            refine ⟨hl, _, _, _, _, cc, h2, fun v G' H' F' T c3 r3 n3 x3 => ?_⟩
            obtain ⟨Fn, c4, n4, x4⟩ := back ho c3 n3 x3
            exact z v G' H' Fn T c4 r3 n4 x4
          · cases e
        | exc er outs =>
          dsimp only at e
          split at e
          · rename_i ho
            cases e
            refine ⟨hl, _, _, _, _, cc, h2, fun G' H' F' cls dx c3 r3 x3 => ?_⟩
            obtain ⟨Fn, c4, n4, x4⟩ := back (T := nof) ho c3 (fun _ h => h.elim) (x3.mono (fun _ h => h) fun _ h => h.elim id False.elim)
            exact z G' H' Fn cls dx c4 r3 (x4.mono (fun _ h => h) fun _ h => .inl h)
          · cases e
    · cases e
end
end DL
namespace DL
open PySem PySem.Spec PyProof.Rows L2
section
variable {ca : Nat → Addr} {X : Cx} {k : Nat} {f : Addr} {fd : FuncData} {ps : List Str} {x : Str} {p pos : Pos} {e : Expr} {es : List Expr} {fs : Ev (List AV)} {m : Mir}
/-- what a def of the text is: it keeps the promise of the plain function m -/
abbrev FnD (P : Program) (w : World) (K : PySem.W.Frag) (mg : Str → Option Value) (base : Heap) (ca : Nat → Addr) (k : Nat) (f : Addr) (fd : FuncData) (ps : List Str) (m : Mir) : Prop := FnOk P w K mg base (L2.CX P w) k f fd ps (spD ⟨K, ca⟩ ps.length m)
theorem tD_call {B : Bd} {W : WX} {σ : L2.St} {H : Hp} {ms : List Bool} {n : Nat} {Q : VK} (h : tD B W (evCall ms m fs) σ H Q) (hn : ∀ ρ avs ρ', fs ρ = some (.ok avs ρ') → avs.length = n) : tDL B W fs σ H fun vs H1 => spD B n m vs H1 Q (WE W σ) := by
  obtain ⟨G, ρ, F, o, c, e, z⟩ := h
  unfold evCall at e
  cases hf : fs ρ with
  | none => rw [andThen_none hf] at e; cases e
  | some u =>
    cases u with
    | exc er ρ' => rw [andThen_exc hf] at e; cases e; exact ⟨G, ρ, F, _, c, hf, z⟩
    | ok avs ρ1 =>
      rw [andThen_ok hf] at e
      refine ⟨G, ρ, F, _, c, hf, fun vs G1 H1 F1 Wt c1 r n1 x => ?_⟩
      have hl : vs.length = n := by
        rw [← hn ρ avs ρ1 hf]
        clear e hf hn
        induction r with
        | nil => rfl
        | cons r hT t hu dj ih => exact congrArg (· + 1) (ih (fun y h => n1 y (hu y h)) (x.mono (fun _ h => h) fun y h => h.imp id (hu y)))
      exact call_end c1 r n1 e (endE_trans z x) hl
/-- f(a, b, ..); modes: true where an own thing is lent -/
theorem de_call {ms : List Bool} (F : FnD X.prog X.w X.K X.mg X.base ca k f fd ps m) (hr : Room k X.A) (hm : X.mg x = some (.ref f)) (hk : PySem.W.keepIn X.K (.ref f) = true) (hb : Binds X.K fd ps []) (ha : DA ca X (e :: es) fs)
    (hn : ∀ ρ avs ρ', fs ρ = some (.ok avs ρ') → avs.length = ps.length) (hg : Gl X x := by rfl) (hdb : (x == ("__debug__" : Str)) = false := by decide) (he : starEach (e :: es) X.env = (false, eval e X.env) :: starEach es X.env := by rfl) (hpl : (backTo pos (starEach es X.env)).any (·.1) = false := by rfl) :
    DE ca X (.Call (.Name x p) (e :: es) [] pos) (evCall ms m fs) := fun W tk =>
  PE.imp (pe_callS F hr hg hm hk hb (fun σ => passAt tk σ) (ha W tk) hdb he hpl) fun σ H Q h => tD_call h hn
end
theorem len_nil : ∀ ρ avs ρ', evNil ρ = some (.ok avs ρ') → avs.length = 0 := fun ρ avs ρ' h => by cases h; rfl
theorem len_cons {f : Ev AV} {g : Ev (List AV)} {n : Nat} (h : ∀ ρ avs ρ', g ρ = some (.ok avs ρ') → avs.length = n) : ∀ ρ avs ρ', evCons f g ρ = some (.ok avs ρ') → avs.length = n + 1 := fun ρ avs ρ' e => by
  obtain ⟨a, as, ρ1, ρ2, rfl, e2⟩ := evCons_len e
  simp [h _ _ _ e2]
def outsD (I : List Nat) (ds : List D) (ρ' : DEnv) : Nat → Option (List D)
  | 0 => some []
  | n + 1 => match outsD I ds ρ' n, (if n ∈ I then slotOf ρ' n else ds[n]?) with
    | some os, some d => some (os ++ [d])
    | _, _ => none
theorem outsD_spec {I : List Nat} {ds : List D} {ρ' : DEnv} : ∀ {n : Nat} {os : List D}, outsD I ds ρ' n = some os → os.length = n ∧ ∀ i, i < n → os[i]? = if i ∈ I then slotOf ρ' i else ds[i]?
  | 0, os, h => by cases h; exact ⟨rfl, fun i h => by omega⟩
  | n + 1, os, h => by
    unfold outsD at h
    cases h1 : outsD I ds ρ' n with
    | none => rw [h1] at h; cases h
    | some os' =>
      cases h2 : (if n ∈ I then slotOf ρ' n else ds[n]?) with
      | none => rw [h1, h2] at h; cases h
      | some d =>
        rw [h1, h2] at h
        cases h
        obtain ⟨l, k⟩ := outsD_spec h1
        refine ⟨by simp [l], fun i hi => ?_⟩
        by_cases hn : i < n
        · rw [List.getElem?_append_left (by omega)]; exact k i hn
        · have : i = n := by omega
          subst this
          rw [List.getElem?_append_right (by omega), l, h2]
          simp
/-- the parameters that are not lent hold frozen things -/
def parOk (I : List Nat) (ds : List D) : Bool := (List.range ds.length).all fun i => decide (i ∈ I) || match ds[i]? with
  | some d => d.sh
  | none => true
/-- what a def with N slots and n parameters, those in I lent, makes of its arguments -/
def fnD (N n : Nat) (I : List Nat) (f : Sv) : Mir := fun ds => if ds.length = n ∧ parOk I ds = true then
    match f (ds.map some ++ List.replicate (N - n) none) with
    | some (.nx ρ') => (outsD I ds ρ' n).map fun os => .ok .non os
    | some (.ret d ρ') => (outsD I ds ρ' n).map fun os => .ok d os
    | some (.exc e ρ') => (outsD I ds ρ' n).map fun os => .exc e os
    | _ => none
  else none
section
variable {P : Program} {w : World} {K : PySem.W.Frag} {mg : Str → Option Value} {base : Heap} {ca : Nat → Addr}
theorem fn_d {x qual : Str} {st : Stmt} {f : Addr} {fd : FuncData} {N ps : List Str} {k : Nat} {I : List Nat} {g : Sv} (F : Fun K x qual st f fd) (S : FnScope N ps (defScope st)) (hN : ps.length ≤ N.length)
    (hb : ∀ (cdv : Value) (A : Around) (outer : List Env) (s : Shared) (H : Hp) (E : XK), Room k (A.deeper (envOfC qual (defScope st) s.heap.objs.size f cdv)) →
      DB ca (cxOf (L2.CX P w) P w K mg base N qual (defScope st) f cdv A outer s H E) I (defBody st) g) : FnD P w K mg base ca (k + 1) f fd ps (fnD N.length ps.length I g) := by
  refine F.okX S (fun vs H Q E h => h.1) fun cdv A outer s H vs Q E hr h => ?_
  have hx : (cxOf (L2.CX P w) P w K mg base N qual (defScope st) f cdv A outer s H E).xe = fun e s' => wpAny (model P w) (A.deeper (envOfC qual (defScope st) s.heap.objs.size f cdv)) (leaving (envOfC qual (defScope st) s.heap.objs.size f cdv) e) (fun _ s'' => L2.CX P w outer H s E e s'') (fun e' s'' => L2.CX P w outer H s E e' s'') s' := rfl
  refine ⟨_, hb cdv A outer s H E hr (fun cls d _ H => E cls d H) (takes_of rfl rfl rfl hx) (passes_of hx), ?_⟩
  obtain ⟨hl, G, ds, F0, o, c, e, z⟩ := h
  have hld : ds.length = ps.length := by have := c.len; simp at this; omega
  unfold fnD at e
  rw [hld] at e
  split at e
  · rename_i hc
    have hp := hc.2
    -- the start
    have c0 : Cfg ⟨K, ca⟩ G H (L2.start N vs) (ds.map some ++ List.replicate (N.length - ps.length) none) F0 := by
      refine ⟨c.sub, by simp [L2.start, hl, hld], fun i d q => ?_, fun i q x hx => ?_, c.dis⟩
      · rcases get_append q with ⟨hi, q⟩ | ⟨hi, q⟩
        · obtain ⟨v, e1, r⟩ := c.slot i d q
          refine ⟨v, ?_, r⟩
          unfold L2.start
          rw [List.getElem?_append_left (by simp at hi ⊢; omega)]
          exact e1
        · rw [List.getElem?_replicate] at q
          split at q <;> cases q
      · refine c.emp i (fun d z => ?_) x hx
        refine q d ?_
        rw [List.getElem?_append_left (List.getElem?_eq_some_iff.mp z).1]
        exact z
    have stv : ∀ i, i < ps.length → (L2.start N vs)[i]? = (vs.map some)[i]? := fun i hi => by
      unfold L2.start
      rw [List.getElem?_append_left (by simp; omega)]
    -- the parameters behind it
    have fin : ∀ {ρ' : DEnv} {outs : List D} {σ' : L2.St} {G' H' : Hp} {F' : Nat → FP} {W1 : FP}, outsD I ds ρ' ps.length = some outs → Prot I (L2.start N vs) σ' → Cfg ⟨K, ca⟩ G' H' σ' ρ' F' → Ext G H (un F0) G' H' W1 →
        Cfg ⟨K, ca⟩ G' H' (vs.map some) (outs.map some) (fun i x => i < ps.length ∧ i ∈ I ∧ F' i x) := fun {ρ' outs σ' G' H' F' W1} ho p c1 x1 => by
      obtain ⟨lo, ko⟩ := outsD_spec ho
      refine ⟨c1.sub, by simp [lo, hl], fun i d q => ?_, fun i q x hx => ?_, fun i j x a b => c1.dis i j x a.2.2 b.2.2⟩
      · rw [List.getElem?_map] at q
        obtain ⟨d', q, e9⟩ := Option.map_eq_some_iff.mp q
        cases e9
        have hi : i < ps.length := by rw [← lo]; exact (List.getElem?_eq_some_iff.mp q).1
        have k1 := ko i hi
        rw [q] at k1
        by_cases hI : i ∈ I
        · rw [if_pos hI] at k1
          obtain ⟨v, e1, r⟩ := c1.at k1.symm
          rw [p.at_ i hI, stv i hi] at e1
          refine ⟨v, e1, ?_⟩
          have en : (fun x => i < ps.length ∧ i ∈ I ∧ F' i x) = F' i := by funext x; exact propext ⟨fun w => w.2.2, fun w => ⟨hi, hI, w⟩⟩
          rw [en]; exact r
        · rw [if_neg hI] at k1
          obtain ⟨v, e1, r⟩ := c.slot i d (by rw [List.getElem?_map, ← k1]; rfl)
          refine ⟨v, e1, ?_⟩
          have en : (fun x => i < ps.length ∧ i ∈ I ∧ F' i x) = nof := by funext x; exact propext ⟨fun w => hI w.2.1, fun w => w.elim⟩
          rw [en]
          have hs : d.sh = true := by
            have q2 := List.all_eq_true.mp hp i (List.mem_range.mpr (by omega))
            rw [← k1] at q2
            simpa [hI] using q2
          exact (rep_sh r hs).stay x1
      · obtain ⟨hi, hI, hx⟩ := hx
        have k1 := ko i hi
        rw [if_pos hI] at k1
        obtain ⟨d, v, e1, e2, r⟩ := c1.own hx
        rw [slotOf_of e1] at k1
        exact q d (by rw [List.getElem?_map, k1]; rfl)
    cases hg : g (ds.map some ++ List.replicate (N.length - ps.length) none) with
    | none => rw [hg] at e; cases e
    | some so =>
      rw [hg] at e
      refine ⟨G, _, F0, so, c0, hg, ?_⟩
      cases so with
      | brk ρ' => cases e
      | cnt ρ' => cases e
      | nx ρ' =>
        obtain ⟨outs, ho, rfl⟩ := Option.map_eq_some_iff.mp e
        intro σ' G' H' F' p c1 x1
        exact z .non G' H' _ nof (fin ho p c1 x1) .non (fun _ h => h.elim) (x1.mono (fun _ h => h) fun x h => h.elim (fun ⟨i, _, _, h⟩ => ⟨i, h⟩) False.elim)
      | ret d ρ' =>
        obtain ⟨outs, ho, rfl⟩ := Option.map_eq_some_iff.mp e
        intro v σ' G' H' F' T p c1 r n x1
        exact z v G' H' _ T (fin ho p c1 x1) r (fun x hx ⟨i, _, _, h⟩ => n x hx ⟨i, h⟩) (x1.mono (fun _ h => h) fun x h => h.imp (fun ⟨i, _, _, h⟩ => ⟨i, h⟩) id)
      | exc er ρ' =>
        obtain ⟨outs, ho, rfl⟩ := Option.map_eq_some_iff.mp e
        intro σ' G' H' F' cls dx p c1 r x1
        exact z G' H' _ cls dx (fin ho p c1 x1) r (x1.mono (fun _ h => h) fun x ⟨i, _, _, h⟩ => ⟨i, h⟩)
  · cases e
end
abbrev Tgt := D → DEnv → Option DEnv
abbrev Tgts := List D → DEnv → Option DEnv
def gD (B : Bd) (I : List Nat) (t : Tgt) : TG := fun v σ H Q => ∃ G ρ F d ρ', Cfg B G H σ ρ F ∧ Rep B G H v d nof ∧ t d ρ = some ρ' ∧ ∀ σ' G' H' F', Prot I σ σ' → Cfg B G' H' σ' ρ' F' → Ext G H (un F) G' H' (un F') → Q σ' H'
def gDs (B : Bd) (I : List Nat) (t : Tgts) : TGs := fun vs σ H Q => ∃ G ρ F ds ρ', Cfg B G H σ ρ F ∧ Paired (fun v d => Rep B G H v d nof) vs ds ∧ t ds ρ = some ρ' ∧ ∀ σ' G' H' F', Prot I σ σ' → Cfg B G' H' σ' ρ' F' → Ext G H (un F) G' H' (un F') → Q σ' H'
def DG (ca : Nat → Addr) (X : Cx) (I : List Nat) (tg : Expr) (t : Tgt) : Prop := PG X tg (gD ⟨X.K, ca⟩ I t)
def DGs (ca : Nat → Addr) (X : Cx) (I : List Nat) (tgs : List Expr) (t : Tgts) : Prop := PGs X tgs (gDs ⟨X.K, ca⟩ I t)
theorem PG.imp {X : Cx} {e : Expr} {t u : TG} (h : PG X e t) (k : ∀ (v : V) (σ : L2.St) (H : Hp) (Q : L2.St → Hp → Prop), u v σ H Q → t v σ H Q) : PG X e u := ⟨fun pins s σ H v w Q I r q => h.run pins s σ H v w Q I r (k v σ H Q q)⟩
theorem PGs.imp {X : Cx} {e : List Expr} {t u : TGs} (h : PGs X e t) (k : ∀ (v : List V) (σ : L2.St) (H : Hp) (Q : L2.St → Hp → Prop), u v σ H Q → t v σ H Q) : PGs X e u := ⟨fun pins s σ H v w Q I r q => h.run pins s σ H v w Q I r (k v σ H Q q)⟩
def tgN (I : List Nat) (i : Nat) : Tgt := fun d ρ => if i ∈ I ∨ ¬ i < ρ.length then none else some (ρ.set i (some d))
section
variable {ca : Nat → Addr} {X : Cx} {I : List Nat} {e : Expr} {es : List Expr} {pos : Pos} {t : Tgt} {ts : Tgts}
theorem dg_name {i : Nat} (h : PG X e (gName i)) : DG ca X I e (tgN I i) := PG.imp h fun v σ H Q q => by
  obtain ⟨G, ρ, F, d, ρ', c, r, e, z⟩ := q
  unfold tgN at e
  split at e
  · cases e
  · rename_i hi
    cases e
    have hi1 : i ∉ I := fun z => hi (.inl z)
    have hi2 : i < ρ.length := Classical.byContradiction fun z => hi (.inr z)
    have c2 := c.setName i r (fun _ h => h.elim) hi2
    refine z _ G H _ ⟨by simp, fun j hj => List.getElem?_set_ne fun z => hi1 (by rw [z]; exact hj)⟩ c2 (.refl fun x ⟨j, hj⟩ => ?_)
    rcases hj with ⟨_, hj⟩ | ⟨_, hj⟩
    · exact hj.elim
    · exact ⟨j, hj⟩
def tgNil : Tgts := fun ds ρ => match ds with
  | [] => some ρ
  | _ => none
def tgCons (t : Tgt) (u : Tgts) : Tgts := fun ds ρ => match ds with
  | d :: r => match t d ρ with
    | some ρ1 => u r ρ1
    | none => none
  | [] => none
theorem dgs_nil : DGs ca X I [] tgNil := PGs.imp pgs_nil fun vs σ H Q q => by
  obtain ⟨G, ρ, F, ds, ρ', c, r, e, z⟩ := q
  cases r with
  | nil => cases e; exact ⟨rfl, z σ G H F .refl c (.refl fun _ h => h)⟩
  | cons => cases e
theorem dgs_cons (h1 : DG ca X I e t) (h2 : DGs ca X I es ts) (hs : (assignEach (e :: es) X.env).map (·.2) = assign e X.env :: (assignEach es X.env).map (·.2) := by rfl) : DGs ca X I (e :: es) (tgCons t ts) := PGs.imp (pgs_cons h1 h2 hs) fun vs σ H Q q => by
  obtain ⟨G, ρ, F, ds, ρ', c, r, e, z⟩ := q
  cases r with
  | nil => cases e
  | cons r rr =>
    rename_i v d vs ds
    unfold tgCons at e
    dsimp only at e
    cases h3 : t d ρ with
    | none => rw [h3] at e; cases e
    | some ρ1 =>
      rw [h3] at e
      refine ⟨v, vs, rfl, G, ρ, F, d, ρ1, c, r, h3, fun σ1 G1 H1 F1 p1 c1 x1 => ⟨G1, ρ1, F1, ds, ρ', c1, L2.Paired.mapP rr fun v d r => r.stay x1, e, fun σ2 G2 H2 F2 p2 c2 x2 => z σ2 G2 H2 F2 (p1.trans p2) c2 (x1.trans x2)⟩⟩
def tgTup (n : Nat) (t : Tgts) : Tgt := fun d ρ => match d with
  | .tup ds => if ds.length = n then t ds ρ else none
  | _ => none
theorem paired_of {R : V → D → Prop} : ∀ {vs : List V} {ds : List D}, vs.length = ds.length → (∀ (i : Nat) v d, vs[i]? = some v → ds[i]? = some d → R v d) → Paired R vs ds
  | [], [], _, _ => .nil
  | [], _ :: _, h, _ => by cases h
  | _ :: _, [], h, _ => by cases h
  | v :: vs, d :: ds, h, k => .cons (k 0 v d rfl rfl) (paired_of (by simpa using h) fun i v d e1 e2 => k (i + 1) v d (by simpa using e1) (by simpa using e2))
theorem dg_tup {k n : Nat} (hc : X.calm = true) (h : DGs ca X I es ts) (hn : (assignEach es X.env).length = n := by rfl) (hst : (assignEach es X.env).findIdx? (·.1) = none := by rfl) : DG ca X I (.Tuple es k pos) (tgTup n ts) := PG.imp (pg_tup hc h hn hst) fun v σ H Q q => by
  obtain ⟨G, ρ, F, d, ρ', c, r, e, z⟩ := q
  unfold tgTup at e
  split at e
  · rename_i ds
    split at e
    · rename_i hl
      cases r with
      | tup h' l c' => exact ⟨_, _, rfl, sqT_mono h' c.sub, l.trans hl, G, ρ, F, ds, ρ', c, paired_of l c', e, z⟩
    · cases e
  · cases e
/-- o[i] = v -/
def tgSub (gm : D → List D → Option (D × D)) (fs : Ev (List AV)) : Tgt := fun d ρ => match fs ρ with
  | some (.ok avs ρ1) => match mutK gm [d] avs ρ1 with
    | some (.ok _ ρ2) => some ρ2
    | _ => none
  | _ => none
theorem dg_sub {o i : Expr} {fo fi : Ev AV} {gm : D → List D → Option (D × D)} (ho : DE ca X o fo) (hi : DE ca X i fi) (hs : SetD ca X gm)
    (ha : ∀ v, assign (.Subscript o i pos) X.env v = (do
      let ov ← holding [v] (eval o X.env)
      let iv ← holding [v, ov] (eval i X.env)
      standAt pos
      holding [v, ov, iv] (setItem ov iv v)
      release [v, ov, iv] []) := by intro _; rfl) : DG ca X I (.Subscript o i pos) (tgSub gm (evCons fo (evCons fi evNil))) :=
  PG.imp (pg_sub (ho _ takes0) (hi _ takes0) hs ha) fun v σ H Q q => by
    obtain ⟨G, ρ, F, d, ρ', c, r, e, z⟩ := q
    unfold tgSub at e
    have q2 : tDL ⟨X.K, ca⟩ (fun _ _ _ _ => False) (evCons fo (evCons fi evNil)) σ H fun vs H1 => ∀ x y, vs = [x, y] → rMu ⟨X.K, ca⟩ gm x [y, v] H1 fun _ H' => Q σ H' := by
      cases hf : evCons fo (evCons fi evNil) ρ with
      | none => rw [hf] at e; cases e
      | some u =>
        rw [hf] at e
        cases u with
        | exc er ρ1 => cases e
        | ok avs ρ1 =>
          refine ⟨G, ρ, F, _, c, hf, fun vs G1 H1 F1 Wt c1 r1 n1 x1 x y hv => ?_⟩
          subst hv
          dsimp only at e
          cases hm : mutK gm [d] avs ρ1 with
          | none => rw [hm] at e; cases e
          | some o2 =>
            rw [hm] at e
            cases o2 with
            | exc er ρ2 => cases e
            | ok av ρ2 =>
              cases e
              have r2 : Rep ⟨X.K, ca⟩ G1 H1 v d nof := r.stay x1
              exact mut_end (Q := fun _ H' => Q σ H') (xe := [v]) (W := fun _ _ _ _ => False) c1 r1 n1 (.cons r2 .nil) hm (fun v' G' H' F' T c' r' n' x' => z σ G' H' F' .refl c' ((x1.trans x').mono (fun _ h => h) fun _ h => .inl h))
    exact tD_map (tDL_cons q2) fun x H1 k => tD_map (tDL_cons k) fun y H2 k => tDL_nil k x y rfl
/-- target = e, the value frozen -/
def sTgt (t : Tgt) (f : Ev AV) : Sv := evS f fun a ρ => match cont ρ a with
  | some d => (t (frz d) (frzS (plS [a]) ρ)).map .nx
  | none => none
theorem ds_asg {tg : Expr} {fe : Ev AV} (he : DE ca X e fe) (hg : DG ca X I tg t) (hs : swapsWithSole [tg] e pos.line X.env = pure false := by rfl) (hw : swappedStores [tg] e X.env = pure none := by rfl)
    (h1 : (assignEach [tg] X.env).map (·.2) = [assign tg X.env] := by rfl) : DS ca X I (.Assign [tg] e pos) (sTgt t fe) := fun W tk ps => PS.imp (ps_asg (he W tk) hg hs hw h1) fun Dn σ H h =>
  tSD_E h fun av ρ1 v G1 H1 F1 T o ek c1 r n z => by
    cases hc : cont ρ1 av with
    | none => rw [hc] at ek; cases ek
    | some d =>
      rw [hc] at ek
      obtain ⟨ρ2, e2, rfl⟩ := Option.map_eq_some_iff.mp ek
      obtain ⟨c2, x2⟩ := freeze_cfg c1 n (plS [av])
      have hcs : conts ρ1 [av] = some [d] := by unfold conts conts; rw [hc]
      have rr := freeze_reps c1 n (plS [av]) (.cons r (fun _ h => h) (.nil (Wt := nof)) (fun _ h => h.elim) fun _ _ h => h) hcs fun i h => h
      cases rr with
      | cons r' t' => exact ⟨_, _, _, _, _, c2, r', e2, fun σ' G' H' F' p c' x' => z σ' G' H' F' p c' (x2.trans x')⟩
end
end DL
namespace DL
open PySem PySem.Spec PyProof.Rows L2
structure ItD (B : Bd) (J : It) (ds : List D) (G : Hp) : Prop where
  go : ∀ (i : Nat) (G' H' : Hp), (∀ b o, G b = some o → G' b = some o) → (∀ b o, G' b = some o → H' b = some o) → i < ds.length → J.go i H'
  stop : ∀ (G' H' : Hp), (∀ b o, G b = some o → G' b = some o) → (∀ b o, G' b = some o → H' b = some o) → J.stop ds.length H'
  yld : ∀ (i : Nat) (G' H' : Hp) (x : V) (H'' : Hp), (∀ b o, G b = some o → G' b = some o) → (∀ b o, G' b = some o → H' b = some o) → i < ds.length → J.yld i H' x H'' →
    ∃ (d : D) (G'' : Hp), ds[i]? = some d ∧ (∀ b o, G'' b = some o → H'' b = some o) ∧ Rep B G'' H'' x d nof ∧ Ext G' H' nof G'' H'' nof
def endI (B : Bd) (W : WX) (σ : L2.St) (G H : Hp) (W0 : FP) (R : It → Hp → Prop) : Out (List D) → Prop
  | .ok ds ρ' => ∀ J G' H' F', Cfg B G' H' σ ρ' F' → ItD B J ds G' → Ext G H W0 G' H' (un F') → R J H'
  | .exc e ρ' => ∀ G' H' F' cls dx, Cfg B G' H' σ ρ' F' → ExcAt B G' cls dx e → Ext G H W0 G' H' (un F') → W cls dx σ H'
def tI (B : Bd) (W : WX) (f : Ev (List D)) : TI := fun σ H R => ∃ G ρ F o, Cfg B G H σ ρ F ∧ f ρ = some o ∧ endI B W σ G H (un F) R o
def DI (ca : Nat → Addr) (X : Cx) (tg iter : Expr) (f : Ev (List D)) : Prop := ∀ W, Takes X W → PI X tg iter (tI ⟨X.K, ca⟩ W f)
theorem PI.imp {X : Cx} {tg e : Expr} {t u : TI} (h : PI X tg e t) (k : ∀ (σ : L2.St) (H : Hp) (R : It → Hp → Prop), u σ H R → t σ H R) : PI X tg e u := ⟨fun pins s σ H R I q => h.run pins s σ H R I (k σ H R q)⟩
/-- items of frozen contents -/
def evIt (g : List D → Option (List D)) (fs : Ev (List AV)) : Ev (List D) := (evFz fs).andThen fun ds ρ => match g ds with
  | some xs => some (.ok xs ρ)
  | none => none
theorem tI_of {B : Bd} {W : WX} {σ : L2.St} {H : Hp} {g : List D → Option (List D)} {fs : Ev (List AV)} {R : It → Hp → Prop} (h : tI B W (evIt g fs) σ H R) :
    tDL B W fs σ H fun vs H1 => ∃ G ds xs, (∀ b o, G b = some o → H1 b = some o) ∧ Paired (fun v d => Rep B G H1 v d nof) vs ds ∧ g ds = some xs ∧ ∀ J, ItD B J xs G → R J H1 := by
  obtain ⟨G, ρ, F, o, c, e, z⟩ := h
  refine tDF_of (tDF_bind c e (fun er ρ' eo => by subst eo; exact z) fun ds ρ1 vs G1 H1 F1 ek c1 r1 x1 => ?_)
  cases hg : g ds with
  | none => rw [hg] at ek; cases ek
  | some xs =>
    rw [hg] at ek
    cases ek
    exact ⟨G1, ds, xs, c1.sub, r1, hg, fun J hJ => z J G1 H1 F1 c1 hJ x1⟩
def gItL : List D → Option (List D)
  | [.lst xs] => some xs
  | [.frl xs] => some xs
  | _ => none
def gItS : List D → Option (List D)
  | [.str x] => some (x.cps.toList.map fun c => .str ⟨#[c]⟩)
  | _ => none
def dInts (lo : Int) (n : Nat) : List D := (List.range n).map fun i => .int (lo + (i : Nat))
def gRng1 : List D → Option (List D)
  | [.int j] => if -(2 ^ 62) ≤ j ∧ j < 2 ^ 62 then some (dInts 0 j.toNat) else none
  | _ => none
def lstF : D → Option (List D)
  | .lst xs => some xs
  | .frl xs => some xs
  | _ => none
section
variable {B : Bd} {G : Hp}
theorem itd_range {lo : Int} {n : Nat} : ItD B (Itr lo n) (dInts lo n) G := by
  have len : (dInts lo n).length = n := by simp [dInts]
  refine ⟨fun i G' H' g1 g2 hi => by rw [len] at hi; exact hi, fun G' H' g1 g2 => by rw [len]; exact Nat.le_refl n, fun i G' H' x H'' g1 g2 hi y => ?_⟩
  obtain ⟨rfl, rfl⟩ := y
  rw [len] at hi
  exact ⟨.int (lo + (i : Nat)), G', by simp [dInts, hi], g2, .int _, .refl fun _ h => h⟩
theorem itd_str {x : Str} : ItD B (Its x) (x.cps.toList.map fun c => .str ⟨#[c]⟩) G := by
  have len : (x.cps.toList.map fun c => (D.str ⟨#[c]⟩)).length = x.cps.size := by simp
  refine ⟨fun i G' H' g1 g2 hi => by rw [len] at hi; exact hi, fun G' H' g1 g2 => by rw [len]; exact Nat.le_refl _, fun i G' H' v H'' g1 g2 hi y => ?_⟩
  obtain ⟨rfl, ch, e, rfl⟩ := y
  refine ⟨.str ⟨#[ch]⟩, G', ?_, g2, .str _, .refl fun _ h => h⟩
  rw [List.getElem?_map, Array.getElem?_toList, e]
  rfl
end
section
variable {ca : Nat → Addr} {X : Cx} {tg e e2 : Expr} {fe : Ev AV} {fs : Ev (List AV)} {p pos tpos : Pos} {elts : List Expr} {kk : Nat}
theorem di_str (he : DE ca X e fe) : DI ca X tg e (evIt gItS (evCons fe evNil)) := fun W tk => PI.imp (pi_str (he W tk)) fun σ H R h => by
  refine tD_map (tDL_cons (tI_of h)) fun x H1 k => ?_
  obtain ⟨G, ds, xs, s, rr, e, z⟩ := tDL_nil k
  cases rr with
  | cons r t =>
    cases t
    unfold gItS at e
    split at e
    · rename_i heq; cases heq; cases e
      cases r
      exact ⟨_, rfl, z _ itd_str⟩
    · cases e
theorem di_range1 (hm : X.mg "range" = none) (ha : DA ca X [e] fs) (hg : Gl X "range" := by rfl) (hs : starEach [e] X.env = [(false, eval e X.env)] := by rfl) : DI ca X tg (.Call (.Name "range" p) [e] [] pos) (evIt gRng1 fs) := fun W tk =>
  PI.imp (pi_range1 hg hm (ha W tk) hs) fun σ H R h => tDL_map (tI_of h) fun vs H1 ⟨G, ds, xs, s, rr, e, z⟩ => by
    unfold gRng1 at e
    split at e
    · split at e
      · rename_i hz
        cases e
        obtain ⟨x, rfl, r⟩ := paired1 rr
        cases r
        exact ⟨_, rfl, hz.1, hz.2, z _ itd_range⟩
      · cases e
    · cases e
end
def forE (t : Tgt) (body : Sv) : List D → Sv
  | [], ρ => some (.nx ρ)
  | d :: ds, ρ => match t d ρ with
    | none => none
    | some ρ1 => match body ρ1 with
      | some (.nx ρ2) => forE t body ds ρ2
      | some (.cnt ρ2) => forE t body ds ρ2
      | some (.brk ρ2) => some (.nx ρ2)
      | o => o
def sFor (fi : Ev (List D)) (t : Tgt) (body : Sv) : Sv := evS fi fun ds => forE t body ds
section
variable {ca : Nat → Addr} {X : Cx} {I : List Nat} {tg iter : Expr} {body : List Stmt} {fi : Ev (List D)} {t : Tgt} {fb : Sv} {pos : Pos}
theorem ds_for (hc : X.calm = true) (hi : DI ca X tg iter fi) (hg : DG ca X I tg t) (hb : DB ca X I body fb) (hs : ∀ x, foldedSetIterable iter X.env x = pure x := by intro _; rfl) : DS ca X I (.For tg iter body [] pos) (sFor fi t fb) := fun W tk ps =>
  PS.imp (ps_for ps hc (hi W tk) hg (hb W tk ps) hs) fun Dn σ H h => by
    obtain ⟨G, ρ, F, o, c, e, z⟩ := h
    unfold sFor evS at e
    cases hf : fi ρ with
    | none => rw [hf] at e; cases e
    | some u =>
      rw [hf] at e
      cases u with
      | exc er ρ' => cases e; exact ⟨G, ρ, F, _, c, hf, exc_out z⟩
      | ok ds ρ1 =>
        refine ⟨G, ρ, F, _, c, hf, fun J G1 H1 F1 c1 it x1 => ?_⟩
        have z1 := endS_trans z .refl x1
        refine ⟨fun i m σ' H' => m = ds.length - i ∧ i ≤ ds.length ∧ ∃ G' ρ' F' o', Cfg ⟨X.K, ca⟩ G' H' σ' ρ' F' ∧ (∀ b o, G1 b = some o → G' b = some o) ∧ forE t fb (ds.drop i) ρ' = some o' ∧ endS ⟨X.K, ca⟩ W I σ' G' H' (un F') Dn o',
          ⟨ds.length, by simp, Nat.zero_le _, G1, ρ1, F1, o, c1, fun _ _ h => h, e, z1⟩, ?_⟩
        rintro i m σ' H' ⟨rfl, hi, G', ρ', F', o', c', gg, e', z'⟩
        by_cases hlt : i < ds.length
        · have hd : ds.drop i = ds[i] :: ds.drop (i + 1) := List.drop_eq_getElem_cons hlt
          rw [hd] at e'
          unfold forE at e'
          cases ht : t ds[i] ρ' with
          | none => rw [ht] at e'; cases e'
          | some ρ2 =>
            rw [ht] at e'
            dsimp only at e'
            refine .inr ⟨it.go i G' H' gg c'.sub hlt, fun σ2 H2 => i + 1 ≤ ds.length ∧ ∃ G2 ρ3 F2 o2, Cfg ⟨X.K, ca⟩ G2 H2 σ2 ρ3 F2 ∧ (∀ b o, G1 b = some o → G2 b = some o) ∧ forE t fb (ds.drop (i + 1)) ρ3 = some o2 ∧ endS ⟨X.K, ca⟩ W I σ2 G2 H2 (un F2) Dn o2,
              fun σ2 H2 hN => ⟨ds.length - (i + 1), by omega, rfl, hN⟩, fun x H'' y => ?_⟩
            obtain ⟨d, G'', hd', sub'', rx, x''⟩ := it.yld i G' H' x H'' gg c'.sub hlt y
            have hdd : d = ds[i] := by rw [List.getElem?_eq_getElem hlt] at hd'; cases hd'; rfl
            subst hdd
            have c'' := c'.grow x'' sub''
            refine ⟨G'', ρ', F', ds[i], ρ2, c'', rx, ht, fun σ2 G2 H2 F2 p2 c2 x2 => ?_⟩
            have xx : Ext G' H' (un F') G2 H2 (un F2) := (Ext.more (.refl fun _ h => h) x'' |>.mono (fun _ h => h) (fun _ h => .inl h)).trans x2
            have z2 := endS_trans z' p2 xx
            have gg2 : ∀ b o, G1 b = some o → G2 b = some o := fun b o h => xx.gg b o (gg b o h)
            cases hb' : fb ρ2 with
            | none => rw [hb'] at e'; cases e'
            | some ob =>
              rw [hb'] at e'
              refine ⟨G2, ρ2, F2, ob, c2, hb', ?_⟩
              cases ob with
              | nx ρ3 => exact fun σ3 G3 H3 F3 p3 c3 x3 => ⟨hlt, G3, ρ3, F3, o', c3, fun b o h => x3.gg b o (gg2 b o h), e', endS_trans z2 p3 x3⟩
              | cnt ρ3 => exact fun σ3 G3 H3 F3 p3 c3 x3 => ⟨hlt, G3, ρ3, F3, o', c3, fun b o h => x3.gg b o (gg2 b o h), e', endS_trans z2 p3 x3⟩
              | brk ρ3 => cases e'; exact z2
              | ret d ρ3 => cases e'; exact z2
              | exc er ρ3 => cases e'; exact z2
        · have hi' : i = ds.length := by omega
          subst hi'
          rw [List.drop_length] at e'
          cases e'
          exact .inl ⟨it.stop G' H' gg c'.sub, z' σ' G' H' F' .refl c' (.refl fun _ h => h)⟩
end
def whF (c : Ev Bool) (body : Sv) : Nat → Sv
  | 0, _ => none
  | n + 1, ρ => match c ρ with
    | none => none
    | some (.exc e ρ1) => some (.exc e ρ1)
    | some (.ok false ρ1) => some (.nx ρ1)
    | some (.ok true ρ1) => match body ρ1 with
      | some (.nx ρ2) => whF c body n ρ2
      | some (.cnt ρ2) => whF c body n ρ2
      | some (.brk ρ2) => some (.nx ρ2)
      | o => o
theorem whF_mono {c : Ev Bool} {body : Sv} : ∀ {n : Nat} {ρ : DEnv} {o : SOut}, whF c body n ρ = some o → whF c body (n + 1) ρ = some o
  | 0, _, _, h => by cases h
  | n + 1, ρ, o, h => by
    unfold whF at h ⊢
    cases hc : c ρ with
    | none => rw [hc] at h; cases h
    | some u =>
      rw [hc] at h
      cases u with
      | exc e ρ1 => exact h
      | ok b ρ1 =>
        cases b with
        | false => exact h
        | true =>
          dsimp only at h ⊢
          cases hb : body ρ1 with
          | none => rw [hb] at h; cases h
          | some ob =>
            rw [hb] at h
            cases ob with
            | nx ρ2 => exact whF_mono h
            | cnt ρ2 => exact whF_mono h
            | brk ρ2 => exact h
            | ret d ρ2 => exact h
            | exc e ρ2 => exact h
theorem whF_le {c : Ev Bool} {body : Sv} {n m : Nat} {ρ : DEnv} {o : SOut} (h : whF c body n ρ = some o) (hm : n ≤ m) : whF c body m ρ = some o := by
  induction hm with
  | refl => exact h
  | step _ ih => exact whF_mono ih
open Classical in
noncomputable def whE (c : Ev Bool) (body : Sv) : Sv := fun ρ => if h : ∃ o n, whF c body n ρ = some o then some h.choose else none
theorem whE_of {c : Ev Bool} {body : Sv} {n : Nat} {ρ : DEnv} {o : SOut} (h : whF c body n ρ = some o) : whE c body ρ = some o := by
  have hx : ∃ o n, whF c body n ρ = some o := ⟨o, n, h⟩
  unfold whE
  rw [dif_pos hx]
  obtain ⟨n2, h2⟩ := hx.choose_spec
  have e1 := whF_le h (Nat.le_max_left n n2)
  have e2 := whF_le h2 (Nat.le_max_right n n2)
  rw [e1] at e2
  exact e2.symm
theorem whE_some {c : Ev Bool} {body : Sv} {ρ : DEnv} {o : SOut} (h : whE c body ρ = some o) : ∃ n, whF c body n ρ = some o := by
  unfold whE at h
  split at h
  · rename_i hx
    cases h
    exact hx.choose_spec
  · cases h
section
variable {ca : Nat → Addr} {X : Cx} {I : List Nat} {c : Expr} {body : List Stmt} {fc : Ev Bool} {fb : Sv} {pos : Pos}
theorem ds_while (hc : DT ca X c fc) (hb : DB ca X I body fb) : DS ca X I (.While c body [] pos) (whE fc fb) := fun W tk ps =>
  PS.imp (ps_while ps (hc W tk) (hb W tk ps)) fun Dn σ H h => by
    obtain ⟨G, ρ, F, o, cf, e, z⟩ := h
    obtain ⟨n, e⟩ := whE_some e
    refine ⟨fun m σ' H' => ∃ G' ρ' F' o', Cfg ⟨X.K, ca⟩ G' H' σ' ρ' F' ∧ whF fc fb m ρ' = some o' ∧ endS ⟨X.K, ca⟩ W I σ' G' H' (un F') Dn o', ⟨n, G, ρ, F, o, cf, e, z⟩, ?_⟩
    rintro m σ' H' ⟨G', ρ', F', o', c', e', z'⟩
    cases m with
    | zero => cases e'
    | succ m =>
      unfold whF at e'
      cases hcc : fc ρ' with
      | none => rw [hcc] at e'; cases e'
      | some u =>
        rw [hcc] at e'
        cases u with
        | exc er ρ1 => cases e'; exact ⟨G', ρ', F', _, c', hcc, exc_out z'⟩
        | ok b ρ1 =>
          refine ⟨G', ρ', F', _, c', hcc, fun G1 H1 F1 c1 x1 => ?_⟩
          have z1 := endS_trans z' .refl x1
          cases b with
          | false => cases e'; exact L2.iteF (z1 σ' G1 H1 F1 .refl c1 (.refl fun _ h => h))
          | true =>
            refine L2.iteT ?_
            dsimp only at e'
            refine ⟨fun σ2 H2 => ∃ G2 ρ2 F2 o2, Cfg ⟨X.K, ca⟩ G2 H2 σ2 ρ2 F2 ∧ whF fc fb m ρ2 = some o2 ∧ endS ⟨X.K, ca⟩ W I σ2 G2 H2 (un F2) Dn o2, fun σ2 H2 h => ⟨m, by omega, h⟩, ?_⟩
            cases hb' : fb ρ1 with
            | none => rw [hb'] at e'; cases e'
            | some ob =>
              rw [hb'] at e'
              refine ⟨G1, ρ1, F1, ob, c1, hb', ?_⟩
              cases ob with
              | nx ρ3 => exact fun σ3 G3 H3 F3 p3 c3 x3 => ⟨G3, ρ3, F3, o', c3, e', endS_trans z1 p3 x3⟩
              | cnt ρ3 => exact fun σ3 G3 H3 F3 p3 c3 x3 => ⟨G3, ρ3, F3, o', c3, e', endS_trans z1 p3 x3⟩
              | brk ρ3 => cases e'; exact z1
              | ret d ρ3 => cases e'; exact z1
              | exc er ρ3 => cases e'; exact z1
end
end DL
namespace DL
open PySem PySem.Spec PyProof.Rows L2
def wipeD (ρ : DEnv) : List Nat → DEnv
  | [] => ρ
  | v :: vs => (wipeD ρ vs).set v none
/-- the slots in vs as they were in ρ0 -/
def restD (ρ0 ρ : DEnv) : List Nat → DEnv
  | [] => ρ
  | v :: vs => match ρ0[v]? with
    | some o => (restD ρ0 ρ vs).set v o
    | none => restD ρ0 ρ vs
theorem wipeD_len (ρ : DEnv) : ∀ vs : List Nat, (wipeD ρ vs).length = ρ.length
  | [] => rfl
  | v :: vs => by rw [wipeD, List.length_set, wipeD_len ρ vs]
theorem restD_len (ρ0 ρ : DEnv) : ∀ vs : List Nat, (restD ρ0 ρ vs).length = ρ.length
  | [] => rfl
  | v :: vs => by
    unfold restD
    split
    · rw [List.length_set, restD_len ρ0 ρ vs]
    · exact restD_len ρ0 ρ vs
theorem wipeD_in {ρ : DEnv} {i : Nat} : ∀ {vs : List Nat}, i ∈ vs → ∀ d, (wipeD ρ vs)[i]? ≠ some (some d)
  | v :: vs, h, d, e => by
    rw [wipeD] at e
    by_cases hv : v = i
    · subst hv
      have hl : v < ((wipeD ρ vs).set v none).length := (List.getElem?_eq_some_iff.mp e).1
      rw [List.getElem?_set_self (by simpa using hl)] at e
      cases e
    · rw [List.getElem?_set_ne hv] at e
      exact wipeD_in ((List.mem_cons.mp h).resolve_left (Ne.symm hv)) d e
theorem wipeD_out {ρ : DEnv} {i : Nat} : ∀ {vs : List Nat}, i ∉ vs → (wipeD ρ vs)[i]? = ρ[i]?
  | [], _ => rfl
  | v :: vs, h => by
    rw [wipeD, List.getElem?_set_ne fun z => h (by simp [z])]
    exact wipeD_out fun z => h (by simp [z])
theorem restD_in {ρ0 ρ : DEnv} (l : ρ0.length = ρ.length) {i : Nat} : ∀ {vs : List Nat}, i ∈ vs → (restD ρ0 ρ vs)[i]? = ρ0[i]?
  | v :: vs, h => by
    unfold restD
    by_cases hv : v = i
    · subst hv
      cases q : ρ0[v]? with
      | none =>
        have : ρ.length ≤ v := by rw [← l]; exact List.getElem?_eq_none_iff.mp q
        dsimp only
        rw [List.getElem?_eq_none_iff.mpr (by rw [restD_len]; exact this)]
      | some o =>
        dsimp only
        have hl : v < ρ0.length := (List.getElem?_eq_some_iff.mp q).1
        rw [List.getElem?_set_self (by rw [restD_len, ← l]; exact hl)]
    · have hm := (List.mem_cons.mp h).resolve_left (Ne.symm hv)
      split
      · rw [List.getElem?_set_ne hv]; exact restD_in l hm
      · exact restD_in l hm
theorem restD_out {ρ0 ρ : DEnv} {i : Nat} : ∀ {vs : List Nat}, i ∉ vs → (restD ρ0 ρ vs)[i]? = ρ[i]?
  | [], _ => rfl
  | v :: vs, h => by
    unfold restD
    split
    · rw [List.getElem?_set_ne fun z => h (by simp [z])]
      exact restD_out fun z => h (by simp [z])
    · exact restD_out fun z => h (by simp [z])
theorem wipe_in {σ : L2.St} {i : Nat} (hi : i < σ.length) : ∀ {vs : List Nat}, i ∈ vs → (wipe σ vs)[i]? = some none
  | v :: vs, h => by
    unfold wipe
    by_cases hv : v = i
    · subst hv; rw [List.getElem?_set_self (by rw [wipe_length]; exact hi)]
    · rw [List.getElem?_set_ne hv]; exact wipe_in hi ((List.mem_cons.mp h).resolve_left (Ne.symm hv))
theorem wipe_ext {σ σ' : L2.St} {vs : List Nat} (l : σ'.length = σ.length) (h : ∀ i, i ∉ vs → σ'[i]? = (wipe σ vs)[i]?) : wipe σ' vs = wipe σ vs := by
  refine List.ext_getElem? fun i => ?_
  by_cases hi : i ∈ vs
  · by_cases hl : i < σ.length
    · rw [wipe_in hl hi, wipe_in (by omega) hi]
    · rw [List.getElem?_eq_none_iff.mpr (by rw [wipe_length]; omega), List.getElem?_eq_none_iff.mpr (by rw [wipe_length]; omega)]
  · rw [wipe_out hi, h i hi]
section
variable {B : Bd} {G H : Hp} {σ : L2.St} {ρ : DEnv} {F : Nat → FP}
theorem Cfg.wipe (c : Cfg B G H σ ρ F) (vs : List Nat) : Cfg B G H (L2.wipe σ vs) (wipeD ρ vs) (fun j x => F j x ∧ j ∉ vs) := by
  refine ⟨c.sub, by rw [wipeD_len, wipe_length]; exact c.len, fun i d e => ?_, fun i h x hx => ?_, fun i j x a b => c.dis i j x a.1 b.1⟩
  · by_cases hi : i ∈ vs
    · exact (wipeD_in hi d e).elim
    · rw [wipeD_out hi] at e
      obtain ⟨v, e1, r⟩ := c.slot i d e
      refine ⟨v, by rw [wipe_out hi]; exact e1, ?_⟩
      have en : (fun x => F i x ∧ i ∉ vs) = F i := by funext x; exact propext ⟨fun z => z.1, fun z => ⟨z, hi⟩⟩
      rw [en]; exact r
  · obtain ⟨d, v, e1, _, _⟩ := c.own hx.1
    exact h d (by rw [wipeD_out hx.2]; exact e1)
/-- back to the slots that were wiped -/
theorem Cfg.rest {G' H' : Hp} {ρ' : DEnv} {F' : Nat → FP} {W' : FP} {vs : List Nat} (c : Cfg B G H σ ρ F) (c' : Cfg B G' H' (L2.wipe σ vs) ρ' F') (x : Ext G H (un fun j x => F j x ∧ j ∉ vs) G' H' W') (w : ∀ y, un F' y → W' y) :
    Cfg B G' H' σ (restD ρ ρ' vs) (fun j y => (j ∈ vs ∧ F j y) ∨ (j ∉ vs ∧ F' j y)) ∧ ∀ y, (∃ j, j ∈ vs ∧ F j y) → ¬ W' y := by
  have l : ρ.length = ρ'.length := by rw [c.len, c'.len, wipe_length]
  have fr : ∀ i d v, i ∈ vs → Rep B G H v d (F i) → Rep B G' H' v d (F i) ∧ ∀ b, F i b → ¬ W' b := fun i d v hi r => r.frame x fun b hb ⟨j, hj⟩ => hj.2 (by rw [c.dis j i b hj.1 hb]; exact hi)
  refine ⟨⟨c'.sub, by rw [restD_len, c'.len, wipe_length], fun i d e => ?_, fun i h y hy => ?_, fun i j y a b => ?_⟩, fun y ⟨j, hj, hy⟩ => ?_⟩
  · by_cases hi : i ∈ vs
    · rw [restD_in l hi] at e
      obtain ⟨v, e1, r⟩ := c.slot i d e
      refine ⟨v, e1, ?_⟩
      have en : (fun y => (i ∈ vs ∧ F i y) ∨ (i ∉ vs ∧ F' i y)) = F i := by funext y; exact propext ⟨fun z => z.elim (·.2) fun z => (z.1 hi).elim, fun z => .inl ⟨hi, z⟩⟩
      rw [en]; exact (fr i d v hi r).1
    · rw [restD_out hi] at e
      obtain ⟨v, e1, r⟩ := c'.slot i d e
      rw [wipe_out hi] at e1
      refine ⟨v, e1, ?_⟩
      have en : (fun y => (i ∈ vs ∧ F i y) ∨ (i ∉ vs ∧ F' i y)) = F' i := by funext y; exact propext ⟨fun z => z.elim (fun z => (hi z.1).elim) (·.2), fun z => .inr ⟨hi, z⟩⟩
      rw [en]; exact r
  · rcases hy with ⟨hi, hy⟩ | ⟨hi, hy⟩
    · obtain ⟨d, v, e1, _, _⟩ := c.own hy
      exact h d (by rw [restD_in l hi]; exact e1)
    · obtain ⟨d, v, e1, _, _⟩ := c'.own hy
      exact h d (by rw [restD_out hi]; exact e1)
  · rcases a with ⟨h1, a⟩ | ⟨h1, a⟩ <;> rcases b with ⟨h2, b⟩ | ⟨h2, b⟩
    · exact c.dis i j y a b
    · obtain ⟨d, v, _, _, r⟩ := c.own a
      exact ((fr i d v h1 r).2 y a (w y ⟨j, b⟩)).elim
    · obtain ⟨d, v, _, _, r⟩ := c.own b
      exact ((fr j d v h2 r).2 y b (w y ⟨i, a⟩)).elim
    · exact c'.dis i j y a b
  · obtain ⟨d, v, _, _, r⟩ := c.own hy
    exact (fr j d v hj r).2 y hy
end
def evYes : Ev Bool := .pure true
/-- the items one by one; acc: what is made so far -/
def compE (vs : List Nat) (t : Tgt) (c : Ev Bool) (f : Ev AV) : List D → List D → DEnv → Option (List D × DEnv)
  | [], acc, ρ => some (acc, wipeD ρ vs)
  | d :: ds, acc, ρ => match t d (wipeD ρ vs) with
    | none => none
    | some ρ1 => match c ρ1 with
      | some (.ok false ρ2) => compE vs t c f ds acc ρ2
      | some (.ok true ρ2) => match f ρ2 with
        | some (.ok av ρ3) => match cont ρ3 av with
          | some e => if acc.length < 16777216 then compE vs t c f ds (acc ++ [frz e]) (frzS (plS [av]) ρ3) else none
          | none => none
        | _ => none
      | _ => none
def evComp (fi : Ev (List D)) (vs : List Nat) (t : Tgt) (c : Ev Bool) (f : Ev AV) : Ev AV := fi.andThen fun ds ρ => match compE vs t c f ds [] (wipeD ρ vs) with
  | some (acc, ρ') => some (.ok (.val (.ol acc)) (restD ρ ρ' vs))
  | none => none
/-- the slots that are not in vs -/
def others (n : Nat) (vs : List Nat) : List Nat := (List.range n).filter fun i => decide (i ∉ vs)
def DTs (ca : Nat → Addr) (X : Cx) (ifs : List Expr) (f : Ev Bool) : Prop := ∀ W, Takes X W → PTs X ifs (tDT ⟨X.K, ca⟩ W f)
theorem wipeD_get {ρ : DEnv} {i : Nat} (hi : i < ρ.length) : ∀ {vs : List Nat}, i ∈ vs → (wipeD ρ vs)[i]? = some none
  | v :: vs, h => by
    rw [wipeD]
    by_cases hv : v = i
    · subst hv; rw [List.getElem?_set_self (by rw [wipeD_len]; exact hi)]
    · rw [List.getElem?_set_ne hv]; exact wipeD_get hi ((List.mem_cons.mp h).resolve_left (Ne.symm hv))
theorem wipeD_wipeD (ρ : DEnv) (vs : List Nat) : wipeD (wipeD ρ vs) vs = wipeD ρ vs := by
  refine List.ext_getElem? fun i => ?_
  by_cases hi : i ∈ vs
  · by_cases hl : i < ρ.length
    · rw [wipeD_get (by rw [wipeD_len]; exact hl) hi, wipeD_get hl hi]
    · rw [List.getElem?_eq_none_iff.mpr (by rw [wipeD_len, wipeD_len]; omega), List.getElem?_eq_none_iff.mpr (by rw [wipeD_len]; omega)]
  · rw [wipeD_out hi]
theorem compE_wipe {vs : List Nat} {t : Tgt} {fc : Ev Bool} {f : Ev AV} {ds acc : List D} {ρ : DEnv} : compE vs t fc f ds acc (wipeD ρ vs) = compE vs t fc f ds acc ρ := by
  cases ds with
  | nil => unfold compE; rw [wipeD_wipeD]
  | cons d ds => unfold compE; rw [wipeD_wipeD]
section
variable {ca : Nat → Addr} {X : Cx}
theorem PTs.imp {X : Cx} {e : List Expr} {t u : TT} (h : PTs X e t) (k : ∀ (σ : L2.St) (H : Hp) (Q : Bool → Hp → Prop), u σ H Q → t σ H Q) : PTs X e u := ⟨fun pins s σ H Q I q => h.run pins s σ H Q I (k σ H Q q)⟩
theorem dts_nil : DTs ca X [] evYes := fun W tk => PTs.imp pts_nil fun σ H Q h => by
  obtain ⟨G, ρ, F, o, c, e, z⟩ := h
  exact tDT_pure c e z
variable {elt tg iter : Expr} {ifs : List Expr} {scope : Scope} {own : List (Str × Nat)} {pos : Pos} {fi : Ev (List D)} {t : Tgt} {fc : Ev Bool} {f : Ev AV} {N : Nat}
/-- the reading of a comprehension -/
theorem tD_comp {B : Bd} {W : WX} {σ : L2.St} {H : Hp} {Q : VK} {vs : List Nat} (hN : ∀ {G H : Hp} {ρ : DEnv} {F : Nat → FP}, Cfg B G H σ ρ F → σ.length = N) (h : tD B W (evComp fi vs t fc f) σ H Q) :
    tLc (tI B W fi) (gD B (others N vs) t) (tDT B (fun _ _ _ _ => False) fc) (tD B (fun _ _ _ _ => False) f) vs σ H Q := by
  obtain ⟨G, ρ, F, o, c, e, z⟩ := h
  unfold evComp at e
  cases hf : fi ρ with
  | none => rw [andThen_none hf] at e; cases e
  | some u =>
    cases u with
    | exc er ρ' => rw [andThen_exc hf] at e; cases e; exact ⟨G, ρ, F, _, c, hf, z⟩
    | ok ds ρ1 =>
      rw [andThen_ok hf] at e
      refine ⟨G, ρ, F, _, c, hf, fun J G1 H1 F1 c1 it x1 D hD => ?_⟩
      cases hc : compE vs t fc f ds [] (wipeD ρ1 vs) with
      | none => rw [hc] at e; cases e
      | some q =>
        obtain ⟨acc, ρ'⟩ := q
        rw [hc] at e
        cases e
        have hn := hN c1
        have gD0 : G1 D = none := no_g c1.sub hD
        -- what holds of the state between two turns
        refine ⟨fun i m H' => m = ds.length - i ∧ i ≤ ds.length ∧ ∃ G' ρ2 F2 acc2 vs2, Cfg B G' H' (L2.wipe σ vs) ρ2 F2 ∧ (∀ b o, G1 b = some o → G' b = some o) ∧ Ext G1 H1 (un fun j x => F1 j x ∧ j ∉ vs) G' H' (fun x => un F2 x ∨ x = D) ∧ G' D = none ∧ ¬ un F2 D ∧
            H' D = some (.lst vs2) ∧ Paired (fun v d => Rep B G' H' v d nof) vs2 acc2 ∧ compE vs t fc f (ds.drop i) acc2 ρ2 = some (acc, ρ'),
          ⟨ds.length, by simp, Nat.zero_le _, G1, wipeD ρ1 vs, _, [], [], (c1.wipe vs).grow (ext_own hD) (sub_own hD c1.sub), fun _ _ h => h, ?_, gD0, fun ⟨j, hj⟩ => ?_, upd_same, .nil, hc⟩, ?_⟩
        · have x2 : Ext G1 H1 nof G1 (upd H1 D (.lst [])) (fun x => x = D) := ext_own hD
          exact (Ext.refl (fun _ h => h)).more x2
        · obtain ⟨⟨o, eo⟩, _⟩ := c1.dom ⟨j, hj.1⟩
          rw [hD] at eo; cases eo
        · rintro i m H' ⟨rfl, hi, G', ρ2, F2, acc2, vs2, c2, gg, xx, gD', nD, hD', ra, e'⟩
          by_cases hlt : i < ds.length
          · have hd : ds.drop i = ds[i] :: ds.drop (i + 1) := List.drop_eq_getElem_cons hlt
            rw [hd] at e'
            unfold compE at e'
            refine .inr ⟨it.go i G' H' gg c2.sub hlt, fun H3 => i + 1 ≤ ds.length ∧ ∃ G3 ρ3 F3 acc3 vs3, Cfg B G3 H3 (L2.wipe σ vs) ρ3 F3 ∧ (∀ b o, G1 b = some o → G3 b = some o) ∧ Ext G1 H1 (un fun j x => F1 j x ∧ j ∉ vs) G3 H3 (fun x => un F3 x ∨ x = D) ∧ G3 D = none ∧ ¬ un F3 D ∧
            H3 D = some (.lst vs3) ∧ Paired (fun v d => Rep B G3 H3 v d nof) vs3 acc3 ∧ compE vs t fc f (ds.drop (i + 1)) acc3 ρ3 = some (acc, ρ'), fun H3 hN => ⟨ds.length - (i + 1), by omega, rfl, hN⟩, fun x H'' y => ?_⟩
            obtain ⟨d, G'', hd', sub'', rx, x''⟩ := it.yld i G' H' x H'' gg c2.sub hlt y
            have hdd : d = ds[i] := by rw [List.getElem?_eq_getElem hlt] at hd'; cases hd'; rfl
            subst hdd
            cases ht : t ds[i] (wipeD ρ2 vs) with
            | none => rw [ht] at e'; cases e'
            | some ρ3 =>
              rw [ht] at e'
              dsimp only at e'
              have c2' := c2.grow x'' sub''
              have c2w : Cfg B G'' H'' (L2.wipe σ vs) (wipeD ρ2 vs) (fun j x => F2 j x ∧ j ∉ vs) := by
                have := c2'.wipe vs
                rw [wipe_ext (σ := σ) (wipe_length _ _) fun i _ => rfl] at this
                exact this
              have xx1 : Ext G1 H1 (un fun j x => F1 j x ∧ j ∉ vs) G'' H'' (fun x => un (fun j x => F2 j x ∧ j ∉ vs) x ∨ x = D) := by
                have := xx.more x''
                exact this.mono (fun _ h => h) fun x h => .inl (h.imp (fun ⟨j, hj⟩ => ⟨j, hj.1⟩) id)
              have dD2 : H'' D = some (.lst vs2) := x''.hh D _ hD' id
              have gD2 : G'' D = none := by
                cases w : G'' D with
                | none => rfl
                | some o =>
                  rcases x''.gn D o w with w | w | w
                  · rw [gD'] at w; cases w
                  · exact w.elim
                  · rw [hD'] at w; cases w
              -- a step of this turn: the list stands apart
              have step : ∀ {G3 H3 : Hp} {W3 W4 : FP}, Ext G1 H1 (un fun j x => F1 j x ∧ j ∉ vs) G3 H3 (fun x => W3 x ∨ x = D) → H3 D = some (.lst vs2) → G3 D = none → ¬ W3 D → ∀ {G4 H4 : Hp}, Ext G3 H3 W3 G4 H4 W4 →
                  Ext G1 H1 (un fun j x => F1 j x ∧ j ∉ vs) G4 H4 (fun x => W4 x ∨ x = D) ∧ H4 D = some (.lst vs2) ∧ G4 D = none ∧ ¬ W4 D := fun {G3 H3 W3 W4} xa hd3 gd3 nd3 {G4 H4} xb => by
                refine ⟨?_, xb.hh D _ hd3 nd3, ?_, fun w => ?_⟩
                · have xc : Ext G3 H3 (fun x => W3 x ∨ x = D) G4 H4 (fun x => W4 x ∨ x = D) := ⟨xb.gg, fun b o e n => xb.hh b o e fun w => n (.inl w), fun b hb => hb.elim (fun h => (xb.ww b h).imp .inl id) fun h => .inl (.inr h), fun b o e => (xb.gn b o e).imp id fun h => h.imp .inl id⟩
                  exact xa.trans xc
                · cases w : G4 D with
                  | none => rfl
                  | some o =>
                    rcases xb.gn D o w with w | w | w
                    · rw [gd3] at w; cases w
                    · exact (nd3 w).elim
                    · rw [hd3] at w; cases w
                · rcases xb.ww D w with w | w
                  · exact nd3 w
                  · rw [hd3] at w; cases w
              refine ⟨G'', wipeD ρ2 vs, _, ds[i], ρ3, c2w, rx, ht, fun σ4 G4 H4 F4 p4 c4 x4 => ⟨?_, ?_⟩⟩
              · refine wipe_ext (by rw [p4.len, wipe_length]) fun j hj => ?_
                by_cases hjn : j < N
                · exact p4.at_ j (List.mem_filter.mpr ⟨List.mem_range.mpr hjn, by simpa using hj⟩)
                · rw [List.getElem?_eq_none_iff.mpr (by rw [p4.len, wipe_length]; omega), List.getElem?_eq_none_iff.mpr (by rw [wipe_length]; omega)]
              · have hw4 : L2.wipe σ4 vs = L2.wipe σ vs := by
                  refine wipe_ext (by rw [p4.len, wipe_length]) fun j hj => ?_
                  by_cases hjn : j < N
                  · exact p4.at_ j (List.mem_filter.mpr ⟨List.mem_range.mpr hjn, by simpa using hj⟩)
                  · rw [List.getElem?_eq_none_iff.mpr (by rw [p4.len, wipe_length]; omega), List.getElem?_eq_none_iff.mpr (by rw [wipe_length]; omega)]
                obtain ⟨xa4, hd4, gd4, nd4⟩ := step xx1 dD2 gD2 (fun ⟨j, hj⟩ => nD ⟨j, hj.1⟩) x4
                -- back to the turn's start
                have back : ∀ {G5 H5 : Hp} {ρ5 : DEnv} {F5 : Nat → FP}, Cfg B G5 H5 σ4 ρ5 F5 → Cfg B G5 H5 (L2.wipe σ vs) (wipeD ρ5 vs) (fun j x => F5 j x ∧ j ∉ vs) := fun {G5 H5 ρ5 F5} c5 => by
                  have := c5.wipe vs
                  rw [hw4] at this
                  exact this
                have pr : ∀ {G5 H5 : Hp}, (∀ b o, G' b = some o → G5 b = some o) → Paired (fun v d => Rep B G5 H5 v d nof) vs2 acc2 := fun {G5 H5} g5 => L2.Paired.mapP ra fun v d r => r.keep g5 fun _ h => h.elim
                cases hfc : fc ρ3 with
                | none => rw [hfc] at e'; cases e'
                | some uc =>
                  rw [hfc] at e'
                  cases uc with
                  | exc er ρ4 => cases e'
                  | ok b ρ4 =>
                    refine ⟨G4, ρ3, F4, _, c4, hfc, fun G5 H5 F5 c5 x5 => ?_⟩
                    obtain ⟨xa5, hd5, gd5, nd5⟩ := step xa4 hd4 gd4 nd4 x5
                    cases b with
                    | false =>
                      refine L2.iteF ⟨hlt, G5, wipeD ρ4 vs, _, acc2, vs2, back c5, fun b o h => xa5.gg b o h, xa5.mono (fun _ h => h) (fun x h => h.imp (fun ⟨j, hj⟩ => ⟨j, hj.1⟩) id), gd5, fun ⟨j, hj⟩ => nd5 ⟨j, hj.1⟩, hd5, pr fun b o h => x5.gg b o (x4.gg b o (x''.gg b o h)), ?_⟩
                      rw [compE_wipe]
                      exact e'
                    | true =>
                      refine L2.iteT ?_
                      dsimp only at e'
                      cases hff : f ρ4 with
                      | none => rw [hff] at e'; cases e'
                      | some uf =>
                        rw [hff] at e'
                        cases uf with
                        | exc er ρ5 => cases e'
                        | ok av ρ5 =>
                          dsimp only at e'
                          refine ⟨G5, ρ4, F5, _, c5, hff, fun w G6 H6 F6 T c6 r6 n6 x6 => ?_⟩
                          obtain ⟨xa6, hd6, gd6, nd6⟩ := step xa5 hd5 gd5 nd5 x6
                          cases hcv : cont ρ5 av with
                          | none => rw [hcv] at e'; cases e'
                          | some ed =>
                            rw [hcv] at e'
                            dsimp only at e'
                            split at e'
                            · rename_i hz
                              obtain ⟨c7, x7⟩ := freeze_cfg c6 n6 (plS [av])
                              have hcs : conts ρ5 [av] = some [ed] := by unfold conts conts; rw [hcv]
                              have rr := freeze_reps c6 n6 (plS [av]) (.cons r6 (fun _ h => h) (.nil (Wt := nof)) (fun _ h => h.elim) fun _ _ h => h) hcs fun i h => h
                              obtain ⟨w', hw', rw'⟩ := paired1 rr
                              cases hw'
                              obtain ⟨xa7, hd7, gd7, nd7⟩ := step xa6 hd6 gd6 nd6 x7
                              refine ⟨vs2, hd6, by rw [sizeLine_eq, paired_len ra]; exact hz, hlt, _, wipeD (frzS (plS [av]) ρ5) vs, (fun j x => (F6 j x ∧ j ∉ plS [av]) ∧ j ∉ vs), acc2 ++ [frz ed], vs2 ++ [w], ?_, fun b o h => xa7.gg b o h, ?_, gd7, fun ⟨j, hj⟩ => nd7 ⟨j, hj.1⟩, upd_same, ?_, ?_⟩
                              · have := back c7
                                refine this.apart (W := fun x => x = D) (W1 := fun x => x = D) ⟨fun _ _ e => e, fun b o e n => by rw [upd_ne n]; exact e, fun b h => .inl h, fun _ _ e => .inl e⟩ (fun b o e => ?_) fun b ⟨j, hj⟩ z => nd7 (by rw [← z]; exact ⟨j, hj.1⟩)
                                rw [upd_ne fun z => by rw [z, gd7] at e; cases e]
                                exact c7.sub b o e
                              · refine ⟨xa7.gg, fun b o e n => ?_, fun b h => xa7.ww b (h.imp (fun ⟨j, hj⟩ => ⟨j, hj.1⟩) id), xa7.gn⟩
                                rw [upd_ne fun z => by rw [z, hD] at e; cases e]
                                exact xa7.hh b o e n
                              · have g7 : ∀ b o, G' b = some o → gfr G6 H6 (frU G6 H6 F6 T (plS [av])) b = some o := fun b o h => x7.gg b o (x6.gg b o (x5.gg b o (x4.gg b o (x''.gg b o h))))
                                exact paired_append (L2.Paired.mapP ra fun v d r => r.keep g7 fun _ h => h.elim) (.cons rw'.up .nil)
                              · rw [compE_wipe]
                                exact e'
                            · cases e'
          · have hi' : i = ds.length := by omega
            subst hi'
            rw [List.drop_length] at e'
            cases e'
            refine .inl ⟨it.stop G' H' gg c2.sub, ?_⟩
            have c2n : Cfg B G' H' (L2.wipe σ vs) (wipeD ρ2 vs) (fun j x => F2 j x ∧ j ∉ vs) := by
              have := c2.wipe vs
              rw [wipe_ext (σ := σ) (wipe_length _ _) fun i _ => rfl] at this
              exact this
            obtain ⟨c3, ap⟩ := c1.rest c2n xx fun y ⟨j, hj⟩ => .inl ⟨j, hj.1⟩
            refine z (.ref D) G' H' _ (fun x => x = D) c3 (rep_ol gD' hD' (paired_len ra) fun i v d e1 e2 => paired_get ra i v d e1 e2) (fun x hx ⟨j, hj⟩ => ?_) (x1.trans ?_)
            · subst hx
              rcases hj with ⟨_, hj⟩ | ⟨_, hj⟩
              · obtain ⟨⟨o, eo⟩, _⟩ := c1.dom ⟨j, hj⟩
                rw [hD] at eo; cases eo
              · exact nD ⟨j, hj.1⟩
            · refine ⟨xx.gg, fun b o e n => xx.hh b o e fun ⟨j, hj⟩ => n ⟨j, hj.1⟩, fun b hb => ?_, fun b o e => (xx.gn b o e).imp id fun h => h.imp (fun ⟨j, hj⟩ => ⟨j, hj.1⟩) id⟩
              rcases hb with ⟨j, ⟨_, hj⟩ | ⟨_, hj⟩⟩ | hb
              · exact .inl ⟨j, hj⟩
              · exact (xx.ww b (.inl ⟨j, hj.1⟩)).imp (fun ⟨j, hj⟩ => ⟨j, hj.1⟩) id
              · exact .inr (by rw [hb]; exact hD)
end
end DL
namespace DL
open PySem PySem.Spec PyProof.Rows L2
section
variable {ca : Nat → Addr} {X : Cx} {elt tg iter : Expr} {ifs : List Expr} {scope : Scope} {own : List (Str × Nat)} {pos spos py : Pos} {fi : Ev (List D)} {t : Tgt} {fc : Ev Bool} {f : Ev AV} {i : Nat} {y : Str}
abbrev Cx.cmp (X : Cx) (s : Shared) (H : Hp) (scope : Scope) (C : Addr) (cl : List (Str × Addr)) (fp : List Addr) : Cx := X.blk s H scope (compEnvC scope cl C X.env) fp
theorem de_lc (hc : X.calm = true) (hN : X.N.Nodup) (hi : DI ca X tg iter fi) (ok : BlkOk X.N X.env.scope scope own)
    (hg : ∀ s H C cl fp, DG ca (Cx.cmp X s H scope C cl fp) (others X.N.length (own.map (fun z : Str × Nat => z.2))) tg t) (ht : ∀ s H C cl fp, DTs ca (Cx.cmp X s H scope C cl fp) ifs fc)
    (he : ∀ s H C cl fp, DE ca (Cx.cmp X s H scope C cl fp) elt f) (hs : ∀ x, foldedSetIterable iter X.env x = pure x := by intro _; rfl) :
    DE ca X (.ListComp elt [⟨tg, iter, ifs, 0⟩] scope pos) (evComp fi (own.map (fun z : Str × Nat => z.2)) t fc f) := fun W tk =>
  ⟨fun pins s σ H Q I h => (pe_lc (g := gD ⟨X.K, ca⟩ (others X.N.length (own.map (fun z : Str × Nat => z.2))) t) (tt := tDT ⟨X.K, ca⟩ (fun _ _ _ _ => False) fc) (te := tD ⟨X.K, ca⟩ (fun _ _ _ _ => False) f) hc hN (hi W tk) ok (fun s H C cl fp => hg s H C cl fp) (fun s H C cl fp => ht s H C cl fp _ takes0) (fun s H C cl fp => he s H C cl fp _ takes0) hs).run pins s σ H Q I (tD_comp (N := X.N.length) (fun _ => I.len) h)⟩
end
end DL
namespace DL
open PySem PySem.Spec PyProof.Rows L2
def sCat (catch_ : Nat → Option Bool) (i : Nat) (fb fs : Sv) : Sv := fun ρ => match fb ρ with
  | some (.exc (.exc c d) ρ1) => match catch_ c with
    | some true => if i < ρ1.length then match fs (ρ1.set i (some (.exc c d))) with
      | some (.nx ρ2) => some (.nx (ρ2.set i none))
      | some (.brk ρ2) => some (.brk (ρ2.set i none))
      | some (.cnt ρ2) => some (.cnt (ρ2.set i none))
      | some (.ret d ρ2) => some (.ret d (ρ2.set i none))
      | _ => none
      else none
    | some false => some (.exc (.exc c d) ρ1)
    | none => none
  | some (.exc _ _) => none
  | o => o
def spI (K : PySem.W.Frag) : Sp := fun vs H Q E => ∃ (a C : Addr) (v : V), vs = [.ref a, v] ∧ OexC K C ∧ PySem.W.findIn K (.ref C) "value" = some none ∧ H a = some (exo a C none) ∧
  ∀ dx, H dx = none → dx ≠ a → Q .non (upd (upd H dx (exd dx [(("value" : Str), v)])) a (exo a C (some dx)))
/-- what is known of the own exception class with the code c -/
structure ExK (K : PySem.W.Frag) (ca : Nat → Addr) (fI : Addr) (c : Nat) : Prop where
  oex : OexC K (ca c)
  ini : PySem.W.findIn K (.ref (ca c)) "__init__" = some (some (.ref fI))
  no : PySem.W.findIn K (.ref (ca c)) "value" = some none
  ga : PySem.W.findIn K (.ref (ca c)) "__getattribute__" = some (some (.builtin "BaseException.__getattribute__"))
  gg : PySem.W.findIn K (.ref (ca c)) "__getattr__" = some none
  su : PySem.W.subIn K (.ref (ca c)) (.type "BaseException") = some true
  hd : PySem.W.hasDictIn K (ca c) = true
  kc : PySem.W.findIn K (.ref (ca c)) "__class__" = some (some (.builtin "object.__class__"))
  hn : PySem.W.specialIn K (.builtin "object.__class__") "__get__" = some (some (.builtin "getset_descriptor.__get__"))
  ht : PySem.W.takesIn K (.builtin "object.__class__") = some true
  hm : PySem.W.mroIn K (ca c) (.type "object") = some true
def sRaise (c : Nat) (fs : Ev (List D)) : Sv := evS fs fun ds ρ => match ds with
  | [d] => some (.exc (.exc c d) ρ)
  | _ => none
theorem passes0 {X : Cx} : Passes (L2.CX X.prog X.w) X (fun _ _ _ => False) := fun pins σ H s e s' I h => passAt (takes0 (X := X)) σ pins H s e s' I h
section
variable {ca : Nat → Addr} {X : Cx} {I : List Nat} {c k : Nat} {x : Str} {fI : Addr} {fd : FuncData} {ps : List Str} {p pos pos' : Pos} {e : Expr} {es : List Expr} {fs : Ev (List D)}
theorem ds_raise (hc : X.calm = true) (T : ExK X.K ca fI c) (tI : PySem.W.typeIn X.K (.ref fI) = some (.type "function")) (F1 : FnOk X.prog X.w X.K X.mg X.base (L2.CX X.prog X.w) k fI fd ps (spI X.K)) (hr : Room (k + 1) X.A) (hb : Binds X.K fd ps []) (hm : X.mg x = some (.ref (ca c))) (ha : DF ca X (e :: es) fs)
    (hg : Gl X x := by rfl) (hdb : (x == ("__debug__" : Str)) = false := by decide) (he : starEach (e :: es) X.env = (false, eval e X.env) :: starEach es X.env := by rfl) (hpl : (backTo pos (starEach es X.env)).any (·.1) = false := by rfl) :
    DS ca X I (.Raise (some (.Call (.Name x p) (e :: es) [] pos)) none pos') (sRaise c fs) := fun W tk _ =>
  PS.imp (ps_raise hc tk (pmk_oex T.oex T.ini tI F1 hr hb Paired.nil passes0 hg hm (ha W tk) hdb he hpl)) fun Dn σ H h => by
    obtain ⟨G, ρ, F, o, c0, e0, z⟩ := h
    unfold sRaise evS at e0
    cases hf : fs ρ with
    | none => rw [hf] at e0; cases e0
    | some u =>
      rw [hf] at e0
      refine ⟨G, ρ, F, u, c0, hf, ?_⟩
      cases u with
      | exc er ρ' => cases e0; exact fun G' H' F' cls dx c' xa x' => z σ G' H' F' cls dx .refl c' xa x'
      | ok ds ρ1 =>
        intro vs G1 H1 F1 c1 r x1
        dsimp only at e0
        split at e0
        case h_2 => cases e0
        rename_i d
        cases e0
        obtain ⟨v, rfl, rv⟩ := paired1 r
        refine ⟨by simp, fun a na => ⟨a, ca c, v, rfl, T.oex, T.no, upd_same, fun dx hdx hne => ?_⟩⟩
        rw [upd_ne hne] at hdx
        refine ⟨rfl, dx, [("value", v)], upd_same, by rw [upd_ne hne]; exact upd_same, hdx, ?_⟩
        have hH : upd (del (upd (upd (upd H1 a (exo a (ca c) none)) dx (exd dx [(("value" : Str), v)])) a (exo a (ca c) (some dx))) a) dx (.xd [(("value" : Str), v)]) = upd H1 dx (.xd [(("value" : Str), v)]) := by
          funext b
          by_cases h1 : b = dx
          · rw [h1, upd_same, upd_same]
          · rw [upd_ne h1, upd_ne h1]
            by_cases h2 : b = a
            · rw [h2, del_same, na]
            · rw [del_ne h2, upd_ne h2, upd_ne h1, upd_ne h2]
        show W (.ref (ca c)) (some dx) σ _
        rw [hH]
        have x2 := ext_new (G := G1) (o := HO.xd [(("value" : Str), v)]) hdx c1.sub
        exact z σ _ _ F1 _ _ .refl (c1.grow x2 (sub_new hdx c1.sub)) ⟨c, dx, v, d, rfl, rfl, rfl, upd_same, rv.keep x2.gg fun _ h => h.elim⟩ ((x1.more x2).mono (fun _ h => h) fun _ h => .inl h)
end
section
variable {ca : Nat → Addr} {X : Cx} {x : Str} {pos : Pos} {c : Nat} {n : String}
theorem de_ty (hm : X.mg x = none) (hv : bootBuiltins x = some (.type n)) (hg : Gl X x := by rfl) (hn : x ≠ "__name__" := by decide) (hdb : (x == ("__debug__" : Str)) = false := by decide) : DE ca X (.Name x pos) (evC (.ty n)) := de_const (v := .ty n) (pe_bltn hg hm hv rfl hn hdb) fun _ _ => .ty n
end
def tyD : D → Option (String ⊕ Nat)
  | .non => some (.inl "NoneType") | .bl _ => some (.inl "bool") | .int _ => some (.inl "int") | .str _ => some (.inl "str")
  | .tup _ => some (.inl "tuple") | .lst _ => some (.inl "list") | .frl _ => some (.inl "list") | .ol _ => some (.inl "list")
  | .dct _ => some (.inl "dict") | .od _ => some (.inl "dict") | .exc c _ => some (.inr c)
  | _ => none
abbrev Tab := String ⊕ Nat → D → Option Bool
def tyV (ca : Nat → Addr) : String ⊕ Nat → Value
  | .inl n => .type n
  | .inr c => .ref (ca c)
def clV (ca : Nat → Addr) : D → Option Value
  | .ty n => some (.type n)
  | .cls c => some (.ref (ca c))
  | _ => none
/-- the table is right; the classes in it are as ExK says -/
structure TabOk (K : PySem.W.Frag) (ca : Nat → Addr) (fI : Addr) (tab : Tab) : Prop where
  one : ∀ t c b, tab t c = some b → ∃ u, clV ca c = some u ∧ PySem.W.kitOne K (tyV ca t) u = some b
  exs : ∀ k c b, tab (.inr k) c = some b → ExK K ca fI k
def anyT (tab : Tab) (t : String ⊕ Nat) : List D → Option Bool
  | [] => some false
  | c :: cs => match tab t c with
    | some true => match anyT tab t cs with
      | some _ => some true
      | none => none
    | some false => anyT tab t cs
    | none => none
def gIsi (tab : Tab) : List D → Option D
  | [x, .tup (c :: cs)] => match tyD x with
    | some t => (anyT tab t (c :: cs)).map .bl
    | none => none
  | [x, c] => match tyD x with
    | some t => (tab t c).map .bl
    | none => none
  | _ => none
theorem anyT_ok {K : PySem.W.Frag} {ca : Nat → Addr} {fI : Addr} {tab : Tab} (T : TabOk K ca fI tab) {t : String ⊕ Nat} : ∀ {cs : List D} {b : Bool}, anyT tab t cs = some b → ∃ us, Paired (fun c u => clV ca c = some u) cs us ∧ PySem.W.kitAny K (tyV ca t) us = some b
  | [], b, h => by cases h; exact ⟨[], .nil, rfl⟩
  | c :: cs, b, h => by
    unfold anyT at h
    cases h1 : tab t c with
    | none => rw [h1] at h; cases h
    | some b1 =>
      rw [h1] at h
      obtain ⟨u, hu, ku⟩ := T.one t c b1 h1
      cases b1 with
      | true =>
        dsimp only at h
        split at h
        · rename_i bx hx
          cases h
          obtain ⟨us, hus, _⟩ := anyT_ok T hx
          exact ⟨u :: us, .cons hu hus, kitAny_cons ku (fun z => nomatch z) fun _ => rfl⟩
        · cases h
      | false =>
        obtain ⟨us, hus, kus⟩ := anyT_ok T h
        exact ⟨u :: us, .cons hu hus, kitAny_cons ku (fun _ => kus) fun z => nomatch z⟩
theorem clV_rep {K : PySem.W.Frag} {ca : Nat → Addr} {G H : Hp} {v : V} {d : D} {T : FP} {u : Value} (r : Rep ⟨K, ca⟩ G H v d T) (h : clV ca d = some u) : ClsV v u := by
  cases r <;> first | (cases h; done) | skip
  · cases h; exact .ty _
  · cases h; exact .own _
theorem clV_all {K : PySem.W.Frag} {ca : Nat → Addr} {G H : Hp} : ∀ {cs : List D} {ws : List Value} {vs : List V}, Paired (fun c u => clV ca c = some u) cs ws → vs.length = cs.length → (∀ (i : Nat) v d, vs[i]? = some v → cs[i]? = some d → Rep ⟨K, ca⟩ G H v d nof) → Paired ClsV vs ws
  | _, _, [], .nil, _, _ => .nil
  | _, _, _ :: _, .nil, l, _ => by cases l
  | _, _, [], .cons _ _, l, _ => by cases l
  | _, _, v :: vs, .cons h t, l, c => .cons (clV_rep (c 0 v _ rfl rfl) h) (clV_all t (by simpa using l) fun i v d e1 e2 => c (i + 1) v d (by simpa using e1) (by simpa using e2))
theorem reps1 {B : Bd} {G H : Hp} {xs : List V} {d : D} (h : Reps B G H xs [d]) : ∃ v T, xs = [v] ∧ Rep B G H v d T := by
  cases h with
  | cons a t => cases t; obtain ⟨T, r⟩ := a; exact ⟨_, T, rfl, r⟩
theorem reps2 {B : Bd} {G H : Hp} {xs : List V} {d e : D} (h : Reps B G H xs [d, e]) : ∃ v T w U, xs = [v, w] ∧ Rep B G H v d T ∧ Rep B G H w e U := by
  cases h with
  | cons a t => cases t with
    | cons b t => cases t; obtain ⟨T, r⟩ := a; obtain ⟨U, q⟩ := b; exact ⟨_, T, _, U, rfl, r, q⟩
section
variable {ca : Nat → Addr} {X : Cx} {fI : Addr} {tab : Tab}
theorem tyX_of {G H : Hp} {v : V} {d : D} {T : FP} {n : String} (r : Rep ⟨X.K, ca⟩ G H v d T) (sub : ∀ b o, G b = some o → H b = some o) (h : tyD d = some (.inl n)) : TyX X.K H v (.type n) := by
  cases r with
  | non => cases h; exact .base .non
  | bl b => cases h; exact .base (.bl _)
  | int i => cases h; exact .base (.int _)
  | str x => cases h; exact .base (.str _)
  | tup hq l c =>
    cases h
    rcases hq with (hq | ⟨o, hq⟩) | ⟨o, its, n, e1, e2, _⟩
    · exact .base (.tup (sub _ _ hq))
    · exact .fTuple (sub _ _ hq)
    · exact .kTuple e1 e2
  | lst hq l c => cases h; exact .base (.lst (sub _ _ hq))
  | frl hq l c =>
    cases h
    rcases hq with (hq | ⟨o, hq⟩) | ⟨o, its, n, e1, e2, _⟩
    · exact .base (.lst (sub _ _ hq))
    · exact .base (.frz (sub _ _ hq))
    · exact .kList e1 e2
  | ol hq => cases h; exact .base (.lst hq)
  | dct hq l c =>
    cases h
    rcases hq with hq | ⟨o, hq⟩
    · exact .base (.dK (sub _ _ hq))
    · exact .fDict (sub _ _ hq)
  | od hq => cases h; exact .base (.dK hq)
  | ty => cases h
  | cls => cases h
  | ins => cases h
  | exc => cases h
  | rng => cases h
  | oi => cases h
theorem exv_at {pins : List (Addr × Obj)} {σ : L2.St} {H : Hp} {s : Shared} {a C dd : Addr} {fs : List (Str × V)} (I : Inv X pins σ H s) (ea : H a = some (exv C dd a)) (ed : H dd = some (.xd fs)) :
    ∃ (oe od : Obj), PySem.W.InstAt s.heap a oe C (some od) ∧ ∃ mA : Str → Option Value, (∀ f, RelO (fs.lookup f) (mA f)) ∧ ∀ name, PySem.W.lookIn name od = some (mA name) := by
  obtain ⟨⟨oe, vs, q1, q2, q3, q4⟩, _, _⟩ := I.hok a _ ea
  have hx : ObjOk X.prog X.w H s.heap dd (.xd fs) := I.hok dd _ ed
  obtain ⟨mA, hns, hr⟩ := hx
  obtain ⟨od, ho, hl⟩ := lookIn_ns hns
  exact ⟨oe, od, ⟨q1, q2, by unfold PySem.W.notCls; rw [q4] <;> rfl, by rw [q3]; exact ho⟩, mA, hr, hl⟩
theorem kit_any {pins : List (Addr × Obj)} {σ : L2.St} {G H : Hp} {s : Shared} {v : V} {u : Value} {d : D} {T : FP} {t : String ⊕ Nat} (TO : TabOk X.K ca fI tab) (I : Inv X pins σ H s) (rx : RelV v u) (r : Rep ⟨X.K, ca⟩ G H v d T) (sub : ∀ b o, G b = some o → H b = some o) (h : tyD d = some t)
    (hk : ∀ k, t = .inr k → ExK X.K ca fI k) : ∃ P : Heap → Prop, PySem.W.KitX X.K u (tyV ca t) P ∧ P s.heap ∧ u ≠ .builtin "__main__.__loader__#opaque" := by
  cases t with
  | inl n => exact kit_of I rx (tyX_of r sub h)
  | inr k =>
    have ex := hk k rfl
    cases r with
    | exc he ho rv =>
      cases h
      cases (show u = Value.ref _ from rx)
      obtain ⟨oe, od, J, _⟩ := exv_at I (sub _ _ he) (sub _ _ ho)
      obtain ⟨cd, hc, _⟩ := PySem.W.any_some ex.hd
      exact ⟨_, PySem.W.kitx_exc (by rw [hc]; rfl) ex.ga ex.gg ex.su ex.kc ex.hn ex.ht ex.hm, J, fun z => nomatch z⟩
    | _ => cases h
theorem callD_isi (TO : TabOk X.K ca fI tab) : CallD ca X (.builtin "isinstance") (gIsi tab) := by
  intro pins s σ H xs us Q I rs h
  obtain ⟨G, ds, d, sub, rr, e, q⟩ := h
  unfold gIsi at e
  split at e
  · rename_i x c cs
    split at e
    · rename_i t ht
      obtain ⟨b, hb, rfl⟩ := Option.map_eq_some_iff.mp e
      obtain ⟨v, T1, w, T2, rfl, r1, r2⟩ := reps2 rr
      obtain ⟨u1, u2, rfl, ru1, ru2⟩ := vals2 rs
      have hx : ∀ k, t = .inr k → ExK X.K ca fI k := fun k z => by
        subst z
        unfold anyT at hb
        cases h1 : tab (.inr k) c with
        | none => rw [h1] at hb; cases hb
        | some b1 => exact TO.exs k c b1 h1
      obtain ⟨P, Z, p, hne⟩ := kit_any TO I ru1 r1 sub ht hx
      obtain ⟨ws, hws, kw⟩ := anyT_ok TO hb
      have fin : ∀ tk, EP X pins σ Q (.bool b) { s with toks := tk } := fun tk => ⟨.bl b, H, I.tok tk, rfl, rDL_end q sub (.bl b)⟩
      cases r2 with
      | @tup a vs _ hq l cc =>
        cases (show u2 = Value.ref _ from ru2)
        have hcl : Paired ClsV vs ws := clV_all hws l cc
        rcases hq with (hq | ⟨o, hq⟩) | ⟨o, its, n, e1, e2, e3, e4, e5⟩
        · obtain ⟨_, its, rv, o, h1, h2, n, h3⟩ := (show ObjOk X.prog X.w H s.heap _ (.tup vs) from I.hok _ _ (sub _ _ hq))
          have e3 := ClsV.all hcl rv
          subst e3
          obtain ⟨oc, od, dt, sl⟩ := o
          simp only at h2 h3
          subst h2 h3
          exact PySem.W.kia_tup Z I.kIn p h1 kw hne fin
        · obtain ⟨_, _, its, rv, o, h1, h2, n, h3⟩ := (show ObjOk X.prog X.w H s.heap _ (.frz o (.tup vs)) from I.hok _ _ (sub _ _ hq))
          have e3 := ClsV.all hcl rv
          subst e3
          obtain ⟨oc, od, dt, sl⟩ := o
          simp only at h2 h3
          subst h2 h3
          exact PySem.W.kia_tup Z I.kIn p h1 kw hne fin
        · have e6 := ClsV.all hcl e5
          obtain ⟨oc, od, dt, sl⟩ := o
          simp only at e2 e3
          subst e2 e3
          obtain ⟨its⟩ := its
          simp only at e6
          subst e6
          exact PySem.W.kia_tup Z I.kIn p (I.kIn _ _ e1) kw hne fin
    · cases e
  · rename_i x c hnt
    split at e
    · rename_i t ht
      obtain ⟨b, hb, rfl⟩ := Option.map_eq_some_iff.mp e
      obtain ⟨v, T1, w, T2, rfl, r1, r2⟩ := reps2 rr
      obtain ⟨u1, u2, rfl, ru1, ru2⟩ := vals2 rs
      obtain ⟨P, Z, p, hne⟩ := kit_any TO I ru1 r1 sub ht fun k z => TO.exs k c b (by rw [← z]; exact hb)
      obtain ⟨wc, hwc, kw⟩ := TO.one t c b hb
      have e3 := (clV_rep r2 hwc).eq ru2
      subst e3
      exact PySem.W.kia_one Z I.kIn p kw hne fun tk => ⟨.bl b, H, I.tok tk, rfl, rDL_end q sub (.bl b)⟩
    · cases e
  · cases e
end
end DL
namespace DL
open PySem PySem.Spec PyProof.Rows L2
def mvK : List AV → DEnv → Option (List D × DEnv)
  | [], ρ => some ([], ρ)
  | .val d :: as, ρ => (mvK as ρ).map fun p => (d :: p.1, p.2)
  | .pl i [] :: as, ρ => match slotOf ρ i with
    | some d => (mvK as (ρ.set i none)).map fun p => (d :: p.1, p.2)
    | none => none
  | .pl _ (_ :: _) :: _, _ => none
def pre1 (T : FP) (Fs : Nat → FP) : Nat → FP
  | 0 => T
  | i + 1 => Fs i
theorem mv_reps {B : Bd} {G H : Hp} {σ : L2.St} : ∀ {Wt : FP} {vs : List V} {avs : List AV} {ds : List D} {ρ ρ' : DEnv} {F : Nat → FP}, Cfg B G H σ ρ F → RepAs B G H σ Wt vs avs → (∀ x, Wt x → ¬ un F x) → mvK avs ρ = some (ds, ρ') →
    ∃ (F' Fs : Nat → FP), Cfg B G H σ ρ' F' ∧ vs.length = ds.length ∧ (∀ (i : Nat) v d, vs[i]? = some v → ds[i]? = some d → Rep B G H v d (Fs i)) ∧ (∀ i x, Fs i x → i < ds.length) ∧ (∀ i j x, Fs i x → Fs j x → i = j) ∧
      (∀ x, un F' x → un F x) ∧ (∀ i x, Fs i x → Wt x ∨ un F x) ∧ ∀ i x, Fs i x → ¬ un F' x
  | _, _, _, ds, ρ, ρ', F, c, .nil, n, e => by
    cases e
    exact ⟨F, fun _ => nof, c, rfl, fun i v d h => by simp at h, fun _ _ h => h.elim, fun _ _ _ h => h.elim, fun _ h => h, fun _ _ h => h.elim, fun _ _ h => h.elim⟩
  | Wt, v :: vs, a :: as, ds, ρ, ρ', F, c, .cons (T := T) (Wu := Wu) r hT t hu dj, n, e => by
    -- one part more in front
    have put : ∀ {U : FP} {d : D} {ds1 : List D} {F1 F' Fs : Nat → FP}, Rep B G H v d U → Cfg B G H σ ρ' F' → vs.length = ds1.length → (∀ (i : Nat) v d, vs[i]? = some v → ds1[i]? = some d → Rep B G H v d (Fs i)) → (∀ i x, Fs i x → i < ds1.length) → (∀ i j x, Fs i x → Fs j x → i = j) →
        (∀ x, un F' x → un F1 x) → (∀ i x, Fs i x → Wu x ∨ un F1 x) → (∀ i x, Fs i x → ¬ un F' x) → (∀ x, un F1 x → un F x) → (∀ x, U x → Wt x ∨ un F x) → (∀ x, U x → ¬ Wu x) → (∀ x, U x → ¬ un F1 x) →
        ∃ (F' Fs : Nat → FP), Cfg B G H σ ρ' F' ∧ (v :: vs).length = (d :: ds1).length ∧ (∀ (i : Nat) w e, (v :: vs)[i]? = some w → (d :: ds1)[i]? = some e → Rep B G H w e (Fs i)) ∧ (∀ i x, Fs i x → i < (d :: ds1).length) ∧ (∀ i j x, Fs i x → Fs j x → i = j) ∧
          (∀ x, un F' x → un F x) ∧ (∀ i x, Fs i x → Wt x ∨ un F x) ∧ ∀ i x, Fs i x → ¬ un F' x := fun {U d ds1 F1 F' Fs} r1 c1 l1 q1 q2 q3 q4 q5 q6 k1 k2 k3 k4 => by
      have sep : ∀ i x, U x → ¬ Fs i x := fun i x hU hF => (q5 i x hF).elim (k3 x hU) (k4 x hU)
      refine ⟨F', pre1 U Fs, c1, by simp [l1], fun i w e h1 h2 => ?_, fun i x h => ?_, fun i j x h1 h2 => ?_, fun x h => k1 x (q4 x h), fun i x h => ?_, fun i x h => ?_⟩
      · cases i with
        | zero => simp at h1 h2; subst h1; subst h2; exact r1
        | succ i => exact q1 i w e (by simpa using h1) (by simpa using h2)
      · cases i with
        | zero => simp
        | succ i => simpa using q2 i x h
      · cases i with
        | zero => cases j with
          | zero => rfl
          | succ j => exact (sep j x h1 h2).elim
        | succ i => cases j with
          | zero => exact (sep i x h2 h1).elim
          | succ j => rw [q3 i j x h1 h2]
      · cases i with
        | zero => exact k2 x h
        | succ i => exact (q5 i x h).imp (hu x) (k1 x)
      · cases i with
        | zero => exact fun z => k4 x h (q4 x z)
        | succ i => exact q6 i x h
    cases a with
    | val d =>
      unfold mvK at e
      obtain ⟨⟨ds1, ρ1⟩, e1, e2⟩ := Option.map_eq_some_iff.mp e
      cases e2
      obtain ⟨F', Fs, c1, l1, q1, q2, q3, q4, q5, q6⟩ := mv_reps c t (fun x h => n x (hu x h)) e1
      exact put (F1 := F) r c1 l1 q1 q2 q3 q4 q5 q6 (fun _ h => h) (fun x h => .inl (hT x h)) dj fun x h => n x (hT x h)
    | pl i p =>
      cases p with
      | cons s p => cases e
      | nil =>
        unfold mvK at e
        cases hs : slotOf ρ i with
        | none => rw [hs] at e; cases e
        | some d =>
          rw [hs] at e
          obtain ⟨⟨ds1, ρ1⟩, e1, e2⟩ := Option.map_eq_some_iff.mp e
          cases e2
          obtain ⟨⟨v0, h0, hp⟩, rfl⟩ := r
          cases hp
          obtain ⟨v1, h1, r1⟩ := c.at hs
          rw [h0] at h1
          cases h1
          obtain ⟨F', Fs, c1, l1, q1, q2, q3, q4, q5, q6⟩ := mv_reps (c.drop i) t (fun x h ⟨j, hj⟩ => n x (hu x h) ⟨j, hj.1⟩) e1
          exact put (F1 := fun j x => F j x ∧ j ≠ i) r1 c1 l1 q1 q2 q3 q4 q5 q6 (fun x ⟨j, hj⟩ => ⟨j, hj.1⟩) (fun x h => .inr ⟨i, h⟩) (fun x h w => n x (hu x w) ⟨i, h⟩) fun x h ⟨j, hj⟩ => hj.2 (c.dis j i x hj.1 h)
def evMv (fs : Ev (List AV)) : Ev AV := fs.andThen fun avs ρ => match mvK avs ρ with
  | some (ds, ρ') => if ds.length ≤ 16777216 then some (.ok (.val (.ol ds)) ρ') else none
  | none => none
section
variable {ca : Nat → Addr} {X : Cx} {es : List Expr} {fs : Ev (List AV)} {pos : Pos}
theorem de_lstO (h : DA ca X es fs) : DE ca X (.List es pos) (evMv fs) := fun W tk => PE.imp (pe_lst (h W tk)) fun σ H Q q => by
  obtain ⟨G, ρ, F, o, c, e, z⟩ := q
  refine tDL_bind c e (fun er ρ' eo => by subst eo; exact z) fun avs ρ1 vs G1 H1 F1 Wt ek c1 r1 n1 x1 => ?_
  cases hm : mvK avs ρ1 with
  | none => rw [hm] at ek; cases ek
  | some p =>
    obtain ⟨ds, ρ'⟩ := p
    rw [hm] at ek
    dsimp only at ek
    split at ek
    · rename_i hz
      cases ek
      obtain ⟨F', Fs, c2, l2, q1, q2, q3, q4, q5, q6⟩ := mv_reps c1 r1 n1 hm
      refine ⟨by rw [l2, sizeLine_eq]; exact hz, fun p hp => ?_⟩
      have dm : ∀ i, ¬ Fs i p := fun i h => by
        have hi := q2 i p h
        obtain ⟨⟨o, eo⟩, _⟩ := (q1 i _ _ (List.getElem?_eq_getElem (by omega)) (List.getElem?_eq_getElem hi)).dom p h
        rw [hp] at eo
        cases eo
      have xo : Ext G1 H1 nof G1 (upd H1 p (.lst vs)) (fun x => x = p) := ext_own hp
      refine z (.ref p) G1 _ F' (fun x => x = p ∨ ∃ i, Fs i x) (c2.grow xo (sub_own hp c1.sub)) (.ol upd_same (no_g c1.sub hp) l2 (fun i v d e1 e2 => ((q1 i v d e1 e2).frame xo fun _ _ h => h).1) q2 q3 dm) ?_ ?_
      · rintro x (rfl | ⟨i, hx⟩) hu
        · obtain ⟨⟨o, eo⟩, _⟩ := c2.dom hu
          rw [hp] at eo
          cases eo
        · exact q6 i x hx hu
      · refine x1.trans ⟨fun _ _ h => h, fun b o h _ => by rw [upd_ne (ne_of_none h hp)]; exact h, fun b hb => ?_, fun _ _ h => .inl h⟩
        rcases hb with hb | rfl | ⟨i, hb⟩
        · exact .inl (.inl (q4 b hb))
        · exact .inr hp
        · exact .inl ((q5 i b hb).elim .inr .inl)
    · cases ek
end
def DK (ca : Nat → Addr) (X : Cx) (kws : List Keyword) (f : Ev (List AV)) : Prop := ∀ W, Takes X W → PK X kws (tDL ⟨X.K, ca⟩ W f)
theorem PK.imp {X : Cx} {e : List Keyword} {t u : TA} (h : PK X e t) (k : ∀ (σ : L2.St) (H : Hp) (Q : List V → Hp → Prop), u σ H Q → t σ H Q) : PK X e u := ⟨fun pos pins s σ H Q I q => h.run pos pins s σ H Q I (k σ H Q q)⟩
def permD {α : Type} (l : List α) : List Nat → Option (List α)
  | [] => some []
  | i :: is => match l[i]?, permD l is with
    | some a, some as => some (a :: as)
    | _, _ => none
theorem permD_pair {α β : Type} {R : α → β → Prop} {xs : List α} {ys : List β} (p : Paired R xs ys) : ∀ {is : List Nat} {us : List β}, permD ys is = some us → ∃ ws, permD xs is = some ws ∧ Paired R ws us
  | [], us, e => by cases e; exact ⟨[], rfl, .nil⟩
  | i :: is, us, e => by
    unfold permD at e
    cases h1 : ys[i]? with
    | none => rw [h1] at e; cases e
    | some y =>
      cases h2 : permD ys is with
      | none => rw [h1, h2] at e; cases e
      | some us' =>
        rw [h1, h2] at e
        cases e
        obtain ⟨ws, e1, q⟩ := permD_pair p h2
        have hi : i < xs.length := by rw [paired_len p]; exact (List.getElem?_eq_some_iff.mp h1).1
        have h3 : xs[i]? = some xs[i] := List.getElem?_eq_getElem hi
        refine ⟨xs[i] :: ws, ?_, .cons (paired_get p i _ _ h3 h1) q⟩
        unfold permD
        rw [h3, e1]
theorem repAs_fz {B : Bd} {G H : Hp} {σ : L2.St} : ∀ {vs : List V} {ds : List D}, Paired (fun v d => Rep B G H v d nof) vs ds → RepAs B G H σ nof vs (ds.map .val)
  | _, _, .nil => .nil
  | _, _, .cons r t => .cons (T := nof) r (fun _ h => h) (repAs_fz t) (fun _ h => h) fun _ h => h.elim
/-- how the keywords' values come to the parameters: is[k] tells which of them the parameter k takes -/
structure KwB (K : PySem.W.Frag) (fd : FuncData) (ps ks : List Str) (is : List Nat) : Prop where
  to : ∀ (s : Shared) (ws us : List Value), ws.length = ks.length → permD ws is = some us → BindsTo s fd ⟨[], ks.zip ws⟩ (ps.zip us)
  len : is.length = ps.length
theorem permD_len {α : Type} {l : List α} : ∀ {is : List Nat} {us : List α}, permD l is = some us → us.length = is.length
  | [], us, e => by cases e; rfl
  | i :: is, us, e => by
    unfold permD at e
    cases h1 : l[i]? with
    | none => rw [h1] at e; cases e
    | some y =>
      cases h2 : permD l is with
      | none => rw [h1, h2] at e; cases e
      | some us' =>
        rw [h1, h2] at e
        cases e
        simp [permD_len h2]
def evKw (n : Nat) (is : List Nat) (m : Mir) (fs : Ev (List AV)) : Ev AV := (evFz fs).andThen fun ds ρ => if ds.length = n then match permD ds is with
  | some us => callK (us.map fun _ => false) m (us.map .val) ρ
  | none => none
  else none
section
variable {ca : Nat → Addr} {X : Cx} {k : Nat} {f : Addr} {fd : FuncData} {ps ks : List Str} {is : List Nat} {x : Str} {p pos kpos : Pos} {e : Expr} {kws : List Keyword} {fs : Ev (List AV)} {fe : Ev AV} {nm : Option Str} {m : Mir}
theorem dk_nil : DK ca X [] evNil := fun W tk => PK.imp pk_nil fun σ H Q h => tDL_nil h
theorem dk_cons (he : DE ca X e fe) (hr : DK ca X kws fs) : DK ca X (⟨nm, e, kpos⟩ :: kws) (evCons fe fs) := fun W tk => PK.imp (pk_cons (he W tk) (hr W tk)) fun σ H Q h => tDL_cons h
theorem de_callK (F : FnD X.prog X.w X.K X.mg X.base ca k f fd ps m) (hr : Room k X.A) (hm : X.mg x = some (.ref f)) (hk : PySem.W.keepIn X.K (.ref f) = true) (hb : KwB X.K fd ps ks is) (hkw : DK ca X kws fs)
    (hall : (backToKw pos (keywordEach kws X.env)).all (·.1.isSome) = true := by rfl) (hks : (backToKw pos (keywordEach kws X.env)).filterMap (·.1) = ks := by rfl) (hg : Gl X x := by rfl)
    (hdb : (x == ("__debug__" : Str)) = false := by decide) (hpl : ((backTo pos (starEach [] X.env)).any (·.1) || (backToKw pos (keywordEach kws X.env)).any (·.1.isNone)) = false := by rfl) :
    DE ca X (.Call (.Name x p) [] kws pos) (evKw ks.length is m fs) := fun W tk => ⟨fun pins s σ H Q I h => by
  refine wpAny_Call_Name_kw (ld_glob I hg hm ?_ hdb)
  have rd : tDL ⟨X.K, ca⟩ W fs σ H fun zs H1 => zs.length = ks.length ∧ ∃ us, permD zs is = some us ∧ spD ⟨X.K, ca⟩ ps.length m us H1 Q (WE W σ) := by
    obtain ⟨G, ρ, F0, o, c, e0, z⟩ := h
    unfold evKw at e0
    refine tDF_of ?_
    refine tDF_bind c e0 (fun er ρ' eo => by subst eo; exact z) fun ds ρ1 vs G1 H1 F1 ek c1 r1 x1 => ?_
    split at ek
    case isFalse => cases ek
    rename_i hl
    cases hp : permD ds is with
    | none => rw [hp] at ek; cases ek
    | some us =>
      rw [hp] at ek
      obtain ⟨ws, e1, q⟩ := permD_pair r1 hp
      refine ⟨(paired_len r1).trans hl, ws, e1, ?_⟩
      exact call_end c1 (repAs_fz (σ := σ) q) (fun _ h => h.elim) ek (endE_trans z (x1.mono (fun _ h => h) fun y h => h.elim id False.elim)) ((permD_len e1).trans hb.len)
  refine PySem.W.callWith_KW0 (h₀ := X.base) I.ok.mod.kin hk hall (thn ((hkw W tk).run pos pins s σ H _ I rd) fun ws s2 ⟨zs, H2, I2, rz, hl, us, e1, sp⟩ => ⟨I2.kIn, ?_⟩) hpl
  rw [hks]
  obtain ⟨wv, e2, rv⟩ := permD_pair (R := fun w v => RelV v w) (xs := ws) (ys := zs) (by
    have : ∀ {a : List V} {b : List Value}, Vals a b → Paired (fun w v => RelV v w) b a := fun {a b} h => by
      induction h with
      | nil => exact .nil
      | cons r t ih => exact .cons r ih
    exact this rz) e1
  have rv' : Vals us wv := by
    clear e1 e2 sp
    induction rv with
    | nil => exact .nil
    | cons r t ih => exact .cons r ih
  refine wpAny_call (codeAny_mono (F.run X.A X.stack s2 H2 ⟨[], ks.zip ws⟩ wv us Q (WE W σ) hr I2.env0 (hb.to s2 ws wv (by rw [← rz.length]; exact hl) e2) rv' sp) fun r s' hq => ?_)
  cases r with
  | error er => exact passAt tk σ pins H2 s2 er s' I2 hq
  | ok fl =>
    cases fl with
    | ret u => exact I2.after hq
    | next => exact False.elim hq
    | brk => exact False.elim hq
    | cont => exact False.elim hq⟩
end
end DL
namespace DL
open PySem PySem.Spec PyProof.Rows L2
section
variable {ca : Nat → Addr} {X : Cx} {I : List Nat} {fe : Ev AV} {e : Expr} {x y z : Str} {i j l : Nat} {px py pz pt pos : Pos} {kt : Nat} {fs : Ev (List AV)}
theorem db_none {st : List Stmt} : DB ca X I st (fun _ => none) := fun W tk ps => ⟨fun pins s σ H D I h => by
  obtain ⟨G, ρ, F, o, c, e, _⟩ := h
  cases e⟩
theorem de_pv (i : Nat) (hN : X.N[i]? = some x := by rfl) (hv : Vis X.env.scope x := by first | exact Or.inl rfl | exact Or.inr (Or.inl rfl) | exact Or.inr (Or.inr rfl)) (hd : (x == ("__debug__" : Str)) = false := by decide)
    (hcd : (x == ("__classdict__" : Str)) = false := by decide) : DE ca X (.Name x pos) (evV i) := de_var (pe_var hN hv hd hcd)
theorem ds_name (i : Nat) (hN : X.N.Nodup) (he : DE ca X e fe) (hi : X.N[i]? = some x := by rfl) (hx : Loc X.env.scope x := by exact Or.inl rfl) (hs : swapsWith e (some (.Name x px)) pos.line X.env = pure false := by rfl)
    (hf : X.fn x = true ∨ X.env.scope.names.lookup x = some .local := by exact Or.inr rfl) : DS ca X I (.Assign [.Name x px] e pos) (sAsg I [i] (evCons fe evNil)) := ds_set fun te W h tk => by
  subst h
  exact ps_set hN hi hx (he W tk) hs hf
theorem dg_nm (i : Nat) (hN : X.N.Nodup) (hi : X.N[i]? = some x := by rfl) (hx : Loc X.env.scope x := by exact Or.inl rfl) (hf : X.fn x = true ∨ X.env.scope.names.lookup x = some .local := by exact Or.inr rfl) : DG ca X I (.Name x pos) (tgN I i) :=
  dg_name (pg_name hN hi hx hf)
theorem ds_two (i j : Nat) {a b : Expr} {fa fb : Ev AV} {k2 pt2} (hc : X.calm = true) (hN : X.N.Nodup) (ha : DE ca X a fa) (hb : DE ca X b fb) (hij : i ≠ j := by decide) (hi : X.N[i]? = some x := by rfl) (hj : X.N[j]? = some y := by rfl)
    (hx : X.env.scope.names.lookup x = some .local := by rfl) (hy : X.env.scope.names.lookup y = some .local := by rfl) (hw : swappedStores [.Tuple [.Name x px, .Name y py] kt pt] (.Tuple [a, b] k2 pt2) X.env = pure (some [x, y]) := by rfl)
    (hs : swapsWithSole [.Tuple [.Name x px, .Name y py] kt pt] (.Tuple [a, b] k2 pt2) pos.line X.env = pure false := by rfl)
    (h1 : starEach [a, b] X.env = (false, eval a X.env) :: starEach [b] X.env := by rfl) (h2 : starEach [b] X.env = (false, eval b X.env) :: starEach [] X.env := by rfl) :
    DS ca X I (.Assign [.Tuple [.Name x px, .Name y py] kt pt] (.Tuple [a, b] k2 pt2) pos) (sAsg I [i, j] (evCons fa (evCons fb evNil))) :=
  ds_par (fun ta W h tk => by
    subst h
    exact ps_par hc hN hi hj hij hx hy (da_cons ha (da_cons hb da_nil h2) h1 W tk) hw hs) fun ρ avs ρ' h => evCons2_len h
end
section
variable {P : Program} {w : World} {K : PySem.W.Frag} {mg : Str → Option Value} {base : Heap} {ca : Nat → Addr}
/-- a promise that asks for nothing that holds -/
theorem fn_none {x qual : Str} {st : Stmt} {f : Addr} {fd : FuncData} {N ps : List Str} {I : List Nat} (k : Nat) (F : Fun K x qual st f fd) (S : FnScope N ps (defScope st)) (hN : ps.length ≤ N.length) :
    FnD P w K mg base ca (k + 1) f fd ps (fnD N.length ps.length I fun _ => none) := fn_d F S hN fun _ _ _ _ _ _ _ => db_none
end
end DL
namespace DL
open PySem PySem.Spec PyProof.Rows L2
end DL
namespace DL
open PySem PySem.Spec PyProof.Rows L2
theorem eqV_ok {a b : Option (Option Value)} (h : eqV a b = true) : a = b := by
  unfold eqV at h
  split at h
  · rw [beq_iff_eq.mp h]
  · rfl
  · cases h
theorem oexB_ok {K : PySem.W.Frag} {C : Addr} (h : oexB K C = true) : ∃ nm q N bs bm sn sub ab col dd k0 k1 k2 k3 k5, K.lookup C = some (excClassObj nm q C N bs bm true sn sub ab col dd k0 k1 k2 k3 k5 "ValueError.__new__") ∧ PySem.HandSPX.refsVE bm = true := by
  unfold oexB at h
  split at h
  · rename_i dd cd sl ho
    split at h
    · rename_i C1 bm k0 k1 k2 k3 n k5 hm hs
      obtain ⟨h1, h⟩ := Bool.and_eq_true_iff.mp h
      obtain ⟨h2, h⟩ := Bool.and_eq_true_iff.mp h
      obtain ⟨h3, h⟩ := Bool.and_eq_true_iff.mp h
      obtain ⟨h4, h5⟩ := Bool.and_eq_true_iff.mp h
      obtain ⟨nm, bs, mro, ns, qn, hd, sn, sub, ab, col, del⟩ := cd
      dsimp only at hm h3 h4
      have e1 := beq_iff_eq.mp h1
      have e2 := beq_iff_eq.mp h2
      have e3 : del = false := by simpa using h3
      subst hm e1 e2 e3 h4
      have e4 : sl = #[k0, k1, k2, k3, some (.builtin "ValueError.__new__"), k5] := by
        obtain ⟨l⟩ := sl
        simp only at hs
        rw [hs]
      subst e4
      exact ⟨nm, qn, ns, bs, bm, sn, sub, ab, col, dd, k0, k1, k2, k3, k5, ho, h5⟩
    · cases h
  · cases h
theorem exkB_ok {K : PySem.W.Frag} {ca : Nat → Addr} {fI : Addr} {c : Nat} (g : gsB K = true) (h : exkB K fI (ca c) = true) : ExK K ca fI c ∧ PySem.W.typeIn K (.ref (ca c)) = some (.type "type") := by
  unfold exkB at h
  obtain ⟨g1, g2⟩ := Bool.and_eq_true_iff.mp g
  obtain ⟨h0, h⟩ := Bool.and_eq_true_iff.mp h
  obtain ⟨h1, h⟩ := Bool.and_eq_true_iff.mp h
  obtain ⟨h2, h⟩ := Bool.and_eq_true_iff.mp h
  obtain ⟨h3, h⟩ := Bool.and_eq_true_iff.mp h
  obtain ⟨h4, h⟩ := Bool.and_eq_true_iff.mp h
  obtain ⟨h5, h⟩ := Bool.and_eq_true_iff.mp h
  obtain ⟨h6, h⟩ := Bool.and_eq_true_iff.mp h
  obtain ⟨h7, h⟩ := Bool.and_eq_true_iff.mp h
  obtain ⟨h8, h⟩ := Bool.and_eq_true_iff.mp h
  obtain ⟨h9, h⟩ := Bool.and_eq_true_iff.mp h
  obtain ⟨ha, hb⟩ := Bool.and_eq_true_iff.mp h
  have ty := beq_iff_eq.mp h3
  exact ⟨{ oex := ⟨oexB_ok h0, eqV_ok h1, of_decide_eq_true h2, ty, h4⟩, ini := eqV_ok h5, no := eqV_ok h6, ga := eqV_ok h7, gg := eqV_ok h8, su := of_decide_eq_true h2, hd := h9, kc := eqV_ok ha, hn := eqV_ok g1, ht := of_decide_eq_true g2, hm := of_decide_eq_true hb }, ty⟩
/-- which class an own exception class is of -/
def xNts : List String := ["NoneType", "bool", "int", "str", "tuple", "list", "dict"]
def tabX (exs : List Nat) : Tab
  | .inl n, .ty m => kitB n m
  | .inl n, .cls k => if k ∈ exs ∧ n ∈ xNts then some false else none
  | .inr c, .ty m => if c ∈ exs ∧ m ∈ xTys then some (decide (m = "ValueError")) else none
  | .inr c, .cls k => if c ∈ exs ∧ k ∈ exs then some (isX k c) else none
  | _, _ => none
def catX (exs : List Nat) (k c : Nat) : Option Bool := if c ∈ exs then some (isX k c) else none
theorem subIn_self {K : PySem.W.Frag} {C : Addr} {b : Bool} (h : oexB K C = true) (e : PySem.W.subIn K (.ref C) (.ref C) = some b) : b = true := by
  obtain ⟨nm, q, N, bs, bm, sn, sub, ab, col, dd, k0, k1, k2, k3, k5, hC, _⟩ := oexB_ok h
  have hcl : PySem.W.clsIn K C = some { name := nm, bases := bs, mro := .ref C :: bm, ns := N, qualname := q, hasDict := true, slotNames := sn, subclasses := sub, abstract := ab, collection := col, hasDel := false } := by unfold PySem.W.clsIn; rw [hC] <;> rfl
  have e2 : PySem.W.mroIn K C (.ref C) = some b := e
  unfold PySem.W.mroIn at e2
  rw [hcl, Option.bind_some] at e2
  split at e2
  · cases e2
  · have := Option.some.inj e2
    rw [← this]
    simp
theorem clsIn_some {K : PySem.W.Frag} {C : Addr} (h : oexB K C = true) : (PySem.W.clsIn K C).isSome = true := by
  obtain ⟨nm, q, N, bs, bm, sn, sub, ab, col, dd, k0, k1, k2, k3, k5, hC, _⟩ := oexB_ok h
  unfold PySem.W.clsIn
  rw [hC] <;> rfl
theorem kit_ref {K : PySem.W.Frag} {C : Addr} {t : Value} {b : Bool} (h : oexB K C = true) (ty : PySem.W.typeIn K (.ref C) = some (.type "type")) (e : PySem.W.subIn K t (.ref C) = some b) : PySem.W.kitOne K t (.ref C) = some b := by
  unfold PySem.W.kitOne
  split
  · rename_i q
    have := beq_iff_eq.mp q
    subst this
    rw [subIn_self h e]
  · show (if ((PySem.W.clsIn K C).isSome && PySem.W.typeIn K (.ref C) == some (.type "type")) = true then PySem.W.subIn K t (.ref C) else none) = some b
    rw [if_pos (by rw [clsIn_some h, ty]; rfl)]
    exact e
theorem kitM : ∀ m ∈ xTys, PySem.W.kitMeta m = true := by decide +kernel
theorem subN : ∀ n ∈ xNts, ∀ C : Addr, ∃ l, PySem.fastBuiltinMro n = some l ∧ l.contains (.ref C) = false := by
  intro n hn C
  have : ∀ l : List Value, (l.all fun v => match v with | .type _ => true | _ => false) = true → l.contains (.ref C) = false := fun l hl => by
    induction l with
    | nil => rfl
    | cons a l ih =>
      simp only [List.all_cons, Bool.and_eq_true] at hl
      rw [List.contains_cons, ih hl.2, Bool.or_false]
      cases a <;> first | (simp at hl; done) | rfl
  have key : ∀ n ∈ xNts, ∃ l, PySem.fastBuiltinMro n = some l ∧ (l.all fun v => match v with | .type _ => true | _ => false) = true := by
    intro n hn
    have k2 : xNts.all (fun n => match PySem.fastBuiltinMro n with
      | some l => l.all fun v => match v with | .type _ => true | _ => false
      | none => false) = true := by decide +kernel
    have k3 := List.all_eq_true.mp k2 n hn
    split at k3
    · rename_i l hl; exact ⟨l, hl, k3⟩
    · cases k3
  obtain ⟨l, e1, e2⟩ := key n hn
  exact ⟨l, e1, this l e2⟩
theorem exc_all {K : PySem.W.Frag} {ca : Nat → Addr} {fI : Addr} {exs : List Nat} (h : excB K ca fI exs = true) :
    (∀ c ∈ exs, ExK K ca fI c) ∧ TabOk K ca fI (tabX exs) ∧ ∀ k ∈ exs, ∀ c b, catX exs k c = some b → PySem.W.exmOne K (.ref (ca c)) (.ref (ca k)) = some b := by
  unfold excB at h
  obtain ⟨h0, h⟩ := Bool.and_eq_true_iff.mp h
  obtain ⟨h1, h⟩ := Bool.and_eq_true_iff.mp h
  obtain ⟨h2, h3⟩ := Bool.and_eq_true_iff.mp h
  have ok : ∀ c ∈ exs, exkB K fI (ca c) = true := List.all_eq_true.mp h1
  have oe : ∀ c ∈ exs, oexB K (ca c) = true := fun c hc => (Bool.and_eq_true_iff.mp (ok c hc)).1
  have ex : ∀ c ∈ exs, ExK K ca fI c ∧ PySem.W.typeIn K (.ref (ca c)) = some (.type "type") := fun c hc => exkB_ok h0 (ok c hc)
  have sr : ∀ i ∈ exs, ∀ j ∈ exs, PySem.W.subIn K (.ref (ca i)) (.ref (ca j)) = some (isX j i) := fun i hi j hj => of_decide_eq_true (List.all_eq_true.mp (List.all_eq_true.mp h2 i hi) j hj)
  have st : ∀ i ∈ exs, ∀ m ∈ xTys, PySem.W.subIn K (.ref (ca i)) (.type m) = some (decide (m = "ValueError")) := fun i hi m hm => of_decide_eq_true (List.all_eq_true.mp (List.all_eq_true.mp h3 i hi) m hm)
  refine ⟨fun c hc => (ex c hc).1, ⟨fun t c b e => ?_, fun k c b e => ?_⟩, fun k hk c b e => ?_⟩
  · cases t with
    | inl n =>
      cases c with
      | ty m => exact ⟨_, rfl, kit_ty e⟩
      | cls k =>
        simp only [tabX] at e
        split at e
        · rename_i hh
          cases e
          refine ⟨_, rfl, kit_ref (oe k hh.1) (ex k hh.1).2 ?_⟩
          obtain ⟨l, e1, e2⟩ := subN n hh.2 (ca k)
          show (PySem.fastBuiltinMro n).map (·.contains (.ref (ca k))) = some false
          rw [e1, Option.map_some, e2]
        · cases e
      | _ => simp [tabX] at e
    | inr i =>
      cases c with
      | ty m =>
        simp only [tabX] at e
        split at e
        · rename_i hh
          cases e
          refine ⟨_, rfl, ?_⟩
          show (if (Value.ref (ca i) == Value.type m) = true then some true else PySem.W.kitCls K (.ref (ca i)) (.type m)) = _
          rw [if_neg (by simp)]
          show (if PySem.W.kitMeta m = true then PySem.W.subIn K (.ref (ca i)) (.type m) else none) = _
          rw [if_pos (kitM m hh.2)]
          exact st i hh.1 m hh.2
        · cases e
      | cls k =>
        simp only [tabX] at e
        split at e
        · rename_i hh
          cases e
          exact ⟨_, rfl, kit_ref (oe k hh.2) (ex k hh.2).2 (sr i hh.1 k hh.2)⟩
        · cases e
      | _ => simp [tabX] at e
  · cases c with
    | ty m =>
      simp only [tabX] at e
      split at e
      · rename_i hh; exact (ex k hh.1).1
      · cases e
    | cls j =>
      simp only [tabX] at e
      split at e
      · rename_i hh; exact (ex k hh.1).1
      · cases e
    | _ => simp [tabX] at e
  · unfold catX at e
    split at e
    · rename_i hc
      cases e
      exact PySem.W.exm_ref (ex k hk).1.su (ex k hk).1.hd (ex k hk).2 (sr c hc k hk)
    · cases e
end DL
namespace DL
open PySem PySem.Spec PyProof.Rows L2
theorem kw_of {K : PySem.W.Frag} {x qual : Str} {st : Stmt} {f : Addr} {fd : FuncData} {ps ks : List Str} {is : List Nat} (F : Fun K x qual st f fd)
    (h : ∀ (kV doc pm : Value) (an : Option Addr) (cdv ct : Value) (ws us : List Value), ws.length = ks.length → permD ws is = some us → bindArgs (PySem.W.fnOf x qual (defArgs st) (defBody st) (defScope st) .none kV doc pm an cdv ct) ⟨[], ks.zip ws⟩ = pure (ps.zip us)) (l : is.length = ps.length) : KwB K fd ps ks is := by
  obtain ⟨oc, od, kV, doc, pm, an, cdv, ct, osl, rfl, lk, hcd⟩ := F.ex
  exact ⟨fun s ws us hl e => .of_eq (h kV doc pm an cdv ct ws us hl e), l⟩
def spScr (K : PySem.W.Frag) : Sp := fun vs H Q _ => ∃ (a : Addr) (ns : List Int), vs = [.ref a] ∧ ns.length ≤ 63 ∧ (∀ z ∈ ns, Builtin.Int.intBits z ≤ 1048576) ∧ SqL K H a (ns.map V.int) ∧ ∀ H', Q (.bl true) H'
section
variable {P : Program} {w : World} {K : PySem.W.Frag} {mg : Str → Option Value} {base : Heap} {ca : Nat → Addr} {k : Nat} {f : Addr} {fd : FuncData} {m : Mir}
theorem law_end (hm : ∀ ns : List Int, ns.length ≤ 63 → (∀ z ∈ ns, Builtin.Int.intBits z ≤ 1048576) → ∃ outs, m [.frl (ns.map .int)] = some (.ok (.bl true) outs)) (F : FnD P w K mg base ca k f fd ["script"] m) : FnOk P w K mg base (L2.CX P w) k f fd ["script"] (spScr K) := by
  have to : ∀ vs H Q E, spScr K vs H Q E → spD ⟨K, ca⟩ 1 m vs H Q E := fun vs H Q E h => by
    obtain ⟨a, ns, rfl, hl, hb, hS, q⟩ := h
    obtain ⟨outs, ho⟩ := hm ns hl hb
    refine ⟨rfl, H, [.frl (ns.map .int)], fun _ => nof, _, ⟨fun _ _ h => h, rfl, fun i d e => ?_, fun _ _ _ h => h, fun _ _ _ h => h.elim⟩, ho, fun v G' H' F' T c r n x => ?_⟩
    · cases i with
      | zero =>
        cases e
        refine ⟨_, rfl, .frl hS (by simp) fun i v d e1 e2 => ?_⟩
        rw [List.getElem?_map] at e1 e2
        obtain ⟨z, e3, rfl⟩ := Option.map_eq_some_iff.mp e1
        rw [e3] at e2
        cases e2
        exact .int z
      | succ i => cases e
    · cases r
      exact q H'
  exact ⟨fun vs H Q E h => F.len vs H Q E (to vs H Q E h), fun A st s H args us vs Q E hr he hb hv h => F.run A st s H args us vs Q E hr he hb hv (to vs H Q E h)⟩
theorem cx_end {P : Program} (w : World) (H : Hp) (s : Shared) (e : Value) (s' : Shared) (h : L2.CX P w [] H s (fun _ _ _ => False) e s') : False := by
  obtain ⟨_, _, _, _, _, _, _, _, _, _, _, _, z⟩ := h
  exact z
end
end DL
namespace DL
open PySem PySem.Spec PyProof.Rows L2
theorem lg_le {i : Int} {k : Nat} (h : i.natAbs < 2 ^ (k + 1)) : lg i ≤ k := by
  unfold lg
  by_cases h0 : i.natAbs = 0
  · rw [h0]; simp
  · have := (Nat.log2_lt h0).mpr h
    omega
theorem ibits_le {z : Int} {k : Nat} (h : z.natAbs < 2 ^ k) : Builtin.Int.intBits z ≤ k := by
  unfold Builtin.Int.intBits
  split
  · omega
  · rename_i hz
    have h0 : z.natAbs ≠ 0 := by
      intro e
      apply hz
      have : z = 0 := by omega
      simp [this]
    have := (Nat.log2_lt h0).mpr h
    omega
theorem fmod_nn {a b : Int} (h : 0 < b) : 0 ≤ a.fmod b ∧ a.fmod b < b := by
  rw [Int.fmod_eq_emod_of_nonneg a (by omega)]
  exact ⟨Int.emod_nonneg a (by omega), Int.emod_lt_of_pos a h⟩
theorem fdiv_nn {a b : Int} (ha : 0 ≤ a) (h : 0 < b) : 0 ≤ a.fdiv b ∧ a.fdiv b ≤ a := by
  rw [Int.fdiv_eq_ediv_of_nonneg a (by omega)]
  exact ⟨Int.ediv_nonneg ha (by omega), Int.ediv_le_self b ha⟩
def bO {α β : Type} (x : Option α) (k : α → Option β) : Option β := match x with
  | none => none
  | some a => k a
@[simp] theorem bO_none {α β : Type} {k : α → Option β} : bO none k = none := rfl
@[simp] theorem bO_some {α β : Type} {a : α} {k : α → Option β} : bO (some a) k = k a := rfl
def bE {α β : Type} (x : Option (Out α)) (k : α → DEnv → Option (Out β)) : Option (Out β) := match x with
  | none => none
  | some (.exc e ρ) => some (.exc e ρ)
  | some (.ok a ρ) => k a ρ
@[simp] theorem bE_none {α β : Type} {k : α → DEnv → Option (Out β)} : bE none k = none := rfl
@[simp] theorem bE_exc {α β : Type} {e : D} {ρ : DEnv} {k : α → DEnv → Option (Out β)} : bE (some (.exc e ρ)) k = some (.exc e ρ) := rfl
@[simp] theorem bE_ok {α β : Type} {a : α} {ρ : DEnv} {k : α → DEnv → Option (Out β)} : bE (some (.ok a ρ)) k = k a ρ := rfl
def bS {α : Type} (x : Option (Out α)) (k : α → Sv) : Option SOut := match x with
  | none => none
  | some (.exc e ρ) => some (.exc e ρ)
  | some (.ok a ρ) => k a ρ
@[simp] theorem bS_none {α : Type} {k : α → Sv} : bS none k = none := rfl
@[simp] theorem bS_exc {α : Type} {e : D} {ρ : DEnv} {k : α → Sv} : bS (some (.exc e ρ)) k = some (.exc e ρ) := rfl
@[simp] theorem bS_ok {α : Type} {a : α} {ρ : DEnv} {k : α → Sv} : bS (some (.ok a ρ)) k = k a ρ := rfl
/-- one behind the other -/
def bQ (x : Option SOut) (g : Sv) : Option SOut := match x with
  | some (.nx ρ1) => g ρ1
  | o => o
@[simp] theorem bQ_none {g : Sv} : bQ none g = none := rfl
@[simp] theorem bQ_nx {g : Sv} {ρ : DEnv} : bQ (some (.nx ρ)) g = g ρ := rfl
@[simp] theorem bQ_ret {g : Sv} {d : D} {ρ : DEnv} : bQ (some (.ret d ρ)) g = some (.ret d ρ) := rfl
@[simp] theorem bQ_brk {g : Sv} {ρ : DEnv} : bQ (some (.brk ρ)) g = some (.brk ρ) := rfl
@[simp] theorem bQ_cnt {g : Sv} {ρ : DEnv} : bQ (some (.cnt ρ)) g = some (.cnt ρ) := rfl
@[simp] theorem bQ_exc {g : Sv} {d : D} {ρ : DEnv} : bQ (some (.exc d ρ)) g = some (.exc d ρ) := rfl
/-- a turn's end -/
def bF (x : Option SOut) (g : Sv) : Option SOut := match x with
  | some (.nx ρ2) => g ρ2
  | some (.cnt ρ2) => g ρ2
  | some (.brk ρ2) => some (.nx ρ2)
  | o => o
@[simp] theorem bF_none {g : Sv} : bF none g = none := rfl
@[simp] theorem bF_nx {g : Sv} {ρ : DEnv} : bF (some (.nx ρ)) g = g ρ := rfl
@[simp] theorem bF_ret {g : Sv} {d : D} {ρ : DEnv} : bF (some (.ret d ρ)) g = some (.ret d ρ) := rfl
@[simp] theorem bF_brk {g : Sv} {ρ : DEnv} : bF (some (.brk ρ)) g = some (.nx ρ) := rfl
@[simp] theorem bF_cnt {g : Sv} {ρ : DEnv} : bF (some (.cnt ρ)) g = g ρ := rfl
@[simp] theorem bF_exc {g : Sv} {d : D} {ρ : DEnv} : bF (some (.exc d ρ)) g = some (.exc d ρ) := rfl
@[simp] theorem slot_0 {a0 : Option D} {ρ : DEnv} : slotOf (a0 :: ρ) 0 = a0 := rfl
@[simp] theorem slot_1 {a0 a1 : Option D} {ρ : DEnv} : slotOf (a0 :: a1 :: ρ) 1 = a1 := rfl
@[simp] theorem slot_2 {a0 a1 a2 : Option D} {ρ : DEnv} : slotOf (a0 :: a1 :: a2 :: ρ) 2 = a2 := rfl
@[simp] theorem slot_3 {a0 a1 a2 a3 : Option D} {ρ : DEnv} : slotOf (a0 :: a1 :: a2 :: a3 :: ρ) 3 = a3 := rfl
@[simp] theorem slot_4 {a0 a1 a2 a3 a4 : Option D} {ρ : DEnv} : slotOf (a0 :: a1 :: a2 :: a3 :: a4 :: ρ) 4 = a4 := rfl
@[simp] theorem slot_5 {a0 a1 a2 a3 a4 a5 : Option D} {ρ : DEnv} : slotOf (a0 :: a1 :: a2 :: a3 :: a4 :: a5 :: ρ) 5 = a5 := rfl
@[simp] theorem slot_6 {a0 a1 a2 a3 a4 a5 a6 : Option D} {ρ : DEnv} : slotOf (a0 :: a1 :: a2 :: a3 :: a4 :: a5 :: a6 :: ρ) 6 = a6 := rfl
@[simp] theorem slot_7 {a0 a1 a2 a3 a4 a5 a6 a7 : Option D} {ρ : DEnv} : slotOf (a0 :: a1 :: a2 :: a3 :: a4 :: a5 :: a6 :: a7 :: ρ) 7 = a7 := rfl
@[simp] theorem slot_8 {a0 a1 a2 a3 a4 a5 a6 a7 a8 : Option D} {ρ : DEnv} : slotOf (a0 :: a1 :: a2 :: a3 :: a4 :: a5 :: a6 :: a7 :: a8 :: ρ) 8 = a8 := rfl
@[simp] theorem slot_9 {a0 a1 a2 a3 a4 a5 a6 a7 a8 a9 : Option D} {ρ : DEnv} : slotOf (a0 :: a1 :: a2 :: a3 :: a4 :: a5 :: a6 :: a7 :: a8 :: a9 :: ρ) 9 = a9 := rfl
@[simp] theorem slot_10 {a0 a1 a2 a3 a4 a5 a6 a7 a8 a9 a10 : Option D} {ρ : DEnv} : slotOf (a0 :: a1 :: a2 :: a3 :: a4 :: a5 :: a6 :: a7 :: a8 :: a9 :: a10 :: ρ) 10 = a10 := rfl
@[simp] theorem slot_11 {a0 a1 a2 a3 a4 a5 a6 a7 a8 a9 a10 a11 : Option D} {ρ : DEnv} : slotOf (a0 :: a1 :: a2 :: a3 :: a4 :: a5 :: a6 :: a7 :: a8 :: a9 :: a10 :: a11 :: ρ) 11 = a11 := rfl
@[simp] theorem slot_12 {a0 a1 a2 a3 a4 a5 a6 a7 a8 a9 a10 a11 a12 : Option D} {ρ : DEnv} : slotOf (a0 :: a1 :: a2 :: a3 :: a4 :: a5 :: a6 :: a7 :: a8 :: a9 :: a10 :: a11 :: a12 :: ρ) 12 = a12 := rfl
@[simp] theorem slot_13 {a0 a1 a2 a3 a4 a5 a6 a7 a8 a9 a10 a11 a12 a13 : Option D} {ρ : DEnv} : slotOf (a0 :: a1 :: a2 :: a3 :: a4 :: a5 :: a6 :: a7 :: a8 :: a9 :: a10 :: a11 :: a12 :: a13 :: ρ) 13 = a13 := rfl
@[simp] theorem slot_14 {a0 a1 a2 a3 a4 a5 a6 a7 a8 a9 a10 a11 a12 a13 a14 : Option D} {ρ : DEnv} : slotOf (a0 :: a1 :: a2 :: a3 :: a4 :: a5 :: a6 :: a7 :: a8 :: a9 :: a10 :: a11 :: a12 :: a13 :: a14 :: ρ) 14 = a14 := rfl
@[simp] theorem slot_15 {a0 a1 a2 a3 a4 a5 a6 a7 a8 a9 a10 a11 a12 a13 a14 a15 : Option D} {ρ : DEnv} : slotOf (a0 :: a1 :: a2 :: a3 :: a4 :: a5 :: a6 :: a7 :: a8 :: a9 :: a10 :: a11 :: a12 :: a13 :: a14 :: a15 :: ρ) 15 = a15 := rfl
@[simp] theorem slot_16 {a0 a1 a2 a3 a4 a5 a6 a7 a8 a9 a10 a11 a12 a13 a14 a15 a16 : Option D} {ρ : DEnv} : slotOf (a0 :: a1 :: a2 :: a3 :: a4 :: a5 :: a6 :: a7 :: a8 :: a9 :: a10 :: a11 :: a12 :: a13 :: a14 :: a15 :: a16 :: ρ) 16 = a16 := rfl
@[simp] theorem slot_17 {a0 a1 a2 a3 a4 a5 a6 a7 a8 a9 a10 a11 a12 a13 a14 a15 a16 a17 : Option D} {ρ : DEnv} : slotOf (a0 :: a1 :: a2 :: a3 :: a4 :: a5 :: a6 :: a7 :: a8 :: a9 :: a10 :: a11 :: a12 :: a13 :: a14 :: a15 :: a16 :: a17 :: ρ) 17 = a17 := rfl
@[simp] theorem slot_18 {a0 a1 a2 a3 a4 a5 a6 a7 a8 a9 a10 a11 a12 a13 a14 a15 a16 a17 a18 : Option D} {ρ : DEnv} : slotOf (a0 :: a1 :: a2 :: a3 :: a4 :: a5 :: a6 :: a7 :: a8 :: a9 :: a10 :: a11 :: a12 :: a13 :: a14 :: a15 :: a16 :: a17 :: a18 :: ρ) 18 = a18 := rfl
@[simp] theorem slot_19 {a0 a1 a2 a3 a4 a5 a6 a7 a8 a9 a10 a11 a12 a13 a14 a15 a16 a17 a18 a19 : Option D} {ρ : DEnv} : slotOf (a0 :: a1 :: a2 :: a3 :: a4 :: a5 :: a6 :: a7 :: a8 :: a9 :: a10 :: a11 :: a12 :: a13 :: a14 :: a15 :: a16 :: a17 :: a18 :: a19 :: ρ) 19 = a19 := rfl
@[simp] theorem slot_20 {a0 a1 a2 a3 a4 a5 a6 a7 a8 a9 a10 a11 a12 a13 a14 a15 a16 a17 a18 a19 a20 : Option D} {ρ : DEnv} : slotOf (a0 :: a1 :: a2 :: a3 :: a4 :: a5 :: a6 :: a7 :: a8 :: a9 :: a10 :: a11 :: a12 :: a13 :: a14 :: a15 :: a16 :: a17 :: a18 :: a19 :: a20 :: ρ) 20 = a20 := rfl
@[simp] theorem slot_21 {a0 a1 a2 a3 a4 a5 a6 a7 a8 a9 a10 a11 a12 a13 a14 a15 a16 a17 a18 a19 a20 a21 : Option D} {ρ : DEnv} : slotOf (a0 :: a1 :: a2 :: a3 :: a4 :: a5 :: a6 :: a7 :: a8 :: a9 :: a10 :: a11 :: a12 :: a13 :: a14 :: a15 :: a16 :: a17 :: a18 :: a19 :: a20 :: a21 :: ρ) 21 = a21 := rfl
@[simp] theorem slot_22 {a0 a1 a2 a3 a4 a5 a6 a7 a8 a9 a10 a11 a12 a13 a14 a15 a16 a17 a18 a19 a20 a21 a22 : Option D} {ρ : DEnv} : slotOf (a0 :: a1 :: a2 :: a3 :: a4 :: a5 :: a6 :: a7 :: a8 :: a9 :: a10 :: a11 :: a12 :: a13 :: a14 :: a15 :: a16 :: a17 :: a18 :: a19 :: a20 :: a21 :: a22 :: ρ) 22 = a22 := rfl
@[simp] theorem slot_23 {a0 a1 a2 a3 a4 a5 a6 a7 a8 a9 a10 a11 a12 a13 a14 a15 a16 a17 a18 a19 a20 a21 a22 a23 : Option D} {ρ : DEnv} : slotOf (a0 :: a1 :: a2 :: a3 :: a4 :: a5 :: a6 :: a7 :: a8 :: a9 :: a10 :: a11 :: a12 :: a13 :: a14 :: a15 :: a16 :: a17 :: a18 :: a19 :: a20 :: a21 :: a22 :: a23 :: ρ) 23 = a23 := rfl
section
variable {α β : Type} {ρ : DEnv} {i j n : Nat} {p : List PSt} {d : D} {a : AV} {as : List AV} {f fa fb : Ev AV} {fs : Ev (List AV)} {fd : Ev (List D)} {c c2 : Ev Bool} {s s2 : Sv} {I is : List Nat} {g : List D → Option D} {ds : List D} {t : Tgt} {u : Tgts} {gm : D → List D → Option (D × D)} {m : Mir} {ms : List Bool}
@[simp] theorem r_then {f : Ev α} {k : α → Ev β} : f.andThen k ρ = bE (f ρ) k := by
  unfold Ev.andThen bE
  cases f ρ with
  | none => rfl
  | some o => cases o <;> rfl
@[simp] theorem r_pure {x : α} : Ev.pure x ρ = some (.ok x ρ) := rfl
@[simp] theorem r_c : evC d ρ = some (.ok (.val d) ρ) := rfl
@[simp] theorem r_nil : evNil ρ = some (.ok [] ρ) := rfl
@[simp] theorem r_v : evV i ρ = bO (slotOf ρ i) fun d => if d.sh = true then some (.ok (.val d) ρ) else some (.ok (.pl i []) ρ) := by
  unfold evV bO
  cases slotOf ρ i <;> rfl
@[simp] theorem r_lockv {k : Ev α} : lockA (.val d) k ρ = k ρ := rfl
@[simp] theorem r_lock0 {k : Ev α} : lockA (.pl i []) k ρ = k ρ := rfl
def unlk (i : Nat) (d : D) (x : Option (Out α)) : Option (Out α) := match x with
  | none => none
  | some (.ok a ρ') => some (.ok a (ρ'.set i (some d)))
  | some (.exc e ρ') => some (.exc e (ρ'.set i (some d)))
@[simp] theorem unlk_none : unlk (α := α) i d none = none := rfl
@[simp] theorem unlk_ok {a : α} : unlk i d (some (.ok a ρ)) = some (.ok a (ρ.set i (some d))) := rfl
@[simp] theorem unlk_exc {e : D} : unlk (α := α) i d (some (.exc e ρ)) = some (.exc e (ρ.set i (some d))) := rfl
@[simp] theorem r_lockp {q : PSt} {k : Ev α} : lockA (.pl i (q :: p)) k ρ = bO (cont ρ (.pl i (q :: p))) fun _ => bO (slotOf ρ i) fun d => unlk i d (k (ρ.set i none)) := by
  show lockE i (q :: p) k ρ = _
  unfold lockE bO
  cases cont ρ (.pl i (q :: p)) with
  | none => rfl
  | some x => cases slotOf ρ i with
    | none => rfl
    | some d => rfl
@[simp] theorem r_cons : evCons f fs ρ = bE (f ρ) fun a ρ1 => bE (lockA a fs ρ1) fun as ρ2 => some (.ok (a :: as) ρ2) := by
  unfold evCons
  rw [r_then]
  congr 1
@[simp] theorem cont_v : cont ρ (.val d) = some d := rfl
@[simp] theorem cont_p : cont ρ (.pl i p) = bO (slotOf ρ i) fun d => getP d p := by
  rw [cont_pl]
  cases slotOf ρ i <;> rfl
@[simp] theorem getP_0 : getP d [] = some d := by cases d <;> rfl
@[simp] theorem getP_l : getP (.ol ds) (.ix j :: p) = bO ds[j]? fun d => getP d p := by
  conv => lhs; unfold getP
  unfold bO
  cases ds[j]? <;> rfl
@[simp] theorem putP_0 {e : D} : putP d [] e = some e := by cases d <;> rfl
@[simp] theorem putP_l {e : D} : putP (.ol ds) (.ix j :: p) e = bO ds[j]? fun d => (putP d p e).map fun u => .ol (ds.set j u) := by
  conv => lhs; unfold putP
  unfold bO
  cases ds[j]? <;> rfl
@[simp] theorem conts_0 : conts ρ [] = some [] := rfl
@[simp] theorem conts_1 : conts ρ (a :: as) = bO (cont ρ a) fun d => bO (conts ρ as) fun ds => some (d :: ds) := by
  conv => lhs; unfold conts
  unfold bO
  cases cont ρ a with
  | none => rfl
  | some d => cases conts ρ as <;> rfl
@[simp] theorem r_op : evOp g fs ρ = bE (fs ρ) fun avs ρ1 => bO (conts ρ1 avs) fun ds => bO (g ds) fun d => some (.ok (.val d) ρ1) := by
  unfold evOp
  rw [r_then]
  congr 1
  funext avs ρ1
  unfold bO
  cases conts ρ1 avs with
  | none => rfl
  | some ds => dsimp only; cases g ds <;> rfl
@[simp] theorem r_T : evT f ρ = bE (f ρ) fun a ρ1 => bO (boolOf a) fun b => some (.ok b ρ1) := by
  unfold evT
  rw [r_then]
  congr 1
  funext a ρ1
  unfold bO
  cases boolOf a <;> rfl
@[simp] theorem boolOf_b {b : Bool} : boolOf (.val (.bl b)) = some b := rfl
@[simp] theorem r_Tr : evTr f ρ = bE (f ρ) fun a ρ1 => bO (cont ρ1 a) fun d => bO (truD d) fun b => some (.ok b ρ1) := by
  unfold evTr
  rw [r_then]
  congr 1
  funext a ρ1
  unfold bO
  cases cont ρ1 a with
  | none => rfl
  | some d => dsimp only; cases truD d <;> rfl
@[simp] theorem r_and : evAnd c c2 ρ = bE (c ρ) fun b ρ1 => if b = true then c2 ρ1 else some (.ok false ρ1) := by
  unfold evAnd
  rw [r_then]
  congr 1
  funext b ρ1
  cases b <;> rfl
@[simp] theorem r_or : evOr c c2 ρ = bE (c ρ) fun b ρ1 => if b = true then some (.ok true ρ1) else c2 ρ1 := by
  unfold evOr
  rw [r_then]
  congr 1
  funext b ρ1
  cases b <;> rfl
@[simp] theorem r_not : evNot c ρ = bE (c ρ) fun b ρ1 => some (.ok (!b) ρ1) := by unfold evNot; rw [r_then]; rfl
@[simp] theorem r_ifE : evIf c fa fb ρ = bE (c ρ) fun b ρ1 => if b = true then fa ρ1 else fb ρ1 := by
  unfold evIf
  rw [r_then]
  congr 1
  funext b ρ1
  cases b <;> rfl
@[simp] theorem r_andV : evAndV fa fb ρ = bE (evT fa ρ) fun b ρ1 => if b = true then fb ρ1 else some (.ok (.val (.bl false)) ρ1) := by
  unfold evAndV
  rw [r_then]
  congr 1
  funext b ρ1
  cases b <;> rfl
@[simp] theorem r_orV : evOrV fa fb ρ = bE (evT fa ρ) fun b ρ1 => if b = true then some (.ok (.val (.bl true)) ρ1) else fb ρ1 := by
  unfold evOrV
  rw [r_then]
  congr 1
  funext b ρ1
  cases b <;> rfl
@[simp] theorem r_fz : evFz fs ρ = bE (fs ρ) fun avs ρ1 => bO (conts ρ1 avs) fun ds => some (.ok (ds.map frz) (frzS (plS avs) ρ1)) := by
  unfold evFz
  rw [r_then]
  congr 1
  funext avs ρ1
  unfold consK bO
  cases conts ρ1 avs <;> rfl
@[simp] theorem r_opF : evOpF g fd ρ = bE (fd ρ) fun ds ρ1 => bO (g ds) fun d => some (.ok (.val d) ρ1) := by
  unfold evOpF
  rw [r_then]
  congr 1
  funext ds ρ1
  unfold bO
  cases g ds <;> rfl
@[simp] theorem plS_0 : plS [] = [] := rfl
@[simp] theorem plS_v : plS (.val d :: as) = plS as := rfl
@[simp] theorem plS_p : plS (.pl i p :: as) = i :: plS as := rfl
@[simp] theorem frzS_0 : frzS [] ρ = ρ := rfl
@[simp] theorem frzS_1 {S : List Nat} : frzS (i :: S) ρ = frzS S (frzAt ρ i) := rfl
def ixR (a : AV) (x y : D) (ρ : DEnv) : Option (Out AV) := match gIx [x, y] with
  | some d => some (.ok (.val d) ρ)
  | none => match a, x, y with
    | .pl i p, .ol ds, .int k => match ixN ds.length k with
      | some j => if j < ds.length then some (.ok (.pl i (p ++ [.ix j])) ρ) else none
      | none => none
    | _, _, _ => none
@[simp] theorem r_ixK {b : AV} : ixK [a, b] ρ = bO (cont ρ a) fun x => bO (cont ρ b) fun y => ixR a x y ρ := by
  unfold ixK bO
  dsimp only
  cases cont ρ a with
  | none => rfl
  | some x => cases cont ρ b <;> rfl
@[simp] theorem r_ix : evIx fa fb ρ = bE (evCons fa (evCons fb evNil) ρ) ixK := by unfold evIx; rw [r_then]
@[simp] theorem r_chk {chk : D → Bool} : evChk chk f ρ = bE (f ρ) fun a ρ1 => bO (cont ρ1 a) fun d => if chk d = true then some (.ok a ρ1) else none := by
  unfold evChk
  rw [r_then]
  congr 1
  funext a ρ1
  unfold bO
  cases cont ρ1 a <;> rfl
@[simp] theorem r_mut : evMut gm fs ρ = bE (fs ρ) (mutK gm []) := by unfold evMut; rw [r_then]
@[simp] theorem r_mutK {ex : List D} : mutK gm ex (.pl i p :: as) ρ = bO (conts ρ as) fun ds => bO (slotOf (frzS (plS as) ρ) i) fun d0 => bO (getP d0 p) fun d => bO (gm d (ds.map frz ++ ex)) fun dr => if dr.2.sh = true then bO (putP d0 p dr.1) fun e => some (.ok (.val dr.2) ((frzS (plS as) ρ).set i (some e))) else none := by
  unfold mutK bO
  dsimp only
  cases conts ρ as with
  | none => rfl
  | some ds => cases slotOf (frzS (plS as) ρ) i with
    | none => rfl
    | some d0 => dsimp only; cases getP d0 p with
      | none => rfl
      | some d => dsimp only; cases gm d (ds.map frz ++ ex) with
        | none => rfl
        | some dr => obtain ⟨d1, r1⟩ := dr; dsimp only; cases putP d0 p d1 <;> rfl
def callR (l : List (D × Option Nat)) (ρ : DEnv) (x : Option FOut) : Option (Out AV) := match x with
  | some (.ok d outs) => if outs.length = l.length then some (.ok (.val d) (setOut l outs ρ)) else none
  | some (.exc e outs) => if outs.length = l.length then some (.exc e (setOut l outs ρ)) else none
  | none => none
@[simp] theorem callR_none {l : List (D × Option Nat)} : callR l ρ none = none := rfl
@[simp] theorem callR_ok {l : List (D × Option Nat)} : callR l ρ (some (.ok d ds)) = if ds.length = l.length then some (.ok (.val d) (setOut l ds ρ)) else none := rfl
@[simp] theorem callR_exc {l : List (D × Option Nat)} : callR l ρ (some (.exc d ds)) = if ds.length = l.length then some (.exc d (setOut l ds ρ)) else none := rfl
@[simp] theorem r_callK : callK ms m as ρ = bO (argD ρ (frzS (nio ms as) ρ) ms as) fun l => if (l.filterMap (·.2)).Nodup then callR l (frzS (nio ms as) ρ) (m (l.map (·.1))) else none := by
  unfold callK bO
  cases argD ρ (frzS (nio ms as) ρ) ms as with
  | none => rfl
  | some l => rfl
@[simp] theorem r_call : evCall ms m fs ρ = bE (fs ρ) (callK ms m) := by unfold evCall; rw [r_then]
@[simp] theorem argD_0 {ρ1 : DEnv} : argD ρ ρ1 [] [] = some [] := rfl
@[simp] theorem argD_t {ρ1 : DEnv} : argD ρ ρ1 (true :: ms) (.pl i [] :: as) = bO (slotOf ρ1 i) fun d => bO (argD ρ ρ1 ms as) fun r => some ((d, some i) :: r) := by
  conv => lhs; unfold argD
  unfold bO
  cases slotOf ρ1 i with
  | none => rfl
  | some d => cases argD ρ ρ1 ms as <;> rfl
@[simp] theorem argD_f {ρ1 : DEnv} : argD ρ ρ1 (false :: ms) (a :: as) = bO (cont ρ a) fun d => bO (argD ρ ρ1 ms as) fun r => some ((frz d, none) :: r) := by
  conv => lhs; unfold argD
  unfold bO
  cases cont ρ a with
  | none => rfl
  | some d => cases argD ρ ρ1 ms as <;> rfl
@[simp] theorem argD_v {ρ1 : DEnv} : argD ρ ρ1 (true :: ms) (.val d :: as) = bO (argD ρ ρ1 ms as) fun r => some ((frz d, none) :: r) := by
  conv => lhs; unfold argD
  unfold bO
  show (match some d, argD ρ ρ1 ms as with
    | some d, some r => some ((frz d, none) :: r)
    | _, _ => none) = _
  cases argD ρ ρ1 ms as <;> rfl
@[simp] theorem nio_0 : nio [] [] = [] := rfl
@[simp] theorem nio_t : nio (true :: ms) (.pl i [] :: as) = nio ms as := rfl
@[simp] theorem nio_f : nio (false :: ms) (a :: as) = plS [a] ++ nio ms as := rfl
@[simp] theorem nio_v : nio (true :: ms) (.val d :: as) = nio ms as := rfl
@[simp] theorem setOut_0 {os : List D} : setOut [] os ρ = ρ := by cases os <;> rfl
@[simp] theorem setOut_s {o : D} {os : List D} {r : List (D × Option Nat)} : setOut ((d, some i) :: r) (o :: os) ρ = setOut r os (ρ.set i (some o)) := rfl
@[simp] theorem setOut_n {o : D} {os : List D} {r : List (D × Option Nat)} : setOut ((d, none) :: r) (o :: os) ρ = setOut r os ρ := rfl
@[simp] theorem r_mv : evMv fs ρ = bE (fs ρ) fun avs ρ1 => bO (mvK avs ρ1) fun p => if p.1.length ≤ 16777216 then some (.ok (.val (.ol p.1)) p.2) else none := by
  unfold evMv
  rw [r_then]
  congr 1
  funext avs ρ1
  unfold bO
  cases mvK avs ρ1 <;> rfl
@[simp] theorem mvK_0 : mvK [] ρ = some ([], ρ) := rfl
@[simp] theorem mvK_v : mvK (.val d :: as) ρ = bO (mvK as ρ) fun p => some (d :: p.1, p.2) := by
  show (mvK as ρ).map _ = _
  unfold bO
  cases mvK as ρ <;> rfl
@[simp] theorem mvK_p : mvK (.pl i [] :: as) ρ = bO (slotOf ρ i) fun d => bO (mvK as (ρ.set i none)) fun p => some (d :: p.1, p.2) := by
  conv => lhs; unfold mvK
  unfold bO
  cases slotOf ρ i with
  | none => rfl
  | some d => dsimp only; cases mvK as (ρ.set i none) <;> rfl
@[simp] theorem r_it {gi : List D → Option (List D)} : evIt gi fs ρ = bE (evFz fs ρ) fun ds ρ1 => bO (gi ds) fun xs => some (.ok xs ρ1) := by
  unfold evIt
  rw [r_then]
  congr 1
  funext ds ρ1
  unfold bO
  cases gi ds <;> rfl
def kwR (n : Nat) (is : List Nat) (m : Mir) (ds : List D) (ρ : DEnv) : Option (Out AV) := if ds.length = n then bO (permD ds is) fun us => callK (us.map fun _ => false) m (us.map .val) ρ else none
@[simp] theorem r_kw : evKw n is m fs ρ = bE (evFz fs ρ) (kwR n is m) := by
  unfold evKw
  rw [r_then]
  congr 1
  funext ds ρ1
  unfold kwR bO
  split
  · cases permD ds is <;> rfl
  · rfl
@[simp] theorem permD_0 {l : List α} : permD l [] = some [] := rfl
@[simp] theorem permD_1 {l : List α} : permD l (i :: is) = bO l[i]? fun a => bO (permD l is) fun as => some (a :: as) := by
  conv => lhs; unfold permD
  unfold bO
  cases l[i]? with
  | none => rfl
  | some a => cases permD l is <;> rfl
@[simp] theorem r_sNil : sNil ρ = some (.nx ρ) := rfl
@[simp] theorem r_seq : sSeq s s2 ρ = bQ (s ρ) s2 := by
  unfold sSeq bQ
  cases s ρ with
  | none => rfl
  | some o => cases o <;> rfl
@[simp] theorem r_S {f : Ev α} {k : α → Sv} : evS f k ρ = bS (f ρ) k := by
  unfold evS bS
  cases f ρ with
  | none => rfl
  | some o => cases o <;> rfl
@[simp] theorem r_asg : sAsg I is fs ρ = bS (fs ρ) fun avs ρ1 => bO (takeL ρ1 avs) fun ds => bO (setN I is ds (frzS (plS avs) ρ1)) fun ρ2 => some (.nx ρ2) := by
  unfold sAsg
  rw [r_S]
  congr 1
  funext avs ρ1
  unfold bO
  cases takeL ρ1 avs with
  | none => rfl
  | some ds => dsimp only; cases setN I is ds (frzS (plS avs) ρ1) <;> rfl
@[simp] theorem takeL_0 : takeL ρ [] = some [] := rfl
@[simp] theorem takeL_v : takeL ρ (.val d :: as) = bO (takeL ρ as) fun ds => some (d :: ds) := by
  show (takeL ρ as).map _ = _
  unfold bO
  cases takeL ρ as <;> rfl
@[simp] theorem takeL_p : takeL ρ (.pl i p :: as) = bO (cont ρ (.pl i p)) fun d => bO (takeL ρ as) fun ds => some (frz d :: ds) := by
  conv => lhs; unfold takeL
  unfold bO
  cases cont ρ (.pl i p) with
  | none => rfl
  | some d => cases takeL ρ as <;> rfl
@[simp] theorem setN_0 : setN I [] [] ρ = some ρ := rfl
@[simp] theorem setN_1 : setN I (i :: is) (d :: ds) ρ = if i ∈ I ∨ ¬ i < ρ.length then none else setN I is ds (ρ.set i (some d)) := rfl
@[simp] theorem r_if : sIf c s s2 ρ = bS (c ρ) fun b ρ1 => if b = true then s ρ1 else s2 ρ1 := by
  unfold sIf
  rw [r_S]
  congr 1
  funext b ρ1
  cases b <;> rfl
@[simp] theorem r_expr : sExpr f ρ = bS (f ρ) fun _ ρ1 => some (.nx ρ1) := by unfold sExpr; rw [r_S]
def retR (I : List Nat) (a : AV) (ρ : DEnv) : Option SOut := match a with
  | .val d => some (.ret d ρ)
  | .pl i [] => if i ∈ I then none else bO (slotOf ρ i) fun d => some (.ret d (ρ.set i none))
  | .pl _ _ => none
@[simp] theorem retR_v : retR I (.val d) ρ = some (.ret d ρ) := rfl
@[simp] theorem retR_p : retR I (.pl i []) ρ = if i ∈ I then none else bO (slotOf ρ i) fun d => some (.ret d (ρ.set i none)) := rfl
@[simp] theorem r_retO : sRetO I f ρ = bS (f ρ) (retR I) := by
  unfold sRetO
  rw [r_S]
  congr 1
  funext a ρ1
  unfold retR bO
  cases a with
  | val d => rfl
  | pl i p => cases p with
    | nil => dsimp only; split; rfl; cases slotOf ρ1 i <;> rfl
    | cons => rfl
@[simp] theorem r_ret : sRet f ρ = bS (f ρ) fun a ρ1 => bO (cont ρ1 a) fun d => some (.ret (frz d) (frzS (plS [a]) ρ1)) := by
  unfold sRet
  rw [r_S]
  congr 1
  funext a ρ1
  unfold bO
  cases cont ρ1 a <;> rfl
@[simp] theorem r_tgt : sTgt t f ρ = bS (f ρ) fun a ρ1 => bO (cont ρ1 a) fun d => bO (t (frz d) (frzS (plS [a]) ρ1)) fun ρ2 => some (.nx ρ2) := by
  unfold sTgt
  rw [r_S]
  congr 1
  funext a ρ1
  unfold bO
  cases cont ρ1 a with
  | none => rfl
  | some d => dsimp only; cases t (frz d) (frzS (plS [a]) ρ1) <;> rfl
@[simp] theorem r_tgN : tgN I i d ρ = if i ∈ I ∨ ¬ i < ρ.length then none else some (ρ.set i (some d)) := rfl
@[simp] theorem r_tup : DL.tgTup n u (.tup ds) ρ = if ds.length = n then u ds ρ else none := rfl
@[simp] theorem r_tgc : tgCons t u (d :: ds) ρ = bO (t d ρ) (u ds) := by
  unfold tgCons bO
  dsimp only
  cases t d ρ <;> rfl
@[simp] theorem r_tgn : tgNil [] ρ = some ρ := rfl
def envR (x : Option (Out AV)) : Option DEnv := match x with
  | some (.ok _ ρ) => some ρ
  | _ => none
@[simp] theorem envR_ok : envR (some (.ok a ρ)) = some ρ := rfl
@[simp] theorem r_tgs : tgSub gm fs d ρ = envR (bE (fs ρ) (mutK gm [d])) := by
  unfold tgSub envR bE
  cases fs ρ with
  | none => rfl
  | some o => cases o with
    | exc e ρ1 => rfl
    | ok avs ρ1 => first | (dsimp only; done) | (dsimp only; rcases mutK gm [d] avs ρ1 with _ | ⟨_ | _⟩ <;> rfl)
@[simp] theorem r_for {fi : Ev (List D)} : sFor fi t s ρ = bS (fi ρ) fun ds ρ1 => forE t s ds ρ1 := by unfold sFor; rw [r_S]
theorem forE_1 : forE t s (d :: ds) ρ = bO (t d ρ) fun ρ1 => bF (s ρ1) (forE t s ds) := by
  conv => lhs; unfold forE
  unfold bO bF
  cases t d ρ with
  | none => rfl
  | some ρ1 => first | (dsimp only; done) | (dsimp only; rcases s ρ1 with _ | ⟨_ | _ | _ | _ | _⟩ <;> rfl)
def catR (ch : Nat → Option Bool) (i : Nat) (fs : Sv) (x : Option SOut) : Option SOut := match x with
  | some (.exc (.exc c d) ρ1) => match ch c with
    | some true => if i < ρ1.length then match fs (ρ1.set i (some (.exc c d))) with
      | some (.nx ρ2) => some (.nx (ρ2.set i none))
      | some (.brk ρ2) => some (.brk (ρ2.set i none))
      | some (.cnt ρ2) => some (.cnt (ρ2.set i none))
      | some (.ret d ρ2) => some (.ret d (ρ2.set i none))
      | _ => none
      else none
    | some false => some (.exc (.exc c d) ρ1)
    | none => none
  | some (.exc _ _) => none
  | o => o
@[simp] theorem r_cat {ch : Nat → Option Bool} : sCat ch i s s2 ρ = catR ch i s2 (s ρ) := rfl
@[simp] theorem catR_nx {ch : Nat → Option Bool} : catR ch i s (some (.nx ρ)) = some (.nx ρ) := rfl
@[simp] theorem catR_ret {ch : Nat → Option Bool} : catR ch i s (some (.ret d ρ)) = some (.ret d ρ) := rfl
def leaveR (i : Nat) (x : Option SOut) : Option SOut := match x with
  | some (.nx ρ2) => some (.nx (ρ2.set i none))
  | some (.brk ρ2) => some (.brk (ρ2.set i none))
  | some (.cnt ρ2) => some (.cnt (ρ2.set i none))
  | some (.ret d ρ2) => some (.ret d (ρ2.set i none))
  | _ => none
@[simp] theorem leaveR_nx : leaveR i (some (.nx ρ)) = some (.nx (ρ.set i none)) := rfl
@[simp] theorem leaveR_ret : leaveR i (some (.ret d ρ)) = some (.ret d (ρ.set i none)) := rfl
@[simp] theorem catR_exc {ch : Nat → Option Bool} {k : Nat} : catR ch i s (some (.exc (.exc k d) ρ)) = bO (ch k) fun b => if b = true then (if i < ρ.length then leaveR i (s (ρ.set i (some (.exc k d)))) else none) else some (.exc (.exc k d) ρ) := by
  unfold catR bO
  dsimp only
  cases ch k with
  | none => rfl
  | some b => cases b <;> rfl
def raiR (c : Nat) (ds : List D) (ρ : DEnv) : Option SOut := match ds with
  | [d] => some (.exc (.exc c d) ρ)
  | _ => none
@[simp] theorem raiR_1 : raiR i [d] ρ = some (.exc (.exc i d) ρ) := rfl
@[simp] theorem r_raise : sRaise i fd ρ = bS (fd ρ) (raiR i) := by unfold sRaise; rw [r_S]; rfl
def fnR (I : List Nat) (ds : List D) (n : Nat) (x : Option SOut) : Option FOut := match x with
  | some (.nx ρ') => (outsD I ds ρ' n).map fun os => .ok .non os
  | some (.ret d ρ') => (outsD I ds ρ' n).map fun os => .ok d os
  | some (.exc e ρ') => (outsD I ds ρ' n).map fun os => .exc e os
  | _ => none
@[simp] theorem fnR_nx : fnR I ds n (some (.nx ρ)) = (outsD I ds ρ n).map fun os => .ok .non os := rfl
@[simp] theorem fnR_ret : fnR I ds n (some (.ret d ρ)) = (outsD I ds ρ n).map fun os => .ok d os := rfl
@[simp] theorem fnR_exc : fnR I ds n (some (.exc d ρ)) = (outsD I ds ρ n).map fun os => .exc d os := rfl
theorem r_fn {N : Nat} : fnD N n I s ds = if ds.length = n ∧ parOk I ds = true then fnR I ds n (s (ds.map some ++ List.replicate (N - n) none)) else none := by
  unfold fnD fnR
  split
  · cases s (ds.map some ++ List.replicate (N - n) none) with
    | none => rfl
    | some o => cases o <;> rfl
  · rfl
end
end DL
namespace DL
open PySem PySem.Spec PyProof.Rows L2
@[simp] theorem eqD_ii {i j : Int} : eqD (.int i) (.int j) = some (decide (i = j)) := rfl
@[simp] theorem eqD_bb {i j : Bool} : eqD (.bl i) (.bl j) = some (decide (i = j)) := rfl
@[simp] theorem eqD_ss {i j : Str} : eqD (.str i) (.str j) = some (decide (i = j)) := rfl
@[simp] theorem eqD_nn : eqD .non .non = some true := rfl
theorem pydL_ints : ∀ ns : List Int, pydL (ns.map .int) = some (ns.map PyData.int)
  | [] => rfl
  | n :: ns => by
    show (match pyd (.int n), pydL (ns.map .int) with | some y, some ys => some (y :: ys) | _, _ => none) = _
    rw [pydL_ints ns]
    rfl
theorem canAll_ints : ∀ ns : List Int, PyData.canLayAll0 (ns.map PyData.int) = true
  | [] => rfl
  | n :: ns => by
    show (PyData.canLay0 (.int n) && PyData.canLayAll0 (ns.map .int)) = true
    rw [canAll_ints ns]
    rfl
theorem depth_ints : ∀ ns : List Int, PyData.depthAll (ns.map PyData.int) = 0
  | [] => rfl
  | n :: ns => by
    show max (PyData.depth (.int n)) (PyData.depthAll (ns.map .int)) = 0
    rw [depth_ints ns]
    rfl
theorem shaped_ints (ns : List Int) : SeqAt.shaped (.list (ns.map PyData.int)) = true := by
  show (PyData.canLayAll0 (ns.map PyData.int) && decide (PyData.depthAll (ns.map PyData.int) + 1 ≤ 64)) = true
  rw [canAll_ints, depth_ints]
  rfl
theorem eqv_ints : ∀ ns ms : List Int, PyData.eqvAll (ns.map PyData.int) (ms.map PyData.int) = decide (ns = ms)
  | [], [] => rfl
  | [], m :: ms => rfl
  | n :: ns, [] => rfl
  | n :: ns, m :: ms => by
    show (PyData.eqv (.int n) (.int m) && PyData.eqvAll (ns.map .int) (ms.map .int)) = _
    rw [eqv_ints ns ms]
    show ((n == m) && decide (ns = ms)) = _
    by_cases h : n = m <;> by_cases h2 : ns = ms <;> simp [h, h2]
/-- two lists of integers -/
theorem eqD_lists {x y : D} {ns ms : List Int} (hx : pyd x = some (.list (ns.map PyData.int))) (hy : pyd y = some (.list (ms.map PyData.int))) (hs : eqS x y = none) : eqD x y = some (decide (ns = ms)) := by
  unfold eqD
  rw [hs, hx, hy]
  dsimp only
  rw [if_pos ⟨shaped_ints ns, shaped_ints ms⟩]
  show some (PyData.eqvAll _ _) = _
  rw [eqv_ints]
theorem pyd_ol (ns : List Int) : pyd (.ol (ns.map .int)) = some (.list (ns.map PyData.int)) := by
  show (match pydL (ns.map .int) with | some ys => some (PyData.list ys) | none => none) = _
  rw [pydL_ints]
@[simp] theorem eqD_ol {ns ms : List Int} : eqD (.ol (ns.map .int)) (.ol (ms.map .int)) = some (decide (ns = ms)) := eqD_lists (pyd_ol ns) (pyd_ol ms) rfl
@[simp] theorem eqD_ol0 {ns : List Int} : eqD (.ol (ns.map .int)) (.ol []) = some (decide (ns = [])) := eqD_ol (ms := [])
@[simp] theorem eqD_ol00 : eqD (.ol []) (.ol []) = some true := eqD_ol (ns := []) (ms := [])
@[simp] theorem eqD_olc {ns : List Int} {n : Int} : eqD (.ol (ns.map .int ++ [.int n])) (.ol []) = some false := by
  have := eqD_ol0 (ns := ns ++ [n])
  simpa using this
@[simp] theorem isi_t {tab : Tab} {x c : D} {cs : List D} : gIsi tab [x, .tup (c :: cs)] = bO (tyD x) fun t => (anyT tab t (c :: cs)).map .bl := by
  unfold gIsi bO
  dsimp only
  cases tyD x <;> rfl
@[simp] theorem isi_y {tab : Tab} {x : D} {n : String} : gIsi tab [x, .ty n] = bO (tyD x) fun t => (tab t (.ty n)).map .bl := by
  unfold gIsi bO
  dsimp only
  cases tyD x <;> rfl
@[simp] theorem isi_c {tab : Tab} {x : D} {n : Nat} : gIsi tab [x, .cls n] = bO (tyD x) fun t => (tab t (.cls n)).map .bl := by
  unfold gIsi bO
  dsimp only
  cases tyD x <;> rfl
@[simp] theorem anyT_0 {tab : Tab} {t : String ⊕ Nat} : anyT tab t [] = some false := rfl
@[simp] theorem anyT_1 {tab : Tab} {t : String ⊕ Nat} {c : D} {cs : List D} : anyT tab t (c :: cs) = bO (tab t c) fun b => bO (anyT tab t cs) fun b2 => some (b || b2) := by
  conv => lhs; unfold anyT
  unfold bO
  cases tab t c with
  | none => rfl
  | some b => cases b <;> cases anyT tab t cs <;> rfl
@[simp] theorem tabX_tt {exs : List Nat} {n m : String} : tabX exs (.inl n) (.ty m) = kitB n m := rfl
@[simp] theorem tabX_tc {exs : List Nat} {n : String} {k : Nat} : tabX exs (.inl n) (.cls k) = if k ∈ exs ∧ n ∈ xNts then some false else none := rfl
@[simp] theorem tabX_ct {exs : List Nat} {c : Nat} {m : String} : tabX exs (.inr c) (.ty m) = if c ∈ exs ∧ m ∈ xTys then some (decide (m = "ValueError")) else none := rfl
@[simp] theorem tabX_cc {exs : List Nat} {c k : Nat} : tabX exs (.inr c) (.cls k) = if c ∈ exs ∧ k ∈ exs then some (isX k c) else none := rfl
@[simp] theorem tyD_int {i : Int} : tyD (.int i) = some (.inl "int") := rfl
@[simp] theorem tyD_non : tyD .non = some (.inl "NoneType") := rfl
@[simp] theorem tyD_bl {i : Bool} : tyD (.bl i) = some (.inl "bool") := rfl
@[simp] theorem tyD_str {i : Str} : tyD (.str i) = some (.inl "str") := rfl
@[simp] theorem tyD_tup {i : List D} : tyD (.tup i) = some (.inl "tuple") := rfl
@[simp] theorem tyD_lst {i : List D} : tyD (.lst i) = some (.inl "list") := rfl
@[simp] theorem tyD_frl {i : List D} : tyD (.frl i) = some (.inl "list") := rfl
@[simp] theorem tyD_ol {i : List D} : tyD (.ol i) = some (.inl "list") := rfl
@[simp] theorem tyD_dct {i : List (Key × D)} : tyD (.dct i) = some (.inl "dict") := rfl
@[simp] theorem tyD_od {i : List (Key × D)} : tyD (.od i) = some (.inl "dict") := rfl
@[simp] theorem tyD_exc {c : Nat} {d : D} : tyD (.exc c d) = some (.inr c) := rfl
@[simp] theorem kB_NoneType_int : kitB "NoneType" "int" = some false := by decide +kernel
@[simp] theorem kB_NoneType_bool : kitB "NoneType" "bool" = some false := by decide +kernel
@[simp] theorem kB_NoneType_str : kitB "NoneType" "str" = some false := by decide +kernel
@[simp] theorem kB_NoneType_list : kitB "NoneType" "list" = some false := by decide +kernel
@[simp] theorem kB_NoneType_tuple : kitB "NoneType" "tuple" = some false := by decide +kernel
@[simp] theorem kB_NoneType_dict : kitB "NoneType" "dict" = some false := by decide +kernel
@[simp] theorem kB_bool_int : kitB "bool" "int" = some true := by decide +kernel
@[simp] theorem kB_bool_bool : kitB "bool" "bool" = some true := by decide +kernel
@[simp] theorem kB_bool_str : kitB "bool" "str" = some false := by decide +kernel
@[simp] theorem kB_bool_list : kitB "bool" "list" = some false := by decide +kernel
@[simp] theorem kB_bool_tuple : kitB "bool" "tuple" = some false := by decide +kernel
@[simp] theorem kB_bool_dict : kitB "bool" "dict" = some false := by decide +kernel
@[simp] theorem kB_int_int : kitB "int" "int" = some true := by decide +kernel
@[simp] theorem kB_int_bool : kitB "int" "bool" = some false := by decide +kernel
@[simp] theorem kB_int_str : kitB "int" "str" = some false := by decide +kernel
@[simp] theorem kB_int_list : kitB "int" "list" = some false := by decide +kernel
@[simp] theorem kB_int_tuple : kitB "int" "tuple" = some false := by decide +kernel
@[simp] theorem kB_int_dict : kitB "int" "dict" = some false := by decide +kernel
@[simp] theorem kB_str_int : kitB "str" "int" = some false := by decide +kernel
@[simp] theorem kB_str_bool : kitB "str" "bool" = some false := by decide +kernel
@[simp] theorem kB_str_str : kitB "str" "str" = some true := by decide +kernel
@[simp] theorem kB_str_list : kitB "str" "list" = some false := by decide +kernel
@[simp] theorem kB_str_tuple : kitB "str" "tuple" = some false := by decide +kernel
@[simp] theorem kB_str_dict : kitB "str" "dict" = some false := by decide +kernel
@[simp] theorem kB_tuple_int : kitB "tuple" "int" = some false := by decide +kernel
@[simp] theorem kB_tuple_bool : kitB "tuple" "bool" = some false := by decide +kernel
@[simp] theorem kB_tuple_str : kitB "tuple" "str" = some false := by decide +kernel
@[simp] theorem kB_tuple_list : kitB "tuple" "list" = some false := by decide +kernel
@[simp] theorem kB_tuple_tuple : kitB "tuple" "tuple" = some true := by decide +kernel
@[simp] theorem kB_tuple_dict : kitB "tuple" "dict" = some false := by decide +kernel
@[simp] theorem kB_list_int : kitB "list" "int" = some false := by decide +kernel
@[simp] theorem kB_list_bool : kitB "list" "bool" = some false := by decide +kernel
@[simp] theorem kB_list_str : kitB "list" "str" = some false := by decide +kernel
@[simp] theorem kB_list_list : kitB "list" "list" = some true := by decide +kernel
@[simp] theorem kB_list_tuple : kitB "list" "tuple" = some false := by decide +kernel
@[simp] theorem kB_list_dict : kitB "list" "dict" = some false := by decide +kernel
@[simp] theorem kB_dict_int : kitB "dict" "int" = some false := by decide +kernel
@[simp] theorem kB_dict_bool : kitB "dict" "bool" = some false := by decide +kernel
@[simp] theorem kB_dict_str : kitB "dict" "str" = some false := by decide +kernel
@[simp] theorem kB_dict_list : kitB "dict" "list" = some false := by decide +kernel
@[simp] theorem kB_dict_tuple : kitB "dict" "tuple" = some false := by decide +kernel
@[simp] theorem kB_dict_dict : kitB "dict" "dict" = some true := by decide +kernel
theorem abs_nat (i : Int) : (if i < 0 then -i else i) = (i.natAbs : Int) := by
  split <;> omega
theorem fmod_nat2 (x y : Nat) : ((x : Int)).fmod (y : Int) = (x : Int) % (y : Int) := Int.fmod_eq_emod_of_nonneg _ (by omega)
theorem whF_1 {c : Ev Bool} {b : Sv} {n : Nat} {ρ : DEnv} : whF c b (n + 1) ρ = bS (c ρ) fun t ρ1 => if t = true then bF (b ρ1) (whF c b n) else some (.nx ρ1) := by
  conv => lhs; unfold whF
  unfold bS bF
  cases c ρ with
  | none => rfl
  | some o => cases o with
    | exc e ρ1 => rfl
    | ok t ρ1 => cases t with
      | false => rfl
      | true => first | (dsimp only; rw [if_pos rfl]; done) | (dsimp only; rw [if_pos rfl]; rcases b ρ1 with _ | ⟨_ | _ | _ | _ | _⟩ <;> rfl)
end DL
namespace DL
open PySem PySem.Spec PyProof.Rows L2
def cutL {α : Type} (xs : List α) (lo hi : Option Int) : List α := (xs.drop (HT.sIx xs.length 0 lo)).take (HT.sIx xs.length xs.length hi - HT.sIx xs.length 0 lo)
theorem cutL_get {α β : Type} {xs : List α} {ys : List β} (l : xs.length = ys.length) {lo hi : Option Int} {i : Nat} {x : α} {y : β} (h1 : (cutL xs lo hi)[i]? = some x) (h2 : (cutL ys lo hi)[i]? = some y) : ∃ j : Nat, xs[j]? = some x ∧ ys[j]? = some y := by
  unfold cutL at h1 h2
  rw [← l] at h2
  rw [List.getElem?_take] at h1 h2
  by_cases hi : i < HT.sIx xs.length xs.length hi - HT.sIx xs.length 0 lo
  · rw [if_pos hi, List.getElem?_drop] at h1 h2
    exact ⟨_, h1, h2⟩
  · rw [if_neg hi] at h1
    cases h1
theorem cutL_len {α β : Type} {xs : List α} {ys : List β} (l : xs.length = ys.length) (lo hi : Option Int) : (cutL xs lo hi).length = (cutL ys lo hi).length := by
  unfold cutL
  simp [l]
def cutD : D → Option Int → Option Int → Option D
  | .str z, lo, hi => if z.length ≤ 16777216 then some (.str (cutS z lo hi)) else none
  | .tup ds, lo, hi => if HT.sIx ds.length 0 lo = 0 ∧ HT.sIx ds.length ds.length hi = ds.length then none else some (.tup (cutL ds lo hi))
  | .frl ds, lo, hi => if allSh ds = true then some (.ol (cutL ds lo hi)) else none
  | d, lo, hi => match lstD d with
    | some ds => if allSh ds = true then some (.ol (cutL ds lo hi)) else none
    | none => none
def optI : Bool → List D → Option (Option Int × List D)
  | false, ds => some (none, ds)
  | true, .int i :: ds => some (some i, ds)
  | true, _ => none
def gSl (a b : Bool) : List D → Option D
  | x :: r => match optI a r with
    | some (lo, r1) => match optI b r1 with
      | some (hi, []) => cutD x lo hi
      | _ => none
    | none => none
  | [] => none
def rCut (K : PySem.W.Frag) : V → Option Int → Option Int → Hp → VK → Prop := fun x lo hi H Q => rSlS x lo hi H Q ∨ (rSlL K x lo hi H Q ∨ rSlT K x lo hi H Q)
theorem sl_cut {X : Cx} : SlR X (rCut X.K) := sl_str.or (sl_list.or sl_tup)
section
variable {ca : Nat → Addr} {X : Cx} {G H : Hp} {Q : VK} {v : V} {d d' : D} {T : FP} {lo hi : Option Int}
theorem cut_own {a : Addr} {vs : List V} {ds : List D} (sub : ∀ b o, G b = some o → H b = some o) (hq : SqL X.K H a vs) (l : vs.length = ds.length) (c : ∀ (i : Nat) v d, vs[i]? = some v → ds[i]? = some d → ∃ U, Rep ⟨X.K, ca⟩ G H v d U) (hs : allSh ds = true)
    (q : ∀ v G' H' T, (∀ b o, G' b = some o → H' b = some o) → Rep ⟨X.K, ca⟩ G' H' v (.ol (cutL ds lo hi)) T → Ext G H nof G' H' T → Q v H') : rSlL X.K (.ref a) lo hi H Q := by
  refine ⟨a, vs, rfl, hq, fun p hp => q _ G _ _ (sub_own hp sub) (rep_ol (no_g sub hp) upd_same (cutL_len l lo hi) fun i v d e1 e2 => ?_) (ext_own hp)⟩
  obtain ⟨j, h1, h2⟩ := cutL_get l e1 e2
  obtain ⟨U, r⟩ := c j v d h1 h2
  exact (rep_sh r (allSh_get hs h2)).up
theorem cut_end (sub : ∀ b o, G b = some o → H b = some o) (r : Rep ⟨X.K, ca⟩ G H v d T) (e : cutD d lo hi = some d') (q : ∀ v G' H' T, (∀ b o, G' b = some o → H' b = some o) → Rep ⟨X.K, ca⟩ G' H' v d' T → Ext G H nof G' H' T → Q v H') : rCut X.K v lo hi H Q := by
  have own : ∀ {ds : List D}, lstD d = some ds → (if allSh ds = true then some (D.ol (cutL ds lo hi)) else none) = some d' → rCut X.K v lo hi H Q := fun {ds} h1 e => by
    split at e
    · rename_i hs
      cases e
      cases r with
      | lst h l c => cases h1; exact .inr (.inl (cut_own sub (.of (sub _ _ h)) l (fun i v d e1 e2 => ⟨_, c i v d e1 e2⟩) hs q))
      | ol h g l c bd dj na => cases h1; exact .inr (.inl (cut_own sub (.of h) l (fun i v d e1 e2 => ⟨_, c i v d e1 e2⟩) hs q))
      | _ => cases h1
    · cases e
  cases r with
  | str z =>
    unfold cutD at e
    dsimp only at e
    split at e
    · rename_i hz
      cases e
      exact .inl ⟨z, rfl, by rw [sizeLine_eq]; exact hz, rDL_end q sub (.str _)⟩
    · cases e
  | tup h l c =>
    unfold cutD at e
    dsimp only at e
    split at e
    · cases e
    · rename_i hw
      cases e
      refine .inr (.inr ⟨_, _, rfl, sqT_mono h sub, by rw [l]; exact hw, fun p hp => q _ _ _ nof (sub_new hp sub) (.tup (.inl (.inl upd_same)) (cutL_len l lo hi) fun i v d e1 e2 => ?_) (ext_new hp sub)⟩)
      obtain ⟨j, h1, h2⟩ := cutL_get l e1 e2
      exact (c j v d h1 h2).keep (ext_new hp sub).gg fun _ h => h.elim
  | frl h l c =>
    unfold cutD at e
    dsimp only at e
    split at e
    · rename_i hs
      cases e
      exact .inr (.inl (cut_own sub (sqL_mono h sub) l (fun i v d e1 e2 => ⟨_, c i v d e1 e2⟩) hs q))
    · cases e
  | lst h l c => exact own rfl e
  | ol h g l c bd dj na => exact own rfl e
  | _ => simp [cutD, lstD] at e
variable {a b c : Expr} {fa fb fc : Ev AV} {pos p2 : Pos}
theorem de_sl10 (ha : DE ca X a fa) (hb : DE ca X b fb) : DE ca X (.Subscript a (.Slice (some b) none none p2) pos) (ev2 (gSl true false) fa fb) := fun W tk =>
  PE.imp (pe_slice sl_cut (ha W tk) (po_some (hb W tk)) po_none) fun σ H Q h => tD_map (tD_op2 h) fun x H1 h1 => tD_map h1 fun y H2 ⟨G, ds, d, sub, rs, e, q⟩ => by
    obtain ⟨d1, T1, d2, T2, rfl, r1, r2⟩ := rs.two
    cases r2 with
    | int i => exact ⟨i, rfl, cut_end sub r1 e q⟩
    | _ => simp [gSl, optI] at e
end
def gList : List D → Option D
  | [x] => match seqD x with
    | some ds => if allSh ds = true then some (.ol ds) else none
    | none => none
  | _ => none
@[simp] theorem sl_r01 {x : D} {i : Int} : gSl false true [x, .int i] = cutD x none (some i) := rfl
@[simp] theorem sl_r10 {x : D} {i : Int} : gSl true false [x, .int i] = cutD x (some i) none := rfl
@[simp] theorem list_t {ds : List D} : gList [.tup ds] = if allSh ds = true then some (.ol ds) else none := rfl
@[simp] theorem list_f {ds : List D} : gList [.frl ds] = if allSh ds = true then some (.ol ds) else none := rfl
@[simp] theorem list_l {ds : List D} : gList [.lst ds] = if allSh ds = true then some (.ol ds) else none := rfl
@[simp] theorem list_o {ds : List D} : gList [.ol ds] = if allSh ds = true then some (.ol ds) else none := rfl
end DL
namespace DL
open PySem PySem.HandSPX PySem.W
end DL
namespace DL
open PySem PySem.Spec PyProof.Rows L2
section
variable {ca : Nat → Addr} {X : Cx} {I : List Nat} {c k : Nat} {x : Str} {fI : Addr} {fd : FuncData} {p pos pos' tpos : Pos} {kws : List Keyword} {fs : Ev (List AV)} {o i : Expr} {fo fi : Ev AV}
def blsD : List D → Option (List Bool)
  | [] => some []
  | .bl b :: ds => match blsD ds with
    | some bs => some (b :: bs)
    | none => none
  | _ => none
def gAll : List D → Option D
  | [x] => match lstD x with
    | some ds => match blsD ds with
      | some bs => some (.bl (bs.all id))
      | none => none
    | none => none
  | _ => none
def gMax : List D → Option D
  | [.int i, .int j] => some (.int (if j > i then j else i))
  | _ => none
def gMin : List D → Option D
  | [.int i, .int j] => some (.int (if j < i then j else i))
  | _ => none
theorem bls_rep {G H : Hp} {B : Bd} : ∀ {ds : List D} {bs : List Bool} {vs : List V}, blsD ds = some bs → vs.length = ds.length → (∀ (i : Nat) v d, vs[i]? = some v → ds[i]? = some d → ∃ U, Rep B G H v d U) → vs = bs.map V.bl
  | [], bs, vs, e, l, c => by cases e; cases vs with | nil => rfl | cons => cases l
  | d :: ds, bs, [], e, l, c => by cases l
  | d :: ds, bs, v :: vs, e, l, c => by
    obtain ⟨U, r⟩ := c 0 v d rfl rfl
    cases r with
    | bl b =>
      unfold blsD at e
      cases h : blsD ds with
      | none => rw [h] at e; cases e
      | some bs' =>
        rw [h] at e
        cases e
        exact congrArg (V.bl b :: ·) (bls_rep h (by simpa using l) fun i v d e1 e2 => c (i + 1) v d (by simpa using e1) (by simpa using e2))
    | _ => simp [blsD] at e
theorem callD_all (hc : X.calm = true) : CallD ca X (.builtin "all") gAll := by
  intro pins s σ H xs us Q I rs h
  obtain ⟨G, ds, d, sub, rr, e, q⟩ := h
  unfold gAll at e
  split at e
  · split at e
    · rename_i ds' h1
      split at e
      · rename_i bs h2
        cases e
        obtain ⟨v, T, rfl, r⟩ := reps1 rr
        cases r with
        | lst h l c =>
          cases h1
          have ev := bls_rep h2 l fun i v d e1 e2 => ⟨_, c i v d e1 e2⟩
          subst ev
          exact cr_all hc pins s σ H _ us Q I rs ⟨_, bs, rfl, .of (sub _ _ h), rDL_end q sub (.bl _)⟩
        | ol h g l c bd dj na =>
          cases h1
          have ev := bls_rep h2 l fun i v d e1 e2 => ⟨_, c i v d e1 e2⟩
          subst ev
          exact cr_all hc pins s σ H _ us Q I rs ⟨_, bs, rfl, .of h, rDL_end q sub (.bl _)⟩
        | _ => cases h1
      · cases e
    · cases e
  · cases e
theorem callD_max (hc : X.calm = true) : CallD ca X (.builtin "max") gMax := by
  intro pins s σ H xs us Q I rs h
  obtain ⟨G, ds, d, sub, rr, e, q⟩ := h
  unfold gMax at e
  split at e
  · cases e
    obtain ⟨v, T, w, U, rfl, r1, r2⟩ := reps2 rr
    cases r1; cases r2
    exact call_max2 hc pins s σ H _ us Q I rs ⟨_, _, rfl, rDL_end q sub (.int _)⟩
  · cases e
theorem callD_min (hc : X.calm = true) : CallD ca X (.builtin "min") gMin := by
  intro pins s σ H xs us Q I rs h
  obtain ⟨G, ds, d, sub, rr, e, q⟩ := h
  unfold gMin at e
  split at e
  · cases e
    obtain ⟨v, T, w, U, rfl, r1, r2⟩ := reps2 rr
    cases r1; cases r2
    exact call_min2 hc pins s σ H _ us Q I rs ⟨_, _, rfl, rDL_end q sub (.int _)⟩
  · cases e
end
end DL
namespace DL
open PySem PySem.Spec PyProof.Rows L2
section
variable {ρ : DEnv} {vs : List Nat} {t : Tgt} {c : Ev Bool} {f : Ev AV} {fi : Ev (List D)} {d : D} {ds acc : List D}
def cmpR (ρ0 : DEnv) (vs : List Nat) (x : Option (List D × DEnv)) : Option (Out AV) := match x with
  | some (acc, ρ') => some (.ok (.val (.ol acc)) (restD ρ0 ρ' vs))
  | none => none
@[simp] theorem cmpR_some {ρ0 : DEnv} : cmpR ρ0 vs (some (acc, ρ)) = some (.ok (.val (.ol acc)) (restD ρ0 ρ vs)) := rfl
@[simp] theorem r_comp : evComp fi vs t c f ρ = bE (fi ρ) fun ds ρ1 => cmpR ρ1 vs (compE vs t c f ds [] (wipeD ρ1 vs)) := by
  unfold evComp
  rw [r_then]
  rfl
@[simp] theorem r_yes : evYes ρ = some (.ok true ρ) := rfl
theorem comp_0 : compE vs t c f [] acc ρ = some (acc, wipeD ρ vs) := rfl
def turnR (vs : List Nat) (t : Tgt) (c : Ev Bool) (f : Ev AV) (ds acc : List D) (ρ2 : DEnv) (x : Option (Out AV)) : Option (List D × DEnv) := match x with
  | some (.ok av ρ3) => match cont ρ3 av with
    | some e => if acc.length < 16777216 then compE vs t c f ds (acc ++ [frz e]) (frzS (plS [av]) ρ3) else none
    | none => none
  | _ => none
@[simp] theorem turnR_ok {ρ2 : DEnv} {av : AV} : turnR vs t c f ds acc ρ2 (some (.ok av ρ)) = bO (cont ρ av) fun e => if acc.length < 16777216 then compE vs t c f ds (acc ++ [frz e]) (frzS (plS [av]) ρ) else none := by
  unfold turnR bO
  dsimp only
  cases cont ρ av <;> rfl
/-- without an if -/
theorem comp_1 : compE vs t evYes f (d :: ds) acc ρ = bO (t d (wipeD ρ vs)) fun ρ1 => turnR vs t evYes f ds acc ρ1 (f ρ1) := by
  conv => lhs; unfold compE
  unfold bO
  cases t d (wipeD ρ vs) with
  | none => rfl
  | some ρ1 =>
    dsimp only
    rw [r_yes]
    rfl
@[simp] theorem wipeD_0 : wipeD ρ [] = ρ := rfl
@[simp] theorem wipeD_1 {i : Nat} : wipeD ρ (i :: vs) = (wipeD ρ vs).set i none := rfl
@[simp] theorem restD_0 {ρ0 : DEnv} : restD ρ0 ρ [] = ρ := rfl
@[simp] theorem restD_1 {ρ0 : DEnv} {i : Nat} : restD ρ0 ρ (i :: vs) = match ρ0[i]? with
  | some o => (restD ρ0 ρ vs).set i o
  | none => restD ρ0 ρ vs := rfl
@[simp] theorem max_ii {i j : Int} : gMax [.int i, .int j] = some (.int (if j > i then j else i)) := rfl
@[simp] theorem min_ii {i j : Int} : gMin [.int i, .int j] = some (.int (if j < i then j else i)) := rfl
@[simp] theorem all_o : gAll [.ol ds] = bO (blsD ds) fun bs => some (.bl (bs.all id)) := by
  unfold gAll bO
  dsimp only [lstD]
  cases blsD ds <;> rfl
@[simp] theorem all_l : gAll [.lst ds] = bO (blsD ds) fun bs => some (.bl (bs.all id)) := by
  unfold gAll bO
  dsimp only [lstD]
  cases blsD ds <;> rfl
@[simp] theorem bls_0 : blsD [] = some [] := rfl
@[simp] theorem bls_1 {b : Bool} : blsD (.bl b :: ds) = bO (blsD ds) fun bs => some (b :: bs) := by
  conv => lhs; unfold blsD
  unfold bO
  cases blsD ds <;> rfl
end
end DL
namespace DL
open PySem PySem.Spec PyProof.Rows L2
def inD : D → D → Option Bool
  | .str s, .str z => match s.cps.toList with
    | [c] => some (decide (c ∈ z.cps.toList))
    | _ => some (!(Builtin.Str.occurrences z s 0 z.length 1).isEmpty)
  | x, y => match pyd x, pyd y with
    | some p, some (.list ps) => if SeqAt.shaped p = true ∧ SeqAt.shaped (.list ps) = true then some (ps.any fun w => PyData.eqv w p) else none
    | _, _ => none
def gIn : List D → Option D
  | [x, y] => (inD x y).map .bl
  | _ => none
def gNin : List D → Option D
  | [x, y] => (inD x y).map fun b => .bl (!b)
  | _ => none
section
variable {ca : Nat → Addr} {X : Cx}
theorem inD_str {s z : Str} {b : Bool} (h : inD (.str s) (.str z) = some b) : (∃ c : Nat, s = ⟨#[c]⟩ ∧ b = decide (c ∈ z.cps.toList)) ∨ b = !(Builtin.Str.occurrences z s 0 z.length 1).isEmpty := by
  unfold inD at h
  dsimp only at h
  split at h
  · rename_i c hc
    cases h
    refine .inl ⟨c, ?_, rfl⟩
    obtain ⟨⟨l⟩⟩ := s
    simp only at hc
    rw [hc]
  · cases h
    exact .inr rfl
theorem inD_deep {x y : D} {b : Bool} (h : inD x y = some b) : (∃ s z, x = .str s ∧ y = .str z) ∨ ∃ p ps, pyd x = some p ∧ pyd y = some (.list ps) ∧ SeqAt.shaped p = true ∧ SeqAt.shaped (.list ps) = true ∧ b = ps.any fun w => PyData.eqv w p := by
  have key : (match pyd x, pyd y with
    | some p, some (.list ps) => if SeqAt.shaped p = true ∧ SeqAt.shaped (.list ps) = true then some (ps.any fun w => PyData.eqv w p) else none
    | _, _ => none) = some b → ∃ p ps, pyd x = some p ∧ pyd y = some (.list ps) ∧ SeqAt.shaped p = true ∧ SeqAt.shaped (.list ps) = true ∧ b = ps.any fun w => PyData.eqv w p := fun e => by
    split at e
    · rename_i p ps h1 h2
      split at e
      · rename_i hz
        cases e
        exact ⟨p, ps, h1, h2, hz.1, hz.2, rfl⟩
      · cases e
    · cases e
  cases x with
  | str s => cases y with
    | str z => exact .inl ⟨s, z, rfl, rfl⟩
    | _ => exact .inr (key h)
  | _ => exact .inr (key h)
theorem opD_in (hu : X.A.units + 65 < cLine) : Op2 ca X (compareOp .In) gIn := by
  intro pins s σ H x y v u Q I rx ry h
  obtain ⟨G, ds, d, sub, rs, e, q⟩ := h
  obtain ⟨d1, T1, d2, T2, rfl, r1, r2⟩ := rs.two
  unfold gIn at e
  obtain ⟨b, e1, rfl⟩ := Option.map_eq_some_iff.mp e
  rcases inD_deep e1 with ⟨a, z, rfl, rfl⟩ | ⟨p, ps, h1, h2, h3, h4, rfl⟩
  · cases r1; cases r2
    rcases inD_str e1 with ⟨c, rfl, rfl⟩ | rfl
    · exact op_in_sign pins s σ H _ _ v u Q I rx ry ⟨c, z, rfl, rfl, rDL_end q sub (.bl _)⟩
    · exact op_in_str pins s σ H _ _ v u Q I rx ry ⟨a, z, rfl, rfl, rDL_end q sub (.bl _)⟩
  · exact op_inD hu pins s σ H _ _ v u Q I rx ry ⟨p, ps, r1.dp sub h1, r2.dp sub h2, h3, h4, rDL_end q sub (.bl _)⟩
end
end DL
namespace DL
open PySem PySem.Spec PyProof.Rows L2
def intsD : List D → Option (List Int)
  | [] => some []
  | .int i :: ds => match intsD ds with
    | some is => some (i :: is)
    | none => none
  | _ => none
def strsD : List D → Option (List Str)
  | [] => some []
  | .str i :: ds => match strsD ds with
    | some is => some (i :: is)
    | none => none
  | _ => none
def lstA : D → Option (List D)
  | .lst xs => some xs | .ol xs => some xs | .frl xs => some xs
  | _ => none
end DL
namespace DL
open PySem PySem.Spec PyProof.Rows L2
theorem PathH.grow {H H' : Hp} (h : ∀ b o, H b = some o → H' b = some o) : ∀ {p : List PSt} {v0 v : V}, PathH H v0 p v → PathH H' v0 p v
  | [], _, _, k => k
  | .ix j :: p, _, _, k => by
    obtain ⟨a, vs, u, e, ha, hu, k⟩ := k
    exact ⟨a, vs, u, e, h _ _ ha, hu, PathH.grow h k⟩
  | .fl f :: p, _, _, k => by
    obtain ⟨a, C, dx, fs, n, u, e, ha, hk, hu, k⟩ := k
    exact ⟨a, C, dx, fs, n, u, e, h _ _ ha, hk, hu, PathH.grow h k⟩
  | .ky f :: p, _, _, k => by
    obtain ⟨a, fs, n, u, e, ha, hk, hu, k⟩ := k
    exact ⟨a, fs, n, u, e, h _ _ ha, hk, hu, PathH.grow h k⟩
/-- more slots, more of the heap -/
theorem RepAs.grow {B : Bd} {G H H' : Hp} {σ : L2.St} {τ : L2.St} {W' : FP} (x : Ext G H nof G H' W') : ∀ {Wt : FP} {vs : List V} {avs : List AV}, RepAs B G H σ Wt vs avs → RepAs B G H' (σ ++ τ) Wt vs avs := by
  intro Wt vs avs r
  induction r with
  | nil => exact .nil
  | cons r hT t hu dj ih =>
    rename_i a _ _
    refine .cons ?_ hT ih hu dj
    cases a with
    | val d => exact (Rep.frame r x fun _ _ h => h).1
    | pl i p =>
      obtain ⟨⟨v0, e0, hp⟩, hU⟩ := r
      refine ⟨⟨v0, ?_, hp.grow fun b o hb => x.hh b o hb fun h => h⟩, hU⟩
      rw [List.getElem?_append_left (List.getElem?_eq_some_iff.mp e0).1]
      exact e0
end DL
namespace DL
open PySem PySem.Spec PyProof.Rows L2
end DL
namespace DL
open PySem PySem.Spec PyProof.Rows L2
end DL
namespace DL
open PySem PySem.Spec PyProof.Rows L2
end DL
namespace DL
open PySem PySem.Spec PyProof.Rows L2
end DL
namespace DL
open PySem PySem.Spec PyProof.Rows L2
theorem u65 {k : Nat} {A : Around} (r : Room k A) : A.units + 65 < cLine := by have := r.un; omega
theorem u1 {k : Nat} {A : Around} (r : Room k A) : A.units + 1 < cLine := by have := r.un; omega
def keyD : D → Option Key
  | .int i => some (.inl i)
  | .str s => some (.inr s)
  | _ => none
def dctD : D → Option (List (Key × D))
  | .dct kvs => some kvs
  | .od kvs => some kvs
  | _ => none
def valD (kvs : List (Key × D)) (k : Key) : Option D := (kvs.find? fun kv => decide (kv.1 = k)).map (·.2)
def putD (kvs : List (Key × D)) (k : Key) (d : D) : List (Key × D) :=
  if (kvs.any fun kv => decide (kv.1 = k)) = true then kvs.map (fun kv => if kv.1 = k then (kv.1, d) else kv) else kvs ++ [(k, d)]
theorem keyD_rep {B : Bd} {G H : Hp} {v : V} {d : D} {T : FP} {k : Key} (r : Rep B G H v d T) (h : keyD d = some k) : v = kV k := by
  cases r <;> cases h <;> rfl
theorem valD_rep {R : V → D → Prop} {k : Key} : ∀ {kvs : List (Key × V)} {ds : List (Key × D)}, kvs.map (·.1) = ds.map (·.1) → (∀ (i : Nat) k v k' d, kvs[i]? = some (k, v) → ds[i]? = some (k', d) → R v d) →
    (valV kvs k = none ∧ valD ds k = none) ∨ ∃ v d, valV kvs k = some v ∧ valD ds k = some d ∧ R v d
  | [], [], _, _ => .inl ⟨rfl, rfl⟩
  | [], _ :: _, h, _ => by cases h
  | _ :: _, [], h, _ => by cases h
  | (k1, v) :: kvs, (k2, d) :: ds, h, c => by
    simp only [List.map_cons, List.cons.injEq] at h
    obtain ⟨h1, h2⟩ := h
    subst h1
    by_cases e : k1 = k
    · exact .inr ⟨v, d, valV_pos (p := (k1, v)) e, by simp [valD, List.find?_cons, e], c 0 _ _ _ _ rfl rfl⟩
    · have e1 : valD ((k1, d) :: ds) k = valD ds k := by simp [valD, List.find?_cons, e]
      rw [valV_neg (p := (k1, v)) e, e1]
      exact valD_rep h2 fun i k v k' d a b => c (i + 1) k v k' d (by simpa using a) (by simpa using b)
theorem dctD_rep {B : Bd} {G H : Hp} {v : V} {d : D} {T : FP} (r : Rep B G H v d T) (s : ∀ b o, G b = some o → H b = some o) {ds : List (Key × D)} (h : dctD d = some ds) :
    ∃ a kvs, v = .ref a ∧ Rd H a (.dK kvs) ∧ kvs.map (·.1) = ds.map (·.1) ∧ ∀ (i : Nat) k v k' d, kvs[i]? = some (k, v) → ds[i]? = some (k', d) → ∃ U, Rep B G H v d U := by
  cases r with
  | dct h' l c => cases h; exact ⟨_, _, rfl, rd_mono h' s, l, fun i k v k' d e1 e2 => ⟨_, c i k v k' d e1 e2⟩⟩
  | od h' g l c bd dj na => cases h; exact ⟨_, _, rfl, .inl h', l, fun i k v k' d e1 e2 => ⟨_, c i k v k' d e1 e2⟩⟩
  | _ => cases h
/-- {} -/
def evDict0 : Ev AV := .pure (.val (.od []))
/-- kvs of frozen values -/
theorem rep_od {B : Bd} {G H : Hp} {p : Addr} {kvs : List (Key × V)} {ds : List (Key × D)} (g : G p = none) (h : H p = some (.dK kvs)) (l : kvs.map (·.1) = ds.map (·.1))
    (c : ∀ (i : Nat) k v k' d, kvs[i]? = some (k, v) → ds[i]? = some (k', d) → Rep B G H v d nof) : Rep B G H (.ref p) (.od ds) (fun x => x = p) := by
  have r := Rep.od (B := B) (G := G) (H := H) (F := fun _ => nof) h g l c (fun _ _ h => h.elim) (fun _ _ _ h => h.elim) fun _ h => h.elim
  have en : (fun x => x = p ∨ ∃ i : Nat, (nof : FP) x) = fun x => x = p := by funext x; exact propext ⟨fun h => h.elim id fun ⟨_, h⟩ => h.elim, .inl⟩
  rw [en] at r
  exact r
section
variable {ca : Nat → Addr} {X : Cx} {a b : Expr} {fa fb : Ev AV} {pos : Pos}
/-- d[k] -/
def gDx : List D → Option D
  | [x, k] => match dctD x, keyD k with
    | some kvs, some k => match valD kvs k with
      | some d => if d.sh = true then some d else none
      | none => none
    | _, _ => none
  | _ => none
theorem de_dx (hu : X.A.units + 1 < cLine) (ha : DE ca X a fa) (hb : DE ca X b fb) (hs : NoSl b) : DE ca X (.Subscript a b pos) (ev2 gDx fa fb) :=
  fun W tk => PE.imp (pe_dget hu (ha W tk) (hb W tk) hs) fun σ H Q h => tD_map (tD_op2 h) fun x H1 kq => tD_map kq fun y H2 q => by
    obtain ⟨G, ds, d, sub, rs, e, q⟩ := q
    obtain ⟨d1, T1, d2, T2, rfl, r1, r2⟩ := rs.two
    unfold gDx at e
    dsimp only at e
    split at e
    · rename_i kvs kk h1 h2
      split at e
      · rename_i d' h3
        split at e
        · rename_i hs
          cases e
          obtain ⟨p, ks, rfl, hH, l, c⟩ := dctD_rep r1 sub h1
          cases keyD_rep r2 h2
          rcases valD_rep (k := kk) l c with ⟨_, h⟩ | ⟨v, d, h4, h5, U, r⟩
          · rw [h3] at h; cases h
          · rw [h3] at h5
            cases h5
            exact ⟨p, v, rfl, .inl ⟨ks, kk, hH, rfl, h4.symm⟩, rDL_end q sub (rep_sh r hs)⟩
        · cases e
      · cases e
    · cases e
/-- k in d -/
def gDin : List D → Option D
  | [k, x] => match dctD x, keyD k with
    | some kvs, some k => some (.bl (valD kvs k).isSome)
    | _, _ => none
  | _ => none
def gDnin : List D → Option D
  | [k, x] => match dctD x, keyD k with
    | some kvs, some k => some (.bl (!(valD kvs k).isSome))
    | _, _ => none
  | _ => none
end
theorem putD_keys {kvs : List (Key × V)} {ds : List (Key × D)} {k : Key} {v : V} {d : D} (l : kvs.map (·.1) = ds.map (·.1)) : (putK kvs k v).map (·.1) = (putD ds k d).map (·.1) := by
  have ea : (kvs.any fun kv => decide (kv.1 = k)) = ds.any fun kv => decide (kv.1 = k) := by
    have h : ∀ {α : Type} (xs : List (Key × α)), (xs.any fun kv => decide (kv.1 = k)) = (xs.map (·.1)).any fun z => decide (z = k) := fun xs => by rw [List.any_map]; rfl
    rw [h kvs, h ds, l]
  unfold putK putD
  rw [ea]
  have h : ∀ {α : Type} (xs : List (Key × α)) (y : α), (xs.map fun kv => if kv.1 = k then (kv.1, y) else kv).map (·.1) = xs.map (·.1) := fun xs y => by
    rw [List.map_map]
    refine List.map_congr_left fun p _ => ?_
    dsimp only [Function.comp]
    split <;> rfl
  split
  · rw [h, h, l]
  · rw [List.map_append, List.map_append, l]; rfl
/-- each of what is put, by place: the new one, or what stood there -/
theorem putD_get {kvs : List (Key × V)} {ds : List (Key × D)} {k : Key} {v : V} {d : D} (l : kvs.map (·.1) = ds.map (·.1)) : ∀ (i : Nat) k1 v1 k2 d1, (putK kvs k v)[i]? = some (k1, v1) → (putD ds k d)[i]? = some (k2, d1) →
    (v1 = v ∧ d1 = d) ∨ ∃ k3 k4, kvs[i]? = some (k3, v1) ∧ ds[i]? = some (k4, d1) := by
  have ea : (kvs.any fun kv => decide (kv.1 = k)) = ds.any fun kv => decide (kv.1 = k) := by
    have h : ∀ {α : Type} (xs : List (Key × α)), (xs.any fun kv => decide (kv.1 = k)) = (xs.map (·.1)).any fun z => decide (z = k) := fun xs => by rw [List.any_map]; rfl
    rw [h kvs, h ds, l]
  intro i k1 v1 k2 d1 e1 e2
  unfold putK at e1
  unfold putD at e2
  rw [ea] at e1
  split at e1
  · rename_i hh
    rw [if_pos hh] at e2
    rw [List.getElem?_map] at e1 e2
    obtain ⟨⟨ka, va⟩, ha, e1⟩ := Option.map_eq_some_iff.mp e1
    obtain ⟨⟨kb, db⟩, hb, e2⟩ := Option.map_eq_some_iff.mp e2
    have hk : ka = kb := by
      have h1 := congrArg (·[i]?) l
      simp only [List.getElem?_map, ha, hb, Option.map_some, Option.some.injEq] at h1
      exact h1
    subst hk
    dsimp only at e1 e2
    split at e1
    · rename_i hz
      rw [if_pos hz] at e2
      cases e1; cases e2
      exact .inl ⟨rfl, rfl⟩
    · rename_i hz
      rw [if_neg hz] at e2
      cases e1; cases e2
      exact .inr ⟨_, _, ha, hb⟩
  · rename_i hh
    rw [if_neg hh] at e2
    have ll := len_of_keys l
    rcases get_append e1 with ⟨hi, e1⟩ | ⟨hi, e1⟩
    · rw [List.getElem?_append_left (by omega)] at e2
      exact .inr ⟨_, _, e1, e2⟩
    · rw [List.getElem?_append_right (by omega), ← ll] at e2
      cases hk : i - kvs.length with
      | zero => rw [hk] at e1 e2; cases e1; cases e2; exact .inl ⟨rfl, rfl⟩
      | succ n => rw [hk] at e1; cases e1
def gmDset : D → List D → Option (D × D)
  | .od kvs, [k, x] => match keyD k with
    | some k => if kvs.length < 16777216 then some (.od (putD kvs k x), .non) else none
    | none => none
  | _, _ => none
end DL
namespace DL
open PySem PySem.Spec PyProof.Rows L2
def gmReverse : D → List D → Option (D × D)
  | .ol ds, [] => some (.ol ds.reverse, .non)
  | _, _ => none
def gmClear : D → List D → Option (D × D)
  | .ol _, [] => some (.ol [], .non)
  | _, _ => none
def KR (R : V → D → Prop) (kvs : List (Key × V)) (ds : List (Key × D)) : Prop := kvs.map (·.1) = ds.map (·.1) ∧ ∀ (i : Nat) k v k' d, kvs[i]? = some (k, v) → ds[i]? = some (k', d) → R v d
theorem KR.put {R : V → D → Prop} {kvs : List (Key × V)} {ds : List (Key × D)} (h : KR R kvs ds) {k : Key} {v : V} {d : D} (r : R v d) : KR R (putK kvs k v) (putD ds k d) :=
  ⟨putD_keys h.1, fun i k1 v1 k2 d1 e1 e2 => by
    rcases putD_get h.1 i k1 v1 k2 d1 e1 e2 with ⟨rfl, rfl⟩ | ⟨k3, k4, e3, e4⟩
    · exact r
    · exact h.2 i k3 v1 k4 d1 e3 e4⟩
/-- the texts in their order -/
def sortS (xs : List Str) : List Str := xs.mergeSort fun a b => !sLt b a
def gSortS : List D → Option D
  | [x] => match lstA x with
    | some ds => match strsD ds with
      | some ys => if ys.length < 64 then some (.ol ((sortS ys).map .str)) else none
      | none => none
    | none => none
  | _ => none
def signsD (x : Str) : List D := x.cps.toList.map fun c => .str ⟨#[c]⟩
def gListS : List D → Option D
  | [.str x] => if x.cps.size ≤ 16777216 then some (.ol (signsD x)) else none
  | ds => gList ds
def pickI (n : Nat) (lo hi st : Option Int) : List Nat := sliceRange (sliceBounds lo hi st n).1 (sliceBounds lo hi st n).2.1 (sliceBounds lo hi st n).2.2
def pickL {α : Type} (xs : List α) (lo hi st : Option Int) : List α := (pickI xs.length lo hi st).filterMap (xs[·]?)
section
variable {X : Cx}
theorem PO.imp {e : Option Expr} {t u : TO} (h : PO X e t) (k : ∀ (σ : L2.St) (H : Hp) (Q : Option Int → Hp → Prop), u σ H Q → t σ H Q) : PO X e u := ⟨fun pins s σ H Q I q => h.run pins s σ H Q I (k σ H Q q)⟩
end
theorem de_gstr {ca : Nat → Addr} {X : Cx} {x : Str} {z : Str} {pos : Pos} (hm : ∃ t : Tok, X.mg x = some (.str z t)) (hg : Gl X x := by rfl) (hdb : (x == ("__debug__" : Str)) = false := by decide) : DE ca X (.Name x pos) (evC (.str z)) := by
  obtain ⟨t, hm⟩ := hm
  exact de_const (v := .str z) (pe_glob hg hm ⟨t, rfl⟩ hdb) fun _ _ => .str z
end DL
namespace DL
open PySem PySem.Spec PyProof.Rows L2
def loopE {α : Type} (vs : List Nat) (t : Tgt) (c : Ev Bool) (body : α → DEnv → Option (α × DEnv)) : List D → α → DEnv → Option (α × DEnv)
  | [], acc, ρ => some (acc, wipeD ρ vs)
  | d :: ds, acc, ρ => match t d (wipeD ρ vs) with
    | none => none
    | some ρ1 => match c ρ1 with
      | some (.ok false ρ2) => loopE vs t c body ds acc ρ2
      | some (.ok true ρ2) => match body acc ρ2 with
        | some (acc', ρ3) => loopE vs t c body ds acc' ρ3
        | none => none
      | _ => none
section
variable {α : Type} {vs : List Nat} {t : Tgt} {fc : Ev Bool} {body : α → DEnv → Option (α × DEnv)} {B : Bd} {AR : Hp → HO → α → Prop}
/-- between two steps: what is made stands at Z, apart -/
structure MidAt (B : Bd) (AR : Hp → HO → α → Prop) (Ga G0 H0 : Hp) (W0 : FP) (Z : Addr) (σ : L2.St) (ρ : DEnv) (acc : α) (G H : Hp) (F : Nat → FP) (o : HO) : Prop where
  c : Cfg B G H σ ρ F
  gg : ∀ b o, Ga b = some o → G b = some o
  xx : Ext G0 H0 W0 G H (fun x => un F x ∨ x = Z)
  gD : G Z = none
  nD : ¬ un F Z
  hD : H Z = some o
  ra : AR G o acc
variable {Ga G0 H0 : Hp} {W0 : FP} {Z : Addr} {σ : L2.St} {ρ : DEnv} {acc : α} {G H : Hp} {F : Nat → FP} {o : HO}
theorem MidAt.wipe {σ0 : L2.St} (m : MidAt B AR Ga G0 H0 W0 Z σ ρ acc G H F o) (h : L2.wipe σ vs = σ0) : MidAt B AR Ga G0 H0 W0 Z σ0 (wipeD ρ vs) acc G H (fun j x => F j x ∧ j ∉ vs) o := by
  subst h
  exact ⟨m.c.wipe vs, m.gg, m.xx.mono (fun _ h => h) fun x h => h.imp (fun ⟨j, hj⟩ => ⟨j, hj.1⟩) id, m.gD, fun ⟨j, hj⟩ => m.nD ⟨j, hj.1⟩, m.hD, m.ra⟩
end
def appE (f : Ev AV) (acc : List D) : DEnv → Option (List D × DEnv) := fun ρ => match f ρ with
  | some (.ok av ρ3) => match cont ρ3 av with
    | some e => if acc.length < 16777216 then some (acc ++ [frz e], frzS (plS [av]) ρ3) else none
    | none => none
  | _ => none
section
variable {B : Bd} {Ga G0 H0 : Hp} {W0 : FP} {Z : Addr} {σ : L2.St} {vs : List Nat}
/-- a second loop within a turn -/
def comp1E (fi1 : Ev (List D)) (vs1 : List Nat) (t1 : Tgt) (c1 : Ev Bool) (f : Ev AV) (acc : List D) : DEnv → Option (List D × DEnv) := fun ρ => match fi1 ρ with
  | some (.ok ds ρ1) => compE vs1 t1 c1 f ds acc ρ1
  | _ => none
end
def evComp2 (fi : Ev (List D)) (vs : List Nat) (t : Tgt) (c : Ev Bool) (fi1 : Ev (List D)) (vs1 : List Nat) (t1 : Tgt) (c1 : Ev Bool) (f : Ev AV) : Ev AV := fi.andThen fun ds ρ => match loopE vs t c (comp1E fi1 vs1 t1 c1 f) ds [] (wipeD ρ vs) with
  | some (acc, ρ') => some (.ok (.val (.ol acc)) (restD ρ ρ' vs))
  | none => none
def putE (fk fv : Ev AV) (acc : List (Key × D)) : DEnv → Option (List (Key × D) × DEnv) := fun ρ => match fk ρ with
  | some (.ok (.val dk) ρ2) => match keyD dk, fv ρ2 with
    | some k, some (.ok av ρ3) => match cont ρ3 av with
      | some e => if acc.length < 16777216 then some (putD acc k (frz e), frzS (plS [av]) ρ3) else none
      | none => none
    | _, _ => none
  | _ => none
def evDcomp (fi : Ev (List D)) (vs : List Nat) (t : Tgt) (c : Ev Bool) (fk fv : Ev AV) : Ev AV := fi.andThen fun ds ρ => match loopE vs t c (putE fk fv) ds [] (wipeD ρ vs) with
  | some (acc, ρ') => some (.ok (.val (.od acc)) (restD ρ ρ' vs))
  | none => none
end DL
namespace DL
open PySem PySem.Spec PyProof.Rows L2
@[simp] theorem sh_non : D.non.sh = true := rfl
@[simp] theorem sh_bl {b : Bool} : (D.bl b).sh = true := rfl
@[simp] theorem sh_int {i : Int} : (D.int i).sh = true := rfl
@[simp] theorem sh_str {x : Str} : (D.str x).sh = true := rfl
@[simp] theorem sh_ty {x : String} : (D.ty x).sh = true := rfl
@[simp] theorem sh_cls {x : Nat} : (D.cls x).sh = true := rfl
@[simp] theorem sh_tup {x : List D} : (D.tup x).sh = true := rfl
@[simp] theorem sh_lst {x : List D} : (D.lst x).sh = true := rfl
@[simp] theorem sh_frl {x : List D} : (D.frl x).sh = true := rfl
@[simp] theorem sh_dct {x : List (Key × D)} : (D.dct x).sh = true := rfl
@[simp] theorem sh_ins {c : Nat} {x : List (Str × D)} : (D.ins c x).sh = true := rfl
@[simp] theorem sh_exc {c : Nat} {x : D} : (D.exc c x).sh = true := rfl
@[simp] theorem sh_ol {x : List D} : (D.ol x).sh = false := rfl
@[simp] theorem sh_od {x : List (Key × D)} : (D.od x).sh = false := rfl
@[simp] theorem sh_oi {c : Nat} {x : List (Str × D)} : (D.oi c x).sh = false := rfl
@[simp] theorem fz_non : frz D.non = .non := rfl
@[simp] theorem fz_bl {b : Bool} : frz (D.bl b) = .bl b := rfl
@[simp] theorem fz_int {i : Int} : frz (D.int i) = .int i := rfl
@[simp] theorem fz_str {x : Str} : frz (D.str x) = .str x := rfl
@[simp] theorem fz_ty {x : String} : frz (D.ty x) = .ty x := rfl
@[simp] theorem fz_cls {x : Nat} : frz (D.cls x) = .cls x := rfl
@[simp] theorem fz_tup {x : List D} : frz (D.tup x) = .tup x := rfl
@[simp] theorem fz_lst {x : List D} : frz (D.lst x) = .lst x := rfl
@[simp] theorem fz_frl {x : List D} : frz (D.frl x) = .frl x := rfl
@[simp] theorem fz_dct {x : List (Key × D)} : frz (D.dct x) = .dct x := rfl
@[simp] theorem fz_ins {c : Nat} {x : List (Str × D)} : frz (D.ins c x) = .ins c x := rfl
@[simp] theorem fz_exc {c : Nat} {x : D} : frz (D.exc c x) = .exc c x := rfl
@[simp] theorem fz_ol {x : List D} : frz (D.ol x) = .lst (frzL x) := by rw [frz]
@[simp] theorem fz_od {x : List (Key × D)} : frz (D.od x) = .dct (frzK x) := by rw [frz]
@[simp] theorem fz_oi {c : Nat} {x : List (Str × D)} : frz (D.oi c x) = .ins c (frzF x) := by rw [frz]
@[simp] theorem fzL_0 : frzL [] = [] := rfl
@[simp] theorem fzL_1 {d : D} {ds : List D} : frzL (d :: ds) = frz d :: frzL ds := by rw [frzL]
@[simp] theorem allSh_0 : allSh [] = true := rfl
@[simp] theorem allSh_1 {d : D} {ds : List D} : allSh (d :: ds) = (d.sh && allSh ds) := rfl
@[simp] theorem allSh_a {ds es : List D} : allSh (ds ++ es) = (allSh ds && allSh es) := by unfold allSh; rw [List.all_append]
@[simp] theorem fzL_a {ds es : List D} : frzL (ds ++ es) = frzL ds ++ frzL es := by rw [frzL_map, frzL_map, frzL_map, List.map_append]
@[simp] theorem lt_i {i j : Int} : DL.gLt [.int i, .int j] = some (.bl (decide (i < j))) := rfl
@[simp] theorem le_i {i j : Int} : DL.gLe [.int i, .int j] = some (.bl (decide (i ≤ j))) := rfl
@[simp] theorem gt_i {i j : Int} : DL.gGt [.int i, .int j] = some (.bl (decide (j < i))) := rfl
@[simp] theorem ge_i {i j : Int} : DL.gGe [.int i, .int j] = some (.bl (decide (j ≤ i))) := rfl
@[simp] theorem add_i {i j : Int} : gAdd [.int i, .int j] = some (.int (i + j)) := rfl
@[simp] theorem mul_i {i j : Int} : gMul [.int i, .int j] = if lg i + lg j < 1000000 then some (.int (i * j)) else none := rfl
@[simp] theorem add_oo {xs ys : List D} : gAdd [.ol xs, .ol ys] = if allSh xs = true ∧ allSh ys = true ∧ xs.length + ys.length ≤ 16777216 then some (.ol (xs ++ ys)) else none := rfl
@[simp] theorem add_ol {xs ys : List D} : gAdd [.ol xs, .lst ys] = if allSh xs = true ∧ allSh ys = true ∧ xs.length + ys.length ≤ 16777216 then some (.ol (xs ++ ys)) else none := rfl
@[simp] theorem add_lo {xs ys : List D} : gAdd [.lst xs, .ol ys] = if allSh xs = true ∧ allSh ys = true ∧ xs.length + ys.length ≤ 16777216 then some (.ol (xs ++ ys)) else none := rfl
@[simp] theorem add_ll {xs ys : List D} : gAdd [.lst xs, .lst ys] = if allSh xs = true ∧ allSh ys = true ∧ xs.length + ys.length ≤ 16777216 then some (.ol (xs ++ ys)) else none := rfl
@[simp] theorem ix_o {xs : List D} {i : Int} : gIx [.ol xs, .int i] = bO (atI xs i) fun d => if d.sh = true then some d else none := by
  show (match atI xs i with | some d => if d.sh = true then some d else none | none => none) = _
  unfold bO
  cases atI xs i <;> rfl
@[simp] theorem ix_l {xs : List D} {i : Int} : gIx [.lst xs, .int i] = bO (atI xs i) fun d => if d.sh = true then some d else none := ix_o
@[simp] theorem ix_f {xs : List D} {i : Int} : gIx [.frl xs, .int i] = bO (atI xs i) fun d => if d.sh = true then some d else none := ix_o
@[simp] theorem ix_t {xs : List D} {i : Int} : gIx [.tup xs, .int i] = bO (atI xs i) fun d => if d.sh = true then some d else none := ix_o
@[simp] theorem len_o {xs : List D} : DL.gLen [.ol xs] = some (.int xs.length) := rfl
@[simp] theorem len_l {xs : List D} : DL.gLen [.lst xs] = some (.int xs.length) := rfl
@[simp] theorem len_f {xs : List D} : DL.gLen [.frl xs] = some (.int xs.length) := rfl
@[simp] theorem len_t {xs : List D} : DL.gLen [.tup xs] = some (.int xs.length) := rfl
@[simp] theorem len_d {xs : List (Key × D)} : DL.gLen [.dct xs] = some (.int xs.length) := rfl
@[simp] theorem len_od {xs : List (Key × D)} : DL.gLen [.od xs] = some (.int xs.length) := rfl
@[simp] theorem itL_l {xs : List D} : gItL [.lst xs] = some xs := rfl
@[simp] theorem itL_f {xs : List D} : gItL [.frl xs] = some xs := rfl
@[simp] theorem isLst_o {xs : List D} : isLst (.ol xs) = true := rfl
@[simp] theorem isLst_l {xs : List D} : isLst (.lst xs) = true := rfl
@[simp] theorem isLst_f {xs : List D} : isLst (.frl xs) = true := rfl
@[simp] theorem tru_non : truD .non = some false := rfl
@[simp] theorem tru_bl {b : Bool} : truD (.bl b) = some b := rfl
@[simp] theorem tru_int {i : Int} : truD (.int i) = some (i != 0) := rfl
@[simp] theorem tru_tup {xs : List D} : truD (.tup xs) = some (!xs.isEmpty) := rfl
@[simp] theorem tru_lst {xs : List D} : truD (.lst xs) = some (!xs.isEmpty) := rfl
@[simp] theorem tru_frl {xs : List D} : truD (.frl xs) = some (!xs.isEmpty) := rfl
@[simp] theorem tru_ol {xs : List D} : truD (.ol xs) = some (!xs.isEmpty) := rfl
def sD (m : List Nat) : D := .str ⟨m.toArray⟩
theorem str_sD (s : Str) : D.str s = sD s.cps.toList := rfl
@[simp] theorem sh_s (m : List Nat) : (sD m).sh = true := rfl
@[simp] theorem frz_s (m : List Nat) : frz (sD m) = sD m := rfl
@[simp] theorem str_e : D.str ("" : Str) = sD [] := by with_unfolding_all rfl
theorem map_frz_s (ms : List (List Nat)) : (ms.map sD).map frz = ms.map sD := by rw [List.map_map]; rfl
@[simp] theorem frzL_s (ms : List (List Nat)) : frzL (ms.map sD) = ms.map sD := by rw [frzL_map, map_frz_s]
@[simp] theorem allSh_s (ms : List (List Nat)) : allSh (ms.map sD) = true := by
  unfold allSh
  rw [List.all_map]
  exact List.all_eq_true.mpr fun _ _ => rfl
@[simp] theorem add_s {a b : List Nat} : gAdd [sD a, sD b] = if a.length + b.length ≤ 16777216 then some (sD (a ++ b)) else none := by
  show (if (⟨a.toArray⟩ : Str).length + (⟨b.toArray⟩ : Str).length ≤ 16777216 then some (D.str ((⟨a.toArray⟩ : Str) ++ (⟨b.toArray⟩ : Str))) else none) = _
  have e : ((⟨a.toArray⟩ : Str) ++ (⟨b.toArray⟩ : Str)) = ⟨(a ++ b).toArray⟩ := by
    show Str.append _ _ = _
    unfold Str.append
    simp
  rw [e]
  rfl
@[simp] theorem itS_s (m : List Nat) : gItS [sD m] = some (m.map fun c => sD [c]) := rfl
@[simp] theorem len_s (m : List Nat) : DL.gLen [sD m] = if m.length ≤ 16777216 then some (.int m.length) else none := rfl
@[simp] theorem key_s (m : List Nat) : keyD (sD m) = some (.inr ⟨m.toArray⟩) := rfl
@[simp] theorem tyD_s (m : List Nat) : tyD (sD m) = some (.inl "str") := rfl
@[simp] theorem isStr_s (m : List Nat) : isStr (sD m) = true := rfl
@[simp] theorem isStr_str (m : Str) : isStr (.str m) = true := rfl
theorem str_inj {a b : List Nat} : ((⟨a.toArray⟩ : Str) = ⟨b.toArray⟩) ↔ a = b := by
  refine ⟨fun h => ?_, fun h => by rw [h]⟩
  injection h with h
  simpa using congrArg Array.toList h
@[simp] theorem eqD_s {a b : List Nat} : eqD (sD a) (sD b) = some (decide (a = b)) := by
  show some (decide ((⟨a.toArray⟩ : Str) = ⟨b.toArray⟩)) = _
  rw [decide_eq_decide.mpr str_inj]
@[simp] theorem lt_s {a b : List Nat} : DL.gLt [sD a, sD b] = some (.bl (decide (a < b))) := by
  show some (D.bl (sLt ⟨a.toArray⟩ ⟨b.toArray⟩)) = _
  unfold sLt
  rfl
@[simp] theorem le_s {a b : List Nat} : DL.gLe [sD a, sD b] = some (.bl (!decide (b < a))) := by
  show some (D.bl (!sLt ⟨b.toArray⟩ ⟨a.toArray⟩)) = _
  unfold sLt
  rfl
@[simp] theorem in_s1 {c : Nat} {z : List Nat} : inD (sD [c]) (sD z) = some (decide (c ∈ z)) := rfl
@[simp] theorem gIn_2 {x y : D} : gIn [x, y] = (inD x y).map .bl := rfl
@[simp] theorem gNin_2 {x y : D} : gNin [x, y] = (inD x y).map fun b => .bl (!b) := rfl
/-- a text's sign -/
theorem ix_s {z : List Nat} {i : Int} (h0 : 0 ≤ i) (h1 : i < z.length) (hz : z.length ≤ 16777216) : ∃ c, c ∈ z ∧ gIx [sD z, .int i] = some (sD [c]) := by
  have hi : i.toNat < z.length := by omega
  refine ⟨z[i.toNat], List.getElem_mem hi, ?_⟩
  show (if (⟨z.toArray⟩ : Str).length ≤ 16777216 then (atI (⟨z.toArray⟩ : Str).cps.toList i).map fun c => D.str ⟨#[c]⟩ else none) = _
  rw [if_pos (show (⟨z.toArray⟩ : Str).length ≤ 16777216 from hz)]
  show (atI z i).map _ = _
  unfold atI ixN
  rw [if_pos h0, if_pos h1]
  show (z[i.toNat]?).map _ = _
  rw [List.getElem?_eq_getElem hi]
  rfl
theorem strs_s : ∀ ms : List (List Nat), strsD (ms.map sD) = some (ms.map fun m => (⟨m.toArray⟩ : Str))
  | [] => rfl
  | m :: ms => by
    show (match strsD (ms.map sD) with | some is => some (_ :: is) | none => none) = _
    rw [strs_s ms]
    rfl
/-- each sign by itself -/
def sg (l : List Nat) : List (List Nat) := l.map fun c => [c]
@[simp] theorem map_sg (m : List Nat) : (m.map fun c => sD [c]) = (sg m).map sD := by unfold sg; rw [List.map_map]; rfl
@[simp] theorem sg_len (l : List Nat) : (sg l).length = l.length := by unfold sg; simp
def abc : List Nat := List.range' 97 26
@[simp] theorem str_abc : D.str ("abcdefghijklmnopqrstuvwxyz" : Str) = sD abc := by
  unfold sD
  refine congrArg D.str ?_
  with_unfolding_all rfl
section
variable {ρ : DEnv} {i : Nat} {I : List Nat} {c : Ev Bool} {f : Ev AV} {ds acc : List D}
theorem set_len {i : Nat} {x : Option D} : (ρ.set i x).length = ρ.length := List.length_set
/-- one name, values that change nothing -/
theorem comp_map1 (hi : i ∉ I) (hl : i < ρ.length) (g : D → D) (hf : ∀ d ∈ ds, f (ρ.set i (some d)) = some (.ok (.val (g d)) (ρ.set i (some d)))) (hz : acc.length + ds.length ≤ 16777216) :
    compE [i] (tgN I i) evYes f ds acc ρ = some (acc ++ ds.map (fun d => frz (g d)), ρ.set i none) := by
  induction ds generalizing acc ρ with
  | nil => simp [comp_0]
  | cons d ds ih =>
    rw [List.length_cons] at hz
    rw [comp_1, wipeD_1, wipeD_0, r_tgN, if_neg (by simp [hi, hl]), bO_some, List.set_set, hf d (by simp), turnR_ok, cont_v, bO_some, if_pos (by omega)]
    show compE _ _ _ _ _ _ (ρ.set i (some d)) = _
    rw [ih (ρ := ρ.set i (some d)) (by rw [set_len]; exact hl) (fun d' h => by rw [List.set_set]; exact hf d' (by simp [h])) (by simp; omega), List.set_set]
    simp
@[simp] theorem r_comp2 {fi fi1 : Ev (List D)} {vs vs1 : List Nat} {t t1 : Tgt} {c1 : Ev Bool} : evComp2 fi vs t c fi1 vs1 t1 c1 f ρ = bE (fi ρ) fun ds ρ1 => cmpR ρ1 vs (loopE vs t c (comp1E fi1 vs1 t1 c1 f) ds [] (wipeD ρ1 vs)) := by
  unfold evComp2
  rw [r_then]
  rfl
def dcmR (ρ0 : DEnv) (vs : List Nat) (x : Option (List (Key × D) × DEnv)) : Option (Out AV) := match x with
  | some (acc, ρ') => some (.ok (.val (.od acc)) (restD ρ0 ρ' vs))
  | none => none
@[simp] theorem dcmR_some {ρ0 : DEnv} {vs : List Nat} {a : List (Key × D)} : dcmR ρ0 vs (some (a, ρ)) = some (.ok (.val (.od a)) (restD ρ0 ρ vs)) := rfl
@[simp] theorem r_dcomp {fi : Ev (List D)} {vs : List Nat} {t : Tgt} {fk fv : Ev AV} : evDcomp fi vs t c fk fv ρ = bE (fi ρ) fun ds ρ1 => dcmR ρ1 vs (loopE vs t c (putE fk fv) ds [] (wipeD ρ1 vs)) := by
  unfold evDcomp
  rw [r_then]
  rfl
@[simp] theorem r_dict0 : evDict0 ρ = some (.ok (.val (.od [])) ρ) := rfl
end
@[simp] theorem gDin_2 {k x : D} : gDin [k, x] = bO (dctD x) fun kvs => bO (keyD k) fun k => some (.bl (valD kvs k).isSome) := by
  unfold gDin bO
  dsimp only
  cases dctD x with
  | none => rfl
  | some a => cases keyD k <;> rfl
@[simp] theorem gDnin_2 {k x : D} : gDnin [k, x] = bO (dctD x) fun kvs => bO (keyD k) fun k => some (.bl (!(valD kvs k).isSome)) := by
  unfold gDnin bO
  dsimp only
  cases dctD x with
  | none => rfl
  | some a => cases keyD k <;> rfl
@[simp] theorem gDx_2 {k x : D} : gDx [x, k] = bO (dctD x) fun kvs => bO (keyD k) fun k => bO (valD kvs k) fun d => if d.sh = true then some d else none := by
  unfold gDx bO
  dsimp only
  cases dctD x with
  | none => rfl
  | some a => cases keyD k with
    | none => rfl
    | some b => dsimp only; cases valD a b <;> rfl
@[simp] theorem dctD_o {kvs : List (Key × D)} : dctD (.od kvs) = some kvs := rfl
@[simp] theorem dctD_d {kvs : List (Key × D)} : dctD (.dct kvs) = some kvs := rfl
@[simp] theorem gmD_2 {kvs : List (Key × D)} {k x : D} : gmDset (.od kvs) [k, x] = bO (keyD k) fun k => if kvs.length < 16777216 then some (.od (putD kvs k x), .non) else none := by
  unfold gmDset bO
  dsimp only
  cases keyD k <;> rfl
@[simp] theorem gmRev_2 {ds : List D} : gmReverse (.ol ds) [] = some (.ol ds.reverse, .non) := rfl
@[simp] theorem gmClr_2 {ds : List D} : gmClear (.ol ds) [] = some (.ol [], .non) := rfl
@[simp] theorem listS_s {m : List Nat} : gListS [sD m] = if m.length ≤ 16777216 then some (.ol (m.map fun c => sD [c])) else none := rfl
@[simp] theorem listS_f {ds : List D} : gListS [.frl ds] = if allSh ds = true then some (.ol ds) else none := rfl
@[simp] theorem listS_l {ds : List D} : gListS [.lst ds] = if allSh ds = true then some (.ol ds) else none := rfl
@[simp] theorem listS_o {ds : List D} : gListS [.ol ds] = if allSh ds = true then some (.ol ds) else none := rfl
@[simp] theorem sortS_o {ms : List (List Nat)} : gSortS [.ol (ms.map sD)] = if ms.length < 64 then some (.ol ((sortS (ms.map fun m => (⟨m.toArray⟩ : Str))).map .str)) else none := by
  show (match lstA (.ol (ms.map sD)) with | some ds => (match strsD ds with | some ys => if ys.length < 64 then some (D.ol ((sortS ys).map .str)) else none | none => none) | none => none) = _
  dsimp only [lstA]
  rw [strs_s]
  dsimp only
  rw [List.length_map]
end DL
namespace DL
open PySem PySem.Spec PyProof.Rows L2
def mapS (g : DEnv → DEnv) : SOut → SOut
  | .nx ρ => .nx (g ρ)
  | .ret d ρ => .ret d (g ρ)
  | .brk ρ => .brk (g ρ)
  | .cnt ρ => .cnt (g ρ)
  | .exc e ρ => .exc e (g ρ)
theorem Prot.sub {I J : List Nat} {σ σ' : L2.St} (p : Prot I σ σ') (h : ∀ i ∈ J, i ∈ I) : Prot J σ σ' := ⟨p.len, fun i hi => p.at_ i (h i hi)⟩
/-- a comprehension along the own list at slot j, which stays own -/
def evCompL (j : Nat) (vs : List Nat) (t : Tgt) (c : Ev Bool) (f : Ev AV) : Ev AV := fun ρ => match slotOf ρ j with
  | some (.ol ds) => if allSh ds = true ∧ j ∉ vs then match compE vs t c f ds [] (wipeD (ρ.set j none) vs) with
    | some (acc, ρ') => some (.ok (.val (.ol acc)) ((restD (ρ.set j none) ρ' vs).set j (some (.ol ds))))
    | none => none
    else none
  | _ => none
def sForL (j : Nat) (t : Tgt) (body : Sv) : Sv := fun ρ => match slotOf ρ j with
  | some (.ol ds) => if allSh ds = true then (forE t body ds (ρ.set j none)).map (mapS fun ρ => ρ.set j (some (.ol ds))) else none
  | _ => none
section
variable {ρ : DEnv} {j : Nat} {t : Tgt} {s : Sv} {vs : List Nat} {c : Ev Bool} {f : Ev AV}
def mpS (j : Nat) (d : D) (x : Option SOut) : Option SOut := x.map (mapS fun ρ => ρ.set j (some d))
@[simp] theorem mpS_nx {d : D} : mpS j d (some (.nx ρ)) = some (.nx (ρ.set j (some d))) := rfl
@[simp] theorem mpS_ret {d e : D} : mpS j d (some (.ret e ρ)) = some (.ret e (ρ.set j (some d))) := rfl
@[simp] theorem mpS_exc {d e : D} : mpS j d (some (.exc e ρ)) = some (.exc e (ρ.set j (some d))) := rfl
def lstK {α : Type} (d : D) (k : List D → Option α) : Option α := match d with
  | .ol ds => if allSh ds = true then k ds else none
  | _ => none
@[simp] theorem lstK_o {α : Type} {ds : List D} {k : List D → Option α} : lstK (.ol ds) k = if allSh ds = true then k ds else none := rfl
@[simp] theorem r_forL : sForL j t s ρ = bO (slotOf ρ j) fun d => lstK d fun ds => mpS j d (forE t s ds (ρ.set j none)) := by
  unfold sForL bO
  cases slotOf ρ j with
  | none => rfl
  | some d => cases d <;> rfl
def cmL (j : Nat) (d : D) (ρ0 : DEnv) (vs : List Nat) (x : Option (List D × DEnv)) : Option (Out AV) := match x with
  | some (acc, ρ') => some (.ok (.val (.ol acc)) ((restD ρ0 ρ' vs).set j (some d)))
  | none => none
@[simp] theorem cmL_some {d : D} {ρ0 : DEnv} {acc : List D} : cmL j d ρ0 vs (some (acc, ρ)) = some (.ok (.val (.ol acc)) ((restD ρ0 ρ vs).set j (some d))) := rfl
@[simp] theorem r_compL : evCompL j vs t c f ρ = bO (slotOf ρ j) fun d => lstK d fun ds => if j ∉ vs then cmL j d (ρ.set j none) vs (compE vs t c f ds [] (wipeD (ρ.set j none) vs)) else none := by
  unfold evCompL bO
  cases slotOf ρ j with
  | none => rfl
  | some d =>
    cases d with
    | ol ds =>
      dsimp only [lstK]
      by_cases h1 : allSh ds = true
      · by_cases h2 : j ∉ vs
        · rw [if_pos ⟨h1, h2⟩, if_pos h1, if_pos h2]; rfl
        · rw [if_neg (fun z => h2 z.2), if_pos h1, if_neg h2]
      · rw [if_neg (fun z => h1 z.1), if_neg h1]
    | _ => rfl
end
end DL
namespace DL
open PySem PySem.Spec PyProof.Rows L2
def kwK (ms : List Bool) (n : Nat) (is : List Nat) (m : Mir) (avs : List AV) : Ev AV := fun ρ => if avs.length = n ∧ is.Nodup then match permD avs is with
  | some us => callK ms m us ρ
  | none => none
  else none
def evKwL (ms : List Bool) (n : Nat) (is : List Nat) (m : Mir) (fs : Ev (List AV)) : Ev AV := fs.andThen (kwK ms n is m)
@[simp] theorem r_kwL {ms : List Bool} {n : Nat} {is : List Nat} {m : Mir} {fs : Ev (List AV)} {ρ : DEnv} : evKwL ms n is m fs ρ = bE (fs ρ) (kwK ms n is m) := by unfold evKwL; rw [r_then]
@[simp] theorem r_kwK {ms : List Bool} {n : Nat} {is : List Nat} {m : Mir} {avs : List AV} {ρ : DEnv} : kwK ms n is m avs ρ = if avs.length = n ∧ is.Nodup then bO (permD avs is) fun us => callK ms m us ρ else none := by
  unfold kwK bO
  split
  · cases permD avs is <;> rfl
  · rfl
end DL
namespace DL
open PySem PySem.Spec PyProof.Rows L2
def lcmI (a b : Int) : Int := ((Nat.lcm a.natAbs b.natAbs : Nat) : Int)
end DL
namespace DL
open PySem PySem.Spec PyProof.Rows L2
end DL
namespace DL
open PySem PySem.Spec PyProof.Rows L2
def gIsO (k : Nat) : List D → Option D
  | [.ins c _, .cls j] => if c = k ∧ j = k then some (.bl true) else none
  | [.oi c _, .cls j] => if c = k ∧ j = k then some (.bl true) else none
  | _ => none
@[simp] theorem isO_i {k c j : Nat} {fs : List (Str × D)} : gIsO k [.ins c fs, .cls j] = if c = k ∧ j = k then some (.bl true) else none := rfl
@[simp] theorem isO_o {k c j : Nat} {fs : List (Str × D)} : gIsO k [.oi c fs, .cls j] = if c = k ∧ j = k then some (.bl true) else none := rfl
end DL
namespace DL
open PySem PySem.Spec PyProof.Rows L2
def gmInsAt : D → List D → Option (D × D)
  | .ol ds, [.int i, x] => if ds.length < 16777216 ∧ 0 ≤ i ∧ i ≤ ds.length then some (.ol (ds.take i.toNat ++ [x] ++ ds.drop i.toNat), .non) else none
  | _, _ => none
@[simp] theorem gmInsAt_ol {ds : List D} {i : Int} {x : D} : gmInsAt (.ol ds) [.int i, x] = if ds.length < 16777216 ∧ 0 ≤ i ∧ i ≤ ds.length then some (.ol (ds.take i.toNat ++ [x] ++ ds.drop i.toNat), .non) else none := rfl
end DL
namespace DL
open PySem PySem.Spec PyProof.Rows L2
end DL
namespace DL
open PySem PySem.Spec PyProof.Rows L2
def dixK : List AV → Ev AV
  | [a, b] => fun ρ => match cont ρ a, cont ρ b with
    | some x, some y => match gDx [x, y] with
      | some d => some (.ok (.val d) ρ)
      | none => match a, x, keyD y with
        | .pl i p, .od kvs, some k => match kIdx k kvs with
          | some _ => some (.ok (.pl i (p ++ [.ky k])) ρ)
          | none => none
        | _, _, _ => none
    | _, _ => none
  | _ => fun _ => none
def evDix (fa fb : Ev AV) : Ev AV := (evCons fa (evCons fb evNil)).andThen dixK
def gGet2 : List D → Option D
  | [x, k, z] => match dctD x, keyD k with
    | some kvs, some k => match valD kvs k with
      | some d => if d.sh = true then some d else none
      | none => if z.sh = true then some z else none
    | _, _ => none
  | _ => none
def gGet1 : List D → Option D
  | [x, k] => match dctD x, keyD k with
    | some kvs, some k => match valD kvs k with
      | some d => if d.sh = true then some d else none
      | none => some .non
    | _, _ => none
  | _ => none
end DL
namespace DL
open PySem PySem.Spec PyProof.Rows L2
/-- P, or P behind an unlocking -/
def UnL (X : Cx) (P : Hp → Prop) (H : Hp) : Prop := P H ∨ ∃ d od u, H d = some (.frz od u) ∧ (∀ o' u', X.H_0 d ≠ some (.frz o' u')) ∧ P (upd H d u)
theorem UnL.at {X : Cx} {P : Hp → Prop} {H : Hp} {pins : List (Addr × Obj)} {σ : L2.St} {s : Shared} (I : Inv X pins σ H s) (h : UnL X P H) : ∃ H', Inv X pins σ H' s ∧ P H' := by
  rcases h with h | ⟨d, od, u, e, hn, q⟩
  · exact ⟨H, I, h⟩
  · exact ⟨_, I.unlock e hn, q⟩
section
variable {B : Bd} {G H G' H' : Hp} {a : Addr} {kvs : List (Key × V)} {v : V} {d : D} {T : FP}
/-- a frozen dict locked or unlocked: all stands for what it stood for -/
structure Swp (G H G' H' : Hp) (a : Addr) (kvs : List (Key × V)) : Prop where
  r : Rd G a (.dK kvs)
  r' : Rd G' a (.dK kvs)
  k : ∀ b, b ≠ a → G' b = G b ∧ H' b = H b
  e : H a = G a
theorem Swp.no (x : Swp G H G' H' a kvs) {b : Addr} {u : HO} (h : G b = some u) (n1 : ∀ kvs, u ≠ .dK kvs) (n2 : ∀ o kvs, u ≠ .frz o (.dK kvs)) : G' b = some u := by
  have hb : b ≠ a := fun z => by
    subst z
    rcases x.r with r | ⟨o, r⟩
    · rw [r] at h; cases h; exact n1 _ rfl
    · rw [r] at h; cases h; exact n2 _ _ rfl
  rw [(x.k b hb).1]; exact h
end
def kD : Key → D
  | .inl i => .int i
  | .inr s => .str s
inductive DKd where | keys | vals | items
def dIts : DKd → List (Key × D) → List D
  | .keys, ds => ds.map fun p => kD p.1
  | .vals, ds => ds.map fun p => p.2
  | .items, ds => ds.map fun p => .tup [kD p.1, p.2]
def noExc : Option SOut → Option SOut
  | some (.exc _ _) => none
  | o => o
def sForD (kd : DKd) (fe : Ev AV) (t : Tgt) (body : Sv) : Sv := evS (evFz (evCons fe evNil)) fun ds ρ => match ds with
  | [.dct kvs] => noExc (forE t body (dIts kd kvs) ρ)
  | _ => none
end DL
namespace DL
open PySem PySem.Spec PyProof.Rows L2
def holB (i j : Nat) (d0 : D) (p : List PSt) (ρ : DEnv) : Option DEnv := (slotOf ρ j).bind fun d => (putP d0 p d).map fun e => (ρ.set j none).set i (some e)
def holO (i j : Nat) (d0 : D) (p : List PSt) : SOut → Option SOut
  | .nx ρ => (holB i j d0 p ρ).map .nx
  | .ret e ρ => (holB i j d0 p ρ).map (.ret e)
  | .brk ρ => (holB i j d0 p ρ).map .brk
  | .cnt ρ => (holB i j d0 p ρ).map .cnt
  | .exc e ρ => (holB i j d0 p ρ).map (.exc e)
def holK (i j : Nat) (body : Sv) (a : AV) : Sv := fun ρ => match a with
  | .pl i' p => if i' = i ∧ i ≠ j ∧ j < ρ.length then match slotOf ρ i with
    | some d0 => match getP d0 p with
      | some d => match body ((ρ.set i none).set j (some d)) with
        | some o => holO i j d0 p o
        | none => none
      | none => none
    | none => none
    else none
  | _ => none
def sHol (i j : Nat) (fe : Ev AV) (body : Sv) : Sv := evS fe (holK i j body)
end DL
namespace DL
open PySem PySem.Spec PyProof.Rows L2
def isIntD : D → Bool
  | .int _ => true
  | _ => false
theorem int_rep {B : Bd} : ∀ G H v d U, (∀ b o, G b = some o → H b = some o) → Rep B G H v d U → isIntD d = true → ∃ i, v = .int i := fun G H v d U s r h => by
  cases r with
  | int i => exact ⟨i, rfl⟩
  | _ => cases h
section
variable {ca : Nat → Addr} {X : Cx} {a b c : Expr} {fa fb fc : Ev AV} {pos p2 : Pos}
theorem de_sl11 (ha : DE ca X a fa) (hb : DE ca X b fb) (hc : DE ca X c fc) : DE ca X (.Subscript a (.Slice (some b) (some c) none p2) pos) (evOp (gSl true true) (evCons fa (evCons (evChk isIntD fb) (evCons fc evNil)))) := fun W tk =>
  PE.imp (pe_slice sl_cut (ha W tk) (po_some (hb W tk)) (po_some (hc W tk))) fun σ H Q h => tD_map (tDL_cons (tD_op h)) fun x H1 h1 => tD_map (tD_chk int_rep (tDL_cons h1)) fun y H2 ⟨⟨i, hy⟩, h2⟩ => ⟨i, hy, tD_map (tDL_cons h2) fun z H3 q => by
    subst hy
    obtain ⟨G, ds, d, sub, rs, e, q9⟩ := tDL_nil q
    cases rs with
    | cons r1 t => cases t with
      | cons r2 t => cases t with
        | cons r3 t =>
          cases t
          obtain ⟨T1, r1⟩ := r1
          obtain ⟨T2, r2⟩ := r2
          obtain ⟨T3, r3⟩ := r3
          cases r2
          cases r3 with
          | int j => exact ⟨j, rfl, cut_end sub r1 e q9⟩
          | _ => simp [gSl, optI] at e⟩
end
def gSlN : List D → Option D
  | [x, .int i, .int k] => match lstA x with
    | some ds => if k ≠ 0 ∧ allSh ds = true then some (.ol (pickL ds (some i) none (some k))) else none
    | none => none
  | _ => none
def augD (op : Operator) (x y : D) : Option D := match op, x, y with
  | .Add, .int i, .int j => some (.int (i + j))
  | .Sub, .int i, .int j => some (.int (i - j))
  | .Mult, .int i, .int j => if lg i + lg j < 1000000 then some (.int (i * j)) else none
  | .Add, .str a, .str b => if a.length + b.length ≤ 16777216 then some (.str (a ++ b)) else none
  | _, _, _ => none
def sAugN (I : List Nat) (i : Nat) (op : Operator) (fe : Ev AV) : Sv := fun ρ => match slotOf ρ i with
  | some x => evS fe (fun av ρ1 => match cont ρ1 av with
    | some y => if i ∉ I then (augD op x y).map fun d => .nx (ρ1.set i (some d)) else none
    | none => none) ρ
  | none => none
end DL
namespace DL
open PySem PySem.Spec PyProof.Rows L2
def maxL : List Int → Int
  | [] => 0
  | [n] => n
  | n :: m :: r => max n (maxL (m :: r))
def minL : List Int → Int
  | [] => 0
  | [n] => n
  | n :: m :: r => min n (minL (m :: r))
def gMaxL : List D → Option D
  | [x] => match lstA x with
    | some ds => match intsD ds with
      | some is => if is ≠ [] then some (.int (maxL is)) else none
      | none => none
    | none => none
  | _ => none
def gMinL : List D → Option D
  | [x] => match lstA x with
    | some ds => match intsD ds with
      | some is => if is ≠ [] then some (.int (minL is)) else none
      | none => none
    | none => none
  | _ => none
def fstAt (n : Int) : List Int → Option Nat
  | [] => none
  | m :: r => if m = n then some 0 else (fstAt n r).map (· + 1)
def gIdxI : List D → Option D
  | [x, .int n] => match lstA x with
    | some ds => match intsD ds with
      | some is => (fstAt n is).map fun j => .int (j : Nat)
      | none => none
    | none => none
  | _ => none
def gDict1 : List D → Option D
  | [k, d] => (keyD k).map fun k => .od [(k, d)]
  | _ => none
def evDict1 (fk fv : Ev AV) : Ev AV := evOpF gDict1 (evFz (evCons fk (evCons fv evNil)))
section
variable {ρ : DEnv} {i j n : Nat} {p : List PSt} {d x y z : D} {a b : AV} {f fa fb : Ev AV} {kvs : List (Key × D)} {k : Key} {s : Sv} {t : Tgt} {I : List Nat} {op : Operator}
@[simp] theorem getP_f {c : Nat} {fs : List (Str × D)} {g : Str} : getP (.oi c fs) (.fl g :: p) = bO (kIdx g fs) fun n => bO fs[n]? fun q => getP q.2 p := by
  conv => lhs; unfold getP
  unfold bO
  cases kIdx g fs with
  | none => rfl
  | some n => dsimp only; cases fs[n]? <;> rfl
@[simp] theorem putP_f {c : Nat} {fs : List (Str × D)} {g : Str} {e : D} : putP (.oi c fs) (.fl g :: p) e = bO (kIdx g fs) fun n => bO fs[n]? fun q => (putP q.2 p e).map fun u => .oi c (fs.set n (g, u)) := by
  conv => lhs; unfold putP
  unfold bO
  cases kIdx g fs with
  | none => rfl
  | some n => dsimp only; cases fs[n]? <;> rfl
@[simp] theorem getP_k : getP (.od kvs) (.ky k :: p) = bO (kIdx k kvs) fun n => bO kvs[n]? fun q => getP q.2 p := by
  conv => lhs; unfold getP
  unfold bO
  cases kIdx k kvs with
  | none => rfl
  | some n => dsimp only; cases kvs[n]? <;> rfl
@[simp] theorem putP_k {e : D} : putP (.od kvs) (.ky k :: p) e = bO (kIdx k kvs) fun n => bO kvs[n]? fun q => (putP q.2 p e).map fun u => .od (kvs.set n (k, u)) := by
  conv => lhs; unfold putP
  unfold bO
  cases kIdx k kvs with
  | none => rfl
  | some n => dsimp only; cases kvs[n]? <;> rfl
def dixR (a : AV) (x y : D) (ρ : DEnv) : Option (Out AV) := match gDx [x, y] with
  | some d => some (.ok (.val d) ρ)
  | none => match a, x, keyD y with
    | .pl i p, .od kvs, some k => match kIdx k kvs with
      | some _ => some (.ok (.pl i (p ++ [.ky k])) ρ)
      | none => none
    | _, _, _ => none
@[simp] theorem r_dixK : dixK [a, b] ρ = bO (cont ρ a) fun x => bO (cont ρ b) fun y => dixR a x y ρ := by
  unfold dixK bO
  dsimp only
  cases cont ρ a with
  | none => rfl
  | some x => cases cont ρ b <;> rfl
@[simp] theorem r_dix : evDix fa fb ρ = bE (evCons fa (evCons fb evNil) ρ) dixK := by unfold evDix; rw [r_then]
@[simp] theorem gGet1_2 : gGet1 [x, y] = bO (dctD x) fun kvs => bO (keyD y) fun k => match valD kvs k with
      | some d => if d.sh = true then some d else none
      | none => some .non := by
  unfold gGet1 bO
  dsimp only
  cases dctD x with
  | none => rfl
  | some a => cases keyD y <;> rfl
@[simp] theorem gGet2_3 : gGet2 [x, y, z] = bO (dctD x) fun kvs => bO (keyD y) fun k => match valD kvs k with
      | some d => if d.sh = true then some d else none
      | none => if z.sh = true then some z else none := by
  unfold gGet2 bO
  dsimp only
  cases dctD x with
  | none => rfl
  | some a => cases keyD y <;> rfl
@[simp] theorem isIntD_i {m : Int} : isIntD (.int m) = true := rfl
@[simp] theorem r_hol : sHol i j f s ρ = bS (f ρ) (holK i j s) := r_S
@[simp] theorem r_holK : holK i j s (.pl i p) ρ = if i ≠ j ∧ j < ρ.length then bO (slotOf ρ i) fun d0 => bO (getP d0 p) fun d => bO (s ((ρ.set i none).set j (some d))) (holO i j d0 p) else none := by
  unfold holK bO
  dsimp only
  by_cases h : i ≠ j ∧ j < ρ.length
  · rw [if_pos ⟨rfl, h⟩, if_pos h]
    cases slotOf ρ i with
    | none => rfl
    | some d0 =>
      dsimp only
      cases getP d0 p with
      | none => rfl
      | some d => dsimp only; cases s ((ρ.set i none).set j (some d)) <;> rfl
  · rw [if_neg fun z => h z.2, if_neg h]
@[simp] theorem r_holB {d0 : D} : holB i j d0 p ρ = bO (slotOf ρ j) fun d => (putP d0 p d).map fun e => (ρ.set j none).set i (some e) := by
  unfold holB bO
  cases slotOf ρ j <;> rfl
@[simp] theorem holO_nx {d0 : D} : holO i j d0 p (.nx ρ) = (holB i j d0 p ρ).map .nx := rfl
@[simp] theorem holO_ret {d0 e : D} : holO i j d0 p (.ret e ρ) = (holB i j d0 p ρ).map (.ret e) := rfl
@[simp] theorem holO_brk {d0 : D} : holO i j d0 p (.brk ρ) = (holB i j d0 p ρ).map .brk := rfl
@[simp] theorem holO_cnt {d0 : D} : holO i j d0 p (.cnt ρ) = (holB i j d0 p ρ).map .cnt := rfl
@[simp] theorem holO_exc {d0 e : D} : holO i j d0 p (.exc e ρ) = (holB i j d0 p ρ).map (.exc e) := rfl
def frdR (kd : DKd) (t : Tgt) (s : Sv) (ds : List D) (ρ : DEnv) : Option SOut := match ds with
  | [.dct kvs] => noExc (forE t s (dIts kd kvs) ρ)
  | _ => none
@[simp] theorem r_forD {kd : DKd} : sForD kd f t s ρ = bS (evFz (evCons f evNil) ρ) (frdR kd t s) := r_S
@[simp] theorem frdR_1 {kd : DKd} : frdR kd t s [.dct kvs] ρ = noExc (forE t s (dIts kd kvs) ρ) := rfl
@[simp] theorem noExc_nx : noExc (some (.nx ρ)) = some (.nx ρ) := rfl
@[simp] theorem noExc_ret {e : D} : noExc (some (.ret e ρ)) = some (.ret e ρ) := rfl
@[simp] theorem noExc_brk : noExc (some (.brk ρ)) = some (.brk ρ) := rfl
@[simp] theorem noExc_cnt : noExc (some (.cnt ρ)) = some (.cnt ρ) := rfl
@[simp] theorem dIts_k : dIts .keys kvs = kvs.map fun p => kD p.1 := rfl
@[simp] theorem dIts_v : dIts .vals kvs = kvs.map fun p => p.2 := rfl
@[simp] theorem dIts_i : dIts .items kvs = kvs.map fun p => .tup [kD p.1, p.2] := rfl
@[simp] theorem kD_i {m : Int} : kD (.inl m) = .int m := rfl
@[simp] theorem kD_s {m : Str} : kD (.inr m) = .str m := rfl
@[simp] theorem r_augN : sAugN I i op f ρ = bO (slotOf ρ i) fun x => bS (f ρ) fun av ρ1 => bO (cont ρ1 av) fun y => if i ∉ I then (augD op x y).map fun d => .nx (ρ1.set i (some d)) else none := by
  unfold sAugN bO
  cases slotOf ρ i with
  | none => rfl
  | some x =>
    dsimp only
    rw [r_S]
    congr 1
    funext av ρ1
    cases cont ρ1 av <;> rfl
@[simp] theorem augD_ai {m q : Int} : augD .Add (.int m) (.int q) = some (.int (m + q)) := rfl
@[simp] theorem augD_si {m q : Int} : augD .Sub (.int m) (.int q) = some (.int (m - q)) := rfl
@[simp] theorem augD_mi {m q : Int} : augD .Mult (.int m) (.int q) = if lg m + lg q < 1000000 then some (.int (m * q)) else none := rfl
@[simp] theorem r_dict1 : evDict1 fa fb ρ = bE (evFz (evCons fa (evCons fb evNil)) ρ) fun ds ρ1 => bO (gDict1 ds) fun d => some (.ok (.val d) ρ1) := r_opF
@[simp] theorem gDict1_2 : gDict1 [x, y] = (keyD x).map fun k => .od [(k, y)] := rfl
@[simp] theorem gSlN_3 {m q : Int} : gSlN [x, .int m, .int q] = bO (lstA x) fun ds => if q ≠ 0 ∧ allSh ds = true then some (.ol (pickL ds (some m) none (some q))) else none := by
  unfold gSlN bO
  dsimp only
  cases lstA x <;> rfl
theorem intsD_map {ns : List Int} : DL.intsD (ns.map D.int) = some ns := by
  induction ns with
  | nil => rfl
  | cons n r ih =>
    show (match intsD (r.map D.int) with | some is => some (n :: is) | none => none) = _
    rw [ih]
@[simp] theorem gMaxL_o {ns : List Int} : DL.gMaxL [.ol (ns.map D.int)] = if ns ≠ [] then some (D.int (maxL ns)) else none := by
  show (match DL.intsD (ns.map D.int) with | some is => if is ≠ [] then some (D.int (maxL is)) else none | none => none) = _
  rw [intsD_map]
@[simp] theorem gMaxL_l {ns : List Int} : DL.gMaxL [.lst (ns.map D.int)] = if ns ≠ [] then some (D.int (maxL ns)) else none := by
  show (match DL.intsD (ns.map D.int) with | some is => if is ≠ [] then some (D.int (maxL is)) else none | none => none) = _
  rw [intsD_map]
@[simp] theorem gMinL_o {ns : List Int} : DL.gMinL [.ol (ns.map D.int)] = if ns ≠ [] then some (D.int (minL ns)) else none := by
  show (match DL.intsD (ns.map D.int) with | some is => if is ≠ [] then some (D.int (minL is)) else none | none => none) = _
  rw [intsD_map]
@[simp] theorem gIdxI_o {ns : List Int} {m : Int} : DL.gIdxI [D.ol (ns.map D.int), D.int m] = (fstAt m ns).map fun j => D.int (j : Nat) := by
  show (match DL.intsD (ns.map D.int) with | some is => (fstAt m is).map fun j => D.int (j : Nat) | none => none) = _
  rw [intsD_map]
end
end DL
namespace DL
open PySem PySem.Spec PyProof.Rows L2
structure Big (X : Cx) : Prop where
  seer : X.base.NoSeer
  tree : X.prog.given.tree = none
  dp : X.A.depth + Builtin.pylongFrames < recursionLimit
  top : ∃ env l, X.stack = env :: l ∧ env.scope.isGenerator = false ∧ env.scope.isCoroutine = false ∧ env.builtins = builtinsNs ∧ env.globals = mainGlobals
theorem Big.of {X : Cx} {k : Nat} (hr : Room k X.A) (hk : 32 ≤ k) (hs : X.base.NoSeer) (ht : X.prog.given.tree = none) {env : Env} {l : List Env} (h : X.stack = env :: l) (g1 : env.scope.isGenerator = false) (g2 : env.scope.isCoroutine = false) (g3 : env.builtins = builtinsNs) (g4 : env.globals = mainGlobals) : Big X :=
  ⟨hs, ht, by have := hr.dp; show X.A.depth + 100 < _; omega, env, l, h, g1, g2, g3, g4⟩
theorem op_fdivX {X : Cx} (b : Big X) : OpR X (binaryOp .FloorDiv) (rI (fun _ j => j ≠ 0) fun i j => .int (i.fdiv j)) := by
  intro pins s σ H x y v u Q I r1 r2 h
  obtain ⟨i, j, rfl, rfl, hc, q⟩ := h
  obtain ⟨t, rfl⟩ := r1
  obtain ⟨t', rfl⟩ := r2
  obtain ⟨env, l, hst, g1, g2, g3, g4⟩ := b.top
  exact floordiv_int hc ⟨.int _, H, I.tok _, ⟨_, rfl⟩, q⟩ (.inr (PylongRoom.of I.nolimit b.dp (SeerAt.of (b.seer.keeps I.bk) b.tree (I.ok.frames.trans (congrArg some hst)) g1 g2 g3 g4)))
def gDivX : List D → Option D
  | [.int i, .int j] => if j ≠ 0 then some (.int (i.fdiv j)) else none
  | _ => none
theorem opD_divX {ca : Nat → Addr} {X : Cx} (b : Big X) : Op2 ca X (binaryOp .FloorDiv) gDivX := by
  intro pins s σ H x y v u Q I rx ry h
  obtain ⟨G, ds, d, sub, rs, e, q⟩ := h
  obtain ⟨d1, T1, d2, T2, rfl, r1, r2⟩ := rs.two
  unfold gDivX at e
  split at e
  · rename_i i j heq
    cases heq; cases r1; cases r2
    split at e
    · rename_i hc
      cases e
      exact op_fdivX b pins s σ H _ _ v u Q I rx ry ⟨i, j, rfl, rfl, hc, rDL_end q sub (.int _)⟩
    · cases e
  · cases e
@[simp] theorem divX_i {i j : Int} : gDivX [.int i, .int j] = if j ≠ 0 then some (.int (i.fdiv j)) else none := rfl
end DL
namespace DL
open PySem PySem.Spec PyProof.Rows L2
theorem fnOk_wide {P : Program} {w : World} {K K' : PySem.W.Frag} {mg : Str → Option Value} {base : Heap} {CX : CXT} {k : Nat} {f : Addr} {fd : FuncData} {ps : List Str} {sp : Sp} (hk : ∀ h : Heap, K'.In h → K.In h) (F : FnOk P w K mg base CX k f fd ps sp) :
    FnOk P w K' mg base CX k f fd ps sp :=
  ⟨F.len, fun A outer s H args us vs Q E hr he hb hv hs => F.run A outer s H args us vs Q E hr ⟨he.frames, ⟨hk _ he.mod.kin, he.mod.glob, he.mod.blt, he.mod.nolimit⟩, he.bs, he.bsz, he.funs, he.frf, he.hok, he.bare⟩ hb hv hs⟩
/-- what seer speaks of, as records -/
structure Sees (h : Heap) (X : PySem.W.Frag) : Prop where
  at_ : ∀ p ∈ X, h.get? p.1 = some p.2
  no : ∀ p ∈ X, ∀ vs n, p.2.cls = .type "list" → p.2.data = .seq vs n → False
  by_ : ∀ base : Heap, (∀ p ∈ X, base.get? p.1 = some p.2) → base.NoSeer
theorem sees_of {h : Heap} (n : h.NoSeer) : ∃ X, Sees h X := by
  obtain ⟨⟨mc, ⟨oc, ec, pc, c1, c2, c3⟩, c4⟩, ⟨mm, ⟨om, em, pm, m1, m2, m3⟩, m4⟩, ⟨mb, ⟨ob, eb, pb, b1, b2, b3⟩, b4⟩, ⟨mg, bm, o, ⟨og, eg, pg, g1, g2, g3⟩, k1, k2, k3, k4⟩⟩ := n
  refine ⟨[(cStatics, oc), (sysModules, om), (builtinsNs, ob), (mainGlobals, og), (bm, o)], fun p hp => ?_, fun p hp vs n hc hd => ?_, fun base hb => ?_⟩
  · simp only [List.mem_cons, List.not_mem_nil, or_false] at hp
    rcases hp with rfl | rfl | rfl | rfl | rfl <;> assumption
  · simp only [List.mem_cons, List.not_mem_nil, or_false] at hp
    rcases hp with rfl | rfl | rfl | rfl | rfl
    · rw [c2] at hd; cases hd
    · rw [m2] at hd; cases hd
    · rw [b2] at hd; cases hd
    · rw [g2] at hd; cases hd
    · rw [k3] at hc
      exact absurd hc (by decide)
  · have q1 := hb _ (.head _)
    have q2 := hb _ (.tail _ (.head _))
    have q3 := hb _ (.tail _ (.tail _ (.head _)))
    have q4 := hb _ (.tail _ (.tail _ (.tail _ (.head _))))
    have q5 := hb _ (.tail _ (.tail _ (.tail _ (.tail _ (.head _)))))
    exact ⟨⟨mc, ⟨oc, ec, pc, q1, c2, c3⟩, c4⟩, ⟨mm, ⟨om, em, pm, q2, m2, m3⟩, m4⟩, ⟨mb, ⟨ob, eb, pb, q3, b2, b3⟩, b4⟩, ⟨mg, bm, o, ⟨og, eg, pg, q4, g2, g3⟩, k1, q5, k3, k4⟩⟩
theorem look_app {X Y : PySem.W.Frag} {a : Addr} : (X ++ Y).lookup a = match X.lookup a with
    | some o => some o
    | none => Y.lookup a := by
  induction X with
  | nil => rfl
  | cons p r ih =>
    obtain ⟨b, o⟩ := p
    rw [List.cons_append, List.lookup_cons, List.lookup_cons]
    cases a == b with
    | true => rfl
    | false => exact ih
theorem look_mem {Y : PySem.W.Frag} {a : Addr} {o : Obj} (e : Y.lookup a = some o) : (a, o) ∈ Y := by
  induction Y with
  | nil => cases e
  | cons p r ih =>
    obtain ⟨b, u⟩ := p
    rw [List.lookup_cons] at e
    cases hb : a == b with
    | true => rw [hb] at e; cases e; rw [eq_of_beq hb]; exact .head _
    | false => rw [hb] at e; exact .tail _ (ih e)
theorem look_some {Y : PySem.W.Frag} {a : Addr} {o : Obj} (e : (a, o) ∈ Y) : ∃ u, Y.lookup a = some u := by
  induction Y with
  | nil => cases e
  | cons p r ih =>
    obtain ⟨b, u⟩ := p
    rw [List.lookup_cons]
    cases hb : a == b with
    | true => exact ⟨u, rfl⟩
    | false =>
      rcases List.mem_cons.mp e with e | e
      · cases e
        exact absurd hb (by simp)
      · exact ih e
section
variable {h : Heap} {K X : PySem.W.Frag}
theorem wide_in (s : Sees h X) (k : K.In h) : PySem.W.Frag.In (K ++ X) h := fun a o e => by
  rw [look_app] at e
  cases hk : K.lookup a with
  | some u => rw [hk] at e; cases e; exact k a _ hk
  | none => rw [hk] at e; exact s.at_ _ (look_mem e)
theorem wide_of {b : Heap} (kb : PySem.W.Frag.In (K ++ X) b) : K.In b := fun a o e => kb a o (by rw [look_app, e])
theorem wide_seer {b : Heap} (s : Sees h X) (k : K.In h) (kb : PySem.W.Frag.In (K ++ X) b) : b.NoSeer := s.by_ b fun p hp => by
  obtain ⟨u, hu⟩ := look_some (Y := K ++ X) (a := p.1) (o := p.2) (List.mem_append_right _ hp)
  have e1 := wide_in s k _ _ hu
  rw [s.at_ p hp] at e1
  cases e1
  exact kb _ _ hu
theorem wide_sq {H : Hp} {a : Addr} {vs : List V} (s : Sees h X) (q : SqL (K ++ X) H a vs) : SqL K H a vs := by
  rcases q with q | ⟨o, its, n, e1, e2, e0, e3, r⟩
  · exact .inl q
  · refine .inr ⟨o, its, n, ?_, e2, e0, e3, r⟩
    rw [look_app] at e1
    cases hk : K.lookup a with
    | some u => rw [hk] at e1; exact e1
    | none =>
      rw [hk] at e1
      exact (s.no _ (look_mem e1) _ _ e2 e3).elim
end
end DL
namespace DL
open PySem PySem.Spec PyProof.Rows L2
theorem mulX_of {i j : Int} (h : lg i + lg j < 100000000) : CMulX i j := by
  have a1 : i.natAbs < 2 ^ (lg i + 1) := Nat.lt_log2_self
  have a2 : j.natAbs < 2 ^ (lg j + 1) := Nat.lt_log2_self
  exact mulx_ok a1 a2 (by omega)
def gMulX : List D → Option D
  | [.int i, .int j] => if lg i + lg j < 100000000 then some (.int (i * j)) else none
  | [x, .int k] => match lstD x with
    | some xs => if allSh xs = true ∧ k < 2 ^ 63 ∧ -(2 ^ 63) ≤ k ∧ xs.length * k.toNat ≤ 16777216 then some (.ol (List.replicate k.toNat xs).flatten) else none
    | none => none
  | _ => none
theorem opD_mulX {ca : Nat → Addr} {X : Cx} : Op2 ca X (binaryOp .Mult) gMulX := by
  intro pins s σ H x y v u Q I rx ry h
  obtain ⟨G, ds, d, sub, rs, e, q⟩ := h
  obtain ⟨d1, T1, d2, T2, rfl, r1, r2⟩ := rs.two
  by_cases hi : ∃ i j, d1 = .int i ∧ d2 = .int j
  · obtain ⟨i, j, rfl, rfl⟩ := hi
    cases r1; cases r2
    have e : (if lg i + lg j < 100000000 then some (D.int (i * j)) else none) = some d := e
    split at e
    · rename_i hc
      cases e
      exact op_mulX pins s σ H _ _ v u Q I rx ry ⟨i, j, rfl, rfl, mulX_of hc, rDL_end q sub (.int _)⟩
    · cases e
  · have e2 : gMul [d1, d2] = some d := by
      unfold gMulX at e
      split at e
      · rename_i i j heq
        cases heq
        exact (hi ⟨i, j, rfl, rfl⟩).elim
      · rename_i x' k hne heq
        cases heq
        cases d1 with
        | int i => exact (hi ⟨i, _, rfl, rfl⟩).elim
        | _ => exact e
      · cases e
    exact opD_mul pins s σ H x y v u Q I rx ry ⟨G, [d1, d2], d, sub, rs, e2, q⟩
@[simp] theorem mulX_i {i j : Int} : gMulX [.int i, .int j] = if lg i + lg j < 100000000 then some (.int (i * j)) else none := rfl
def gLcmX : List D → Option D
  | [.int i, .int j] => if lg i < 13500 ∧ lg j < 13500 then some (.int (lcmI i j)) else none
  | _ => none
@[simp] theorem lcmX_i {i j : Int} : gLcmX [.int i, .int j] = if lg i < 13500 ∧ lg j < 13500 then some (.int (lcmI i j)) else none := rfl
theorem de_gint {ca : Nat → Addr} {X : Cx} {x : Str} {z : Int} {pos : Pos} (hm : ∃ t : Tok, X.mg x = some (.int z t)) (hg : Gl X x := by rfl) (hdb : (x == ("__debug__" : Str)) = false := by decide) : DE ca X (.Name x pos) (evC (.int z)) := by
  obtain ⟨t, hm⟩ := hm
  exact de_const (v := .int z) (pe_glob hg hm ⟨t, rfl⟩ hdb) fun _ _ => .int z
end DL
namespace DL
open PySem PySem.Spec PyProof.Rows L2
def kLst (kd : DKd) (vs : List Nat) (t : Tgt) (c : Ev Bool) (f : Ev AV) (kvs : List (Key × D)) : Ev AV := fun ρ => match loopE vs t c (appE f) (dIts kd kvs) [] (wipeD ρ vs) with
  | some (acc, ρ') => some (.ok (.val (.ol acc)) (restD ρ ρ' vs))
  | none => none
def kDct (kd : DKd) (vs : List Nat) (t : Tgt) (c : Ev Bool) (fk fv : Ev AV) (kvs : List (Key × D)) : Ev AV := fun ρ => match loopE vs t c (putE fk fv) (dIts kd kvs) [] (wipeD ρ vs) with
  | some (acc, ρ') => some (.ok (.val (.od acc)) (restD ρ ρ' vs))
  | none => none
def evCompD (kd : DKd) (fe : Ev AV) (vs : List Nat) (t : Tgt) (c : Ev Bool) (f : Ev AV) : Ev AV := (evFz (evCons fe evNil)).andThen fun ds ρ => match ds with | [.dct kvs] => kLst kd vs t c f kvs ρ | _ => none
def evDcompD (kd : DKd) (fe : Ev AV) (vs : List Nat) (t : Tgt) (c : Ev Bool) (fk fv : Ev AV) : Ev AV := (evFz (evCons fe evNil)).andThen fun ds ρ => match ds with | [.dct kvs] => kDct kd vs t c fk fv kvs ρ | _ => none
section
variable {ρ : DEnv} {kd : DKd} {fe f fk fv : Ev AV} {vs : List Nat} {t : Tgt} {c : Ev Bool}
def kLstR (kd : DKd) (vs : List Nat) (t : Tgt) (c : Ev Bool) (f : Ev AV) (ds : List D) (ρ : DEnv) : Option (Out AV) := match ds with
  | [.dct kvs] => cmpR ρ vs (loopE vs t c (appE f) (dIts kd kvs) [] (wipeD ρ vs))
  | _ => none
def kDctR (kd : DKd) (vs : List Nat) (t : Tgt) (c : Ev Bool) (fk fv : Ev AV) (ds : List D) (ρ : DEnv) : Option (Out AV) := match ds with
  | [.dct kvs] => dcmR ρ vs (loopE vs t c (putE fk fv) (dIts kd kvs) [] (wipeD ρ vs))
  | _ => none
@[simp] theorem r_compD : evCompD kd fe vs t c f ρ = bE (evFz (evCons fe evNil) ρ) (kLstR kd vs t c f) := by
  unfold evCompD
  rw [r_then]
  first | rfl | congr 1
@[simp] theorem r_dcompD : evDcompD kd fe vs t c fk fv ρ = bE (evFz (evCons fe evNil) ρ) (kDctR kd vs t c fk fv) := by
  unfold evDcompD
  rw [r_then]
  first | rfl | congr 1
@[simp] theorem kLstR_1 {kvs : List (Key × D)} : kLstR kd vs t c f [.dct kvs] ρ = cmpR ρ vs (loopE vs t c (appE f) (dIts kd kvs) [] (wipeD ρ vs)) := rfl
@[simp] theorem kDctR_1 {kvs : List (Key × D)} : kDctR kd vs t c fk fv [.dct kvs] ρ = dcmR ρ vs (loopE vs t c (putE fk fv) (dIts kd kvs) [] (wipeD ρ vs)) := rfl
end
end DL
namespace DL
open PySem PySem.Spec PyProof.Rows L2
section
variable {α : Type}
structure MidAtO (B : Bd) (AR : Hp → Hp → FP → HO → α → Prop) (Ga G0 H0 : Hp) (W0 : FP) (Z : Addr) (σ : L2.St) (ρ : DEnv) (acc : α) (G H : Hp) (F : Nat → FP) (o : HO) (E : FP) : Prop where
  c : Cfg B G H σ ρ F
  gg : ∀ b o, Ga b = some o → G b = some o
  xx : Ext G0 H0 W0 G H (fun x => (un F x ∨ x = Z) ∨ E x)
  gD : G Z = none
  nD : ¬ un F Z
  hD : H Z = some o
  eF : ∀ x, E x → ¬ un F x
  eG : ∀ x, E x → G x = none
  eZ : ¬ E Z
  eH : ∀ x, E x → ∃ o, H x = some o
  ra : AR G H E o acc
variable {vs : List Nat} {t : Tgt} {fc : Ev Bool} {body : α → DEnv → Option (α × DEnv)} {B : Bd} {AR : Hp → Hp → FP → HO → α → Prop}
variable {Ga G0 H0 : Hp} {W0 : FP} {Z : Addr} {σ : L2.St} {ρ : DEnv} {acc : α} {G H : Hp} {F : Nat → FP} {o : HO} {E : FP}
theorem MidAtO.wipe {σ0 : L2.St} (m : MidAtO B AR Ga G0 H0 W0 Z σ ρ acc G H F o E) (h : L2.wipe σ vs = σ0) : MidAtO B AR Ga G0 H0 W0 Z σ0 (wipeD ρ vs) acc G H (fun j x => F j x ∧ j ∉ vs) o E := by
  subst h
  exact ⟨m.c.wipe vs, m.gg, m.xx.mono (fun _ h => h) fun x h => h.imp (fun z => z.imp (fun ⟨j, hj⟩ => ⟨j, hj.1⟩) id) id, m.gD, fun ⟨j, hj⟩ => m.nD ⟨j, hj.1⟩, m.hD, fun b e ⟨j, hj⟩ => m.eF b e ⟨j, hj.1⟩, m.eG, m.eZ, m.eH, m.ra⟩
end
def appO (f : Ev AV) (acc : List D) : DEnv → Option (List D × DEnv) := fun ρ => match f ρ with
  | some (.ok (.val e) ρ3) => if acc.length < 16777216 then some (acc ++ [e], ρ3) else none
  | _ => none
def evCompO (fi : Ev (List D)) (vs : List Nat) (t : Tgt) (c : Ev Bool) (f : Ev AV) : Ev AV := fi.andThen fun ds ρ => match loopE vs t c (appO f) ds [] (wipeD ρ vs) with
  | some (acc, ρ') => some (.ok (.val (.ol acc)) (restD ρ ρ' vs))
  | none => none
section
variable {ρ : DEnv} {fi : Ev (List D)} {vs : List Nat} {t : Tgt} {c : Ev Bool} {f : Ev AV} {ds acc : List D}
@[simp] theorem r_compO : evCompO fi vs t c f ρ = bE (fi ρ) (fun ds ρ => cmpR ρ vs (loopE vs t c (appO f) ds [] (wipeD ρ vs))) := by
  unfold evCompO
  rw [r_then]
  first | rfl | congr 1
end
end DL
namespace DL
open PySem PySem.Spec PyProof.Rows L2
def sPutO (i j : Nat) (fv : Ev AV) : Sv := evS fv fun a ρ => match takeL ρ [a], slotOf (frzS (plS [a]) ρ) i, slotOf (frzS (plS [a]) ρ) j with
  | some [d], some (.od kvs), some dk => match keyD dk with
    | some k => if kIdx k kvs = none ∧ kvs.length < 16777216 then some (.nx ((frzS (plS [a]) ρ).set i (some (.od (kvs ++ [(k, d)]))))) else none
    | none => none
  | _, _, _ => none
section
variable {ρ : DEnv} {i j : Nat} {a : AV} {f : Ev AV}
def putOK (i j : Nat) (a : AV) : Sv := fun ρ => bO (takeL ρ [a]) fun ds => bO (slotOf (frzS (plS [a]) ρ) i) fun x => bO (slotOf (frzS (plS [a]) ρ) j) fun y => putOR i ds x y (frzS (plS [a]) ρ)
where putOR (i : Nat) (ds : List D) (x y : D) (ρ : DEnv) : Option SOut := match ds, x with
  | [d], .od kvs => bO (keyD y) fun k => if kIdx k kvs = none ∧ kvs.length < 16777216 then some (.nx (ρ.set i (some (.od (kvs ++ [(k, d)]))))) else none
  | _, _ => none
@[simp] theorem r_putO : sPutO i j f ρ = bS (f ρ) (putOK i j) := by
  have h : ∀ a ρ, (fun a ρ => match takeL ρ [a], slotOf (frzS (plS [a]) ρ) i, slotOf (frzS (plS [a]) ρ) j with
    | some [d], some (.od kvs), some dk => match keyD dk with
      | some k => if kIdx k kvs = none ∧ kvs.length < 16777216 then some (SOut.nx ((frzS (plS [a]) ρ).set i (some (.od (kvs ++ [(k, d)]))))) else none
      | none => none
    | _, _, _ => none) a ρ = putOK i j a ρ := fun a ρ => by
    unfold putOK bO
    dsimp only
    cases takeL ρ [a] with
    | none => rfl
    | some ds =>
      cases slotOf (frzS (plS [a]) ρ) i with
      | none => rcases ds with _ | ⟨d, _ | ⟨d2, r⟩⟩ <;> rfl
      | some x =>
        cases slotOf (frzS (plS [a]) ρ) j with
        | none => rcases ds with _ | ⟨d, _ | ⟨d2, r⟩⟩ <;> cases x <;> rfl
        | some y => rcases ds with _ | ⟨d, _ | ⟨d2, r⟩⟩ <;> cases x <;> first | rfl | (dsimp only; show _ = putOK.putOR i [d] (.od _) y _; unfold putOK.putOR bO; dsimp only; cases keyD y <;> rfl)
  unfold sPutO
  rw [r_S]
  congr 1
  funext a ρ
  exact h a ρ
@[simp] theorem putOK_1 : putOK i j a ρ = bO (takeL ρ [a]) fun ds => bO (slotOf (frzS (plS [a]) ρ) i) fun x => bO (slotOf (frzS (plS [a]) ρ) j) fun y => putOK.putOR i ds x y (frzS (plS [a]) ρ) := rfl
@[simp] theorem putOR_1 {d y : D} {kvs : List (Key × D)} : putOK.putOR i [d] (.od kvs) y ρ = bO (keyD y) fun k => if kIdx k kvs = none ∧ kvs.length < 16777216 then some (.nx (ρ.set i (some (.od (kvs ++ [(k, d)]))))) else none := rfl
end
end DL
namespace DL
open PySem PySem.Spec PyProof.Rows L2
end DL
namespace DL
open PySem PySem.Spec PyProof.Rows L2
def forPK (j : Nat) (t : Tgt) (body : Sv) (a : AV) : Sv := fun ρ => match a with
  | .pl i p => if i = j then match slotOf ρ j with
    | some d0 => match getP d0 p with
      | some (.ol ds) => if allSh ds = true then (forE t body ds (ρ.set j none)).map (mapS fun ρ => ρ.set j (some d0)) else none
      | _ => none
    | none => none
    else none
  | _ => none
def sForP (j : Nat) (fe : Ev AV) (t : Tgt) (body : Sv) : Sv := evS fe (forPK j t body)
section
variable {ρ : DEnv} {j i : Nat} {t : Tgt} {s : Sv} {fe : Ev AV} {p : List PSt}
@[simp] theorem r_forP : sForP j fe t s ρ = bS (fe ρ) (forPK j t s) := r_S
@[simp] theorem forPK_1 : forPK j t s (.pl j p) ρ = bO (slotOf ρ j) fun d0 => bO (getP d0 p) fun d => lstK d fun ds => mpS j d0 (forE t s ds (ρ.set j none)) := by
  unfold forPK bO
  dsimp only
  rw [if_pos rfl]
  cases slotOf ρ j with
  | none => rfl
  | some d0 =>
    dsimp only
    cases getP d0 p with
    | none => rfl
    | some d => cases d <;> rfl
end
end DL
namespace DL
open PySem PySem.Spec PyProof.Rows L2
namespace Q
abbrev Nm := Int × Int
def val (p : Nm) : Rat := Rat.divInt p.1 p.2
def qn (q : Rat) : Nm := (q.num, (q.den : Int))
theorem val_qn (q : Rat) : val (qn q) = q := Rat.num_divInt_den q
end Q
end DL
namespace DL
open PySem PySem.Spec PyProof.Rows L2
namespace Q
def sumL {α : Type} (l : List α) (f : α → Rat) : Rat := match l with
  | [] => 0
  | x :: r => f x + sumL r f
def sumI {α : Type} (l : List α) (f : α → Int) : Int := match l with
  | [] => 0
  | x :: r => f x + sumI r f
section
variable {α β : Type} {l m : List α} {f g : α → Rat}
@[simp] theorem sumL_0 : sumL ([] : List α) f = 0 := rfl
@[simp] theorem sumL_1 {x : α} : sumL (x :: l) f = f x + sumL l f := rfl
@[simp] theorem sumI_0 {h : α → Int} : sumI ([] : List α) h = 0 := rfl
@[simp] theorem sumI_1 {x : α} {h : α → Int} : sumI (x :: l) h = h x + sumI l h := rfl
theorem sumL_congr (h : ∀ x ∈ l, f x = g x) : sumL l f = sumL l g := by
  induction l with
  | nil => rfl
  | cons x r ih => rw [sumL_1, sumL_1, h x (by simp), ih fun y hy => h y (by simp [hy])]
theorem sumI_congr {f g : α → Int} (h : ∀ x ∈ l, f x = g x) : sumI l f = sumI l g := by
  induction l with
  | nil => rfl
  | cons x r ih => rw [sumI_1, sumI_1, h x (by simp), ih fun y hy => h y (by simp [hy])]
theorem sumL_add : sumL l (fun x => f x + g x) = sumL l f + sumL l g := by
  induction l with
  | nil => rw [sumL_0, sumL_0, sumL_0]; grind
  | cons x r ih => rw [sumL_1, sumL_1, sumL_1, ih]; grind
theorem sumL_mul {c : Rat} : sumL l (fun x => c * f x) = c * sumL l f := by
  induction l with
  | nil => rw [sumL_0, sumL_0]; grind
  | cons x r ih => rw [sumL_1, sumL_1, ih]; grind
theorem sumL_mulr {c : Rat} : sumL l (fun x => f x * c) = sumL l f * c := by
  induction l with
  | nil => rw [sumL_0, sumL_0]; grind
  | cons x r ih => rw [sumL_1, sumL_1, ih]; grind
theorem sumL_zero (h : ∀ x ∈ l, f x = 0) : sumL l f = 0 := by
  induction l with
  | nil => rfl
  | cons x r ih => rw [sumL_1, h x (by simp), ih fun y hy => h y (by simp [hy])]; grind
theorem sumL_app : sumL (l ++ m) f = sumL l f + sumL m f := by
  induction l with
  | nil => rw [List.nil_append, sumL_0]; grind
  | cons x r ih => rw [List.cons_append, sumL_1, sumL_1, ih]; grind
theorem sumI_app {f : α → Int} : sumI (l ++ m) f = sumI l f + sumI m f := by
  induction l with
  | nil => rw [List.nil_append, sumI_0, Int.zero_add]
  | cons x r ih => rw [List.cons_append, sumI_1, sumI_1, ih]; omega
theorem sumL_swap {k : List β} {h : α → β → Rat} : sumL l (fun x => sumL k (h x)) = sumL k fun y => sumL l fun x => h x y := by
  induction l with
  | nil => rw [sumL_0, sumL_zero fun y _ => sumL_0]
  | cons x r ih => rw [sumL_1, ih, ← sumL_add]; rfl
theorem sumL_map {k : List β} {h : β → α} : sumL (k.map h) f = sumL k fun y => f (h y) := by
  induction k with
  | nil => rfl
  | cons y r ih => rw [List.map_cons, sumL_1, sumL_1, ih]
theorem sumL_filter {p : α → Bool} : sumL (l.filter p) f = sumL l fun x => if p x = true then f x else 0 := by
  induction l with
  | nil => rfl
  | cons x r ih =>
    rw [sumL_1]
    cases h : p x with
    | true => rw [List.filter_cons_of_pos h, sumL_1, ih, if_pos rfl]
    | false =>
      rw [List.filter_cons_of_neg (by rw [h]; decide), ih, if_neg (by decide)]
      grind
theorem cast_0 : ((0 : Int) : Rat) = 0 := rfl
theorem cast_ne {z : Int} (h : z ≠ 0) : (z : Rat) ≠ 0 := fun e => h (Rat.intCast_inj.mp (e.trans cast_0.symm))
end
abbrev sumN (n : Nat) (f : Nat → Rat) : Rat := sumL (List.range n) f
theorem sumN_0 {f : Nat → Rat} : sumN 0 f = 0 := rfl
theorem sumN_s {n : Nat} {f : Nat → Rat} : sumN (n + 1) f = sumN n f + f n := by
  unfold sumN
  rw [List.range_succ, sumL_app, sumL_1, sumL_0]
  grind
theorem sumN_one {n i : Nat} {f : Nat → Rat} (hi : i < n) : sumN n (fun j => if j = i then f j else 0) = f i := by
  induction n with
  | zero => omega
  | succ n ih =>
    rw [sumN_s]
    by_cases h : i = n
    · subst h
      have z : sumN i (fun j => if j = i then f j else 0) = 0 := sumL_zero fun x hx => if_neg (by have := List.mem_range.mp hx; omega)
      rw [if_pos rfl, z]
      grind
    · rw [ih (by omega), if_neg (fun e => h e.symm)]
      grind
theorem sumN_congr {n : Nat} {f g : Nat → Rat} (h : ∀ i, i < n → f i = g i) : sumN n f = sumN n g := sumL_congr fun i hi => h i (List.mem_range.mp hi)
structure Rd' where
  st : Nat
  sg : Nat
  bh : Nat
  nu : Nm
/-- a row behind a sign -/
def stepQ (rs : List Rd') (c : Nat) (row : Nat → Rat) (j : Nat) : Rat := sumL (rs.filter fun r => r.sg == c && r.bh == j) fun r => row r.st * val r.nu
def goQ (rs : List Rd') : List Nat → (Nat → Rat) → Nat → Rat
  | [], row => row
  | c :: t, row => goQ rs t (stepQ rs c row)
end Q
end DL
namespace DL
open PySem PySem.Spec PyProof.Rows L2
namespace Q
abbrev Vec := Nat → Rat
def at_ (L : List Vec) (j : Nat) : Vec := L.getD j (fun _ => 0)
def comb (c : Nat → Rat) (L : List Vec) (i : Nat) : Rat := sumN L.length fun j => c j * at_ L j i
def Span (n : Nat) (L : List Vec) (w : Vec) : Prop := ∃ c, ∀ i, i < n → w i = comb c L i
def Ind (n : Nat) (L : List Vec) : Prop := ∀ c, (∀ i, i < n → comb c L i = 0) → ∀ j, j < L.length → c j = 0
section
variable {n : Nat} {L U : List Vec} {w x y : Vec} {c d : Nat → Rat} {i j : Nat}
theorem at_lt (h : j < L.length) : at_ (L ++ [x]) j = at_ L j := by
  unfold at_
  rw [List.getD_eq_getElem?_getD, List.getD_eq_getElem?_getD, List.getElem?_append_left h]
theorem at_last : at_ (L ++ [x]) L.length = x := by
  unfold at_
  rw [List.getD_eq_getElem?_getD, List.getElem?_append_right (Nat.le_refl _), Nat.sub_self]
  rfl
theorem comb_app : comb c (L ++ [x]) i = comb c L i + c L.length * x i := by
  unfold comb
  rw [List.length_append, List.length_singleton, sumN_s, at_last]
  congr 1
  exact sumN_congr fun j hj => by rw [at_lt hj]
theorem comb_congr (h : ∀ j, j < L.length → c j = d j) : comb c L i = comb d L i := sumN_congr fun j hj => by rw [h j hj]
theorem comb_add : comb (fun j => c j + d j) L i = comb c L i + comb d L i := by
  unfold comb sumN
  rw [← sumL_add]
  exact sumL_congr fun j _ => by grind
theorem comb_mul {a : Rat} : comb (fun j => a * c j) L i = a * comb c L i := by
  unfold comb sumN
  rw [← sumL_mul]
  exact sumL_congr fun j _ => by grind
theorem comb_sub : comb (fun j => c j - d j) L i = comb c L i - comb d L i := by
  have h := comb_add (c := c) (d := fun j => -1 * d j) (L := L) (i := i)
  rw [comb_mul] at h
  have e : comb (fun j => c j - d j) L i = comb (fun j => c j + -1 * d j) L i := comb_congr fun j _ => by grind
  rw [e, h]
  grind
theorem comb_zero (h : ∀ j, j < L.length → c j = 0) : comb c L i = 0 := sumL_zero fun j hj => by rw [h j (List.mem_range.mp hj)]; grind
theorem comb_one (h : j < L.length) : comb (fun k => if k = j then 1 else 0) L i = at_ L j i := by
  have := sumN_one (f := fun k => at_ L k i) h
  rw [← this]
  unfold comb
  refine sumN_congr fun k _ => ?_
  dsimp only
  by_cases e : k = j
  · rw [if_pos e, if_pos e]; grind
  · rw [if_neg e, if_neg e]; grind
theorem Span.congr (h : Span n L w) (e : ∀ i, i < n → w i = x i) : Span n L x := by
  obtain ⟨c, hc⟩ := h
  exact ⟨c, fun i hi => by rw [← e i hi, hc i hi]⟩
theorem Span.zero : Span n L fun _ => 0 := ⟨fun _ => 0, fun i _ => (comb_zero fun _ _ => rfl).symm⟩
theorem Span.add (h : Span n L w) (k : Span n L x) : Span n L fun i => w i + x i := by
  obtain ⟨c, hc⟩ := h
  obtain ⟨d, hd⟩ := k
  exact ⟨fun j => c j + d j, fun i hi => by dsimp only; rw [comb_add, hc i hi, hd i hi]⟩
theorem Span.mul {a : Rat} (h : Span n L w) : Span n L fun i => a * w i := by
  obtain ⟨c, hc⟩ := h
  exact ⟨fun j => a * c j, fun i hi => by dsimp only; rw [comb_mul, hc i hi]⟩
theorem Span.at (h : j < L.length) : Span n L (at_ L j) := ⟨fun k => if k = j then 1 else 0, fun i _ => (comb_one h).symm⟩
theorem Span.app (h : Span n L w) : Span n (L ++ [x]) w := by
  obtain ⟨c, hc⟩ := h
  refine ⟨fun j => if j < L.length then c j else 0, fun i hi => ?_⟩
  rw [comb_app, if_neg (Nat.lt_irrefl _), comb_congr (d := c) fun j hj => if_pos hj, hc i hi]
  grind
theorem Span.last : Span n (L ++ [x]) x := by
  have := Span.at (n := n) (L := L ++ [x]) (j := L.length) (by simp)
  rwa [at_last] at this
theorem Span.sum {m : Nat} {F : Nat → Vec} (h : ∀ j, j < m → Span n L (F j)) : Span n L fun i => sumN m fun j => c j * F j i := by
  induction m with
  | zero => exact Span.zero.congr fun i _ => by rw [sumN_0]
  | succ m ih => exact ((ih fun j hj => h j (by omega)).add ((h m (by omega)).mul (a := c m))).congr fun i _ => by rw [sumN_s]
theorem Span.comb' (h : ∀ j, j < U.length → Span n L (at_ U j)) : Span n L (comb c U) := Span.sum h
theorem Span.trans (h : Span n U w) (k : ∀ j, j < U.length → Span n L (at_ U j)) : Span n L w := by
  obtain ⟨c, hc⟩ := h
  exact (Span.comb' k (c := c)).congr fun i hi => (hc i hi).symm
theorem Ind.nil : Ind n [] := fun c _ j hj => by simp at hj
theorem Ind.uniq (h : Ind n L) (e : ∀ i, i < n → comb c L i = comb d L i) : ∀ j, j < L.length → c j = d j := fun j hj => by
  have := h (fun j => c j - d j) (fun i hi => by rw [comb_sub, e i hi]; grind) j hj
  grind
theorem Ind.init (h : Ind n (L ++ [x])) : Ind n L := fun c hc j hj => by
  have := h (fun k => if k < L.length then c k else 0) (fun i hi => by
    rw [comb_app, if_neg (Nat.lt_irrefl _), comb_congr (d := c) fun j hj => if_pos hj, hc i hi]
    grind) j (by simp; omega)
  rwa [if_pos hj] at this
theorem Ind.app (h : Ind n L) (hx : ¬ Span n L x) : Ind n (L ++ [x]) := fun c hc => by
  have h0 : c L.length = 0 := by
    refine Classical.byContradiction fun hne => hx ⟨fun j => -1 / c L.length * c j, fun i hi => ?_⟩
    have := hc i hi
    rw [comb_app] at this
    rw [comb_mul]
    grind
  intro j hj
  rw [List.length_append, List.length_singleton] at hj
  by_cases e : j = L.length
  · rw [e]; exact h0
  · refine h c (fun i hi => ?_) j (by omega)
    have := hc i hi
    rw [comb_app, h0] at this
    grind
theorem Ind.last (h : Ind n (L ++ [x])) : ¬ Span n L x := fun ⟨c, hc⟩ => by
  have := h (fun j => if j < L.length then c j else -1) (fun i hi => by
    rw [comb_app, if_neg (Nat.lt_irrefl _), comb_congr (d := c) fun j hj => if_pos hj, hc i hi]
    grind) L.length (by simp)
  rw [if_neg (Nat.lt_irrefl _)] at this
  grind
end
structure Ech (n : Nat) (V U : List Vec) (p : Nat → Nat) : Prop where
  len : U.length = V.length
  pn : ∀ j, j < U.length → p j < n
  pz : ∀ j, j < U.length → at_ U j (p j) ≠ 0
  zz : ∀ j, j < U.length → ∀ i, i < j → at_ U j (p i) = 0
  sp : ∀ j, j < U.length → Span n V (at_ U j) ∧ Span n U (at_ V j)
section
variable {n : Nat} {V U : List Vec} {p : Nat → Nat} {w x : Vec} {c : Nat → Rat}
theorem sumN_only {m j : Nat} {f : Nat → Rat} (hj : j < m) (h : ∀ k, k < m → k ≠ j → f k = 0) : sumN m f = f j := by
  have := sumN_one (f := f) hj
  rw [← this]
  refine sumN_congr fun k hk => ?_
  by_cases e : k = j
  · rw [if_pos e]
  · rw [if_neg e, h k hk e]
theorem Ech.tri (h : Ech n V U p) (e : ∀ j, j < U.length → comb c U (p j) = 0) : ∀ j, j < U.length → c j = 0 := by
  intro j
  induction j using Nat.strongRecOn with
  | ind j ih =>
    intro hj
    have := e j hj
    unfold comb at this
    rw [sumN_only hj fun k hk hne => by
      by_cases hlt : k < j
      · rw [ih k hlt hk]; grind
      · rw [h.zz k hk j (by omega)]; grind] at this
    have := h.pz j hj
    grind
theorem Ech.uv (h : Ech n V U p) : Span n U w ↔ Span n V w :=
  ⟨fun s => s.trans fun j hj => (h.sp j hj).1, fun s => s.trans fun j hj => (h.sp j (by rw [h.len]; exact hj)).2⟩
/-- what is 0 at all the places and lies in the span is 0 -/
theorem Ech.zero (h : Ech n V U p) (s : Span n V w) (e : ∀ j, j < U.length → w (p j) = 0) : ∀ i, i < n → w i = 0 := fun i hi => by
  obtain ⟨c, hc⟩ := h.uv.mpr s
  have := h.tri (c := c) fun j hj => by rw [← hc _ (h.pn j hj)]; exact e j hj
  rw [hc i hi, comb_zero this]
theorem Ech.ind (h : Ech n V U p) : Ind n U := fun c hc => h.tri fun j hj => hc _ (h.pn j hj)
theorem Ech.nil : Ech n [] [] p := ⟨rfl, fun j hj => by simp at hj, fun j hj => by simp at hj, fun j hj => by simp at hj, fun j hj => by simp at hj⟩
theorem Ech.pcongr {p' : Nat → Nat} (h : Ech n V U p) (e : ∀ j, j < U.length → p j = p' j) : Ech n V U p' := ⟨h.len, fun j hj => by rw [← e j hj]; exact h.pn j hj, fun j hj => by rw [← e j hj]; exact h.pz j hj, fun j hj i hi => by rw [← e i (by omega)]; exact h.zz j hj i hi, h.sp⟩
/-- a vector more: w is a multiple of x and a sum of the others -/
theorem Ech.put {q : Nat} {a : Rat} (h : Ech n V U p) (ha : a ≠ 0) (hs : Span n V fun i => w i - a * x i) (hz : ∀ j, j < U.length → w (p j) = 0) (hq : q < n) (hw : w q ≠ 0) : Ech n (V ++ [x]) (U ++ [w]) fun j => if j = U.length then q else p j := by
  have hl := h.len
  refine ⟨by simp [hl], fun j hj => ?_, fun j hj => ?_, fun j hj i hi => ?_, fun j hj => ?_⟩ <;> rw [List.length_append, List.length_singleton] at hj
  · split
    · exact hq
    · exact h.pn j (by omega)
  · split
    · rename_i e
      rw [e, at_last]; exact hw
    · rename_i e
      rw [at_lt (by omega)]; exact h.pz j (by omega)
  · rw [if_neg (by omega)]
    by_cases e : j = U.length
    · rw [e, at_last]; exact hz i (by omega)
    · rw [at_lt (by omega)]; exact h.zz j (by omega) i hi
  · by_cases e : j = U.length
    · subst e
      rw [at_last]
      refine ⟨(hs.app.add (Span.last.mul (a := a))).congr fun i _ => by grind, ?_⟩
      rw [hl, at_last]
      have s2 := (h.uv.mpr hs).app (x := w)
      exact ((Span.last (L := U) (x := w)).add (s2.mul (a := -1))).mul (a := 1 / a) |>.congr fun i _ => by grind
    · have hj' : j < U.length := by omega
      rw [at_lt hj', at_lt (by rw [← hl]; exact hj')]
      exact ⟨(h.sp j hj').1.app, (h.sp j hj').2.app⟩
/-- any vector, made 0 at the places -/
theorem Ech.reduce (h : Ech n V U p) (x : Vec) : ∃ w : Vec, Span n V (fun i => w i - 1 * x i) ∧ ∀ j, j < U.length → w (p j) = 0 := by
  have key : ∀ m, m ≤ U.length → ∃ w : Vec, Span n U (fun i => w i - 1 * x i) ∧ ∀ j, j < m → w (p j) = 0 := by
    intro m
    induction m with
    | zero => exact fun _ => ⟨x, Span.zero.congr fun i _ => by grind, fun j hj => by omega⟩
    | succ m ih =>
      intro hm
      obtain ⟨w, h1, h2⟩ := ih (by omega)
      refine ⟨fun i => w i - w (p m) / at_ U m (p m) * at_ U m i, (h1.add ((Span.at (j := m) (by omega)).mul (a := -(w (p m) / at_ U m (p m))))).congr fun i _ => by grind, fun j hj => ?_⟩
      have hz := h.pz m (by omega)
      by_cases e : j = m
      · subst e
        grind
      · have := h2 j (by omega)
        have := h.zz m (by omega) j (by omega)
        grind
  obtain ⟨w, h1, h2⟩ := key U.length (Nat.le_refl _)
  exact ⟨w, h.uv.mp h1, h2⟩
theorem Ind.ech : ∀ {V : List Vec}, Ind n V → ∃ U p, Ech n V U p := by
  intro V
  have key : ∀ (k : Nat) (V : List Vec), V.length = k → Ind n V → ∃ U p, Ech n V U p := by
    intro k
    induction k with
    | zero =>
      intro V hV _
      have : V = [] := List.length_eq_zero_iff.mp hV
      subst this
      exact ⟨[], fun _ => 0, Ech.nil⟩
    | succ k ih =>
      intro V hV hi
      obtain ⟨V', x, rfl⟩ : ∃ V' x, V = V' ++ [x] := ⟨V.dropLast, V.getLast (fun e => by rw [e] at hV; simp at hV), (List.dropLast_concat_getLast _).symm⟩
      obtain ⟨U, p, h⟩ := ih V' (by simpa using hV) hi.init
      obtain ⟨w, h1, h2⟩ := h.reduce x
      have hne : ∃ q, q < n ∧ w q ≠ 0 := Classical.byContradiction fun hn => hi.last (h1.mul (a := -1) |>.congr fun i hi => by
        have : w i = 0 := Classical.byContradiction fun hw => hn ⟨i, hi, hw⟩
        grind)
      obtain ⟨q, hq, hw⟩ := hne
      exact ⟨_, _, h.put (x := x) (a := 1) (by grind) h1 h2 hq hw⟩
  exact key _ V rfl
end
end Q
end DL
namespace DL
open PySem PySem.Spec PyProof.Rows L2
namespace Q
abbrev Ent := Nat × List Int × List Int
abbrev Sta := List Int × Int × List Int
def subF (s l : Int) (xs ys : List Int) : List Int := (xs.zip ys).map fun p => s * p.1 - l * p.2
def gcdF (g : Nat) (xs : List Int) : Nat := xs.foldl (fun g x => Nat.gcd g x.natAbs) g
def divF (xs : List Int) (own : Int) (sh : List Int) : Sta :=
  (xs.map (·.fdiv (gcdF own.natAbs (xs ++ sh) : Int)), own.fdiv (gcdF own.natAbs (xs ++ sh) : Int), sh.map (·.fdiv (gcdF own.natAbs (xs ++ sh) : Int)))
def padF (s : List Int) (m : Nat) : List Int := s ++ List.replicate (m - s.length) 0
def elimF (st : Sta) (e : Ent) : Sta :=
  if st.1.getD e.1 0 = 0 then st
  else divF (subF ((e.2.1.getD e.1 0).fdiv (Nat.gcd (st.1.getD e.1 0).natAbs (e.2.1.getD e.1 0).natAbs : Int)) ((st.1.getD e.1 0).fdiv (Nat.gcd (st.1.getD e.1 0).natAbs (e.2.1.getD e.1 0).natAbs : Int)) st.1 e.2.1)
    (st.2.1 * (e.2.1.getD e.1 0).fdiv (Nat.gcd (st.1.getD e.1 0).natAbs (e.2.1.getD e.1 0).natAbs : Int))
    (subF ((e.2.1.getD e.1 0).fdiv (Nat.gcd (st.1.getD e.1 0).natAbs (e.2.1.getD e.1 0).natAbs : Int)) ((st.1.getD e.1 0).fdiv (Nat.gcd (st.1.getD e.1 0).natAbs (e.2.1.getD e.1 0).natAbs : Int)) st.2.2 (padF e.2.2 st.2.2.length))
theorem gcdF_cons {g : Nat} {x : Int} {xs : List Int} : gcdF g (x :: xs) = gcdF (Nat.gcd g x.natAbs) xs := rfl
theorem gcdF_dvd : ∀ (xs : List Int) (g : Nat), gcdF g xs ∣ g ∧ ∀ x ∈ xs, gcdF g xs ∣ x.natAbs
  | [], g => ⟨Nat.dvd_refl g, fun x h => by simp at h⟩
  | x :: xs, g => by
    obtain ⟨h1, h2⟩ := gcdF_dvd xs (Nat.gcd g x.natAbs)
    rw [gcdF_cons]
    refine ⟨Nat.dvd_trans h1 (Nat.gcd_dvd_left _ _), fun y hy => ?_⟩
    rcases List.mem_cons.mp hy with rfl | hy
    · exact Nat.dvd_trans h1 (Nat.gcd_dvd_right _ _)
    · exact h2 y hy
theorem gcdF_pos {g : Nat} (h : 0 < g) (xs : List Int) : 0 < gcdF g xs := Nat.pos_of_dvd_of_pos (gcdF_dvd xs g).1 h
theorem fdiv_cast {x : Int} {g : Nat} (hg : 0 < g) (h : g ∣ x.natAbs) : ((x.fdiv (g : Int) : Int) : Rat) * ((g : Int) : Rat) = (x : Rat) := by
  have hd : ((g : Nat) : Int) ∣ x := Int.ofNat_dvd_left.mpr h
  obtain ⟨c, rfl⟩ := hd
  rw [Int.fdiv_eq_ediv_of_dvd ⟨c, rfl⟩, Int.mul_ediv_cancel_left c (by omega), Rat.intCast_mul]
  grind
theorem fdiv_abs {x : Int} {g : Nat} (hg : 0 < g) (h : g ∣ x.natAbs) : (x.fdiv (g : Int)).natAbs ≤ x.natAbs := by
  have hd : ((g : Nat) : Int) ∣ x := Int.ofNat_dvd_left.mpr h
  rw [Int.fdiv_eq_ediv_of_dvd hd, Int.natAbs_ediv_of_dvd hd, Int.natAbs_natCast]
  exact Nat.div_le_self _ _
theorem fdiv_ne {x : Int} {g : Nat} (hg : 0 < g) (h : g ∣ x.natAbs) (hx : x ≠ 0) : x.fdiv (g : Int) ≠ 0 := fun e => by
  have := fdiv_cast hg h
  rw [e, cast_0] at this
  have h0 : (x : Rat) = ((0 : Int) : Rat) := by rw [← this, cast_0]; grind
  exact hx (Rat.intCast_inj.mp h0)
theorem getD_map_fdiv {xs : List Int} {g : Int} {i : Nat} : (xs.map (·.fdiv g)).getD i 0 = (xs.getD i 0).fdiv g := by
  rw [List.getD_eq_getElem?_getD, List.getD_eq_getElem?_getD, List.getElem?_map]
  cases xs[i]? with
  | none => exact (Int.zero_fdiv g).symm
  | some x => rfl
theorem mem_getD {xs : List Int} {i : Nat} : xs.getD i 0 = 0 ∨ xs.getD i 0 ∈ xs := by
  rw [List.getD_eq_getElem?_getD]
  cases h : xs[i]? with
  | none => exact .inl rfl
  | some x => exact .inr (List.mem_of_getElem? h)
theorem subF_len {s l : Int} {xs ys : List Int} (h : xs.length = ys.length) : (subF s l xs ys).length = xs.length := by
  unfold subF
  rw [List.length_map, List.length_zip]
  omega
theorem subF_at {s l : Int} : ∀ {xs ys : List Int} {i : Nat}, xs.length = ys.length → (subF s l xs ys).getD i 0 = s * xs.getD i 0 - l * ys.getD i 0
  | [], [], i, _ => by simp [subF]
  | x :: xs, y :: ys, 0, h => rfl
  | x :: xs, y :: ys, i + 1, h => by
    have := subF_at (s := s) (l := l) (xs := xs) (ys := ys) (i := i) (by simpa using h)
    exact this
theorem padF_len {s : List Int} {m : Nat} (h : s.length ≤ m) : (padF s m).length = m := by
  unfold padF
  rw [List.length_append, List.length_replicate]
  omega
theorem padF_at {s : List Int} {m i : Nat} : (padF s m).getD i 0 = s.getD i 0 := by
  unfold padF
  rw [List.getD_eq_getElem?_getD, List.getD_eq_getElem?_getD]
  by_cases h : i < s.length
  · rw [List.getElem?_append_left h]
  · rw [List.getElem?_append_right (by omega), List.getElem?_replicate, List.getElem?_eq_none (by omega)]
    split <;> rfl
/-- what the integers are -/
def shv (sh : List Int) (k : Nat) : Rat := ((sh.getD k 0 : Int) : Rat)
structure Rel (n : Nat) (V : List Vec) (x : Vec) (st : Sta) : Prop where
  l1 : st.1.length = n
  l2 : st.2.2.length = V.length
  own : st.2.1 ≠ 0
  eq : ∀ i, i < n → ((st.1.getD i 0 : Int) : Rat) = (st.2.1 : Rat) * x i + comb (shv st.2.2) V i
structure EntOk (n : Nat) (V : List Vec) (e : Ent) : Prop where
  l1 : e.2.1.length = n
  l2 : e.2.2.length ≤ V.length
  pn : e.1 < n
  pz : e.2.1.getD e.1 0 ≠ 0
  eq : ∀ i, i < n → ((e.2.1.getD i 0 : Int) : Rat) = comb (shv e.2.2) V i
theorem divF_rel {n : Nat} {V : List Vec} {x : Vec} {xs sh : List Int} {own : Int} (h : Rel n V x (xs, own, sh)) : Rel n V x (divF xs own sh) := by
  have ho : own ≠ 0 := h.own
  have gp : 0 < gcdF own.natAbs (xs ++ sh) := gcdF_pos (by omega) _
  obtain ⟨d1, d2⟩ := gcdF_dvd (xs ++ sh) own.natAbs
  unfold divF
  generalize gcdF own.natAbs (xs ++ sh) = g at gp d1 d2
  have hx : ∀ i, g ∣ (xs.getD i 0).natAbs := fun i => by
    rcases mem_getD (xs := xs) (i := i) with e | e
    · rw [e]; exact Nat.dvd_zero g
    · exact d2 _ (List.mem_append_left _ e)
  have hs : ∀ i, g ∣ (sh.getD i 0).natAbs := fun i => by
    rcases mem_getD (xs := sh) (i := i) with e | e
    · rw [e]; exact Nat.dvd_zero g
    · exact d2 _ (List.mem_append_right _ e)
  refine ⟨by rw [List.length_map]; exact h.l1, by rw [List.length_map]; exact h.l2, fdiv_ne gp d1 ho, fun i hi => ?_⟩
  have e := h.eq i hi
  dsimp only at e ⊢
  rw [getD_map_fdiv]
  have g0 : (((g : Nat) : Int) : Rat) ≠ 0 := cast_ne (by omega)
  have e1 := fdiv_cast gp (hx i)
  have e2 := fdiv_cast gp d1
  have e3 : comb (shv sh) V i = (((g : Nat) : Int) : Rat) * comb (shv (sh.map (·.fdiv ((g : Nat) : Int)))) V i := by
    rw [← comb_mul]
    refine comb_congr fun k _ => ?_
    unfold shv
    rw [getD_map_fdiv, ← fdiv_cast gp (hs k)]
    grind
  rw [e3] at e
  grind
theorem elimF_rel {n : Nat} {V : List Vec} {x : Vec} {st : Sta} {e : Ent} (h : Rel n V x st) (he : EntOk n V e) : Rel n V x (elimF st e) ∧ (elimF st e).1.getD e.1 0 = 0 ∧ ∀ p, p < n → st.1.getD p 0 = 0 → e.2.1.getD p 0 = 0 → (elimF st e).1.getD p 0 = 0 := by
  unfold elimF
  by_cases ha : st.1.getD e.1 0 = 0
  · rw [if_pos ha]
    exact ⟨h, ha, fun p _ h1 _ => h1⟩
  · rw [if_neg ha]
    have hb := he.pz
    generalize hA : st.1.getD e.1 0 = a at ha
    generalize hB : e.2.1.getD e.1 0 = b at hb
    have gp : 0 < Nat.gcd a.natAbs b.natAbs := Nat.gcd_pos_of_pos_left _ (by omega)
    have ga := Nat.gcd_dvd_left a.natAbs b.natAbs
    have gb := Nat.gcd_dvd_right a.natAbs b.natAbs
    generalize Nat.gcd a.natAbs b.natAbs = g at gp ga gb
    have hs := fdiv_ne gp gb hb
    have c1 := fdiv_cast gp ga
    have c2 := fdiv_cast gp gb
    have g0 : (((g : Nat) : Int) : Rat) ≠ 0 := cast_ne (by omega)
    generalize hS : b.fdiv (g : Int) = s at hs c2
    generalize hL : a.fdiv (g : Int) = l at c1
    have lx : st.1.length = e.2.1.length := h.l1.trans he.l1.symm
    have lp : (padF e.2.2 st.2.2.length).length = st.2.2.length := padF_len (by rw [h.l2]; exact he.l2)
    have r : Rel n V x (subF s l st.1 e.2.1, st.2.1 * s, subF s l st.2.2 (padF e.2.2 st.2.2.length)) := by
      refine ⟨by rw [subF_len lx]; exact h.l1, by rw [subF_len lp.symm]; exact h.l2, Int.mul_ne_zero h.own hs, fun i hi => ?_⟩
      dsimp only
      rw [subF_at lx, Rat.intCast_sub, Rat.intCast_mul, Rat.intCast_mul, Rat.intCast_mul, h.eq i hi, he.eq i hi]
      have e3 : comb (shv (subF s l st.2.2 (padF e.2.2 st.2.2.length))) V i = (s : Rat) * comb (shv st.2.2) V i - (l : Rat) * comb (shv e.2.2) V i := by
        rw [← comb_mul, ← comb_mul, ← comb_sub]
        refine comb_congr fun k _ => ?_
        unfold shv
        rw [subF_at lp.symm, padF_at, Rat.intCast_sub, Rat.intCast_mul, Rat.intCast_mul]
      rw [e3]
      grind
    have z0 : ∀ p, (subF s l st.1 e.2.1).getD p 0 = 0 → (divF (subF s l st.1 e.2.1) (st.2.1 * s) (subF s l st.2.2 (padF e.2.2 st.2.2.length))).1.getD p 0 = 0 := fun p hp => by
      unfold divF
      dsimp only
      rw [getD_map_fdiv, hp, Int.zero_fdiv]
    refine ⟨divF_rel r, z0 _ ?_, fun p hp h1 h2 => z0 p ?_⟩
    · rw [subF_at lx, hA, hB]
      have : ((s * a - l * b : Int) : Rat) = ((0 : Int) : Rat) := by
        rw [Rat.intCast_sub, Rat.intCast_mul, Rat.intCast_mul, cast_0]
        grind
      exact Rat.intCast_inj.mp this
    · rw [subF_at lx, h1, h2]
      omega
def leftF (es : List Ent) (st : Sta) : Sta := es.foldl elimF st
/-- the kept ones -/
structure Kept (n : Nat) (V : List Vec) (es : List Ent) : Prop where
  len : es.length = V.length
  ok : ∀ e ∈ es, EntOk n V e
  zz : ∀ (j : Nat) e, es[j]? = some e → ∀ (i : Nat) f, i < j → es[i]? = some f → e.2.1.getD f.1 0 = 0
  ech : Ech n V (es.map fun e i => ((e.2.1.getD i 0 : Int) : Rat)) fun j => (es.map (·.1)).getD j 0
theorem leftF_rel {n : Nat} {V : List Vec} {x : Vec} {es : List Ent} (h : Kept n V es) {st : Sta} (r : Rel n V x st) : Rel n V x (leftF es st) ∧ ∀ e ∈ es, (leftF es st).1.getD e.1 0 = 0 := by
  have key : ∀ (fs ds : List Ent) (st : Sta), ds ++ fs = es → Rel n V x st → (∀ e ∈ ds, st.1.getD e.1 0 = 0) → Rel n V x (leftF fs st) ∧ ∀ e ∈ es, (leftF fs st).1.getD e.1 0 = 0 := by
    intro fs
    induction fs with
    | nil =>
      intro ds st hd r z
      rw [List.append_nil] at hd
      rw [← hd]
      exact ⟨r, z⟩
    | cons f fs ih =>
      intro ds st hd r z
      have hf : EntOk n V f := h.ok f (by rw [← hd]; simp)
      obtain ⟨r1, z1, z2⟩ := elimF_rel r hf
      refine ih (ds ++ [f]) (elimF st f) (by rw [← hd]; simp) r1 fun e he => ?_
      rcases List.mem_append.mp he with he | he
      · refine z2 e.1 (h.ok e (by rw [← hd]; simp [he])).pn (z e he) ?_
        obtain ⟨i, hi⟩ := List.mem_iff_getElem?.mp he
        have hil := (List.getElem?_eq_some_iff.mp hi).1
        exact h.zz ds.length f (by rw [← hd, List.getElem?_append_right (Nat.le_refl _), Nat.sub_self]; rfl) i e hil (by rw [← hd, List.getElem?_append_left hil]; exact hi)
      · rw [List.mem_singleton.mp he]; exact z1
  exact key es [] st rfl r fun e he => by simp at he
theorem Rel.span {n : Nat} {V : List Vec} {x : Vec} {st : Sta} (h : Rel n V x st) : Span n V fun i => ((st.1.getD i 0 : Int) : Rat) - (st.2.1 : Rat) * x i := ⟨shv st.2.2, fun i hi => by
  dsimp only
  rw [h.eq i hi]
  grind⟩
/-- a row put -/
theorem Kept.put {n : Nat} {V : List Vec} {x : Vec} {es : List Ent} (h : Kept n V es) {st : Sta} (r : Rel n V x st) {p : Nat} (hp : p < n) (hz : (leftF es st).1.getD p 0 ≠ 0) :
    Kept n (V ++ [x]) (es ++ [(p, (leftF es st).1, (leftF es st).2.2 ++ [(leftF es st).2.1])]) := by
  obtain ⟨r1, z1⟩ := leftF_rel h r
  generalize leftF es st = s at r1 z1 hz
  have app : ∀ (sh : List Int) (i : Nat), sh.length ≤ V.length → comb (shv sh) (V ++ [x]) i = comb (shv sh) V i := fun sh i hs => by
    rw [comb_app]
    have : shv sh V.length = 0 := by
      unfold shv
      rw [List.getD_eq_getElem?_getD, List.getElem?_eq_none hs]
      rfl
    rw [this]
    grind
  refine ⟨by simp [h.len], fun e he => ?_, fun j e hj i f hi hf => ?_, ?_⟩
  · rcases List.mem_append.mp he with he | he
    · have k := h.ok e he
      exact ⟨k.l1, by have := k.l2; simp; omega, k.pn, k.pz, fun i hi => by rw [app _ _ k.l2]; exact k.eq i hi⟩
    · rw [List.mem_singleton.mp he]
      refine ⟨r1.l1, by simp [r1.l2], hp, hz, fun i hi => ?_⟩
      dsimp only
      rw [r1.eq i hi, comb_app]
      have e1 : comb (shv (s.2.2 ++ [s.2.1])) V i = comb (shv s.2.2) V i := comb_congr fun k hk => by
        unfold shv
        rw [List.getD_eq_getElem?_getD, List.getD_eq_getElem?_getD, List.getElem?_append_left (by rw [r1.l2]; exact hk)]
      have e2 : shv (s.2.2 ++ [s.2.1]) V.length = (s.2.1 : Rat) := by
        unfold shv
        rw [← r1.l2, List.getD_eq_getElem?_getD, List.getElem?_append_right (Nat.le_refl _), Nat.sub_self]
        rfl
      rw [e1, e2]
      grind
  · have hil : i < es.length := by
      have := (List.getElem?_eq_some_iff.mp hj).1
      simp at this
      omega
    rw [List.getElem?_append_left hil] at hf
    by_cases e1 : j < es.length
    · rw [List.getElem?_append_left e1] at hj
      exact h.zz j e hj i f hi hf
    · rw [List.getElem?_append_right (by omega)] at hj
      have : j - es.length = 0 := by
        have := (List.getElem?_eq_some_iff.mp hj).1
        simpa using this
      rw [this] at hj
      cases hj
      exact z1 f (List.mem_of_getElem? hf)
  · rw [List.map_append]
    have := h.ech.put (x := x) (w := fun i => ((s.1.getD i 0 : Int) : Rat)) (q := p) (a := (s.2.1 : Rat)) (cast_ne r1.own) r1.span (fun j hj => by
      have hj' : j < es.length := by simpa using hj
      have e : (es.map (·.1)).getD j 0 = es[j].1 := by
        rw [List.getD_eq_getElem?_getD, List.getElem?_map, List.getElem?_eq_getElem hj']
        rfl
      show ((s.1.getD ((es.map (·.1)).getD j 0) 0 : Int) : Rat) = 0
      rw [e, z1 _ (List.getElem_mem hj')]
      exact cast_0) hp (cast_ne hz)
    refine this.pcongr fun j hj => ?_
    have hj : j < es.length + 1 := by simpa using hj
    rw [List.map_append, List.length_map]
    by_cases e : j = es.length
    · rw [if_pos e, e, List.getD_eq_getElem?_getD, List.getElem?_append_right (by simp)]
      simp
    · rw [if_neg e, List.getD_eq_getElem?_getD, List.getD_eq_getElem?_getD, List.getElem?_append_left (by simp; omega)]
theorem Kept.nil {n : Nat} : Kept n [] [] := ⟨rfl, fun e h => by simp at h, fun j e h => by simp at h, Ech.nil⟩
def SzL (K : Nat) (xs : List Int) : Prop := ∀ x ∈ xs, x.natAbs < 2 ^ K
structure SzS (K : Nat) (st : Sta) : Prop where
  a : SzL K st.1
  b : st.2.1.natAbs < 2 ^ K
  c : SzL K st.2.2
theorem SzL.mono {K L : Nat} {xs : List Int} (h : SzL K xs) (l : K ≤ L) : SzL L xs := fun x hx => Nat.lt_of_lt_of_le (h x hx) (Nat.pow_le_pow_right (by decide) l)
theorem SzS.mono {K L : Nat} {st : Sta} (h : SzS K st) (l : K ≤ L) : SzS L st := ⟨h.a.mono l, Nat.lt_of_lt_of_le h.b (Nat.pow_le_pow_right (by decide) l), h.c.mono l⟩
theorem SzL.getD {K i : Nat} {xs : List Int} (h : SzL K xs) : (xs.getD i 0).natAbs < 2 ^ K := by
  rcases mem_getD (xs := xs) (i := i) with e | e
  · rw [e]; exact Nat.pow_pos (by decide)
  · exact h _ e
theorem subF_sz {s l : Int} {K L : Nat} {xs ys : List Int} (hs : s.natAbs < 2 ^ L) (hl : l.natAbs < 2 ^ K) (hx : SzL K xs) (hy : SzL L ys) : SzL (K + L + 1) (subF s l xs ys) := fun x hm => by
  unfold subF at hm
  obtain ⟨p, hp, rfl⟩ := List.mem_map.mp hm
  have h := List.of_mem_zip hp
  have a1 : (s * p.1).natAbs < 2 ^ (K + L) := by
    rw [Int.natAbs_mul, Nat.add_comm, Nat.pow_add]
    exact Nat.mul_lt_mul'' hs (hx _ h.1)
  have a2 : (l * p.2).natAbs < 2 ^ (K + L) := by
    rw [Int.natAbs_mul, Nat.pow_add]
    exact Nat.mul_lt_mul'' hl (hy _ h.2)
  have e : 2 ^ (K + L + 1) = 2 ^ (K + L) + 2 ^ (K + L) := by rw [Nat.pow_succ]; omega
  omega
end Q
end DL
namespace DL
open PySem PySem.Spec PyProof.Rows L2
namespace Q
abbrev sumIN (n : Nat) (f : Nat → Int) : Int := sumI (List.range n) f
theorem sumIN_s {n : Nat} {f : Nat → Int} : sumIN (n + 1) f = sumIN n f + f n := by
  unfold sumIN
  rw [List.range_succ, sumI_app, sumI_1, sumI_0]
  omega
/-- q times D is of ints of K bits -/
def Iq (n D K : Nat) (q : Nat → Rat) : Prop := ∀ i, i < n → ∃ z : Int, ((z : Int) : Rat) = q i * ((D : Int) : Rat) ∧ z.natAbs < 2 ^ K
theorem Iq.num {n D K i : Nat} {q : Nat → Rat} (h : Iq n D K q) (hi : i < n) : ((((q i * ((D : Int) : Rat)).num : Int)) : Rat) = q i * ((D : Int) : Rat) ∧ ((q i * ((D : Int) : Rat)).num).natAbs < 2 ^ K := by
  obtain ⟨z, e, b⟩ := h i hi
  rw [← e]
  exact ⟨rfl, b⟩
end Q
end DL
namespace DL
open PySem PySem.Spec PyProof.Rows L2
def chD (c : Nat) : D := .str ⟨#[c]⟩
end DL
namespace DL
open PySem PySem.Spec PyProof.Rows L2
namespace Q
def InZ (z u : List Nat) : Prop := ∀ c ∈ u, c ∈ z
theorem InZ.nil {z : List Nat} : InZ z [] := fun c h => by simp at h
theorem InZ.cons {z u : List Nat} {c : Nat} (hc : c ∈ z) (h : InZ z u) : InZ z (c :: u) := fun d hd => by
  rcases List.mem_cons.mp hd with rfl | hd
  · exact hc
  · exact h d hd
theorem InZ.app {z u v : List Nat} (h : InZ z u) (k : InZ z v) : InZ z (u ++ v) := fun d hd => by
  rcases List.mem_append.mp hd with hd | hd
  · exact h d hd
  · exact k d hd
theorem InZ.snoc {z u : List Nat} {c : Nat} (h : InZ z u) (hc : c ∈ z) : InZ z (u ++ [c]) := h.app (InZ.cons hc InZ.nil)
section
variable {n c : Nat} {rs : List Rd'} {p q b e : Vec} {z : List Nat}
theorem step_at {j : Nat} : stepQ rs c p j = sumL rs fun r => if r.sg = c ∧ r.bh = j then p r.st * val r.nu else 0 := by
  unfold stepQ
  rw [sumL_filter]
  refine sumL_congr fun r _ => ?_
  by_cases h : r.sg = c ∧ r.bh = j
  · rw [if_pos (by simp [h.1, h.2]), if_pos h]
  · rw [if_neg (by simpa using h), if_neg h]
end
def slt (u v : List Nat) : Prop := u.length < v.length ∨ (u.length = v.length ∧ u < v)
section
variable {u v w : List Nat} {c d : Nat}
theorem lt_snoc : ∀ {u v : List Nat}, u.length = v.length → u < v → u ++ [c] < v ++ [d]
  | [], [], _, h => absurd h (List.lt_irrefl _)
  | a :: u, b :: v, hl, h => by
    rw [List.cons_append, List.cons_append, List.cons_lt_cons_iff]
    rcases List.cons_lt_cons_iff.mp h with h | ⟨h, k⟩
    · exact .inl h
    · exact .inr ⟨h, lt_snoc (by simpa using hl) k⟩
theorem slt_irr : ¬ slt u u := fun h => by
  rcases h with h | ⟨_, h⟩
  · omega
  · exact List.lt_irrefl _ h
theorem slt_trans (h : slt u v) (k : slt v w) : slt u w := by
  rcases h with h | ⟨h, h2⟩
  · rcases k with k | ⟨k, k2⟩
    · exact .inl (by omega)
    · exact .inl (by omega)
  · rcases k with k | ⟨k, k2⟩
    · exact .inl (by omega)
    · exact .inr ⟨by omega, List.lt_trans h2 k2⟩
theorem slt_snoc (h : slt u v) : slt (u ++ [c]) (v ++ [d]) := by
  rcases h with h | ⟨h, k⟩
  · exact .inl (by simp; omega)
  · exact .inr ⟨by simp; omega, lt_snoc h k⟩
theorem slt_asymm (h : slt u v) : ¬ slt v u := fun k => slt_irr (slt_trans h k)
end
end Q
end DL
namespace DL
open PySem PySem.Spec PyProof.Rows L2
namespace Q
def restF (f : List Nat → Rat) (C : List (List Nat)) (u : List Nat) : Vec := fun j => f (u ++ C.getD j [])
structure SpansC (f : List Nat → Rat) (z : List Nat) (C : List (List Nat)) : Prop where
  inz : ∀ v ∈ C, InZ z v
  sp : ∀ v, InZ z v → ∃ d : Nat → Rat, ∀ u, InZ z u → f (u ++ v) = sumN C.length fun j => d j * restF f C u j
structure FormF (f : List Nat → Rat) (z : List Nat) (C H : List (List Nat)) (T : Nat → Nat → Vec) : Prop where
  ind : Ind C.length (H.map (restF f C))
  hd : ∀ (p : Nat) h, H[p]? = some h → (h = [] ∧ p = 0) ∨ ∃ (q : Nat) (g : List Nat) (c : Nat), q < p ∧ H[q]? = some g ∧ c ∈ z ∧ h = g ++ [c]
  em : H = [] → ∀ j, j < C.length → restF f C [] j = 0
  h0 : ∀ h, H[0]? = some h → h = []
  tab : ∀ (p : Nat) h, H[p]? = some h → ∀ c ∈ z, ∀ j, j < C.length → restF f C (h ++ [c]) j = comb (T p c) (H.map (restF f C)) j
  ord : ∀ (i j : Nat) (g h : List Nat), i < j → H[i]? = some g → H[j]? = some h → slt g h
  low : ∀ (p : Nat) h, H[p]? = some h → ∀ c ∈ z, ∀ (k : Nat) (g : List Nat), H[k]? = some g → T p c k ≠ 0 → g = h ++ [c] ∨ slt g (h ++ [c])
section
variable {f : List Nat → Rat} {z : List Nat} {C H : List (List Nat)} {T : Nat → Nat → Vec}
theorem at_map {α : Type} {g : α → Vec} {L : List α} {j : Nat} {x : α} (h : L[j]? = some x) : at_ (L.map g) j = g x := by
  unfold at_
  rw [List.getD_eq_getElem?_getD, List.getElem?_map, h]
  rfl
theorem getD_some {L : List (List Nat)} {j : Nat} (h : j < L.length) : L[j]? = some (L.getD j []) := by
  rw [List.getD_eq_getElem?_getD, List.getElem?_eq_getElem h]
  rfl
theorem FormF.inz (F : FormF f z C H T) : ∀ (p : Nat) h, H[p]? = some h → InZ z h := by
  intro p
  induction p using Nat.strongRecOn with
  | ind p ih =>
    intro h hp
    rcases F.hd p h hp with ⟨rfl, _⟩ | ⟨q, g, c, hq, hg, hc, rfl⟩
    · exact InZ.nil
    · exact (ih q hq g hg).snoc hc
theorem comb_rest {d : Nat → Rat} {c : Nat → Rat} {v u : List Nat} (hv : ∀ u, InZ z u → f (u ++ v) = sumN C.length fun j => d j * restF f C u j) (hH : ∀ h ∈ H, InZ z h) (hu : InZ z u)
    (e : ∀ j, j < C.length → restF f C u j = comb c (H.map (restF f C)) j) : f (u ++ v) = sumN H.length fun k => c k * f (H.getD k [] ++ v) := by
  rw [hv u hu, sumN_congr (g := fun j => sumN H.length fun k => d j * (c k * restF f C (H.getD k []) j)) fun j hj => by
    rw [e j hj]
    unfold comb sumN
    rw [← sumL_mul, List.length_map]
    refine sumL_congr fun k hk => ?_
    rw [at_map (getD_some (List.mem_range.mp hk))]]
  unfold sumN
  rw [sumL_swap]
  refine sumL_congr fun k hk => ?_
  have hk := List.mem_range.mp hk
  have hz : InZ z (H.getD k []) := hH _ (List.mem_of_getElem? (getD_some hk))
  rw [hv _ hz]
  unfold sumN
  rw [← sumL_mul]
  exact sumL_congr fun j _ => by grind
theorem FormF.mem (F : FormF f z C H T) {h : List Nat} (hm : h ∈ H) : InZ z h := by
  obtain ⟨p, hp⟩ := List.mem_iff_getElem?.mp hm
  exact F.inz p h hp
theorem FormF.full (F : FormF f z C H T) (S : SpansC f z C) {p c : Nat} {h v : List Nat} (hp : H[p]? = some h) (hc : c ∈ z) (hv : InZ z v) : f (h ++ c :: v) = sumN H.length fun k => T p c k * f (H.getD k [] ++ v) := by
  obtain ⟨d, hd⟩ := S.sp v hv
  have := comb_rest (H := H) (c := T p c) (u := h ++ [c]) hd (fun h hm => F.mem hm) ((F.inz p h hp).snoc hc) (F.tab p h hp c hc)
  rw [← this]
  simp
theorem FormF.zero (F : FormF f z C H T) (S : SpansC f z C) (hH : H = []) {v : List Nat} (hv : InZ z v) : f v = 0 := by
  obtain ⟨d, hd⟩ := S.sp v hv
  have := hd [] InZ.nil
  rw [List.nil_append] at this
  rw [this]
  exact sumL_zero fun j hj => by rw [F.em hH j (List.mem_range.mp hj)]; grind
theorem FormF.uniq (F : FormF f z C H T) {p c k : Nat} {h : List Nat} (hp : H[p]? = some h) (hc : c ∈ z) (hk : H[k]? = some (h ++ [c])) : ∀ i, i < H.length → T p c i = if i = k then 1 else 0 := by
  have hkl : k < (H.map (restF f C)).length := by
    have := (List.getElem?_eq_some_iff.mp hk).1
    simpa using this
  have := F.ind.uniq (c := T p c) (d := fun i => if i = k then 1 else 0) fun j hj => by
    rw [← F.tab p h hp c hc j hj, comb_one hkl, at_map hk]
  intro i hi
  exact this i (by simpa using hi)
theorem FormF.mono (F : FormF f z C H T) {i j : Nat} {g h : List Nat} (hg : H[i]? = some g) (hh : H[j]? = some h) (s : slt g h) : i < j := by
  rcases Nat.lt_trichotomy i j with q | q | q
  · exact q
  · subst q
    rw [hg] at hh
    cases hh
    exact absurd s slt_irr
  · exact absurd s (slt_asymm (F.ord j i h g q hh hg))
/-- length of a head: at most its place -/
theorem FormF.len (F : FormF f z C H T) : ∀ (p : Nat) h, H[p]? = some h → h.length ≤ p := by
  intro p
  induction p using Nat.strongRecOn with
  | ind p ih =>
    intro h hp
    rcases F.hd p h hp with ⟨rfl, _⟩ | ⟨q, g, c, hq, hg, hc, rfl⟩
    · exact Nat.zero_le _
    · have := ih q hq g hg
      simp
      omega
/-- every message depends on the heads that are not behind it -/
theorem FormF.dep (F : FormF f z C H T) (S : SpansC f z C) : ∀ u, InZ z u → ∃ d : Nat → Rat, (∀ (k : Nat) g, H[k]? = some g → d k ≠ 0 → g = u ∨ slt g u) ∧ ∀ v, InZ z v → f (u ++ v) = sumN H.length fun k => d k * f (H.getD k [] ++ v) := by
  intro u
  induction hn : u.length using Nat.strongRecOn generalizing u with
  | ind n ih =>
    intro hu
    rcases List.eq_nil_or_concat u with rfl | ⟨w, c, rfl⟩
    · by_cases hH : H = []
      · refine ⟨fun _ => 0, fun k g _ h => absurd rfl h, fun v hv => ?_⟩
        rw [List.nil_append, F.zero S hH hv, sumN_congr (g := fun _ => 0) fun k _ => by grind]
        exact (sumL_zero fun _ _ => rfl).symm
      · obtain ⟨h, t, rfl⟩ := List.exists_cons_of_ne_nil hH
        have e0 := F.h0 h rfl
        subst e0
        refine ⟨fun k => if k = 0 then 1 else 0, fun k g hg h => ?_, fun v hv => ?_⟩
        · by_cases hk : k = 0
          · subst hk
            cases hg
            exact .inl rfl
          · exact absurd (if_neg hk) h
        · have := sumN_one (n := ([] :: t).length) (i := 0) (f := fun k => f (([] :: t).getD k [] ++ v)) (by simp)
          refine Eq.trans this.symm ?_
          exact sumN_congr fun k _ => by by_cases hk : k = 0 <;> simp [hk] <;> grind
    · rw [List.concat_eq_append] at hu hn ⊢
      have hw : InZ z w := fun a ha => hu a (by simp [ha])
      have hc : c ∈ z := hu c (by simp)
      obtain ⟨d, d1, d2⟩ := ih w.length (by rw [← hn]; simp) w rfl hw
      refine ⟨fun k => sumN H.length fun p => d p * T p c k, fun k g hg hne => ?_, fun v hv => ?_⟩
      · refine Classical.byContradiction fun hno => hne ?_
        refine sumL_zero fun p hp => ?_
        have hp := List.mem_range.mp hp
        refine Classical.byContradiction fun h1 => ?_
        have a1 : d p ≠ 0 := fun e => h1 (by rw [e]; grind)
        have a2 : T p c k ≠ 0 := fun e => h1 (by rw [e]; grind)
        have b1 := d1 p _ (getD_some hp) a1
        have b2 := F.low p _ (getD_some hp) c hc k g hg a2
        have b3 : H.getD p [] ++ [c] = w ++ [c] ∨ slt (H.getD p [] ++ [c]) (w ++ [c]) := by
          rcases b1 with e | e
          · exact .inl (by rw [e])
          · exact .inr (slt_snoc e)
        apply hno
        rcases b2 with e | e
        · rw [e]; exact b3
        · rcases b3 with e3 | e3
          · rw [← e3]; exact .inr e
          · exact .inr (slt_trans e e3)
      · have e1 : w ++ [c] ++ v = w ++ c :: v := by simp
        rw [e1, d2 (c :: v) (hv.cons hc), sumN_congr (g := fun p => sumN H.length fun k => d p * (T p c k * f (H.getD k [] ++ v))) fun p hp => by
          rw [F.full S (getD_some hp) hc hv]
          unfold sumN
          rw [← sumL_mul]]
        unfold sumN
        rw [sumL_swap]
        refine sumL_congr fun k _ => ?_
        rw [← sumL_mulr]
        exact sumL_congr fun p _ => by grind
/-- a head is no sum of multiples of messages ahead of it -/
theorem FormF.free (F : FormF f z C H T) (S : SpansC f z C) {p : Nat} {h : List Nat} (hp : H[p]? = some h) {L : List (List Nat)} (hL : ∀ l ∈ L, InZ z l ∧ slt l h) (d : Nat → Rat) :
    ¬ ∀ j, j < C.length → restF f C h j = sumN L.length fun i => d i * restF f C (L.getD i []) j := fun hall => by
  have hpl : p < (H.map (restF f C)).length := by
    have := (List.getElem?_eq_some_iff.mp hp).1
    simpa using this
  -- each l by heads ahead
  have hl : ∀ i, i < L.length → ∃ e : Nat → Rat, (∀ (k : Nat) g, H[k]? = some g → e k ≠ 0 → k < p) ∧ ∀ j, j < C.length → restF f C (L.getD i []) j = comb e (H.map (restF f C)) j := fun i hi => by
    obtain ⟨q1, q2⟩ := hL _ (List.mem_of_getElem? (getD_some hi))
    obtain ⟨e, e1, e2⟩ := F.dep S _ q1
    refine ⟨e, fun k g hg hne => ?_, fun j hj => ?_⟩
    · rcases e1 k g hg hne with q | q
      · rw [← q] at q2
        exact F.mono hg hp q2
      · exact F.mono hg hp (slt_trans q q2)
    · have := e2 (C.getD j []) (S.inz _ (List.mem_of_getElem? (getD_some hj)))
      refine Eq.trans this ?_
      unfold comb
      rw [List.length_map]
      refine sumN_congr fun k hk => ?_
      rw [at_map (getD_some hk)]
      rfl
  let e : Nat → Nat → Rat := fun i => if hi : i < L.length then Classical.choose (hl i hi) else fun _ => 0
  have he : ∀ i, i < L.length → (∀ (k : Nat) g, H[k]? = some g → e i k ≠ 0 → k < p) ∧ ∀ j, j < C.length → restF f C (L.getD i []) j = comb (e i) (H.map (restF f C)) j := fun i hi => by
    have := Classical.choose_spec (hl i hi)
    simp only [e, hi, dif_pos]
    exact this
  have := F.ind.uniq (c := fun k => if k = p then 1 else 0) (d := fun k => sumN L.length fun i => d i * e i k) (fun j hj => by
    rw [comb_one hpl, at_map hp, hall j hj, sumN_congr (g := fun i => sumN (H.map (restF f C)).length fun k => d i * (e i k * at_ (H.map (restF f C)) k j)) fun i hi => by
      rw [(he i hi).2 j hj]
      unfold comb sumN
      rw [← sumL_mul]]
    unfold comb sumN
    rw [sumL_swap]
    refine sumL_congr fun k _ => ?_
    rw [← sumL_mulr]
    exact sumL_congr fun i _ => by grind) p hpl
  rw [if_pos rfl] at this
  have h0 : (sumN L.length fun i => d i * e i p) = 0 := sumL_zero fun i hi => by
    have := (he i (List.mem_range.mp hi)).1 p h hp
    by_cases q : e i p = 0
    · rw [q]; grind
    · exact absurd (this q) (Nat.lt_irrefl _)
  rw [h0] at this
  exact absurd this (by decide)
theorem sumL_flat {α β : Type} {l : List α} {g : α → List β} {f : β → Rat} : sumL (l.flatMap g) f = sumL l fun x => sumL (g x) f := by
  induction l with
  | nil => rfl
  | cons x r ih => rw [List.flatMap_cons, sumL_app, sumL_1, ih]
def tRoads (m : Nat) (z : List Nat) (T : Nat → Nat → Vec) : List Rd' :=
  (List.range m).flatMap fun k => z.flatMap fun c => ((List.range m).filter fun j => decide (T k c j ≠ 0)).map fun j => ⟨k, c, j, qn (T k c j)⟩
theorem sum_one_sign {c : Nat} {x : Nat → Rat} : ∀ {z : List Nat}, z.Nodup → c ∈ z → sumL z (fun d => if d = c then x d else 0) = x c
  | a :: z, nd, h => by
    obtain ⟨n1, n2⟩ := List.nodup_cons.mp nd
    rw [sumL_1]
    by_cases ha : a = c
    · subst ha
      rw [if_pos rfl, sumL_zero fun d hd => if_neg fun (e : d = a) => n1 (by rw [← e]; exact hd)]
      grind
    · rw [if_neg ha, sum_one_sign n2 ((List.mem_cons.mp h).resolve_left fun e => ha e.symm)]
      grind
theorem tRoads_sum {m c : Nat} (nd : z.Nodup) (hc : c ∈ z) {w : Nat → Nat → Rat} : sumL (tRoads m z T) (fun r => if r.sg = c then w r.st r.bh * val r.nu else 0) = sumN m fun k => sumN m fun j => w k j * T k c j := by
  unfold tRoads
  rw [sumL_flat]
  refine sumL_congr fun k _ => ?_
  rw [sumL_flat]
  refine Eq.trans ?_ (sum_one_sign (x := fun d => sumN m fun j => w k j * T k d j) nd hc)
  refine sumL_congr fun d _ => ?_
  rw [sumL_map, sumL_filter]
  by_cases hd : d = c
  · rw [if_pos hd]
    refine sumL_congr fun j _ => ?_
    rw [if_pos hd, val_qn]
    by_cases h : T k d j = 0
    · rw [if_neg (by simp [h]), h]; grind
    · rw [if_pos (by simp [h])]
  · rw [if_neg hd]
    refine sumL_zero fun j _ => ?_
    rw [if_neg hd]
    split <;> rfl
theorem tRoads_step {m c j : Nat} {p : Vec} (nd : z.Nodup) (hc : c ∈ z) (hj : j < m) : stepQ (tRoads m z T) c p j = sumN m fun k => p k * T k c j := by
  rw [step_at, sumL_congr (g := fun r => if r.sg = c then (if r.bh = j then p r.st else 0) * val r.nu else 0) fun r _ => by
    by_cases h1 : r.sg = c <;> by_cases h2 : r.bh = j <;> simp [h1, h2]]
  rw [tRoads_sum (w := fun k i => if i = j then p k else 0) nd hc]
  refine sumN_congr fun k _ => ?_
  refine Eq.trans ?_ (sumN_one (f := fun i => p k * T k c i) hj)
  refine sumN_congr fun i _ => ?_
  by_cases h : i = j <;> simp [h]
/-- the row of a message over the heads -/
theorem FormF.row (F : FormF f z C H T) (S : SpansC f z C) (nd : z.Nodup) : ∀ (u : List Nat), InZ z u → ∀ (r : Vec) (w : List Nat), (∀ v, InZ z v → f (w ++ v) = sumN H.length fun k => r k * f (H.getD k [] ++ v)) →
    ∀ v, InZ z v → f (w ++ u ++ v) = sumN H.length fun k => goQ (tRoads H.length z T) u r k * f (H.getD k [] ++ v)
  | [], _, r, w, hr, v, hv => by rw [List.append_nil]; exact hr v hv
  | c :: u, hu, r, w, hr, v, hv => by
    have hc : c ∈ z := hu c (by simp)
    have hu' : InZ z u := fun a ha => hu a (by simp [ha])
    have := FormF.row F S nd u hu' (stepQ (tRoads H.length z T) c r) (w ++ [c]) (fun v hv => by
      have e1 : w ++ [c] ++ v = w ++ c :: v := by simp
      rw [e1, hr (c :: v) (hv.cons hc), sumN_congr (g := fun p => sumN H.length fun k => r p * (T p c k * f (H.getD k [] ++ v))) fun p hp => by
        rw [F.full S (getD_some hp) hc hv]
        unfold sumN
        rw [← sumL_mul]]
      unfold sumN
      rw [sumL_swap]
      refine sumL_congr fun k hk => ?_
      rw [tRoads_step nd hc (List.mem_range.mp hk), ← sumL_mulr]
      exact sumL_congr fun p _ => by grind) v hv
    have e2 : w ++ [c] ++ u ++ v = w ++ c :: u ++ v := by simp
    rw [e2] at this
    exact this
end
end Q
end DL
namespace DL
open PySem PySem.Spec PyProof.Rows L2
open PySem.W (alike alikeAll dataLt lt_data dataLt_pair dataLt_int dataLt_str)
def gLtT : List D → Option D
  | [.tup xs, .tup ys] => match pyd (.tup xs), pyd (.tup ys) with
    | some p, some q => if alike p q = true ∧ min p.depth q.depth ≤ 64 then some (.bl (dataLt p q)) else none
    | _, _ => none
  | ds => gLt ds
@[simp] theorem ltT_i {i j : Int} : gLtT [.int i, .int j] = some (.bl (decide (i < j))) := rfl
@[simp] theorem ltT_is {i j : Int} {a b : List Nat} : gLtT [.tup [.int i, sD a], .tup [.int j, sD b]] = some (.bl (decide (i < j ∨ (i = j ∧ a < b)))) := by
  have e1 : pyd (.tup [.int i, sD a]) = some (.tuple [.int i, .str ⟨a.toArray⟩]) := rfl
  have e2 : pyd (.tup [.int j, sD b]) = some (.tuple [.int j, .str ⟨b.toArray⟩]) := rfl
  have e3 : alike (.tuple [.int i, .str ⟨a.toArray⟩]) (.tuple [.int j, .str ⟨b.toArray⟩]) = true := by simp [alike, alikeAll]
  have e4 : min (PyData.tuple [.int i, .str ⟨a.toArray⟩]).depth (PyData.tuple [.int j, .str ⟨b.toArray⟩]).depth ≤ 64 := Nat.le_trans (Nat.min_le_left _ _) (by show PyData.depth _ ≤ 64; simp [PyData.depth, PyData.depthAll])
  have e5 : dataLt (.tuple [.int i, .str ⟨a.toArray⟩]) (.tuple [.int j, .str ⟨b.toArray⟩]) = decide (i < j ∨ (i = j ∧ a < b)) := by
    rw [dataLt_pair (by simp [alike]) (by simp [alike]), dataLt_int, dataLt_str]
    simp only [PyData.eqv, beq_iff_eq]
    by_cases h1 : i = j
    · subst h1
      by_cases h2 : a = b
      · subst h2
        simp [List.lt_irrefl]
      · have : ¬ (⟨a.toArray⟩ : Str) = ⟨b.toArray⟩ := fun h => h2 (by injection h with h; simpa using h)
        simp [this]
    · simp [h1]
  unfold gLtT
  dsimp only
  rw [e1, e2]
  dsimp only
  rw [if_pos ⟨e3, e4⟩, e5]
end DL
namespace DL
open PySem PySem.Spec PyProof.Rows L2
end DL
namespace DL
open PySem PySem.Spec PyProof.Rows L2
namespace Q
end Q
end DL
namespace DL
open PySem PySem.Spec PyProof.Rows L2
namespace Q
theorem Iq.up {n D E K k : Nat} {q : Vec} (h : Iq n D K q) (hE : E ≤ 2 ^ k) : Iq n (D * E) (K + k) q := fun i hi => by
  obtain ⟨z, e, b⟩ := h i hi
  refine ⟨z * (E : Int), ?_, ?_⟩
  · rw [Rat.intCast_mul, e, Int.natCast_mul, Rat.intCast_mul]
    grind
  · rw [Int.natAbs_mul, Int.natAbs_natCast, Nat.pow_add]
    exact Nat.lt_of_le_of_lt (Nat.mul_le_mul_left _ hE) (Nat.mul_lt_mul_of_pos_right b (Nat.pow_pos (by decide)))
theorem Iq.mono {n D K L : Nat} {q : Vec} (h : Iq n D K q) (l : K ≤ L) : Iq n D L q := fun i hi => by
  obtain ⟨z, e, b⟩ := h i hi
  exact ⟨z, e, Nat.lt_of_lt_of_le b (Nat.pow_le_pow_right (by decide) l)⟩
theorem Iq.congr {n D K : Nat} {q r : Vec} (h : Iq n D K q) (e : ∀ i, i < n → q i = r i) : Iq n D K r := fun i hi => by
  rw [← e i hi]; exact h i hi
end Q
end DL
namespace DL.Q
open PySem DL
abbrev KeR := Nat × List Int
def divG (xs : List Int) : List Int := if 1 < gcdF 0 xs then xs.map (·.fdiv (gcdF 0 xs : Int)) else xs
def eliR (row : List Int) (e : KeR) : List Int := if row.getD e.1 0 = 0 then row else divG (subF (e.2.getD e.1 0) (row.getD e.1 0) row e.2)
def restR (es : List KeR) (row : List Int) : List Int := es.foldl eliR row
def vecI (xs : List Int) : Vec := fun i => ((xs.getD i 0 : Int) : Rat)
theorem divG_len {xs : List Int} : (divG xs).length = xs.length := by unfold divG; split <;> simp
theorem divG_vec (xs : List Int) : ∃ b : Rat, b ≠ 0 ∧ ∀ i, vecI (divG xs) i = b * vecI xs i := by
  unfold divG
  split
  · rename_i h
    have g0 : 0 < gcdF 0 xs := by omega
    have gr : ((gcdF 0 xs : Int) : Rat) ≠ 0 := by
      have : ((gcdF 0 xs : Nat) : Int) ≠ 0 := by omega
      intro e
      exact this (Rat.intCast_inj.mp (by rw [e]; rfl))
    refine ⟨1 / ((gcdF 0 xs : Int) : Rat), by grind, fun i => ?_⟩
    unfold vecI
    rw [getD_map_fdiv]
    have hd : gcdF 0 xs ∣ (xs.getD i 0).natAbs := by
      rcases mem_getD (xs := xs) (i := i) with e | e
      · rw [e]; exact Nat.dvd_zero _
      · exact (gcdF_dvd xs 0).2 _ e
    have := fdiv_cast (x := xs.getD i 0) g0 hd
    grind
  · exact ⟨1, by decide, fun i => by grind⟩
theorem divG_sz {K : Nat} {xs : List Int} (h : SzL K xs) : SzL K (divG xs) := by
  unfold divG
  split
  · rename_i hg
    intro x hx
    obtain ⟨y, hy, rfl⟩ := List.mem_map.mp hx
    exact Nat.lt_of_le_of_lt (fdiv_abs (by omega) ((gcdF_dvd xs 0).2 y hy)) (h y hy)
  · exact h
theorem eliR_len {row : List Int} {e : KeR} (h : row.length = e.2.length) : (eliR row e).length = row.length := by
  unfold eliR
  split
  · rfl
  · rw [divG_len, subF_len h]
theorem eliR_vec {row : List Int} {e : KeR} (h : row.length = e.2.length) (hp : e.2.getD e.1 0 ≠ 0) : ∃ b c : Rat, b ≠ 0 ∧ (∀ i, vecI (eliR row e) i = b * vecI row i + c * vecI e.2 i) ∧ vecI (eliR row e) e.1 = 0 := by
  unfold eliR
  split
  · rename_i h0
    refine ⟨1, 0, by decide, fun i => by grind, ?_⟩
    unfold vecI
    rw [h0]; rfl
  · rename_i h0
    obtain ⟨b, hb, e1⟩ := divG_vec (subF (e.2.getD e.1 0) (row.getD e.1 0) row e.2)
    have e2 : ∀ i, vecI (subF (e.2.getD e.1 0) (row.getD e.1 0) row e.2) i = vecI e.2 e.1 * vecI row i - vecI row e.1 * vecI e.2 i := fun i => by
      unfold vecI
      rw [subF_at h, Rat.intCast_sub, Rat.intCast_mul, Rat.intCast_mul]
    have hp' : vecI e.2 e.1 ≠ 0 := fun q => hp (by
      unfold vecI at q
      exact Rat.intCast_inj.mp (by rw [q]; rfl))
    refine ⟨b * vecI e.2 e.1, -(b * vecI row e.1), by
      intro q
      rcases Rat.mul_eq_zero.mp q with q | q
      · exact hb q
      · exact hp' q, fun i => ?_, ?_⟩
    · rw [e1, e2]; grind
    · rw [e1, e2]; grind
theorem eliR_sz {A B : Nat} {row : List Int} {e : KeR} (hr : SzL A row) (he : SzL B e.2) : SzL (A + B + 1) (eliR row e) := by
  unfold eliR
  split
  · exact hr.mono (by omega)
  · exact divG_sz (subF_sz he.getD hr.getD hr he)
structure KeptR (n : Nat) (V : List Vec) (es : List KeR) : Prop where
  len : ∀ e ∈ es, e.2.length = n
  ech : Ech n V (es.map fun e => vecI e.2) (fun j => (es.getD j (0, [])).1)
section
variable {n : Nat} {V : List Vec} {es : List KeR} {row : List Int}
theorem at_es {j : Nat} {e : KeR} (he : es[j]? = some e) : at_ (es.map fun e => vecI e.2) j = vecI e.2 := by
  unfold at_
  rw [List.getD_eq_getElem?_getD, List.getElem?_map, he]
  rfl
theorem p_es {j : Nat} {e : KeR} (he : es[j]? = some e) : (es.getD j (0, [])).1 = e.1 := by
  rw [List.getD_eq_getElem?_getD, he]
  rfl
theorem KeptR.piv (h : KeptR n V es) {j : Nat} {e : KeR} (he : es[j]? = some e) : e.1 < n ∧ e.2.getD e.1 0 ≠ 0 ∧ ∀ i e', i < j → es[i]? = some e' → vecI e.2 e'.1 = 0 := by
  have hj : j < (es.map fun e => vecI e.2).length := by rw [List.length_map]; exact (List.getElem?_eq_some_iff.mp he).1
  have h1 := h.ech.pn j hj
  have h2 := h.ech.pz j hj
  rw [p_es he] at h1 h2
  rw [at_es he] at h2
  refine ⟨h1, fun q => h2 ?_, fun i e' hi he' => ?_⟩
  · unfold vecI
    rw [q]; rfl
  · have := h.ech.zz j hj i hi
    rw [p_es he', at_es he] at this
    exact this
theorem KeptR.spn (h : KeptR n V es) {j : Nat} {e : KeR} (he : es[j]? = some e) : Span n V (vecI e.2) := by
  have hj : j < (es.map fun e => vecI e.2).length := by rw [List.length_map]; exact (List.getElem?_eq_some_iff.mp he).1
  have := (h.ech.sp j hj).1
  rw [at_es he] at this
  exact this
theorem restR_take (h : KeptR n V es) (hl : row.length = n) : ∀ m, m ≤ es.length → (restR (es.take m) row).length = n ∧ ∃ a : Rat, a ≠ 0 ∧ Span n V (fun i => vecI (restR (es.take m) row) i - a * vecI row i) ∧ ∀ j e, j < m → es[j]? = some e → vecI (restR (es.take m) row) e.1 = 0
  | 0, _ => ⟨hl, 1, by decide, Span.zero.congr fun i _ => by
      show 0 = vecI row i - 1 * vecI row i
      grind, fun j e hj => by omega⟩
  | m + 1, hm => by
    obtain ⟨l1, a, a0, s, z⟩ := restR_take h hl m (by omega)
    obtain ⟨e, he⟩ : ∃ e, es[m]? = some e := ⟨es[m], List.getElem?_eq_getElem (by omega)⟩
    have et : restR (es.take (m + 1)) row = eliR (restR (es.take m) row) e := by
      unfold restR
      rw [List.take_add_one, he, List.foldl_append]
      rfl
    obtain ⟨p1, p2, p3⟩ := h.piv he
    have el : e.2.length = n := h.len e (List.mem_of_getElem? he)
    obtain ⟨b, c, b0, v1, v2⟩ := eliR_vec (row := restR (es.take m) row) (e := e) (by rw [l1, el]) p2
    rw [et]
    refine ⟨by rw [eliR_len (by rw [l1, el])]; exact l1, b * a, by
      intro q
      rcases Rat.mul_eq_zero.mp q with q | q
      · exact b0 q
      · exact a0 q, ?_, fun j e' hj he' => ?_⟩
    · exact ((s.mul (a := b)).add ((h.spn he).mul (a := c))).congr fun i _ => by rw [v1]; grind
    · by_cases q : j = m
      · subst q
        rw [he] at he'
        cases he'
        exact v2
      · rw [v1, z j e' (by omega) he', p3 j e' (by omega) he']
        grind
theorem restR_ok (h : KeptR n V es) (hl : row.length = n) : (restR es row).length = n ∧ ∃ a : Rat, a ≠ 0 ∧ Span n V (fun i => vecI (restR es row) i - a * vecI row i) ∧ ∀ j, j < (es.map fun e => vecI e.2).length → vecI (restR es row) ((es.getD j (0, [])).1) = 0 := by
  obtain ⟨l, a, a0, s, z⟩ := restR_take h hl es.length (Nat.le_refl _)
  rw [List.take_length] at l s z
  refine ⟨l, a, a0, s, fun j hj => ?_⟩
  rw [List.length_map] at hj
  have he : es[j]? = some es[j] := List.getElem?_eq_getElem hj
  rw [p_es he]
  exact z j _ hj he
theorem KeptR.zero (h : KeptR n V es) (hl : row.length = n) : (∀ i, i < n → (restR es row).getD i 0 = 0) ↔ Span n V (vecI row) := by
  obtain ⟨l, a, a0, s, z⟩ := restR_ok h hl
  constructor
  · intro h0
    refine (s.mul (a := -(1 / a))).congr fun i hi => ?_
    have : vecI (restR es row) i = 0 := by unfold vecI; rw [h0 i hi]; rfl
    rw [this]
    grind
  · intro hs i hi
    have s2 : Span n V (vecI (restR es row)) := (s.add (hs.mul (a := a))).congr fun i _ => by grind
    have := h.ech.zero s2 z i hi
    unfold vecI at this
    exact Rat.intCast_inj.mp (by rw [this]; rfl)
theorem KeptR.put (h : KeptR n V es) (hl : row.length = n) {q : Nat} (hq : q < n) (h0 : (restR es row).getD q 0 ≠ 0) : KeptR n (V ++ [vecI row]) (es ++ [(q, restR es row)]) := by
  obtain ⟨l, a, a0, s, z⟩ := restR_ok h hl
  refine ⟨fun e he => ?_, ?_⟩
  · rcases List.mem_append.mp he with he | he
    · exact h.len e he
    · rw [List.mem_singleton.mp he]; exact l
  · have := h.ech.put a0 s z hq (fun e => h0 (by
      unfold vecI at e
      exact Rat.intCast_inj.mp (by rw [e]; rfl)))
    rw [List.map_append]
    refine this.pcongr fun j hj => ?_
    rw [List.length_append, List.length_map, List.length_singleton] at hj
    rw [List.length_map, List.getD_eq_getElem?_getD, List.getD_eq_getElem?_getD]
    by_cases e : j = es.length
    · rw [if_pos e, e, List.getElem?_append_right (Nat.le_refl _), Nat.sub_self]
      rfl
    · rw [if_neg e, List.getElem?_append_left (by omega)]
theorem KeptR.nil : KeptR n [] [] := ⟨fun e h => by simp at h, Ech.nil⟩
def SzR (K : Nat) (es : List KeR) : Prop := ∀ (j : Nat) e, es[j]? = some e → SzL (2 ^ j * (K + 1) - 1) e.2
theorem restR_sz {K : Nat} (hE : SzR K es) (hK : SzL K row) : ∀ m, m ≤ es.length → SzL (2 ^ m * (K + 1) - 1) (restR (es.take m) row)
  | 0, _ => by
    show SzL (2 ^ 0 * (K + 1) - 1) row
    rw [Nat.pow_zero, Nat.one_mul]
    exact hK
  | m + 1, hm => by
    have ih := restR_sz hE hK m (by omega)
    obtain ⟨e, he⟩ : ∃ e, es[m]? = some e := ⟨es[m], List.getElem?_eq_getElem (by omega)⟩
    have et : restR (es.take (m + 1)) row = eliR (restR (es.take m) row) e := by
      unfold restR
      rw [List.take_add_one, he, List.foldl_append]
      rfl
    rw [et]
    have := eliR_sz ih (hE m e he)
    have hp : 0 < 2 ^ m * (K + 1) := Nat.mul_pos (Nat.pow_pos (by decide)) (by omega)
    refine this.mono ?_
    rw [Nat.pow_succ, Nat.mul_right_comm]
    omega
theorem SzR.put {K : Nat} (hE : SzR K es) (hK : SzL K row) (q : Nat) : SzR K (es ++ [(q, restR es row)]) := fun j e he => by
  by_cases h : j < es.length
  · rw [List.getElem?_append_left h] at he
    exact hE j e he
  · rw [List.getElem?_append_right (by omega)] at he
    have hj : j - es.length = 0 := by
      have := (List.getElem?_eq_some_iff.mp he).1
      simp at this
      omega
    rw [hj] at he
    cases he
    have := restR_sz hE hK es.length (Nat.le_refl _)
    rw [List.take_length] at this
    rw [show j = es.length by omega]
    exact this
end
end DL.Q
namespace DL.Q
open PySem DL
def Lat (m : Nat) (A : Nat → Nat → Int) (v : Nat → Int) : Prop := ∃ x : Nat → Int, ∀ t, t < m → v t = sumIN m fun i => x i * A i t
theorem sumIN_congr {n : Nat} {f g : Nat → Int} (h : ∀ i, i < n → f i = g i) : sumIN n f = sumIN n g := sumI_congr fun i hi => h i (List.mem_range.mp hi)
theorem sumIN_add {n : Nat} {f g : Nat → Int} : sumIN n f + sumIN n g = sumIN n fun t => f t + g t := by
  induction n with
  | zero => rfl
  | succ n ih => rw [sumIN_s, sumIN_s, sumIN_s, ← ih]; omega
theorem sumIN_mul {n : Nat} {a : Int} {f : Nat → Int} : a * sumIN n f = sumIN n fun t => a * f t := by
  induction n with
  | zero => exact Int.mul_zero a
  | succ n ih => rw [sumIN_s, sumIN_s, Int.mul_add, ih]
section
variable {m : Nat} {A : Nat → Nat → Int} {v w : Nat → Int}
theorem Lat.congr (h : Lat m A v) (e : ∀ t, t < m → v t = w t) : Lat m A w := by
  obtain ⟨x, hx⟩ := h
  exact ⟨x, fun t ht => by rw [← e t ht]; exact hx t ht⟩
theorem Lat.add (h : Lat m A v) (k : Lat m A w) : Lat m A fun t => v t + w t := by
  obtain ⟨x, hx⟩ := h
  obtain ⟨y, hy⟩ := k
  exact ⟨fun i => x i + y i, fun t ht => by
    show v t + w t = sumIN m fun i => (x i + y i) * A i t
    rw [hx t ht, hy t ht, sumIN_add]
    exact sumIN_congr fun i _ => by rw [Int.add_mul]⟩
theorem Lat.mul (a : Int) (h : Lat m A v) : Lat m A fun t => a * v t := by
  obtain ⟨x, hx⟩ := h
  exact ⟨fun i => a * x i, fun t ht => by
    show a * v t = sumIN m fun i => a * x i * A i t
    rw [hx t ht, sumIN_mul]
    exact sumIN_congr fun i _ => by rw [Int.mul_assoc]⟩
theorem Lat.zero : Lat m A fun _ => 0 := ⟨fun _ => 0, fun t _ => by
  have : ∀ n, (sumIN n fun i => (0 : Int) * A i t) = 0 := fun n => by
    induction n with
    | zero => rfl
    | succ n ih => rw [sumIN_s, ih]; simp
  exact (this m).symm⟩
/-- n at place k, 0 behind it, anything ahead of it -/
def Up (m : Nat) (A : Nat → Nat → Int) (k : Nat) (n : Int) : Prop := ∃ c : Nat → Int, Lat m A fun t => if t = k then n else if t < k then c t else 0
theorem Up.neg {k : Nat} {n : Int} (h : Up m A k n) : Up m A k (-n) := by
  obtain ⟨c, h⟩ := h
  exact ⟨fun t => -c t, (h.mul (-1)).congr fun t _ => by
    show -1 * (if t = k then n else if t < k then c t else 0) = if t = k then -n else if t < k then -c t else 0
    split
    · omega
    · split <;> omega⟩
def OrdOk (m : Nat) (A : Nat → Nat → Int) (o : Nat → Nat) : Prop := ∀ k, k < m → 0 < o k ∧ Up m A k (o k) ∧ ∀ n : Nat, 0 < n → n < o k → ¬ Up m A k n
theorem apart {o : Nat → Nat} (ho : OrdOk m A o) {c d : Nat → Nat} (hc : ∀ k, k < m → c k < o k) (hd : ∀ k, k < m → d k < o k) (h : Lat m A fun t => (c t : Int) - (d t : Int)) : ∀ k, k < m → c k = d k := by
  have key : ∀ j, j ≤ m → ∀ t, m - j ≤ t → t < m → c t = d t := by
    intro j
    induction j with
    | zero => intro _ t h1 h2; omega
    | succ j ih =>
      intro hj t h1 h2
      by_cases q : m - j ≤ t
      · exact ih (by omega) t q h2
      · have ht : t = m - j - 1 := by omega
        refine Classical.byContradiction fun hne => ?_
        have hu : Up m A t ((c t : Int) - (d t : Int)) := ⟨fun i => (c i : Int) - (d i : Int), h.congr fun s hs => by
          by_cases e1 : s = t
          · rw [if_pos e1, e1]
          · rw [if_neg e1]
            by_cases e2 : s < t
            · rw [if_pos e2]
            · rw [if_neg e2, ih (by omega) s (by omega) hs]
              omega⟩
        have h3 := hc t h2
        have h4 := hd t h2
        obtain ⟨_, _, hmin⟩ := ho t h2
        rcases (by omega : d t < c t ∨ c t < d t) with q2 | q2
        · exact hmin (c t - d t) (by omega) (by omega) (by
            rw [show ((c t - d t : Nat) : Int) = (c t : Int) - (d t : Int) by omega]
            exact hu)
        · exact hmin (d t - c t) (by omega) (by omega) (by
            rw [show ((d t - c t : Nat) : Int) = -((c t : Int) - (d t : Int)) by omega]
            exact hu.neg)
  intro k hk
  exact key m (Nat.le_refl m) k (by omega) hk
end
end DL.Q
namespace DL.Q
open PySem DL
end DL.Q
namespace DL
open PySem PySem.Spec PyProof.Rows L2
@[simp] theorem sh_rng {lo hi : Int} : (D.rng lo hi).sh = true := rfl
@[simp] theorem fz_rng {lo hi : Int} : frz (.rng lo hi) = .rng lo hi := rfl
end DL
namespace DL
open PySem PySem.Spec PyProof.Rows L2
def zipD (xs ys : List D) : List D := (xs.zip ys).map fun p => .tup [p.1, p.2]
/-- the items of a list, own ones all plain -/
def lstO : D → Option (List D)
  | .ol ds => if allSh ds = true then some ds else none
  | d => lstF d
def sForZ (j j2 : Nat) (t : Tgt) (body : Sv) : Sv := fun ρ => match slotOf ρ j with
  | some d => match lstO d with
    | some ds => match slotOf ρ j2 with
      | some d2 => match lstF d2 with
        | some es => (forE t body (zipD ds es) (ρ.set j none)).map (mapS fun ρ => ρ.set j (some d))
        | none => none
      | none => none
    | none => none
  | none => none
section
variable {ρ : DEnv} {j j2 : Nat} {t : Tgt} {s : Sv}
@[simp] theorem r_forZ : sForZ j j2 t s ρ = bO (slotOf ρ j) fun d => bO (lstO d) fun ds => bO (slotOf ρ j2) fun d2 => bO (lstF d2) fun es => mpS j d (forE t s (zipD ds es) (ρ.set j none)) := by
  unfold sForZ bO
  cases slotOf ρ j with
  | none => rfl
  | some d =>
    cases h : lstO d with
    | none => simp [h]
    | some ds =>
      cases slotOf ρ j2 with
      | none => simp [h]
      | some d2 => cases h2 : lstF d2 <;> simp [h, h2, mpS]
@[simp] theorem lstO_o {ds : List D} : lstO (.ol ds) = if allSh ds = true then some ds else none := rfl
@[simp] theorem lstO_l {ds : List D} : lstO (.lst ds) = some ds := rfl
@[simp] theorem lstF_l {ds : List D} : lstF (.lst ds) = some ds := rfl
@[simp] theorem lstF_f {ds : List D} : lstF (.frl ds) = some ds := rfl
end
end DL
namespace DL
open PySem PySem.Spec PyProof.Rows L2
/-- the items of a list or a tuple, all plain -/
def plainL : D → Option (List D)
  | .tup ds => some ds
  | d => lstO d
def evStar (f : Ev AV) (g : Ev (List AV)) : Ev (List AV) := f.andThen fun a ρ1 => match cont ρ1 a with
  | some d => match plainL d with
    | some ds => (g.andThen fun as => .pure (ds.map .val ++ as)) ρ1
    | none => none
  | none => none
section
variable {ρ : DEnv} {f : Ev AV} {g : Ev (List AV)}
@[simp] theorem r_star : evStar f g ρ = bE (f ρ) fun a ρ1 => bO (cont ρ1 a) fun d => bO (plainL d) fun ds => bE (g ρ1) fun as ρ2 => some (.ok (ds.map .val ++ as) ρ2) := by
  unfold evStar
  rw [r_then]
  refine congrArg (bE (f ρ)) (funext fun a => funext fun ρ1 => ?_)
  unfold bO
  cases cont ρ1 a with
  | none => rfl
  | some d =>
    cases h : plainL d with
    | none => simp [h]
    | some ds => simp [h, r_then]; rfl
@[simp] theorem conts_vals {ds : List D} : conts ρ (ds.map .val) = some ds := by
  induction ds with
  | nil => rfl
  | cons d ds ih => rw [List.map_cons, conts_1, ih]; rfl
@[simp] theorem conts_valsA {ds : List D} {as : List AV} : conts ρ (ds.map .val ++ as) = bO (conts ρ as) fun es => some (ds ++ es) := by
  induction ds with
  | nil => rw [List.map_nil, List.nil_append]; cases conts ρ as <;> rfl
  | cons d ds ih => rw [List.map_cons, List.cons_append, conts_1, ih]; cases conts ρ as <;> rfl
@[simp] theorem plS_vals {ds : List D} : plS (ds.map .val) = [] := by
  induction ds with
  | nil => rfl
  | cons d ds ih => rw [List.map_cons, plS_v, ih]
@[simp] theorem plS_valsA {ds : List D} {as : List AV} : plS (ds.map .val ++ as) = plS as := by
  induction ds with
  | nil => rfl
  | cons d ds ih => rw [List.map_cons, List.cons_append, plS_v, ih]
@[simp] theorem plainL_o {ds : List D} : plainL (.ol ds) = if allSh ds = true then some ds else none := rfl
@[simp] theorem plainL_l {ds : List D} : plainL (.lst ds) = some ds := rfl
@[simp] theorem plainL_f {ds : List D} : plainL (.frl ds) = some ds := rfl
@[simp] theorem plainL_t {ds : List D} : plainL (.tup ds) = some ds := rfl
end
end DL
namespace DL
open PySem PySem.Spec PyProof.Rows L2
def enumD (xs : List D) : List D := (List.range xs.length).zip xs |>.map fun p => .tup [.int (p.1 : Nat), p.2]
def gEnumS : List D → Option (List D)
  | [.str x] => some (enumD (x.cps.toList.map chD))
  | _ => none
/-- what one goes along -/
def enumC (m : List Nat) : List D := (List.range m.length).zip m |>.map fun p => .tup [.int (p.1 : Nat), sD [p.2]]
@[simp] theorem enumS_s (m : List Nat) : gEnumS [sD m] = some (enumC m) := by
  show some (enumD (m.map chD)) = _
  unfold enumD enumC
  rw [List.length_map, List.zip_map_right, List.map_map]
  rfl
end DL
namespace DL
open PySem PySem.Spec PyProof.Rows L2
/-- the law's end over a head by facts -/
theorem walk_bigE {l : PySem.W.OpenLaw} {n k : Nat} {q : Program} {loose : List Str} {XP : (Str → Option Value) → Heap → Prop} {YP : World → Heap → Prop} {d : DefRec} {CX : World → CXT} {sp : PySem.W.Frag → Sp} {x : Str}
    (hi : importsNone q = true) (hn : l.most = some n) (hn2 : n ≤ sizeLine) (hdf : d.params.defaults = []) (hr : Room k callerA)
    (F : ∀ (w : World) (mg : Str → Option Value) (fa : Addr) (h : Heap), YP w h → h.Ns mainGlobals mg → mg d.name = some (.ref fa) →
      ∃ (K : PySem.W.Frag), K.In h ∧ ∃ fd : FuncData, (∀ (s : Shared) (u : Value), BindsTo s fd ⟨[u], []⟩ [(x, u)]) ∧
        ∀ base : Heap, base.NoSeer → FnOk l.prog w K mg base (CX w) k fa fd [x] (sp K))
    (hsp : ∀ (K : PySem.W.Frag) (H : Hp) (a : Addr) (ns : List Int), ns.length ≤ n → (∀ z ∈ ns, Builtin.Int.intBits z ≤ 1048576) → Only H → SqL K H a (ns.map V.int) → sp K [.ref a] H (fun v _ => v = .bl true) fun _ _ _ => False)
    (hCX : ∀ (w : World) (H : Hp) (s : Shared) (e : Value) (s' : Shared), CX w [] H s (fun _ _ _ => False) e s' → False) :
    PySem.W.WalkO q loose XP YP l.row.toRowW d [] (fun f vs => PySem.call f vs) :=
  Att.attach_callB hn hdf fun w s₀ s₁ mg mb fa o pm cd doc a vs ns G Y ho hd hcd hmg hobj hints hlen hbits hg => by
    obtain ⟨K, kin, fd, hb, hF⟩ := F w mg fa _ Y G.T.g hmg
    obtain ⟨X, see⟩ := sees_of (G.T.seer hi)
    refine law_call (K := K ++ X) (CX := CX w) (sp := sp K) (wide_in see kin) G.T.g G.T.b G.T.builtins G.T.nolimit hg hobj hints (Nat.le_trans hlen hn2) hr (fun base kb _ => ?_) hb (fun H hO hS => hsp K H a ns hlen hbits hO (wide_sq see hS)) fun H e s' => hCX w H s₁ e s'
    exact fnOk_wide (fun b kb => wide_of kb) (hF base (wide_seer see kin kb))
end DL
namespace DL
open PySem PySem.Spec PyProof.Rows L2
section
variable {prog : Program} {w : World} {A : Around} {E : Value → Shared → Prop} {s : Shared}
/-- the zip's state -/
structure ZS (h : Heap) (z TI TO i1 i2 : Addr) : Prop where
  ti : IsPair h TI (.ref i1) (.ref i2)
  to_ : ∃ x y, IsPair h TO x y
  st : IsZip h z TI TO .none ∨ ∃ T f, IsZipHeld h z TI TO T f
theorem ZS.at {h h' : Heap} {z TI TO i1 i2 : Addr} (S : ZS h z TI TO i1 i2) (k : ∀ b, b = z ∨ b = TI ∨ b = TO → ∀ o, h.get? b = some o → h'.get? b = some o) : ZS h' z TI TO i1 i2 := by
  obtain ⟨t, ⟨x, y, o⟩, st⟩ := S
  refine ⟨k TI (by simp) _ t, ⟨x, y, k TO (by simp) _ o⟩, ?_⟩
  rcases st with q | ⟨T, f, q⟩
  · exact .inl (k z (by simp) _ q)
  · exact .inr ⟨T, f, k z (by simp) _ q⟩
end
end DL
namespace DL
open PySem PySem.Spec PyProof.Rows L2
end DL
namespace DL
open PySem PySem.Spec PyProof.Rows L2
end DL
namespace DL
open PySem PySem.Spec PyProof.Rows L2
end DL
namespace DL
open PySem PySem.Spec PyProof.Rows L2
end DL
namespace DL
open PySem PySem.Spec PyProof.Rows L2
end DL
namespace DL
open PySem PySem.Spec PyProof.Rows L2
end DL
namespace DL
open PySem PySem.Spec PyProof.Rows L2
def gStrI : List D → Option D
  | [.int i] => if i.natAbs.log2 < 1920 then some (.str (toString i)) else none
  | _ => none
def gIntA : List D → Option D
  | [.str a] => match PySem.intText? a with
    | some n => if a.length ≤ 640 then some (.int n) else none
    | none => none
  | ds => gInt ds
def gSw : List D → Option D
  | [.str a, .str b] => some (.bl (Txt.startswith a b))
  | _ => none
def gPart : List D → Option D
  | [.str a, .str b] => if (b.length == 0) = false ∧ a.length ≤ sizeLine then some (.tup [.str (Txt.partition a b).1, .str (Txt.partition a b).2.1, .str (Txt.partition a b).2.2]) else none
  | _ => none
section
variable {ca : Nat → Addr} {X : Cx}
theorem callD_str : CallD ca X (.type "str") gStrI := by
  intro pins s σ H xs us Q I rs h
  obtain ⟨G, ds, d, sub, rr, e, q⟩ := h
  unfold gStrI at e
  split at e
  · split at e
    · rename_i hz
      cases e
      cases rr with
      | cons a t => cases t; obtain ⟨T, r⟩ := a; cases r; exact call_str_int pins s σ H _ us Q I rs ⟨_, rfl, hz, rDL_end q sub (.str _)⟩
    · cases e
  · cases e
theorem callD_intA : CallD ca X (.type "int") gIntA := by
  intro pins s σ H xs us Q I rs h
  obtain ⟨G, ds, d, sub, rr, e, q⟩ := h
  unfold gIntA at e
  split at e
  · split at e
    · rename_i hn
      split at e
      · rename_i hz
        cases e
        cases rr with
        | cons a t => cases t; obtain ⟨T, r⟩ := a; cases r; exact call_int_str pins s σ H _ us Q I rs ⟨_, _, rfl, hn, hz, rDL_end q sub (.int _)⟩
      · cases e
    · cases e
  · exact callD_int pins s σ H xs us Q I rs ⟨G, ds, d, sub, rr, e, q⟩
theorem methD_sw : MethD ca X "str.startswith" gSw := by
  intro pins s σ H x xs v us Q I rx rs h
  obtain ⟨G, ds, d, sub, rr, e, q⟩ := h
  unfold gSw at e
  split at e
  · cases e
    cases rr with
    | cons a t =>
      obtain ⟨T, r⟩ := a
      cases t with
      | cons b t =>
        cases t
        obtain ⟨T2, r2⟩ := b
        cases r
        cases r2
        exact mt_startswith pins s σ H _ _ v us Q I rx rs ⟨_, _, rfl, rfl, rDL_end q sub (.bl _)⟩
  · cases e
theorem methD_part : MethD ca X "str.partition" gPart := by
  intro pins s σ H x xs v us Q I rx rs h
  obtain ⟨G, ds, d, sub, rr, e, q⟩ := h
  unfold gPart at e
  split at e
  · rename_i a0 b0
    split at e
    · rename_i hz
      cases e
      cases rr with
      | cons a t =>
        obtain ⟨T, r⟩ := a
        cases t with
        | cons b t =>
          cases t
          obtain ⟨T2, r2⟩ := b
          cases r
          cases r2
          refine mt_partition pins s σ H _ _ v us Q I rx rs ⟨_, _, rfl, rfl, hz.1, hz.2, fun p hp => q _ _ _ nof (sub_new hp sub) (.tup (.inl (.inl upd_same)) rfl fun i v d e1 e2 => ?_) (ext_new hp sub)⟩
          match i, e1, e2 with
          | 0, e1, e2 => cases e1; cases e2; exact .str _
          | 1, e1, e2 => cases e1; cases e2; exact .str _
          | 2, e1, e2 => cases e1; cases e2; exact .str _
    · cases e
  · cases e
def evFs1 (i : Nat) : Ev AV := fun ρ => match slotOf ρ i with
  | some (.int n) => if n.natAbs.log2 < 1920 then some (.ok (.val (.str (toString n))) ρ) else none
  | _ => none
def evFs3 (i : Nat) (m : Str) (j : Nat) : Ev AV := fun ρ => match slotOf ρ i, slotOf ρ j with
  | some (.int n), some (.int k) => if n.natAbs.log2 < 1920 ∧ k.natAbs.log2 < 1920 ∧ ((toString n : Str) ++ m ++ (toString k : Str)).length ≤ sizeLine ∧ ((toString n : Str) ++ m).length ≤ sizeLine ∧ (toString n : Str).length ≤ sizeLine then some (.ok (.val (.str ((toString n : Str) ++ m ++ (toString k : Str)))) ρ) else none
  | _, _ => none
variable {e1 e2 : Expr} {i j : Nat} {m : Str} {p1 p2 p3 pos : Pos} {jx : Nat}
theorem slot_int {B : Bd} {G H : Hp} {σ : L2.St} {ρ : DEnv} {F : Nat → FP} {n : Int} (c : Cfg B G H σ ρ F) (h : slotOf ρ i = some (.int n)) : σ[i]? = some (some (V.int n)) := by
  obtain ⟨v, hv, r⟩ := c.slot i _ (slotOf_eq h)
  generalize F i = U at r
  cases r
  exact hv
theorem de_fs1 (h1 : PE X e1 (tVar i)) : DE ca X (.JoinedStr [.FormattedValue e1 (-1) none p1] pos) (evFs1 i) := fun W tk => PE.imp (pe_joined1 (pe_fmt h1)) fun σ H Q q => by
  obtain ⟨G, ρ, F, o, c, e, z⟩ := q
  unfold evFs1 at e
  split at e
  · rename_i n hn
    split at e
    · rename_i hz
      cases e
      exact ⟨_, slot_int c hn, .inr ⟨n, rfl, hz, z (.str _) G H F nof c (.str _) (fun _ h => h.elim) (.refl fun x h => h.elim id False.elim)⟩⟩
    · cases e
  · cases e
theorem str_empty_app (x : Str) : Str.empty ++ x = x := by
  cases x with
  | mk a =>
    show (⟨#[] ++ a⟩ : Str) = ⟨a⟩
    simp
theorem de_fs3 (h1 : PE X e1 (tVar i)) (h2 : PE X e2 (tVar j)) : DE ca X (.JoinedStr [.FormattedValue e1 (-1) none p1, .Constant (.str m) jx p2, .FormattedValue e2 (-1) none p3] pos) (evFs3 i m j) := fun W tk =>
  PE.imp (pe_joined (.cons (pe_fmt h1) (.cons pe_str (.cons (pe_fmt h2) .nil)))) fun σ H Q q => by
    obtain ⟨G, ρ, F, o, c, e, z⟩ := q
    unfold evFs3 at e
    split at e
    · rename_i n k hn hk
      split at e
      · rename_i hz
        obtain ⟨z1, z2, z3, z4, z5⟩ := hz
        cases e
        have fin := z (.str ((toString n : Str) ++ m ++ (toString k : Str))) G H F nof c (.str _) (fun _ h => h.elim) (.refl fun x h => h.elim id False.elim)
        refine ⟨_, slot_int c hn, .inr ⟨n, rfl, z1, _, rfl, by rw [str_empty_app]; exact z5, ?_⟩⟩
        refine ⟨_, rfl, by rw [str_empty_app]; exact z4, ?_⟩
        refine ⟨_, slot_int c hk, .inr ⟨k, rfl, z2, _, rfl, by rw [str_empty_app]; exact z3, ?_⟩⟩
        show Q (.str _) H
        rw [str_empty_app]
        exact fin
      · cases e
    · cases e
inductive TblE : List (Option Expr) → List Expr → List (Str × Str) → Prop
  | nil : TblE [] [] []
  | cons {k v : Str} {j1 j2 : Nat} {p1 p2 : Pos} {ks : List (Option Expr)} {vs : List Expr} {r : List (Str × Str)} (t : TblE ks vs r) : TblE (some (.Constant (.str k) j1 p1) :: ks) (.Constant (.str v) j2 p2 :: vs) ((k, v) :: r)
def tblV (kvs : List (Str × Str)) : List (Key × V) := kvs.map fun p => (.inr p.1, .str p.2)
def tblD (kvs : List (Str × Str)) : List (Key × D) := kvs.map fun p => (.inr p.1, .str p.2)
def evTbl (kvs : List (Str × Str)) : Ev AV := .pure (.val (.od (tblD kvs)))
theorem pps_tbl : ∀ {ks : List (Option Expr)} {vs : List Expr} {kvs : List (Str × Str)}, TblE ks vs kvs → PPs X pos ks vs (kvs.map fun p => (tC (.str p.1), tC (.str p.2)))
  | _, _, _, .nil => pps_nil
  | _, _, _, .cons t => pps_cons pe_str pe_str (pps_tbl t)
theorem tp_tbl {σ : L2.St} : ∀ (kvs : List (Str × Str)) {H : Hp} {Q : List (V × V) → Hp → Prop}, Q (kvs.map fun p => (V.str p.1, V.str p.2)) H → tPairs (kvs.map fun p => (tC (.str p.1), tC (.str p.2))) σ H Q
  | [], H, Q, h => h
  | p :: kvs, H, Q, h => by
    show tPairs (kvs.map fun p => (tC (.str p.1), tC (.str p.2))) σ H fun ps H3 => Q ((V.str p.1, V.str p.2) :: ps) H3
    exact tp_tbl kvs h
theorem tbl_all : ∀ {ks : List (Option Expr)} {vs : List Expr} {kvs : List (Str × Str)}, TblE ks vs kvs → ks.all (·.isSome) = true ∧ ks.length = vs.length ∧ ks.length = kvs.length
  | _, _, _, .nil => ⟨rfl, rfl, rfl⟩
  | _, _, _, .cons t => by
    obtain ⟨a, b, c⟩ := tbl_all t
    exact ⟨by simp [a], by simp [b], by simp [c]⟩
theorem de_tbl {ks : List (Option Expr)} {vs : List Expr} {kvs : List (Str × Str)} (t : TblE ks vs kvs) (h0 : kvs ≠ []) (h15 : kvs.length ≤ 15) (hm : mergeK [] (tblV kvs) = tblV kvs) : DE ca X (.Dict ks vs pos) (evTbl kvs) := fun W tk => by
  obtain ⟨a1, a2, a3⟩ := tbl_all t
  refine PE.imp (pe_disp (pps_tbl t) a1 a2 (fun e => h0 (List.length_eq_zero_iff.mp (by rw [← a3, e]; rfl))) (by omega)) fun σ H Q h p hp => ?_
  obtain ⟨G, ρ, F, o, c, e, z⟩ := h
  cases e
  refine tp_tbl kvs ⟨upd_same, tblV kvs, by unfold tblV; rw [List.map_map]; rfl, by unfold tblV; rw [List.length_map]; exact h15, ?_⟩
  rw [hm]
  have eu : upd (upd H p (.dK [])) p (.dK (tblV kvs)) = upd H p (.dK (tblV kvs)) := by
    funext x
    by_cases hx : x = p
    · subst hx; rw [upd_same, upd_same]
    · rw [upd_ne hx, upd_ne hx, upd_ne hx]
  rw [eu]
  have x : Ext G H nof G (upd H p (.dK (tblV kvs))) (fun x => x = p) := ext_own hp
  refine z (.ref p) G _ F _ (c.grow x (sub_own hp c.sub)) (rep_od (no_g c.sub hp) upd_same (by unfold tblV tblD; rw [List.map_map, List.map_map]; rfl) fun i k v k' d e1 e2 => ?_) (c.new x) ((Ext.refl fun _ h => h).more x)
  unfold tblV at e1
  unfold tblD at e2
  rw [List.getElem?_map] at e1 e2
  cases hk : kvs[i]? with
  | none => rw [hk] at e1; cases e1
  | some q =>
    rw [hk] at e1 e2
    cases e1
    cases e2
    exact .str _
end
end DL
namespace DL
open PySem PySem.Spec PyProof.Rows L2
def flD : D → Option V
  | .int i => some (.int i)
  | .str s => some (.str s)
  | _ => none
def flsD : List D → Option (List V)
  | [] => some []
  | d :: ds => match flD d, flsD ds with
    | some v, some vs => some (v :: vs)
    | _, _ => none
def gInT : List D → Option D
  | [x, .tup ys] => match flD x, flsD ys with
    | some v, some vs => some (.bl (inV v vs))
    | _, _ => none
  | _ => none
theorem flD_rep {B : Bd} {G H : Hp} {v u : V} {d : D} {T : FP} (r : Rep B G H v d T) (e : flD d = some u) : v = u ∧ flatV u = true := by
  cases r with
  | int i => cases e; exact ⟨rfl, rfl⟩
  | str s => cases e; exact ⟨rfl, rfl⟩
  | _ => cases e
theorem flsD_rep {G H : Hp} {B : Bd} : ∀ {ds : List D} {us vs : List V}, flsD ds = some us → vs.length = ds.length → (∀ (i : Nat) v d, vs[i]? = some v → ds[i]? = some d → ∃ U, Rep B G H v d U) → vs = us ∧ us.all flatV = true
  | [], us, vs, e, l, c => by cases e; cases vs with | nil => exact ⟨rfl, rfl⟩ | cons => cases l
  | d :: ds, us, [], e, l, c => by cases l
  | d :: ds, us, v :: vs, e, l, c => by
    obtain ⟨U, r⟩ := c 0 v d rfl rfl
    unfold flsD at e
    cases h1 : flD d with
    | none => rw [h1] at e; cases e
    | some u =>
      rw [h1] at e
      cases h : flsD ds with
      | none => rw [h] at e; cases e
      | some us' =>
        rw [h] at e
        cases e
        obtain ⟨rfl, f1⟩ := flD_rep r h1
        obtain ⟨rfl, f2⟩ := flsD_rep h (by simpa using l) fun i v d e1 e2 => c (i + 1) v d (by simpa using e1) (by simpa using e2)
        exact ⟨rfl, by rw [List.all_cons, f1, f2]; rfl⟩
section
variable {ca : Nat → Addr} {X : Cx}
theorem opD_inT : Op2 ca X (compareOp .In) gInT := by
  intro pins s σ H x y v u Q I rx ry h
  obtain ⟨G, ds, d, sub, rs, e, q⟩ := h
  obtain ⟨d1, T1, d2, T2, rfl, r1, r2⟩ := rs.two
  cases r2 with
  | tup h l c =>
    unfold gInT at e
    dsimp only at e
    split at e
    · rename_i w ws h1 h2
      cases e
      obtain ⟨rfl, f1⟩ := flD_rep r1 h1
      obtain ⟨rfl, f2⟩ := flsD_rep h2 l fun i v d e1 e2 => ⟨_, c i v d e1 e2⟩
      exact op_in_seq pins s σ H _ _ v u Q I rx ry ⟨_, _, rfl, .inr (sqT_mono h sub), f1, f2, rDL_end q sub (.bl _)⟩
    · cases e
  | _ => simp [gInT] at e
end
@[simp] theorem flD_s (m : List Nat) : flD (sD m) = some (.str ⟨m.toArray⟩) := rfl
@[simp] theorem flD_i (i : Int) : flD (.int i) = some (.int i) := rfl
@[simp] theorem flsD_n : flsD [] = some [] := rfl
@[simp] theorem flsD_c (d : D) (ds : List D) : flsD (d :: ds) = match flD d, flsD ds with
    | some v, some vs => some (v :: vs)
    | _, _ => none := rfl
@[simp] theorem eqV_s (a b : List Nat) : L2.eqV (V.str ⟨a.toArray⟩) (V.str ⟨b.toArray⟩) = decide (a = b) := by
  show ((⟨a.toArray⟩ : Str) == ⟨b.toArray⟩) = _
  exact SX.S_beq_eq
@[simp] theorem eqV_i (a b : Int) : L2.eqV (V.int a) (V.int b) = decide (a = b) := by
  show (a == b) = _
  by_cases h : a = b <;> simp [h]
@[simp] theorem r_tbl {kvs : List (Str × Str)} {ρ : DEnv} : evTbl kvs ρ = some (.ok (.val (.od (tblD kvs))) ρ) := rfl
end DL
namespace DL
open PySem PySem.Spec PyProof.Rows L2
def liftT (n : Nat) : List Bool → List AV → Option (D × List AV)
  | true :: ms, .val d :: as => some (d, .pl n [] :: as)
  | _ :: ms, a :: as => (liftT n ms as).map fun p => (p.1, a :: p.2)
  | _, _ => none
def outT (n : Nat) : Option (Out AV) → Option (Out AV)
  | some (.ok (.val d) ρ) => some (.ok (.val d) (ρ.take n))
  | some (.exc e ρ) => some (.exc e (ρ.take n))
  | _ => none
def callTK (ms : List Bool) (m : Mir) (avs : List AV) : Ev AV := fun ρ => match liftT ρ.length ms avs with
  | none => none
  | some p => outT ρ.length (callK ms m p.2 (ρ ++ [some p.1]))
def evCallT (ms : List Bool) (m : Mir) (fs : Ev (List AV)) : Ev AV := fs.andThen (callTK ms m)
section
variable {B : Bd} {W : WX} {σ : L2.St}
theorem reps_app {G H : Hp} {x : Option V} : ∀ {Wt : FP} {vs : List V} {avs : List AV}, RepAs B G H σ Wt vs avs → RepAs B G H (σ ++ [x]) Wt vs avs
  | _, _, _, .nil => .nil
  | _, _, _, .cons (a := a) r hT t hu dj => .cons (by
      cases a with
      | val d => exact r
      | pl i p =>
        obtain ⟨⟨v0, e0, hp⟩, hT⟩ := r
        exact ⟨⟨v0, by rw [List.getElem?_append_left (List.getElem?_eq_some_iff.mp e0).1]; exact e0, hp⟩, hT⟩) hT (reps_app t) hu dj
theorem lift_reps {G H : Hp} : ∀ {ms : List Bool} {Wt : FP} {vs : List V} {avs : List AV} {d : D} {as : List AV}, RepAs B G H σ Wt vs avs → liftT σ.length ms avs = some (d, as) →
    ∃ (v : V) (T Wu : FP), Rep B G H v d T ∧ (∀ x, T x → Wt x) ∧ (∀ x, Wu x → Wt x) ∧ (∀ x, T x → ¬ Wu x) ∧ RepAs B G H (σ ++ [some v]) Wu vs as := by
  intro ms
  induction ms with
  | nil => intro Wt vs avs d as r e; cases r <;> cases e
  | cons b ms ih =>
    intro Wt vs avs d as r e
    cases r with
    | nil => cases b <;> cases e
    | cons rx hT t hu dj =>
      rename_i Wu T v a vs as0
      have rest : (liftT σ.length ms as0).map (fun p => (p.1, a :: p.2)) = some (d, as) → ∃ (v' : V) (T' Wn : FP), Rep B G H v' d T' ∧ (∀ x, T' x → Wt x) ∧ (∀ x, Wn x → Wt x) ∧ (∀ x, T' x → ¬ Wn x) ∧ RepAs B G H (σ ++ [some v']) Wn (v :: vs) as := fun e => by
        obtain ⟨p, e1, e2⟩ := Option.map_eq_some_iff.mp e
        obtain ⟨d', as'⟩ := p
        cases e2
        obtain ⟨v', T', Wn, r1, h1, h2, h3, h4⟩ := ih t e1
        have ra : RepA B G H (σ ++ [some v']) v a T := by
          cases a with
          | val d => exact rx
          | pl i p =>
            obtain ⟨⟨v0, e0, hp⟩, hT⟩ := rx
            exact ⟨⟨v0, by rw [List.getElem?_append_left (List.getElem?_eq_some_iff.mp e0).1]; exact e0, hp⟩, hT⟩
        exact ⟨v', T', fun x => T x ∨ Wn x, r1, fun x h => hu x (h1 x h), fun x h => h.elim (hT x) fun h => hu x (h2 x h), fun x h k => k.elim (fun k => dj x k (h1 x h)) (h3 x h),
          .cons ra (fun x h => .inl h) h4 (fun x h => .inr h) fun x h k => dj x h (h2 x k)⟩
      cases b with
      | false => exact rest (by cases a <;> exact e)
      | true =>
        cases a with
        | pl i p => exact rest e
        | val d0 =>
          cases e
          refine ⟨v, T, Wu, rx, hT, hu, dj, .cons (T := nof) ⟨⟨v, by simp, rfl⟩, rfl⟩ (fun x h => h.elim) (reps_app t) (fun x h => h) fun x h => h.elim⟩
theorem cfg_app {G H : Hp} {ρ : DEnv} {F : Nat → FP} {T : FP} {v : V} {d : D} (c : Cfg B G H σ ρ F) (r : Rep B G H v d T) (n : ∀ x, T x → ¬ un F x) : Cfg B G H (σ ++ [some v]) (ρ ++ [some d]) fun i x => F i x ∨ (i = σ.length ∧ T x) := by
  have em : ∀ x, ¬ F σ.length x := c.emp σ.length fun d h => by rw [List.getElem?_eq_none (by rw [c.len]; exact Nat.le_refl _)] at h; cases h
  refine ⟨c.sub, by simp [c.len], fun i d' e => ?_, fun i e x h => ?_, fun i j x a b => ?_⟩
  · by_cases hi : i < ρ.length
    · rw [List.getElem?_append_left hi] at e
      obtain ⟨v', e1, r1⟩ := c.slot i d' e
      refine ⟨v', by rw [List.getElem?_append_left (by rw [← c.len]; exact hi)]; exact e1, ?_⟩
      have en : (fun x => F i x ∨ (i = σ.length ∧ T x)) = F i := by
        funext x
        exact propext ⟨fun h => h.elim id fun h => absurd h.1 (by rw [← c.len]; omega), .inl⟩
      rw [en]
      exact r1
    · have hi' : i = ρ.length := by
        have := (List.getElem?_eq_some_iff.mp e).1
        simp at this
        omega
      subst hi'
      simp at e
      subst e
      refine ⟨v, by rw [c.len]; simp, ?_⟩
      have en : (fun x => F ρ.length x ∨ (ρ.length = σ.length ∧ T x)) = T := by
        funext x
        exact propext ⟨fun h => h.elim (fun h => absurd h (by rw [c.len]; exact em x)) (·.2), fun h => .inr ⟨c.len, h⟩⟩
      rw [en]
      exact r
  · rcases h with h | ⟨rfl, h⟩
    · obtain ⟨d', v', e1, _⟩ := c.own h
      have hi : i < ρ.length := (List.getElem?_eq_some_iff.mp e1).1
      exact e d' (by rw [List.getElem?_append_left hi]; exact e1)
    · exact e d (by rw [← c.len]; simp)
  · rcases a with a | ⟨rfl, a⟩ <;> rcases b with b | ⟨rfl, b⟩
    · exact c.dis i j x a b
    · exact absurd ⟨i, a⟩ (n x b)
    · exact absurd ⟨j, b⟩ (n x a)
    · rfl
theorem cfg_take {G H : Hp} {ρ : DEnv} {F : Nat → FP} {v : V} (c : Cfg B G H (σ ++ [some v]) ρ F) : Cfg B G H σ (ρ.take σ.length) fun i x => F i x ∧ i < σ.length := by
  have cl := c.len
  simp at cl
  have tk : ∀ i, i < σ.length → (ρ.take σ.length)[i]? = ρ[i]? := fun i h => by rw [List.getElem?_take, if_pos h]
  have lt : ∀ {i : Nat} {d : D}, (ρ.take σ.length)[i]? = some (some d) → i < σ.length := fun {i d} e => by
    have := (List.getElem?_eq_some_iff.mp e).1
    simp at this
    omega
  refine ⟨c.sub, by simp; omega, fun i d e => ?_, fun i e x h => ?_, fun i j x a b => c.dis i j x a.1 b.1⟩
  · have hi := lt e
    rw [tk i hi] at e
    obtain ⟨v', e1, r1⟩ := c.slot i d e
    refine ⟨v', by rw [List.getElem?_append_left hi] at e1; exact e1, ?_⟩
    have en : (fun x => F i x ∧ i < σ.length) = F i := by funext x; exact propext ⟨(·.1), fun h => ⟨h, hi⟩⟩
    rw [en]
    exact r1
  · exact c.emp i (fun d h' => e d (by rw [tk i h.2]; exact h')) x h.1
theorem callT_end {ms : List Bool} {m : Mir} {n : Nat} {G H : Hp} {ρ : DEnv} {F : Nat → FP} {Wt : FP} {vs : List V} {avs : List AV} {o : Out AV} {Q : VK} (c : Cfg B G H σ ρ F) (r : RepAs B G H σ Wt vs avs) (hn : ∀ y, Wt y → ¬ un F y)
    (e : callTK ms m avs ρ = some o) (z : endE B W σ G H (fun y => un F y ∨ Wt y) Q o) (hl : vs.length = n) : spD B n m vs H Q (WE W σ) := by
  unfold callTK at e
  rw [c.len] at e
  cases h1 : liftT σ.length ms avs with
  | none => rw [h1] at e; cases e
  | some p =>
    obtain ⟨d, as⟩ := p
    rw [h1] at e
    dsimp only at e
    obtain ⟨v, T, Wu, rv, hT, hU, dj, r2⟩ := lift_reps r h1
    have c2 := cfg_app c rv fun x h => hn x (hT x h)
    cases h2 : callK ms m as (ρ ++ [some d]) with
    | none => rw [h2] at e; cases e
    | some o' =>
      rw [h2] at e
      have z2 : endE B (fun cls d _ H => W cls d σ H) (σ ++ [some v]) G H (fun y => un (fun i x => F i x ∨ (i = σ.length ∧ T x)) y ∨ Wu y) Q o' := by
        have ex : ∀ {G' H' : Hp} {P : FP}, Ext G H (fun y => un (fun i x => F i x ∨ (i = σ.length ∧ T x)) y ∨ Wu y) G' H' P → ∀ {P' : FP}, (∀ x, P' x → P x) → Ext G H (fun y => un F y ∨ Wt y) G' H' P' := fun {G' H' P} x {P'} hp => x.mono (fun y h => by
          rcases h with ⟨i, h | ⟨_, h⟩⟩ | h
          · exact .inl ⟨i, h⟩
          · exact .inr (hT y h)
          · exact .inr (hU y h)) hp
        cases o' with
        | ok av ρ' =>
          cases av with
          | pl i p => cases e
          | val d' =>
            cases e
            intro v' G' H' F' T' c3 r3 n3 x3
            exact z v' G' H' _ T' (cfg_take c3) r3 (fun x h k => by obtain ⟨i, k⟩ := k; exact n3 x h ⟨i, k.1⟩) (ex x3 fun x h => h.elim (fun ⟨i, k⟩ => .inl ⟨i, k.1⟩) .inr)
        | exc er ρ' =>
          cases e
          intro G' H' F' cls dx c3 r3 x3
          exact z G' H' _ cls dx (cfg_take c3) r3 (ex x3 fun x ⟨i, k⟩ => ⟨i, k.1⟩)
      exact call_end (W := fun cls d _ H => W cls d σ H) c2 r2 (fun y h k => by
        obtain ⟨i, k | ⟨_, k⟩⟩ := k
        · exact hn y (hU y h) ⟨i, k⟩
        · exact dj y k h) h2 z2 hl
end
section
variable {ca : Nat → Addr} {X : Cx} {k : Nat} {f : Addr} {fd : FuncData} {ps : List Str} {x : Str} {p pos : Pos} {e : Expr} {es : List Expr} {fs : Ev (List AV)} {m : Mir}
theorem tD_callT {B : Bd} {W : WX} {σ : L2.St} {H : Hp} {ms : List Bool} {n : Nat} {Q : VK} (h : tD B W (evCallT ms m fs) σ H Q) (hn : ∀ ρ avs ρ', fs ρ = some (.ok avs ρ') → avs.length = n) : tDL B W fs σ H fun vs H1 => spD B n m vs H1 Q (WE W σ) := by
  obtain ⟨G, ρ, F, o, c, e, z⟩ := h
  unfold evCallT at e
  cases hf : fs ρ with
  | none => rw [andThen_none hf] at e; cases e
  | some u =>
    cases u with
    | exc er ρ' => rw [andThen_exc hf] at e; cases e; exact ⟨G, ρ, F, _, c, hf, z⟩
    | ok avs ρ1 =>
      rw [andThen_ok hf] at e
      refine ⟨G, ρ, F, _, c, hf, fun vs G1 H1 F1 Wt c1 r n1 x => ?_⟩
      have hl : vs.length = n := by
        rw [← hn ρ avs ρ1 hf]
        clear e hf hn
        induction r with
        | nil => rfl
        | cons r hT t hu dj ih => exact congrArg (· + 1) (ih (fun y h => n1 y (hu y h)) (x.mono (fun _ h => h) fun y h => h.imp id (hu y)))
      exact callT_end c1 r n1 e (endE_trans z x) hl
theorem de_callT {ms : List Bool} (F : FnD X.prog X.w X.K X.mg X.base ca k f fd ps m) (hr : Room k X.A) (hm : X.mg x = some (.ref f)) (hk : PySem.W.keepIn X.K (.ref f) = true) (hb : Binds X.K fd ps []) (ha : DA ca X (e :: es) fs)
    (hn : ∀ ρ avs ρ', fs ρ = some (.ok avs ρ') → avs.length = ps.length) (hg : Gl X x := by rfl) (hdb : (x == ("__debug__" : Str)) = false := by decide) (he : starEach (e :: es) X.env = (false, eval e X.env) :: starEach es X.env := by rfl) (hpl : (backTo pos (starEach es X.env)).any (·.1) = false := by rfl) :
    DE ca X (.Call (.Name x p) (e :: es) [] pos) (evCallT ms m fs) := fun W tk =>
  PE.imp (pe_callS F hr hg hm hk hb (fun σ => passAt tk σ) (ha W tk) hdb he hpl) fun σ H Q h => tD_callT h hn
end
@[simp] theorem liftT_v {n : Nat} {ms : List Bool} {d : D} {as : List AV} : liftT n (true :: ms) (.val d :: as) = some (d, .pl n [] :: as) := rfl
@[simp] theorem liftT_f {n : Nat} {ms : List Bool} {a : AV} {as : List AV} : liftT n (false :: ms) (a :: as) = (liftT n ms as).map fun p => (p.1, a :: p.2) := by cases a <;> rfl
@[simp] theorem liftT_p {n : Nat} {ms : List Bool} {i : Nat} {p : List PSt} {as : List AV} : liftT n (true :: ms) (.pl i p :: as) = (liftT n ms as).map fun q => (q.1, .pl i p :: q.2) := rfl
@[simp] theorem outT_ok {n : Nat} {d : D} {ρ : DEnv} : outT n (some (.ok (.val d) ρ)) = some (.ok (.val d) (ρ.take n)) := rfl
@[simp] theorem outT_exc {n : Nat} {d : D} {ρ : DEnv} : outT n (some (.exc d ρ)) = some (.exc d (ρ.take n)) := rfl
@[simp] theorem r_callTK {ms : List Bool} {m : Mir} {as : List AV} {ρ : DEnv} : callTK ms m as ρ = bO (liftT ρ.length ms as) fun p => outT ρ.length (callK ms m p.2 (ρ ++ [some p.1])) := by
  unfold callTK bO
  cases liftT ρ.length ms as <;> rfl
@[simp] theorem r_callT {ms : List Bool} {m : Mir} {fs : Ev (List AV)} {ρ : DEnv} : evCallT ms m fs ρ = bE (fs ρ) (callTK ms m) := by unfold evCallT; rw [r_then]
end DL
namespace K85
open PySem PySem.Spec PyProof.Rows L2 DL
theorem sc_init : FnScope [("self" : Str), ("value" : Str)] [("self" : Str), ("value" : Str)] (defScope initS) := ⟨rfl, rfl, rfl, by decide +kernel, rfl, by decide +kernel, by decide +kernel⟩
abbrev N__law_common : List Str := ["one", "other"]
abbrev P__law_common : List Str := ["one", "other"]
theorem sc__law_common : FnScope N__law_common P__law_common (defScope S__law_common) := ⟨rfl, rfl, rfl, by decide +kernel, rfl, by decide +kernel, by decide +kernel⟩
abbrev N__law_dip : List Str := ["well", "many", "drawn", "mixed"]
abbrev P__law_dip : List Str := ["well", "many"]
theorem sc__law_dip : FnScope N__law_dip P__law_dip (defScope S__law_dip) := ⟨rfl, rfl, rfl, by decide +kernel, rfl, by decide +kernel, by decide +kernel⟩
abbrev N__law_pair : List Str := ["well", "mode", "above", "below", "share"]
abbrev P__law_pair : List Str := ["well"]
theorem sc__law_pair : FnScope N__law_pair P__law_pair (defScope S__law_pair) := ⟨rfl, rfl, rfl, by decide +kernel, rfl, by decide +kernel, by decide +kernel⟩
abbrev N__law_said : List Str := ["pair"]
abbrev P__law_said : List Str := ["pair"]
theorem sc__law_said : FnScope N__law_said P__law_said (defScope S__law_said) := ⟨rfl, rfl, rfl, by decide +kernel, rfl, by decide +kernel, by decide +kernel⟩
abbrev N__law_same : List Str := ["told", "due", "kind", "spot"]
abbrev P__law_same : List Str := ["told", "due"]
theorem sc__law_same : FnScope N__law_same P__law_same (defScope S__law_same) := ⟨rfl, rfl, rfl, by decide +kernel, rfl, by decide +kernel, by decide +kernel⟩
abbrev N_is_number : List Str := ["value", "above", "below"]
abbrev P_is_number : List Str := ["value"]
theorem sc_is_number : FnScope N_is_number P_is_number (defScope S_is_number) := ⟨rfl, rfl, rfl, by decide +kernel, rfl, by decide +kernel, by decide +kernel⟩
abbrev N_whole_of : List Str := ["text", "digits", "sign"]
abbrev P_whole_of : List Str := ["text"]
theorem sc_whole_of : FnScope N_whole_of P_whole_of (defScope S_whole_of) := ⟨rfl, rfl, rfl, by decide +kernel, rfl, by decide +kernel, by decide +kernel⟩
abbrev N_number_of : List Str := ["text", "above_text", "stroke", "below_text", "above", "below"]
abbrev P_number_of : List Str := ["text"]
theorem sc_number_of : FnScope N_number_of P_number_of (defScope S_number_of) := ⟨rfl, rfl, rfl, by decide +kernel, rfl, by decide +kernel, by decide +kernel⟩
abbrev N_read_number : List Str := ["text", "found"]
abbrev P_read_number : List Str := ["text"]
theorem sc_read_number : FnScope N_read_number P_read_number (defScope S_read_number) := ⟨rfl, rfl, rfl, by decide +kernel, rfl, by decide +kernel, by decide +kernel⟩
abbrev N_show_number : List Str := ["number", "above", "below"]
abbrev P_show_number : List Str := ["number"]
theorem sc_show_number : FnScope N_show_number P_show_number (defScope S_show_number) := ⟨rfl, rfl, rfl, by decide +kernel, rfl, by decide +kernel, by decide +kernel⟩
abbrev N__law_numbers_right : List Str := ["well", "fee", "said"]
abbrev P__law_numbers_right : List Str := ["well"]
theorem sc__law_numbers_right : FnScope N__law_numbers_right P__law_numbers_right (defScope S__law_numbers_right) := ⟨rfl, rfl, rfl, by decide +kernel, rfl, by decide +kernel, by decide +kernel⟩
abbrev N__law_leaf : List Str := ["well", "mode"]
abbrev P__law_leaf : List Str := ["well"]
theorem sc__law_leaf : FnScope N__law_leaf P__law_leaf (defScope S__law_leaf) := ⟨rfl, rfl, rfl, by decide +kernel, rfl, by decide +kernel, by decide +kernel⟩
abbrev N__law_chain : List Str := ["well", "tree", "turn", "mode"]
abbrev P__law_chain : List Str := ["well"]
theorem sc__law_chain : FnScope N__law_chain P__law_chain (defScope S__law_chain) := ⟨rfl, rfl, rfl, by decide +kernel, rfl, by decide +kernel, by decide +kernel⟩
abbrev N__law_tree : List Str := ["well", "room", "deep", "mode", "one"]
abbrev P__law_tree : List Str := ["well", "room", "deep"]
theorem sc__law_tree : FnScope N__law_tree P__law_tree (defScope S__law_tree) := ⟨rfl, rfl, rfl, by decide +kernel, rfl, by decide +kernel, by decide +kernel⟩
abbrev N__law_words : List Str := ["tree", "kind"]
abbrev P__law_words : List Str := ["tree"]
theorem sc__law_words : FnScope N__law_words P__law_words (defScope S__law_words) := ⟨rfl, rfl, rfl, by decide +kernel, rfl, by decide +kernel, by decide +kernel⟩
abbrev N_pair_at : List Str := ["text", "at", "one", "end", "kind", "between", "other"]
abbrev P_pair_at : List Str := ["text", "at"]
theorem sc_pair_at : FnScope N_pair_at P_pair_at (defScope S_pair_at) := ⟨rfl, rfl, rfl, by decide +kernel, rfl, by decide +kernel, by decide +kernel⟩
abbrev N_weighed_at : List Str := ["text", "at", "end", "word", "number", "inner"]
abbrev P_weighed_at : List Str := ["text", "at"]
theorem sc_weighed_at : FnScope N_weighed_at P_weighed_at (defScope S_weighed_at) := ⟨rfl, rfl, rfl, by decide +kernel, rfl, by decide +kernel, by decide +kernel⟩
abbrev N_part_at : List Str := ["text", "at", "sign"]
abbrev P_part_at : List Str := ["text", "at"]
theorem sc_part_at : FnScope N_part_at P_part_at (defScope S_part_at) := ⟨rfl, rfl, rfl, by decide +kernel, rfl, by decide +kernel, by decide +kernel⟩
abbrev N_pattern_at : List Str := ["text", "at", "found"]
abbrev P_pattern_at : List Str := ["text", "at"]
theorem sc_pattern_at : FnScope N_pattern_at P_pattern_at (defScope S_pattern_at) := ⟨rfl, rfl, rfl, by decide +kernel, rfl, by decide +kernel, by decide +kernel⟩
abbrev N_read_pattern : List Str := ["text", "found"]
abbrev P_read_pattern : List Str := ["text"]
theorem sc_read_pattern : FnScope N_read_pattern P_read_pattern (defScope S_read_pattern) := ⟨rfl, rfl, rfl, by decide +kernel, rfl, by decide +kernel, by decide +kernel⟩
abbrev N_show_pattern : List Str := ["pattern", "kind", "between"]
abbrev P_show_pattern : List Str := ["pattern"]
theorem sc_show_pattern : FnScope N_show_pattern P_show_pattern (defScope S_show_pattern) := ⟨rfl, rfl, rfl, by decide +kernel, rfl, by decide +kernel, by decide +kernel⟩
abbrev N__law_patterns_right : List Str := ["well", "tree", "said", "longer", "back"]
abbrev P__law_patterns_right : List Str := ["well"]
theorem sc__law_patterns_right : FnScope N__law_patterns_right P__law_patterns_right (defScope S__law_patterns_right) := ⟨rfl, rfl, rfl, by decide +kernel, rfl, by decide +kernel, by decide +kernel⟩
abbrev N__law_well : List Str := ["script", "place", "cell"]
abbrev P__law_well : List Str := ["script", "place"]
theorem sc__law_well : FnScope N__law_well P__law_well (defScope S__law_well) := ⟨rfl, rfl, rfl, by decide +kernel, rfl, by decide +kernel, by decide +kernel⟩
abbrev N_law : List Str := ["script", "spot", "well", "turn"]
abbrev P_law : List Str := ["script"]
theorem sc_law : FnScope N_law P_law (defScope S_law) := ⟨rfl, rfl, rfl, by decide +kernel, rfl, by decide +kernel, by decide +kernel⟩
def tab : Tab := tabX exs
def catch_ (k : Nat) : Nat → Option Bool := catX exs k
noncomputable def L__law_common_0 : Sv := sAsg [] [0, 1] (evCons (ev2 gMod (evOp gInt (evCons (evV 1) (evNil))) (evV 0)) (evCons (evV 0) evNil))
theorem a_L__law_common_0 {ρ : DEnv} : L__law_common_0 ρ = (sAsg [] [0, 1] (evCons (ev2 gMod (evOp gInt (evCons (evV 1) (evNil))) (evV 0)) (evCons (evV 0) evNil))) ρ := rfl
noncomputable def f__law_common : Sv := sSeq (sAsg [] [0] (evCons (evOp gAbs (evCons (evV 0) (evNil))) evNil)) (sSeq (whE (evT (ev2 gGt (evV 0) (evC (.int 0)))) L__law_common_0) (sRet (evV 1)))
noncomputable def m__law_common : Mir := fnD N__law_common.length P__law_common.length [] f__law_common
noncomputable def f__law_dip : Sv := sSeq (sIf (evT (ev2 gGt (evIx (evV 0) (evC (.int 0))) (evC (.int 0)))) (sSeq (sAsg [0] [2] (evCons (ev2 gMod (evOp gInt (evCons (evIx (evV 0) (evC (.int 0))) (evNil))) (evV 1)) evNil)) (sSeq (sTgt (tgSub gmSet (evCons (evV 0) (evCons (evC (.int 0)) evNil))) (ev2 gDivX (evIx (evV 0) (evC (.int 0))) (evV 1))) (sRetO [0] (evV 2)))) (sNil)) (sSeq (sTgt (tgSub gmSet (evCons (evV 0) (evCons (evC (.int 2)) evNil))) (ev2 gAdd (evIx (evV 0) (evC (.int 2))) (evC (.int 1)))) (sSeq (sAsg [0] [3] (evCons (ev2 gMod (ev2 gPow (evOp gInt (evCons (ev2 gAdd (evIx (evV 0) (evC (.int 1))) (ev2 gMulX (evC (.int 1000003)) (evIx (evV 0) (evC (.int 2))))) (evNil))) (evC (.int 3))) (ev2 gAdd (ev2 gPow (evC (.int 10)) (evC (.int 25))) (evC (.int 13)))) evNil)) (sSeq (sAsg [0] [3] (evCons (ev2 gMod (ev2 gPow (evOp gInt (evCons (ev2 gAdd (evV 3) (ev2 gMulX (evC (.int 77347)) (evIx (evV 0) (evC (.int 2))))) (evNil))) (evC (.int 2))) (ev2 gAdd (ev2 gPow (evC (.int 10)) (evC (.int 24))) (evC (.int 7)))) evNil)) (sRetO [0] (ev2 gMod (evOp gInt (evCons (ev2 gDivX (evV 3) (evC (.int 4096))) (evNil))) (evV 1))))))
noncomputable def m__law_dip : Mir := fnD N__law_dip.length P__law_dip.length [0] f__law_dip
noncomputable def f__law_pair : Sv := sSeq (sAsg [0] [1] (evCons (evCall [true, false] m__law_dip (evCons (evV 0) (evCons (evC (.int 6)) (evNil)))) evNil)) (sSeq (sAsg [0] [2] (evCons (evIf (evT (ev2 gLt (evV 1) (evC (.int 2)))) (evV 1) (ev2 gAdd (evC (.int 1)) (evCall [true, false] m__law_dip (evCons (evV 0) (evCons (evIx (evOpF gLst (evFz (evCons (evC (.int 9)) (evCons (evC (.int 99)) (evCons (ev2 gSub (ev2 gPow (evC (.int 10)) (evC (.int 9))) (evC (.int 1))) (evNil)))))) (ev2 gDivX (evV 1) (evC (.int 2)))) (evNil)))))) evNil)) (sSeq (sAsg [0] [3] (evCons (evIf (evOr (evT (ev2 gEq (evV 1) (evC (.int 0)))) (evT (ev2 gEq (evCall [true, false] m__law_dip (evCons (evV 0) (evCons (evC (.int 3)) (evNil)))) (evC (.int 0))))) (evC (.int 1)) (ev2 gAdd (evC (.int 1)) (evCall [true, false] m__law_dip (evCons (evV 0) (evCons (evIx (evOpF gLst (evFz (evCons (evC (.int 9)) (evCons (ev2 gSub (ev2 gPow (evC (.int 10)) (evC (.int 9))) (evC (.int 1))) (evNil))))) (evCall [true, false] m__law_dip (evCons (evV 0) (evCons (evC (.int 2)) (evNil))))) (evNil)))))) evNil)) (sSeq (sIf (evT (ev2 gEq (evCall [true, false] m__law_dip (evCons (evV 0) (evCons (evC (.int 3)) (evNil)))) (evC (.int 0)))) (sAsg [0] [2] (evCons (ev1 gNeg (evV 2)) evNil)) (sNil)) (sSeq (sAsg [0] [4] (evCons (evCall [false, false] m__law_common (evCons (evV 2) (evCons (evV 3) (evNil)))) evNil)) (sRetO [0] (evOpF gTup (evFz (evCons (ev2 gDivX (evV 2) (evV 4)) (evCons (ev2 gDivX (evV 3) (evV 4)) (evNil))))))))))
noncomputable def m__law_pair : Mir := fnD N__law_pair.length P__law_pair.length [0] f__law_pair
noncomputable def f__law_said : Sv := sRetO [] (evIf (evT (ev2 gEq (evIx (evV 0) (evC (.int 1))) (evC (.int 1)))) (evOp gStrI (evCons (evIx (evV 0) (evC (.int 0))) (evNil))) (ev2 gAdd (ev2 gAdd (evOp gStrI (evCons (evIx (evV 0) (evC (.int 0))) (evNil))) (evC (.str ("/" : Str)))) (evOp gStrI (evCons (evIx (evV 0) (evC (.int 1))) (evNil)))))
noncomputable def m__law_said : Mir := fnD N__law_said.length P__law_said.length [] f__law_said
noncomputable def L__law_same_0 (mself : Mir) : Sv := sIf (evNot (evTr (evCall [false, false] mself (evCons (evIx (evV 0) (evV 3)) (evCons (evIx (evV 1) (evV 3)) (evNil)))))) (sRetO [] (evC (.bl false))) (sNil)
theorem a_L__law_same_0 {mself : Mir} {ρ : DEnv} : L__law_same_0 mself ρ = (sIf (evNot (evTr (evCall [false, false] mself (evCons (evIx (evV 0) (evV 3)) (evCons (evIx (evV 1) (evV 3)) (evNil)))))) (sRetO [] (evC (.bl false))) (sNil)) ρ := rfl
noncomputable def f__law_same (mself : Mir) : Sv := sSeq (sIf (evOr (evTr (evOp (gIsi tab) (evCons (evV 1) (evCons (evC (.ty "tuple")) (evNil))))) (evTr (evOp (gIsi tab) (evCons (evV 1) (evCons (evC (.ty "list")) (evNil)))))) (sSeq (sAsg [] [2] (evCons (evIf (evTr (evOp (gIsi tab) (evCons (evV 1) (evCons (evC (.ty "tuple")) (evNil))))) (evOp (gIsi tab) (evCons (evV 0) (evCons (evC (.ty "tuple")) (evNil)))) (evOp (gIsi tab) (evCons (evV 0) (evCons (evC (.ty "list")) (evNil))))) evNil)) (sSeq (sIf (evOr (evNot (evTr (evV 2))) (evT (ev2 gNe (evOp gLen (evCons (evV 0) (evNil))) (evOp gLen (evCons (evV 1) (evNil)))))) (sRetO [] (evC (.bl false))) (sNil)) (sSeq (sFor (evIt gRng1 (evCons (evOp gLen (evCons (evV 1) (evNil))) (evNil))) (tgN [] 3) (L__law_same_0 mself)) (sRetO [] (evC (.bl true)))))) (sNil)) (sSeq (sIf (evTr (evOp (gIsi tab) (evCons (evV 1) (evCons (evC (.ty "str")) (evNil))))) (sRetO [] (evAndV (evOp (gIsi tab) (evCons (evV 0) (evCons (evC (.ty "str")) (evNil)))) (ev2 gEq (evV 0) (evV 1)))) (sNil)) (sRetO [] (evAndV (evOp (gIsi tab) (evCons (evV 0) (evCons (evC (.ty "int")) (evNil)))) (evAndV (evNotV (evOp (gIsi tab) (evCons (evV 0) (evCons (evC (.ty "bool")) (evNil))))) (ev2 gEq (evV 0) (evV 1))))))
noncomputable def m__law_same : Nat → Mir
  | 0 => fnD N__law_same.length P__law_same.length [] fun _ => none
  | n + 1 => fnD N__law_same.length P__law_same.length [] (f__law_same (m__law_same n))
noncomputable def f_is_number : Sv := sSeq (sTgt (tgTup 2 (tgCons (tgN [] 1) (tgCons (tgN [] 2) (tgNil)))) (evV 0)) (sRetO [] (evAndV (ev2 gGe (evV 2) (evC (.int 1))) (ev2 gEq (evOp gGcd (evCons (evV 1) (evCons (evV 2) (evNil)))) (evC (.int 1)))))
noncomputable def m_is_number : Mir := fnD N_is_number.length P_is_number.length [] f_is_number
noncomputable def C_whole_of_0 : Ev AV := evComp (evIt gItS (evCons (evV 1) evNil)) [2] (tgN [0, 1] 2) (evYes) (ev2 gIn (evV 2) (evC (.str ("0123456789" : Str))))
theorem a_C_whole_of_0 {ρ : DEnv} : C_whole_of_0 ρ = (evComp (evIt gItS (evCons (evV 1) evNil)) [2] (tgN [0, 1] 2) (evYes) (ev2 gIn (evV 2) (evC (.str ("0123456789" : Str))))) ρ := rfl
noncomputable def f_whole_of : Sv := sSeq (sAsg [] [1] (evCons (evIf (evTr (evOp gSw (evCons (evChk isStr (evV 0)) (evCons (evC (.str ("-" : Str))) (evNil))))) (ev2 (gSl true false) (evV 0) (evC (.int 1))) (evV 0)) evNil)) (sSeq (sIf (evOr (evT (ev2 gEq (evV 1) (evC (.str ("" : Str))))) (evOr (evT (ev2 gGt (evOp gLen (evCons (evV 1) (evNil))) (evC (.int 9)))) (evNot (evTr (evOp gAll (evCons (C_whole_of_0) (evNil))))))) (sRetO [] (evC .non)) (sNil)) (sSeq (sIf (evAnd (evT (ev2 gEq (evIx (evV 1) (evC (.int 0))) (evC (.str ("0" : Str))))) (evT (ev2 gNe (evV 0) (evC (.str ("0" : Str)))))) (sRetO [] (evC .non)) (sNil)) (sRetO [] (evOp gIntA (evCons (evV 0) (evNil))))))
noncomputable def m_whole_of : Mir := fnD N_whole_of.length P_whole_of.length [] f_whole_of
noncomputable def f_number_of : Sv := sSeq (sTgt (tgTup 3 (tgCons (tgN [] 1) (tgCons (tgN [] 2) (tgCons (tgN [] 3) (tgNil))))) (evOp gPart (evCons (evChk isStr (evV 0)) (evCons (evC (.str ("/" : Str))) (evNil))))) (sSeq (sAsg [] [4] (evCons (evCall [false] m_whole_of (evCons (evV 1) (evNil))) evNil)) (sSeq (sIf (evT (ev2 gIsN (evV 4) (evC .non))) (sRetO [] (evC .non)) (sNil)) (sSeq (sIf (evT (ev2 gEq (evV 2) (evC (.str ("" : Str))))) (sRetO [] (evOpF gTup (evFz (evCons (evV 4) (evCons (evC (.int 1)) (evNil)))))) (sNil)) (sSeq (sAsg [] [5] (evCons (evCall [false] m_whole_of (evCons (evV 3) (evNil))) evNil)) (sSeq (sIf (evOr (evT (ev2 gIsN (evV 5) (evC .non))) (evOr (evT (ev2 gLt (evV 5) (evC (.int 2)))) (evNot (evTr (evCall [false] m_is_number (evCons (evOpF gTup (evFz (evCons (evV 4) (evCons (evV 5) (evNil))))) (evNil))))))) (sRetO [] (evC .non)) (sNil)) (sRetO [] (evOpF gTup (evFz (evCons (evV 4) (evCons (evV 5) (evNil)))))))))))
noncomputable def m_number_of : Mir := fnD N_number_of.length P_number_of.length [] f_number_of
noncomputable def f_read_number : Sv := sSeq (sAsg [] [1] (evCons (evCall [false] m_number_of (evCons (evV 0) (evNil))) evNil)) (sSeq (sIf (evT (ev2 gIsN (evV 1) (evC .non))) (sRaise 16 (evFz (evCons (evV 0) (evNil)))) (sNil)) (sRetO [] (evV 1)))
noncomputable def m_read_number : Mir := fnD N_read_number.length P_read_number.length [] f_read_number
noncomputable def f_show_number : Sv := sSeq (sTgt (tgTup 2 (tgCons (tgN [] 1) (tgCons (tgN [] 2) (tgNil)))) (evV 0)) (sRetO [] (evIf (evT (ev2 gEq (evV 2) (evC (.int 1)))) (evFs1 1) (evFs3 1 ("/" : Str) 2)))
noncomputable def m_show_number : Mir := fnD N_show_number.length P_show_number.length [] f_show_number
noncomputable def f__law_numbers_right : Sv := sSeq (sAsg [0] [1] (evCons (evCall [true] m__law_pair (evCons (evV 0) (evNil))) evNil)) (sSeq (sAsg [0] [2] (evCons (evCall [false] m__law_said (evCons (evV 1) (evNil))) evNil)) (sSeq (sIf (evOr (evNot (evTr (evCall [false, false] (m__law_same 23) (evCons (evCall [false] m_show_number (evCons (evV 1) (evNil))) (evCons (evV 2) (evNil)))))) (evNot (evTr (evCall [false, false] (m__law_same 23) (evCons (evKw 1 [0] m_show_number (evCons (evV 1) (evNil))) (evCons (evV 2) (evNil))))))) (sRetO [0] (evC (.bl false))) (sNil)) (sRetO [0] (evAndV (evCall [false, false] (m__law_same 23) (evCons (evCall [false] m_read_number (evCons (evV 2) (evNil))) (evCons (evV 1) (evNil)))) (evCall [false, false] (m__law_same 23) (evCons (evKw 1 [0] m_read_number (evCons (evV 2) (evNil))) (evCons (evV 1) (evNil))))))))
noncomputable def m__law_numbers_right : Mir := fnD N__law_numbers_right.length P__law_numbers_right.length [0] f__law_numbers_right
noncomputable def f__law_leaf : Sv := sSeq (sAsg [0] [1] (evCons (evCall [true, false] m__law_dip (evCons (evV 0) (evCons (evC (.int 6)) (evNil)))) evNil)) (sSeq (sIf (evT (ev2 gLt (evV 1) (evC (.int 3)))) (sRet (evIx (evOpF gLst (evFz (evCons (evOpF gTup (evFz (evCons (evC (.str ("any" : Str))) (evNil)))) (evCons (evOpF gTup (evFz (evCons (evC (.str ("empty" : Str))) (evNil)))) (evCons (evOpF gTup (evFz (evCons (evC (.str ("none" : Str))) (evNil)))) (evNil)))))) (evV 1))) (sNil)) (sRetO [0] (evOpF gTup (evFz (evCons (evC (.str ("sign" : Str))) (evCons (evIx (evC (.str ("abcdefghijklmnopqrstuvwxyz" : Str))) (evCall [true, false] m__law_dip (evCons (evV 0) (evCons (evC (.int 26)) (evNil))))) (evNil)))))))
noncomputable def m__law_leaf : Mir := fnD N__law_leaf.length P__law_leaf.length [0] f__law_leaf
noncomputable def L__law_chain_0 : Sv := sSeq (sAsg [0] [3] (evCons (evCall [true, false] m__law_dip (evCons (evV 0) (evCons (evC (.int 7)) (evNil)))) evNil)) (sIf (evT (ev2 gLt (evV 3) (evC (.int 2)))) (sAsg [0] [1] (evCons (evOpF gTup (evFz (evCons (evC (.str ("many" : Str))) (evCons (evV 1) (evNil))))) evNil)) (sIf (evT (ev2 gEq (evV 3) (evC (.int 2)))) (sAsg [0] [1] (evCons (evOpF gTup (evFz (evCons (evC (.str ("weigh" : Str))) (evCons (evCall [true] m__law_pair (evCons (evV 0) (evNil))) (evCons (evV 1) (evNil)))))) evNil)) (sIf (evT (ev2 gInT (evV 3) (evOpF gTup (evFz (evCons (evC (.int 3)) (evCons (evC (.int 4)) (evNil))))))) (sAsg [0] [1] (evCons (evOpF gTup (evFz (evCons (evIx (evOpF gLst (evFz (evCons (evC (.str ("then" : Str))) (evCons (evC (.str ("or" : Str))) (evNil))))) (ev2 gSub (evV 3) (evC (.int 3)))) (evCons (evV 1) (evCons (evCall [true] m__law_leaf (evCons (evV 0) (evNil))) (evNil)))))) evNil)) (sAsg [0] [1] (evCons (evOpF gTup (evFz (evCons (evIx (evOpF gLst (evFz (evCons (evC (.str ("then" : Str))) (evCons (evC (.str ("or" : Str))) (evNil))))) (ev2 gSub (evV 3) (evC (.int 5)))) (evCons (evCall [true] m__law_leaf (evCons (evV 0) (evNil))) (evCons (evV 1) (evNil)))))) evNil)))))
theorem a_L__law_chain_0 {ρ : DEnv} : L__law_chain_0 ρ = (sSeq (sAsg [0] [3] (evCons (evCall [true, false] m__law_dip (evCons (evV 0) (evCons (evC (.int 7)) (evNil)))) evNil)) (sIf (evT (ev2 gLt (evV 3) (evC (.int 2)))) (sAsg [0] [1] (evCons (evOpF gTup (evFz (evCons (evC (.str ("many" : Str))) (evCons (evV 1) (evNil))))) evNil)) (sIf (evT (ev2 gEq (evV 3) (evC (.int 2)))) (sAsg [0] [1] (evCons (evOpF gTup (evFz (evCons (evC (.str ("weigh" : Str))) (evCons (evCall [true] m__law_pair (evCons (evV 0) (evNil))) (evCons (evV 1) (evNil)))))) evNil)) (sIf (evT (ev2 gInT (evV 3) (evOpF gTup (evFz (evCons (evC (.int 3)) (evCons (evC (.int 4)) (evNil))))))) (sAsg [0] [1] (evCons (evOpF gTup (evFz (evCons (evIx (evOpF gLst (evFz (evCons (evC (.str ("then" : Str))) (evCons (evC (.str ("or" : Str))) (evNil))))) (ev2 gSub (evV 3) (evC (.int 3)))) (evCons (evV 1) (evCons (evCall [true] m__law_leaf (evCons (evV 0) (evNil))) (evNil)))))) evNil)) (sAsg [0] [1] (evCons (evOpF gTup (evFz (evCons (evIx (evOpF gLst (evFz (evCons (evC (.str ("then" : Str))) (evCons (evC (.str ("or" : Str))) (evNil))))) (ev2 gSub (evV 3) (evC (.int 5)))) (evCons (evCall [true] m__law_leaf (evCons (evV 0) (evNil))) (evCons (evV 1) (evNil)))))) evNil)))))) ρ := rfl
noncomputable def f__law_chain : Sv := sSeq (sAsg [0] [1] (evCons (evCall [true] m__law_leaf (evCons (evV 0) (evNil))) evNil)) (sSeq (sFor (evIt gRng1 (evCons (evCall [true, false] m__law_dip (evCons (evV 0) (evCons (evC (.int 20)) (evNil)))) (evNil))) (tgN [0] 2) L__law_chain_0) (sRetO [0] (evV 1)))
noncomputable def m__law_chain : Mir := fnD N__law_chain.length P__law_chain.length [0] f__law_chain
noncomputable def f__law_tree (mself : Mir) : Sv := sSeq (sTgt (tgSub gmSet (evCons (evV 1) (evCons (evC (.int 0)) evNil))) (ev2 gSub (evIx (evV 1) (evC (.int 0))) (evC (.int 1)))) (sSeq (sAsg [0, 1] [3] (evCons (evCall [true, false] m__law_dip (evCons (evV 0) (evCons (evC (.int 9)) (evNil)))) evNil)) (sSeq (sIf (evAnd (evT (ev2 gGt (evV 2) (evC (.int 1)))) (evAnd (evT (ev2 gGe (evIx (evV 1) (evC (.int 0))) (evC (.int 2)))) (evT (ev2 gLt (evV 3) (evC (.int 5)))))) (sSeq (sTgt (tgSub gmSet (evCons (evV 1) (evCons (evC (.int 0)) evNil))) (ev2 gSub (evIx (evV 1) (evC (.int 0))) (evC (.int 1)))) (sSeq (sAsg [0, 1] [4] (evCons (evCall [true, true, false] mself (evCons (evV 0) (evCons (evV 1) (evCons (ev2 gSub (evV 2) (evC (.int 1))) (evNil))))) evNil)) (sSeq (sTgt (tgSub gmSet (evCons (evV 1) (evCons (evC (.int 0)) evNil))) (ev2 gAdd (evIx (evV 1) (evC (.int 0))) (evC (.int 1)))) (sRetO [0, 1] (evOpF gTup (evFz (evCons (evIx (evOpF gLst (evFz (evCons (evC (.str ("then" : Str))) (evCons (evC (.str ("or" : Str))) (evNil))))) (ev2 gMod (evOp gInt (evCons (evV 3) (evNil))) (evC (.int 2)))) (evCons (evV 4) (evCons (evCall [true, true, false] mself (evCons (evV 0) (evCons (evV 1) (evCons (ev2 gSub (evV 2) (evC (.int 1))) (evNil))))) (evNil)))))))))) (sNil)) (sSeq (sIf (evAnd (evT (ev2 gGt (evV 2) (evC (.int 1)))) (evAnd (evT (ev2 gGe (evIx (evV 1) (evC (.int 0))) (evC (.int 1)))) (evT (ev2 gLt (evV 3) (evC (.int 7)))))) (sRetO [0, 1] (evOpF gTup (evFz (evCons (evC (.str ("many" : Str))) (evCons (evCall [true, true, false] mself (evCons (evV 0) (evCons (evV 1) (evCons (ev2 gSub (evV 2) (evC (.int 1))) (evNil))))) (evNil)))))) (sNil)) (sSeq (sIf (evAnd (evT (ev2 gGt (evV 2) (evC (.int 1)))) (evAnd (evT (ev2 gGe (evIx (evV 1) (evC (.int 0))) (evC (.int 2)))) (evT (ev2 gEq (evV 3) (evC (.int 7)))))) (sSeq (sTgt (tgSub gmSet (evCons (evV 1) (evCons (evC (.int 0)) evNil))) (ev2 gSub (evIx (evV 1) (evC (.int 0))) (evC (.int 1)))) (sRetO [0, 1] (evOpF gTup (evFz (evCons (evC (.str ("weigh" : Str))) (evCons (evCall [true] m__law_pair (evCons (evV 0) (evNil))) (evCons (evCall [true, true, false] mself (evCons (evV 0) (evCons (evV 1) (evCons (ev2 gSub (evV 2) (evC (.int 1))) (evNil))))) (evNil)))))))) (sNil)) (sRetO [0, 1] (evCall [true] m__law_leaf (evCons (evV 0) (evNil))))))))
noncomputable def m__law_tree : Nat → Mir
  | 0 => fnD N__law_tree.length P__law_tree.length [0, 1] fun _ => none
  | n + 1 => fnD N__law_tree.length P__law_tree.length [0, 1] (f__law_tree (m__law_tree n))
noncomputable def f__law_words (mself : Mir) : Sv := sSeq (sAsg [] [1] (evCons (evIx (evV 0) (evC (.int 0))) evNil)) (sSeq (sIf (evT (ev2 gEq (evV 1) (evC (.str ("sign" : Str))))) (sRet (evIx (evV 0) (evC (.int 1)))) (sNil)) (sSeq (sIf (evT (ev2 gInT (evV 1) (evOpF gTup (evFz (evCons (evC (.str ("any" : Str))) (evCons (evC (.str ("empty" : Str))) (evCons (evC (.str ("none" : Str))) (evNil)))))))) (sRet (ev2 gDx (evTbl [(("any" : Str), ("." : Str)), (("empty" : Str), ("1" : Str)), (("none" : Str), ("0" : Str))]) (evV 1))) (sNil)) (sSeq (sIf (evT (ev2 gEq (evV 1) (evC (.str ("many" : Str))))) (sRetO [] (ev2 gAdd (evCall [false] mself (evCons (evIx (evV 0) (evC (.int 1))) (evNil))) (evC (.str ("*" : Str))))) (sNil)) (sSeq (sIf (evT (ev2 gEq (evV 1) (evC (.str ("weigh" : Str))))) (sRetO [] (ev2 gAdd (ev2 gAdd (ev2 gAdd (evCall [false] m__law_said (evCons (evIx (evV 0) (evC (.int 1))) (evNil))) (evC (.str ("[" : Str)))) (evCall [false] mself (evCons (evIx (evV 0) (evC (.int 2))) (evNil)))) (evC (.str ("]" : Str))))) (sNil)) (sRetO [] (ev2 gAdd (ev2 gAdd (ev2 gAdd (ev2 gAdd (evC (.str ("(" : Str))) (evCall [false] mself (evCons (evIx (evV 0) (evC (.int 1))) (evNil)))) (ev2 gDx (evTbl [(("then" : Str), (" " : Str)), (("or" : Str), (" + " : Str))]) (evV 1))) (evCall [false] mself (evCons (evIx (evV 0) (evC (.int 2))) (evNil)))) (evC (.str (")" : Str)))))))))
noncomputable def m__law_words : Nat → Mir
  | 0 => fnD N__law_words.length P__law_words.length [] fun _ => none
  | n + 1 => fnD N__law_words.length P__law_words.length [] (f__law_words (m__law_words n))
noncomputable def f_pair_at (mself : Mir) : Sv := sSeq (sAsg [] [2] (evCons (evCall [false, false] mself (evCons (evV 0) (evCons (evV 1) (evNil)))) evNil)) (sSeq (sIf (evT (ev2 gIsN (evV 2) (evC .non))) (sRetO [] (evC .non)) (sNil)) (sSeq (sAsg [] [3] (evCons (evIx (evV 2) (evC (.int 1))) evNil)) (sSeq (sTgt (tgTup 2 (tgCons (tgN [] 4) (tgCons (tgN [] 5) (tgNil)))) (evIf (evT (ev2 gEq (evOp (gSl true true) (evCons (evV 0) (evCons (evChk isIntD (evV 3)) (evCons (ev2 gAdd (evV 3) (evC (.int 3))) evNil)))) (evC (.str (" + " : Str))))) (evOpF gTup (evFz (evCons (evC (.str ("or" : Str))) (evCons (evC (.str (" + " : Str))) (evNil))))) (evOpF gTup (evFz (evCons (evC (.str ("then" : Str))) (evCons (evC (.str (" " : Str))) (evNil))))))) (sSeq (sIf (evT (ev2 gNe (evOp (gSl true true) (evCons (evV 0) (evCons (evChk isIntD (evV 3)) (evCons (ev2 gAdd (evV 3) (evOp gLen (evCons (evV 5) (evNil)))) evNil)))) (evV 5))) (sRetO [] (evC .non)) (sNil)) (sSeq (sAsg [] [6] (evCons (evCall [false, false] mself (evCons (evV 0) (evCons (ev2 gAdd (evV 3) (evOp gLen (evCons (evV 5) (evNil)))) (evNil)))) evNil)) (sSeq (sIf (evOr (evT (ev2 gIsN (evV 6) (evC .non))) (evT (ev2 gNe (evOp (gSl true true) (evCons (evV 0) (evCons (evChk isIntD (evIx (evV 6) (evC (.int 1)))) (evCons (ev2 gAdd (evIx (evV 6) (evC (.int 1))) (evC (.int 1))) evNil)))) (evC (.str (")" : Str)))))) (sRetO [] (evC .non)) (sNil)) (sRetO [] (evOpF gTup (evFz (evCons (evOpF gTup (evFz (evCons (evV 4) (evCons (evIx (evV 2) (evC (.int 0))) (evCons (evIx (evV 6) (evC (.int 0))) (evNil)))))) (evCons (ev2 gAdd (evIx (evV 6) (evC (.int 1))) (evC (.int 1))) (evNil))))))))))))
noncomputable def m_pair_at (mself : Mir) : Mir := fnD N_pair_at.length P_pair_at.length [] (f_pair_at mself)
noncomputable def L_weighed_at_0 (mself : Mir) : Sv := sAsg [] [2] (evCons (ev2 gAdd (evV 2) (evC (.int 1))) evNil)
theorem a_L_weighed_at_0 {mself : Mir} {ρ : DEnv} : L_weighed_at_0 mself ρ = (sAsg [] [2] (evCons (ev2 gAdd (evV 2) (evC (.int 1))) evNil)) ρ := rfl
noncomputable def f_weighed_at (mself : Mir) : Sv := sSeq (sAsg [] [2] (evCons (evV 1) evNil)) (sSeq (whE (evAnd (evT (ev2 gLt (evV 2) (evOp gLen (evCons (evV 0) (evNil))))) (evT (ev2 gIn (evIx (evV 0) (evV 2)) (evC (.str ("-/0123456789" : Str)))))) (L_weighed_at_0 mself)) (sSeq (sAsg [] [3] (evCons (evOp (gSl true true) (evCons (evV 0) (evCons (evChk isIntD (evV 1)) (evCons (evV 2) evNil)))) evNil)) (sSeq (sIf (evT (ev2 gNe (evOp (gSl true true) (evCons (evV 0) (evCons (evChk isIntD (evV 2)) (evCons (ev2 gAdd (evV 2) (evC (.int 1))) evNil)))) (evC (.str ("[" : Str))))) (sSeq (sIf (evT (ev2 gEq (evV 3) (evC (.str ("0" : Str))))) (sRetO [] (evOpF gTup (evFz (evCons (evOpF gTup (evFz (evCons (evC (.str ("none" : Str))) (evNil)))) (evCons (evV 2) (evNil)))))) (sNil)) (sRetO [] (evIf (evT (ev2 gEq (evV 3) (evC (.str ("1" : Str))))) (evOpF gTup (evFz (evCons (evOpF gTup (evFz (evCons (evC (.str ("empty" : Str))) (evNil)))) (evCons (evV 2) (evNil))))) (evC .non)))) (sNil)) (sSeq (sAsg [] [4] (evCons (evCall [false] m_number_of (evCons (evV 3) (evNil))) evNil)) (sSeq (sIf (evT (ev2 gIsN (evV 4) (evC .non))) (sRetO [] (evC .non)) (sNil)) (sSeq (sAsg [] [5] (evCons (evCall [false, false] mself (evCons (evV 0) (evCons (ev2 gAdd (evV 2) (evC (.int 1))) (evNil)))) evNil)) (sSeq (sIf (evOr (evT (ev2 gIsN (evV 5) (evC .non))) (evT (ev2 gNe (evOp (gSl true true) (evCons (evV 0) (evCons (evChk isIntD (evIx (evV 5) (evC (.int 1)))) (evCons (ev2 gAdd (evIx (evV 5) (evC (.int 1))) (evC (.int 1))) evNil)))) (evC (.str ("]" : Str)))))) (sRetO [] (evC .non)) (sNil)) (sRetO [] (evOpF gTup (evFz (evCons (evOpF gTup (evFz (evCons (evC (.str ("weigh" : Str))) (evCons (evV 4) (evCons (evIx (evV 5) (evC (.int 0))) (evNil)))))) (evCons (ev2 gAdd (evIx (evV 5) (evC (.int 1))) (evC (.int 1))) (evNil)))))))))))))
noncomputable def m_weighed_at (mself : Mir) : Mir := fnD N_weighed_at.length P_weighed_at.length [] (f_weighed_at mself)
noncomputable def f_part_at (mself : Mir) : Sv := sSeq (sAsg [] [2] (evCons (evOp (gSl true true) (evCons (evV 0) (evCons (evChk isIntD (evV 1)) (evCons (ev2 gAdd (evV 1) (evC (.int 1))) evNil)))) evNil)) (sSeq (sIf (evT (ev2 gEq (evV 2) (evC (.str ("" : Str))))) (sRetO [] (evC .non)) (sNil)) (sSeq (sIf (evT (ev2 gEq (evV 2) (evC (.str ("(" : Str))))) (sRetO [] (evCall [false, false] (m_pair_at mself) (evCons (evV 0) (evCons (ev2 gAdd (evV 1) (evC (.int 1))) (evNil))))) (sNil)) (sSeq (sIf (evT (ev2 gEq (evV 2) (evC (.str ("." : Str))))) (sRetO [] (evOpF gTup (evFz (evCons (evOpF gTup (evFz (evCons (evC (.str ("any" : Str))) (evNil)))) (evCons (ev2 gAdd (evV 1) (evC (.int 1))) (evNil)))))) (sNil)) (sSeq (sIf (evT (ev2 gIn (evV 2) (evC (.str ("abcdefghijklmnopqrstuvwxyz" : Str))))) (sRetO [] (evOpF gTup (evFz (evCons (evOpF gTup (evFz (evCons (evC (.str ("sign" : Str))) (evCons (evV 2) (evNil))))) (evCons (ev2 gAdd (evV 1) (evC (.int 1))) (evNil)))))) (sNil)) (sRetO [] (evCall [false, false] (m_weighed_at mself) (evCons (evV 0) (evCons (evV 1) (evNil)))))))))
noncomputable def m_part_at (mself : Mir) : Mir := fnD N_part_at.length P_part_at.length [] (f_part_at mself)
noncomputable def L_pattern_at_0 (mself : Mir) : Sv := sAsg [] [2] (evCons (evOpF gTup (evFz (evCons (evOpF gTup (evFz (evCons (evC (.str ("many" : Str))) (evCons (evIx (evV 2) (evC (.int 0))) (evNil))))) (evCons (ev2 gAdd (evIx (evV 2) (evC (.int 1))) (evC (.int 1))) (evNil))))) evNil)
theorem a_L_pattern_at_0 {mself : Mir} {ρ : DEnv} : L_pattern_at_0 mself ρ = (sAsg [] [2] (evCons (evOpF gTup (evFz (evCons (evOpF gTup (evFz (evCons (evC (.str ("many" : Str))) (evCons (evIx (evV 2) (evC (.int 0))) (evNil))))) (evCons (ev2 gAdd (evIx (evV 2) (evC (.int 1))) (evC (.int 1))) (evNil))))) evNil)) ρ := rfl
noncomputable def f_pattern_at (mself : Mir) : Sv := sSeq (sAsg [] [2] (evCons (evCall [false, false] (m_part_at mself) (evCons (evV 0) (evCons (evV 1) (evNil)))) evNil)) (sSeq (whE (evAnd (evT (ev2 gNotN (evV 2) (evC .non))) (evT (ev2 gEq (evOp (gSl true true) (evCons (evV 0) (evCons (evChk isIntD (evIx (evV 2) (evC (.int 1)))) (evCons (ev2 gAdd (evIx (evV 2) (evC (.int 1))) (evC (.int 1))) evNil)))) (evC (.str ("*" : Str)))))) (L_pattern_at_0 mself)) (sRetO [] (evV 2)))
noncomputable def m_pattern_at : Nat → Mir
  | 0 => fnD N_pattern_at.length P_pattern_at.length [] fun _ => none
  | n + 1 => fnD N_pattern_at.length P_pattern_at.length [] (f_pattern_at (m_pattern_at n))
noncomputable def f_read_pattern : Sv := sSeq (sAsg [] [1] (evCons (evCall [false, false] (m_pattern_at 22) (evCons (evV 0) (evCons (evC (.int 0)) (evNil)))) evNil)) (sSeq (sIf (evOr (evT (ev2 gIsN (evV 1) (evC .non))) (evT (ev2 gNe (evIx (evV 1) (evC (.int 1))) (evOp gLen (evCons (evV 0) (evNil)))))) (sRaise 16 (evFz (evCons (evV 0) (evNil)))) (sNil)) (sRet (evIx (evV 1) (evC (.int 0)))))
noncomputable def m_read_pattern : Mir := fnD N_read_pattern.length P_read_pattern.length [] f_read_pattern
noncomputable def f_show_pattern (mself : Mir) : Sv := sSeq (sAsg [] [1] (evCons (evIx (evV 0) (evC (.int 0))) evNil)) (sSeq (sIf (evT (ev2 gEq (evV 1) (evC (.str ("sign" : Str))))) (sRet (evIx (evV 0) (evC (.int 1)))) (sNil)) (sSeq (sIf (evT (ev2 gEq (evV 1) (evC (.str ("any" : Str))))) (sRetO [] (evC (.str ("." : Str)))) (sNil)) (sSeq (sIf (evT (ev2 gEq (evV 1) (evC (.str ("none" : Str))))) (sRetO [] (evC (.str ("0" : Str)))) (sNil)) (sSeq (sIf (evT (ev2 gEq (evV 1) (evC (.str ("empty" : Str))))) (sRetO [] (evC (.str ("1" : Str)))) (sNil)) (sSeq (sIf (evT (ev2 gEq (evV 1) (evC (.str ("many" : Str))))) (sRetO [] (ev2 gAdd (evCall [false] mself (evCons (evIx (evV 0) (evC (.int 1))) (evNil))) (evC (.str ("*" : Str))))) (sNil)) (sSeq (sIf (evT (ev2 gEq (evV 1) (evC (.str ("weigh" : Str))))) (sRetO [] (ev2 gAdd (ev2 gAdd (ev2 gAdd (evCall [false] m_show_number (evCons (evIx (evV 0) (evC (.int 1))) (evNil))) (evC (.str ("[" : Str)))) (evCall [false] mself (evCons (evIx (evV 0) (evC (.int 2))) (evNil)))) (evC (.str ("]" : Str))))) (sNil)) (sSeq (sAsg [] [2] (evCons (evIf (evT (ev2 gEq (evV 1) (evC (.str ("or" : Str))))) (evC (.str (" + " : Str))) (evC (.str (" " : Str)))) evNil)) (sRetO [] (ev2 gAdd (ev2 gAdd (ev2 gAdd (ev2 gAdd (evC (.str ("(" : Str))) (evCall [false] mself (evCons (evIx (evV 0) (evC (.int 1))) (evNil)))) (evV 2)) (evCall [false] mself (evCons (evIx (evV 0) (evC (.int 2))) (evNil)))) (evC (.str (")" : Str))))))))))))
noncomputable def m_show_pattern : Nat → Mir
  | 0 => fnD N_show_pattern.length P_show_pattern.length [] fun _ => none
  | n + 1 => fnD N_show_pattern.length P_show_pattern.length [] (f_show_pattern (m_show_pattern n))
noncomputable def f__law_patterns_right : Sv := sSeq (sAsg [0] [1] (evCons (evCallT [true, true, false] (m__law_tree 13) (evCons (evV 0) (evCons (evOpF gLst (evFz (evCons (evC (.int 10)) (evNil)))) (evCons (evC (.int 5)) (evNil))))) evNil)) (sSeq (sAsg [0] [2] (evCons (evCall [false] (m__law_words 22) (evCons (evV 1) (evNil))) evNil)) (sSeq (sIf (evOr (evNot (evTr (evCall [false, false] (m__law_same 23) (evCons (evCall [false] (m_show_pattern 22) (evCons (evV 1) (evNil))) (evCons (evV 2) (evNil)))))) (evNot (evTr (evCall [false, false] (m__law_same 23) (evCons (evKw 1 [0] (m_show_pattern 22) (evCons (evV 1) (evNil))) (evCons (evV 2) (evNil))))))) (sRetO [0] (evC (.bl false))) (sNil)) (sSeq (sIf (evNot (evTr (evCall [false, false] (m__law_same 23) (evCons (evCall [false] m_read_pattern (evCons (evV 2) (evNil))) (evCons (evV 1) (evNil)))))) (sRetO [0] (evC (.bl false))) (sNil)) (sSeq (sAsg [0] [3] (evCons (evIf (evT (ev2 gGt (evCall [true, false] m__law_dip (evCons (evV 0) (evCons (evC (.int 3)) (evNil)))) (evC (.int 0)))) (evCall [true] m__law_chain (evCons (evV 0) (evNil))) (evCallT [true, true, false] (m__law_tree 13) (evCons (evV 0) (evCons (evOpF gLst (evFz (evCons (evC (.int 60)) (evNil)))) (evCons (evC (.int 12)) (evNil)))))) evNil)) (sSeq (sAsg [0] [4] (evCons (evKw 1 [0] m_read_pattern (evCons (evCall [false] (m__law_words 22) (evCons (evV 3) (evNil))) (evNil))) evNil)) (sRetO [0] (evAndV (evCall [false, false] (m__law_same 23) (evCons (evV 4) (evCons (evV 3) (evNil)))) (evCall [false, false] (m__law_same 23) (evCons (evCall [false] (m_show_pattern 22) (evCons (evV 4) (evNil))) (evCons (evCall [false] (m__law_words 22) (evCons (evV 3) (evNil))) (evNil)))))))))))
noncomputable def m__law_patterns_right : Mir := fnD N__law_patterns_right.length P__law_patterns_right.length [0] f__law_patterns_right
noncomputable def f__law_well : Sv := sSeq (sAsg [] [2] (evCons (evIf (evT (ev2 gLt (evV 1) (evOp gLen (evCons (evV 0) (evNil))))) (evIx (evV 0) (evV 1)) (ev2 gAdd (ev2 gMulX (evV 1) (evC (.int 7919))) (ev2 gMulX (evOp gLen (evCons (evV 0) (evNil))) (evC (.int 104729))))) evNil)) (sRetO [] (evMv (evCons (evOp gMax (evCons (evC (.int 0)) (evCons (ev2 gSub (evOp gAbs (evCons (evV 2) (evNil))) (ev2 gPow (evC (.int 10)) (evC (.int 18)))) (evNil)))) (evCons (ev2 gMod (evOp gInt (evCons (ev2 gAdd (ev2 gAdd (ev2 gMulX (evV 2) (evC (.int 48611))) (ev2 gMulX (evV 1) (evC (.int 6700417)))) (evC (.int 31337))) (evNil))) (ev2 gAdd (ev2 gPow (evC (.int 10)) (evC (.int 24))) (evC (.int 7)))) (evCons (evC (.int 0)) (evNil))))))
noncomputable def m__law_well : Mir := fnD N__law_well.length P__law_well.length [] f__law_well
noncomputable def L_law_0 : Sv := sIf (evOr (evNot (evTr (evCall [true] m__law_numbers_right (evCons (evV 2) (evNil))))) (evNot (evTr (evCall [true] m__law_patterns_right (evCons (evV 2) (evNil)))))) (sRetO [] (evC (.bl false))) (sNil)
theorem a_L_law_0 {ρ : DEnv} : L_law_0 ρ = (sIf (evOr (evNot (evTr (evCall [true] m__law_numbers_right (evCons (evV 2) (evNil))))) (evNot (evTr (evCall [true] m__law_patterns_right (evCons (evV 2) (evNil)))))) (sRetO [] (evC (.bl false))) (sNil)) ρ := rfl
noncomputable def L_law_1 : Sv := sSeq (sAsg [] [2] (evCons (evCall [false, false] m__law_well (evCons (evV 0) (evCons (evV 1) (evNil)))) evNil)) (sFor (evIt gRng1 (evCons (evC (.int 3)) (evNil))) (tgN [] 3) L_law_0)
theorem a_L_law_1 {ρ : DEnv} : L_law_1 ρ = (sSeq (sAsg [] [2] (evCons (evCall [false, false] m__law_well (evCons (evV 0) (evCons (evV 1) (evNil)))) evNil)) (sFor (evIt gRng1 (evCons (evC (.int 3)) (evNil))) (tgN [] 3) L_law_0)) ρ := rfl
noncomputable def f_law : Sv := sSeq (sFor (evIt gRng1 (evCons (evOp gMax (evCons (evC (.int 2)) (evCons (evOp gMin (evCons (evC (.int 8)) (evCons (evOp gLen (evCons (evV 0) (evNil))) (evNil)))) (evNil)))) (evNil))) (tgN [] 1) L_law_1) (sRetO [] (evC (.bl true)))
noncomputable def m_law : Mir := fnD N_law.length P_law.length [] f_law
structure Txt (P : Program) (base : Heap) (K : PySem.W.Frag) (mg : Str → Option Value) (ca : Nat → Addr) (fI : Addr) (fdI : FuncData) (a : Nat → Addr) (fd : Nat → FuncData) (pr : Nat → Addr) : Prop where
  sr : base.NoSeer
  tr : P.given.tree = none
  fnI : Fun K "__init__" "WorthError.__init__" initS fI fdI
  bI : Binds K fdI [("self" : Str), ("value" : Str)] []
  bK : ∀ (s : Shared) (a : Addr) (u : Value), BindsTo s fdI ⟨[.ref a], [(("value" : Str), u)]⟩ [(("self" : Str), .ref a), (("value" : Str), u)]
  tI : PySem.W.typeIn K (.ref fI) = some (.type "function")
  vV : PySem.W.findCls K (.type "ValueError") (.type "type") "__init__" = some (.val (.builtin "ValueError.__init__"))
  zV : mg "ValueError" = none
  ex : ∀ c ∈ exs, ExK K ca fI c
  tab : TabOk K ca fI tab
  ct : ∀ k ∈ exs, ∀ c b, catch_ k c = some b → PySem.W.exmOne K (.ref (ca c)) (.ref (ca k)) = some b
  fn__law_common : Fun K "_law_common" "_law_common" S__law_common (a 0) (fd 0)
  b__law_common : Binds K (fd 0) P__law_common []
  g__law_common : mg "_law_common" = some (.ref (a 0))
  fn__law_dip : Fun K "_law_dip" "_law_dip" S__law_dip (a 1) (fd 1)
  b__law_dip : Binds K (fd 1) P__law_dip []
  g__law_dip : mg "_law_dip" = some (.ref (a 1))
  fn__law_pair : Fun K "_law_pair" "_law_pair" S__law_pair (a 2) (fd 2)
  b__law_pair : Binds K (fd 2) P__law_pair []
  g__law_pair : mg "_law_pair" = some (.ref (a 2))
  fn__law_said : Fun K "_law_said" "_law_said" S__law_said (a 3) (fd 3)
  b__law_said : Binds K (fd 3) P__law_said []
  g__law_said : mg "_law_said" = some (.ref (a 3))
  fn__law_same : Fun K "_law_same" "_law_same" S__law_same (a 4) (fd 4)
  b__law_same : Binds K (fd 4) P__law_same []
  g__law_same : mg "_law_same" = some (.ref (a 4))
  fn_is_number : Fun K "is_number" "is_number" S_is_number (a 5) (fd 5)
  b_is_number : Binds K (fd 5) P_is_number []
  g_is_number : mg "is_number" = some (.ref (a 5))
  fn_whole_of : Fun K "whole_of" "whole_of" S_whole_of (a 6) (fd 6)
  b_whole_of : Binds K (fd 6) P_whole_of []
  g_whole_of : mg "whole_of" = some (.ref (a 6))
  fn_number_of : Fun K "number_of" "number_of" S_number_of (a 7) (fd 7)
  b_number_of : Binds K (fd 7) P_number_of []
  g_number_of : mg "number_of" = some (.ref (a 7))
  fn_read_number : Fun K "read_number" "read_number" S_read_number (a 8) (fd 8)
  b_read_number : Binds K (fd 8) P_read_number []
  g_read_number : mg "read_number" = some (.ref (a 8))
  fn_show_number : Fun K "show_number" "show_number" S_show_number (a 9) (fd 9)
  b_show_number : Binds K (fd 9) P_show_number []
  g_show_number : mg "show_number" = some (.ref (a 9))
  fn__law_numbers_right : Fun K "_law_numbers_right" "_law_numbers_right" S__law_numbers_right (a 10) (fd 10)
  b__law_numbers_right : Binds K (fd 10) P__law_numbers_right []
  g__law_numbers_right : mg "_law_numbers_right" = some (.ref (a 10))
  fn__law_leaf : Fun K "_law_leaf" "_law_leaf" S__law_leaf (a 11) (fd 11)
  b__law_leaf : Binds K (fd 11) P__law_leaf []
  g__law_leaf : mg "_law_leaf" = some (.ref (a 11))
  fn__law_chain : Fun K "_law_chain" "_law_chain" S__law_chain (a 12) (fd 12)
  b__law_chain : Binds K (fd 12) P__law_chain []
  g__law_chain : mg "_law_chain" = some (.ref (a 12))
  fn__law_tree : Fun K "_law_tree" "_law_tree" S__law_tree (a 13) (fd 13)
  b__law_tree : Binds K (fd 13) P__law_tree []
  g__law_tree : mg "_law_tree" = some (.ref (a 13))
  fn__law_words : Fun K "_law_words" "_law_words" S__law_words (a 14) (fd 14)
  b__law_words : Binds K (fd 14) P__law_words []
  g__law_words : mg "_law_words" = some (.ref (a 14))
  fn_pair_at : Fun K "pair_at" "pair_at" S_pair_at (a 15) (fd 15)
  b_pair_at : Binds K (fd 15) P_pair_at []
  g_pair_at : mg "pair_at" = some (.ref (a 15))
  fn_weighed_at : Fun K "weighed_at" "weighed_at" S_weighed_at (a 16) (fd 16)
  b_weighed_at : Binds K (fd 16) P_weighed_at []
  g_weighed_at : mg "weighed_at" = some (.ref (a 16))
  fn_part_at : Fun K "part_at" "part_at" S_part_at (a 17) (fd 17)
  b_part_at : Binds K (fd 17) P_part_at []
  g_part_at : mg "part_at" = some (.ref (a 17))
  fn_pattern_at : Fun K "pattern_at" "pattern_at" S_pattern_at (a 18) (fd 18)
  b_pattern_at : Binds K (fd 18) P_pattern_at []
  g_pattern_at : mg "pattern_at" = some (.ref (a 18))
  fn_read_pattern : Fun K "read_pattern" "read_pattern" S_read_pattern (a 19) (fd 19)
  b_read_pattern : Binds K (fd 19) P_read_pattern []
  g_read_pattern : mg "read_pattern" = some (.ref (a 19))
  fn_show_pattern : Fun K "show_pattern" "show_pattern" S_show_pattern (a 20) (fd 20)
  b_show_pattern : Binds K (fd 20) P_show_pattern []
  g_show_pattern : mg "show_pattern" = some (.ref (a 20))
  fn__law_patterns_right : Fun K "_law_patterns_right" "_law_patterns_right" S__law_patterns_right (a 21) (fd 21)
  b__law_patterns_right : Binds K (fd 21) P__law_patterns_right []
  g__law_patterns_right : mg "_law_patterns_right" = some (.ref (a 21))
  fn__law_well : Fun K "_law_well" "_law_well" S__law_well (a 22) (fd 22)
  b__law_well : Binds K (fd 22) P__law_well []
  g__law_well : mg "_law_well" = some (.ref (a 22))
  fn_law : Fun K "law" "law" S_law (a 23) (fd 23)
  b_law : Binds K (fd 23) P_law []
  g_law : mg "law" = some (.ref (a 23))
  kw_show_number_number : KwB K (fd 9) P_show_number [("number" : Str)] [0]
  kw_read_number_text : KwB K (fd 8) P_read_number [("text" : Str)] [0]
  kw_show_pattern_pattern : KwB K (fd 20) P_show_pattern [("pattern" : Str)] [0]
  kw_read_pattern_text : KwB K (fd 19) P_read_pattern [("text" : Str)] [0]
  z_abs : mg "abs" = none
  z_int : mg "int" = none
  z_str : mg "str" = none
  z_tuple : mg "tuple" = none
  z_isinstance : mg "isinstance" = none
  z_list : mg "list" = none
  z_len : mg "len" = none
  z_range : mg "range" = none
  z_bool : mg "bool" = none
  g_gcd : mg "gcd" = some (.builtin "math.gcd")
  g_MOST_DIGITS : ∃ t : Tok, mg "MOST_DIGITS" = some (.int 9 t)
  z_all : mg "all" = none
  g_DIGITS : ∃ t : Tok, mg "DIGITS" = some (.str ("0123456789" : Str) t)
  g_Unreadable : mg "Unreadable" = some (.ref (ca 16))
  g_LETTERS : ∃ t : Tok, mg "LETTERS" = some (.str ("abcdefghijklmnopqrstuvwxyz" : Str) t)
  z_max : mg "max" = none
  z_min : mg "min" = none
section
variable {P : Program} {w : World} {K : PySem.W.Frag} {mg : Str → Option Value} {base : Heap} {ca : Nat → Addr} {fI : Addr} {fdI : FuncData} {a : Nat → Addr} {fd : Nat → FuncData} {pr : Nat → Addr}
theorem ok_init (T : Txt P base K mg ca fI fdI a fd pr) : FnOk P w K mg base (L2.CX P w) 1 fI fdI [("self" : Str), ("value" : Str)] (spI K) := by
  refine T.fnI.okX sc_init (fun vs H Q E h => ?_) fun cdv A outer s H vs Q E hr h => ?_
  · obtain ⟨a, C, v, rfl, _⟩ := h
    rfl
  · obtain ⟨x, C, v, rfl, O, no, e1, q⟩ := h
    refine ⟨_, pss_cons (ps_expr (pe_veinit (by rfl) T.zV T.vV (pa_cons (pv 0) (pa_cons (pv 1) pa_nil)))) (pss_one (ps_ost (pv 0) (pv 1))), ?_⟩
    refine ⟨.ref x, rfl, v, rfl, x, C, [v], rfl, by simp, O, e1, ?_⟩
    exact ⟨v, rfl, .ref x, rfl, x, C, rfl, O, no, .inl ⟨e1, fun dx hdx hne => q dx hdx hne⟩⟩
theorem ok__law_common (T : Txt P base K mg ca fI fdI a fd pr) : FnD P w K mg base ca 1 (a 0) (fd 0) P__law_common m__law_common :=
  fn_d T.fn__law_common sc__law_common (by decide) fun cdv A outer s H E hr => db_cons (ds_name 0 sc__law_common.nd (de_callB callD_abs (by rfl) T.z_abs (by decide +kernel) (da_cons (de_pv 0) (da_nil)))) (db_cons (ds_while (dt_cmp opD_gt (de_pv 0) (de_int) (nomark _)) (db_one (ds_two 0 1 rfl sc__law_common.nd (de_bin opD_mod (de_callTy callD_int (by rfl) T.z_int (by decide +kernel) (da_cons (de_pv 1) (da_nil))) (de_pv 0)) (de_pv 0)))) (db_one (ds_ret (de_pv 1))))
theorem ok__law_dip (T : Txt P base K mg ca fI fdI a fd pr) : FnD P w K mg base ca 33 (a 1) (fd 1) P__law_dip m__law_dip :=
  fn_d T.fn__law_dip sc__law_dip (by decide) fun cdv A outer s H E hr => db_cons (ds_if (dt_cmp opD_gt (de_ix2 (de_pv 0) (de_int) (fun _ _ => rfl)) (de_int) (nomark _)) (db_cons (ds_name 2 sc__law_dip.nd (de_bin opD_mod (de_callTy callD_int (by rfl) T.z_int (by decide +kernel) (da_cons (de_ix2 (de_pv 0) (de_int) (fun _ _ => rfl)) (da_nil))) (de_pv 1))) (db_cons (ds_asg (de_bin (opD_divX (Big.of hr (by decide) T.sr T.tr rfl rfl rfl rfl rfl)) (de_ix2 (de_pv 0) (de_int) (fun _ _ => rfl)) (de_pv 1)) (dg_sub (de_pv 0) (de_int) setD_list)) (db_one (ds_retO (de_pv 2))))) (db_nil)) (db_cons (ds_asg (de_bin opD_add (de_ix2 (de_pv 0) (de_int) (fun _ _ => rfl)) (de_int)) (dg_sub (de_pv 0) (de_int) setD_list)) (db_cons (ds_name 3 sc__law_dip.nd (de_bin opD_mod (de_bin opD_pow (de_callTy callD_int (by rfl) T.z_int (by decide +kernel) (da_cons (de_bin opD_add (de_ix2 (de_pv 0) (de_int) (fun _ _ => rfl)) (de_bin opD_mulX (de_int) (de_ix2 (de_pv 0) (de_int) (fun _ _ => rfl)))) (da_nil))) (de_int)) (de_bin opD_add (de_bin opD_pow (de_int) (de_int)) (de_int)))) (db_cons (ds_name 3 sc__law_dip.nd (de_bin opD_mod (de_bin opD_pow (de_callTy callD_int (by rfl) T.z_int (by decide +kernel) (da_cons (de_bin opD_add (de_pv 3) (de_bin opD_mulX (de_int) (de_ix2 (de_pv 0) (de_int) (fun _ _ => rfl)))) (da_nil))) (de_int)) (de_bin opD_add (de_bin opD_pow (de_int) (de_int)) (de_int)))) (db_one (ds_retO (de_bin opD_mod (de_callTy callD_int (by rfl) T.z_int (by decide +kernel) (da_cons (de_bin (opD_divX (Big.of hr (by decide) T.sr T.tr rfl rfl rfl rfl rfl)) (de_pv 3) (de_int)) (da_nil))) (de_pv 1)))))))
theorem ok__law_pair (T : Txt P base K mg ca fI fdI a fd pr) : FnD P w K mg base ca 34 (a 2) (fd 2) P__law_pair m__law_pair :=
  fn_d T.fn__law_pair sc__law_pair (by decide) fun cdv A outer s H E hr => db_cons (ds_name 1 sc__law_pair.nd (de_call (ms := [true, false]) (ok__law_dip T) (hr.mono (by decide)) T.g__law_dip T.fn__law_dip.kp T.b__law_dip (da_cons (de_pv 0) (da_cons (de_int) (da_nil))) (len_cons (len_cons len_nil)))) (db_cons (ds_name 2 sc__law_pair.nd (de_if (dt_cmp opD_lt (de_pv 1) (de_int) (nomark _)) (de_pv 1) (de_bin opD_add (de_int) (de_call (ms := [true, false]) (ok__law_dip T) (hr.mono (by decide)) T.g__law_dip T.fn__law_dip.kp T.b__law_dip (da_cons (de_pv 0) (da_cons (de_ix2 (de_lst (df_of (da_cons (de_int) (da_cons (de_int) (da_cons (de_bin opD_sub (de_bin opD_pow (de_int) (de_int)) (de_int)) (da_nil)))))) (de_bin (opD_divX (Big.of hr (by decide) T.sr T.tr rfl rfl rfl rfl rfl)) (de_pv 1) (de_int)) (fun _ _ => rfl)) (da_nil))) (len_cons (len_cons len_nil)))))) (db_cons (ds_name 3 sc__law_pair.nd (de_if (dt_bool (dw_or (dt_cmp (opD_eq hr.units) (de_pv 1) (de_int) (nomark _)) (dw_or1 (dt_cmp (opD_eq hr.units) (de_call (ms := [true, false]) (ok__law_dip T) (hr.mono (by decide)) T.g__law_dip T.fn__law_dip.kp T.b__law_dip (da_cons (de_pv 0) (da_cons (de_int) (da_nil))) (len_cons (len_cons len_nil))) (de_int) (nomark _))))) (de_int) (de_bin opD_add (de_int) (de_call (ms := [true, false]) (ok__law_dip T) (hr.mono (by decide)) T.g__law_dip T.fn__law_dip.kp T.b__law_dip (da_cons (de_pv 0) (da_cons (de_ix2 (de_lst (df_of (da_cons (de_int) (da_cons (de_bin opD_sub (de_bin opD_pow (de_int) (de_int)) (de_int)) (da_nil))))) (de_call (ms := [true, false]) (ok__law_dip T) (hr.mono (by decide)) T.g__law_dip T.fn__law_dip.kp T.b__law_dip (da_cons (de_pv 0) (da_cons (de_int) (da_nil))) (len_cons (len_cons len_nil))) (fun _ _ => rfl)) (da_nil))) (len_cons (len_cons len_nil)))))) (db_cons (ds_if (dt_cmp (opD_eq hr.units) (de_call (ms := [true, false]) (ok__law_dip T) (hr.mono (by decide)) T.g__law_dip T.fn__law_dip.kp T.b__law_dip (da_cons (de_pv 0) (da_cons (de_int) (da_nil))) (len_cons (len_cons len_nil))) (de_int) (nomark _)) (db_one (ds_name 2 sc__law_pair.nd (de_un opD_neg (de_pv 2)))) (db_nil)) (db_cons (ds_name 4 sc__law_pair.nd (de_call (ms := [false, false]) (ok__law_common T) (hr.mono (by decide)) T.g__law_common T.fn__law_common.kp T.b__law_common (da_cons (de_pv 2) (da_cons (de_pv 3) (da_nil))) (len_cons (len_cons len_nil)))) (db_one (ds_retO (de_tup (df_of (da_cons (de_bin (opD_divX (Big.of hr (by decide) T.sr T.tr rfl rfl rfl rfl rfl)) (de_pv 2) (de_pv 4)) (da_cons (de_bin (opD_divX (Big.of hr (by decide) T.sr T.tr rfl rfl rfl rfl rfl)) (de_pv 3) (de_pv 4)) (da_nil)))))))))))
theorem ok__law_said (T : Txt P base K mg ca fI fdI a fd pr) : FnD P w K mg base ca 1 (a 3) (fd 3) P__law_said m__law_said :=
  fn_d T.fn__law_said sc__law_said (by decide) fun cdv A outer s H E hr => db_one (ds_retO (de_if (dt_cmp (opD_eq hr.units) (de_ix2 (de_pv 0) (de_int) (fun _ _ => rfl)) (de_int) (nomark _)) (de_callTy callD_str (by rfl) T.z_str (by decide +kernel) (da_cons (de_ix2 (de_pv 0) (de_int) (fun _ _ => rfl)) (da_nil))) (de_bin opD_add (de_bin opD_add (de_callTy callD_str (by rfl) T.z_str (by decide +kernel) (da_cons (de_ix2 (de_pv 0) (de_int) (fun _ _ => rfl)) (da_nil))) (de_str)) (de_callTy callD_str (by rfl) T.z_str (by decide +kernel) (da_cons (de_ix2 (de_pv 0) (de_int) (fun _ _ => rfl)) (da_nil))))))
theorem ok__law_same (T : Txt P base K mg ca fI fdI a fd pr) : ∀ n, FnD P w K mg base ca (1 + n) (a 4) (fd 4) P__law_same (m__law_same n)
  | 0 => fn_none 0 T.fn__law_same sc__law_same (by decide)
  | n + 1 => by
    have hs := ok__law_same T n
    exact fn_d (k := 1 + n) T.fn__law_same sc__law_same (by decide) fun cdv A outer s H E hr => db_cons (ds_if (dt_bool (dw_or (dt_tru (de_callB (callD_isi T.tab) (by rfl) T.z_isinstance (by decide +kernel) (da_cons (de_pv 1) (da_cons (de_ty (n := "tuple") T.z_tuple (by decide +kernel)) (da_nil))))) (dw_or1 (dt_tru (de_callB (callD_isi T.tab) (by rfl) T.z_isinstance (by decide +kernel) (da_cons (de_pv 1) (da_cons (de_ty (n := "list") T.z_list (by decide +kernel)) (da_nil)))))))) (db_cons (ds_name 2 sc__law_same.nd (de_if (dt_tru (de_callB (callD_isi T.tab) (by rfl) T.z_isinstance (by decide +kernel) (da_cons (de_pv 1) (da_cons (de_ty (n := "tuple") T.z_tuple (by decide +kernel)) (da_nil))))) (de_callB (callD_isi T.tab) (by rfl) T.z_isinstance (by decide +kernel) (da_cons (de_pv 0) (da_cons (de_ty (n := "tuple") T.z_tuple (by decide +kernel)) (da_nil)))) (de_callB (callD_isi T.tab) (by rfl) T.z_isinstance (by decide +kernel) (da_cons (de_pv 0) (da_cons (de_ty (n := "list") T.z_list (by decide +kernel)) (da_nil)))))) (db_cons (ds_if (dt_bool (dw_or (dt_not (dt_tru (de_pv 2))) (dw_or1 (dt_cmp (opD_ne hr.units) (de_callB callD_len (by rfl) T.z_len (by decide +kernel) (da_cons (de_pv 0) (da_nil))) (de_callB callD_len (by rfl) T.z_len (by decide +kernel) (da_cons (de_pv 1) (da_nil))) (nomark _))))) (db_one (ds_retO (de_bl))) (db_nil)) (db_cons (ds_for rfl (di_range1 T.z_range (da_cons (de_callB callD_len (by rfl) T.z_len (by decide +kernel) (da_cons (de_pv 1) (da_nil))) (da_nil))) (dg_nm 3 sc__law_same.nd) (db_one (ds_if (dt_not (dt_tru (de_call (ms := [false, false]) hs hr T.g__law_same T.fn__law_same.kp T.b__law_same (da_cons (de_ix2 (de_pv 0) (de_pv 3) (fun _ _ => rfl)) (da_cons (de_ix2 (de_pv 1) (de_pv 3) (fun _ _ => rfl)) (da_nil))) (len_cons (len_cons len_nil))))) (db_one (ds_retO (de_bl))) (db_nil)))) (db_one (ds_retO (de_bl)))))) (db_nil)) (db_cons (ds_if (dt_tru (de_callB (callD_isi T.tab) (by rfl) T.z_isinstance (by decide +kernel) (da_cons (de_pv 1) (da_cons (de_ty (n := "str") T.z_str (by decide +kernel)) (da_nil))))) (db_one (ds_retO (de_and (de_callB (callD_isi T.tab) (by rfl) T.z_isinstance (by decide +kernel) (da_cons (de_pv 0) (da_cons (de_ty (n := "str") T.z_str (by decide +kernel)) (da_nil)))) (de_one (de_cmp (opD_eq hr.units) (de_pv 0) (de_pv 1) (nomark _)))))) (db_nil)) (db_one (ds_retO (de_and (de_callB (callD_isi T.tab) (by rfl) T.z_isinstance (by decide +kernel) (da_cons (de_pv 0) (da_cons (de_ty (n := "int") T.z_int (by decide +kernel)) (da_nil)))) (de_and (de_not (de_callB (callD_isi T.tab) (by rfl) T.z_isinstance (by decide +kernel) (da_cons (de_pv 0) (da_cons (de_ty (n := "bool") T.z_bool (by decide +kernel)) (da_nil))))) (de_one (de_cmp (opD_eq hr.units) (de_pv 0) (de_pv 1) (nomark _))))))))
theorem ok_is_number (T : Txt P base K mg ca fI fdI a fd pr) : FnD P w K mg base ca 1 (a 5) (fd 5) P_is_number m_is_number :=
  fn_d T.fn_is_number sc_is_number (by decide) fun cdv A outer s H E hr => db_cons (ds_asg (de_pv 0) (dg_tup rfl (dgs_cons (dg_nm 1 sc_is_number.nd) (dgs_cons (dg_nm 2 sc_is_number.nd) (dgs_nil))))) (db_one (ds_retO (de_and (de_cmp opD_ge (de_pv 2) (de_int) (nomark _)) (de_one (de_cmp (opD_eq hr.units) (de_callG callD_gcd (by rfl) T.g_gcd (da_cons (de_pv 1) (da_cons (de_pv 2) (da_nil)))) (de_int) (nomark _))))))
theorem ok_whole_of (T : Txt P base K mg ca fI fdI a fd pr) : FnD P w K mg base ca 1 (a 6) (fd 6) P_whole_of m_whole_of :=
  fn_d T.fn_whole_of sc_whole_of (by decide) fun cdv A outer s H E hr => db_cons (ds_name 1 sc_whole_of.nd (de_if (dt_tru (de_bm ty_str PySem.F.plainAttrs_str PySem.F.slot_str_startswith PySem.F.type_str_startswith methD_sw (de_pv 0) (da_cons (de_str) (da_nil)))) (de_sl10 (de_pv 0) (de_int)) (de_pv 0))) (db_cons (ds_if (dt_bool (dw_or (dt_cmp (opD_eq hr.units) (de_pv 1) (de_str) (nomark _)) (dw_or (dt_cmp opD_gt (de_callB callD_len (by rfl) T.z_len (by decide +kernel) (da_cons (de_pv 1) (da_nil))) (de_gint T.g_MOST_DIGITS) (nomark _)) (dw_or1 (dt_not (dt_tru (de_callB (callD_all rfl) (by rfl) T.z_all (by decide +kernel) (da_cons (de_lc (own := [(("sign" : Str), 2)]) rfl sc_whole_of.nd (di_str (de_pv 1)) (blkOk_by (own := [(("sign" : Str), 2)]) (N := N_whole_of) (sc := defScope S_whole_of) (by decide +kernel)) (fun _ _ _ _ _ => dg_nm 2 sc_whole_of.nd) (fun _ _ _ _ _ => dts_nil) (fun _ _ _ _ _ => de_cmp (opD_in (u65 hr)) (de_pv 2) (de_gstr (z := ("0123456789" : Str)) T.g_DIGITS) (by rfl))) (da_nil))))))))) (db_one (ds_retO (de_non))) (db_nil)) (db_cons (ds_if (dt_bool (dw_and (dt_cmp (opD_eq hr.units) (de_ix2 (de_pv 1) (de_int) (fun _ _ => rfl)) (de_str) (nomark _)) (dw_and1 (dt_cmp (opD_ne hr.units) (de_pv 0) (de_str) (nomark _))))) (db_one (ds_retO (de_non))) (db_nil)) (db_one (ds_retO (de_callTy callD_intA (by rfl) T.z_int (by decide +kernel) (da_cons (de_pv 0) (da_nil)))))))
theorem ok_number_of (T : Txt P base K mg ca fI fdI a fd pr) : FnD P w K mg base ca 2 (a 7) (fd 7) P_number_of m_number_of :=
  fn_d T.fn_number_of sc_number_of (by decide) fun cdv A outer s H E hr => db_cons (ds_asg (de_bm ty_str PySem.F.plainAttrs_str PySem.F.slot_str_partition PySem.F.type_str_partition methD_part (de_pv 0) (da_cons (de_str) (da_nil))) (dg_tup rfl (dgs_cons (dg_nm 1 sc_number_of.nd) (dgs_cons (dg_nm 2 sc_number_of.nd) (dgs_cons (dg_nm 3 sc_number_of.nd) (dgs_nil)))))) (db_cons (ds_name 4 sc_number_of.nd (de_call (ms := [false]) (ok_whole_of T) (hr.mono (by decide)) T.g_whole_of T.fn_whole_of.kp T.b_whole_of (da_cons (de_pv 1) (da_nil)) (len_cons len_nil))) (db_cons (ds_if (dt_cmp opD_isN (de_pv 4) (de_non) (nomark _)) (db_one (ds_retO (de_non))) (db_nil)) (db_cons (ds_if (dt_cmp (opD_eq hr.units) (de_pv 2) (de_str) (nomark _)) (db_one (ds_retO (de_tup (df_of (da_cons (de_pv 4) (da_cons (de_int) (da_nil))))))) (db_nil)) (db_cons (ds_name 5 sc_number_of.nd (de_call (ms := [false]) (ok_whole_of T) (hr.mono (by decide)) T.g_whole_of T.fn_whole_of.kp T.b_whole_of (da_cons (de_pv 3) (da_nil)) (len_cons len_nil))) (db_cons (ds_if (dt_bool (dw_or (dt_cmp opD_isN (de_pv 5) (de_non) (nomark _)) (dw_or (dt_cmp opD_lt (de_pv 5) (de_int) (nomark _)) (dw_or1 (dt_not (dt_tru (de_call (ms := [false]) (ok_is_number T) (hr.mono (by decide)) T.g_is_number T.fn_is_number.kp T.b_is_number (da_cons (de_tup (df_of (da_cons (de_pv 4) (da_cons (de_pv 5) (da_nil))))) (da_nil)) (len_cons len_nil)))))))) (db_one (ds_retO (de_non))) (db_nil)) (db_one (ds_retO (de_tup (df_of (da_cons (de_pv 4) (da_cons (de_pv 5) (da_nil))))))))))))
theorem ok_read_number (T : Txt P base K mg ca fI fdI a fd pr) : FnD P w K mg base ca 3 (a 8) (fd 8) P_read_number m_read_number :=
  fn_d T.fn_read_number sc_read_number (by decide) fun cdv A outer s H E hr => db_cons (ds_name 1 sc_read_number.nd (de_call (ms := [false]) (ok_number_of T) (hr.mono (by decide)) T.g_number_of T.fn_number_of.kp T.b_number_of (da_cons (de_pv 0) (da_nil)) (len_cons len_nil))) (db_cons (ds_if (dt_cmp opD_isN (de_pv 1) (de_non) (nomark _)) (db_one (ds_raise (c := 16) rfl (T.ex 16 (by decide)) T.tI (ok_init T) (hr.mono (by decide)) T.bI T.g_Unreadable (df_of (da_cons (de_pv 0) (da_nil))))) (db_nil)) (db_one (ds_retO (de_pv 1))))
theorem ok_show_number (T : Txt P base K mg ca fI fdI a fd pr) : FnD P w K mg base ca 1 (a 9) (fd 9) P_show_number m_show_number :=
  fn_d T.fn_show_number sc_show_number (by decide) fun cdv A outer s H E hr => db_cons (ds_asg (de_pv 0) (dg_tup rfl (dgs_cons (dg_nm 1 sc_show_number.nd) (dgs_cons (dg_nm 2 sc_show_number.nd) (dgs_nil))))) (db_one (ds_retO (de_if (dt_cmp (opD_eq hr.units) (de_pv 2) (de_int) (nomark _)) (de_fs1 (i := 1) (pe_var (by rfl) (by first | exact Or.inl rfl | exact Or.inr (Or.inl rfl) | exact Or.inr (Or.inr rfl)) (by decide) (by decide))) (de_fs3 (i := 1) (j := 2) (m := ("/" : Str)) (pe_var (by rfl) (by first | exact Or.inl rfl | exact Or.inr (Or.inl rfl) | exact Or.inr (Or.inr rfl)) (by decide) (by decide)) (pe_var (by rfl) (by first | exact Or.inl rfl | exact Or.inr (Or.inl rfl) | exact Or.inr (Or.inr rfl)) (by decide) (by decide))))))
theorem ok__law_numbers_right (T : Txt P base K mg ca fI fdI a fd pr) : FnD P w K mg base ca 35 (a 10) (fd 10) P__law_numbers_right m__law_numbers_right :=
  fn_d T.fn__law_numbers_right sc__law_numbers_right (by decide) fun cdv A outer s H E hr => db_cons (ds_name 1 sc__law_numbers_right.nd (de_call (ms := [true]) (ok__law_pair T) (hr.mono (by decide)) T.g__law_pair T.fn__law_pair.kp T.b__law_pair (da_cons (de_pv 0) (da_nil)) (len_cons len_nil))) (db_cons (ds_name 2 sc__law_numbers_right.nd (de_call (ms := [false]) (ok__law_said T) (hr.mono (by decide)) T.g__law_said T.fn__law_said.kp T.b__law_said (da_cons (de_pv 1) (da_nil)) (len_cons len_nil))) (db_cons (ds_if (dt_bool (dw_or (dt_not (dt_tru (de_call (ms := [false, false]) (ok__law_same T 23) (hr.mono (by decide)) T.g__law_same T.fn__law_same.kp T.b__law_same (da_cons (de_call (ms := [false]) (ok_show_number T) (hr.mono (by decide)) T.g_show_number T.fn_show_number.kp T.b_show_number (da_cons (de_pv 1) (da_nil)) (len_cons len_nil)) (da_cons (de_pv 2) (da_nil))) (len_cons (len_cons len_nil))))) (dw_or1 (dt_not (dt_tru (de_call (ms := [false, false]) (ok__law_same T 23) (hr.mono (by decide)) T.g__law_same T.fn__law_same.kp T.b__law_same (da_cons (de_callK (ks := [("number" : Str)]) (ok_show_number T) (hr.mono (by decide)) T.g_show_number T.fn_show_number.kp T.kw_show_number_number (dk_cons (de_pv 1) (dk_nil))) (da_cons (de_pv 2) (da_nil))) (len_cons (len_cons len_nil)))))))) (db_one (ds_retO (de_bl))) (db_nil)) (db_one (ds_retO (de_and (de_call (ms := [false, false]) (ok__law_same T 23) (hr.mono (by decide)) T.g__law_same T.fn__law_same.kp T.b__law_same (da_cons (de_call (ms := [false]) (ok_read_number T) (hr.mono (by decide)) T.g_read_number T.fn_read_number.kp T.b_read_number (da_cons (de_pv 2) (da_nil)) (len_cons len_nil)) (da_cons (de_pv 1) (da_nil))) (len_cons (len_cons len_nil))) (de_one (de_call (ms := [false, false]) (ok__law_same T 23) (hr.mono (by decide)) T.g__law_same T.fn__law_same.kp T.b__law_same (da_cons (de_callK (ks := [("text" : Str)]) (ok_read_number T) (hr.mono (by decide)) T.g_read_number T.fn_read_number.kp T.kw_read_number_text (dk_cons (de_pv 2) (dk_nil))) (da_cons (de_pv 1) (da_nil))) (len_cons (len_cons len_nil)))))))))
theorem ok__law_leaf (T : Txt P base K mg ca fI fdI a fd pr) : FnD P w K mg base ca 34 (a 11) (fd 11) P__law_leaf m__law_leaf :=
  fn_d T.fn__law_leaf sc__law_leaf (by decide) fun cdv A outer s H E hr => db_cons (ds_name 1 sc__law_leaf.nd (de_call (ms := [true, false]) (ok__law_dip T) (hr.mono (by decide)) T.g__law_dip T.fn__law_dip.kp T.b__law_dip (da_cons (de_pv 0) (da_cons (de_int) (da_nil))) (len_cons (len_cons len_nil)))) (db_cons (ds_if (dt_cmp opD_lt (de_pv 1) (de_int) (nomark _)) (db_one (ds_ret (de_ix2 (de_lst (df_of (da_cons (de_tup (df_of (da_cons (de_str) (da_nil)))) (da_cons (de_tup (df_of (da_cons (de_str) (da_nil)))) (da_cons (de_tup (df_of (da_cons (de_str) (da_nil)))) (da_nil)))))) (de_pv 1) (fun _ _ => rfl)))) (db_nil)) (db_one (ds_retO (de_tup (df_of (da_cons (de_str) (da_cons (de_ix2 (de_str) (de_call (ms := [true, false]) (ok__law_dip T) (hr.mono (by decide)) T.g__law_dip T.fn__law_dip.kp T.b__law_dip (da_cons (de_pv 0) (da_cons (de_int) (da_nil))) (len_cons (len_cons len_nil))) (fun _ _ => rfl)) (da_nil))))))))
theorem ok__law_chain (T : Txt P base K mg ca fI fdI a fd pr) : FnD P w K mg base ca 35 (a 12) (fd 12) P__law_chain m__law_chain :=
  fn_d T.fn__law_chain sc__law_chain (by decide) fun cdv A outer s H E hr => db_cons (ds_name 1 sc__law_chain.nd (de_call (ms := [true]) (ok__law_leaf T) (hr.mono (by decide)) T.g__law_leaf T.fn__law_leaf.kp T.b__law_leaf (da_cons (de_pv 0) (da_nil)) (len_cons len_nil))) (db_cons (ds_for rfl (di_range1 T.z_range (da_cons (de_call (ms := [true, false]) (ok__law_dip T) (hr.mono (by decide)) T.g__law_dip T.fn__law_dip.kp T.b__law_dip (da_cons (de_pv 0) (da_cons (de_int) (da_nil))) (len_cons (len_cons len_nil))) (da_nil))) (dg_nm 2 sc__law_chain.nd) (db_cons (ds_name 3 sc__law_chain.nd (de_call (ms := [true, false]) (ok__law_dip T) (hr.mono (by decide)) T.g__law_dip T.fn__law_dip.kp T.b__law_dip (da_cons (de_pv 0) (da_cons (de_int) (da_nil))) (len_cons (len_cons len_nil)))) (db_one (ds_if (dt_cmp opD_lt (de_pv 3) (de_int) (nomark _)) (db_one (ds_name 1 sc__law_chain.nd (de_tup (df_of (da_cons (de_str) (da_cons (de_pv 1) (da_nil))))))) (db_one (ds_if (dt_cmp (opD_eq hr.units) (de_pv 3) (de_int) (nomark _)) (db_one (ds_name 1 sc__law_chain.nd (de_tup (df_of (da_cons (de_str) (da_cons (de_call (ms := [true]) (ok__law_pair T) (hr.mono (by decide)) T.g__law_pair T.fn__law_pair.kp T.b__law_pair (da_cons (de_pv 0) (da_nil)) (len_cons len_nil)) (da_cons (de_pv 1) (da_nil)))))))) (db_one (ds_if (dt_cmp opD_inT (de_pv 3) (de_tup (df_of (da_cons (de_int) (da_cons (de_int) (da_nil))))) (by rfl)) (db_one (ds_name 1 sc__law_chain.nd (de_tup (df_of (da_cons (de_ix2 (de_lst (df_of (da_cons (de_str) (da_cons (de_str) (da_nil))))) (de_bin opD_sub (de_pv 3) (de_int)) (fun _ _ => rfl)) (da_cons (de_pv 1) (da_cons (de_call (ms := [true]) (ok__law_leaf T) (hr.mono (by decide)) T.g__law_leaf T.fn__law_leaf.kp T.b__law_leaf (da_cons (de_pv 0) (da_nil)) (len_cons len_nil)) (da_nil)))))))) (db_one (ds_name 1 sc__law_chain.nd (de_tup (df_of (da_cons (de_ix2 (de_lst (df_of (da_cons (de_str) (da_cons (de_str) (da_nil))))) (de_bin opD_sub (de_pv 3) (de_int)) (fun _ _ => rfl)) (da_cons (de_call (ms := [true]) (ok__law_leaf T) (hr.mono (by decide)) T.g__law_leaf T.fn__law_leaf.kp T.b__law_leaf (da_cons (de_pv 0) (da_nil)) (len_cons len_nil)) (da_cons (de_pv 1) (da_nil)))))))))))))))) (db_one (ds_retO (de_pv 1))))
theorem ok__law_tree (T : Txt P base K mg ca fI fdI a fd pr) : ∀ n, FnD P w K mg base ca (34 + n) (a 13) (fd 13) P__law_tree (m__law_tree n)
  | 0 => fn_none 33 T.fn__law_tree sc__law_tree (by decide)
  | n + 1 => by
    have hs := ok__law_tree T n
    exact fn_d (k := 34 + n) T.fn__law_tree sc__law_tree (by decide) fun cdv A outer s H E hr => db_cons (ds_asg (de_bin opD_sub (de_ix2 (de_pv 1) (de_int) (fun _ _ => rfl)) (de_int)) (dg_sub (de_pv 1) (de_int) setD_list)) (db_cons (ds_name 3 sc__law_tree.nd (de_call (ms := [true, false]) (ok__law_dip T) (hr.mono (by omega)) T.g__law_dip T.fn__law_dip.kp T.b__law_dip (da_cons (de_pv 0) (da_cons (de_int) (da_nil))) (len_cons (len_cons len_nil)))) (db_cons (ds_if (dt_bool (dw_and (dt_cmp opD_gt (de_pv 2) (de_int) (nomark _)) (dw_and (dt_cmp opD_ge (de_ix2 (de_pv 1) (de_int) (fun _ _ => rfl)) (de_int) (nomark _)) (dw_and1 (dt_cmp opD_lt (de_pv 3) (de_int) (nomark _)))))) (db_cons (ds_asg (de_bin opD_sub (de_ix2 (de_pv 1) (de_int) (fun _ _ => rfl)) (de_int)) (dg_sub (de_pv 1) (de_int) setD_list)) (db_cons (ds_name 4 sc__law_tree.nd (de_call (ms := [true, true, false]) hs hr T.g__law_tree T.fn__law_tree.kp T.b__law_tree (da_cons (de_pv 0) (da_cons (de_pv 1) (da_cons (de_bin opD_sub (de_pv 2) (de_int)) (da_nil)))) (len_cons (len_cons (len_cons len_nil))))) (db_cons (ds_asg (de_bin opD_add (de_ix2 (de_pv 1) (de_int) (fun _ _ => rfl)) (de_int)) (dg_sub (de_pv 1) (de_int) setD_list)) (db_one (ds_retO (de_tup (df_of (da_cons (de_ix2 (de_lst (df_of (da_cons (de_str) (da_cons (de_str) (da_nil))))) (de_bin opD_mod (de_callTy callD_int (by rfl) T.z_int (by decide +kernel) (da_cons (de_pv 3) (da_nil))) (de_int)) (fun _ _ => rfl)) (da_cons (de_pv 4) (da_cons (de_call (ms := [true, true, false]) hs hr T.g__law_tree T.fn__law_tree.kp T.b__law_tree (da_cons (de_pv 0) (da_cons (de_pv 1) (da_cons (de_bin opD_sub (de_pv 2) (de_int)) (da_nil)))) (len_cons (len_cons (len_cons len_nil)))) (da_nil))))))))))) (db_nil)) (db_cons (ds_if (dt_bool (dw_and (dt_cmp opD_gt (de_pv 2) (de_int) (nomark _)) (dw_and (dt_cmp opD_ge (de_ix2 (de_pv 1) (de_int) (fun _ _ => rfl)) (de_int) (nomark _)) (dw_and1 (dt_cmp opD_lt (de_pv 3) (de_int) (nomark _)))))) (db_one (ds_retO (de_tup (df_of (da_cons (de_str) (da_cons (de_call (ms := [true, true, false]) hs hr T.g__law_tree T.fn__law_tree.kp T.b__law_tree (da_cons (de_pv 0) (da_cons (de_pv 1) (da_cons (de_bin opD_sub (de_pv 2) (de_int)) (da_nil)))) (len_cons (len_cons (len_cons len_nil)))) (da_nil))))))) (db_nil)) (db_cons (ds_if (dt_bool (dw_and (dt_cmp opD_gt (de_pv 2) (de_int) (nomark _)) (dw_and (dt_cmp opD_ge (de_ix2 (de_pv 1) (de_int) (fun _ _ => rfl)) (de_int) (nomark _)) (dw_and1 (dt_cmp (opD_eq hr.units) (de_pv 3) (de_int) (nomark _)))))) (db_cons (ds_asg (de_bin opD_sub (de_ix2 (de_pv 1) (de_int) (fun _ _ => rfl)) (de_int)) (dg_sub (de_pv 1) (de_int) setD_list)) (db_one (ds_retO (de_tup (df_of (da_cons (de_str) (da_cons (de_call (ms := [true]) (ok__law_pair T) (hr.mono (by omega)) T.g__law_pair T.fn__law_pair.kp T.b__law_pair (da_cons (de_pv 0) (da_nil)) (len_cons len_nil)) (da_cons (de_call (ms := [true, true, false]) hs hr T.g__law_tree T.fn__law_tree.kp T.b__law_tree (da_cons (de_pv 0) (da_cons (de_pv 1) (da_cons (de_bin opD_sub (de_pv 2) (de_int)) (da_nil)))) (len_cons (len_cons (len_cons len_nil)))) (da_nil))))))))) (db_nil)) (db_one (ds_retO (de_call (ms := [true]) (ok__law_leaf T) (hr.mono (by omega)) T.g__law_leaf T.fn__law_leaf.kp T.b__law_leaf (da_cons (de_pv 0) (da_nil)) (len_cons len_nil))))))))
theorem ok__law_words (T : Txt P base K mg ca fI fdI a fd pr) : ∀ n, FnD P w K mg base ca (1 + n) (a 14) (fd 14) P__law_words (m__law_words n)
  | 0 => fn_none 0 T.fn__law_words sc__law_words (by decide)
  | n + 1 => by
    have hs := ok__law_words T n
    exact fn_d (k := 1 + n) T.fn__law_words sc__law_words (by decide) fun cdv A outer s H E hr => db_cons (ds_name 1 sc__law_words.nd (de_ix2 (de_pv 0) (de_int) (fun _ _ => rfl))) (db_cons (ds_if (dt_cmp (opD_eq hr.units) (de_pv 1) (de_str) (nomark _)) (db_one (ds_ret (de_ix2 (de_pv 0) (de_int) (fun _ _ => rfl)))) (db_nil)) (db_cons (ds_if (dt_cmp opD_inT (de_pv 1) (de_tup (df_of (da_cons (de_str) (da_cons (de_str) (da_cons (de_str) (da_nil)))))) (by rfl)) (db_one (ds_ret (de_dx (u1 hr) (de_tbl (kvs := [(("any" : Str), ("." : Str)), (("empty" : Str), ("1" : Str)), (("none" : Str), ("0" : Str))]) (.cons (.cons (.cons .nil))) (by simp) (by decide) (by with_unfolding_all rfl)) (de_pv 1) (fun _ _ => rfl)))) (db_nil)) (db_cons (ds_if (dt_cmp (opD_eq hr.units) (de_pv 1) (de_str) (nomark _)) (db_one (ds_retO (de_bin opD_add (de_call (ms := [false]) hs hr T.g__law_words T.fn__law_words.kp T.b__law_words (da_cons (de_ix2 (de_pv 0) (de_int) (fun _ _ => rfl)) (da_nil)) (len_cons len_nil)) (de_str)))) (db_nil)) (db_cons (ds_if (dt_cmp (opD_eq hr.units) (de_pv 1) (de_str) (nomark _)) (db_one (ds_retO (de_bin opD_add (de_bin opD_add (de_bin opD_add (de_call (ms := [false]) (ok__law_said T) (hr.mono (by omega)) T.g__law_said T.fn__law_said.kp T.b__law_said (da_cons (de_ix2 (de_pv 0) (de_int) (fun _ _ => rfl)) (da_nil)) (len_cons len_nil)) (de_str)) (de_call (ms := [false]) hs hr T.g__law_words T.fn__law_words.kp T.b__law_words (da_cons (de_ix2 (de_pv 0) (de_int) (fun _ _ => rfl)) (da_nil)) (len_cons len_nil))) (de_str)))) (db_nil)) (db_one (ds_retO (de_bin opD_add (de_bin opD_add (de_bin opD_add (de_bin opD_add (de_str) (de_call (ms := [false]) hs hr T.g__law_words T.fn__law_words.kp T.b__law_words (da_cons (de_ix2 (de_pv 0) (de_int) (fun _ _ => rfl)) (da_nil)) (len_cons len_nil))) (de_dx (u1 hr) (de_tbl (kvs := [(("then" : Str), (" " : Str)), (("or" : Str), (" + " : Str))]) (.cons (.cons .nil)) (by simp) (by decide) (by with_unfolding_all rfl)) (de_pv 1) (fun _ _ => rfl))) (de_call (ms := [false]) hs hr T.g__law_words T.fn__law_words.kp T.b__law_words (da_cons (de_ix2 (de_pv 0) (de_int) (fun _ _ => rfl)) (da_nil)) (len_cons len_nil))) (de_str))))))))
theorem ok_pair_at (T : Txt P base K mg ca fI fdI a fd pr) {n : Nat} {mself : Mir} (hs : FnD P w K mg base ca (2 + 3 * n) (a 18) (fd 18) P_pattern_at mself) : FnD P w K mg base ca (2 + 3 * n + 1) (a 15) (fd 15) P_pair_at (m_pair_at mself) :=
  fn_d T.fn_pair_at sc_pair_at (by decide) fun cdv A outer s H E hr => db_cons (ds_name 2 sc_pair_at.nd (de_call (ms := [false, false]) hs (hr.mono (by omega)) T.g_pattern_at T.fn_pattern_at.kp T.b_pattern_at (da_cons (de_pv 0) (da_cons (de_pv 1) (da_nil))) (len_cons (len_cons len_nil)))) (db_cons (ds_if (dt_cmp opD_isN (de_pv 2) (de_non) (nomark _)) (db_one (ds_retO (de_non))) (db_nil)) (db_cons (ds_name 3 sc_pair_at.nd (de_ix2 (de_pv 2) (de_int) (fun _ _ => rfl))) (db_cons (ds_asg (de_if (dt_cmp (opD_eq hr.units) (de_sl11 (de_pv 0) (de_pv 3) (de_bin opD_add (de_pv 3) (de_int))) (de_str) (nomark _)) (de_tup (df_of (da_cons (de_str) (da_cons (de_str) (da_nil))))) (de_tup (df_of (da_cons (de_str) (da_cons (de_str) (da_nil)))))) (dg_tup rfl (dgs_cons (dg_nm 4 sc_pair_at.nd) (dgs_cons (dg_nm 5 sc_pair_at.nd) (dgs_nil))))) (db_cons (ds_if (dt_cmp (opD_ne hr.units) (de_sl11 (de_pv 0) (de_pv 3) (de_bin opD_add (de_pv 3) (de_callB callD_len (by rfl) T.z_len (by decide +kernel) (da_cons (de_pv 5) (da_nil))))) (de_pv 5) (nomark _)) (db_one (ds_retO (de_non))) (db_nil)) (db_cons (ds_name 6 sc_pair_at.nd (de_call (ms := [false, false]) hs (hr.mono (by omega)) T.g_pattern_at T.fn_pattern_at.kp T.b_pattern_at (da_cons (de_pv 0) (da_cons (de_bin opD_add (de_pv 3) (de_callB callD_len (by rfl) T.z_len (by decide +kernel) (da_cons (de_pv 5) (da_nil)))) (da_nil))) (len_cons (len_cons len_nil)))) (db_cons (ds_if (dt_bool (dw_or (dt_cmp opD_isN (de_pv 6) (de_non) (nomark _)) (dw_or1 (dt_cmp (opD_ne hr.units) (de_sl11 (de_pv 0) (de_ix2 (de_pv 6) (de_int) (fun _ _ => rfl)) (de_bin opD_add (de_ix2 (de_pv 6) (de_int) (fun _ _ => rfl)) (de_int))) (de_str) (nomark _))))) (db_one (ds_retO (de_non))) (db_nil)) (db_one (ds_retO (de_tup (df_of (da_cons (de_tup (df_of (da_cons (de_pv 4) (da_cons (de_ix2 (de_pv 2) (de_int) (fun _ _ => rfl)) (da_cons (de_ix2 (de_pv 6) (de_int) (fun _ _ => rfl)) (da_nil)))))) (da_cons (de_bin opD_add (de_ix2 (de_pv 6) (de_int) (fun _ _ => rfl)) (de_int)) (da_nil)))))))))))))
theorem ok_weighed_at (T : Txt P base K mg ca fI fdI a fd pr) {n : Nat} {mself : Mir} (hs : FnD P w K mg base ca (2 + 3 * n) (a 18) (fd 18) P_pattern_at mself) : FnD P w K mg base ca (2 + 3 * n + 1) (a 16) (fd 16) P_weighed_at (m_weighed_at mself) :=
  fn_d T.fn_weighed_at sc_weighed_at (by decide) fun cdv A outer s H E hr => db_cons (ds_name 2 sc_weighed_at.nd (de_pv 1)) (db_cons (ds_while (dt_bool (dw_and (dt_cmp opD_lt (de_pv 2) (de_callB callD_len (by rfl) T.z_len (by decide +kernel) (da_cons (de_pv 0) (da_nil))) (nomark _)) (dw_and1 (dt_cmp (opD_in (u65 hr)) (de_ix2 (de_pv 0) (de_pv 2) (fun _ _ => rfl)) (de_str) (by rfl))))) (db_one (ds_name 2 sc_weighed_at.nd (de_bin opD_add (de_pv 2) (de_int))))) (db_cons (ds_name 3 sc_weighed_at.nd (de_sl11 (de_pv 0) (de_pv 1) (de_pv 2))) (db_cons (ds_if (dt_cmp (opD_ne hr.units) (de_sl11 (de_pv 0) (de_pv 2) (de_bin opD_add (de_pv 2) (de_int))) (de_str) (nomark _)) (db_cons (ds_if (dt_cmp (opD_eq hr.units) (de_pv 3) (de_str) (nomark _)) (db_one (ds_retO (de_tup (df_of (da_cons (de_tup (df_of (da_cons (de_str) (da_nil)))) (da_cons (de_pv 2) (da_nil))))))) (db_nil)) (db_one (ds_retO (de_if (dt_cmp (opD_eq hr.units) (de_pv 3) (de_str) (nomark _)) (de_tup (df_of (da_cons (de_tup (df_of (da_cons (de_str) (da_nil)))) (da_cons (de_pv 2) (da_nil))))) (de_non))))) (db_nil)) (db_cons (ds_name 4 sc_weighed_at.nd (de_call (ms := [false]) (ok_number_of T) (hr.mono (by omega)) T.g_number_of T.fn_number_of.kp T.b_number_of (da_cons (de_pv 3) (da_nil)) (len_cons len_nil))) (db_cons (ds_if (dt_cmp opD_isN (de_pv 4) (de_non) (nomark _)) (db_one (ds_retO (de_non))) (db_nil)) (db_cons (ds_name 5 sc_weighed_at.nd (de_call (ms := [false, false]) hs (hr.mono (by omega)) T.g_pattern_at T.fn_pattern_at.kp T.b_pattern_at (da_cons (de_pv 0) (da_cons (de_bin opD_add (de_pv 2) (de_int)) (da_nil))) (len_cons (len_cons len_nil)))) (db_cons (ds_if (dt_bool (dw_or (dt_cmp opD_isN (de_pv 5) (de_non) (nomark _)) (dw_or1 (dt_cmp (opD_ne hr.units) (de_sl11 (de_pv 0) (de_ix2 (de_pv 5) (de_int) (fun _ _ => rfl)) (de_bin opD_add (de_ix2 (de_pv 5) (de_int) (fun _ _ => rfl)) (de_int))) (de_str) (nomark _))))) (db_one (ds_retO (de_non))) (db_nil)) (db_one (ds_retO (de_tup (df_of (da_cons (de_tup (df_of (da_cons (de_str) (da_cons (de_pv 4) (da_cons (de_ix2 (de_pv 5) (de_int) (fun _ _ => rfl)) (da_nil)))))) (da_cons (de_bin opD_add (de_ix2 (de_pv 5) (de_int) (fun _ _ => rfl)) (de_int)) (da_nil))))))))))))))
theorem ok_part_at (T : Txt P base K mg ca fI fdI a fd pr) {n : Nat} {mself : Mir} (hs : FnD P w K mg base ca (2 + 3 * n) (a 18) (fd 18) P_pattern_at mself) : FnD P w K mg base ca (2 + 3 * n + 2) (a 17) (fd 17) P_part_at (m_part_at mself) :=
  fn_d T.fn_part_at sc_part_at (by decide) fun cdv A outer s H E hr => db_cons (ds_name 2 sc_part_at.nd (de_sl11 (de_pv 0) (de_pv 1) (de_bin opD_add (de_pv 1) (de_int)))) (db_cons (ds_if (dt_cmp (opD_eq hr.units) (de_pv 2) (de_str) (nomark _)) (db_one (ds_retO (de_non))) (db_nil)) (db_cons (ds_if (dt_cmp (opD_eq hr.units) (de_pv 2) (de_str) (nomark _)) (db_one (ds_retO (de_call (ms := [false, false]) (ok_pair_at T hs) (hr.mono (by omega)) T.g_pair_at T.fn_pair_at.kp T.b_pair_at (da_cons (de_pv 0) (da_cons (de_bin opD_add (de_pv 1) (de_int)) (da_nil))) (len_cons (len_cons len_nil))))) (db_nil)) (db_cons (ds_if (dt_cmp (opD_eq hr.units) (de_pv 2) (de_str) (nomark _)) (db_one (ds_retO (de_tup (df_of (da_cons (de_tup (df_of (da_cons (de_str) (da_nil)))) (da_cons (de_bin opD_add (de_pv 1) (de_int)) (da_nil))))))) (db_nil)) (db_cons (ds_if (dt_cmp (opD_in (u65 hr)) (de_pv 2) (de_gstr (z := ("abcdefghijklmnopqrstuvwxyz" : Str)) T.g_LETTERS) (by rfl)) (db_one (ds_retO (de_tup (df_of (da_cons (de_tup (df_of (da_cons (de_str) (da_cons (de_pv 2) (da_nil))))) (da_cons (de_bin opD_add (de_pv 1) (de_int)) (da_nil))))))) (db_nil)) (db_one (ds_retO (de_call (ms := [false, false]) (ok_weighed_at T hs) (hr.mono (by omega)) T.g_weighed_at T.fn_weighed_at.kp T.b_weighed_at (da_cons (de_pv 0) (da_cons (de_pv 1) (da_nil))) (len_cons (len_cons len_nil)))))))))
theorem ok_pattern_at (T : Txt P base K mg ca fI fdI a fd pr) : ∀ n, FnD P w K mg base ca (2 + 3 * n) (a 18) (fd 18) P_pattern_at (m_pattern_at n)
  | 0 => fn_none 1 T.fn_pattern_at sc_pattern_at (by decide)
  | n + 1 => by
    have hs := ok_pattern_at T n
    exact fn_d (k := 2 + 3 * n + 2) T.fn_pattern_at sc_pattern_at (by decide) fun cdv A outer s H E hr => db_cons (ds_name 2 sc_pattern_at.nd (de_call (ms := [false, false]) (ok_part_at T hs) (hr.mono (by omega)) T.g_part_at T.fn_part_at.kp T.b_part_at (da_cons (de_pv 0) (da_cons (de_pv 1) (da_nil))) (len_cons (len_cons len_nil)))) (db_cons (ds_while (dt_bool (dw_and (dt_cmp opD_notN (de_pv 2) (de_non) (nomark _)) (dw_and1 (dt_cmp (opD_eq hr.units) (de_sl11 (de_pv 0) (de_ix2 (de_pv 2) (de_int) (fun _ _ => rfl)) (de_bin opD_add (de_ix2 (de_pv 2) (de_int) (fun _ _ => rfl)) (de_int))) (de_str) (nomark _))))) (db_one (ds_name 2 sc_pattern_at.nd (de_tup (df_of (da_cons (de_tup (df_of (da_cons (de_str) (da_cons (de_ix2 (de_pv 2) (de_int) (fun _ _ => rfl)) (da_nil))))) (da_cons (de_bin opD_add (de_ix2 (de_pv 2) (de_int) (fun _ _ => rfl)) (de_int)) (da_nil)))))))) (db_one (ds_retO (de_pv 2))))
theorem ok_read_pattern (T : Txt P base K mg ca fI fdI a fd pr) : FnD P w K mg base ca 69 (a 19) (fd 19) P_read_pattern m_read_pattern :=
  fn_d T.fn_read_pattern sc_read_pattern (by decide) fun cdv A outer s H E hr => db_cons (ds_name 1 sc_read_pattern.nd (de_call (ms := [false, false]) (ok_pattern_at T 22) (hr.mono (by decide)) T.g_pattern_at T.fn_pattern_at.kp T.b_pattern_at (da_cons (de_pv 0) (da_cons (de_int) (da_nil))) (len_cons (len_cons len_nil)))) (db_cons (ds_if (dt_bool (dw_or (dt_cmp opD_isN (de_pv 1) (de_non) (nomark _)) (dw_or1 (dt_cmp (opD_ne hr.units) (de_ix2 (de_pv 1) (de_int) (fun _ _ => rfl)) (de_callB callD_len (by rfl) T.z_len (by decide +kernel) (da_cons (de_pv 0) (da_nil))) (nomark _))))) (db_one (ds_raise (c := 16) rfl (T.ex 16 (by decide)) T.tI (ok_init T) (hr.mono (by decide)) T.bI T.g_Unreadable (df_of (da_cons (de_pv 0) (da_nil))))) (db_nil)) (db_one (ds_ret (de_ix2 (de_pv 1) (de_int) (fun _ _ => rfl)))))
theorem ok_show_pattern (T : Txt P base K mg ca fI fdI a fd pr) : ∀ n, FnD P w K mg base ca (1 + n) (a 20) (fd 20) P_show_pattern (m_show_pattern n)
  | 0 => fn_none 0 T.fn_show_pattern sc_show_pattern (by decide)
  | n + 1 => by
    have hs := ok_show_pattern T n
    exact fn_d (k := 1 + n) T.fn_show_pattern sc_show_pattern (by decide) fun cdv A outer s H E hr => db_cons (ds_name 1 sc_show_pattern.nd (de_ix2 (de_pv 0) (de_int) (fun _ _ => rfl))) (db_cons (ds_if (dt_cmp (opD_eq hr.units) (de_pv 1) (de_str) (nomark _)) (db_one (ds_ret (de_ix2 (de_pv 0) (de_int) (fun _ _ => rfl)))) (db_nil)) (db_cons (ds_if (dt_cmp (opD_eq hr.units) (de_pv 1) (de_str) (nomark _)) (db_one (ds_retO (de_str))) (db_nil)) (db_cons (ds_if (dt_cmp (opD_eq hr.units) (de_pv 1) (de_str) (nomark _)) (db_one (ds_retO (de_str))) (db_nil)) (db_cons (ds_if (dt_cmp (opD_eq hr.units) (de_pv 1) (de_str) (nomark _)) (db_one (ds_retO (de_str))) (db_nil)) (db_cons (ds_if (dt_cmp (opD_eq hr.units) (de_pv 1) (de_str) (nomark _)) (db_one (ds_retO (de_bin opD_add (de_call (ms := [false]) hs hr T.g_show_pattern T.fn_show_pattern.kp T.b_show_pattern (da_cons (de_ix2 (de_pv 0) (de_int) (fun _ _ => rfl)) (da_nil)) (len_cons len_nil)) (de_str)))) (db_nil)) (db_cons (ds_if (dt_cmp (opD_eq hr.units) (de_pv 1) (de_str) (nomark _)) (db_one (ds_retO (de_bin opD_add (de_bin opD_add (de_bin opD_add (de_call (ms := [false]) (ok_show_number T) (hr.mono (by omega)) T.g_show_number T.fn_show_number.kp T.b_show_number (da_cons (de_ix2 (de_pv 0) (de_int) (fun _ _ => rfl)) (da_nil)) (len_cons len_nil)) (de_str)) (de_call (ms := [false]) hs hr T.g_show_pattern T.fn_show_pattern.kp T.b_show_pattern (da_cons (de_ix2 (de_pv 0) (de_int) (fun _ _ => rfl)) (da_nil)) (len_cons len_nil))) (de_str)))) (db_nil)) (db_cons (ds_name 2 sc_show_pattern.nd (de_if (dt_cmp (opD_eq hr.units) (de_pv 1) (de_str) (nomark _)) (de_str) (de_str))) (db_one (ds_retO (de_bin opD_add (de_bin opD_add (de_bin opD_add (de_bin opD_add (de_str) (de_call (ms := [false]) hs hr T.g_show_pattern T.fn_show_pattern.kp T.b_show_pattern (da_cons (de_ix2 (de_pv 0) (de_int) (fun _ _ => rfl)) (da_nil)) (len_cons len_nil))) (de_pv 2)) (de_call (ms := [false]) hs hr T.g_show_pattern T.fn_show_pattern.kp T.b_show_pattern (da_cons (de_ix2 (de_pv 0) (de_int) (fun _ _ => rfl)) (da_nil)) (len_cons len_nil))) (de_str)))))))))))
theorem ok__law_patterns_right (T : Txt P base K mg ca fI fdI a fd pr) : FnD P w K mg base ca 70 (a 21) (fd 21) P__law_patterns_right m__law_patterns_right :=
  fn_d T.fn__law_patterns_right sc__law_patterns_right (by decide) fun cdv A outer s H E hr => db_cons (ds_name 1 sc__law_patterns_right.nd (de_callT (ms := [true, true, false]) (ok__law_tree T 13) (hr.mono (by decide)) T.g__law_tree T.fn__law_tree.kp T.b__law_tree (da_cons (de_pv 0) (da_cons (de_lst (df_of (da_cons (de_int) (da_nil)))) (da_cons (de_int) (da_nil)))) (len_cons (len_cons (len_cons len_nil))))) (db_cons (ds_name 2 sc__law_patterns_right.nd (de_call (ms := [false]) (ok__law_words T 22) (hr.mono (by decide)) T.g__law_words T.fn__law_words.kp T.b__law_words (da_cons (de_pv 1) (da_nil)) (len_cons len_nil))) (db_cons (ds_if (dt_bool (dw_or (dt_not (dt_tru (de_call (ms := [false, false]) (ok__law_same T 23) (hr.mono (by decide)) T.g__law_same T.fn__law_same.kp T.b__law_same (da_cons (de_call (ms := [false]) (ok_show_pattern T 22) (hr.mono (by decide)) T.g_show_pattern T.fn_show_pattern.kp T.b_show_pattern (da_cons (de_pv 1) (da_nil)) (len_cons len_nil)) (da_cons (de_pv 2) (da_nil))) (len_cons (len_cons len_nil))))) (dw_or1 (dt_not (dt_tru (de_call (ms := [false, false]) (ok__law_same T 23) (hr.mono (by decide)) T.g__law_same T.fn__law_same.kp T.b__law_same (da_cons (de_callK (ks := [("pattern" : Str)]) (ok_show_pattern T 22) (hr.mono (by decide)) T.g_show_pattern T.fn_show_pattern.kp T.kw_show_pattern_pattern (dk_cons (de_pv 1) (dk_nil))) (da_cons (de_pv 2) (da_nil))) (len_cons (len_cons len_nil)))))))) (db_one (ds_retO (de_bl))) (db_nil)) (db_cons (ds_if (dt_not (dt_tru (de_call (ms := [false, false]) (ok__law_same T 23) (hr.mono (by decide)) T.g__law_same T.fn__law_same.kp T.b__law_same (da_cons (de_call (ms := [false]) (ok_read_pattern T) (hr.mono (by decide)) T.g_read_pattern T.fn_read_pattern.kp T.b_read_pattern (da_cons (de_pv 2) (da_nil)) (len_cons len_nil)) (da_cons (de_pv 1) (da_nil))) (len_cons (len_cons len_nil))))) (db_one (ds_retO (de_bl))) (db_nil)) (db_cons (ds_name 3 sc__law_patterns_right.nd (de_if (dt_cmp opD_gt (de_call (ms := [true, false]) (ok__law_dip T) (hr.mono (by decide)) T.g__law_dip T.fn__law_dip.kp T.b__law_dip (da_cons (de_pv 0) (da_cons (de_int) (da_nil))) (len_cons (len_cons len_nil))) (de_int) (nomark _)) (de_call (ms := [true]) (ok__law_chain T) (hr.mono (by decide)) T.g__law_chain T.fn__law_chain.kp T.b__law_chain (da_cons (de_pv 0) (da_nil)) (len_cons len_nil)) (de_callT (ms := [true, true, false]) (ok__law_tree T 13) (hr.mono (by decide)) T.g__law_tree T.fn__law_tree.kp T.b__law_tree (da_cons (de_pv 0) (da_cons (de_lst (df_of (da_cons (de_int) (da_nil)))) (da_cons (de_int) (da_nil)))) (len_cons (len_cons (len_cons len_nil)))))) (db_cons (ds_name 4 sc__law_patterns_right.nd (de_callK (ks := [("text" : Str)]) (ok_read_pattern T) (hr.mono (by decide)) T.g_read_pattern T.fn_read_pattern.kp T.kw_read_pattern_text (dk_cons (de_call (ms := [false]) (ok__law_words T 22) (hr.mono (by decide)) T.g__law_words T.fn__law_words.kp T.b__law_words (da_cons (de_pv 3) (da_nil)) (len_cons len_nil)) (dk_nil)))) (db_one (ds_retO (de_and (de_call (ms := [false, false]) (ok__law_same T 23) (hr.mono (by decide)) T.g__law_same T.fn__law_same.kp T.b__law_same (da_cons (de_pv 4) (da_cons (de_pv 3) (da_nil))) (len_cons (len_cons len_nil))) (de_one (de_call (ms := [false, false]) (ok__law_same T 23) (hr.mono (by decide)) T.g__law_same T.fn__law_same.kp T.b__law_same (da_cons (de_call (ms := [false]) (ok_show_pattern T 22) (hr.mono (by decide)) T.g_show_pattern T.fn_show_pattern.kp T.b_show_pattern (da_cons (de_pv 4) (da_nil)) (len_cons len_nil)) (da_cons (de_call (ms := [false]) (ok__law_words T 22) (hr.mono (by decide)) T.g__law_words T.fn__law_words.kp T.b__law_words (da_cons (de_pv 3) (da_nil)) (len_cons len_nil)) (da_nil))) (len_cons (len_cons len_nil))))))))))))
theorem ok__law_well (T : Txt P base K mg ca fI fdI a fd pr) : FnD P w K mg base ca 1 (a 22) (fd 22) P__law_well m__law_well :=
  fn_d T.fn__law_well sc__law_well (by decide) fun cdv A outer s H E hr => db_cons (ds_name 2 sc__law_well.nd (de_if (dt_cmp opD_lt (de_pv 1) (de_callB callD_len (by rfl) T.z_len (by decide +kernel) (da_cons (de_pv 0) (da_nil))) (nomark _)) (de_ix2 (de_pv 0) (de_pv 1) (fun _ _ => rfl)) (de_bin opD_add (de_bin opD_mulX (de_pv 1) (de_int)) (de_bin opD_mulX (de_callB callD_len (by rfl) T.z_len (by decide +kernel) (da_cons (de_pv 0) (da_nil))) (de_int))))) (db_one (ds_retO (de_lstO (da_cons (de_callB (callD_max rfl) (by rfl) T.z_max (by decide +kernel) (da_cons (de_int) (da_cons (de_bin opD_sub (de_callB callD_abs (by rfl) T.z_abs (by decide +kernel) (da_cons (de_pv 2) (da_nil))) (de_bin opD_pow (de_int) (de_int))) (da_nil)))) (da_cons (de_bin opD_mod (de_callTy callD_int (by rfl) T.z_int (by decide +kernel) (da_cons (de_bin opD_add (de_bin opD_add (de_bin opD_mulX (de_pv 2) (de_int)) (de_bin opD_mulX (de_pv 1) (de_int))) (de_int)) (da_nil))) (de_bin opD_add (de_bin opD_pow (de_int) (de_int)) (de_int))) (da_cons (de_int) (da_nil)))))))
theorem ok_law (T : Txt P base K mg ca fI fdI a fd pr) : FnD P w K mg base ca 71 (a 23) (fd 23) P_law m_law :=
  fn_d T.fn_law sc_law (by decide) fun cdv A outer s H E hr => db_cons (ds_for rfl (di_range1 T.z_range (da_cons (de_callB (callD_max rfl) (by rfl) T.z_max (by decide +kernel) (da_cons (de_int) (da_cons (de_callB (callD_min rfl) (by rfl) T.z_min (by decide +kernel) (da_cons (de_int) (da_cons (de_callB callD_len (by rfl) T.z_len (by decide +kernel) (da_cons (de_pv 0) (da_nil))) (da_nil)))) (da_nil)))) (da_nil))) (dg_nm 1 sc_law.nd) (db_cons (ds_name 2 sc_law.nd (de_call (ms := [false, false]) (ok__law_well T) (hr.mono (by decide)) T.g__law_well T.fn__law_well.kp T.b__law_well (da_cons (de_pv 0) (da_cons (de_pv 1) (da_nil))) (len_cons (len_cons len_nil)))) (db_one (ds_for rfl (di_range1 T.z_range (da_cons (de_int) (da_nil))) (dg_nm 3 sc_law.nd) (db_one (ds_if (dt_bool (dw_or (dt_not (dt_tru (de_call (ms := [true]) (ok__law_numbers_right T) (hr.mono (by decide)) T.g__law_numbers_right T.fn__law_numbers_right.kp T.b__law_numbers_right (da_cons (de_pv 2) (da_nil)) (len_cons len_nil)))) (dw_or1 (dt_not (dt_tru (de_call (ms := [true]) (ok__law_patterns_right T) (hr.mono (by decide)) T.g__law_patterns_right T.fn__law_patterns_right.kp T.b__law_patterns_right (da_cons (de_pv 2) (da_nil)) (len_cons len_nil))))))) (db_one (ds_retO (de_bl))) (db_nil))))))) (db_one (ds_retO (de_bl)))
end
end K85
namespace K85
open PySem PySem.Spec PyProof.Rows L2 DL DL.Q
theorem txt_nat (n r w : Nat) : HT.sIx n w (some (r : Int)) = min r n := by
  unfold HT.sIx
  dsimp only
  have h1 : ¬ (r : Int) < 0 := by omega
  rw [if_neg h1]
  omega
theorem txt_cut {z : List Nat} {lo hi : Option Int} (h : z.length ≤ 16777216) : cutD (sD z) lo hi = some (sD (cutL z lo hi)) := by
  show (if (⟨z.toArray⟩ : Str).length ≤ 16777216 then some (D.str (cutS ⟨z.toArray⟩ lo hi)) else none) = _
  rw [if_pos (show (⟨z.toArray⟩ : Str).length ≤ 16777216 from h)]
  rfl
theorem cut_2 {t : List Nat} {i j : Nat} (h : t.length ≤ 16777216) : gSl true true [sD t, .int (i : Int), .int (j : Int)] = some (sD ((t.drop i).take (j - i))) := by
  have e : cutL t (some (i : Int)) (some (j : Int)) = (t.drop i).take (j - i) := by
    unfold cutL
    rw [txt_nat, txt_nat]
    by_cases hi : i ≤ t.length
    · rw [Nat.min_eq_left hi]
      by_cases hj : j ≤ t.length
      · rw [Nat.min_eq_left hj]
      · rw [Nat.min_eq_right (by omega), List.take_of_length_le (by simp), List.take_of_length_le (by simp; omega)]
    · rw [List.drop_eq_nil_of_le (by omega : t.length ≤ min i t.length), List.drop_eq_nil_of_le (by omega : t.length ≤ i)]
      simp
  have := txt_cut (lo := some (i : Int)) (hi := some (j : Int)) h
  rw [e] at this
  exact this
theorem cut_1 {t : List Nat} {i : Nat} (h : t.length ≤ 16777216) : gSl true false [sD t, .int (i : Int)] = some (sD (t.drop i)) := by
  have e : cutL t (some (i : Int)) none = t.drop i := by
    unfold cutL
    rw [txt_nat]
    show (t.drop (min i t.length)).take (t.length - min i t.length) = _
    rw [← List.length_drop, List.take_length]
    by_cases h : i ≤ t.length
    · rw [Nat.min_eq_left h]
    · rw [Nat.min_eq_right (by omega), List.drop_length, List.drop_eq_nil_of_le (by omega)]
  have := txt_cut (lo := some (i : Int)) (hi := none) h
  rw [e] at this
  exact this
theorem txt_ix {t : List Nat} {i : Nat} {c : Nat} (hc : t[i]? = some c) (h : t.length ≤ 16777216) : gIx [sD t, .int (i : Int)] = some (sD [c]) := by
  have hi : i < t.length := by
    by_cases hi : i < t.length
    · exact hi
    · rw [List.getElem?_eq_none (by omega)] at hc; cases hc
  show (if (⟨t.toArray⟩ : Str).length ≤ 16777216 then (atI t (i : Int)).map fun c => D.str ⟨#[c]⟩ else none) = _
  rw [if_pos (show (⟨t.toArray⟩ : Str).length ≤ 16777216 from h)]
  unfold atI ixN
  rw [if_pos (by omega), if_pos (by omega), Int.toNat_natCast]
  show (t[i]?).map _ = _
  rw [hc]
  rfl
theorem txt_sw {c : Nat} {t : List Nat} : gSw [sD t, sD [c]] = some (.bl (decide (t.head? = some c))) := by
  show some (D.bl (Txt.startswith ⟨t.toArray⟩ ⟨#[c]⟩)) = _
  refine congrArg (fun b => some (D.bl b)) ?_
  unfold Txt.startswith Builtin.Str.subAt
  cases t with
  | nil => rfl
  | cons d t =>
    have e : ((⟨(d :: t).toArray⟩ : Str).cps.extract 0 (0 + (⟨#[c]⟩ : Str).length) == (⟨#[c]⟩ : Str).cps) = decide (d = c) := by
      have e1 : (⟨(d :: t).toArray⟩ : Str).cps.extract 0 (0 + (⟨#[c]⟩ : Str).length) = #[d] := by
        apply Array.toList_inj.mp
        rw [Array.toList_extract]
        rfl
      rw [e1]
      show (#[d] == #[c]) = _
      by_cases h : d = c
      · subst h; simp
      · simp [h]
    rw [e]
    have e2 : (decide (0 + (⟨#[c]⟩ : Str).length ≤ (⟨(d :: t).toArray⟩ : Str).length)) = true := by
      rw [decide_eq_true_eq]
      show 0 + 1 ≤ (d :: t).length
      simp
    rw [e2, Bool.true_and]
    simp
theorem txt_par {c : Nat} : ∀ (u acc v : List Nat), c ∉ u → TL.par [c] acc (u ++ c :: v) = some (acc ++ u, v)
  | [], acc, v, _ => by
    rw [List.append_nil]
    exact TL.par_hit (TL.pre_self [c] v)
  | d :: u, acc, v, h => by
    have hd : d ≠ c := fun e => h (by simp [e])
    rw [List.cons_append, TL.par_miss (TL.pre_of_head [] _ hd), txt_par u (acc ++ [d]) v (fun x => h (by simp [x]))]
    simp
theorem txt_par0 {c : Nat} : ∀ (u acc : List Nat), c ∉ u → TL.par [c] acc u = none
  | [], acc, _ => rfl
  | d :: u, acc, h => by
    have hd : d ≠ c := fun e => h (by simp [e])
    rw [TL.par_miss (TL.pre_of_head [] _ hd), txt_par0 u (acc ++ [d]) (fun x => h (by simp [x]))]
theorem part_some {c : Nat} {u v : List Nat} (h : c ∉ u) (hl : (u ++ c :: v).length ≤ 16777216) : gPart [sD (u ++ c :: v), sD [c]] = some (.tup [sD u, sD [c], sD v]) := by
  have e := SX.partition_some (a := u ++ c :: v) (b := [c]) (by simp) (txt_par u [] v h)
  show (if ((⟨#[c]⟩ : Str).length == 0) = false ∧ (⟨(u ++ c :: v).toArray⟩ : Str).length ≤ sizeLine then some (D.tup [.str (Txt.partition (SX.S (u ++ c :: v)) (SX.S [c])).1, .str (Txt.partition (SX.S (u ++ c :: v)) (SX.S [c])).2.1, .str (Txt.partition (SX.S (u ++ c :: v)) (SX.S [c])).2.2]) else none) = _
  rw [e, if_pos ⟨rfl, show (u ++ c :: v).length ≤ sizeLine from Nat.le_trans hl (by decide)⟩]
  rfl
theorem part_none {c : Nat} {u : List Nat} (h : c ∉ u) (hl : u.length ≤ 16777216) : gPart [sD u, sD [c]] = some (.tup [sD u, sD [], sD []]) := by
  have e := SX.partition_none (a := u) (b := [c]) (by simp) (txt_par0 u [] h)
  show (if ((⟨#[c]⟩ : Str).length == 0) = false ∧ (⟨u.toArray⟩ : Str).length ≤ sizeLine then some (D.tup [.str (Txt.partition (SX.S u) (SX.S [c])).1, .str (Txt.partition (SX.S u) (SX.S [c])).2.1, .str (Txt.partition (SX.S u) (SX.S [c])).2.2]) else none) = _
  rw [e, if_pos ⟨rfl, show u.length ≤ sizeLine from Nat.le_trans hl (by decide)⟩]
  rfl
def dg (m : Nat) : List Nat := (Nat.toDigits 10 m).map Char.toNat
def inT (z : Int) : List Nat := if z < 0 then 45 :: dg z.natAbs else dg z.natAbs
theorem dch : ∀ d : Nat, d < 10 → (Nat.digitChar d).toNat = 48 + d := by decide
theorem dg_lt {m : Nat} (h : m < 10) : dg m = [48 + m] := by
  unfold dg
  rw [Nat.toDigits_of_lt_base h]
  show [(Nat.digitChar m).toNat] = _
  rw [dch m h]
theorem dg_ge {m : Nat} (h : 10 ≤ m) : dg m = dg (m / 10) ++ [48 + m % 10] := by
  have hm : m % 10 < 10 := Nat.mod_lt m (by decide)
  have t : Nat.toDigits 10 (m / 10) ++ Nat.toDigits 10 (m % 10) = Nat.toDigits 10 (10 * (m / 10) + m % 10) := Nat.toDigits_append_toDigits (by decide) (by omega) hm
  rw [Nat.div_add_mod] at t
  unfold dg
  rw [← t, List.map_append, Nat.toDigits_of_lt_base hm]
  show _ ++ [(Nat.digitChar (m % 10)).toNat] = _
  rw [dch _ hm]
theorem dg_ne (m : Nat) : dg m ≠ [] := by
  by_cases h : m < 10
  · rw [dg_lt h]; simp
  · rw [dg_ge (by omega)]; simp
theorem dg_mem (m : Nat) : ∀ c ∈ dg m, 48 ≤ c ∧ c ≤ 57 := by
  induction m using Nat.strongRecOn with
  | _ m ih =>
    by_cases h : m < 10
    · rw [dg_lt h]
      intro c hc
      rw [List.mem_singleton.mp hc]
      omega
    · rw [dg_ge (by omega)]
      intro c hc
      rcases List.mem_append.mp hc with hc | hc
      · exact ih (m / 10) (by omega) c hc
      · rw [List.mem_singleton.mp hc]
        omega
theorem dg_head {m : Nat} (h0 : 0 < m) : ∃ c t, dg m = c :: t ∧ c ≠ 48 := by
  induction m using Nat.strongRecOn with
  | _ m ih =>
    by_cases h : m < 10
    · exact ⟨48 + m, [], dg_lt h, by omega⟩
    · obtain ⟨c, t, e, hc⟩ := ih (m / 10) (by omega) (by omega)
      exact ⟨c, t ++ [48 + m % 10], by rw [dg_ge (by omega), e]; rfl, hc⟩
theorem dg_len {m k : Nat} (hk : 1 ≤ k) (h : m < 10 ^ k) : (dg m).length ≤ k := by
  unfold dg
  rw [List.length_map]
  exact digits10_le hk h
theorem dg_back (m : Nat) : PySem.NumText.digitsVal (dg m) = m := PySem.W.KIN.val_back m
theorem str_nat (m : Nat) : D.str (toString ((m : Nat) : Int) : String) = sD (dg m) := by
  rw [str_sD]
  exact congrArg sD (PySem.W.KIN.signs_num m)
theorem str_int (z : Int) : D.str (toString z : String) = sD (inT z) := by
  unfold inT
  by_cases h : z < 0
  · rw [if_pos h]
    obtain ⟨m, rfl⟩ : ∃ m : Nat, z = Int.negSucc m := ⟨z.natAbs - 1, by omega⟩
    rw [str_sD]
    refine congrArg sD ?_
    have e : (Str.ofString (toString (Int.negSucc m))).cps.toList = 45 :: (toString (m + 1)).toList.map Char.toNat := by
      rw [signs_ofString]
      show (("-" : String) ++ Nat.repr (m + 1)).toList.map Char.toNat = _
      rw [String.toList_append]
      rfl
    rw [show (Int.negSucc m).natAbs = m + 1 from rfl]
    refine e.trans ?_
    refine congrArg (List.cons 45) ?_
    have e2 := PySem.W.KIN.signs_num (m + 1)
    rw [signs_ofString] at e2
    exact e2
  · rw [if_neg h]
    obtain ⟨m, rfl⟩ := Int.eq_ofNat_of_zero_le (by omega : 0 ≤ z)
    exact str_nat m
theorem inT_mem {z : Int} : ∀ c ∈ inT z, c = 45 ∨ (48 ≤ c ∧ c ≤ 57) := by
  intro c hc
  unfold inT at hc
  split at hc
  · rcases List.mem_cons.mp hc with rfl | hc
    · exact .inl rfl
    · exact .inr (dg_mem _ c hc)
  · exact .inr (dg_mem _ c hc)
theorem inT_47 {z : Int} : 47 ∉ inT z := fun h => by rcases inT_mem 47 h with h | h <;> omega
theorem inT_len {z : Int} {k : Nat} (hk : 1 ≤ k) (h : z.natAbs < 10 ^ k) : (inT z).length ≤ k + 1 := by
  unfold inT
  have := dg_len hk h
  split
  · simp; omega
  · omega
theorem inT_ne {z : Int} : inT z ≠ [] := by
  unfold inT
  split
  · simp
  · exact dg_ne _
theorem int_back {z : Int} (h : z.natAbs < 10 ^ 9) : gIntA [sD (inT z)] = some (.int z) := by
  have hl := inT_len (z := z) (k := 9) (by omega) h
  have e : PySem.intText? ⟨(inT z).toArray⟩ = some z := by
    unfold inT at hl ⊢
    by_cases hz : z < 0
    · rw [if_pos hz] at hl ⊢
      have := PySem.intText_neg (x := ⟨(45 :: dg z.natAbs).toArray⟩) (cs := dg z.natAbs) rfl (fun c hc => dg_mem _ c hc) (dg_ne _) (show (45 :: dg z.natAbs).length ≤ 4300 by omega)
      rw [dg_back] at this
      rw [this]
      congr 1
      omega
    · rw [if_neg hz] at hl ⊢
      have := PySem.intText_digits (x := ⟨(dg z.natAbs).toArray⟩) (fun c hc => dg_mem _ c hc) (dg_ne _) (show (dg z.natAbs).length ≤ 4300 by omega)
      rw [show (⟨(dg z.natAbs).toArray⟩ : Str).cps.toList = dg z.natAbs from rfl, dg_back] at this
      rw [this]
      congr 1
      omega
  show (match PySem.intText? ⟨(inT z).toArray⟩ with | some n => if (⟨(inT z).toArray⟩ : Str).length ≤ 640 then some (D.int n) else none | none => none) = _
  rw [e]
  dsimp only
  exact if_pos (show (inT z).length ≤ 640 by omega)
theorem stri_ok {z : Int} (h : z.natAbs < 10 ^ 9) : gStrI [.int z] = some (sD (inT z)) := by
  unfold gStrI
  dsimp only
  rw [if_pos, str_int]
  exact Nat.lt_of_le_of_lt (Nat.log2_le_self _) (by omega) |> fun (h : z.natAbs.log2 < 10 ^ 9) => by
    by_cases h0 : z.natAbs = 0
    · rw [h0]; decide
    · exact Nat.lt_of_lt_of_le ((Nat.log2_lt h0).mpr (Nat.lt_trans (by assumption) (by decide : 10 ^ 9 < 2 ^ 30))) (by decide)
end K85
namespace K85
open PySem PySem.Spec PyProof.Rows L2 DL DL.Q
structure Wq where
  a : Int
  b : Int
  c : Int
abbrev wq (q : Wq) : D := .ol [.int q.a, .int q.b, .int q.c]
structure WqOk (q : Wq) (k : Nat) : Prop where
  a0 : 0 ≤ q.a
  b0 : 0 ≤ q.b
  b1 : q.b ≤ 10 ^ 31
  c0 : 0 ≤ q.c
  c1 : q.c ≤ k
theorem WqOk.mono {q : Wq} {k l : Nat} (h : WqOk q k) (hl : k ≤ l) : WqOk q l := ⟨h.a0, h.b0, h.b1, h.c0, by have := h.c1; omega⟩
theorem WqOk.sh (q : Wq) : (wq q).sh = false := rfl
theorem p18 : ((Builtin.Int.intBits 10 : Nat) : Int) * 18 ≤ 134217728 := by decide
theorem p24 : ((Builtin.Int.intBits 10 : Nat) : Int) * 24 ≤ 134217728 := by decide
theorem p25 : ((Builtin.Int.intBits 10 : Nat) : Int) * 25 ≤ 134217728 := by decide
theorem dip_ok {q : Wq} {k : Nat} {l : Int} (h : WqOk q k) (hl : 1 ≤ l) (hk : k ≤ 1000000) :
    ∃ (q' : Wq) (r : Nat), m__law_dip [wq q, .int l] = some (.ok (.int r) [wq q', .int l]) ∧ (r : Int) < l ∧ WqOk q' (k + 1) := by
  obtain ⟨a, b, c⟩ := q
  have ha := h.a0
  have hb0 := h.b0
  have hb1 := h.b1
  have hc0 := h.c0
  have hc1 := h.c1
  dsimp only at ha hb0 hb1 hc0 hc1
  have hl0 : l ≠ 0 := by omega
  have fr : ∀ z : Int, 0 ≤ z.fmod l ∧ z.fmod l < l := fun z => fmod_nn (by omega)
  by_cases h0 : 0 < a
  · have f := fr a
    have hd := fdiv_nn (a := a) (b := l) ha (by omega)
    refine ⟨⟨a.fdiv l, b, c⟩, (a.fmod l).toNat, ?_, by omega, ⟨hd.1, hb0, hb1, hc0, by show c ≤ _; omega⟩⟩
    rw [show (((a.fmod l).toNat : Nat) : Int) = a.fmod l by omega]
    simp (config := {decide := true, implicitDefEqProofs := false, maxSteps := 1000000}) [r_fn, parOk, frzAt, outsD, List.range_succ, DL.gTup, DL.gLst, gGcd, gNeg, gDiv, gMod, gPow, DL.gSub, gAbs, gInt, gEq, gNe, gRng1, kwR, gmInsert, gmExtend, gmAppend, gmSet, ixR, DL.isNon, ixN, atI, lstD, seqD, gIsN, gNotN, m__law_dip, f__law_dip, h0, hl0]
  · have b1 : lg 1000003 + lg (c + 1) < 100000000 := by
      have := lg_le (i := 1000003) (k := 40) (by decide)
      have := lg_le (i := c + 1) (k := 40) (by omega)
      omega
    have q1 : 0 ≤ 1000003 * (c + 1) ∧ 1000003 * (c + 1) ≤ 1000003 * 1000001 := ⟨by omega, by omega⟩
    have b2 : ((Builtin.Int.intBits (b + 1000003 * (c + 1)) : Nat) : Int) * 3 ≤ 134217728 := by
      have := ibits_le (z := b + 1000003 * (c + 1)) (k := 200) (by omega)
      omega
    have f1 := fmod_nn (a := (b + 1000003 * (c + 1)) ^ 3) (b := 10000000000000000000000013) (by decide)
    generalize hs : ((b + 1000003 * (c + 1)) ^ 3).fmod 10000000000000000000000013 = s at f1
    have b3 : lg 77347 + lg (c + 1) < 100000000 := by
      have := lg_le (i := 77347) (k := 40) (by decide)
      have := lg_le (i := c + 1) (k := 40) (by omega)
      omega
    have b4 : ((Builtin.Int.intBits (s + 77347 * (c + 1)) : Nat) : Int) * 2 ≤ 134217728 := by
      have := ibits_le (z := s + 77347 * (c + 1)) (k := 200) (by omega)
      omega
    have f := fr ((((s + 77347 * (c + 1)) ^ 2).fmod 1000000000000000000000007).fdiv 4096)
    generalize ht : ((s + 77347 * (c + 1)) ^ 2).fmod 1000000000000000000000007 = t at f
    refine ⟨⟨a, b, c + 1⟩, ((t.fdiv 4096).fmod l).toNat, ?_, by omega, ⟨ha, hb0, hb1, by show 0 ≤ c + 1; omega, by show c + 1 ≤ ((k + 1 : Nat) : Int); omega⟩⟩
    rw [show ((((t.fdiv 4096).fmod l).toNat : Nat) : Int) = (t.fdiv 4096).fmod l by omega]
    simp (config := {decide := true, implicitDefEqProofs := false, maxSteps := 1000000}) [r_fn, parOk, frzAt, outsD, List.range_succ, DL.gTup, DL.gLst, gGcd, gNeg, gDiv, gMod, gPow, DL.gSub, gAbs, gInt, gEq, gNe, gRng1, kwR, gmInsert, gmExtend, gmAppend, gmSet, ixR, DL.isNon, ixN, atI, lstD, seqD, gIsN, gNotN, m__law_dip, f__law_dip, h0, hl0, b1, b2, b3, b4, p25, p24, hs, ht]
theorem int_atL {xs : List Int} {i : Int} (h0 : 0 ≤ i) (h1 : i < xs.length) : atI (xs.map D.int) i = some (.int (xs.getD i.toNat 0)) := by
  have hi : i.toNat < xs.length := by omega
  unfold atI ixN
  have h' : i < (xs.map D.int).length := by rw [List.length_map]; omega
  rw [if_pos h0, if_pos h']
  show (xs.map D.int)[i.toNat]? = _
  rw [List.getElem?_map, List.getElem?_eq_getElem hi, List.getD_eq_getElem?_getD, List.getElem?_eq_getElem hi]
  rfl
theorem lg_bits (z : Int) : lg z ≤ Builtin.Int.intBits z := by
  unfold lg Builtin.Int.intBits
  split
  · rename_i h
    have : z = 0 := by simpa using h
    subst this
    decide
  · omega
theorem well_ok {ns : List Int} {t : Nat} (hl : ns.length ≤ 63) (ht : t ≤ 100) (hb : ∀ z ∈ ns, Builtin.Int.intBits z ≤ 1048576) :
    ∃ q : Wq, m__law_well [.frl (ns.map .int), .int t] = some (.ok (wq q) [.frl (ns.map .int), .int t]) ∧ WqOk q 0 := by
  have key : ∃ z : Int, Builtin.Int.intBits z ≤ 1048576 ∧ ((t < ns.length ∧ atI (ns.map D.int) (t : Int) = some (.int z)) ∨ (¬ t < ns.length ∧ z = (t : Int) * 7919 + (ns.length : Int) * 104729)) := by
    by_cases h : t < ns.length
    · have e := int_atL (xs := ns) (i := (t : Int)) (by omega) (by omega)
      rw [Int.toNat_natCast] at e
      refine ⟨_, ?_, .inl ⟨h, e⟩⟩
      rw [List.getD_eq_getElem?_getD, List.getElem?_eq_getElem h]
      exact hb _ (List.getElem_mem h)
    · refine ⟨_, ?_, .inr ⟨h, rfl⟩⟩
      have := ibits_le (z := (t : Int) * 7919 + (ns.length : Int) * 104729) (k := 40) (by omega)
      omega
  obtain ⟨z, hz, hc⟩ := key
  have f := fmod_nn (a := z * 48611 + (t : Int) * 6700417 + 31337) (b := 1000000000000000000000007) (by decide)
  generalize hm : (z * 48611 + (t : Int) * 6700417 + 31337).fmod 1000000000000000000000007 = m at f
  have b1 : lg z + lg 48611 < 100000000 := by
    have h1 := lg_bits z
    have := lg_le (i := 48611) (k := 40) (by decide)
    omega
  have b2 : lg (t : Int) + lg 6700417 < 100000000 := by
    have := lg_le (i := (t : Int)) (k := 40) (by omega)
    have := lg_le (i := 6700417) (k := 40) (by decide)
    omega
  have ln : (ns.map D.int).length = ns.length := List.length_map ..
  have ab := abs_nat z
  refine ⟨⟨if (z.natAbs : Int) - 1000000000000000000 > 0 then (z.natAbs : Int) - 1000000000000000000 else 0, m, 0⟩, ?_, ⟨by dsimp only; split <;> omega, f.1, by show m ≤ _; omega, Int.le_refl 0, Int.le_refl 0⟩⟩
  rcases hc with ⟨h, e⟩ | ⟨h, ez⟩
  · have h' : (t : Int) < (ns.length : Int) := by omega
    generalize ns.map D.int = N at *
    generalize ns.length = n at *
    simp (config := {decide := true, implicitDefEqProofs := false, maxSteps := 1000000}) [r_fn, parOk, frzAt, outsD, List.range_succ, DL.gTup, DL.gLst, gGcd, gNeg, gDiv, gMod, gPow, DL.gSub, gAbs, gInt, gEq, gNe, gRng1, kwR, gmInsert, gmExtend, gmAppend, gmSet, ixR, DL.isNon, ixN, lstD, seqD, gIsN, gNotN, m__law_well, f__law_well, ln, h, h', e, ab, b1, b2, hm, p18, p24]
  · have h' : ¬ (t : Int) < (ns.length : Int) := by omega
    have b3 : lg (t : Int) + lg 7919 < 100000000 := by
      have := lg_le (i := (t : Int)) (k := 40) (by omega)
      have := lg_le (i := 7919) (k := 40) (by decide)
      omega
    have b4 : lg (ns.length : Int) + lg 104729 < 100000000 := by
      have := lg_le (i := (ns.length : Int)) (k := 40) (by omega)
      have := lg_le (i := 104729) (k := 40) (by decide)
      omega
    rw [ez] at hm ab b1 ⊢
    generalize ns.map D.int = N at *
    generalize ns.length = n at *
    simp (config := {decide := true, implicitDefEqProofs := false, maxSteps := 1000000}) [r_fn, parOk, frzAt, outsD, List.range_succ, DL.gTup, DL.gLst, gGcd, gNeg, gDiv, gMod, gPow, DL.gSub, gAbs, gInt, gEq, gNe, gRng1, kwR, gmInsert, gmExtend, gmAppend, gmSet, ixR, DL.isNon, ixN, lstD, seqD, gIsN, gNotN, m__law_well, f__law_well, ln, h, h', b1, b2, b3, b4, ab, hm, p18, p24]
theorem com_loop : ∀ (x y : Nat), ∃ n, whF (evT (ev2 gGt (evV 0) (evC (.int 0)))) L__law_common_0 n [some (.int (x : Int)), some (.int (y : Int))] = some (.nx [some (.int 0), some (.int ((Nat.gcd x y : Nat) : Int))]) := by
  intro x
  induction x using Nat.strongRecOn with
  | ind x ih =>
    intro y
    by_cases hx : x = 0
    · subst hx
      exact ⟨1, by simp (config := {decide := true, implicitDefEqProofs := false, maxSteps := 1000000}) [r_fn, parOk, frzAt, outsD, List.range_succ, DL.gTup, DL.gLst, gGcd, gNeg, gDiv, gMod, gPow, DL.gSub, gAbs, gInt, gEq, gNe, gRng1, kwR, gmInsert, gmExtend, gmAppend, gmSet, ixR, DL.isNon, ixN, atI, lstD, seqD, gIsN, gNotN, whF_1]⟩
    · obtain ⟨n, e⟩ := ih (y % x) (Nat.mod_lt _ (by omega)) x
      refine ⟨n + 1, ?_⟩
      have hx' : ¬ ((x : Int) = 0) := by omega
      have hx2 : (0 : Int) < (x : Int) := by omega
      have hx3 : 0 < x := by omega
      have eg : Nat.gcd (y % x) x = Nat.gcd x y := (Nat.gcd_rec x y).symm
      rw [show (((y % x : Nat)) : Int) = (y : Int) % (x : Int) from by simp, eg] at e
      simp (config := {decide := true, implicitDefEqProofs := false, maxSteps := 1000000}) [r_fn, parOk, frzAt, outsD, List.range_succ, DL.gTup, DL.gLst, gGcd, gNeg, gDiv, gMod, gPow, DL.gSub, gAbs, gInt, gEq, gNe, gRng1, kwR, gmInsert, gmExtend, gmAppend, gmSet, ixR, DL.isNon, ixN, atI, lstD, seqD, gIsN, gNotN, whF_1, a_L__law_common_0, hx, hx', hx2, hx3, fmod_nat2, e]
theorem com_ok {a : Int} {b : Nat} : m__law_common [.int a, .int (b : Int)] = some (.ok (.int ((Nat.gcd a.natAbs b : Nat) : Int)) [.int a, .int (b : Int)]) := by
  obtain ⟨n, e⟩ := com_loop a.natAbs b
  have e2 := whE_of e
  have ab := abs_nat a
  simp (config := {decide := true, implicitDefEqProofs := false, maxSteps := 1000000}) [r_fn, parOk, frzAt, outsD, List.range_succ, DL.gTup, DL.gLst, gGcd, gNeg, gDiv, gMod, gPow, DL.gSub, gAbs, gInt, gEq, gNe, gRng1, kwR, gmInsert, gmExtend, gmAppend, gmSet, ixR, DL.isNon, ixN, atI, lstD, seqD, gIsN, gNotN, m__law_common, f__law_common, ab, e2]
end K85
namespace K85
open PySem PySem.Spec PyProof.Rows L2 DL DL.Q
@[simp] theorem t_sign : D.str ("sign" : Str) = sD [115, 105, 103, 110] := by unfold sD; refine congrArg D.str ?_; with_unfolding_all rfl
@[simp] theorem t_any : D.str ("any" : Str) = sD [97, 110, 121] := by unfold sD; refine congrArg D.str ?_; with_unfolding_all rfl
@[simp] theorem t_empty : D.str ("empty" : Str) = sD [101, 109, 112, 116, 121] := by unfold sD; refine congrArg D.str ?_; with_unfolding_all rfl
@[simp] theorem t_none : D.str ("none" : Str) = sD [110, 111, 110, 101] := by unfold sD; refine congrArg D.str ?_; with_unfolding_all rfl
@[simp] theorem t_many : D.str ("many" : Str) = sD [109, 97, 110, 121] := by unfold sD; refine congrArg D.str ?_; with_unfolding_all rfl
@[simp] theorem t_weigh : D.str ("weigh" : Str) = sD [119, 101, 105, 103, 104] := by unfold sD; refine congrArg D.str ?_; with_unfolding_all rfl
@[simp] theorem t_then : D.str ("then" : Str) = sD [116, 104, 101, 110] := by unfold sD; refine congrArg D.str ?_; with_unfolding_all rfl
@[simp] theorem t_or : D.str ("or" : Str) = sD [111, 114] := by unfold sD; refine congrArg D.str ?_; with_unfolding_all rfl
@[simp] theorem t_dot : D.str ("." : Str) = sD [46] := by unfold sD; refine congrArg D.str ?_; with_unfolding_all rfl
@[simp] theorem t_0 : D.str ("0" : Str) = sD [48] := by unfold sD; refine congrArg D.str ?_; with_unfolding_all rfl
@[simp] theorem t_1 : D.str ("1" : Str) = sD [49] := by unfold sD; refine congrArg D.str ?_; with_unfolding_all rfl
@[simp] theorem t_star : D.str ("*" : Str) = sD [42] := by unfold sD; refine congrArg D.str ?_; with_unfolding_all rfl
@[simp] theorem t_lb : D.str ("[" : Str) = sD [91] := by unfold sD; refine congrArg D.str ?_; with_unfolding_all rfl
@[simp] theorem t_rb : D.str ("]" : Str) = sD [93] := by unfold sD; refine congrArg D.str ?_; with_unfolding_all rfl
@[simp] theorem t_lp : D.str ("(" : Str) = sD [40] := by unfold sD; refine congrArg D.str ?_; with_unfolding_all rfl
@[simp] theorem t_rp : D.str (")" : Str) = sD [41] := by unfold sD; refine congrArg D.str ?_; with_unfolding_all rfl
@[simp] theorem t_sp : D.str (" " : Str) = sD [32] := by unfold sD; refine congrArg D.str ?_; with_unfolding_all rfl
@[simp] theorem t_plus : D.str (" + " : Str) = sD [32, 43, 32] := by unfold sD; refine congrArg D.str ?_; with_unfolding_all rfl
@[simp] theorem t_slash : D.str ("/" : Str) = sD [47] := by unfold sD; refine congrArg D.str ?_; with_unfolding_all rfl
@[simp] theorem t_minus : D.str ("-" : Str) = sD [45] := by unfold sD; refine congrArg D.str ?_; with_unfolding_all rfl
def dgs : List Nat := [48, 49, 50, 51, 52, 53, 54, 55, 56, 57]
def ndg : List Nat := [45, 47, 48, 49, 50, 51, 52, 53, 54, 55, 56, 57]
@[simp] theorem t_dgs : D.str ("0123456789" : Str) = sD dgs := by unfold sD dgs; refine congrArg D.str ?_; with_unfolding_all rfl
@[simp] theorem t_ndg : D.str ("-/0123456789" : Str) = sD ndg := by unfold sD ndg; refine congrArg D.str ?_; with_unfolding_all rfl
theorem tab_any : valD (tblD [(("any" : Str), ("." : Str)), (("empty" : Str), ("1" : Str)), (("none" : Str), ("0" : Str))]) (.inr ⟨([97, 110, 121] : List Nat).toArray⟩) = some (sD [46]) := by
  refine Eq.trans (b := some (D.str ("." : Str))) ?_ (congrArg some t_dot)
  with_unfolding_all rfl
theorem tab_empty : valD (tblD [(("any" : Str), ("." : Str)), (("empty" : Str), ("1" : Str)), (("none" : Str), ("0" : Str))]) (.inr ⟨([101, 109, 112, 116, 121] : List Nat).toArray⟩) = some (sD [49]) := by
  refine Eq.trans (b := some (D.str ("1" : Str))) ?_ (congrArg some t_1)
  with_unfolding_all rfl
theorem tab_none : valD (tblD [(("any" : Str), ("." : Str)), (("empty" : Str), ("1" : Str)), (("none" : Str), ("0" : Str))]) (.inr ⟨([110, 111, 110, 101] : List Nat).toArray⟩) = some (sD [48]) := by
  refine Eq.trans (b := some (D.str ("0" : Str))) ?_ (congrArg some t_0)
  with_unfolding_all rfl
theorem tab_then : valD (tblD [(("then" : Str), (" " : Str)), (("or" : Str), (" + " : Str))]) (.inr ⟨([116, 104, 101, 110] : List Nat).toArray⟩) = some (sD [32]) := by
  refine Eq.trans (b := some (D.str (" " : Str))) ?_ (congrArg some t_sp)
  with_unfolding_all rfl
theorem tab_or : valD (tblD [(("then" : Str), (" " : Str)), (("or" : Str), (" + " : Str))]) (.inr ⟨([111, 114] : List Nat).toArray⟩) = some (sD [32, 43, 32]) := by
  refine Eq.trans (b := some (D.str (" + " : Str))) ?_ (congrArg some t_plus)
  with_unfolding_all rfl
structure NuOk (a b : Int) : Prop where
  an : a.natAbs < 10 ^ 9
  b0 : 1 ≤ b
  b1 : b < 10 ^ 9
  g : Nat.gcd a.natAbs b.natAbs = 1
def nT (a b : Int) : List Nat := if b = 1 then inT a else inT a ++ 47 :: inT b
def pD (a b : Int) : D := .tup [.int a, .int b]
@[simp] theorem pD_sh (a b : Int) : (pD a b).sh = true := rfl
@[simp] theorem pD_fz (a b : Int) : frz (pD a b) = pD a b := rfl
theorem NuOk.bn {a b : Int} (h : NuOk a b) : b.natAbs < 10 ^ 9 := by have := h.b0; have := h.b1; omega
theorem nT_len {a b : Int} (h : NuOk a b) : (nT a b).length ≤ 21 := by
  have h1 := inT_len (z := a) (k := 9) (by omega) h.an
  have h2 := inT_len (z := b) (k := 9) (by omega) h.bn
  unfold nT
  split
  · omega
  · simp only [List.length_append, List.length_cons]; omega
theorem said_ok {a b : Int} (h : NuOk a b) : m__law_said [pD a b] = some (.ok (sD (nT a b)) [pD a b]) := by
  have s1 := stri_ok h.an
  have s2 := stri_ok h.bn
  have h1 := inT_len (z := a) (k := 9) (by omega) h.an
  have h2 := inT_len (z := b) (k := 9) (by omega) h.bn
  have z1 : (inT a).length + 1 ≤ 16777216 := by omega
  have z2 : (inT a).length + 1 + (inT b).length ≤ 16777216 := by omega
  unfold nT pD
  by_cases e : b = 1
  · subst e
    simp (config := {decide := true, implicitDefEqProofs := false, maxSteps := 1000000}) [r_fn, parOk, frzAt, outsD, List.range_succ, DL.gTup, DL.gLst, gGcd, gNeg, gDiv, gMod, gPow, DL.gSub, gAbs, gInt, gEq, gNe, gRng1, kwR, gmInsert, gmExtend, gmAppend, gmSet, ixR, DL.isNon, ixN, atI, lstD, seqD, gIsN, gNotN, m__law_said, f__law_said, s1]
  · simp (config := {decide := true, implicitDefEqProofs := false, maxSteps := 1000000}) [r_fn, parOk, frzAt, outsD, List.range_succ, DL.gTup, DL.gLst, gGcd, gNeg, gDiv, gMod, gPow, DL.gSub, gAbs, gInt, gEq, gNe, gRng1, kwR, gmInsert, gmExtend, gmAppend, gmSet, ixR, DL.isNon, ixN, atI, lstD, seqD, gIsN, gNotN, m__law_said, f__law_said, s1, s2, e, z1, z2]
theorem fs1_ok {a : Int} {x0 x2 : Option D} (h : a.natAbs < 10 ^ 9) : evFs1 1 [x0, some (.int a), x2] = some (.ok (.val (sD (inT a))) [x0, some (.int a), x2]) := by
  have l : a.natAbs.log2 < 1920 := by
    by_cases h0 : a.natAbs = 0
    · rw [h0]; decide
    · exact Nat.lt_of_lt_of_le ((Nat.log2_lt h0).mpr (Nat.lt_trans h (by decide : 10 ^ 9 < 2 ^ 30))) (by decide)
  show (if a.natAbs.log2 < 1920 then some (Out.ok (AV.val (.str (toString a))) [x0, some (.int a), x2]) else none) = _
  rw [if_pos l]
  exact congrArg (fun d => some (Out.ok (AV.val d) [x0, some (.int a), x2])) (str_int a)
theorem S_int (a : Int) : (Str.ofString (toString a)) = ⟨(inT a).toArray⟩ := by
  have := str_int a
  unfold sD at this
  injection this
theorem fs3_ok {a b : Int} {x0 : Option D} (h : a.natAbs < 10 ^ 9) (h2 : b.natAbs < 10 ^ 9) : evFs3 1 ("/" : Str) 2 [x0, some (.int a), some (.int b)] = some (.ok (.val (sD (inT a ++ 47 :: inT b))) [x0, some (.int a), some (.int b)]) := by
  have l : ∀ {a : Int}, a.natAbs < 10 ^ 9 → a.natAbs.log2 < 1920 := fun {a} h => by
    by_cases h0 : a.natAbs = 0
    · rw [h0]; decide
    · exact Nat.lt_of_lt_of_le ((Nat.log2_lt h0).mpr (Nat.lt_trans h (by decide : 10 ^ 9 < 2 ^ 30))) (by decide)
  have z1 := inT_len (z := a) (k := 9) (by omega) h
  have z2 := inT_len (z := b) (k := 9) (by omega) h2
  have et : ((Str.ofString (toString a)) ++ ("/" : Str) ++ (Str.ofString (toString b)) : Str) = ⟨(inT a ++ 47 :: inT b).toArray⟩ := by
    rw [S_int, S_int]
    have e : ("/" : Str) = ⟨([47] : List Nat).toArray⟩ := by with_unfolding_all rfl
    rw [e]
    show SX.S _ ++ SX.S _ ++ SX.S _ = SX.S _
    rw [SX.S_cat, SX.S_cat, List.append_assoc]
    rfl
  have e2 : ((Str.ofString (toString a)) ++ ("/" : Str) : Str).length = (inT a).length + 1 := by
    rw [S_int]
    have e : ("/" : Str) = ⟨([47] : List Nat).toArray⟩ := by with_unfolding_all rfl
    rw [e]
    show (SX.S _ ++ SX.S _).length = _
    rw [SX.S_cat, SX.S_len]
    simp
  have e3 : (Str.ofString (toString a)).length = (inT a).length := by rw [S_int]; exact SX.S_len _
  show (if a.natAbs.log2 < 1920 ∧ b.natAbs.log2 < 1920 ∧ ((Str.ofString (toString a)) ++ ("/" : Str) ++ (Str.ofString (toString b)) : Str).length ≤ sizeLine ∧ ((Str.ofString (toString a)) ++ ("/" : Str) : Str).length ≤ sizeLine ∧ (Str.ofString (toString a)).length ≤ sizeLine then some (Out.ok (AV.val (.str ((Str.ofString (toString a)) ++ ("/" : Str) ++ (Str.ofString (toString b)) : Str))) [x0, some (.int a), some (.int b)]) else none) = _
  rw [et, e2, e3]
  have e4 : (⟨(inT a ++ 47 :: inT b).toArray⟩ : Str).length = (inT a).length + ((inT b).length + 1) := by
    show (inT a ++ 47 :: inT b).length = _
    simp
  rw [e4, if_pos]
  · rfl
  · have : sizeLine = 16777216 := rfl
    refine ⟨l h, l h2, ?_, ?_, ?_⟩ <;> omega
theorem show_ok {a b : Int} (h : NuOk a b) : m_show_number [pD a b] = some (.ok (sD (nT a b)) [pD a b]) := by
  have s1 := fun x0 x2 => fs1_ok (x0 := x0) (x2 := x2) h.an
  have s2 := fun x0 => fs3_ok (x0 := x0) h.an h.bn
  unfold nT pD
  by_cases e : b = 1
  · subst e
    simp (config := {decide := true, implicitDefEqProofs := false, maxSteps := 1000000}) [r_fn, parOk, frzAt, outsD, List.range_succ, DL.gTup, DL.gLst, gGcd, gNeg, gDiv, gMod, gPow, DL.gSub, gAbs, gInt, gEq, gNe, gRng1, kwR, gmInsert, gmExtend, gmAppend, gmSet, ixR, DL.isNon, ixN, atI, lstD, seqD, gIsN, gNotN, m_show_number, f_show_number, s1]
  · simp (config := {decide := true, implicitDefEqProofs := false, maxSteps := 1000000}) [r_fn, parOk, frzAt, outsD, List.range_succ, DL.gTup, DL.gLst, gGcd, gNeg, gDiv, gMod, gPow, DL.gSub, gAbs, gInt, gEq, gNe, gRng1, kwR, gmInsert, gmExtend, gmAppend, gmSet, ixR, DL.isNon, ixN, atI, lstD, seqD, gIsN, gNotN, m_show_number, f_show_number, s1, s2, e]
end K85
namespace K85
open PySem PySem.Spec PyProof.Rows L2 DL DL.Q
theorem nu_low {a : Int} {b : Nat} (ha : a.natAbs < 10 ^ 9) (hb : 1 ≤ b) (hb2 : b < 10 ^ 9) : NuOk (a.fdiv ((Nat.gcd a.natAbs b : Nat) : Int)) ((b : Int).fdiv ((Nat.gcd a.natAbs b : Nat) : Int)) := by
  have gp : 0 < Nat.gcd a.natAbs b := Nat.gcd_pos_of_pos_right _ (by omega)
  obtain ⟨x, hx⟩ := Nat.gcd_dvd_left a.natAbs b
  obtain ⟨y, hy⟩ := Nat.gcd_dvd_right a.natAbs b
  have co : Nat.gcd a.natAbs b * Nat.gcd x y = Nat.gcd a.natAbs b := by rw [← Nat.gcd_mul_left, ← hx, ← hy]
  generalize Nat.gcd a.natAbs b = g at *
  replace co : Nat.gcd x y = 1 := Nat.eq_of_mul_eq_mul_left gp (by rw [co, Nat.mul_one])
  have e1 : ((b : Int)).fdiv (g : Int) = (y : Int) := by
    rw [hy]
    push_cast
    exact Int.mul_fdiv_cancel_left _ (by omega)
  have e2 : a.fdiv (g : Int) = if a < 0 then -(x : Int) else (x : Int) := by
    have : a = (g : Int) * (if a < 0 then -(x : Int) else (x : Int)) := by
      split
      · rw [Int.mul_neg]
        have : (a.natAbs : Int) = (g : Int) * (x : Int) := by rw [hx]; push_cast; rfl
        omega
      · have : (a.natAbs : Int) = (g : Int) * (x : Int) := by rw [hx]; push_cast; rfl
        omega
    conv => lhs; rw [this]
    exact Int.mul_fdiv_cancel_left _ (by omega)
  have xl : x ≤ a.natAbs := by rw [hx]; exact Nat.le_mul_of_pos_left _ gp
  have yl : y ≤ b := by rw [hy]; exact Nat.le_mul_of_pos_left _ gp
  have y0 : 1 ≤ y := by
    rcases Nat.eq_zero_or_pos y with h | h
    · rw [h, Nat.mul_zero] at hy; omega
    · exact h
  have na : (a.fdiv (g : Int)).natAbs = x := by rw [e2]; split <;> omega
  rw [e1]
  exact ⟨by omega, by omega, by omega, by rw [na]; exact co⟩
theorem com_ok2 {a b : Int} (hb : 0 ≤ b) : m__law_common [.int a, .int b] = some (.ok (.int ((Nat.gcd a.natAbs b.natAbs : Nat) : Int)) [.int a, .int b]) := by
  have := com_ok (a := a) (b := b.natAbs)
  rw [show ((b.natAbs : Nat) : Int) = b by omega] at this
  exact this
theorem nu_low2 {a b : Int} (ha : a.natAbs < 10 ^ 9) (hb : 1 ≤ b) (hb2 : b < 10 ^ 9) : NuOk (a.fdiv ((Nat.gcd a.natAbs b.natAbs : Nat) : Int)) (b.fdiv ((Nat.gcd a.natAbs b.natAbs : Nat) : Int)) := by
  have := nu_low (a := a) (b := b.natAbs) ha (by omega) (by omega)
  rw [show ((b.natAbs : Nat) : Int) = b by omega] at this
  exact this
theorem pair_ok {q : Wq} {k : Nat} (h : WqOk q k) (hk : k + 6 ≤ 1000000) : ∃ (q' : Wq) (a b : Int), m__law_pair [wq q] = some (.ok (pD a b) [wq q']) ∧ NuOk a b ∧ WqOk q' (k + 6) := by
  obtain ⟨q1, m, e1, hm, w1⟩ := dip_ok h (l := 6) (by omega) (by omega)
  have A : ∃ (q2 : Wq) (A : Int), 0 ≤ A ∧ A < 10 ^ 9 ∧ WqOk q2 (k + 2) ∧ ((((m : Int) < 2) = True ∧ (m < 2) = True ∧ q2 = q1 ∧ A = (m : Int)) ∨ (((m : Int) < 2) = False ∧ (m < 2) = False ∧ ((m : Int).fdiv 2 = 1 ∧ ∃ r : Nat, m__law_dip [wq q1, .int 99] = some (.ok (.int r) [wq q2, .int 99]) ∧ 1 + (r : Int) = A)) ∨
      (((m : Int) < 2) = False ∧ (m < 2) = False ∧ ((m : Int).fdiv 2 = 2 ∧ ∃ r : Nat, m__law_dip [wq q1, .int 999999999] = some (.ok (.int r) [wq q2, .int 999999999]) ∧ 1 + (r : Int) = A))) := by
    by_cases h2 : m < 2
    · exact ⟨q1, m, by omega, by omega, w1.mono (by omega), .inl ⟨eq_true (by omega), eq_true (by omega), rfl, rfl⟩⟩
    · by_cases h4 : m < 4
      · obtain ⟨q2, r, e2, hr, w2⟩ := dip_ok w1 (l := 99) (by omega) (by omega)
        exact ⟨q2, 1 + r, by omega, by omega, w2.mono (by omega), .inr (.inl ⟨eq_false (by omega), eq_false (by omega), by rw [Int.fdiv_eq_ediv_of_nonneg _ (by omega)]; omega, r, e2, rfl⟩)⟩
      · obtain ⟨q2, r, e2, hr, w2⟩ := dip_ok w1 (l := 999999999) (by omega) (by omega)
        exact ⟨q2, 1 + r, by omega, by omega, w2.mono (by omega), .inr (.inr ⟨eq_false (by omega), eq_false (by omega), by rw [Int.fdiv_eq_ediv_of_nonneg _ (by omega)]; omega, r, e2, rfl⟩)⟩
  obtain ⟨q2, A, hA0, hA, w2, cA⟩ := A
  have B : ∃ (q4 : Wq) (B : Int), 1 ≤ B ∧ B < 10 ^ 9 ∧ WqOk q4 (k + 5) ∧ ((((m : Int) = 0) = True ∧ (m = 0) = True ∧ q4 = q2 ∧ B = 1) ∨ (((m : Int) = 0) = False ∧ (m = 0) = False ∧ m__law_dip [wq q2, .int 3] = some (.ok (.int 0) [wq q4, .int 3]) ∧ B = 1) ∨
      (((m : Int) = 0) = False ∧ (m = 0) = False ∧ ∃ (q3 q5 : Wq) (r3 r : Nat), ((r3 : Int) = 0) = False ∧ (r3 = 0) = False ∧ m__law_dip [wq q2, .int 3] = some (.ok (.int r3) [wq q3, .int 3]) ∧ m__law_dip [wq q3, .int 2] = some (.ok (.int 0) [wq q5, .int 2]) ∧ m__law_dip [wq q5, .int 9] = some (.ok (.int r) [wq q4, .int 9]) ∧ 1 + (r : Int) = B) ∨
      (((m : Int) = 0) = False ∧ (m = 0) = False ∧ ∃ (q3 q5 : Wq) (r3 r : Nat), ((r3 : Int) = 0) = False ∧ (r3 = 0) = False ∧ m__law_dip [wq q2, .int 3] = some (.ok (.int r3) [wq q3, .int 3]) ∧ m__law_dip [wq q3, .int 2] = some (.ok (.int 1) [wq q5, .int 2]) ∧ m__law_dip [wq q5, .int 999999999] = some (.ok (.int r) [wq q4, .int 999999999]) ∧ 1 + (r : Int) = B)) := by
    by_cases h0 : m = 0
    · exact ⟨q2, 1, by omega, by omega, w2.mono (by omega), .inl ⟨eq_true (by omega), eq_true h0, rfl, rfl⟩⟩
    · obtain ⟨q3, r3, e3, hr3, w3⟩ := dip_ok w2 (l := 3) (by omega) (by omega)
      by_cases h3 : r3 = 0
      · subst h3
        exact ⟨q3, 1, by omega, by omega, w3.mono (by omega), .inr (.inl ⟨eq_false (by omega), eq_false h0, e3, rfl⟩)⟩
      · obtain ⟨q5, r5, e5, hr5, w5⟩ := dip_ok w3 (l := 2) (by omega) (by omega)
        by_cases h5 : r5 = 0
        · subst h5
          obtain ⟨q4, r, e4, hr, w4⟩ := dip_ok w5 (l := 9) (by omega) (by omega)
          exact ⟨q4, 1 + r, by omega, by omega, w4.mono (by omega), .inr (.inr (.inl ⟨eq_false (by omega), eq_false h0, q3, q5, r3, r, eq_false (by omega), eq_false h3, e3, e5, e4, rfl⟩))⟩
        · obtain rfl : r5 = 1 := by omega
          obtain ⟨q4, r, e4, hr, w4⟩ := dip_ok w5 (l := 999999999) (by omega) (by omega)
          exact ⟨q4, 1 + r, by omega, by omega, w4.mono (by omega), .inr (.inr (.inr ⟨eq_false (by omega), eq_false h0, q3, q5, r3, r, eq_false (by omega), eq_false h3, e3, e5, e4, rfl⟩))⟩
  obtain ⟨q4, B, hB1, hB2, w4, cB⟩ := B
  obtain ⟨q6, s, e6, hs, w6⟩ := dip_ok w4 (l := 3) (by omega) (by omega)
  have pw : ((Builtin.Int.intBits 10 : Nat) : Int) * 9 ≤ 134217728 := by decide
  by_cases s0 : s = 0
  · have cm := com_ok2 (a := -A) (b := B) (by omega)
    have nu := nu_low2 (a := -A) (b := B) (by omega) hB1 hB2
    have gp := Nat.gcd_pos_of_pos_right (-A).natAbs (show 0 < B.natAbs by omega)
    refine ⟨q6, _, _, ?_, nu, w6⟩
    unfold pD
    generalize Nat.gcd (-A).natAbs B.natAbs = G at *
    have g0 : ¬ (G : Int) = 0 := by omega
    have g1 : ¬ G = 0 := by omega
    clear nu
    subst s0
    rcases cA with ⟨c, c0, rfl, rfl⟩ | ⟨c, c0, c', r, c2, c3⟩ | ⟨c, c0, c', r, c2, c3⟩ <;> rcases cB with ⟨d, d0, rfl, rfl⟩ | ⟨d, d0, d2, rfl⟩ | ⟨d, d0, q3, q5, r3, r', d1, d9, d2, d3, d4, d5⟩ | ⟨d, d0, q3, q5, r3, r', d1, d9, d2, d3, d4, d5⟩
    · simp (config := {decide := true, implicitDefEqProofs := false, maxSteps := 1000000}) [r_fn, parOk, frzAt, outsD, List.range_succ, DL.gTup, DL.gLst, gGcd, gNeg, gDiv, gMod, gPow, DL.gSub, gAbs, gInt, gEq, gNe, gRng1, kwR, gmInsert, gmExtend, gmAppend, gmSet, ixR, DL.isNon, ixN, atI, lstD, seqD, gIsN, gNotN, m__law_pair, f__law_pair, e1, e6, cm, g0, g1, c, c0, d, d0]
    · simp (config := {decide := true, implicitDefEqProofs := false, maxSteps := 1000000}) [r_fn, parOk, frzAt, outsD, List.range_succ, DL.gTup, DL.gLst, gGcd, gNeg, gDiv, gMod, gPow, DL.gSub, gAbs, gInt, gEq, gNe, gRng1, kwR, gmInsert, gmExtend, gmAppend, gmSet, ixR, DL.isNon, ixN, atI, lstD, seqD, gIsN, gNotN, m__law_pair, f__law_pair, e1, e6, cm, g0, g1, c, c0, d, d0, d2]
    · simp (config := {decide := true, implicitDefEqProofs := false, maxSteps := 1000000}) [r_fn, parOk, frzAt, outsD, List.range_succ, DL.gTup, DL.gLst, gGcd, gNeg, gDiv, gMod, gPow, DL.gSub, gAbs, gInt, gEq, gNe, gRng1, kwR, gmInsert, gmExtend, gmAppend, gmSet, ixR, DL.isNon, ixN, atI, lstD, seqD, gIsN, gNotN, m__law_pair, f__law_pair, e1, e6, cm, g0, g1, c, c0, d, d0, d1, d9, d2, d3, d4, d5, pw]
    · simp (config := {decide := true, implicitDefEqProofs := false, maxSteps := 1000000}) [r_fn, parOk, frzAt, outsD, List.range_succ, DL.gTup, DL.gLst, gGcd, gNeg, gDiv, gMod, gPow, DL.gSub, gAbs, gInt, gEq, gNe, gRng1, kwR, gmInsert, gmExtend, gmAppend, gmSet, ixR, DL.isNon, ixN, atI, lstD, seqD, gIsN, gNotN, m__law_pair, f__law_pair, e1, e6, cm, g0, g1, c, c0, d, d0, d1, d9, d2, d3, d4, d5, pw]
    · exfalso; have : (m : Int) = 0 := of_eq_true d; rw [this] at c'; exact absurd c' (by decide)
    · simp (config := {decide := true, implicitDefEqProofs := false, maxSteps := 1000000}) [r_fn, parOk, frzAt, outsD, List.range_succ, DL.gTup, DL.gLst, gGcd, gNeg, gDiv, gMod, gPow, DL.gSub, gAbs, gInt, gEq, gNe, gRng1, kwR, gmInsert, gmExtend, gmAppend, gmSet, ixR, DL.isNon, ixN, atI, lstD, seqD, gIsN, gNotN, m__law_pair, f__law_pair, e1, e6, cm, g0, g1, c, c0, c', c2, c3, d, d0, d2, pw]
    · simp (config := {decide := true, implicitDefEqProofs := false, maxSteps := 1000000}) [r_fn, parOk, frzAt, outsD, List.range_succ, DL.gTup, DL.gLst, gGcd, gNeg, gDiv, gMod, gPow, DL.gSub, gAbs, gInt, gEq, gNe, gRng1, kwR, gmInsert, gmExtend, gmAppend, gmSet, ixR, DL.isNon, ixN, atI, lstD, seqD, gIsN, gNotN, m__law_pair, f__law_pair, e1, e6, cm, g0, g1, c, c0, c', c2, c3, d, d0, d1, d9, d2, d3, d4, d5, pw]
    · simp (config := {decide := true, implicitDefEqProofs := false, maxSteps := 1000000}) [r_fn, parOk, frzAt, outsD, List.range_succ, DL.gTup, DL.gLst, gGcd, gNeg, gDiv, gMod, gPow, DL.gSub, gAbs, gInt, gEq, gNe, gRng1, kwR, gmInsert, gmExtend, gmAppend, gmSet, ixR, DL.isNon, ixN, atI, lstD, seqD, gIsN, gNotN, m__law_pair, f__law_pair, e1, e6, cm, g0, g1, c, c0, c', c2, c3, d, d0, d1, d9, d2, d3, d4, d5, pw]
    · exfalso; have : (m : Int) = 0 := of_eq_true d; rw [this] at c'; exact absurd c' (by decide)
    · simp (config := {decide := true, implicitDefEqProofs := false, maxSteps := 1000000}) [r_fn, parOk, frzAt, outsD, List.range_succ, DL.gTup, DL.gLst, gGcd, gNeg, gDiv, gMod, gPow, DL.gSub, gAbs, gInt, gEq, gNe, gRng1, kwR, gmInsert, gmExtend, gmAppend, gmSet, ixR, DL.isNon, ixN, atI, lstD, seqD, gIsN, gNotN, m__law_pair, f__law_pair, e1, e6, cm, g0, g1, c, c0, c', c2, c3, d, d0, d2, pw]
    · simp (config := {decide := true, implicitDefEqProofs := false, maxSteps := 1000000}) [r_fn, parOk, frzAt, outsD, List.range_succ, DL.gTup, DL.gLst, gGcd, gNeg, gDiv, gMod, gPow, DL.gSub, gAbs, gInt, gEq, gNe, gRng1, kwR, gmInsert, gmExtend, gmAppend, gmSet, ixR, DL.isNon, ixN, atI, lstD, seqD, gIsN, gNotN, m__law_pair, f__law_pair, e1, e6, cm, g0, g1, c, c0, c', c2, c3, d, d0, d1, d9, d2, d3, d4, d5, pw]
    · simp (config := {decide := true, implicitDefEqProofs := false, maxSteps := 1000000}) [r_fn, parOk, frzAt, outsD, List.range_succ, DL.gTup, DL.gLst, gGcd, gNeg, gDiv, gMod, gPow, DL.gSub, gAbs, gInt, gEq, gNe, gRng1, kwR, gmInsert, gmExtend, gmAppend, gmSet, ixR, DL.isNon, ixN, atI, lstD, seqD, gIsN, gNotN, m__law_pair, f__law_pair, e1, e6, cm, g0, g1, c, c0, c', c2, c3, d, d0, d1, d9, d2, d3, d4, d5, pw]
  · have cm := com_ok2 (a := A) (b := B) (by omega)
    have nu := nu_low2 (a := A) (b := B) (by omega) hB1 hB2
    have gp := Nat.gcd_pos_of_pos_right A.natAbs (show 0 < B.natAbs by omega)
    refine ⟨q6, _, _, ?_, nu, w6⟩
    unfold pD
    generalize Nat.gcd A.natAbs B.natAbs = G at *
    have g0 : ¬ (G : Int) = 0 := by omega
    have g1 : ¬ G = 0 := by omega
    clear nu
    have s1 : ((s : Int) = 0) = False := eq_false (by omega)
    replace s0 := eq_false s0
    rcases cA with ⟨c, c0, rfl, rfl⟩ | ⟨c, c0, c', r, c2, c3⟩ | ⟨c, c0, c', r, c2, c3⟩ <;> rcases cB with ⟨d, d0, rfl, rfl⟩ | ⟨d, d0, d2, rfl⟩ | ⟨d, d0, q3, q5, r3, r', d1, d9, d2, d3, d4, d5⟩ | ⟨d, d0, q3, q5, r3, r', d1, d9, d2, d3, d4, d5⟩
    · simp (config := {decide := true, implicitDefEqProofs := false, maxSteps := 1000000}) [r_fn, parOk, frzAt, outsD, List.range_succ, DL.gTup, DL.gLst, gGcd, gNeg, gDiv, gMod, gPow, DL.gSub, gAbs, gInt, gEq, gNe, gRng1, kwR, gmInsert, gmExtend, gmAppend, gmSet, ixR, DL.isNon, ixN, atI, lstD, seqD, gIsN, gNotN, m__law_pair, f__law_pair, e1, e6, cm, g0, g1, s0, s1, c, c0, d, d0]
    · simp (config := {decide := true, implicitDefEqProofs := false, maxSteps := 1000000}) [r_fn, parOk, frzAt, outsD, List.range_succ, DL.gTup, DL.gLst, gGcd, gNeg, gDiv, gMod, gPow, DL.gSub, gAbs, gInt, gEq, gNe, gRng1, kwR, gmInsert, gmExtend, gmAppend, gmSet, ixR, DL.isNon, ixN, atI, lstD, seqD, gIsN, gNotN, m__law_pair, f__law_pair, e1, e6, cm, g0, g1, s0, s1, c, c0, d, d0, d2]
    · simp (config := {decide := true, implicitDefEqProofs := false, maxSteps := 1000000}) [r_fn, parOk, frzAt, outsD, List.range_succ, DL.gTup, DL.gLst, gGcd, gNeg, gDiv, gMod, gPow, DL.gSub, gAbs, gInt, gEq, gNe, gRng1, kwR, gmInsert, gmExtend, gmAppend, gmSet, ixR, DL.isNon, ixN, atI, lstD, seqD, gIsN, gNotN, m__law_pair, f__law_pair, e1, e6, cm, g0, g1, s0, s1, c, c0, d, d0, d1, d9, d2, d3, d4, d5, pw]
    · simp (config := {decide := true, implicitDefEqProofs := false, maxSteps := 1000000}) [r_fn, parOk, frzAt, outsD, List.range_succ, DL.gTup, DL.gLst, gGcd, gNeg, gDiv, gMod, gPow, DL.gSub, gAbs, gInt, gEq, gNe, gRng1, kwR, gmInsert, gmExtend, gmAppend, gmSet, ixR, DL.isNon, ixN, atI, lstD, seqD, gIsN, gNotN, m__law_pair, f__law_pair, e1, e6, cm, g0, g1, s0, s1, c, c0, d, d0, d1, d9, d2, d3, d4, d5, pw]
    · exfalso; have : (m : Int) = 0 := of_eq_true d; rw [this] at c'; exact absurd c' (by decide)
    · simp (config := {decide := true, implicitDefEqProofs := false, maxSteps := 1000000}) [r_fn, parOk, frzAt, outsD, List.range_succ, DL.gTup, DL.gLst, gGcd, gNeg, gDiv, gMod, gPow, DL.gSub, gAbs, gInt, gEq, gNe, gRng1, kwR, gmInsert, gmExtend, gmAppend, gmSet, ixR, DL.isNon, ixN, atI, lstD, seqD, gIsN, gNotN, m__law_pair, f__law_pair, e1, e6, cm, g0, g1, s0, s1, c, c0, c', c2, c3, d, d0, d2, pw]
    · simp (config := {decide := true, implicitDefEqProofs := false, maxSteps := 1000000}) [r_fn, parOk, frzAt, outsD, List.range_succ, DL.gTup, DL.gLst, gGcd, gNeg, gDiv, gMod, gPow, DL.gSub, gAbs, gInt, gEq, gNe, gRng1, kwR, gmInsert, gmExtend, gmAppend, gmSet, ixR, DL.isNon, ixN, atI, lstD, seqD, gIsN, gNotN, m__law_pair, f__law_pair, e1, e6, cm, g0, g1, s0, s1, c, c0, c', c2, c3, d, d0, d1, d9, d2, d3, d4, d5, pw]
    · simp (config := {decide := true, implicitDefEqProofs := false, maxSteps := 1000000}) [r_fn, parOk, frzAt, outsD, List.range_succ, DL.gTup, DL.gLst, gGcd, gNeg, gDiv, gMod, gPow, DL.gSub, gAbs, gInt, gEq, gNe, gRng1, kwR, gmInsert, gmExtend, gmAppend, gmSet, ixR, DL.isNon, ixN, atI, lstD, seqD, gIsN, gNotN, m__law_pair, f__law_pair, e1, e6, cm, g0, g1, s0, s1, c, c0, c', c2, c3, d, d0, d1, d9, d2, d3, d4, d5, pw]
    · exfalso; have : (m : Int) = 0 := of_eq_true d; rw [this] at c'; exact absurd c' (by decide)
    · simp (config := {decide := true, implicitDefEqProofs := false, maxSteps := 1000000}) [r_fn, parOk, frzAt, outsD, List.range_succ, DL.gTup, DL.gLst, gGcd, gNeg, gDiv, gMod, gPow, DL.gSub, gAbs, gInt, gEq, gNe, gRng1, kwR, gmInsert, gmExtend, gmAppend, gmSet, ixR, DL.isNon, ixN, atI, lstD, seqD, gIsN, gNotN, m__law_pair, f__law_pair, e1, e6, cm, g0, g1, s0, s1, c, c0, c', c2, c3, d, d0, d2, pw]
    · simp (config := {decide := true, implicitDefEqProofs := false, maxSteps := 1000000}) [r_fn, parOk, frzAt, outsD, List.range_succ, DL.gTup, DL.gLst, gGcd, gNeg, gDiv, gMod, gPow, DL.gSub, gAbs, gInt, gEq, gNe, gRng1, kwR, gmInsert, gmExtend, gmAppend, gmSet, ixR, DL.isNon, ixN, atI, lstD, seqD, gIsN, gNotN, m__law_pair, f__law_pair, e1, e6, cm, g0, g1, s0, s1, c, c0, c', c2, c3, d, d0, d1, d9, d2, d3, d4, d5, pw]
    · simp (config := {decide := true, implicitDefEqProofs := false, maxSteps := 1000000}) [r_fn, parOk, frzAt, outsD, List.range_succ, DL.gTup, DL.gLst, gGcd, gNeg, gDiv, gMod, gPow, DL.gSub, gAbs, gInt, gEq, gNe, gRng1, kwR, gmInsert, gmExtend, gmAppend, gmSet, ixR, DL.isNon, ixN, atI, lstD, seqD, gIsN, gNotN, m__law_pair, f__law_pair, e1, e6, cm, g0, g1, s0, s1, c, c0, c', c2, c3, d, d0, d1, d9, d2, d3, d4, d5, pw]
end K85
namespace K85
open PySem PySem.Spec PyProof.Rows L2 DL DL.Q
theorem blt_rep (n : Nat) : blsD (List.replicate n (D.bl true)) = some (List.replicate n true) := by
  induction n with
  | zero => rfl
  | succ n ih =>
    rw [List.replicate_succ, List.replicate_succ]
    unfold blsD
    rw [ih]
theorem alt_rep (n : Nat) : (List.replicate n true).all id = true := by
  induction n with
  | zero => rfl
  | succ n ih => rw [List.replicate_succ, List.all_cons, ih]; rfl
theorem map_tt : ∀ ds : List Nat, (ds.map fun c => sD [c]).map (fun d => frz (D.bl true)) = List.replicate ds.length (D.bl true)
  | [] => rfl
  | d :: ds => by
    rw [List.map_cons, List.map_cons, map_tt ds, List.length_cons, List.replicate_succ]
    rfl
theorem dgs_mem {c : Nat} (h : 48 ≤ c ∧ c ≤ 57) : c ∈ dgs := by
  have : c = 48 ∨ c = 49 ∨ c = 50 ∨ c = 51 ∨ c = 52 ∨ c = 53 ∨ c = 54 ∨ c = 55 ∨ c = 56 ∨ c = 57 := by omega
  rcases this with rfl | rfl | rfl | rfl | rfl | rfl | rfl | rfl | rfl | rfl <;> decide
theorem wh_C {x0 x2 : Option D} {ds : List Nat} (h : ∀ c ∈ ds, 48 ≤ c ∧ c ≤ 57) (hl : ds.length ≤ 1000) : C_whole_of_0 [x0, some (sD ds), x2] = some (.ok (.val (.ol (List.replicate ds.length (.bl true)))) [x0, some (sD ds), x2]) := by
  have e := comp_map1 (ρ := [x0, some (sD ds), none]) (i := 2) (I := [0, 1]) (f := ev2 gIn (evV 2) (evC (.str ("0123456789" : Str)))) (ds := ds.map fun c => sD [c]) (acc := []) (by decide) (by simp) (fun _ => .bl true) (fun d hd => by
    obtain ⟨c, hc, rfl⟩ := List.mem_map.mp hd
    have hm := dgs_mem (h c hc)
    simp (config := {decide := true, implicitDefEqProofs := false, maxSteps := 1000000}) [r_fn, parOk, frzAt, outsD, List.range_succ, DL.gTup, DL.gLst, gGcd, gNeg, gDiv, gMod, gPow, DL.gSub, gAbs, gInt, gEq, gNe, gRng1, kwR, gmInsert, gmExtend, gmAppend, gmSet, ixR, DL.isNon, ixN, atI, lstD, seqD, gIsN, gNotN, hm]) (by simp; omega)
  rw [map_tt, List.nil_append] at e
  generalize List.replicate ds.length (D.bl true) = R at *
  have it := itS_s ds
  generalize (ds.map fun c => sD [c]) = S at *
  simp (config := {decide := true, implicitDefEqProofs := false, maxSteps := 1000000}) [r_fn, parOk, frzAt, outsD, List.range_succ, DL.gTup, DL.gLst, gGcd, gNeg, gDiv, gMod, gPow, DL.gSub, gAbs, gInt, gEq, gNe, gRng1, kwR, gmInsert, gmExtend, gmAppend, gmSet, ixR, DL.isNon, ixN, atI, lstD, seqD, gIsN, gNotN] at e
  simp (config := {decide := true, implicitDefEqProofs := false, maxSteps := 1000000}) [r_fn, parOk, frzAt, outsD, List.range_succ, DL.gTup, DL.gLst, gGcd, gNeg, gDiv, gMod, gPow, DL.gSub, gAbs, gInt, gEq, gNe, gRng1, kwR, gmInsert, gmExtend, gmAppend, gmSet, ixR, DL.isNon, ixN, atI, lstD, seqD, gIsN, gNotN, a_C_whole_of_0, it, e]
theorem whole_ok {z : Int} (h : z.natAbs < 10 ^ 9) : m_whole_of [sD (inT z)] = some (.ok (.int z) [sD (inT z)]) := by
  have ib := int_back h
  have hl := inT_len (z := z) (k := 9) (by omega) h
  have dl := dg_len (m := z.natAbs) (k := 9) (by omega) h
  have dm := dg_mem z.natAbs
  have dn := dg_ne z.natAbs
  have cc := fun x0 x2 => wh_C (x0 := x0) (x2 := x2) dm (by omega)
  have b := blt_rep (dg z.natAbs).length
  have a := alt_rep (dg z.natAbs).length
  have z1 : (dg z.natAbs).length ≤ 16777216 := by omega
  have z2 : ((9 : Int) < ((dg z.natAbs).length : Int)) = False := eq_false (by omega)
  have z2' : (9 < (dg z.natAbs).length) = False := eq_false (by omega)
  have ne : (dg z.natAbs = []) = False := eq_false dn
  obtain ⟨c, t, ed, hc⟩ : ∃ c t, dg z.natAbs = c :: t ∧ (c = 48 → z = 0) := by
    by_cases h0 : z.natAbs = 0
    · exact ⟨48, [], by rw [h0]; exact dg_lt (by omega), fun _ => by omega⟩
    · obtain ⟨c, t, e, hc⟩ := dg_head (m := z.natAbs) (by omega)
      exact ⟨c, t, e, fun h => absurd h hc⟩
  have ix : ∀ u ρ, ixR u (sD (dg z.natAbs)) (.int 0) ρ = some (.ok (.val (sD [c])) ρ) := fun u ρ => by
    have := txt_ix (t := dg z.natAbs) (i := 0) (c := c) (by rw [ed]; rfl) z1
    unfold ixR
    rw [show ((0 : Nat) : Int) = 0 from rfl] at this
    rw [this]
  generalize List.replicate (dg z.natAbs).length (D.bl true) = R at *
  generalize List.replicate (dg z.natAbs).length true = Rb at *
  by_cases hz : z < 0
  · have e1 : inT z = 45 :: dg z.natAbs := by unfold inT; rw [if_pos hz]
    have sw := txt_sw (c := 45) (t := inT z)
    have hh : ((inT z).head? = some 45) = True := eq_true (by rw [e1]; rfl)
    have ct := cut_1 (t := inT z) (i := 1) (by omega)
    rw [show (inT z).drop 1 = dg z.natAbs by rw [e1]; rfl, show ((1 : Nat) : Int) = 1 from rfl] at ct
    have c48 : (c = 48) = False := eq_false fun x => by have := hc x; omega
    clear ed e1 hl
    generalize dg z.natAbs = G at *
    generalize inT z = T at *
    simp (config := {decide := true, implicitDefEqProofs := false, maxSteps := 1000000}) [r_fn, parOk, frzAt, outsD, List.range_succ, DL.gTup, DL.gLst, gGcd, gNeg, gDiv, gMod, gPow, DL.gSub, gAbs, gInt, gEq, gNe, gRng1, kwR, gmInsert, gmExtend, gmAppend, gmSet, DL.isNon, ixN, atI, lstD, seqD, gIsN, gNotN, m_whole_of, f_whole_of, sw, hh, ct, ne, z1, z2, z2', cc, DL.gAll, b, a, ix, c48, ib]
  · have e1 : inT z = dg z.natAbs := by unfold inT; rw [if_neg hz]
    have sw := txt_sw (c := 45) (t := dg z.natAbs)
    have hh : ((dg z.natAbs).head? = some 45) = False := eq_false fun x => by
      rw [ed] at x
      have := dm c (by rw [ed]; simp)
      injection x with x
      omega
    rw [e1] at ib ⊢
    by_cases c48 : c = 48
    · have z0 := hc c48
      have d0 : dg z.natAbs = [48] := by rw [z0]; exact dg_lt (by decide)
      subst c48
      have dq : (dg z.natAbs = [48]) = True := eq_true d0
      clear ed e1 hl d0
      generalize dg z.natAbs = G at *
      simp (config := {decide := true, implicitDefEqProofs := false, maxSteps := 1000000}) [r_fn, parOk, frzAt, outsD, List.range_succ, DL.gTup, DL.gLst, gGcd, gNeg, gDiv, gMod, gPow, DL.gSub, gAbs, gInt, gEq, gNe, gRng1, kwR, gmInsert, gmExtend, gmAppend, gmSet, DL.isNon, ixN, atI, lstD, seqD, gIsN, gNotN, m_whole_of, f_whole_of, sw, hh, ne, z1, z2, z2', cc, DL.gAll, b, a, ix, dq, ib]
    · have c48' : (c = 48) = False := eq_false c48
      clear ed e1 hl
      generalize dg z.natAbs = G at *
      simp (config := {decide := true, implicitDefEqProofs := false, maxSteps := 1000000}) [r_fn, parOk, frzAt, outsD, List.range_succ, DL.gTup, DL.gLst, gGcd, gNeg, gDiv, gMod, gPow, DL.gSub, gAbs, gInt, gEq, gNe, gRng1, kwR, gmInsert, gmExtend, gmAppend, gmSet, DL.isNon, ixN, atI, lstD, seqD, gIsN, gNotN, m_whole_of, f_whole_of, sw, hh, ne, z1, z2, z2', cc, DL.gAll, b, a, ix, c48', ib]
theorem isnum_ok {a b : Int} (h : NuOk a b) : m_is_number [pD a b] = some (.ok (.bl true) [pD a b]) := by
  have b0 := h.b0
  have b1 : ((1 : Int) ≤ b) = True := eq_true b0
  have b2 : (b < 1) = False := eq_false (by omega)
  have g := h.g
  have g2 : Int.gcd a b = 1 := g
  unfold pD
  simp (config := {decide := true, implicitDefEqProofs := false, maxSteps := 1000000}) [r_fn, parOk, frzAt, outsD, List.range_succ, DL.gTup, DL.gLst, gGcd, gNeg, gDiv, gMod, gPow, DL.gSub, gAbs, gInt, gEq, gNe, gRng1, kwR, gmInsert, gmExtend, gmAppend, gmSet, ixR, DL.isNon, ixN, atI, lstD, seqD, gIsN, gNotN, m_is_number, f_is_number, b1, b2, b0, g, g2]
theorem number_ok {a b : Int} (h : NuOk a b) : m_number_of [sD (nT a b)] = some (.ok (pD a b) [sD (nT a b)]) := by
  have w1 := whole_ok h.an
  have w2 := whole_ok h.bn
  have l := nT_len h
  have i := isnum_ok h
  have z1 := inT_len (z := a) (k := 9) (by omega) h.an
  unfold nT at l ⊢
  unfold pD at i ⊢
  by_cases e : b = 1
  · subst e
    rw [if_pos rfl] at l ⊢
    have p := part_none (c := 47) (u := inT a) inT_47 (by omega)
    generalize inT a = A at *
    simp (config := {decide := true, implicitDefEqProofs := false, maxSteps := 1000000}) [r_fn, parOk, frzAt, outsD, List.range_succ, DL.gTup, DL.gLst, gGcd, gNeg, gDiv, gMod, gPow, DL.gSub, gAbs, gInt, gEq, gNe, gRng1, kwR, gmInsert, gmExtend, gmAppend, gmSet, ixR, DL.isNon, ixN, atI, lstD, seqD, gIsN, gNotN, m_number_of, f_number_of, p, w1]
  · rw [if_neg e] at l ⊢
    have p := part_some (c := 47) (u := inT a) (v := inT b) inT_47 (by omega)
    have b2 : (b < 2) = False := eq_false (by have := h.b0; omega)
    generalize inT a ++ 47 :: inT b = T at *
    generalize inT a = A at *
    generalize inT b = B at *
    simp (config := {decide := true, implicitDefEqProofs := false, maxSteps := 1000000}) [r_fn, parOk, frzAt, outsD, List.range_succ, DL.gTup, DL.gLst, gGcd, gNeg, gDiv, gMod, gPow, DL.gSub, gAbs, gInt, gEq, gNe, gRng1, kwR, gmInsert, gmExtend, gmAppend, gmSet, ixR, DL.isNon, ixN, atI, lstD, seqD, gIsN, gNotN, m_number_of, f_number_of, p, w1, w2, i, b2]
theorem readn_ok {a b : Int} (h : NuOk a b) : m_read_number [sD (nT a b)] = some (.ok (pD a b) [sD (nT a b)]) := by
  have w := number_ok h
  generalize nT a b = T at *
  unfold pD at w ⊢
  simp (config := {decide := true, implicitDefEqProofs := false, maxSteps := 1000000}) [r_fn, parOk, frzAt, outsD, List.range_succ, DL.gTup, DL.gLst, gGcd, gNeg, gDiv, gMod, gPow, DL.gSub, gAbs, gInt, gEq, gNe, gRng1, kwR, gmInsert, gmExtend, gmAppend, gmSet, ixR, DL.isNon, ixN, atI, lstD, seqD, gIsN, gNotN, m_read_number, f_read_number, w]
end K85
namespace K85
open PySem PySem.Spec PyProof.Rows L2 DL DL.Q
inductive Pat where
  | sg (c : Nat)
  | any
  | emp
  | non
  | many (p : Pat)
  | weigh (a b : Int) (p : Pat)
  | thn (p q : Pat)
  | orr (p q : Pat)
namespace Pat
def d : Pat → D
  | sg c => .tup [sD [115, 105, 103, 110], sD [c]]
  | any => .tup [sD [97, 110, 121]]
  | emp => .tup [sD [101, 109, 112, 116, 121]]
  | non => .tup [sD [110, 111, 110, 101]]
  | many p => .tup [sD [109, 97, 110, 121], p.d]
  | weigh a b p => .tup [sD [119, 101, 105, 103, 104], pD a b, p.d]
  | thn p q => .tup [sD [116, 104, 101, 110], p.d, q.d]
  | orr p q => .tup [sD [111, 114], p.d, q.d]
def w : Pat → List Nat
  | sg c => [c]
  | any => [46]
  | emp => [49]
  | non => [48]
  | many p => p.w ++ [42]
  | weigh a b p => nT a b ++ 91 :: (p.w ++ [93])
  | thn p q => 40 :: (p.w ++ 32 :: (q.w ++ [41]))
  | orr p q => 40 :: (p.w ++ 32 :: 43 :: 32 :: (q.w ++ [41]))
def dep : Pat → Nat
  | many p => p.dep + 1
  | weigh _ _ p => p.dep + 1
  | thn p q => max p.dep q.dep + 1
  | orr p q => max p.dep q.dep + 1
  | _ => 1
def Ok : Pat → Prop
  | sg c => c ∈ abc
  | many p => p.Ok
  | weigh a b p => NuOk a b ∧ p.Ok
  | thn p q => p.Ok ∧ q.Ok
  | orr p q => p.Ok ∧ q.Ok
  | _ => True
theorem d_sh (p : Pat) : p.d.sh = true := by cases p <;> rfl
theorem d_fz (p : Pat) : frz p.d = p.d := by cases p <;> rfl
theorem dep_pos (p : Pat) : 1 ≤ p.dep := by cases p <;> simp [dep]
end Pat
theorem words_ok : ∀ (p : Pat) (n : Nat), p.Ok → p.dep ≤ n → p.w.length ≤ 16000000 → m__law_words n [p.d] = some (.ok (sD p.w) [p.d])
  | p, 0, _, h, _ => by have := p.dep_pos; omega
  | p, n + 1, ok, h, hl => by
    show fnD N__law_words.length P__law_words.length [] (f__law_words (m__law_words n)) _ = _
    cases p with
    | sg c =>
      unfold Pat.d Pat.w
      simp (config := {decide := true, implicitDefEqProofs := false, maxSteps := 1000000}) [r_fn, parOk, frzAt, outsD, List.range_succ, DL.gTup, DL.gLst, gGcd, gNeg, gDiv, gMod, gPow, DL.gSub, gAbs, gInt, gEq, gNe, gRng1, kwR, gmInsert, gmExtend, gmAppend, gmSet, ixR, DL.isNon, ixN, atI, lstD, seqD, gIsN, gNotN, f__law_words]
    | any =>
      unfold Pat.d Pat.w
      simp (config := {decide := true, implicitDefEqProofs := false, maxSteps := 1000000}) [r_fn, parOk, frzAt, outsD, List.range_succ, DL.gTup, DL.gLst, gGcd, gNeg, gDiv, gMod, gPow, DL.gSub, gAbs, gInt, gEq, gNe, gRng1, kwR, gmInsert, gmExtend, gmAppend, gmSet, ixR, DL.isNon, ixN, atI, lstD, seqD, gIsN, gNotN, f__law_words, gInT, inV, tab_any]
    | emp =>
      unfold Pat.d Pat.w
      simp (config := {decide := true, implicitDefEqProofs := false, maxSteps := 1000000}) [r_fn, parOk, frzAt, outsD, List.range_succ, DL.gTup, DL.gLst, gGcd, gNeg, gDiv, gMod, gPow, DL.gSub, gAbs, gInt, gEq, gNe, gRng1, kwR, gmInsert, gmExtend, gmAppend, gmSet, ixR, DL.isNon, ixN, atI, lstD, seqD, gIsN, gNotN, f__law_words, gInT, inV, tab_empty]
    | non =>
      unfold Pat.d Pat.w
      simp (config := {decide := true, implicitDefEqProofs := false, maxSteps := 1000000}) [r_fn, parOk, frzAt, outsD, List.range_succ, DL.gTup, DL.gLst, gGcd, gNeg, gDiv, gMod, gPow, DL.gSub, gAbs, gInt, gEq, gNe, gRng1, kwR, gmInsert, gmExtend, gmAppend, gmSet, ixR, DL.isNon, ixN, atI, lstD, seqD, gIsN, gNotN, f__law_words, gInT, inV, tab_none]
    | many p =>
      unfold Pat.dep at h
      unfold Pat.w at hl ⊢
      rw [List.length_append] at hl
      have e := words_ok p n ok (by omega) (by omega)
      unfold Pat.d
      have s := p.d_sh
      have f := p.d_fz
      have z : p.w.length + 1 ≤ 16777216 := by simp at hl; omega
      generalize p.d = X at *
      generalize p.w = W at *
      simp (config := {decide := true, implicitDefEqProofs := false, maxSteps := 1000000}) [r_fn, parOk, frzAt, outsD, List.range_succ, DL.gTup, DL.gLst, gGcd, gNeg, gDiv, gMod, gPow, DL.gSub, gAbs, gInt, gEq, gNe, gRng1, kwR, gmInsert, gmExtend, gmAppend, gmSet, ixR, DL.isNon, ixN, atI, lstD, seqD, gIsN, gNotN, f__law_words, gInT, inV, e, s, f, z]
    | weigh a b p =>
      unfold Pat.dep at h
      unfold Pat.w at hl ⊢
      obtain ⟨nu, ok⟩ := ok
      have e := words_ok p n ok (by omega) (by simp at hl; omega)
      have e2 := said_ok nu
      have nl := nT_len nu
      unfold Pat.d
      have s := p.d_sh
      have f := p.d_fz
      have s2 := pD_sh a b
      have f2 := pD_fz a b
      have z1 : (nT a b).length + 1 ≤ 16777216 := by omega
      have z2 : (nT a b).length + 1 + p.w.length ≤ 16777216 := by simp at hl; omega
      have z3 : (nT a b).length + 1 + p.w.length + 1 ≤ 16777216 := by simp at hl; omega
      have z4 : (nT a b).length + (p.w.length + 1) ≤ 16777216 := by simp at hl; omega
      have z5 : (nT a b).length + (p.w.length + 1) + 1 ≤ 16777216 := by simp at hl; omega
      generalize pD a b = B at *
      generalize nT a b = N at *
      generalize p.d = X at *
      generalize p.w = W at *
      simp (config := {decide := true, implicitDefEqProofs := false, maxSteps := 1000000}) [r_fn, parOk, frzAt, outsD, List.range_succ, DL.gTup, DL.gLst, gGcd, gNeg, gDiv, gMod, gPow, DL.gSub, gAbs, gInt, gEq, gNe, gRng1, kwR, gmInsert, gmExtend, gmAppend, gmSet, ixR, DL.isNon, ixN, atI, lstD, seqD, gIsN, gNotN, f__law_words, gInT, inV, e, e2, s, f, s2, f2, z1, z2, z3, z4, z5]
    | thn p q =>
      unfold Pat.dep at h
      unfold Pat.w at hl ⊢
      have e := words_ok p n ok.1 (by omega) (by simp at hl; omega)
      have e2 := words_ok q n ok.2 (by omega) (by simp at hl; omega)
      unfold Pat.d
      have s := p.d_sh
      have f := p.d_fz
      have s2 := q.d_sh
      have f2 := q.d_fz
      have z : p.w.length + q.w.length ≤ 16000000 := by simp at hl; omega
      clear hl h ok
      generalize p.d = X at *
      generalize p.w = W at *
      generalize q.d = Y at *
      generalize q.w = U at *
      have z1 : 1 + W.length ≤ 16777216 := by omega
      have z2 : W.length + 1 ≤ 16777216 := by omega
      have z3 : W.length + 1 + 1 ≤ 16777216 := by omega
      have z4 : W.length + 1 + 1 + U.length ≤ 16777216 := by omega
      have z5 : W.length + (U.length + 1) + 1 + 1 ≤ 16777216 := by omega
      have z6 : 1 + W.length + 1 + U.length + 1 ≤ 16777216 := by omega
      simp (config := {decide := true, implicitDefEqProofs := false, maxSteps := 1000000}) [r_fn, parOk, frzAt, outsD, List.range_succ, DL.gTup, DL.gLst, gGcd, gNeg, gDiv, gMod, gPow, DL.gSub, gAbs, gInt, gEq, gNe, gRng1, kwR, gmInsert, gmExtend, gmAppend, gmSet, ixR, DL.isNon, ixN, atI, lstD, seqD, gIsN, gNotN, f__law_words, gInT, inV, e, e2, s, f, s2, f2, z1, z2, z3, z4, z5, z6, tab_then]
    | orr p q =>
      unfold Pat.dep at h
      unfold Pat.w at hl ⊢
      have e := words_ok p n ok.1 (by omega) (by simp at hl; omega)
      have e2 := words_ok q n ok.2 (by omega) (by simp at hl; omega)
      unfold Pat.d
      have s := p.d_sh
      have f := p.d_fz
      have s2 := q.d_sh
      have f2 := q.d_fz
      have z : p.w.length + q.w.length ≤ 16000000 := by simp at hl; omega
      clear hl h ok
      generalize p.d = X at *
      generalize p.w = W at *
      generalize q.d = Y at *
      generalize q.w = U at *
      have z1 : 1 + W.length ≤ 16777216 := by omega
      have z2 : W.length + 1 ≤ 16777216 := by omega
      have z3 : W.length + 1 + 1 ≤ 16777216 := by omega
      have z4 : W.length + 1 + 1 + U.length ≤ 16777216 := by omega
      have z5 : W.length + (U.length + 1) + 1 + 1 ≤ 16777216 := by omega
      have z6 : 1 + W.length + 1 + U.length + 1 ≤ 16777216 := by omega
      have z7 : W.length ≤ 16777212 := by omega
      have z8 : W.length + 3 + 1 + U.length ≤ 16777216 := by omega
      have z9 : W.length + (U.length + 1 + 1 + 1) + 1 + 1 ≤ 16777216 := by omega
      simp (config := {decide := true, implicitDefEqProofs := false, maxSteps := 1000000}) [r_fn, parOk, frzAt, outsD, List.range_succ, DL.gTup, DL.gLst, gGcd, gNeg, gDiv, gMod, gPow, DL.gSub, gAbs, gInt, gEq, gNe, gRng1, kwR, gmInsert, gmExtend, gmAppend, gmSet, ixR, DL.isNon, ixN, atI, lstD, seqD, gIsN, gNotN, f__law_words, gInT, inV, e, e2, s, f, s2, f2, z1, z2, z3, z4, z5, z6, z7, z8, z9, tab_or]
end K85
namespace K85
open PySem PySem.Spec PyProof.Rows L2 DL DL.Q
theorem shows_ok : ∀ (p : Pat) (n : Nat), p.Ok → p.dep ≤ n → p.w.length ≤ 16000000 → m_show_pattern n [p.d] = some (.ok (sD p.w) [p.d])
  | p, 0, _, h, _ => by have := p.dep_pos; omega
  | p, n + 1, ok, h, hl => by
    show fnD N_show_pattern.length P_show_pattern.length [] (f_show_pattern (m_show_pattern n)) _ = _
    cases p with
    | sg c =>
      unfold Pat.d Pat.w
      simp (config := {decide := true, implicitDefEqProofs := false, maxSteps := 1000000}) [r_fn, parOk, frzAt, outsD, List.range_succ, DL.gTup, DL.gLst, gGcd, gNeg, gDiv, gMod, gPow, DL.gSub, gAbs, gInt, gEq, gNe, gRng1, kwR, gmInsert, gmExtend, gmAppend, gmSet, ixR, DL.isNon, ixN, atI, lstD, seqD, gIsN, gNotN, f_show_pattern]
    | any =>
      unfold Pat.d Pat.w
      simp (config := {decide := true, implicitDefEqProofs := false, maxSteps := 1000000}) [r_fn, parOk, frzAt, outsD, List.range_succ, DL.gTup, DL.gLst, gGcd, gNeg, gDiv, gMod, gPow, DL.gSub, gAbs, gInt, gEq, gNe, gRng1, kwR, gmInsert, gmExtend, gmAppend, gmSet, ixR, DL.isNon, ixN, atI, lstD, seqD, gIsN, gNotN, f_show_pattern]
    | emp =>
      unfold Pat.d Pat.w
      simp (config := {decide := true, implicitDefEqProofs := false, maxSteps := 1000000}) [r_fn, parOk, frzAt, outsD, List.range_succ, DL.gTup, DL.gLst, gGcd, gNeg, gDiv, gMod, gPow, DL.gSub, gAbs, gInt, gEq, gNe, gRng1, kwR, gmInsert, gmExtend, gmAppend, gmSet, ixR, DL.isNon, ixN, atI, lstD, seqD, gIsN, gNotN, f_show_pattern]
    | non =>
      unfold Pat.d Pat.w
      simp (config := {decide := true, implicitDefEqProofs := false, maxSteps := 1000000}) [r_fn, parOk, frzAt, outsD, List.range_succ, DL.gTup, DL.gLst, gGcd, gNeg, gDiv, gMod, gPow, DL.gSub, gAbs, gInt, gEq, gNe, gRng1, kwR, gmInsert, gmExtend, gmAppend, gmSet, ixR, DL.isNon, ixN, atI, lstD, seqD, gIsN, gNotN, f_show_pattern]
    | many p =>
      unfold Pat.dep at h
      unfold Pat.w at hl ⊢
      rw [List.length_append] at hl
      have e := shows_ok p n ok (by omega) (by omega)
      unfold Pat.d
      have s := p.d_sh
      have f := p.d_fz
      have z : p.w.length + 1 ≤ 16777216 := by simp at hl; omega
      generalize p.d = X at *
      generalize p.w = W at *
      simp (config := {decide := true, implicitDefEqProofs := false, maxSteps := 1000000}) [r_fn, parOk, frzAt, outsD, List.range_succ, DL.gTup, DL.gLst, gGcd, gNeg, gDiv, gMod, gPow, DL.gSub, gAbs, gInt, gEq, gNe, gRng1, kwR, gmInsert, gmExtend, gmAppend, gmSet, ixR, DL.isNon, ixN, atI, lstD, seqD, gIsN, gNotN, f_show_pattern, e, s, f, z]
    | weigh a b p =>
      unfold Pat.dep at h
      unfold Pat.w at hl ⊢
      obtain ⟨nu, ok⟩ := ok
      have e := shows_ok p n ok (by omega) (by simp at hl; omega)
      have e2 := show_ok nu
      have nl := nT_len nu
      unfold Pat.d
      have s := p.d_sh
      have f := p.d_fz
      have s2 := pD_sh a b
      have f2 := pD_fz a b
      have z1 : (nT a b).length + 1 ≤ 16777216 := by omega
      have z2 : (nT a b).length + 1 + p.w.length ≤ 16777216 := by simp at hl; omega
      have z3 : (nT a b).length + 1 + p.w.length + 1 ≤ 16777216 := by simp at hl; omega
      have z4 : (nT a b).length + (p.w.length + 1) ≤ 16777216 := by simp at hl; omega
      have z5 : (nT a b).length + (p.w.length + 1) + 1 ≤ 16777216 := by simp at hl; omega
      generalize pD a b = B at *
      generalize nT a b = N at *
      generalize p.d = X at *
      generalize p.w = W at *
      simp (config := {decide := true, implicitDefEqProofs := false, maxSteps := 1000000}) [r_fn, parOk, frzAt, outsD, List.range_succ, DL.gTup, DL.gLst, gGcd, gNeg, gDiv, gMod, gPow, DL.gSub, gAbs, gInt, gEq, gNe, gRng1, kwR, gmInsert, gmExtend, gmAppend, gmSet, ixR, DL.isNon, ixN, atI, lstD, seqD, gIsN, gNotN, f_show_pattern, e, e2, s, f, s2, f2, z1, z2, z3, z4, z5]
    | thn p q =>
      unfold Pat.dep at h
      unfold Pat.w at hl ⊢
      have e := shows_ok p n ok.1 (by omega) (by simp at hl; omega)
      have e2 := shows_ok q n ok.2 (by omega) (by simp at hl; omega)
      unfold Pat.d
      have s := p.d_sh
      have f := p.d_fz
      have s2 := q.d_sh
      have f2 := q.d_fz
      have z : p.w.length + q.w.length ≤ 16000000 := by simp at hl; omega
      clear hl h ok
      generalize p.d = X at *
      generalize p.w = W at *
      generalize q.d = Y at *
      generalize q.w = U at *
      have z1 : 1 + W.length ≤ 16777216 := by omega
      have z2 : W.length + 1 ≤ 16777216 := by omega
      have z3 : W.length + 1 + 1 ≤ 16777216 := by omega
      have z4 : W.length + 1 + 1 + U.length ≤ 16777216 := by omega
      have z5 : W.length + (U.length + 1) + 1 + 1 ≤ 16777216 := by omega
      have z6 : 1 + W.length + 1 + U.length + 1 ≤ 16777216 := by omega
      simp (config := {decide := true, implicitDefEqProofs := false, maxSteps := 1000000}) [r_fn, parOk, frzAt, outsD, List.range_succ, DL.gTup, DL.gLst, gGcd, gNeg, gDiv, gMod, gPow, DL.gSub, gAbs, gInt, gEq, gNe, gRng1, kwR, gmInsert, gmExtend, gmAppend, gmSet, ixR, DL.isNon, ixN, atI, lstD, seqD, gIsN, gNotN, f_show_pattern, e, e2, s, f, s2, f2, z1, z2, z3, z4, z5, z6]
    | orr p q =>
      unfold Pat.dep at h
      unfold Pat.w at hl ⊢
      have e := shows_ok p n ok.1 (by omega) (by simp at hl; omega)
      have e2 := shows_ok q n ok.2 (by omega) (by simp at hl; omega)
      unfold Pat.d
      have s := p.d_sh
      have f := p.d_fz
      have s2 := q.d_sh
      have f2 := q.d_fz
      have z : p.w.length + q.w.length ≤ 16000000 := by simp at hl; omega
      clear hl h ok
      generalize p.d = X at *
      generalize p.w = W at *
      generalize q.d = Y at *
      generalize q.w = U at *
      have z1 : 1 + W.length ≤ 16777216 := by omega
      have z2 : W.length + 1 ≤ 16777216 := by omega
      have z3 : W.length + 1 + 1 ≤ 16777216 := by omega
      have z4 : W.length + 1 + 1 + U.length ≤ 16777216 := by omega
      have z5 : W.length + (U.length + 1) + 1 + 1 ≤ 16777216 := by omega
      have z6 : 1 + W.length + 1 + U.length + 1 ≤ 16777216 := by omega
      have z7 : W.length ≤ 16777212 := by omega
      have z8 : W.length + 3 + 1 + U.length ≤ 16777216 := by omega
      have z9 : W.length + (U.length + 1 + 1 + 1) + 1 + 1 ≤ 16777216 := by omega
      simp (config := {decide := true, implicitDefEqProofs := false, maxSteps := 1000000}) [r_fn, parOk, frzAt, outsD, List.range_succ, DL.gTup, DL.gLst, gGcd, gNeg, gDiv, gMod, gPow, DL.gSub, gAbs, gInt, gEq, gNe, gRng1, kwR, gmInsert, gmExtend, gmAppend, gmSet, ixR, DL.isNon, ixN, atI, lstD, seqD, gIsN, gNotN, f_show_pattern, e, e2, s, f, s2, f2, z1, z2, z3, z4, z5, z6, z7, z8, z9]
theorem same_int (n : Nat) (i : Int) : m__law_same (n + 1) [.int i, .int i] = some (.ok (.bl true) [.int i, .int i]) := by
  show fnD N__law_same.length P__law_same.length [] (f__law_same (m__law_same n)) _ = _
  simp (config := {decide := true, implicitDefEqProofs := false, maxSteps := 1000000}) [r_fn, parOk, frzAt, outsD, List.range_succ, DL.gTup, DL.gLst, gGcd, gNeg, gDiv, gMod, gPow, DL.gSub, gAbs, gInt, gEq, gNe, gRng1, kwR, gmInsert, gmExtend, gmAppend, gmSet, ixR, DL.isNon, ixN, atI, lstD, seqD, gIsN, gNotN, f__law_same, tab, evNotV]
theorem same_str (n : Nat) (m : List Nat) : m__law_same (n + 1) [sD m, sD m] = some (.ok (.bl true) [sD m, sD m]) := by
  show fnD N__law_same.length P__law_same.length [] (f__law_same (m__law_same n)) _ = _
  unfold sD
  simp (config := {decide := true, implicitDefEqProofs := false, maxSteps := 1000000}) [r_fn, parOk, frzAt, outsD, List.range_succ, DL.gTup, DL.gLst, gGcd, gNeg, gDiv, gMod, gPow, DL.gSub, gAbs, gInt, gEq, gNe, gRng1, kwR, gmInsert, gmExtend, gmAppend, gmSet, ixR, DL.isNon, ixN, atI, lstD, seqD, gIsN, gNotN, f__law_same, tab, evNotV]
theorem same_loop {m : Mir} {xs : List D} {b : Option D} (h : ∀ x ∈ xs, x.sh = true ∧ frz x = x ∧ m [x, x] = some (.ok (.bl true) [x, x])) : ∀ (n k : Nat) (u : Option D), k + n = xs.length →
    ∃ v, forE (tgN [] 3) (L__law_same_0 m) ((List.range' k n).map fun i => .int (i : Nat)) [some (.tup xs), some (.tup xs), b, u] = some (.nx [some (.tup xs), some (.tup xs), b, v])
  | 0, k, u, hk => ⟨u, rfl⟩
  | n + 1, k, u, hk => by
    have hkl : k < xs.length := by omega
    have hx : xs[k]? = some xs[k] := List.getElem?_eq_getElem hkl
    obtain ⟨h1, h2, h3⟩ := h xs[k] (List.getElem_mem hkl)
    obtain ⟨v, e⟩ := same_loop (m := m) (b := b) h n (k + 1) (some (.int k)) (by omega)
    have ix : ∀ a ρ, ixR a (.tup xs) (.int (k : Int)) ρ = some (.ok (.val xs[k]) ρ) := fun a ρ => by
      have e : atI xs (k : Int) = some xs[k] := by unfold atI ixN; rw [if_pos (by omega), if_pos (by omega), Int.toNat_natCast]; exact hx
      unfold ixR
      rw [ix_t, e, bO_some, if_pos h1]
    refine ⟨v, ?_⟩
    rw [List.range'_succ, List.map_cons]
    have st : (D.tup xs).sh = true := rfl
    generalize (List.range' (k + 1) n).map (fun i => D.int (i : Nat)) = R at *
    generalize xs[k] = x at *
    generalize D.tup xs = X at *
    simp (config := {decide := true, implicitDefEqProofs := false, maxSteps := 1000000}) [r_fn, parOk, frzAt, outsD, List.range_succ, DL.gTup, DL.gLst, gGcd, gNeg, gDiv, gMod, gPow, DL.gSub, gAbs, gInt, gEq, gNe, gRng1, kwR, gmInsert, gmExtend, gmAppend, gmSet, DL.isNon, ixN, atI, lstD, seqD, gIsN, gNotN, forE_1, a_L__law_same_0, ix, st, h1, h2, h3, e]
theorem same_tup {n : Nat} {xs : List D} (hl : xs.length ≤ 1000) (h : ∀ x ∈ xs, x.sh = true ∧ frz x = x ∧ m__law_same n [x, x] = some (.ok (.bl true) [x, x])) : m__law_same (n + 1) [.tup xs, .tup xs] = some (.ok (.bl true) [.tup xs, .tup xs]) := by
  show fnD N__law_same.length P__law_same.length [] (f__law_same (m__law_same n)) _ = _
  obtain ⟨v, e⟩ := same_loop (b := some (.bl true)) h xs.length 0 none (by omega)
  rw [← List.range_eq_range'] at e
  have rg : gRng1 [.int (xs.length : Int)] = some ((List.range xs.length).map fun i => .int (i : Nat)) := by
    unfold gRng1
    dsimp only
    rw [if_pos (by omega), Int.toNat_natCast]
    unfold dInts
    refine congrArg some (List.map_congr_left fun i _ => ?_)
    rw [Int.zero_add]
  generalize (List.range xs.length).map (fun i => D.int (i : Nat)) = R at *
  simp (config := {decide := true, implicitDefEqProofs := false, maxSteps := 1000000}) [r_fn, parOk, frzAt, outsD, List.range_succ, DL.gTup, DL.gLst, gGcd, gNeg, gDiv, gMod, gPow, DL.gSub, gAbs, gInt, gEq, gNe, kwR, gmInsert, gmExtend, gmAppend, gmSet, ixR, DL.isNon, ixN, atI, lstD, seqD, gIsN, gNotN, f__law_same, tab, evNotV, rg, e]
theorem same_pair (n : Nat) (a b : Int) : m__law_same (n + 2) [pD a b, pD a b] = some (.ok (.bl true) [pD a b, pD a b]) := by
  refine same_tup (by simp) fun x hx => ?_
  simp only [List.mem_cons, List.not_mem_nil, or_false] at hx
  rcases hx with rfl | rfl
  · exact ⟨rfl, rfl, same_int n a⟩
  · exact ⟨rfl, rfl, same_int n b⟩
theorem same_pat : ∀ (p : Pat) (n : Nat), p.dep + 1 ≤ n → m__law_same n [p.d, p.d] = some (.ok (.bl true) [p.d, p.d])
  | p, 0, h => by omega
  | p, 1, h => by have := p.dep_pos; omega
  | p, n + 2, h => by
    have st := fun m => same_str n m
    cases p with
    | sg c =>
      refine same_tup (by simp) fun x hx => ?_
      simp only [List.mem_cons, List.not_mem_nil, or_false] at hx
      rcases hx with rfl | rfl
      · exact ⟨rfl, rfl, st _⟩
      · exact ⟨rfl, rfl, st _⟩
    | any =>
      refine same_tup (by simp) fun x hx => ?_
      rw [List.mem_singleton.mp hx]
      exact ⟨rfl, rfl, st _⟩
    | emp =>
      refine same_tup (by simp) fun x hx => ?_
      rw [List.mem_singleton.mp hx]
      exact ⟨rfl, rfl, st _⟩
    | non =>
      refine same_tup (by simp) fun x hx => ?_
      rw [List.mem_singleton.mp hx]
      exact ⟨rfl, rfl, st _⟩
    | many p =>
      unfold Pat.dep at h
      have e := same_pat p (n + 1) (by omega)
      refine same_tup (by simp) fun x hx => ?_
      simp only [List.mem_cons, List.not_mem_nil, or_false] at hx
      rcases hx with rfl | rfl
      · exact ⟨rfl, rfl, st _⟩
      · exact ⟨p.d_sh, p.d_fz, e⟩
    | weigh a b p =>
      unfold Pat.dep at h
      have dp := p.dep_pos
      obtain ⟨n, rfl⟩ : ∃ k, n = k + 1 := ⟨n - 1, by omega⟩
      have e := same_pat p (n + 2) (by omega)
      refine same_tup (by simp) fun x hx => ?_
      simp only [List.mem_cons, List.not_mem_nil, or_false] at hx
      rcases hx with rfl | rfl | rfl
      · exact ⟨rfl, rfl, st _⟩
      · exact ⟨rfl, rfl, same_pair n a b⟩
      · exact ⟨p.d_sh, p.d_fz, e⟩
    | thn p q =>
      unfold Pat.dep at h
      have e := same_pat p (n + 1) (by omega)
      have e2 := same_pat q (n + 1) (by omega)
      refine same_tup (by simp) fun x hx => ?_
      simp only [List.mem_cons, List.not_mem_nil, or_false] at hx
      rcases hx with rfl | rfl | rfl
      · exact ⟨rfl, rfl, st _⟩
      · exact ⟨p.d_sh, p.d_fz, e⟩
      · exact ⟨q.d_sh, q.d_fz, e2⟩
    | orr p q =>
      unfold Pat.dep at h
      have e := same_pat p (n + 1) (by omega)
      have e2 := same_pat q (n + 1) (by omega)
      refine same_tup (by simp) fun x hx => ?_
      simp only [List.mem_cons, List.not_mem_nil, or_false] at hx
      rcases hx with rfl | rfl | rfl
      · exact ⟨rfl, rfl, st _⟩
      · exact ⟨p.d_sh, p.d_fz, e⟩
      · exact ⟨q.d_sh, q.d_fz, e2⟩
end K85
namespace K85
open PySem PySem.Spec PyProof.Rows L2 DL DL.Q
theorem pct {T u v : List Nat} {i j : Int} {k : Nat} (e : T = u ++ v) (h : T.length ≤ 16777216) (hi : i = u.length) (hj : j = i + k) : gSl true true [sD T, .int i, .int j] = some (sD (v.take k)) := by
  have := cut_2 (t := T) (i := u.length) (j := u.length + k) h
  rw [show ((u.length + k : Nat) : Int) = j by omega, ← hi, Nat.add_sub_cancel_left] at this
  rw [this, e, List.drop_left]
theorem pix {T u v : List Nat} {i : Int} {c : Nat} (e : T = u ++ c :: v) (h : T.length ≤ 16777216) (hi : i = u.length) : ∀ a ρ, ixR a (sD T) (.int i) ρ = some (.ok (.val (sD [c])) ρ) := fun a ρ => by
  have hc : T[u.length]? = some c := by rw [e]; simp
  have := txt_ix hc h
  unfold ixR
  rw [hi, this]
theorem dig_loop {m : Mir} {T : List Nat} {x1 x3 x4 x5 : Option D} (h : T.length ≤ 16777216) : ∀ (l u v : List Nat), T = u ++ (l ++ v) → (∀ c ∈ l, c ∈ ndg) → (∀ c, v.head? = some c → c ∉ ndg) →
    ∃ N, whF (evAnd (evT (ev2 gLt (evV 2) (evOp gLen (evCons (evV 0) (evNil))))) (evT (ev2 gIn (evIx (evV 0) (evV 2)) (evC (sD ndg))))) (L_weighed_at_0 m) N [some (sD T), x1, some (.int (u.length : Nat)), x3, x4, x5] =
      some (.nx [some (sD T), x1, some (.int ((u.length : Int) + (l.length : Int))), x3, x4, x5])
  | [], u, v, e, hl, hv => by
    refine ⟨1, ?_⟩
    rw [List.nil_append] at e
    rw [show ((u.length : Int) + (([] : List Nat).length : Int)) = (u.length : Int) by simp]
    cases v with
    | nil =>
      have z : (((u.length : Nat) : Int) < (T.length : Int)) = False := eq_false (by rw [e]; simp)
      have z2 : (u.length < T.length) = False := eq_false (by rw [e]; simp)
      generalize u.length = k at *
      clear e
      simp (config := {decide := true, implicitDefEqProofs := false, maxSteps := 1000000}) [r_fn, parOk, frzAt, outsD, List.range_succ, DL.gTup, DL.gLst, gGcd, gNeg, gDiv, gMod, gPow, DL.gSub, gAbs, gInt, gEq, gNe, gRng1, kwR, gmInsert, gmExtend, gmAppend, gmSet, ixR, DL.isNon, ixN, atI, lstD, seqD, gIsN, gNotN, whF_1, z, z2, h]
    | cons c v =>
      have z : (((u.length : Nat) : Int) < (T.length : Int)) = True := eq_true (by rw [e]; simp; omega)
      have z2 : (u.length < T.length) = True := eq_true (by rw [e]; simp)
      have ix := pix (i := u.length) e h rfl
      have hc : (c ∈ ndg) = False := eq_false (hv c rfl)
      generalize u.length = k at *
      clear e
      simp (config := {decide := true, implicitDefEqProofs := false, maxSteps := 1000000}) [r_fn, parOk, frzAt, outsD, List.range_succ, DL.gTup, DL.gLst, gGcd, gNeg, gDiv, gMod, gPow, DL.gSub, gAbs, gInt, gEq, gNe, gRng1, kwR, gmInsert, gmExtend, gmAppend, gmSet, DL.isNon, ixN, atI, lstD, seqD, gIsN, gNotN, whF_1, z, z2, h, ix, hc]
  | c :: l, u, v, e, hl, hv => by
    obtain ⟨N, e2⟩ := dig_loop (m := m) (x1 := x1) (x3 := x3) (x4 := x4) (x5 := x5) h l (u ++ [c]) v (by rw [e]; simp) (fun d hd => hl d (by simp [hd])) hv
    refine ⟨N + 1, ?_⟩
    have z : (((u.length : Nat) : Int) < (T.length : Int)) = True := eq_true (by rw [e]; simp; omega)
    have z2 : (u.length < T.length) = True := eq_true (by rw [e]; simp)
    have ix := pix (i := u.length) (c := c) (v := l ++ v) (by rw [e]; rfl) h rfl
    have hc : (c ∈ ndg) = True := eq_true (hl c (by simp))
    rw [show ((u ++ [c]).length : Int) = (u.length : Int) + 1 by simp] at e2
    rw [show ((u.length : Int) + ((c :: l).length : Int)) = (u.length : Int) + 1 + (l.length : Int) by simp; omega]
    generalize (u.length : Int) + 1 + (l.length : Int) = E at *
    clear e
    generalize u.length = k at *
    simp (config := {decide := true, implicitDefEqProofs := false, maxSteps := 1000000}) [r_fn, parOk, frzAt, outsD, List.range_succ, DL.gTup, DL.gLst, gGcd, gNeg, gDiv, gMod, gPow, DL.gSub, gAbs, gInt, gEq, gNe, gRng1, kwR, gmInsert, gmExtend, gmAppend, gmSet, DL.isNon, ixN, atI, lstD, seqD, gIsN, gNotN, whF_1, a_L_weighed_at_0, z, z2, h, ix, hc, e2]
def Stop (v : List Nat) : Prop := ∀ c, v.head? = some c → c = 41 ∨ c = 93 ∨ c = 32 ∨ c = 42
theorem Stop.ndg {v : List Nat} (h : Stop v) : ∀ c, v.head? = some c → c ∉ ndg := fun c hc => by
  rcases h c hc with rfl | rfl | rfl | rfl <;> decide
theorem Stop.lb {v : List Nat} (h : Stop v) : (v.take 1 = [91]) = False := eq_false fun e => by
  cases v with
  | nil => cases e
  | cons c v =>
    have : c = 91 := by simpa using e
    rcases h c rfl with h | h | h | h <;> omega
theorem wz_non {m : Mir} {T u v : List Nat} (e : T = u ++ 48 :: v) (h : T.length ≤ 16777216) (hv : Stop v) : m_weighed_at m [sD T, .int (u.length : Nat)] = some (.ok (.tup [Pat.non.d, .int ((u.length : Int) + 1)]) [sD T, .int (u.length : Nat)]) := by
  obtain ⟨N, l⟩ := dig_loop (m := m) (x1 := some (.int (u.length : Nat))) (x3 := none) (x4 := none) (x5 := none) h [48] u v (by rw [e]; rfl) (by simp; decide) hv.ndg
  have l2 := whE_of l
  have c1 := pct (i := u.length) (j := (u.length : Int) + 1) (k := 1) e h rfl rfl
  have c2 := pct (T := T) (u := u ++ [48]) (v := v) (i := (u.length : Int) + 1) (j := (u.length : Int) + 1 + 1) (k := 1) (by rw [e]; simp) h (by simp) rfl
  have c3 := hv.lb
  have c4 : (48 :: v).take 1 = [48] := rfl
  rw [c4] at c1
  rw [show (([48] : List Nat).length : Int) = 1 from rfl] at l2
  unfold Pat.d
  clear e l
  generalize v.take 1 = V at *
  generalize u.length = k at *
  simp (config := {decide := true, implicitDefEqProofs := false, maxSteps := 1000000}) [r_fn, parOk, frzAt, outsD, List.range_succ, DL.gTup, DL.gLst, gGcd, gNeg, gDiv, gMod, gPow, DL.gSub, gAbs, gInt, gEq, gNe, gRng1, kwR, gmInsert, gmExtend, gmAppend, gmSet, ixR, DL.isNon, ixN, atI, lstD, seqD, gIsN, gNotN, m_weighed_at, f_weighed_at, l2, c1, c2, c3]
theorem wz_emp {m : Mir} {T u v : List Nat} (e : T = u ++ 49 :: v) (h : T.length ≤ 16777216) (hv : Stop v) : m_weighed_at m [sD T, .int (u.length : Nat)] = some (.ok (.tup [Pat.emp.d, .int ((u.length : Int) + 1)]) [sD T, .int (u.length : Nat)]) := by
  obtain ⟨N, l⟩ := dig_loop (m := m) (x1 := some (.int (u.length : Nat))) (x3 := none) (x4 := none) (x5 := none) h [49] u v (by rw [e]; rfl) (by simp; decide) hv.ndg
  have l2 := whE_of l
  have c1 := pct (i := u.length) (j := (u.length : Int) + 1) (k := 1) e h rfl rfl
  have c2 := pct (T := T) (u := u ++ [49]) (v := v) (i := (u.length : Int) + 1) (j := (u.length : Int) + 1 + 1) (k := 1) (by rw [e]; simp) h (by simp) rfl
  have c3 := hv.lb
  have c4 : (49 :: v).take 1 = [49] := rfl
  rw [c4] at c1
  rw [show (([49] : List Nat).length : Int) = 1 from rfl] at l2
  unfold Pat.d
  clear e l
  generalize v.take 1 = V at *
  generalize u.length = k at *
  simp (config := {decide := true, implicitDefEqProofs := false, maxSteps := 1000000}) [r_fn, parOk, frzAt, outsD, List.range_succ, DL.gTup, DL.gLst, gGcd, gNeg, gDiv, gMod, gPow, DL.gSub, gAbs, gInt, gEq, gNe, gRng1, kwR, gmInsert, gmExtend, gmAppend, gmSet, ixR, DL.isNon, ixN, atI, lstD, seqD, gIsN, gNotN, m_weighed_at, f_weighed_at, l2, c1, c2, c3]
theorem nT_ndg {a b : Int} : ∀ c ∈ nT a b, c ∈ ndg := by
  have k : ∀ {z : Int}, ∀ c ∈ inT z, c ∈ ndg := fun {z} c hc => by
    rcases inT_mem c hc with rfl | h
    · decide
    · have := dgs_mem h
      unfold dgs at this
      unfold ndg
      simp only [List.mem_cons, List.not_mem_nil, or_false] at this ⊢
      exact .inr (.inr this)
  intro c hc
  unfold nT at hc
  split at hc
  · exact k c hc
  · rcases List.mem_append.mp hc with hc | hc
    · exact k c hc
    · rcases List.mem_cons.mp hc with rfl | hc
      · decide
      · exact k c hc
theorem wz_weigh {m : Mir} {T u v : List Nat} {a b : Int} {p : Pat} (e : T = u ++ (nT a b ++ 91 :: (p.w ++ 93 :: v))) (h : T.length ≤ 16777216) (nu : NuOk a b)
    (ih : m [sD T, .int (u.length + (nT a b).length + 1)] = some (.ok (.tup [p.d, .int (u.length + (nT a b).length + 1 + p.w.length)]) [sD T, .int (u.length + (nT a b).length + 1)])) :
    m_weighed_at m [sD T, .int (u.length : Nat)] = some (.ok (.tup [(Pat.weigh a b p).d, .int (u.length + (nT a b).length + 1 + p.w.length + 1)]) [sD T, .int (u.length : Nat)]) := by
  obtain ⟨N, l⟩ := dig_loop (m := m) (x1 := some (.int (u.length : Nat))) (x3 := none) (x4 := none) (x5 := none) h (nT a b) u (91 :: (p.w ++ 93 :: v)) e nT_ndg (fun c hc => by cases hc; decide)
  have l2 := whE_of l
  have c1 := pct (i := u.length) (j := (u.length : Int) + (nT a b).length) (k := (nT a b).length) e h rfl rfl
  rw [List.take_left] at c1
  have c2 := pct (T := T) (u := u ++ nT a b) (v := 91 :: (p.w ++ 93 :: v)) (i := (u.length : Int) + (nT a b).length) (j := (u.length : Int) + (nT a b).length + 1) (k := 1) (by rw [e]; simp) h (by simp) rfl
  rw [show (91 :: (p.w ++ 93 :: v)).take 1 = [91] from rfl] at c2
  have c3 := pct (T := T) (u := u ++ nT a b ++ [91] ++ p.w) (v := 93 :: v) (i := (u.length : Int) + (nT a b).length + 1 + p.w.length) (j := (u.length : Int) + (nT a b).length + 1 + p.w.length + 1) (k := 1) (by rw [e]; simp) h (by simp; omega) rfl
  rw [show (93 :: v).take 1 = [93] from rfl] at c3
  have w := number_ok nu
  have s := p.d_sh
  have f := p.d_fz
  have s2 := pD_sh a b
  have f2 := pD_fz a b
  have n1 : isNon (pD a b) = false := rfl
  unfold Pat.d
  clear e l
  generalize (u.length : Int) + (nT a b).length + 1 + p.w.length = i2 at *
  generalize (u.length : Int) + (nT a b).length = i1 at *
  generalize nT a b = W at *
  unfold pD at *
  generalize p.d = X at *
  generalize u.length = k at *
  simp (config := {decide := true, implicitDefEqProofs := false, maxSteps := 1000000}) [r_fn, parOk, frzAt, outsD, List.range_succ, DL.gTup, DL.gLst, gGcd, gNeg, gDiv, gMod, gPow, DL.gSub, gAbs, gInt, gEq, gNe, gRng1, kwR, gmInsert, gmExtend, gmAppend, gmSet, ixR, DL.isNon, ixN, atI, lstD, seqD, gIsN, gNotN, m_weighed_at, f_weighed_at, l2, c1, c2, c3, w, s, f, s2, f2, ih]
end K85
namespace K85
open PySem PySem.Spec PyProof.Rows L2 DL DL.Q
theorem w_many (p : Pat) : (Pat.many p).w = p.w ++ [42] := rfl
theorem w_weigh (a b : Int) (p : Pat) : (Pat.weigh a b p).w = nT a b ++ 91 :: (p.w ++ [93]) := rfl
theorem w_thn (p q : Pat) : (Pat.thn p q).w = 40 :: (p.w ++ 32 :: (q.w ++ [41])) := rfl
theorem w_orr (p q : Pat) : (Pat.orr p q).w = 40 :: (p.w ++ 32 :: 43 :: 32 :: (q.w ++ [41])) := rfl
theorem w_head {p : Pat} (ok : p.Ok) : ∃ c t, p.w = c :: t ∧ c ≠ 43 := by
  have nh : ∀ {a b : Int}, ∃ c t, nT a b = c :: t ∧ c ≠ 43 := fun {a b} => by
    obtain ⟨c, t, e⟩ : ∃ c t, inT a = c :: t := List.exists_cons_of_ne_nil inT_ne
    have hc : c ≠ 43 := fun x => by rcases inT_mem (z := a) c (by rw [e]; simp) with h | h <;> omega
    unfold nT
    split
    · exact ⟨c, t, e, hc⟩
    · exact ⟨c, t ++ 47 :: inT b, by rw [e]; rfl, hc⟩
  induction p with
  | sg c =>
    refine ⟨c, [], rfl, fun x => ?_⟩
    subst x
    exact absurd (show 43 ∈ abc from ok) (by decide)
  | any => exact ⟨46, [], rfl, by decide⟩
  | emp => exact ⟨49, [], rfl, by decide⟩
  | non => exact ⟨48, [], rfl, by decide⟩
  | many p ih =>
    obtain ⟨c, t, e, h⟩ := ih ok
    exact ⟨c, t ++ [42], by rw [w_many, e]; rfl, h⟩
  | weigh a b p ih =>
    obtain ⟨c, t, e, h⟩ := nh (a := a) (b := b)
    exact ⟨c, t ++ 91 :: (p.w ++ [93]), by rw [w_weigh, e]; rfl, h⟩
  | thn p q _ _ => exact ⟨40, _, rfl, by decide⟩
  | orr p q _ _ => exact ⟨40, _, rfl, by decide⟩
theorem pz_thn {m : Mir} {T u v : List Nat} {p q : Pat} (e : T = u ++ (p.w ++ 32 :: (q.w ++ 41 :: v))) (h : T.length ≤ 16777216) (oq : q.Ok)
    (ih : m [sD T, .int u.length] = some (.ok (.tup [p.d, .int (u.length + p.w.length)]) [sD T, .int u.length]))
    (ih2 : m [sD T, .int (u.length + p.w.length + 1)] = some (.ok (.tup [q.d, .int (u.length + p.w.length + 1 + q.w.length)]) [sD T, .int (u.length + p.w.length + 1)])) :
    m_pair_at m [sD T, .int u.length] = some (.ok (.tup [(Pat.thn p q).d, .int (u.length + p.w.length + 1 + q.w.length + 1)]) [sD T, .int u.length]) := by
  have c1 := pct (T := T) (u := u ++ p.w) (v := 32 :: (q.w ++ 41 :: v)) (i := (u.length : Int) + p.w.length) (j := (u.length : Int) + p.w.length + 3) (k := 3) (by rw [e]; simp) h (by simp) rfl
  have c2 := pct (T := T) (u := u ++ p.w) (v := 32 :: (q.w ++ 41 :: v)) (i := (u.length : Int) + p.w.length) (j := (u.length : Int) + p.w.length + 1) (k := 1) (by rw [e]; simp) h (by simp) rfl
  rw [show (32 :: (q.w ++ 41 :: v)).take 1 = [32] from rfl] at c2
  have c3 := pct (T := T) (u := u ++ p.w ++ [32] ++ q.w) (v := 41 :: v) (i := (u.length : Int) + p.w.length + 1 + q.w.length) (j := (u.length : Int) + p.w.length + 1 + q.w.length + 1) (k := 1) (by rw [e]; simp) h (by simp; omega) rfl
  rw [show (41 :: v).take 1 = [41] from rfl] at c3
  have n3 : ((32 :: (q.w ++ 41 :: v)).take 3 = [32, 43, 32]) = False := eq_false fun x => by
    obtain ⟨c, t, ew, hc⟩ := w_head oq
    rw [ew] at x
    simp at x
    exact hc x.1
  have s := p.d_sh
  have f := p.d_fz
  have s2 := q.d_sh
  have f2 := q.d_fz
  unfold Pat.d
  clear e
  generalize (32 :: (q.w ++ 41 :: v)).take 3 = V at *
  generalize (u.length : Int) + p.w.length + 1 + q.w.length = i2 at *
  generalize (u.length : Int) + p.w.length = i1 at *
  generalize p.d = X at *
  generalize q.d = Y at *
  generalize u.length = k at *
  simp (config := {decide := true, implicitDefEqProofs := false, maxSteps := 1000000}) [r_fn, parOk, frzAt, outsD, List.range_succ, DL.gTup, DL.gLst, gGcd, gNeg, gDiv, gMod, gPow, DL.gSub, gAbs, gInt, gEq, gNe, gRng1, kwR, gmInsert, gmExtend, gmAppend, gmSet, ixR, DL.isNon, ixN, atI, lstD, seqD, gIsN, gNotN, m_pair_at, f_pair_at, c1, c2, c3, n3, s, f, s2, f2, ih, ih2]
theorem pz_orr {m : Mir} {T u v : List Nat} {p q : Pat} (e : T = u ++ (p.w ++ 32 :: 43 :: 32 :: (q.w ++ 41 :: v))) (h : T.length ≤ 16777216)
    (ih : m [sD T, .int u.length] = some (.ok (.tup [p.d, .int (u.length + p.w.length)]) [sD T, .int u.length]))
    (ih2 : m [sD T, .int (u.length + p.w.length + 3)] = some (.ok (.tup [q.d, .int (u.length + p.w.length + 3 + q.w.length)]) [sD T, .int (u.length + p.w.length + 3)])) :
    m_pair_at m [sD T, .int u.length] = some (.ok (.tup [(Pat.orr p q).d, .int (u.length + p.w.length + 3 + q.w.length + 1)]) [sD T, .int u.length]) := by
  have c1 := pct (T := T) (u := u ++ p.w) (v := 32 :: 43 :: 32 :: (q.w ++ 41 :: v)) (i := (u.length : Int) + p.w.length) (j := (u.length : Int) + p.w.length + 3) (k := 3) (by rw [e]; simp) h (by simp) rfl
  rw [show (32 :: 43 :: 32 :: (q.w ++ 41 :: v)).take 3 = [32, 43, 32] from rfl] at c1
  have c3 := pct (T := T) (u := u ++ p.w ++ [32, 43, 32] ++ q.w) (v := 41 :: v) (i := (u.length : Int) + p.w.length + 3 + q.w.length) (j := (u.length : Int) + p.w.length + 3 + q.w.length + 1) (k := 1) (by rw [e]; simp) h (by simp; omega) rfl
  rw [show (41 :: v).take 1 = [41] from rfl] at c3
  have s := p.d_sh
  have f := p.d_fz
  have s2 := q.d_sh
  have f2 := q.d_fz
  unfold Pat.d
  clear e
  generalize (u.length : Int) + p.w.length + 3 + q.w.length = i2 at *
  generalize (u.length : Int) + p.w.length = i1 at *
  generalize p.d = X at *
  generalize q.d = Y at *
  generalize u.length = k at *
  simp (config := {decide := true, implicitDefEqProofs := false, maxSteps := 1000000}) [r_fn, parOk, frzAt, outsD, List.range_succ, DL.gTup, DL.gLst, gGcd, gNeg, gDiv, gMod, gPow, DL.gSub, gAbs, gInt, gEq, gNe, gRng1, kwR, gmInsert, gmExtend, gmAppend, gmSet, ixR, DL.isNon, ixN, atI, lstD, seqD, gIsN, gNotN, m_pair_at, f_pair_at, c1, c3, s, f, s2, f2, ih, ih2]
def AtOk (n : Nat) : Prop := ∀ (p : Pat) (T u v : List Nat), p.Ok → p.dep ≤ n → T = u ++ (p.w ++ v) → T.length ≤ 16777216 → Stop v → v.head? ≠ some 42 →
  m_pattern_at n [sD T, .int (u.length : Nat)] = some (.ok (.tup [p.d, .int ((u.length : Int) + p.w.length)]) [sD T, .int (u.length : Nat)])
def Core : Pat → Prop
  | .many _ => False
  | _ => True
theorem stop_c {c : Nat} {v : List Nat} (h : c = 41 ∨ c = 93 ∨ c = 32) : Stop (c :: v) ∧ (c :: v).head? ≠ some 42 := by
  refine ⟨fun d hd => ?_, fun e => ?_⟩
  · have : c = d := by simpa using hd
    omega
  · have : c = 42 := by simpa using e
    omega
theorem part_ok {n : Nat} (ih : AtOk n) {p : Pat} {T u v : List Nat} (ok : p.Ok) (hc : Core p) (hd : p.dep ≤ n + 1) (e : T = u ++ (p.w ++ v)) (h : T.length ≤ 16777216) (hv : Stop v) :
    m_part_at (m_pattern_at n) [sD T, .int (u.length : Nat)] = some (.ok (.tup [p.d, .int ((u.length : Int) + p.w.length)]) [sD T, .int (u.length : Nat)]) := by
  cases p with
  | many p => exact hc.elim
  | sg c =>
    have c1 := pct (i := u.length) (j := (u.length : Int) + 1) (k := 1) e h rfl rfl
    rw [show ((Pat.sg c).w ++ v).take 1 = [c] from rfl] at c1
    have ca : (c ∈ abc) = True := eq_true ok
    have n1 : (c = 40) = False := eq_false fun x => absurd (x ▸ (show c ∈ abc from ok)) (by decide)
    have n2 : (c = 46) = False := eq_false fun x => absurd (x ▸ (show c ∈ abc from ok)) (by decide)
    rw [show (((Pat.sg c).w.length : Nat) : Int) = 1 from rfl]
    unfold Pat.d
    clear e
    generalize u.length = k at *
    simp (config := {decide := true, implicitDefEqProofs := false, maxSteps := 1000000}) [r_fn, parOk, frzAt, outsD, List.range_succ, DL.gTup, DL.gLst, gGcd, gNeg, gDiv, gMod, gPow, DL.gSub, gAbs, gInt, gEq, gNe, gRng1, kwR, gmInsert, gmExtend, gmAppend, gmSet, ixR, DL.isNon, ixN, atI, lstD, seqD, gIsN, gNotN, m_part_at, f_part_at, c1, ca, n1, n2]
  | any =>
    have c1 := pct (i := u.length) (j := (u.length : Int) + 1) (k := 1) e h rfl rfl
    rw [show (Pat.any.w ++ v).take 1 = [46] from rfl] at c1
    rw [show ((Pat.any.w.length : Nat) : Int) = 1 from rfl]
    unfold Pat.d
    clear e
    generalize u.length = k at *
    simp (config := {decide := true, implicitDefEqProofs := false, maxSteps := 1000000}) [r_fn, parOk, frzAt, outsD, List.range_succ, DL.gTup, DL.gLst, gGcd, gNeg, gDiv, gMod, gPow, DL.gSub, gAbs, gInt, gEq, gNe, gRng1, kwR, gmInsert, gmExtend, gmAppend, gmSet, ixR, DL.isNon, ixN, atI, lstD, seqD, gIsN, gNotN, m_part_at, f_part_at, c1]
  | non =>
    have c1 := pct (i := u.length) (j := (u.length : Int) + 1) (k := 1) e h rfl rfl
    rw [show (Pat.non.w ++ v).take 1 = [48] from rfl] at c1
    have w := wz_non (m := m_pattern_at n) (T := T) (u := u) (v := v) e h hv
    have ca : (48 ∈ abc) = False := eq_false (by decide)
    rw [show ((Pat.non.w.length : Nat) : Int) = 1 from rfl]
    have s := Pat.non.d_sh
    have f := Pat.non.d_fz
    clear e
    generalize Pat.non.d = X at *
    generalize u.length = k at *
    simp (config := {decide := true, implicitDefEqProofs := false, maxSteps := 1000000}) [r_fn, parOk, frzAt, outsD, List.range_succ, DL.gTup, DL.gLst, gGcd, gNeg, gDiv, gMod, gPow, DL.gSub, gAbs, gInt, gEq, gNe, gRng1, kwR, gmInsert, gmExtend, gmAppend, gmSet, ixR, DL.isNon, ixN, atI, lstD, seqD, gIsN, gNotN, m_part_at, f_part_at, c1, w, ca, s, f]
  | emp =>
    have c1 := pct (i := u.length) (j := (u.length : Int) + 1) (k := 1) e h rfl rfl
    rw [show (Pat.emp.w ++ v).take 1 = [49] from rfl] at c1
    have w := wz_emp (m := m_pattern_at n) (T := T) (u := u) (v := v) e h hv
    have ca : (49 ∈ abc) = False := eq_false (by decide)
    rw [show ((Pat.emp.w.length : Nat) : Int) = 1 from rfl]
    have s := Pat.emp.d_sh
    have f := Pat.emp.d_fz
    clear e
    generalize Pat.emp.d = X at *
    generalize u.length = k at *
    simp (config := {decide := true, implicitDefEqProofs := false, maxSteps := 1000000}) [r_fn, parOk, frzAt, outsD, List.range_succ, DL.gTup, DL.gLst, gGcd, gNeg, gDiv, gMod, gPow, DL.gSub, gAbs, gInt, gEq, gNe, gRng1, kwR, gmInsert, gmExtend, gmAppend, gmSet, ixR, DL.isNon, ixN, atI, lstD, seqD, gIsN, gNotN, m_part_at, f_part_at, c1, w, ca, s, f]
  | weigh a b p =>
    obtain ⟨nu, ok⟩ := ok
    have hd' : p.dep ≤ n := by unfold Pat.dep at hd; omega
    have e1 : T = u ++ (nT a b ++ 91 :: (p.w ++ 93 :: v)) := by rw [e, w_weigh]; simp
    have i1 := ih p T (u ++ nT a b ++ [91]) (93 :: v) ok hd' (by rw [e1]; simp) h (stop_c (by omega)).1 (stop_c (by omega)).2
    have lh : (((u ++ nT a b ++ [91] : List Nat).length : Nat) : Int) = (u.length : Int) + (nT a b).length + 1 := by simp; omega
    rw [lh] at i1
    clear lh
    have w := wz_weigh (m := m_pattern_at n) e1 h nu i1
    obtain ⟨c, t, ew, hc⟩ : ∃ c t, nT a b = c :: t ∧ (c = 45 ∨ (48 ≤ c ∧ c ≤ 57)) := by
      obtain ⟨c, t, e⟩ : ∃ c t, inT a = c :: t := List.exists_cons_of_ne_nil inT_ne
      have hc := inT_mem (z := a) c (by rw [e]; simp)
      unfold nT
      split
      · exact ⟨c, t, e, hc⟩
      · exact ⟨c, t ++ 47 :: inT b, by rw [e]; rfl, hc⟩
    have c1 := pct (i := u.length) (j := (u.length : Int) + 1) (k := 1) e1 h rfl rfl
    rw [ew, show (c :: t ++ 91 :: (p.w ++ 93 :: v)).take 1 = [c] from rfl] at c1
    have ca : (c ∈ abc) = False := eq_false fun x => by
      unfold abc at x
      have := List.mem_range'_1.mp x
      omega
    have n1 : (c = 40) = False := eq_false (by omega)
    have n2 : (c = 46) = False := eq_false (by omega)
    rw [show ((u.length : Int) + ((Pat.weigh a b p).w.length : Nat)) = (u.length : Int) + (nT a b).length + 1 + p.w.length + 1 by rw [w_weigh]; simp; omega]
    have s := (Pat.weigh a b p).d_sh
    have f := (Pat.weigh a b p).d_fz
    clear e e1 i1
    generalize (u.length : Int) + (nT a b).length + 1 + p.w.length + 1 = E at *
    generalize (Pat.weigh a b p).d = X at *
    generalize u.length = k at *
    simp (config := {decide := true, implicitDefEqProofs := false, maxSteps := 1000000}) [r_fn, parOk, frzAt, outsD, List.range_succ, DL.gTup, DL.gLst, gGcd, gNeg, gDiv, gMod, gPow, DL.gSub, gAbs, gInt, gEq, gNe, gRng1, kwR, gmInsert, gmExtend, gmAppend, gmSet, ixR, DL.isNon, ixN, atI, lstD, seqD, gIsN, gNotN, m_part_at, f_part_at, c1, w, ca, n1, n2, s, f]
  | thn p q =>
    have dp : p.dep ≤ n := by unfold Pat.dep at hd; omega
    have dq : q.dep ≤ n := by unfold Pat.dep at hd; omega
    have e1 : T = (u ++ [40]) ++ (p.w ++ 32 :: (q.w ++ 41 :: v)) := by rw [e, w_thn]; simp
    have i1 := ih p T (u ++ [40]) (32 :: (q.w ++ 41 :: v)) ok.1 dp e1 h (stop_c (by omega)).1 (stop_c (by omega)).2
    have i2 := ih q T (u ++ [40] ++ p.w ++ [32]) (41 :: v) ok.2 dq (by rw [e1]; simp) h (stop_c (by omega)).1 (stop_c (by omega)).2
    have lh : (((u ++ [40] ++ p.w ++ [32] : List Nat).length : Nat) : Int) = ((u ++ [40]).length : Int) + p.w.length + 1 := by simp; omega
    rw [lh] at i2
    clear lh
    have w := pz_thn (m := m_pattern_at n) e1 h ok.2 i1 i2
    have c1 := pct (i := u.length) (j := (u.length : Int) + 1) (k := 1) e h rfl rfl
    rw [show ((Pat.thn p q).w ++ v).take 1 = [40] from rfl] at c1
    rw [show ((u.length : Int) + ((Pat.thn p q).w.length : Nat)) = ((u ++ [40]).length : Int) + p.w.length + 1 + q.w.length + 1 by rw [w_thn]; simp; omega]
    have s := (Pat.thn p q).d_sh
    have f := (Pat.thn p q).d_fz
    clear e e1 i1 i2
    generalize ((u ++ [40]).length : Int) + p.w.length + 1 + q.w.length + 1 = E at *
    have lh : (((u ++ [40] : List Nat).length : Nat) : Int) = (u.length : Int) + 1 := by simp
    rw [lh] at w
    clear lh
    generalize (Pat.thn p q).d = X at *
    generalize u.length = k at *
    simp (config := {decide := true, implicitDefEqProofs := false, maxSteps := 1000000}) [r_fn, parOk, frzAt, outsD, List.range_succ, DL.gTup, DL.gLst, gGcd, gNeg, gDiv, gMod, gPow, DL.gSub, gAbs, gInt, gEq, gNe, gRng1, kwR, gmInsert, gmExtend, gmAppend, gmSet, ixR, DL.isNon, ixN, atI, lstD, seqD, gIsN, gNotN, m_part_at, f_part_at, c1, w, s, f]
  | orr p q =>
    have dp : p.dep ≤ n := by unfold Pat.dep at hd; omega
    have dq : q.dep ≤ n := by unfold Pat.dep at hd; omega
    have e1 : T = (u ++ [40]) ++ (p.w ++ 32 :: 43 :: 32 :: (q.w ++ 41 :: v)) := by rw [e, w_orr]; simp
    have i1 := ih p T (u ++ [40]) (32 :: 43 :: 32 :: (q.w ++ 41 :: v)) ok.1 dp e1 h (stop_c (by omega)).1 (stop_c (by omega)).2
    have i2 := ih q T (u ++ [40] ++ p.w ++ [32, 43, 32]) (41 :: v) ok.2 dq (by rw [e1]; simp) h (stop_c (by omega)).1 (stop_c (by omega)).2
    have lh : (((u ++ [40] ++ p.w ++ [32, 43, 32] : List Nat).length : Nat) : Int) = ((u ++ [40]).length : Int) + p.w.length + 3 := by simp; omega
    rw [lh] at i2
    clear lh
    have w := pz_orr (m := m_pattern_at n) e1 h i1 i2
    have c1 := pct (i := u.length) (j := (u.length : Int) + 1) (k := 1) e h rfl rfl
    rw [show ((Pat.orr p q).w ++ v).take 1 = [40] from rfl] at c1
    rw [show ((u.length : Int) + ((Pat.orr p q).w.length : Nat)) = ((u ++ [40]).length : Int) + p.w.length + 3 + q.w.length + 1 by rw [w_orr]; simp; omega]
    have s := (Pat.orr p q).d_sh
    have f := (Pat.orr p q).d_fz
    clear e e1 i1 i2
    generalize ((u ++ [40]).length : Int) + p.w.length + 3 + q.w.length + 1 = E at *
    have lh : (((u ++ [40] : List Nat).length : Nat) : Int) = (u.length : Int) + 1 := by simp
    rw [lh] at w
    clear lh
    generalize (Pat.orr p q).d = X at *
    generalize u.length = k at *
    simp (config := {decide := true, implicitDefEqProofs := false, maxSteps := 1000000}) [r_fn, parOk, frzAt, outsD, List.range_succ, DL.gTup, DL.gLst, gGcd, gNeg, gDiv, gMod, gPow, DL.gSub, gAbs, gInt, gEq, gNe, gRng1, kwR, gmInsert, gmExtend, gmAppend, gmSet, ixR, DL.isNon, ixN, atI, lstD, seqD, gIsN, gNotN, m_part_at, f_part_at, c1, w, s, f]
end K85
namespace K85
open PySem PySem.Spec PyProof.Rows L2 DL DL.Q
def manyk : Nat → Pat → Pat
  | 0, p => p
  | k + 1, p => manyk k (.many p)
theorem manyk_m : ∀ (k : Nat) (p : Pat), manyk k (.many p) = .many (manyk k p)
  | 0, p => rfl
  | k + 1, p => manyk_m k (.many p)
theorem cored : ∀ p : Pat, ∃ (k : Nat) (c : Pat), p = manyk k c ∧ Core c ∧ p.w = c.w ++ List.replicate k 42 ∧ (p.Ok → c.Ok) ∧ c.dep ≤ p.dep
  | .many p => by
    obtain ⟨k, c, e, hc, hw, ho, hd⟩ := cored p
    refine ⟨k + 1, c, ?_, hc, ?_, ho, ?_⟩
    · show _ = manyk k (.many c)
      rw [manyk_m, ← e]
    · rw [w_many, hw, List.append_assoc, List.replicate_succ']
    · show _ ≤ p.dep + 1
      omega
  | .sg c => ⟨0, .sg c, rfl, trivial, by simp, fun h => h, Nat.le_refl _⟩
  | .any => ⟨0, .any, rfl, trivial, by simp, fun h => h, Nat.le_refl _⟩
  | .emp => ⟨0, .emp, rfl, trivial, by simp, fun h => h, Nat.le_refl _⟩
  | .non => ⟨0, .non, rfl, trivial, by simp, fun h => h, Nat.le_refl _⟩
  | .weigh a b p => ⟨0, .weigh a b p, rfl, trivial, by simp, fun h => h, Nat.le_refl _⟩
  | .thn p q => ⟨0, .thn p q, rfl, trivial, by simp, fun h => h, Nat.le_refl _⟩
  | .orr p q => ⟨0, .orr p q, rfl, trivial, by simp, fun h => h, Nat.le_refl _⟩
theorem d_many (p : Pat) : (Pat.many p).d = .tup [sD [109, 97, 110, 121], p.d] := rfl
theorem star {m : Mir} {T : List Nat} {x1 : Option D} (h : T.length ≤ 16777216) : ∀ (k : Nat) (p : Pat) (u v : List Nat), T = u ++ (List.replicate k 42 ++ v) → v.head? ≠ some 42 →
    ∃ N, whF (evAnd (evT (ev2 gNotN (evV 2) (evC .non))) (evT (ev2 gEq (evOp (gSl true true) (evCons (evV 0) (evCons (evChk isIntD (evIx (evV 2) (evC (.int 1)))) (evCons (ev2 gAdd (evIx (evV 2) (evC (.int 1))) (evC (.int 1))) evNil)))) (evC (sD [42]))))) (L_pattern_at_0 m) N
      [some (sD T), x1, some (.tup [p.d, .int (u.length : Nat)])] = some (.nx [some (sD T), x1, some (.tup [(manyk k p).d, .int ((u.length : Int) + (k : Nat))])])
  | 0, p, u, v, e, hv => by
    refine ⟨1, ?_⟩
    have c1 := pct (i := u.length) (j := (u.length : Int) + 1) (k := 1) (v := v) (by rw [e]; simp) h rfl rfl
    have n1 : (v.take 1 = [42]) = False := eq_false fun x => hv (by
      cases v with
      | nil => cases x
      | cons c v => simpa using x)
    show _ = some (SOut.nx [some (sD T), x1, some (.tup [p.d, .int ((u.length : Int) + ((0 : Nat) : Int))])])
    rw [show (u.length : Int) + ((0 : Nat) : Int) = u.length by simp]
    have s := p.d_sh
    have f := p.d_fz
    clear e
    generalize v.take 1 = V at *
    generalize p.d = X at *
    generalize u.length = k at *
    simp (config := {decide := true, implicitDefEqProofs := false, maxSteps := 1000000}) [r_fn, parOk, frzAt, outsD, List.range_succ, DL.gTup, DL.gLst, gGcd, gNeg, gDiv, gMod, gPow, DL.gSub, gAbs, gInt, gEq, gNe, gRng1, kwR, gmInsert, gmExtend, gmAppend, gmSet, ixR, DL.isNon, ixN, atI, lstD, seqD, gIsN, gNotN, whF_1, c1, n1, s, f]
  | k + 1, p, u, v, e, hv => by
    obtain ⟨N, e2⟩ := star (m := m) (x1 := x1) h k (.many p) (u ++ [42]) v (by rw [e, List.replicate_succ]; simp) hv
    refine ⟨N + 1, ?_⟩
    have c1 := pct (i := u.length) (j := (u.length : Int) + 1) (k := 1) e h rfl rfl
    have c4 : List.take 1 (List.replicate (k + 1) 42 ++ v) = [42] := by rw [List.replicate_succ]; rfl
    rw [c4] at c1
    have lh : (((u ++ [42] : List Nat).length : Nat) : Int) = (u.length : Int) + 1 := by simp
    rw [lh, d_many] at e2
    rw [show (u.length : Int) + ((k + 1 : Nat) : Int) = (u.length : Int) + 1 + (k : Nat) by omega]
    show _ = some (SOut.nx [some (sD T), x1, some (.tup [(manyk k (.many p)).d, .int ((u.length : Int) + 1 + (k : Nat))])])
    have s := p.d_sh
    have f := p.d_fz
    clear e lh
    generalize (manyk k (.many p)).d = Y at *
    generalize p.d = X at *
    generalize (u.length : Int) + 1 + (k : Nat) = E at *
    generalize u.length = l at *
    simp (config := {decide := true, implicitDefEqProofs := false, maxSteps := 1000000}) [r_fn, parOk, frzAt, outsD, List.range_succ, DL.gTup, DL.gLst, gGcd, gNeg, gDiv, gMod, gPow, DL.gSub, gAbs, gInt, gEq, gNe, gRng1, kwR, gmInsert, gmExtend, gmAppend, gmSet, ixR, DL.isNon, ixN, atI, lstD, seqD, gIsN, gNotN, whF_1, a_L_pattern_at_0, c1, s, f, e2]
theorem at_ok : ∀ n, AtOk n
  | 0 => fun p T u v ok hd => by have := p.dep_pos; omega
  | n + 1 => fun p T u v ok hd e h hv hs => by
    show fnD N_pattern_at.length P_pattern_at.length [] (f_pattern_at (m_pattern_at n)) _ = _
    obtain ⟨k, c, ep, hc, hw, ho, hcd⟩ := cored p
    have sv : Stop (List.replicate k 42 ++ v) := by
      cases k with
      | zero => exact hv
      | succ k => intro d hd; rw [List.replicate_succ] at hd; have : 42 = d := by simpa using hd
                  omega
    have e1 : T = u ++ (c.w ++ (List.replicate k 42 ++ v)) := by rw [e, hw]; simp
    have w := part_ok (at_ok n) (ho ok) hc (by omega) e1 h sv
    obtain ⟨N, l⟩ := star (m := m_pattern_at n) (x1 := some (.int (u.length : Nat))) h k c (u ++ c.w) v (by rw [e1]; simp) hs
    rw [← ep] at l
    have lh : (((u ++ c.w : List Nat).length : Nat) : Int) = (u.length : Int) + c.w.length := by simp
    rw [lh] at l
    have l2 := whE_of l
    rw [show ((u.length : Int) + (p.w.length : Nat)) = (u.length : Int) + c.w.length + (k : Nat) by rw [hw]; simp; omega]
    have s := p.d_sh
    have f := p.d_fz
    have s2 := c.d_sh
    have f2 := c.d_fz
    clear e e1 l lh hw ep
    generalize (u.length : Int) + c.w.length + (k : Nat) = E2 at *
    generalize (u.length : Int) + c.w.length = E at *
    generalize p.d = X at *
    generalize c.d = Y at *
    generalize u.length = l at *
    simp (config := {decide := true, implicitDefEqProofs := false, maxSteps := 1000000}) [r_fn, parOk, frzAt, outsD, List.range_succ, DL.gTup, DL.gLst, gGcd, gNeg, gDiv, gMod, gPow, DL.gSub, gAbs, gInt, gEq, gNe, gRng1, kwR, gmInsert, gmExtend, gmAppend, gmSet, ixR, DL.isNon, ixN, atI, lstD, seqD, gIsN, gNotN, f_pattern_at, w, l2, s, f, s2, f2]
theorem read_ok {p : Pat} (ok : p.Ok) (hd : p.dep ≤ 22) (h : p.w.length ≤ 16777216) : m_read_pattern [sD p.w] = some (.ok p.d [sD p.w]) := by
  have w := at_ok 22 p p.w [] [] ok hd (by simp) h (fun c hc => by cases hc) (by simp)
  rw [show ((([] : List Nat).length : Nat) : Int) = 0 from rfl, Int.zero_add] at w
  have s := p.d_sh
  have f := p.d_fz
  generalize p.d = X at *
  generalize p.w = T at *
  simp (config := {decide := true, implicitDefEqProofs := false, maxSteps := 1000000}) [r_fn, parOk, frzAt, outsD, List.range_succ, DL.gTup, DL.gLst, gGcd, gNeg, gDiv, gMod, gPow, DL.gSub, gAbs, gInt, gEq, gNe, gRng1, kwR, gmInsert, gmExtend, gmAppend, gmSet, ixR, DL.isNon, ixN, atI, lstD, seqD, gIsN, gNotN, m_read_pattern, f_read_pattern, w, s, f, h]
end K85
namespace K85
open PySem PySem.Spec PyProof.Rows L2 DL DL.Q
theorem leaf_ok {q : Wq} {k : Nat} (h : WqOk q k) (hk : k + 2 ≤ 1000000) : ∃ (q' : Wq) (p : Pat), m__law_leaf [wq q] = some (.ok p.d [wq q']) ∧ p.Ok ∧ p.dep = 1 ∧ p.w.length = 1 ∧ WqOk q' (k + 2) := by
  obtain ⟨q1, m, e1, hm, w1⟩ := dip_ok h (l := 6) (by omega) (by omega)
  by_cases h3 : m < 3
  · have c : m = 0 ∨ m = 1 ∨ m = 2 := by omega
    rcases c with rfl | rfl | rfl
    · exact ⟨q1, .any, by unfold Pat.d; simp (config := {decide := true, implicitDefEqProofs := false, maxSteps := 1000000}) [r_fn, parOk, frzAt, outsD, List.range_succ, DL.gTup, DL.gLst, gGcd, gNeg, gDiv, gMod, gPow, DL.gSub, gAbs, gInt, gEq, gNe, gRng1, kwR, gmInsert, gmExtend, gmAppend, gmSet, ixR, DL.isNon, ixN, atI, lstD, seqD, gIsN, gNotN, m__law_leaf, f__law_leaf, e1], trivial, rfl, rfl, w1.mono (by omega)⟩
    · exact ⟨q1, .emp, by unfold Pat.d; simp (config := {decide := true, implicitDefEqProofs := false, maxSteps := 1000000}) [r_fn, parOk, frzAt, outsD, List.range_succ, DL.gTup, DL.gLst, gGcd, gNeg, gDiv, gMod, gPow, DL.gSub, gAbs, gInt, gEq, gNe, gRng1, kwR, gmInsert, gmExtend, gmAppend, gmSet, ixR, DL.isNon, ixN, atI, lstD, seqD, gIsN, gNotN, m__law_leaf, f__law_leaf, e1], trivial, rfl, rfl, w1.mono (by omega)⟩
    · exact ⟨q1, .non, by unfold Pat.d; simp (config := {decide := true, implicitDefEqProofs := false, maxSteps := 1000000}) [r_fn, parOk, frzAt, outsD, List.range_succ, DL.gTup, DL.gLst, gGcd, gNeg, gDiv, gMod, gPow, DL.gSub, gAbs, gInt, gEq, gNe, gRng1, kwR, gmInsert, gmExtend, gmAppend, gmSet, ixR, DL.isNon, ixN, atI, lstD, seqD, gIsN, gNotN, m__law_leaf, f__law_leaf, e1], trivial, rfl, rfl, w1.mono (by omega)⟩
  · obtain ⟨q2, r, e2, hr, w2⟩ := dip_ok w1 (l := 26) (by omega) (by omega)
    obtain ⟨c, hc, e3⟩ := ix_s (z := abc) (i := (r : Int)) (by omega) (by simpa [abc] using hr) (by decide)
    have ix : ∀ a ρ, ixR a (sD abc) (.int (r : Int)) ρ = some (.ok (.val (sD [c])) ρ) := fun a ρ => by
      unfold ixR
      rw [e3]
    have c1 : ((m : Int) < 3) = False := eq_false (by omega)
    have c2 : (m < 3) = False := eq_false h3
    refine ⟨q2, .sg c, ?_, hc, rfl, rfl, w2⟩
    unfold Pat.d
    simp (config := {decide := true, implicitDefEqProofs := false, maxSteps := 1000000}) [r_fn, parOk, frzAt, outsD, List.range_succ, DL.gTup, DL.gLst, gGcd, gNeg, gDiv, gMod, gPow, DL.gSub, gAbs, gInt, gEq, gNe, gRng1, kwR, gmInsert, gmExtend, gmAppend, gmSet, DL.isNon, ixN, atI, lstD, seqD, gIsN, gNotN, m__law_leaf, f__law_leaf, e1, e2, ix, c1, c2]
def TrOk (d k : Nat) (p : Pat) (q' : Wq) : Prop := p.Ok ∧ p.dep ≤ d ∧ p.w.length + 25 ≤ 30 * 2 ^ d ∧ WqOk q' (k + (8 * 2 ^ d - 8))
theorem tree_ok : ∀ (n d : Nat) (D : Int) (q : Wq) (k : Nat) (r : Int), 1 ≤ d → d ≤ n → D = d → WqOk q k → k + 8 * 2 ^ d ≤ 1000000 →
    ∃ (q' : Wq) (r' : Int) (p : Pat), m__law_tree n [wq q, .ol [.int r], .int D] = some (.ok p.d [wq q', .ol [.int r'], .int D]) ∧ TrOk d k p q'
  | 0, d, D, q, k, r, h1, h2, hD, h, hk => by omega
  | n + 1, d, D, q, k, r, h1, h2, hD, h, hk => by
    show ∃ (q' : Wq) (r' : Int) (p : Pat), fnD N__law_tree.length P__law_tree.length [0, 1] (f__law_tree (m__law_tree n)) _ = _ ∧ _
    obtain ⟨d', rfl⟩ : ∃ e, d = e + 1 := ⟨d - 1, by omega⟩
    have p2 : 2 ^ (d' + 1) = 2 * 2 ^ d' := by rw [Nat.pow_succ, Nat.mul_comm]
    have p1 : 1 ≤ 2 ^ d' := Nat.one_le_two_pow
    obtain ⟨q1, m, e1, hm, w1⟩ := dip_ok h (l := 9) (by omega) (by omega)
    obtain ⟨R, hR⟩ : ∃ R, r - 1 = R := ⟨_, rfl⟩
    have leaf : ∃ (q' : Wq) (p : Pat), m__law_leaf [wq q1] = some (.ok p.d [wq q']) ∧ TrOk (d' + 1) k p q' := by
      obtain ⟨q2, p, e2, ok, dp, lw, w2⟩ := leaf_ok w1 (by omega)
      exact ⟨q2, p, e2, ok, by omega, by omega, w2.mono (by omega)⟩
    obtain ⟨q2, pl, e2, tl⟩ := leaf
    have sl := pl.d_sh
    have fl := pl.d_fz
    by_cases hd : d' = 0
    · have c1 : (1 < D) = False := eq_false (by omega)
      have c2 : (D ≤ 1) = True := eq_true (by omega)
      refine ⟨q2, R, pl, ?_, tl⟩
      generalize pl.d = X at *
      simp (config := {decide := true, implicitDefEqProofs := false, maxSteps := 1000000}) [r_fn, parOk, frzAt, outsD, List.range_succ, DL.gTup, DL.gLst, gGcd, gNeg, gDiv, gMod, gPow, DL.gSub, gAbs, gInt, gEq, gNe, gRng1, kwR, gmInsert, gmExtend, gmAppend, gmSet, ixR, DL.isNon, ixN, atI, lstD, seqD, gIsN, gNotN, f__law_tree, e1, e2, hR, c1, c2, sl, fl]
    · have c1 : (1 < D) = True := eq_true (by omega)
      have c1' : (D ≤ 1) = False := eq_false (by omega)
      by_cases hA : 2 ≤ R ∧ m < 5
      · obtain ⟨a1, a2⟩ := hA
        have b1 : (2 ≤ R) = True := eq_true a1
        have b2 : ((m : Int) < 5) = True := eq_true (by omega)
        have b3 : (m < 5) = True := eq_true a2
        obtain ⟨q3, r3, p, e3, t3⟩ := tree_ok n d' (D - 1) q1 (k + 1) (R - 1) (by omega) (by omega) (by omega) w1 (by omega)
        obtain ⟨ok3, dp3, l3, w3⟩ := t3
        obtain ⟨q4, r4, p', e4, t4⟩ := tree_ok n d' (D - 1) q3 _ (r3 + 1) (by omega) (by omega) (by omega) w3 (by omega)
        obtain ⟨ok4, dp4, l4, w4⟩ := t4
        have s := p.d_sh
        have f := p.d_fz
        have s2 := p'.d_sh
        have f2 := p'.d_fz
        by_cases ev : m % 2 = 0
        · have m2 : (m : Int).fmod 2 = 0 := by rw [Int.fmod_eq_emod_of_nonneg _ (by omega)]; omega
          have m3 : (m : Int) % 2 = 0 := by omega
          refine ⟨q4, r4, .thn p p', ?_, ⟨ok3, ok4⟩, by show max _ _ + 1 ≤ _; omega, by rw [w_thn]; simp only [List.length_cons, List.length_append, List.length_nil]; omega, w4.mono (by omega)⟩
          rw [show (Pat.thn p p').d = .tup [sD [116, 104, 101, 110], p.d, p'.d] from rfl]
          generalize p.d = X at *
          generalize p'.d = Y at *
          simp (config := {decide := true, implicitDefEqProofs := false, maxSteps := 1000000}) [r_fn, parOk, frzAt, outsD, List.range_succ, DL.gTup, DL.gLst, gGcd, gNeg, gDiv, gMod, gPow, DL.gSub, gAbs, gInt, gEq, gNe, gRng1, kwR, gmInsert, gmExtend, gmAppend, gmSet, ixR, DL.isNon, ixN, atI, lstD, seqD, gIsN, gNotN, f__law_tree, e1, e3, e4, hR, c1, c1', b1, b2, b3, m2, m3, s, f, s2, f2]
        · have m2 : (m : Int).fmod 2 = 1 := by rw [Int.fmod_eq_emod_of_nonneg _ (by omega)]; omega
          have m3 : (m : Int) % 2 = 1 := by omega
          refine ⟨q4, r4, .orr p p', ?_, ⟨ok3, ok4⟩, by show max _ _ + 1 ≤ _; omega, by rw [w_orr]; simp only [List.length_cons, List.length_append, List.length_nil]; omega, w4.mono (by omega)⟩
          rw [show (Pat.orr p p').d = .tup [sD [111, 114], p.d, p'.d] from rfl]
          generalize p.d = X at *
          generalize p'.d = Y at *
          simp (config := {decide := true, implicitDefEqProofs := false, maxSteps := 1000000}) [r_fn, parOk, frzAt, outsD, List.range_succ, DL.gTup, DL.gLst, gGcd, gNeg, gDiv, gMod, gPow, DL.gSub, gAbs, gInt, gEq, gNe, gRng1, kwR, gmInsert, gmExtend, gmAppend, gmSet, ixR, DL.isNon, ixN, atI, lstD, seqD, gIsN, gNotN, f__law_tree, e1, e3, e4, hR, c1, c1', b1, b2, b3, m2, m3, s, f, s2, f2]
      · have nA : (2 ≤ R) = False ∨ ((2 ≤ R) = True ∧ ((m : Int) < 5) = False ∧ (m < 5) = False) := by
          by_cases x : 2 ≤ R
          · exact .inr ⟨eq_true x, eq_false fun y => hA ⟨x, by omega⟩, eq_false fun y => hA ⟨x, y⟩⟩
          · exact .inl (eq_false x)
        by_cases hB : 1 ≤ R ∧ m < 7
        · obtain ⟨a1, a2⟩ := hB
          have b1 : (1 ≤ R) = True := eq_true a1
          have b2 : ((m : Int) < 7) = True := eq_true (by omega)
          have b3 : (m < 7) = True := eq_true a2
          obtain ⟨q3, r3, p, e3, t3⟩ := tree_ok n d' (D - 1) q1 (k + 1) R (by omega) (by omega) (by omega) w1 (by omega)
          obtain ⟨ok3, dp3, l3, w3⟩ := t3
          have s := p.d_sh
          have f := p.d_fz
          refine ⟨q3, r3, .many p, ?_, ok3, by show _ + 1 ≤ _; omega, by rw [w_many]; simp only [List.length_cons, List.length_append, List.length_nil]; omega, w3.mono (by omega)⟩
          rw [d_many]
          generalize p.d = X at *
          rcases nA with nA | ⟨nA, nB, nC⟩
          · simp (config := {decide := true, implicitDefEqProofs := false, maxSteps := 1000000}) [r_fn, parOk, frzAt, outsD, List.range_succ, DL.gTup, DL.gLst, gGcd, gNeg, gDiv, gMod, gPow, DL.gSub, gAbs, gInt, gEq, gNe, gRng1, kwR, gmInsert, gmExtend, gmAppend, gmSet, ixR, DL.isNon, ixN, atI, lstD, seqD, gIsN, gNotN, f__law_tree, e1, e3, hR, c1, c1', b1, b2, b3, nA, s, f]
          · simp (config := {decide := true, implicitDefEqProofs := false, maxSteps := 1000000}) [r_fn, parOk, frzAt, outsD, List.range_succ, DL.gTup, DL.gLst, gGcd, gNeg, gDiv, gMod, gPow, DL.gSub, gAbs, gInt, gEq, gNe, gRng1, kwR, gmInsert, gmExtend, gmAppend, gmSet, ixR, DL.isNon, ixN, atI, lstD, seqD, gIsN, gNotN, f__law_tree, e1, e3, hR, c1, c1', b1, b2, b3, nA, nB, nC, s, f]
        · have nB : (1 ≤ R) = False ∨ ((1 ≤ R) = True ∧ ((m : Int) < 7) = False ∧ (m < 7) = False) := by
            by_cases x : 1 ≤ R
            · exact .inr ⟨eq_true x, eq_false fun y => hB ⟨x, by omega⟩, eq_false fun y => hB ⟨x, y⟩⟩
            · exact .inl (eq_false x)
          by_cases hC : 2 ≤ R ∧ m = 7
          · obtain ⟨a1, rfl⟩ := hC
            have b1 : (2 ≤ R) = True := eq_true a1
            have b2 : (1 ≤ R) = True := eq_true (by omega)
            obtain ⟨q3, a, b, e3, nu, w3⟩ := pair_ok w1 (by omega)
            obtain ⟨q4, r4, p, e4, t4⟩ := tree_ok n d' (D - 1) q3 _ (R - 1) (by omega) (by omega) (by omega) w3 (by omega)
            obtain ⟨ok4, dp4, l4, w4⟩ := t4
            have nl := nT_len nu
            have s := p.d_sh
            have f := p.d_fz
            have s2 := pD_sh a b
            have f2 := pD_fz a b
            refine ⟨q4, r4, .weigh a b p, ?_, ⟨nu, ok4⟩, by show _ + 1 ≤ _; omega, by rw [w_weigh]; simp only [List.length_cons, List.length_append, List.length_nil]; omega, w4.mono (by omega)⟩
            rw [show (Pat.weigh a b p).d = .tup [sD [119, 101, 105, 103, 104], pD a b, p.d] from rfl]
            generalize p.d = X at *
            generalize pD a b = Y at *
            simp (config := {decide := true, implicitDefEqProofs := false, maxSteps := 1000000}) [r_fn, parOk, frzAt, outsD, List.range_succ, DL.gTup, DL.gLst, gGcd, gNeg, gDiv, gMod, gPow, DL.gSub, gAbs, gInt, gEq, gNe, gRng1, kwR, gmInsert, gmExtend, gmAppend, gmSet, ixR, DL.isNon, ixN, atI, lstD, seqD, gIsN, gNotN, f__law_tree, e1, e3, e4, hR, c1, c1', b1, b2, s, f, s2, f2]
          · have nC : (2 ≤ R) = False ∨ ((2 ≤ R) = True ∧ ((m : Int) = 7) = False ∧ (m = 7) = False) := by
              by_cases x : 2 ≤ R
              · exact .inr ⟨eq_true x, eq_false fun y => hC ⟨x, by omega⟩, eq_false fun y => hC ⟨x, y⟩⟩
              · exact .inl (eq_false x)
            refine ⟨q2, R, pl, ?_, tl⟩
            generalize pl.d = X at *
            rcases nA with nA | ⟨nA, nA2, nA3⟩ <;> rcases nB with nB | ⟨nB, nB2, nB3⟩ <;> rcases nC with nC | ⟨nC, nC2, nC3⟩
            · simp (config := {decide := true, implicitDefEqProofs := false, maxSteps := 1000000}) [r_fn, parOk, frzAt, outsD, List.range_succ, DL.gTup, DL.gLst, gGcd, gNeg, gDiv, gMod, gPow, DL.gSub, gAbs, gInt, gEq, gNe, gRng1, kwR, gmInsert, gmExtend, gmAppend, gmSet, ixR, DL.isNon, ixN, atI, lstD, seqD, gIsN, gNotN, f__law_tree, e1, e2, hR, c1, c1', sl, fl, nA, nB]
            · exact absurd (nA.symm.trans nC) (by simp)
            · simp (config := {decide := true, implicitDefEqProofs := false, maxSteps := 1000000}) [r_fn, parOk, frzAt, outsD, List.range_succ, DL.gTup, DL.gLst, gGcd, gNeg, gDiv, gMod, gPow, DL.gSub, gAbs, gInt, gEq, gNe, gRng1, kwR, gmInsert, gmExtend, gmAppend, gmSet, ixR, DL.isNon, ixN, atI, lstD, seqD, gIsN, gNotN, f__law_tree, e1, e2, hR, c1, c1', sl, fl, nA, nB, nB2, nB3]
            · exact absurd (nA.symm.trans nC) (by simp)
            · exact absurd (nA.symm.trans nC) (by simp)
            · exfalso; have := of_eq_true nA; have := of_eq_false nB; omega
            · exact absurd (nA.symm.trans nC) (by simp)
            · simp (config := {decide := true, implicitDefEqProofs := false, maxSteps := 1000000}) [r_fn, parOk, frzAt, outsD, List.range_succ, DL.gTup, DL.gLst, gGcd, gNeg, gDiv, gMod, gPow, DL.gSub, gAbs, gInt, gEq, gNe, gRng1, kwR, gmInsert, gmExtend, gmAppend, gmSet, ixR, DL.isNon, ixN, atI, lstD, seqD, gIsN, gNotN, f__law_tree, e1, e2, hR, c1, c1', sl, fl, nA, nA2, nA3, nB, nB2, nB3, nC2, nC3]
end K85
namespace K85
open PySem PySem.Spec PyProof.Rows L2 DL DL.Q
theorem chain_loop : ∀ (n i : Nat) (q : Wq) (k : Nat) (p : Pat) (x2 x3 : Option D), WqOk q k → k + 8 * n ≤ 900000 → p.Ok →
    ∃ (q' : Wq) (p' : Pat) (y2 y3 : Option D), forE (tgN [0] 2) L__law_chain_0 ((List.range' i n).map fun i => .int (i : Nat)) [some (wq q), some p.d, x2, x3] = some (.nx [some (wq q'), some p'.d, y2, y3]) ∧
      WqOk q' (k + 8 * n) ∧ p'.Ok ∧ p'.dep ≤ p.dep + n ∧ p'.w.length ≤ p.w.length + 30 * n
  | 0, i, q, k, p, x2, x3, h, hk, ok => ⟨q, p, x2, x3, rfl, h, ok, Nat.le_refl _, Nat.le_refl _⟩
  | n + 1, i, q, k, p, x2, x3, h, hk, ok => by
    have go : ∃ (q1 : Wq) (p1 : Pat) (m : D), (∀ R, forE (tgN [0] 2) L__law_chain_0 (.int (i : Nat) :: R) [some (wq q), some p.d, x2, x3] = forE (tgN [0] 2) L__law_chain_0 R [some (wq q1), some p1.d, some (.int (i : Nat)), some m]) ∧ WqOk q1 (k + 8) ∧ p1.Ok ∧ p1.dep ≤ p.dep + 1 ∧ p1.w.length ≤ p.w.length + 30 := by
      obtain ⟨q1, m, e1, hm, w1⟩ := dip_ok h (l := 7) (by omega) (by omega)
      have s := p.d_sh
      have f := p.d_fz
      have dp := p.dep_pos
      have c : m = 0 ∨ m = 1 ∨ m = 2 ∨ m = 3 ∨ m = 4 ∨ m = 5 ∨ m = 6 := by omega
      rcases c with rfl | rfl | rfl | c
      · refine ⟨q1, .many p, .int 0, fun R => ?_, w1.mono (by omega), ok, Nat.le_refl _, by rw [w_many]; simp⟩
        rw [d_many]
        generalize p.d = X at *
        simp (config := {decide := true, implicitDefEqProofs := false, maxSteps := 1000000}) [r_fn, parOk, frzAt, outsD, List.range_succ, DL.gTup, DL.gLst, gGcd, gNeg, gDiv, gMod, gPow, DL.gSub, gAbs, gInt, gEq, gNe, gRng1, kwR, gmInsert, gmExtend, gmAppend, gmSet, ixR, DL.isNon, ixN, atI, lstD, seqD, gIsN, gNotN, forE_1, a_L__law_chain_0, e1, s, f]
      · refine ⟨q1, .many p, .int 1, fun R => ?_, w1.mono (by omega), ok, Nat.le_refl _, by rw [w_many]; simp⟩
        rw [d_many]
        generalize p.d = X at *
        simp (config := {decide := true, implicitDefEqProofs := false, maxSteps := 1000000}) [r_fn, parOk, frzAt, outsD, List.range_succ, DL.gTup, DL.gLst, gGcd, gNeg, gDiv, gMod, gPow, DL.gSub, gAbs, gInt, gEq, gNe, gRng1, kwR, gmInsert, gmExtend, gmAppend, gmSet, ixR, DL.isNon, ixN, atI, lstD, seqD, gIsN, gNotN, forE_1, a_L__law_chain_0, e1, s, f]
      · obtain ⟨q3, a, b, e3, nu, w3⟩ := pair_ok w1 (by omega)
        have nl := nT_len nu
        have s2 := pD_sh a b
        have f2 := pD_fz a b
        refine ⟨q3, .weigh a b p, .int 2, fun R => ?_, w3.mono (by omega), ⟨nu, ok⟩, Nat.le_refl _, by rw [w_weigh]; simp only [List.length_cons, List.length_append, List.length_nil]; omega⟩
        rw [show (Pat.weigh a b p).d = .tup [sD [119, 101, 105, 103, 104], pD a b, p.d] from rfl]
        generalize p.d = X at *
        generalize pD a b = Y at *
        simp (config := {decide := true, implicitDefEqProofs := false, maxSteps := 1000000}) [r_fn, parOk, frzAt, outsD, List.range_succ, DL.gTup, DL.gLst, gGcd, gNeg, gDiv, gMod, gPow, DL.gSub, gAbs, gInt, gEq, gNe, gRng1, kwR, gmInsert, gmExtend, gmAppend, gmSet, ixR, DL.isNon, ixN, atI, lstD, seqD, gIsN, gNotN, forE_1, a_L__law_chain_0, e1, e3, s, f, s2, f2]
      · obtain ⟨q3, l, e3, okl, dl, wl, w3⟩ := leaf_ok w1 (by omega)
        have s2 := l.d_sh
        have f2 := l.d_fz
        rcases c with rfl | rfl | rfl | rfl
        · refine ⟨q3, .thn p l, .int 3, fun R => ?_, w3.mono (by omega), ⟨ok, okl⟩, by show max _ _ + 1 ≤ _; omega, by rw [w_thn]; simp only [List.length_cons, List.length_append, List.length_nil]; omega⟩
          rw [show (Pat.thn p l).d = .tup [sD [116, 104, 101, 110], p.d, l.d] from rfl]
          generalize p.d = X at *
          generalize l.d = Y at *
          simp (config := {decide := true, implicitDefEqProofs := false, maxSteps := 1000000}) [r_fn, parOk, frzAt, outsD, List.range_succ, DL.gTup, DL.gLst, gGcd, gNeg, gDiv, gMod, gPow, DL.gSub, gAbs, gInt, gEq, gNe, gRng1, kwR, gmInsert, gmExtend, gmAppend, gmSet, ixR, DL.isNon, ixN, atI, lstD, seqD, gIsN, gNotN, forE_1, a_L__law_chain_0, e1, e3, s, f, s2, f2, gInT, inV]
        · refine ⟨q3, .orr p l, .int 4, fun R => ?_, w3.mono (by omega), ⟨ok, okl⟩, by show max _ _ + 1 ≤ _; omega, by rw [w_orr]; simp only [List.length_cons, List.length_append, List.length_nil]; omega⟩
          rw [show (Pat.orr p l).d = .tup [sD [111, 114], p.d, l.d] from rfl]
          generalize p.d = X at *
          generalize l.d = Y at *
          simp (config := {decide := true, implicitDefEqProofs := false, maxSteps := 1000000}) [r_fn, parOk, frzAt, outsD, List.range_succ, DL.gTup, DL.gLst, gGcd, gNeg, gDiv, gMod, gPow, DL.gSub, gAbs, gInt, gEq, gNe, gRng1, kwR, gmInsert, gmExtend, gmAppend, gmSet, ixR, DL.isNon, ixN, atI, lstD, seqD, gIsN, gNotN, forE_1, a_L__law_chain_0, e1, e3, s, f, s2, f2, gInT, inV]
        · refine ⟨q3, .thn l p, .int 5, fun R => ?_, w3.mono (by omega), ⟨okl, ok⟩, by show max _ _ + 1 ≤ _; omega, by rw [w_thn]; simp only [List.length_cons, List.length_append, List.length_nil]; omega⟩
          rw [show (Pat.thn l p).d = .tup [sD [116, 104, 101, 110], l.d, p.d] from rfl]
          generalize p.d = X at *
          generalize l.d = Y at *
          simp (config := {decide := true, implicitDefEqProofs := false, maxSteps := 1000000}) [r_fn, parOk, frzAt, outsD, List.range_succ, DL.gTup, DL.gLst, gGcd, gNeg, gDiv, gMod, gPow, DL.gSub, gAbs, gInt, gEq, gNe, gRng1, kwR, gmInsert, gmExtend, gmAppend, gmSet, ixR, DL.isNon, ixN, atI, lstD, seqD, gIsN, gNotN, forE_1, a_L__law_chain_0, e1, e3, s, f, s2, f2, gInT, inV]
        · refine ⟨q3, .orr l p, .int 6, fun R => ?_, w3.mono (by omega), ⟨okl, ok⟩, by show max _ _ + 1 ≤ _; omega, by rw [w_orr]; simp only [List.length_cons, List.length_append, List.length_nil]; omega⟩
          rw [show (Pat.orr l p).d = .tup [sD [111, 114], l.d, p.d] from rfl]
          generalize p.d = X at *
          generalize l.d = Y at *
          simp (config := {decide := true, implicitDefEqProofs := false, maxSteps := 1000000}) [r_fn, parOk, frzAt, outsD, List.range_succ, DL.gTup, DL.gLst, gGcd, gNeg, gDiv, gMod, gPow, DL.gSub, gAbs, gInt, gEq, gNe, gRng1, kwR, gmInsert, gmExtend, gmAppend, gmSet, ixR, DL.isNon, ixN, atI, lstD, seqD, gIsN, gNotN, forE_1, a_L__law_chain_0, e1, e3, s, f, s2, f2, gInT, inV]
    obtain ⟨q1, p1, m, e1, w1, ok1, dp1, lw1⟩ := go
    obtain ⟨q2, p2, y2, y3, e2, w2, ok2, dp2, lw2⟩ := chain_loop n (i + 1) q1 (k + 8) p1 (some (.int (i : Nat))) (some m) w1 (by omega) ok1
    refine ⟨q2, p2, y2, y3, ?_, w2.mono (by omega), ok2, by omega, by omega⟩
    rw [List.range'_succ, List.map_cons, e1, e2]
theorem rng_i (k : Nat) (hk : k ≤ 1000000) : gRng1 [.int (k : Int)] = some ((List.range k).map fun i => .int (i : Nat)) := by
  unfold gRng1
  dsimp only
  rw [if_pos (by omega), Int.toNat_natCast]
  unfold dInts
  refine congrArg some (List.map_congr_left fun i _ => ?_)
  rw [Int.zero_add]
theorem chain_ok {q : Wq} {k : Nat} (h : WqOk q k) (hk : k + 200 ≤ 900000) : ∃ (q' : Wq) (p : Pat), m__law_chain [wq q] = some (.ok p.d [wq q']) ∧ p.Ok ∧ p.dep ≤ 20 ∧ p.w.length ≤ 1000 ∧ WqOk q' (k + 200) := by
  obtain ⟨q1, l, e1, okl, dl, wl, w1⟩ := leaf_ok h (by omega)
  obtain ⟨q2, r, e2, hr, w2⟩ := dip_ok w1 (l := 20) (by omega) (by omega)
  have rg := rng_i r (by omega)
  obtain ⟨q3, p, y2, y3, e3, w3, ok3, dp3, lw3⟩ := chain_loop r 0 q2 _ l none none w2 (by omega) okl
  rw [← List.range_eq_range'] at e3
  generalize (List.range r).map (fun i => D.int (i : Nat)) = R at *
  refine ⟨q3, p, ?_, ok3, by omega, by omega, w3.mono (by omega)⟩
  have s := p.d_sh
  have f := p.d_fz
  have s2 := l.d_sh
  have f2 := l.d_fz
  generalize p.d = X at *
  generalize l.d = Y at *
  simp (config := {decide := true, implicitDefEqProofs := false, maxSteps := 1000000}) [r_fn, parOk, frzAt, outsD, List.range_succ, DL.gTup, DL.gLst, gGcd, gNeg, gDiv, gMod, gPow, DL.gSub, gAbs, gInt, gEq, gNe, kwR, gmInsert, gmExtend, gmAppend, gmSet, ixR, DL.isNon, ixN, atI, lstD, seqD, gIsN, gNotN, m__law_chain, f__law_chain, e1, e2, e3, rg, s, f, s2, f2]
theorem nums_ok {q : Wq} {k : Nat} (h : WqOk q k) (hk : k + 6 ≤ 1000000) : ∃ (q' : Wq), m__law_numbers_right [wq q] = some (.ok (.bl true) [wq q']) ∧ WqOk q' (k + 6) := by
  obtain ⟨q1, a, b, e1, nu, w1⟩ := pair_ok h hk
  refine ⟨q1, ?_, w1⟩
  have e2 := said_ok nu
  have e3 := show_ok nu
  have e4 := readn_ok nu
  have e5 : m__law_same 23 [sD (nT a b), sD (nT a b)] = some (.ok (.bl true) [sD (nT a b), sD (nT a b)]) := same_str 22 (nT a b)
  have e6 : m__law_same 23 [pD a b, pD a b] = some (.ok (.bl true) [pD a b, pD a b]) := same_pair 21 a b
  have s := pD_sh a b
  have f := pD_fz a b
  generalize pD a b = X at *
  generalize nT a b = T at *
  simp (config := {decide := true, implicitDefEqProofs := false, maxSteps := 1000000}) [r_fn, parOk, frzAt, outsD, List.range_succ, DL.gTup, DL.gLst, gGcd, gNeg, gDiv, gMod, gPow, DL.gSub, gAbs, gInt, gEq, gNe, gRng1, kwR, gmInsert, gmExtend, gmAppend, gmSet, ixR, DL.isNon, ixN, atI, lstD, seqD, gIsN, gNotN, m__law_numbers_right, f__law_numbers_right, e1, e2, e3, e4, e5, e6, s, f]
theorem pats_ok {q : Wq} {k : Nat} (h : WqOk q k) (hk : k + 33300 ≤ 900000) : ∃ (q' : Wq), m__law_patterns_right [wq q] = some (.ok (.bl true) [wq q']) ∧ WqOk q' (k + 33300) := by
  obtain ⟨q1, r1, p, e1, ok1, dp1, lw1, w1⟩ := tree_ok 13 5 5 q k 10 (by omega) (by omega) rfl h (by omega)
  obtain ⟨q2, m, e2, hm, w2⟩ := dip_ok w1 (l := 3) (by omega) (by omega)
  have a1 := words_ok p 22 ok1 (by omega) (by omega)
  have a2 := shows_ok p 22 ok1 (by omega) (by omega)
  have a3 := read_ok ok1 (by omega) (by omega)
  have a4 : m__law_same 23 [sD p.w, sD p.w] = some (.ok (.bl true) [sD p.w, sD p.w]) := same_str 22 p.w
  have a5 := same_pat p 23 (by omega)
  have s := p.d_sh
  have f := p.d_fz
  have fin : ∃ (q' : Wq) (x : Pat), x.Ok ∧ x.dep ≤ 20 ∧ x.w.length ≤ 200000 ∧ WqOk q' (k + 33300) ∧ ((((0 : Int) < (m : Int)) = True ∧ (0 < m) = True ∧ m__law_chain [wq q2] = some (.ok x.d [wq q'])) ∨ (((0 : Int) < (m : Int)) = False ∧ (0 < m) = False ∧ ∃ r : Int, m__law_tree 13 [wq q2, .ol [.int 60], .int 12] = some (.ok x.d [wq q', .ol [.int r], .int 12]))) := by
    by_cases h0 : 0 < m
    · obtain ⟨q3, x, e3, ok3, dp3, lw3, w3⟩ := chain_ok w2 (by omega)
      exact ⟨q3, x, ok3, dp3, by omega, w3.mono (by omega), .inl ⟨eq_true (by omega), eq_true h0, e3⟩⟩
    · obtain ⟨q3, r3, x, e3, ok3, dp3, lw3, w3⟩ := tree_ok 13 12 12 q2 _ 60 (by omega) (by omega) rfl w2 (by omega)
      exact ⟨q3, x, ok3, by omega, by omega, w3.mono (by omega), .inr ⟨eq_false (by omega), eq_false h0, r3, e3⟩⟩
  obtain ⟨q3, x, okx, dpx, lwx, w3, c⟩ := fin
  refine ⟨q3, ?_, w3⟩
  have b1 := words_ok x 22 okx (by omega) (by omega)
  have b2 := shows_ok x 22 okx (by omega) (by omega)
  have b3 := read_ok okx (by omega) (by omega)
  have b4 : m__law_same 23 [sD x.w, sD x.w] = some (.ok (.bl true) [sD x.w, sD x.w]) := same_str 22 x.w
  have b5 := same_pat x 23 (by omega)
  have sx := x.d_sh
  have fx := x.d_fz
  generalize p.d = X at *
  generalize p.w = T at *
  generalize x.d = Y at *
  generalize x.w = U at *
  rcases c with ⟨c1, c2, c3⟩ | ⟨c1, c2, r, c3⟩
  · simp (config := {decide := true, implicitDefEqProofs := false, maxSteps := 1000000}) [r_fn, parOk, frzAt, outsD, List.range_succ, DL.gTup, DL.gLst, gGcd, gNeg, gDiv, gMod, gPow, DL.gSub, gAbs, gInt, gEq, gNe, gRng1, kwR, gmInsert, gmExtend, gmAppend, gmSet, ixR, DL.isNon, ixN, atI, lstD, seqD, gIsN, gNotN, m__law_patterns_right, f__law_patterns_right, e1, e2, a1, a2, a3, a4, a5, s, f, c1, c2, c3, b1, b2, b3, b4, b5, sx, fx]
  · have c4 : (m : Int) = 0 := by have := of_eq_false c1; omega
    have c5 : m = 0 := by omega
    simp (config := {decide := true, implicitDefEqProofs := false, maxSteps := 1000000}) [r_fn, parOk, frzAt, outsD, List.range_succ, DL.gTup, DL.gLst, gGcd, gNeg, gDiv, gMod, gPow, DL.gSub, gAbs, gInt, gEq, gNe, gRng1, kwR, gmInsert, gmExtend, gmAppend, gmSet, ixR, DL.isNon, ixN, atI, lstD, seqD, gIsN, gNotN, m__law_patterns_right, f__law_patterns_right, e1, e2, a1, a2, a3, a4, a5, s, f, c1, c2, c3, c4, c5, b1, b2, b3, b4, b5, sx, fx]
theorem turn_ok {S B x3 : Option D} : ∀ (n i : Nat) (q : Wq) (k : Nat) (x3 : Option D), WqOk q k → k + 33306 * n ≤ 800000 →
    ∃ (q' : Wq) (y3 : Option D), forE (tgN [] 3) L_law_0 ((List.range' i n).map fun i => .int (i : Nat)) [S, B, some (wq q), x3] = some (.nx [S, B, some (wq q'), y3])
  | 0, i, q, k, x3, h, hk => ⟨q, x3, rfl⟩
  | n + 1, i, q, k, x3, h, hk => by
    obtain ⟨q1, e1, w1⟩ := nums_ok h (by omega)
    obtain ⟨q2, e2, w2⟩ := pats_ok w1 (by omega)
    obtain ⟨q3, y3, e3⟩ := turn_ok (S := S) (B := B) (x3 := x3) n (i + 1) q2 _ (some (.int (i : Nat))) w2 (by omega)
    refine ⟨q3, y3, ?_⟩
    rw [List.range'_succ, List.map_cons]
    generalize (List.range' (i + 1) n).map (fun i => D.int (i : Nat)) = R at *
    simp (config := {decide := true, implicitDefEqProofs := false, maxSteps := 1000000}) [r_fn, parOk, frzAt, outsD, List.range_succ, DL.gTup, DL.gLst, gGcd, gNeg, gDiv, gMod, gPow, DL.gSub, gAbs, gInt, gEq, gNe, gRng1, kwR, gmInsert, gmExtend, gmAppend, gmSet, ixR, DL.isNon, ixN, atI, lstD, seqD, gIsN, gNotN, forE_1, a_L_law_0, e1, e2, e3]
theorem spot_ok {ns : List Int} (hl : ns.length ≤ 63) (hb : ∀ z ∈ ns, Builtin.Int.intBits z ≤ 1048576) : ∀ (n i : Nat) (x1 x2 x3 : Option D), i + n ≤ 100 →
    ∃ (y1 y2 y3 : Option D), forE (tgN [] 1) L_law_1 ((List.range' i n).map fun i => .int (i : Nat)) [some (.frl (ns.map .int)), x1, x2, x3] = some (.nx [some (.frl (ns.map .int)), y1, y2, y3])
  | 0, i, x1, x2, x3, h => ⟨x1, x2, x3, rfl⟩
  | n + 1, i, x1, x2, x3, h => by
    obtain ⟨q, e1, w1⟩ := well_ok (t := i) hl (by omega) hb
    obtain ⟨q2, y3, e2⟩ := turn_ok (S := some (.frl (ns.map .int))) (B := some (.int (i : Nat))) (x3 := none) 3 0 q 0 x3 w1 (by omega)
    rw [← List.range_eq_range'] at e2
    have rg : gRng1 [.int 3] = some ((List.range 3).map fun i => .int (i : Nat)) := rng_i 3 (by omega)
    obtain ⟨z1, z2, z3, e3⟩ := spot_ok hl hb n (i + 1) (some (.int (i : Nat))) (some (wq q2)) y3 (by omega)
    refine ⟨z1, z2, z3, ?_⟩
    rw [List.range'_succ, List.map_cons]
    generalize (List.range' (i + 1) n).map (fun i => D.int (i : Nat)) = R at *
    generalize (List.range 3).map (fun i => D.int (i : Nat)) = R3 at *
    have sf : (D.frl (ns.map .int)).sh = true := rfl
    have ff : frz (D.frl (ns.map .int)) = D.frl (ns.map .int) := by simp [frz]
    generalize D.frl (ns.map .int) = N at *
    simp (config := {decide := true, implicitDefEqProofs := false, maxSteps := 1000000}) [r_fn, parOk, frzAt, outsD, List.range_succ, DL.gTup, DL.gLst, gGcd, gNeg, gDiv, gMod, gPow, DL.gSub, gAbs, gInt, gEq, gNe, kwR, gmInsert, gmExtend, gmAppend, gmSet, ixR, DL.isNon, ixN, atI, lstD, seqD, gIsN, gNotN, forE_1, a_L_law_1, e1, e2, e3, rg, sf, ff]
theorem law_t {ns : List Int} (hl : ns.length ≤ 63) (hb : ∀ z ∈ ns, Builtin.Int.intBits z ≤ 1048576) : m_law [.frl (ns.map .int)] = some (.ok (.bl true) [.frl (ns.map .int)]) := by
  obtain ⟨t, ht, et⟩ : ∃ t : Nat, t ≤ 8 ∧ (if (if (ns.length : Int) < 8 then (ns.length : Int) else 8) > 2 then (if (ns.length : Int) < 8 then (ns.length : Int) else 8) else 2) = (t : Int) := by
    refine ⟨(if (if (ns.length : Int) < 8 then (ns.length : Int) else 8) > 2 then (if (ns.length : Int) < 8 then (ns.length : Int) else 8) else 2 : Int).toNat, ?_, ?_⟩ <;> split <;> split <;> omega
  have rg := rng_i t (by omega)
  obtain ⟨y1, y2, y3, e⟩ := spot_ok hl hb t 0 none none none (by omega)
  rw [← List.range_eq_range'] at e
  generalize (List.range t).map (fun i => D.int (i : Nat)) = R at *
  have ln : (ns.map D.int).length = ns.length := List.length_map ..
  have mx : gMin [.int 8, .int (ns.length : Int)] = some (.int (if (ns.length : Int) < 8 then (ns.length : Int) else 8)) := rfl
  have mx2 : gMax [.int 2, .int (if (ns.length : Int) < 8 then (ns.length : Int) else 8)] = some (.int (t : Int)) := by rw [← et]; rfl
  generalize (if (ns.length : Int) < 8 then (ns.length : Int) else 8) = W at *
  generalize ns.map D.int = N at *
  generalize ns.length = n at *
  simp (config := {decide := true, implicitDefEqProofs := false, maxSteps := 1000000}) [r_fn, parOk, frzAt, outsD, List.range_succ, DL.gTup, DL.gLst, gGcd, gNeg, gDiv, gMod, gPow, DL.gSub, gAbs, gInt, gEq, gNe, kwR, gmInsert, gmExtend, gmAppend, gmSet, ixR, DL.isNon, ixN, atI, lstD, seqD, gIsN, gNotN, m_law, f_law, rg, e, ln, mx, mx2]
theorem law_true (ns : List Int) (hl : ns.length ≤ 63) (hb : ∀ z ∈ ns, Builtin.Int.intBits z ≤ 1048576) : ∃ outs, m_law [.frl (ns.map .int)] = some (.ok (.bl true) outs) := ⟨_, law_t hl hb⟩
end K85
namespace K85
open PySem PySem.Spec PyProof.Rows L2 DL
theorem all_mk {l : PySem.W.OpenLaw} {w : World} {K : PySem.W.Frag} {h : Heap} {mg : Str → Option Value} {fa : Addr} (X : K.In h) (G : h.Ns mainGlobals mg) (hfa : mg "law" = some (.ref fa))
    {f0 f1 f2 f3 f4 f5 f6 f7 f8 f9 f10 f11 f12 f13 f14 f15 f16 f17 f18 f19 f20 f21 f22 f23 fI C0 C16 : Addr}
    {od0 an0 : Option Addr} {sl0 : Array (Option Value)} {oc0 kV0 dc0 pm0 cd0 ct0 : Value}
    {od1 an1 : Option Addr} {sl1 : Array (Option Value)} {oc1 kV1 dc1 pm1 cd1 ct1 : Value}
    {od2 an2 : Option Addr} {sl2 : Array (Option Value)} {oc2 kV2 dc2 pm2 cd2 ct2 : Value}
    {od3 an3 : Option Addr} {sl3 : Array (Option Value)} {oc3 kV3 dc3 pm3 cd3 ct3 : Value}
    {od4 an4 : Option Addr} {sl4 : Array (Option Value)} {oc4 kV4 dc4 pm4 cd4 ct4 : Value}
    {od5 an5 : Option Addr} {sl5 : Array (Option Value)} {oc5 kV5 dc5 pm5 cd5 ct5 : Value}
    {od6 an6 : Option Addr} {sl6 : Array (Option Value)} {oc6 kV6 dc6 pm6 cd6 ct6 : Value}
    {od7 an7 : Option Addr} {sl7 : Array (Option Value)} {oc7 kV7 dc7 pm7 cd7 ct7 : Value}
    {od8 an8 : Option Addr} {sl8 : Array (Option Value)} {oc8 kV8 dc8 pm8 cd8 ct8 : Value}
    {od9 an9 : Option Addr} {sl9 : Array (Option Value)} {oc9 kV9 dc9 pm9 cd9 ct9 : Value}
    {od10 an10 : Option Addr} {sl10 : Array (Option Value)} {oc10 kV10 dc10 pm10 cd10 ct10 : Value}
    {od11 an11 : Option Addr} {sl11 : Array (Option Value)} {oc11 kV11 dc11 pm11 cd11 ct11 : Value}
    {od12 an12 : Option Addr} {sl12 : Array (Option Value)} {oc12 kV12 dc12 pm12 cd12 ct12 : Value}
    {od13 an13 : Option Addr} {sl13 : Array (Option Value)} {oc13 kV13 dc13 pm13 cd13 ct13 : Value}
    {od14 an14 : Option Addr} {sl14 : Array (Option Value)} {oc14 kV14 dc14 pm14 cd14 ct14 : Value}
    {od15 an15 : Option Addr} {sl15 : Array (Option Value)} {oc15 kV15 dc15 pm15 cd15 ct15 : Value}
    {od16 an16 : Option Addr} {sl16 : Array (Option Value)} {oc16 kV16 dc16 pm16 cd16 ct16 : Value}
    {od17 an17 : Option Addr} {sl17 : Array (Option Value)} {oc17 kV17 dc17 pm17 cd17 ct17 : Value}
    {od18 an18 : Option Addr} {sl18 : Array (Option Value)} {oc18 kV18 dc18 pm18 cd18 ct18 : Value}
    {od19 an19 : Option Addr} {sl19 : Array (Option Value)} {oc19 kV19 dc19 pm19 cd19 ct19 : Value}
    {od20 an20 : Option Addr} {sl20 : Array (Option Value)} {oc20 kV20 dc20 pm20 cd20 ct20 : Value}
    {od21 an21 : Option Addr} {sl21 : Array (Option Value)} {oc21 kV21 dc21 pm21 cd21 ct21 : Value}
    {od22 an22 : Option Addr} {sl22 : Array (Option Value)} {oc22 kV22 dc22 pm22 cd22 ct22 : Value}
    {od23 an23 : Option Addr} {sl23 : Array (Option Value)} {oc23 kV23 dc23 pm23 cd23 ct23 : Value}
    {odI anI : Option Addr} {slI : Array (Option Value)} {ocI kVI dcI pmI cdI ctI : Value}
    {tk_MOST_DIGITS : Tok}
    {tk_DIGITS : Tok}
    {tk_LETTERS : Tok}
    (a0 : PySem.W.nsIn K mainGlobals "_law_common" = some (some (.ref f0)))
    (l0 : K.lookup f0 = some ⟨oc0, od0, .func (PySem.W.fnOf "_law_common" "_law_common" (defArgs S__law_common) (defBody S__law_common) (defScope S__law_common) .none kV0 dc0 pm0 an0 cd0 ct0), sl0⟩)
    (c0 : PySem.W.codeIn K cd0 "_law_common" = true)
    (k0 : PySem.W.keepIn K (.ref f0) = true)
    (a1 : PySem.W.nsIn K mainGlobals "_law_dip" = some (some (.ref f1)))
    (l1 : K.lookup f1 = some ⟨oc1, od1, .func (PySem.W.fnOf "_law_dip" "_law_dip" (defArgs S__law_dip) (defBody S__law_dip) (defScope S__law_dip) .none kV1 dc1 pm1 an1 cd1 ct1), sl1⟩)
    (c1 : PySem.W.codeIn K cd1 "_law_dip" = true)
    (k1 : PySem.W.keepIn K (.ref f1) = true)
    (a2 : PySem.W.nsIn K mainGlobals "_law_pair" = some (some (.ref f2)))
    (l2 : K.lookup f2 = some ⟨oc2, od2, .func (PySem.W.fnOf "_law_pair" "_law_pair" (defArgs S__law_pair) (defBody S__law_pair) (defScope S__law_pair) .none kV2 dc2 pm2 an2 cd2 ct2), sl2⟩)
    (c2 : PySem.W.codeIn K cd2 "_law_pair" = true)
    (k2 : PySem.W.keepIn K (.ref f2) = true)
    (a3 : PySem.W.nsIn K mainGlobals "_law_said" = some (some (.ref f3)))
    (l3 : K.lookup f3 = some ⟨oc3, od3, .func (PySem.W.fnOf "_law_said" "_law_said" (defArgs S__law_said) (defBody S__law_said) (defScope S__law_said) .none kV3 dc3 pm3 an3 cd3 ct3), sl3⟩)
    (c3 : PySem.W.codeIn K cd3 "_law_said" = true)
    (k3 : PySem.W.keepIn K (.ref f3) = true)
    (a4 : PySem.W.nsIn K mainGlobals "_law_same" = some (some (.ref f4)))
    (l4 : K.lookup f4 = some ⟨oc4, od4, .func (PySem.W.fnOf "_law_same" "_law_same" (defArgs S__law_same) (defBody S__law_same) (defScope S__law_same) .none kV4 dc4 pm4 an4 cd4 ct4), sl4⟩)
    (c4 : PySem.W.codeIn K cd4 "_law_same" = true)
    (k4 : PySem.W.keepIn K (.ref f4) = true)
    (a5 : PySem.W.nsIn K mainGlobals "is_number" = some (some (.ref f5)))
    (l5 : K.lookup f5 = some ⟨oc5, od5, .func (PySem.W.fnOf "is_number" "is_number" (defArgs S_is_number) (defBody S_is_number) (defScope S_is_number) .none kV5 dc5 pm5 an5 cd5 ct5), sl5⟩)
    (c5 : PySem.W.codeIn K cd5 "is_number" = true)
    (k5 : PySem.W.keepIn K (.ref f5) = true)
    (a6 : PySem.W.nsIn K mainGlobals "whole_of" = some (some (.ref f6)))
    (l6 : K.lookup f6 = some ⟨oc6, od6, .func (PySem.W.fnOf "whole_of" "whole_of" (defArgs S_whole_of) (defBody S_whole_of) (defScope S_whole_of) .none kV6 dc6 pm6 an6 cd6 ct6), sl6⟩)
    (c6 : PySem.W.codeIn K cd6 "whole_of" = true)
    (k6 : PySem.W.keepIn K (.ref f6) = true)
    (a7 : PySem.W.nsIn K mainGlobals "number_of" = some (some (.ref f7)))
    (l7 : K.lookup f7 = some ⟨oc7, od7, .func (PySem.W.fnOf "number_of" "number_of" (defArgs S_number_of) (defBody S_number_of) (defScope S_number_of) .none kV7 dc7 pm7 an7 cd7 ct7), sl7⟩)
    (c7 : PySem.W.codeIn K cd7 "number_of" = true)
    (k7 : PySem.W.keepIn K (.ref f7) = true)
    (a8 : PySem.W.nsIn K mainGlobals "read_number" = some (some (.ref f8)))
    (l8 : K.lookup f8 = some ⟨oc8, od8, .func (PySem.W.fnOf "read_number" "read_number" (defArgs S_read_number) (defBody S_read_number) (defScope S_read_number) .none kV8 dc8 pm8 an8 cd8 ct8), sl8⟩)
    (c8 : PySem.W.codeIn K cd8 "read_number" = true)
    (k8 : PySem.W.keepIn K (.ref f8) = true)
    (a9 : PySem.W.nsIn K mainGlobals "show_number" = some (some (.ref f9)))
    (l9 : K.lookup f9 = some ⟨oc9, od9, .func (PySem.W.fnOf "show_number" "show_number" (defArgs S_show_number) (defBody S_show_number) (defScope S_show_number) .none kV9 dc9 pm9 an9 cd9 ct9), sl9⟩)
    (c9 : PySem.W.codeIn K cd9 "show_number" = true)
    (k9 : PySem.W.keepIn K (.ref f9) = true)
    (a10 : PySem.W.nsIn K mainGlobals "_law_numbers_right" = some (some (.ref f10)))
    (l10 : K.lookup f10 = some ⟨oc10, od10, .func (PySem.W.fnOf "_law_numbers_right" "_law_numbers_right" (defArgs S__law_numbers_right) (defBody S__law_numbers_right) (defScope S__law_numbers_right) .none kV10 dc10 pm10 an10 cd10 ct10), sl10⟩)
    (c10 : PySem.W.codeIn K cd10 "_law_numbers_right" = true)
    (k10 : PySem.W.keepIn K (.ref f10) = true)
    (a11 : PySem.W.nsIn K mainGlobals "_law_leaf" = some (some (.ref f11)))
    (l11 : K.lookup f11 = some ⟨oc11, od11, .func (PySem.W.fnOf "_law_leaf" "_law_leaf" (defArgs S__law_leaf) (defBody S__law_leaf) (defScope S__law_leaf) .none kV11 dc11 pm11 an11 cd11 ct11), sl11⟩)
    (c11 : PySem.W.codeIn K cd11 "_law_leaf" = true)
    (k11 : PySem.W.keepIn K (.ref f11) = true)
    (a12 : PySem.W.nsIn K mainGlobals "_law_chain" = some (some (.ref f12)))
    (l12 : K.lookup f12 = some ⟨oc12, od12, .func (PySem.W.fnOf "_law_chain" "_law_chain" (defArgs S__law_chain) (defBody S__law_chain) (defScope S__law_chain) .none kV12 dc12 pm12 an12 cd12 ct12), sl12⟩)
    (c12 : PySem.W.codeIn K cd12 "_law_chain" = true)
    (k12 : PySem.W.keepIn K (.ref f12) = true)
    (a13 : PySem.W.nsIn K mainGlobals "_law_tree" = some (some (.ref f13)))
    (l13 : K.lookup f13 = some ⟨oc13, od13, .func (PySem.W.fnOf "_law_tree" "_law_tree" (defArgs S__law_tree) (defBody S__law_tree) (defScope S__law_tree) .none kV13 dc13 pm13 an13 cd13 ct13), sl13⟩)
    (c13 : PySem.W.codeIn K cd13 "_law_tree" = true)
    (k13 : PySem.W.keepIn K (.ref f13) = true)
    (a14 : PySem.W.nsIn K mainGlobals "_law_words" = some (some (.ref f14)))
    (l14 : K.lookup f14 = some ⟨oc14, od14, .func (PySem.W.fnOf "_law_words" "_law_words" (defArgs S__law_words) (defBody S__law_words) (defScope S__law_words) .none kV14 dc14 pm14 an14 cd14 ct14), sl14⟩)
    (c14 : PySem.W.codeIn K cd14 "_law_words" = true)
    (k14 : PySem.W.keepIn K (.ref f14) = true)
    (a15 : PySem.W.nsIn K mainGlobals "pair_at" = some (some (.ref f15)))
    (l15 : K.lookup f15 = some ⟨oc15, od15, .func (PySem.W.fnOf "pair_at" "pair_at" (defArgs S_pair_at) (defBody S_pair_at) (defScope S_pair_at) .none kV15 dc15 pm15 an15 cd15 ct15), sl15⟩)
    (c15 : PySem.W.codeIn K cd15 "pair_at" = true)
    (k15 : PySem.W.keepIn K (.ref f15) = true)
    (a16 : PySem.W.nsIn K mainGlobals "weighed_at" = some (some (.ref f16)))
    (l16 : K.lookup f16 = some ⟨oc16, od16, .func (PySem.W.fnOf "weighed_at" "weighed_at" (defArgs S_weighed_at) (defBody S_weighed_at) (defScope S_weighed_at) .none kV16 dc16 pm16 an16 cd16 ct16), sl16⟩)
    (c16 : PySem.W.codeIn K cd16 "weighed_at" = true)
    (k16 : PySem.W.keepIn K (.ref f16) = true)
    (a17 : PySem.W.nsIn K mainGlobals "part_at" = some (some (.ref f17)))
    (l17 : K.lookup f17 = some ⟨oc17, od17, .func (PySem.W.fnOf "part_at" "part_at" (defArgs S_part_at) (defBody S_part_at) (defScope S_part_at) .none kV17 dc17 pm17 an17 cd17 ct17), sl17⟩)
    (c17 : PySem.W.codeIn K cd17 "part_at" = true)
    (k17 : PySem.W.keepIn K (.ref f17) = true)
    (a18 : PySem.W.nsIn K mainGlobals "pattern_at" = some (some (.ref f18)))
    (l18 : K.lookup f18 = some ⟨oc18, od18, .func (PySem.W.fnOf "pattern_at" "pattern_at" (defArgs S_pattern_at) (defBody S_pattern_at) (defScope S_pattern_at) .none kV18 dc18 pm18 an18 cd18 ct18), sl18⟩)
    (c18 : PySem.W.codeIn K cd18 "pattern_at" = true)
    (k18 : PySem.W.keepIn K (.ref f18) = true)
    (a19 : PySem.W.nsIn K mainGlobals "read_pattern" = some (some (.ref f19)))
    (l19 : K.lookup f19 = some ⟨oc19, od19, .func (PySem.W.fnOf "read_pattern" "read_pattern" (defArgs S_read_pattern) (defBody S_read_pattern) (defScope S_read_pattern) .none kV19 dc19 pm19 an19 cd19 ct19), sl19⟩)
    (c19 : PySem.W.codeIn K cd19 "read_pattern" = true)
    (k19 : PySem.W.keepIn K (.ref f19) = true)
    (a20 : PySem.W.nsIn K mainGlobals "show_pattern" = some (some (.ref f20)))
    (l20 : K.lookup f20 = some ⟨oc20, od20, .func (PySem.W.fnOf "show_pattern" "show_pattern" (defArgs S_show_pattern) (defBody S_show_pattern) (defScope S_show_pattern) .none kV20 dc20 pm20 an20 cd20 ct20), sl20⟩)
    (c20 : PySem.W.codeIn K cd20 "show_pattern" = true)
    (k20 : PySem.W.keepIn K (.ref f20) = true)
    (a21 : PySem.W.nsIn K mainGlobals "_law_patterns_right" = some (some (.ref f21)))
    (l21 : K.lookup f21 = some ⟨oc21, od21, .func (PySem.W.fnOf "_law_patterns_right" "_law_patterns_right" (defArgs S__law_patterns_right) (defBody S__law_patterns_right) (defScope S__law_patterns_right) .none kV21 dc21 pm21 an21 cd21 ct21), sl21⟩)
    (c21 : PySem.W.codeIn K cd21 "_law_patterns_right" = true)
    (k21 : PySem.W.keepIn K (.ref f21) = true)
    (a22 : PySem.W.nsIn K mainGlobals "_law_well" = some (some (.ref f22)))
    (l22 : K.lookup f22 = some ⟨oc22, od22, .func (PySem.W.fnOf "_law_well" "_law_well" (defArgs S__law_well) (defBody S__law_well) (defScope S__law_well) .none kV22 dc22 pm22 an22 cd22 ct22), sl22⟩)
    (c22 : PySem.W.codeIn K cd22 "_law_well" = true)
    (k22 : PySem.W.keepIn K (.ref f22) = true)
    (a23 : PySem.W.nsIn K mainGlobals "law" = some (some (.ref f23)))
    (l23 : K.lookup f23 = some ⟨oc23, od23, .func (PySem.W.fnOf "law" "law" (defArgs S_law) (defBody S_law) (defScope S_law) .none kV23 dc23 pm23 an23 cd23 ct23), sl23⟩)
    (c23 : PySem.W.codeIn K cd23 "law" = true)
    (k23 : PySem.W.keepIn K (.ref f23) = true)
    (z_abs : PySem.W.nsIn K mainGlobals "abs" = some none)
    (z_int : PySem.W.nsIn K mainGlobals "int" = some none)
    (z_str : PySem.W.nsIn K mainGlobals "str" = some none)
    (z_tuple : PySem.W.nsIn K mainGlobals "tuple" = some none)
    (z_isinstance : PySem.W.nsIn K mainGlobals "isinstance" = some none)
    (z_list : PySem.W.nsIn K mainGlobals "list" = some none)
    (z_len : PySem.W.nsIn K mainGlobals "len" = some none)
    (z_range : PySem.W.nsIn K mainGlobals "range" = some none)
    (z_bool : PySem.W.nsIn K mainGlobals "bool" = some none)
    (g_gcd : PySem.W.nsIn K mainGlobals "gcd" = some (some (.builtin "math.gcd")))
    (g_MOST_DIGITS : PySem.W.nsIn K mainGlobals "MOST_DIGITS" = some (some (.int 9 tk_MOST_DIGITS)))
    (z_all : PySem.W.nsIn K mainGlobals "all" = some none)
    (g_DIGITS : PySem.W.nsIn K mainGlobals "DIGITS" = some (some (.str ("0123456789" : Str) tk_DIGITS)))
    (g_LETTERS : PySem.W.nsIn K mainGlobals "LETTERS" = some (some (.str ("abcdefghijklmnopqrstuvwxyz" : Str) tk_LETTERS)))
    (z_max : PySem.W.nsIn K mainGlobals "max" = some none)
    (z_min : PySem.W.nsIn K mainGlobals "min" = some none)
    (tree : l.prog.given.tree = none)
    (z_ValueError : PySem.W.nsIn K mainGlobals "ValueError" = some none)
    (vV : PySem.W.findCls K (.type "ValueError") (.type "type") "__init__" = some (.val (.builtin "ValueError.__init__")))
    (aC0 : PySem.W.nsIn K mainGlobals "WorthError" = some (some (.ref C0)))
    (aC16 : PySem.W.nsIn K mainGlobals "Unreadable" = some (some (.ref C16)))
    (aI : PySem.W.findIn K (.ref C0) "__init__" = some (some (.ref fI)))
    (lI : K.lookup fI = some ⟨ocI, odI, .func (PySem.W.fnOf "__init__" "WorthError.__init__" (defArgs initS) (defBody initS) (defScope initS) .none kVI dcI pmI anI cdI ctI), slI⟩)
    (cI : PySem.W.codeIn K cdI "WorthError.__init__" = true)
    (kI : PySem.W.keepIn K (.ref fI) = true)
    (tI : PySem.W.typeIn K (.ref fI) = some (.type "function"))
    (xB : excB K (fun c => [C0, 0, 0, 0, 0, 0, 0, 0, 0, 0, 0, 0, 0, 0, 0, 0, C16].getD c 0) fI exs = true)
    : ∃ fd : FuncData, (∀ (s : Shared) (v : Value), BindsTo s fd ⟨[v], []⟩ [("script", v)]) ∧ ∀ base : Heap, base.NoSeer → FnOk l.prog w K mg base (L2.CX l.prog w) 71 fa fd ["script"] (spScr K) := by
  have e := hfa.symm.trans (PySem.W.mg_of X G a23)
  cases e
  have F0 := fun_mk (st := S__law_common) l0 c0 k0
  have B0 := F0.binds (ps := P__law_common) fun _ _ _ _ _ _ us hl => match us, hl with | [_, _], _ => rfl
  have F1 := fun_mk (st := S__law_dip) l1 c1 k1
  have B1 := F1.binds (ps := P__law_dip) fun _ _ _ _ _ _ us hl => match us, hl with | [_, _], _ => rfl
  have F2 := fun_mk (st := S__law_pair) l2 c2 k2
  have B2 := F2.binds (ps := P__law_pair) fun _ _ _ _ _ _ us hl => match us, hl with | [_], _ => rfl
  have F3 := fun_mk (st := S__law_said) l3 c3 k3
  have B3 := F3.binds (ps := P__law_said) fun _ _ _ _ _ _ us hl => match us, hl with | [_], _ => rfl
  have F4 := fun_mk (st := S__law_same) l4 c4 k4
  have B4 := F4.binds (ps := P__law_same) fun _ _ _ _ _ _ us hl => match us, hl with | [_, _], _ => rfl
  have F5 := fun_mk (st := S_is_number) l5 c5 k5
  have B5 := F5.binds (ps := P_is_number) fun _ _ _ _ _ _ us hl => match us, hl with | [_], _ => rfl
  have F6 := fun_mk (st := S_whole_of) l6 c6 k6
  have B6 := F6.binds (ps := P_whole_of) fun _ _ _ _ _ _ us hl => match us, hl with | [_], _ => rfl
  have F7 := fun_mk (st := S_number_of) l7 c7 k7
  have B7 := F7.binds (ps := P_number_of) fun _ _ _ _ _ _ us hl => match us, hl with | [_], _ => rfl
  have F8 := fun_mk (st := S_read_number) l8 c8 k8
  have B8 := F8.binds (ps := P_read_number) fun _ _ _ _ _ _ us hl => match us, hl with | [_], _ => rfl
  have F9 := fun_mk (st := S_show_number) l9 c9 k9
  have B9 := F9.binds (ps := P_show_number) fun _ _ _ _ _ _ us hl => match us, hl with | [_], _ => rfl
  have F10 := fun_mk (st := S__law_numbers_right) l10 c10 k10
  have B10 := F10.binds (ps := P__law_numbers_right) fun _ _ _ _ _ _ us hl => match us, hl with | [_], _ => rfl
  have F11 := fun_mk (st := S__law_leaf) l11 c11 k11
  have B11 := F11.binds (ps := P__law_leaf) fun _ _ _ _ _ _ us hl => match us, hl with | [_], _ => rfl
  have F12 := fun_mk (st := S__law_chain) l12 c12 k12
  have B12 := F12.binds (ps := P__law_chain) fun _ _ _ _ _ _ us hl => match us, hl with | [_], _ => rfl
  have F13 := fun_mk (st := S__law_tree) l13 c13 k13
  have B13 := F13.binds (ps := P__law_tree) fun _ _ _ _ _ _ us hl => match us, hl with | [_, _, _], _ => rfl
  have F14 := fun_mk (st := S__law_words) l14 c14 k14
  have B14 := F14.binds (ps := P__law_words) fun _ _ _ _ _ _ us hl => match us, hl with | [_], _ => rfl
  have F15 := fun_mk (st := S_pair_at) l15 c15 k15
  have B15 := F15.binds (ps := P_pair_at) fun _ _ _ _ _ _ us hl => match us, hl with | [_, _], _ => rfl
  have F16 := fun_mk (st := S_weighed_at) l16 c16 k16
  have B16 := F16.binds (ps := P_weighed_at) fun _ _ _ _ _ _ us hl => match us, hl with | [_, _], _ => rfl
  have F17 := fun_mk (st := S_part_at) l17 c17 k17
  have B17 := F17.binds (ps := P_part_at) fun _ _ _ _ _ _ us hl => match us, hl with | [_, _], _ => rfl
  have F18 := fun_mk (st := S_pattern_at) l18 c18 k18
  have B18 := F18.binds (ps := P_pattern_at) fun _ _ _ _ _ _ us hl => match us, hl with | [_, _], _ => rfl
  have F19 := fun_mk (st := S_read_pattern) l19 c19 k19
  have B19 := F19.binds (ps := P_read_pattern) fun _ _ _ _ _ _ us hl => match us, hl with | [_], _ => rfl
  have F20 := fun_mk (st := S_show_pattern) l20 c20 k20
  have B20 := F20.binds (ps := P_show_pattern) fun _ _ _ _ _ _ us hl => match us, hl with | [_], _ => rfl
  have F21 := fun_mk (st := S__law_patterns_right) l21 c21 k21
  have B21 := F21.binds (ps := P__law_patterns_right) fun _ _ _ _ _ _ us hl => match us, hl with | [_], _ => rfl
  have F22 := fun_mk (st := S__law_well) l22 c22 k22
  have B22 := F22.binds (ps := P__law_well) fun _ _ _ _ _ _ us hl => match us, hl with | [_, _], _ => rfl
  have F23 := fun_mk (st := S_law) l23 c23 k23
  have B23 := F23.binds (ps := P_law) fun _ _ _ _ _ _ us hl => match us, hl with | [_], _ => rfl
  have FI := fun_mk (st := initS) lI cI kI
  have BI := FI.binds (ps := [("self" : Str), ("value" : Str)]) fun _ _ _ _ _ _ us hl => match us, hl with | [_, _], _ => rfl
  obtain ⟨x1, x2, x3⟩ := exc_all xB
  refine ⟨PySem.W.fnOf "law" "law" (defArgs S_law) (defBody S_law) (defScope S_law) .none kV23 dc23 pm23 an23 cd23 ct23, fun s v => .of_eq rfl, fun base sr => ?_⟩
  have T : Txt l.prog base K mg (fun c => [C0, 0, 0, 0, 0, 0, 0, 0, 0, 0, 0, 0, 0, 0, 0, 0, C16].getD c 0) fI (PySem.W.fnOf "__init__" "WorthError.__init__" (defArgs initS) (defBody initS) (defScope initS) .none kVI dcI pmI anI cdI ctI) (fun i => [f0, f1, f2, f3, f4, f5, f6, f7, f8, f9, f10, f11, f12, f13, f14, f15, f16, f17, f18, f19, f20, f21, f22, fa].getD i 0) (fun i => match i with | 0 => PySem.W.fnOf "_law_common" "_law_common" (defArgs S__law_common) (defBody S__law_common) (defScope S__law_common) .none kV0 dc0 pm0 an0 cd0 ct0 | 1 => PySem.W.fnOf "_law_dip" "_law_dip" (defArgs S__law_dip) (defBody S__law_dip) (defScope S__law_dip) .none kV1 dc1 pm1 an1 cd1 ct1 | 2 => PySem.W.fnOf "_law_pair" "_law_pair" (defArgs S__law_pair) (defBody S__law_pair) (defScope S__law_pair) .none kV2 dc2 pm2 an2 cd2 ct2 | 3 => PySem.W.fnOf "_law_said" "_law_said" (defArgs S__law_said) (defBody S__law_said) (defScope S__law_said) .none kV3 dc3 pm3 an3 cd3 ct3 | 4 => PySem.W.fnOf "_law_same" "_law_same" (defArgs S__law_same) (defBody S__law_same) (defScope S__law_same) .none kV4 dc4 pm4 an4 cd4 ct4 | 5 => PySem.W.fnOf "is_number" "is_number" (defArgs S_is_number) (defBody S_is_number) (defScope S_is_number) .none kV5 dc5 pm5 an5 cd5 ct5 | 6 => PySem.W.fnOf "whole_of" "whole_of" (defArgs S_whole_of) (defBody S_whole_of) (defScope S_whole_of) .none kV6 dc6 pm6 an6 cd6 ct6 | 7 => PySem.W.fnOf "number_of" "number_of" (defArgs S_number_of) (defBody S_number_of) (defScope S_number_of) .none kV7 dc7 pm7 an7 cd7 ct7 | 8 => PySem.W.fnOf "read_number" "read_number" (defArgs S_read_number) (defBody S_read_number) (defScope S_read_number) .none kV8 dc8 pm8 an8 cd8 ct8 | 9 => PySem.W.fnOf "show_number" "show_number" (defArgs S_show_number) (defBody S_show_number) (defScope S_show_number) .none kV9 dc9 pm9 an9 cd9 ct9 | 10 => PySem.W.fnOf "_law_numbers_right" "_law_numbers_right" (defArgs S__law_numbers_right) (defBody S__law_numbers_right) (defScope S__law_numbers_right) .none kV10 dc10 pm10 an10 cd10 ct10 | 11 => PySem.W.fnOf "_law_leaf" "_law_leaf" (defArgs S__law_leaf) (defBody S__law_leaf) (defScope S__law_leaf) .none kV11 dc11 pm11 an11 cd11 ct11 | 12 => PySem.W.fnOf "_law_chain" "_law_chain" (defArgs S__law_chain) (defBody S__law_chain) (defScope S__law_chain) .none kV12 dc12 pm12 an12 cd12 ct12 | 13 => PySem.W.fnOf "_law_tree" "_law_tree" (defArgs S__law_tree) (defBody S__law_tree) (defScope S__law_tree) .none kV13 dc13 pm13 an13 cd13 ct13 | 14 => PySem.W.fnOf "_law_words" "_law_words" (defArgs S__law_words) (defBody S__law_words) (defScope S__law_words) .none kV14 dc14 pm14 an14 cd14 ct14 | 15 => PySem.W.fnOf "pair_at" "pair_at" (defArgs S_pair_at) (defBody S_pair_at) (defScope S_pair_at) .none kV15 dc15 pm15 an15 cd15 ct15 | 16 => PySem.W.fnOf "weighed_at" "weighed_at" (defArgs S_weighed_at) (defBody S_weighed_at) (defScope S_weighed_at) .none kV16 dc16 pm16 an16 cd16 ct16 | 17 => PySem.W.fnOf "part_at" "part_at" (defArgs S_part_at) (defBody S_part_at) (defScope S_part_at) .none kV17 dc17 pm17 an17 cd17 ct17 | 18 => PySem.W.fnOf "pattern_at" "pattern_at" (defArgs S_pattern_at) (defBody S_pattern_at) (defScope S_pattern_at) .none kV18 dc18 pm18 an18 cd18 ct18 | 19 => PySem.W.fnOf "read_pattern" "read_pattern" (defArgs S_read_pattern) (defBody S_read_pattern) (defScope S_read_pattern) .none kV19 dc19 pm19 an19 cd19 ct19 | 20 => PySem.W.fnOf "show_pattern" "show_pattern" (defArgs S_show_pattern) (defBody S_show_pattern) (defScope S_show_pattern) .none kV20 dc20 pm20 an20 cd20 ct20 | 21 => PySem.W.fnOf "_law_patterns_right" "_law_patterns_right" (defArgs S__law_patterns_right) (defBody S__law_patterns_right) (defScope S__law_patterns_right) .none kV21 dc21 pm21 an21 cd21 ct21 | 22 => PySem.W.fnOf "_law_well" "_law_well" (defArgs S__law_well) (defBody S__law_well) (defScope S__law_well) .none kV22 dc22 pm22 an22 cd22 ct22 | 23 => PySem.W.fnOf "law" "law" (defArgs S_law) (defBody S_law) (defScope S_law) .none kV23 dc23 pm23 an23 cd23 ct23 | _ => PySem.W.fnOf "_law_common" "_law_common" (defArgs S__law_common) (defBody S__law_common) (defScope S__law_common) .none kV0 dc0 pm0 an0 cd0 ct0) (fun i => match i with  | _ => 0) := {
    sr := sr,
    tr := tree,
    fnI := FI,
    bI := BI,
    bK := fun s a u => .of_eq rfl,
    tI := tI,
    vV := vV,
    zV := PySem.W.mg_none_of X G z_ValueError,
    ex := x1,
    tab := x2,
    ct := x3,
    fn__law_common := F0,
    b__law_common := B0,
    g__law_common := PySem.W.mg_of X G a0,
    fn__law_dip := F1,
    b__law_dip := B1,
    g__law_dip := PySem.W.mg_of X G a1,
    fn__law_pair := F2,
    b__law_pair := B2,
    g__law_pair := PySem.W.mg_of X G a2,
    fn__law_said := F3,
    b__law_said := B3,
    g__law_said := PySem.W.mg_of X G a3,
    fn__law_same := F4,
    b__law_same := B4,
    g__law_same := PySem.W.mg_of X G a4,
    fn_is_number := F5,
    b_is_number := B5,
    g_is_number := PySem.W.mg_of X G a5,
    fn_whole_of := F6,
    b_whole_of := B6,
    g_whole_of := PySem.W.mg_of X G a6,
    fn_number_of := F7,
    b_number_of := B7,
    g_number_of := PySem.W.mg_of X G a7,
    fn_read_number := F8,
    b_read_number := B8,
    g_read_number := PySem.W.mg_of X G a8,
    fn_show_number := F9,
    b_show_number := B9,
    g_show_number := PySem.W.mg_of X G a9,
    fn__law_numbers_right := F10,
    b__law_numbers_right := B10,
    g__law_numbers_right := PySem.W.mg_of X G a10,
    fn__law_leaf := F11,
    b__law_leaf := B11,
    g__law_leaf := PySem.W.mg_of X G a11,
    fn__law_chain := F12,
    b__law_chain := B12,
    g__law_chain := PySem.W.mg_of X G a12,
    fn__law_tree := F13,
    b__law_tree := B13,
    g__law_tree := PySem.W.mg_of X G a13,
    fn__law_words := F14,
    b__law_words := B14,
    g__law_words := PySem.W.mg_of X G a14,
    fn_pair_at := F15,
    b_pair_at := B15,
    g_pair_at := PySem.W.mg_of X G a15,
    fn_weighed_at := F16,
    b_weighed_at := B16,
    g_weighed_at := PySem.W.mg_of X G a16,
    fn_part_at := F17,
    b_part_at := B17,
    g_part_at := PySem.W.mg_of X G a17,
    fn_pattern_at := F18,
    b_pattern_at := B18,
    g_pattern_at := PySem.W.mg_of X G a18,
    fn_read_pattern := F19,
    b_read_pattern := B19,
    g_read_pattern := PySem.W.mg_of X G a19,
    fn_show_pattern := F20,
    b_show_pattern := B20,
    g_show_pattern := PySem.W.mg_of X G a20,
    fn__law_patterns_right := F21,
    b__law_patterns_right := B21,
    g__law_patterns_right := PySem.W.mg_of X G a21,
    fn__law_well := F22,
    b__law_well := B22,
    g__law_well := PySem.W.mg_of X G a22,
    fn_law := F23,
    b_law := B23,
    g_law := PySem.W.mg_of X G a23,
    kw_show_number_number := kw_of F9 (fun _ _ _ _ _ _ ws us hl e => match ws, hl, e with | [_], _, e => by cases e; rfl) rfl,
    kw_read_number_text := kw_of F8 (fun _ _ _ _ _ _ ws us hl e => match ws, hl, e with | [_], _, e => by cases e; rfl) rfl,
    kw_show_pattern_pattern := kw_of F20 (fun _ _ _ _ _ _ ws us hl e => match ws, hl, e with | [_], _, e => by cases e; rfl) rfl,
    kw_read_pattern_text := kw_of F19 (fun _ _ _ _ _ _ ws us hl e => match ws, hl, e with | [_], _, e => by cases e; rfl) rfl,
    z_abs := PySem.W.mg_none_of X G z_abs,
    z_int := PySem.W.mg_none_of X G z_int,
    z_str := PySem.W.mg_none_of X G z_str,
    z_tuple := PySem.W.mg_none_of X G z_tuple,
    z_isinstance := PySem.W.mg_none_of X G z_isinstance,
    z_list := PySem.W.mg_none_of X G z_list,
    z_len := PySem.W.mg_none_of X G z_len,
    z_range := PySem.W.mg_none_of X G z_range,
    z_bool := PySem.W.mg_none_of X G z_bool,
    g_gcd := PySem.W.mg_of X G g_gcd,
    g_MOST_DIGITS := ⟨_, PySem.W.mg_of X G g_MOST_DIGITS⟩,
    z_all := PySem.W.mg_none_of X G z_all,
    g_DIGITS := ⟨_, PySem.W.mg_of X G g_DIGITS⟩,
    g_Unreadable := PySem.W.mg_of X G aC16,
    g_LETTERS := ⟨_, PySem.W.mg_of X G g_LETTERS⟩,
    z_max := PySem.W.mg_none_of X G z_max,
    z_min := PySem.W.mg_none_of X G z_min }
  exact law_end (ca := fun c => [C0, 0, 0, 0, 0, 0, 0, 0, 0, 0, 0, 0, 0, 0, 0, 0, C16].getD c 0) law_true (ok_law (P := l.prog) (w := w) (base := base) T)
end K85
namespace K85
open PySem PySem.Spec PyProof.Rows L2 DL
theorem facts {l : PySem.W.OpenLaw} (tree : l.prog.given.tree = none) {w : World} {K : PySem.W.Frag} {h : Heap} {mg : Str → Option Value} {fa : Addr} (X : K.In h) (G : h.Ns mainGlobals mg) (hfa : mg "law" = some (.ref fa)) (c : SaysF fes fds exB K)
    : ∃ fd : FuncData, (∀ (s : Shared) (v : Value), BindsTo s fd ⟨[v], []⟩ [("script", v)]) ∧ ∀ base : Heap, base.NoSeer → FnOk l.prog w K mg base (L2.CX l.prog w) 71 fa fd ["script"] (spScr K) := by
  obtain ⟨_, _, _, _, _, _, _, _, _, l0, c0, k0, a0⟩ := c.def_ 0 (d := ⟨At.glo ("_law_common" : Str), ("_law_common" : Str), ("_law_common" : Str), S__law_common⟩) rfl
  obtain ⟨_, _, _, _, _, _, _, _, _, l1, c1, k1, a1⟩ := c.def_ 1 (d := ⟨At.glo ("_law_dip" : Str), ("_law_dip" : Str), ("_law_dip" : Str), S__law_dip⟩) rfl
  obtain ⟨_, _, _, _, _, _, _, _, _, l2, c2, k2, a2⟩ := c.def_ 2 (d := ⟨At.glo ("_law_pair" : Str), ("_law_pair" : Str), ("_law_pair" : Str), S__law_pair⟩) rfl
  obtain ⟨_, _, _, _, _, _, _, _, _, l3, c3, k3, a3⟩ := c.def_ 3 (d := ⟨At.glo ("_law_said" : Str), ("_law_said" : Str), ("_law_said" : Str), S__law_said⟩) rfl
  obtain ⟨_, _, _, _, _, _, _, _, _, l4, c4, k4, a4⟩ := c.def_ 4 (d := ⟨At.glo ("_law_same" : Str), ("_law_same" : Str), ("_law_same" : Str), S__law_same⟩) rfl
  obtain ⟨_, _, _, _, _, _, _, _, _, l5, c5, k5, a5⟩ := c.def_ 5 (d := ⟨At.glo ("is_number" : Str), ("is_number" : Str), ("is_number" : Str), S_is_number⟩) rfl
  obtain ⟨_, _, _, _, _, _, _, _, _, l6, c6, k6, a6⟩ := c.def_ 6 (d := ⟨At.glo ("whole_of" : Str), ("whole_of" : Str), ("whole_of" : Str), S_whole_of⟩) rfl
  obtain ⟨_, _, _, _, _, _, _, _, _, l7, c7, k7, a7⟩ := c.def_ 7 (d := ⟨At.glo ("number_of" : Str), ("number_of" : Str), ("number_of" : Str), S_number_of⟩) rfl
  obtain ⟨_, _, _, _, _, _, _, _, _, l8, c8, k8, a8⟩ := c.def_ 8 (d := ⟨At.glo ("read_number" : Str), ("read_number" : Str), ("read_number" : Str), S_read_number⟩) rfl
  obtain ⟨_, _, _, _, _, _, _, _, _, l9, c9, k9, a9⟩ := c.def_ 9 (d := ⟨At.glo ("show_number" : Str), ("show_number" : Str), ("show_number" : Str), S_show_number⟩) rfl
  obtain ⟨_, _, _, _, _, _, _, _, _, l10, c10, k10, a10⟩ := c.def_ 10 (d := ⟨At.glo ("_law_numbers_right" : Str), ("_law_numbers_right" : Str), ("_law_numbers_right" : Str), S__law_numbers_right⟩) rfl
  obtain ⟨_, _, _, _, _, _, _, _, _, l11, c11, k11, a11⟩ := c.def_ 11 (d := ⟨At.glo ("_law_leaf" : Str), ("_law_leaf" : Str), ("_law_leaf" : Str), S__law_leaf⟩) rfl
  obtain ⟨_, _, _, _, _, _, _, _, _, l12, c12, k12, a12⟩ := c.def_ 12 (d := ⟨At.glo ("_law_chain" : Str), ("_law_chain" : Str), ("_law_chain" : Str), S__law_chain⟩) rfl
  obtain ⟨_, _, _, _, _, _, _, _, _, l13, c13, k13, a13⟩ := c.def_ 13 (d := ⟨At.glo ("_law_tree" : Str), ("_law_tree" : Str), ("_law_tree" : Str), S__law_tree⟩) rfl
  obtain ⟨_, _, _, _, _, _, _, _, _, l14, c14, k14, a14⟩ := c.def_ 14 (d := ⟨At.glo ("_law_words" : Str), ("_law_words" : Str), ("_law_words" : Str), S__law_words⟩) rfl
  obtain ⟨_, _, _, _, _, _, _, _, _, l15, c15, k15, a15⟩ := c.def_ 15 (d := ⟨At.glo ("pair_at" : Str), ("pair_at" : Str), ("pair_at" : Str), S_pair_at⟩) rfl
  obtain ⟨_, _, _, _, _, _, _, _, _, l16, c16, k16, a16⟩ := c.def_ 16 (d := ⟨At.glo ("weighed_at" : Str), ("weighed_at" : Str), ("weighed_at" : Str), S_weighed_at⟩) rfl
  obtain ⟨_, _, _, _, _, _, _, _, _, l17, c17, k17, a17⟩ := c.def_ 17 (d := ⟨At.glo ("part_at" : Str), ("part_at" : Str), ("part_at" : Str), S_part_at⟩) rfl
  obtain ⟨_, _, _, _, _, _, _, _, _, l18, c18, k18, a18⟩ := c.def_ 18 (d := ⟨At.glo ("pattern_at" : Str), ("pattern_at" : Str), ("pattern_at" : Str), S_pattern_at⟩) rfl
  obtain ⟨_, _, _, _, _, _, _, _, _, l19, c19, k19, a19⟩ := c.def_ 19 (d := ⟨At.glo ("read_pattern" : Str), ("read_pattern" : Str), ("read_pattern" : Str), S_read_pattern⟩) rfl
  obtain ⟨_, _, _, _, _, _, _, _, _, l20, c20, k20, a20⟩ := c.def_ 20 (d := ⟨At.glo ("show_pattern" : Str), ("show_pattern" : Str), ("show_pattern" : Str), S_show_pattern⟩) rfl
  obtain ⟨_, _, _, _, _, _, _, _, _, l21, c21, k21, a21⟩ := c.def_ 21 (d := ⟨At.glo ("_law_patterns_right" : Str), ("_law_patterns_right" : Str), ("_law_patterns_right" : Str), S__law_patterns_right⟩) rfl
  obtain ⟨_, _, _, _, _, _, _, _, _, l22, c22, k22, a22⟩ := c.def_ 22 (d := ⟨At.glo ("_law_well" : Str), ("_law_well" : Str), ("_law_well" : Str), S__law_well⟩) rfl
  obtain ⟨_, _, _, _, _, _, _, _, _, l23, c23, k23, a23⟩ := c.def_ 23 (d := ⟨At.glo ("law" : Str), ("law" : Str), ("law" : Str), S_law⟩) rfl
  obtain ⟨_, _, _, _, _, _, _, _, _, lI, cI, kI, aI⟩ := c.def_ 24 (d := ⟨At.meth ("WorthError" : Str) ("__init__" : Str), ("__init__" : Str), ("WorthError.__init__" : Str), initS⟩) rfl
  have z_abs := c.fact 0 (f := .free ("abs" : Str)) rfl
  have z_int := c.fact 1 (f := .free ("int" : Str)) rfl
  have z_str := c.fact 2 (f := .free ("str" : Str)) rfl
  have z_tuple := c.fact 3 (f := .free ("tuple" : Str)) rfl
  have z_isinstance := c.fact 4 (f := .free ("isinstance" : Str)) rfl
  have z_list := c.fact 5 (f := .free ("list" : Str)) rfl
  have z_len := c.fact 6 (f := .free ("len" : Str)) rfl
  have z_range := c.fact 7 (f := .free ("range" : Str)) rfl
  have z_bool := c.fact 8 (f := .free ("bool" : Str)) rfl
  have g_gcd := c.fact 9 (f := .blt ("gcd" : Str) "math.gcd") rfl
  obtain ⟨_, g_MOST_DIGITS⟩ := c.fact 10 (f := .gint ("MOST_DIGITS" : Str) (9)) rfl
  have z_all := c.fact 11 (f := .free ("all" : Str)) rfl
  obtain ⟨_, g_DIGITS⟩ := c.fact 12 (f := .str ("DIGITS" : Str) ("0123456789" : Str)) rfl
  obtain ⟨_, g_LETTERS⟩ := c.fact 13 (f := .str ("LETTERS" : Str) ("abcdefghijklmnopqrstuvwxyz" : Str)) rfl
  have z_max := c.fact 14 (f := .free ("max" : Str)) rfl
  have z_min := c.fact 15 (f := .free ("min" : Str)) rfl
  have z_ValueError := c.fact 16 (f := .free ("ValueError" : Str)) rfl
  have vV := c.fact 17 (f := .vV) rfl
  have aC0 := c.fact 18 (f := .cls ("WorthError" : Str)) rfl
  have aC16 := c.fact 19 (f := .cls ("Unreadable" : Str)) rfl
  have cm := c.more
  obtain ⟨tI', xB'⟩ := (show eb_tI K = true ∧ eb_xB K = true from by simpa only [exB, Bool.and_eq_true] using cm)
  have tI := of_decide_eq_true tI'
  have xB := xB'
  exact all_mk X G hfa a0 l0 c0 k0 a1 l1 c1 k1 a2 l2 c2 k2 a3 l3 c3 k3 a4 l4 c4 k4 a5 l5 c5 k5 a6 l6 c6 k6 a7 l7 c7 k7 a8 l8 c8 k8 a9 l9 c9 k9 a10 l10 c10 k10 a11 l11 c11 k11 a12 l12 c12 k12 a13 l13 c13 k13 a14 l14 c14 k14 a15 l15 c15 k15 a16 l16 c16 k16 a17 l17 c17 k17 a18 l18 c18 k18 a19 l19 c19 k19 a20 l20 c20 k20 a21 l21 c21 k21 a22 l22 c22 k22 a23 l23 c23 k23 z_abs z_int z_str z_tuple z_isinstance z_list z_len z_range z_bool g_gcd g_MOST_DIGITS z_all g_DIGITS g_LETTERS z_max z_min tree z_ValueError vV aC0 aC16 aI lI cI kI tI xB
end K85
open PySem PySem.W PyProof.Rows
set_option maxHeartbeats 0 in
theorem PySem.Challenge.cw_wholeworths_k85_whole_patterns_there_and_holds : PySem.Challenge.rw_wholeworths_k85_whole_patterns_there_and.Holds := by
  w_on; o_law
  refine HandSHeadRun.head_imp (r := OpenLaw.row PySem.Challenge.rw_wholeworths_k85_whole_patterns_there_and) (q := view (OpenLaw.row PySem.Challenge.rw_wholeworths_k85_whole_patterns_there_and).prog [0, 34]) (H := K85.hkF) (ob := K85.obF) (M := 15000) (loose := K85.topNames) (d := HandSHeadRun.topDef (OpenLaw.row PySem.Challenge.rw_wholeworths_k85_whole_patterns_there_and).prog 34) (kwd := []) K85.obF_eq K85.run (by kernel_rfl) (by kernel_rfl) (by kernel_rfl) (by rfl) (by first | assumption | decide +kernel) (by decide +kernel) ⟨rfl, rfl, rfl, rfl, rfl, by decide +kernel⟩ ?hw ?hc
  case hw => w_witness2
  case hc =>
    refine DL.walk_bigE (l := PySem.Challenge.rw_wholeworths_k85_whole_patterns_there_and) (n := 63) (k := 71) (x := "script") (CX := fun w => L2.CX (PySem.Challenge.rw_wholeworths_k85_whole_patterns_there_and).prog w) (sp := DL.spScr) (by kernel_rfl) rfl (by decide) (by kernel_rfl) ⟨rfl, by decide, by decide⟩ ?F (fun K _ a ns hl hb _ hS => ⟨a, ns, rfl, hl, hb, hS, fun _ => rfl⟩) (fun w H s e s' h => DL.cx_end w H s e s' h)
    intro w mg fa h Y G hmg0
    obtain ⟨K, KX, c⟩ := Y
    have hmg : mg ("law" : PySem.Str) = some (.ref fa) := by
      have e : (HandSHeadRun.topDef (OpenLaw.row PySem.Challenge.rw_wholeworths_k85_whole_patterns_there_and).prog 34).name = ("law" : PySem.Str) := by kernel_rfl
      rw [← e]
      exact hmg0
    exact ⟨K, KX, K85.facts rfl KX G hmg c⟩
