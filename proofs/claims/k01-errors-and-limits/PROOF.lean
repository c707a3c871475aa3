import PyProof.Rows.All
import Wide.All
import OpenK.AllK
import Wide.FinOn
import HandS.Lambda
import HandS.ForMost
import HandS.TupAny
import HandS.Conv
import HandS.Codes
import PyProof.ReprRoads
import HandS.Defaults
import HandS.ExcValue
import HandS.HeadHook4
import HandS.Deep
import HandS.Wide
import HandS.IsInst
import HandS.DictComp
import HandS.MakeKw
import HandS.MakeKwOnly
import HandS.EndBits
import HandS.RaiseMore
import HandS.More
import HandS.Property
import HandS.ClsMeth
import HandS.Star
import HandS.Small
import KE.GoesEnum
import HandS.Iter
import HandS.SetKeys
import HandS.SetFor
import HandS.Strs
import HandS.FStr
import KE.KStar
import KE.KCallOwn
import OpenK.KOps
import PyProof.InstNe
import HandS.OwnEq
import HandS.Head0
import HandS.Head1
import HandS.Head2
import HandS.HeadEnd
import HandS.HeadHook1
import HandS.HeadHook2
import HandS.HeadNt
import HandS.WordsDict
import PyProof.StrBlock2
import KE.KIndexOf
import HandS.Style
import HandS.Sort
import KE.KDictList
import HandS.GenOver
import HandS.GenCall
import HandS.GenList
import PyProof.CallFns
import KE.SortData
import KE.KUnpack
import HandS.Exc
import KE.KExcSuper
import HandS.HotCalls
import KE.KExcIs
import KE.DatumIndex
import KE.DataFind
import KE.SortKeyHeap
import OpenK.KWalk
import PyProof.ReprNest
import PyProof.StrHeap
import HandS.TupMul
import HandS.TupSets
import PyProof.RangeFor
import PyProof.SliceStr2
import PyProof.P3Eq
import PyProof.ReprText
import PySem.Challenge.RW_saidbyties_k01_errors_and_limits
set_option Elab.async false
set_option linter.all false
set_option maxRecDepth 100000
set_option maxHeartbeats 0
namespace Kv
open PySem PySem.Spec PyProof.Rows L2 ClX
def lamD : List (Str × Addr) := []
def obsV (fa : List He.Fa) (fn : List He5.DefA) (ex : List (PySem.W.Frag → Bool)) (K : PySem.W.Frag) : He.AlD := ((He5.obsA fa fn K).1 && ex.all fun f => f K, (He5.obsA fa fn K).2)
def SaysV (fa : List He.Fa) (fn : List He5.DefA) (ex : List (PySem.W.Frag → Bool)) (K : PySem.W.Frag) : Prop := obsV fa fn ex K = He5.valA fn
def bitA (m a : Nat) : Bool := Nat.beq (Nat.land (Nat.shiftRight m a) 1) 0
def newA : List Addr → Nat → List Addr → Nat × List Addr
  | [], m, acc => (m, acc)
  | a :: r, m, acc => match bitA m a with
    | true => newA r (Nat.lor m (Nat.shiftLeft 1 a)) (a :: acc)
    | false => newA r m acc
def refA (g : Addr → Option Obj) (a : Addr) : List Addr := match g a with
  | some o => He.refsD o
  | none => []
def lvlA (g : Addr → Option Obj) : Nat → Nat → List Addr → List Addr → List Addr
  | 0, _, _, acc => acc
  | n + 1, m, fr, acc => match newA (fr.flatMap (refA g)) m [] with
    | (m', fr') => lvlA g n m' fr' (fr' ++ acc)
def asW (g : Addr → Option Obj) (n : Nat) : List Addr := lvlA g n (Nat.shiftLeft 1 mainGlobals) [mainGlobals] [mainGlobals, cStatics, sysModules]
section
open PySem.W
def isSup : Stmt → Bool
  | .Expr (.Call (.Attribute (.Call (.Name n _) [] [] _) m a) [] [] p) _ => decide (n = ("super" : Str)) && (decide (m = ("__init__" : Str)) && (a.endLine == p.line))
  | _ => false
def isKeep (f : Str) : Stmt → Bool
  | .Assign [.Attribute (.Name a _) b _] (.Name c _) _ => decide (a = ("self" : Str)) && (decide (b = f) && decide (c = f))
  | _ => false
def isPars (f : Str) : Arguments → Bool
  | ⟨[], [⟨a, _, _⟩, ⟨b, _, _⟩], none, [], [], none, []⟩ => decide (a = ("self" : Str)) && decide (b = f)
  | _ => false
def isBody (f : Str) : FuncBody → Bool
  | .stmts [a, b] => isSup a && isKeep f b
  | _ => false
def scopeB (f : Str) (sc : Scope) : Bool := decide (sc.kind = .function) && (!sc.isCoroutine && (!sc.isGenerator && (sc.names.all (fun x => !decide (x.2 = .cell)) && (decide (sc.names.lookup ("self" : Str) = some .local) && (decide (sc.names.lookup f = some .local) &&
  (decide (sc.names.lookup ("super" : Str) = some .globalImplicit) && decide (sc.names.lookup ("__class__" : Str) = some .free)))))))
def cloB (K : PySem.W.Frag) (C : Addr) : List (Str × Addr) → Bool
  | [(n, c)] => decide (n = ("__class__" : Str)) && (match K.lookup c with
    | some ⟨_, _, .cell (some (.ref D)), _⟩ => decide (D = C)
    | _ => false)
  | _ => false
def fileB (K : PySem.W.Frag) (file : Str) : Value → Bool
  | .ref c => (match K.lookup c with
    | some ⟨_, _, .fields vs, _⟩ => (match (vs[2]? : Option Value) with
      | some (.str z _) => decide (z = file)
      | _ => false)
    | _ => false)
  | _ => false
def initB (K : PySem.W.Frag) (file : Str) (C : Addr) (f : Str) (fI : Addr) : Bool := match K.lookup fI with
  | some ⟨_, _, .func fd, _⟩ => isPars f fd.params && (isBody f fd.body && (scopeB f fd.scope && (decide (fd.globals = mainGlobals) && (decide (fd.builtins = builtinsNs) && (cloB K C fd.closure && (decide (fd.defaults = .none) && (PySem.W.codeIn K fd.code fd.qualname && fileB K file fd.code)))))))
  | _ => false
def xcB (K : PySem.W.Frag) (file : Str) (x f : Str) (B newId initId : String) (bm : List Value) : Bool :=
  excInitIn K (He.ga K x) bm newId && (excOver K (He.ga K x) bm && (decide (findIn K (.ref (He.ga K x)) "__init__" = some (some (.ref (He.ma K (He.ga K x) "__init__")))) && (isFn K (.ref (He.ma K (He.ga K x) "__init__")) && (decide (findIn K (.ref (He.ga K x)) "__setattr__" = some (some (.builtin "object.__setattr__"))) &&
  (decide (takerIn K (He.ga K x) f = some none) && (hasDictIn K (He.ga K x) && (decide (ks_superIn K (He.ga K x) (He.ga K x) "__init__" = some (some (.builtin initId))) && (decide (subIn K (.ref (He.ga K x)) (.type B) = some true) && (decide (nsIn K cStatics "thirdparty.any" = some none) &&
  (decide (mroIn K (He.ga K x) (.ref (He.ga K x)) = some true) && (decide (nsIn K mainGlobals "super" = some none) && (decide (subIn K (.ref (He.ga K x)) (.type "BaseException") = some true) && (decide (typeIn K (.ref (He.ga K x)) = some (.type "type")) && (keepIn K (.ref (He.ga K x)) &&
  (decide (nsIn K mainGlobals x = some (some (.ref (He.ga K x)))) && initB K file (He.ga K x) f (He.ma K (He.ga K x) "__init__"))))))))))))))))
end
def lamB (g : Addr → Option Obj) (K : PySem.W.Frag) : Bool := lamD.all fun p => PySem.W.codeHdIn K (He.codeOf K (p.1, none)) p.2 && (match g p.2 with
  | some o => He.emptyTab o
  | none => false)
structure LamK (K : PySem.W.Frag) (h : Heap) : Prop where
  empty : ∀ p ∈ lamD, h.get? p.2 = some { cls := .none, data := .fields #[] }
  out : ∀ p ∈ lamD, K.lookup p.2 = none
  hd : ∀ p ∈ lamD, PySem.W.codeHdIn K (He.codeOf K (p.1, none)) p.2 = true
theorem lamB_ok {h : Heap} {as : List Addr} (e : lamB h.get? (He.frT h.get? as) = true) : LamK (He.frT h.get? as) h := by
  have key : ∀ p ∈ lamD, PySem.W.codeHdIn (He.frT h.get? as) (He.codeOf (He.frT h.get? as) (p.1, none)) p.2 = true ∧ ∃ o, h.get? p.2 = some o ∧ He.emptyTab o = true := fun p hp => by
    obtain ⟨h1, h2⟩ := He.ba (List.all_eq_true.mp e p hp)
    refine ⟨h1, ?_⟩
    cases q : h.get? p.2 with
    | none => rw [q] at h2; cases h2
    | some o => rw [q] at h2; exact ⟨o, rfl, h2⟩
  refine ⟨fun p hp => ?_, fun p hp => ?_, fun p hp => (key p hp).1⟩
  · obtain ⟨_, o, q, z⟩ := key p hp
    rw [q, He.emptyTab_eq z]
  · obtain ⟨_, o, q, z⟩ := key p hp
    exact He.frT_none q z
theorem LamK.keeps {K : PySem.W.Frag} {h h' : Heap} (L : LamK K h) (k : ∀ b o, h.get? b = some o → h'.get? b = some o) : LamK K h' := ⟨fun p hp => k _ _ (L.empty p hp), L.out, L.hd⟩
def obsLG (n : Nat) (fa : List He.Fa) (fn : List He5.DefA) (ex : List (PySem.W.Frag → Bool)) (g : Addr → Option Obj) : He.AlD := ((obsV fa fn ex (He.frT g (asW g n))).1 && lamB g (He.frT g (asW g n)), (obsV fa fn ex (He.frT g (asW g n))).2)
theorem obsLG_inv {n : Nat} {fa : List He.Fa} {fn : List He5.DefA} {ex : List (PySem.W.Frag → Bool)} {g : Addr → Option Obj} (e : obsLG n fa fn ex g = He5.valA fn) : obsV fa fn ex (He.frT g (asW g n)) = He5.valA fn ∧ lamB g (He.frT g (asW g n)) = true := by
  unfold obsLG He5.valA at e
  obtain ⟨e1, e2⟩ := Prod.mk.inj e
  obtain ⟨e3, e4⟩ := He.ba e1
  refine ⟨?_, e4⟩
  unfold He5.valA
  exact Prod.ext e3 e2
def hookL (n : Nat) (fa : List He.Fa) (fn : List He5.DefA) (ex : List (PySem.W.Frag → Bool)) : PySem.W.Hook where
  α := He.AlD
  obs := fun s => obsLG n fa fn ex s.heap.get?
  val := fun _ => He5.valA fn
  says := fun _ h => ∃ K : PySem.W.Frag, K.In h ∧ SaysV fa fn ex K ∧ LamK K h
  of := fun _ _ e => ⟨_, He.frT_in, (obsLG_inv e).1, lamB_ok (obsLG_inv e).2⟩
  keeps := fun _ _ _ ⟨K, hK, c, L⟩ k => ⟨K, PySem.W.Frag.In.keeps hK k, c, L.keeps k⟩
theorem obsLG_eq {n : Nat} {fa : List He.Fa} {fn : List He5.DefA} {ex : List (PySem.W.Frag → Bool)} {g : Addr → Option Obj} {s : Shared} (h : ∀ a, g a = s.heap.get? a) : obsLG n fa fn ex g = (hookL n fa fn ex).obs s := by
  have e : g = s.heap.get? := funext h
  rw [e]
  rfl
abbrev obL (n : Nat) (fa : List He.Fa) (fn : List He5.DefA) (ex : List (PySem.W.Frag → Bool)) (s : PySem.W.SharedT) : He.AlD := obsLG n fa fn ex (HandSHeadRun.getT s)
theorem obsL_join {n : Nat} {fa1 fa2 : List He.Fa} {fn1 fn2 : List He5.DefA} {ex1 ex2 : List (PySem.W.Frag → Bool)} {g : Addr → Option Obj} (h1 : obsLG n fa1 fn1 ex1 g = He5.valA fn1) (h2 : obsLG n fa2 fn2 ex2 g = He5.valA fn2) : obsLG n (fa1 ++ fa2) (fn1 ++ fn2) (ex1 ++ ex2) g = He5.valA (fn1 ++ fn2) := by
  obtain ⟨a, l⟩ := obsLG_inv h1
  obtain ⟨b, _⟩ := obsLG_inv h2
  unfold obsLG
  rw [l, Bool.and_true]
  unfold obsV He5.obsA He5.valA at a b ⊢
  obtain ⟨a1, b1⟩ := Prod.mk.inj a
  obtain ⟨a2, b2⟩ := Prod.mk.inj b
  simp only [List.map_append, List.all_append]
  dsimp only at a1 a2 b1 b2
  rw [b1, b2]
  simp only [Bool.and_eq_true] at a1 a2
  obtain ⟨⟨p1, p2⟩, p3⟩ := a1
  obtain ⟨⟨q1, q2⟩, q3⟩ := a2
  rw [p1, p2, p3, q1, q2, q3]
  rfl
theorem runs_joinL {r : PySem.W.OpenRow} {q : Program} {M n : Nat} {loose : List PySem.Str} {w : World} {fa1 fa2 : List He.Fa} {fn1 fn2 : List He5.DefA} {ex1 ex2 : List (PySem.W.Frag → Bool)}
    (h1 : HandSHeadRun.RunEq r q (hookL n fa1 fn1 ex1) (obL n fa1 fn1 ex1) M loose w) (h2 : HandSHeadRun.RunEq r q (hookL n fa2 fn2 ex2) (obL n fa2 fn2 ex2) M loose w) :
    HandSHeadRun.RunEq r q (hookL n (fa1 ++ fa2) (fn1 ++ fn2) (ex1 ++ ex2)) (obL n (fa1 ++ fa2) (fn1 ++ fn2) (ex1 ++ ex2)) M loose w := by
  intro os
  have a := h1 os
  have b := h2 os
  revert a b
  generalize HandSHeadRun.endF (HandSHeadRun.stepQ (HandSHeadRun.denQ HandSHeadRun.tabQ) r.prog w) M r.prog w os = e
  cases e with
  | none => intro a; cases a
  | some s =>
    intro a b
    simp only [Option.map_some] at a b ⊢
    injection a with a
    injection b with b
    obtain ⟨a1, a⟩ := Prod.mk.inj a
    obtain ⟨a2, a3⟩ := Prod.mk.inj a
    obtain ⟨b1, b⟩ := Prod.mk.inj b
    obtain ⟨b2, b3⟩ := Prod.mk.inj b
    rw [a1, a2]
    exact congrArg some (congrArg (Prod.mk _) (congrArg (Prod.mk _) (obsL_join a3 b3)))
def veM : List Value := [.type "ValueError", .type "Exception", .type "BaseException", .type "object"]
def leM : List Value := [.type "LookupError", .type "Exception", .type "BaseException", .type "object"]
def aeM : List Value := [.type "ArithmeticError", .type "Exception", .type "BaseException", .type "object"]
def bltB (K : PySem.W.Frag) : Bool := match PySem.W.nsIn K mainGlobals "__builtins__" with
  | some (some (.ref bm)) => decide (bm ≠ builtinsNs) && (decide (bm ≠ mainGlobals) && ((lamD.all fun p => decide (bm ≠ p.2)) && (match K.lookup bm with
    | some ⟨.type c, some d, .plain, _⟩ => decide (c = "module") && decide (d = builtinsNs)
    | _ => false)))
  | _ => false
def errN : List (Str × Str) := [("InvalidText", "WrongValue"), ("InvalidNumber", "WrongValue"), ("InvalidRelation", "WrongValue"), ("InvalidTable", "WrongValue"), ("InvalidSaying", "WrongValue"), ("InvalidRow", "WrongValue"), ("InvalidShown", "WrongValue"), ("InvalidOrder", "WrongValue"), ("InvalidTie", "WrongValue"), ("InvalidName", "WrongValue"), ("InvalidWish", "WrongValue"), ("NotABook", "WrongValue"), ("InvalidRows", "WrongValue"), ("InvalidExchanges", "WrongValue"), ("InvalidWishes", "WrongValue"), ("UnknownName", "WrongName"), ("InUse", "WrongName"), ("TooMany", "NoAnswer"), ("Broken", "NoAnswer"), ("NothingToUndo", "NoAnswer")]
def errX : List Str := ["InvalidText", "InvalidNumber", "InvalidRelation", "InvalidTable", "InvalidSaying", "InvalidRow", "InvalidShown", "InvalidOrder", "InvalidTie", "InvalidName", "InvalidWish", "NotABook", "InvalidRows", "InvalidExchanges", "InvalidWishes", "UnknownName", "InUse", "TooMany", "Broken", "NothingToUndo", "WrongValue", "WrongName", "NoAnswer"]
def aboveE (c : Str) : Str := (errN.lookup c).getD c
def subE (c x : Str) : Bool := decide (c = x) || decide (aboveE c = x)
def subT (c : Str) (T : String) : Bool := (decide (aboveE c = "WrongValue") && decide (T = "ValueError")) || ((decide (aboveE c = "WrongName") && decide (T = "LookupError")) || (decide (aboveE c = "NoAnswer") && decide (T = "ArithmeticError")))
def errB (K : PySem.W.Frag) (c : Str) : Bool := (PySem.W.clsIn K (He.ga K c)).isSome && (decide (PySem.W.findIn K (.ref (He.ga K c)) "__getattribute__" = some (some (.builtin "BaseException.__getattribute__"))) && (decide (PySem.W.findIn K (.ref (He.ga K c)) "__getattr__" = some none) && (decide (PySem.W.subIn K (.ref (He.ga K c)) (.type "BaseException") = some true) &&
  (decide (PySem.W.findIn K (.ref (He.ga K c)) "__class__" = some (some (.builtin "object.__class__"))) && (decide (PySem.W.specialIn K (.builtin "object.__class__") "__get__" = some (some (.builtin "getset_descriptor.__get__"))) && (decide (PySem.W.takesIn K (.builtin "object.__class__") = some true) &&
  (decide (PySem.W.mroIn K (He.ga K c) (.type "object") = some true) && (PySem.W.hasDictIn K (He.ga K c) && ((errX.all fun x => decide (PySem.W.kitOne K (.ref (He.ga K c)) (.ref (He.ga K x)) = some (subE c x))) && ((["ValueError", "LookupError", "ArithmeticError"].all fun T => decide (PySem.W.kitOne K (.ref (He.ga K c)) (.type T) = some (subT c T))) &&
  (decide (PySem.W.exmAny K (.ref (He.ga K c)) [.ref (He.ga K "WrongValue"), .ref (He.ga K "WrongName"), .ref (He.ga K "NoAnswer")] = some true) && (["given", "index", "shown"] : List Str).all fun n => decide (PySem.W.findIn K (.ref (He.ga K c)) n = some none))))))))))))
def xnB (K : PySem.W.Frag) (x : Str) (newId initId : String) (bm : List Value) : Bool :=
  PySem.W.excInitIn K (He.ga K x) bm newId && (decide (PySem.W.findIn K (.ref (He.ga K x)) "__init__" = some (some (.builtin initId))) && (decide (PySem.W.subIn K (.ref (He.ga K x)) (.type "BaseException") = some true) && (decide (PySem.W.typeIn K (.ref (He.ga K x)) = some (.type "type")) && PySem.W.keepIn K (.ref (He.ga K x)))))
section
open PySem.W
def isPars2 : Arguments → Bool
  | ⟨[], [⟨a, _, _⟩, ⟨b, _, _⟩, ⟨c, _, _⟩], none, [], [], none, []⟩ => decide (a = ("self" : Str)) && (decide (b = ("index" : Str)) && decide (c = ("shown" : Str)))
  | _ => false
def isBody2 : FuncBody → Bool
  | .stmts [a, b, c] => isSup a && (isKeep "index" b && isKeep "shown" c)
  | _ => false
def initB2 (K : PySem.W.Frag) (file : Str) (C : Addr) (fI : Addr) : Bool := match K.lookup fI with
  | some ⟨_, _, .func fd, _⟩ => isPars2 fd.params && (isBody2 fd.body && (scopeB "index" fd.scope && (decide (fd.scope.names.lookup ("shown" : Str) = some .local) && (decide (fd.globals = mainGlobals) && (decide (fd.builtins = builtinsNs) && (cloB K C fd.closure && (decide (fd.defaults = .none) && (PySem.W.codeIn K fd.code fd.qualname && fileB K file fd.code))))))))
  | _ => false
def xc2B (K : PySem.W.Frag) (file : Str) (x : Str) (B newId initId : String) (bm : List Value) : Bool :=
  excInitIn K (He.ga K x) bm newId && (excOver K (He.ga K x) bm && (decide (findIn K (.ref (He.ga K x)) "__init__" = some (some (.ref (He.ma K (He.ga K x) "__init__")))) && (isFn K (.ref (He.ma K (He.ga K x) "__init__")) && (decide (findIn K (.ref (He.ga K x)) "__setattr__" = some (some (.builtin "object.__setattr__"))) &&
  (decide (takerIn K (He.ga K x) "index" = some none) && (decide (takerIn K (He.ga K x) "shown" = some none) && (hasDictIn K (He.ga K x) && (decide (ks_superIn K (He.ga K x) (He.ga K x) "__init__" = some (some (.builtin initId))) && (decide (subIn K (.ref (He.ga K x)) (.type B) = some true) && (decide (nsIn K cStatics "thirdparty.any" = some none) &&
  (decide (mroIn K (He.ga K x) (.ref (He.ga K x)) = some true) && (decide (nsIn K mainGlobals "super" = some none) && (decide (subIn K (.ref (He.ga K x)) (.type "BaseException") = some true) && (decide (typeIn K (.ref (He.ga K x)) = some (.type "type")) && (keepIn K (.ref (He.ga K x)) &&
  initB2 K file (He.ga K x) (He.ma K (He.ga K x) "__init__"))))))))))))))))
end
def sysB (K : PySem.W.Frag) : Bool := (K.lookup sysModules).isSome
def top (i : Nat) : Stmt := PySem.Challenge.pw_saidbyties_k01_errors_and_limits.main.body.getD i (.Pass ⟨0, 0, 0, 0⟩)
def fileN : Str := PySem.Challenge.pw_saidbyties_k01_errors_and_limits.main.file
abbrev s__law_error : Stmt := top 34
abbrev s__law_errors : Stmt := top 37
abbrev s__law_field : Stmt := top 35
abbrev s__law_draw : Stmt := top 32
abbrev s__law_of : Stmt := top 33
abbrev s__law_odd : Stmt := top 36
abbrev s__law_right : Stmt := top 38
abbrev s__law_spring : Stmt := top 31
abbrev s_law : Stmt := top 39
abbrev Rw : PySem.W.OpenRow := PySem.W.OpenLaw.row PySem.Challenge.rw_saidbyties_k01_errors_and_limits
def lo0 : List PySem.Str := ["WrongValue", "InvalidText", "InvalidNumber", "InvalidRelation", "InvalidTable", "InvalidSaying", "InvalidRow", "InvalidShown", "InvalidOrder", "InvalidTie", "InvalidName", "InvalidWish", "NotABook", "InvalidRows", "InvalidExchanges", "InvalidWishes", "WrongName", "UnknownName", "InUse", "NoAnswer", "TooMany", "Broken", "NothingToUndo", "MOST_WIDTH", "MOST_RELATIONS", "MOST_ROWS", "MOST_PLACES", "MOST_VARIABLES", "MOST_EXCHANGES", "_law_spring"]
def lo1 : List PySem.Str := ["_law_draw", "_law_of", "_law_error", "_law_field", "_law_odd", "_law_errors", "_law_right"]
def loo : List PySem.Str := lo0 ++ lo1
def dd__law_error : He5.DefA := ⟨fun K => He.ga K "_law_error", "_law_error", "_law_error", defArgs s__law_error, defBody s__law_error, defScope s__law_error, [], []⟩
def dd__law_errors : He5.DefA := ⟨fun K => He.ga K "_law_errors", "_law_errors", "_law_errors", defArgs s__law_errors, defBody s__law_errors, defScope s__law_errors, [], []⟩
def dd__law_field : He5.DefA := ⟨fun K => He.ga K "_law_field", "_law_field", "_law_field", defArgs s__law_field, defBody s__law_field, defScope s__law_field, [], []⟩
def dd__law_draw : He5.DefA := ⟨fun K => He.ga K "_law_draw", "_law_draw", "_law_draw", defArgs s__law_draw, defBody s__law_draw, defScope s__law_draw, [], []⟩
def dd__law_of : He5.DefA := ⟨fun K => He.ga K "_law_of", "_law_of", "_law_of", defArgs s__law_of, defBody s__law_of, defScope s__law_of, [], []⟩
def dd__law_odd : He5.DefA := ⟨fun K => He.ga K "_law_odd", "_law_odd", "_law_odd", defArgs s__law_odd, defBody s__law_odd, defScope s__law_odd, [], []⟩
def dd__law_right : He5.DefA := ⟨fun K => He.ga K "_law_right", "_law_right", "_law_right", defArgs s__law_right, defBody s__law_right, defScope s__law_right, [], []⟩
def dd__law_spring : He5.DefA := ⟨fun K => He.ga K "_law_spring", "_law_spring", "_law_spring", defArgs s__law_spring, defBody s__law_spring, defScope s__law_spring, [], []⟩
def dd_law : He5.DefA := ⟨fun K => He.ga K "law", "law", "law", defArgs s_law, defBody s_law, defScope s_law, [], []⟩
def faP0 : List He.Fa := [.glo "_law_error", .glo "_law_errors", .glo "_law_field", .glo "_law_draw", .glo "_law_of", .glo "_law_odd", .glo "_law_right", .glo "_law_spring", .glo "law", .glo "InvalidText", .glo "InvalidNumber", .glo "InvalidRelation", .glo "InvalidTable", .glo "InvalidSaying", .glo "InvalidRow", .glo "InvalidShown", .glo "InvalidOrder", .glo "InvalidTie", .glo "InvalidName", .glo "InvalidWish", .glo "NotABook", .glo "InvalidRows", .glo "InvalidExchanges", .glo "InvalidWishes", .glo "UnknownName", .glo "InUse", .glo "TooMany", .glo "Broken", .glo "NothingToUndo", .glo "WrongValue", .glo "WrongName", .glo "NoAnswer", .free "ArithmeticError", .free "LookupError", .free "ValueError", .free "abs", .free "all", .free "divmod", .free "int", .free "isinstance", .free "len", .free "max", .free "min", .free "range", .free "repr", .int "MOST_EXCHANGES" 5, .int "MOST_PLACES" 4, .int "MOST_RELATIONS" 4, .int "MOST_ROWS" 9, .int "MOST_VARIABLES" 99, .int "MOST_WIDTH" 3]
def fnP0 : List He5.DefA := [dd__law_error, dd__law_errors, dd__law_field, dd__law_draw, dd__law_of, dd__law_odd, dd__law_right, dd__law_spring, dd_law]
def exP0 : List (PySem.W.Frag → Bool) := [fun K => xc2B K fileN "Broken" "ArithmeticError" "ArithmeticError.__new__" "ArithmeticError.__init__" aeM, fun K => errB K "Broken", fun K => xcB K fileN "InUse" "index" "LookupError" "LookupError.__new__" "LookupError.__init__" leM, fun K => errB K "InUse", fun K => xcB K fileN "InvalidExchanges" "index" "ValueError" "ValueError.__new__" "ValueError.__init__" veM, fun K => errB K "InvalidExchanges", fun K => xcB K fileN "InvalidName" "given" "ValueError" "ValueError.__new__" "ValueError.__init__" veM, fun K => errB K "InvalidName", fun K => xcB K fileN "InvalidNumber" "given" "ValueError" "ValueError.__new__" "ValueError.__init__" veM, fun K => errB K "InvalidNumber", fun K => xcB K fileN "InvalidOrder" "given" "ValueError" "ValueError.__new__" "ValueError.__init__" veM]
def faP1 : List He.Fa := []
def fnP1 : List He5.DefA := []
def exP1 : List (PySem.W.Frag → Bool) := [fun K => errB K "InvalidOrder", fun K => xcB K fileN "InvalidRelation" "given" "ValueError" "ValueError.__new__" "ValueError.__init__" veM, fun K => errB K "InvalidRelation", fun K => xcB K fileN "InvalidRow" "given" "ValueError" "ValueError.__new__" "ValueError.__init__" veM, fun K => errB K "InvalidRow", fun K => xcB K fileN "InvalidRows" "index" "ValueError" "ValueError.__new__" "ValueError.__init__" veM, fun K => errB K "InvalidRows", fun K => xcB K fileN "InvalidSaying" "given" "ValueError" "ValueError.__new__" "ValueError.__init__" veM, fun K => errB K "InvalidSaying", fun K => xcB K fileN "InvalidShown" "given" "ValueError" "ValueError.__new__" "ValueError.__init__" veM, fun K => errB K "InvalidShown", fun K => xcB K fileN "InvalidTable" "given" "ValueError" "ValueError.__new__" "ValueError.__init__" veM, fun K => errB K "InvalidTable", fun K => xcB K fileN "InvalidText" "given" "ValueError" "ValueError.__new__" "ValueError.__init__" veM, fun K => errB K "InvalidText", fun K => xcB K fileN "InvalidTie" "given" "ValueError" "ValueError.__new__" "ValueError.__init__" veM, fun K => errB K "InvalidTie", fun K => xcB K fileN "InvalidWish" "given" "ValueError" "ValueError.__new__" "ValueError.__init__" veM, fun K => errB K "InvalidWish", fun K => xcB K fileN "InvalidWishes" "index" "ValueError" "ValueError.__new__" "ValueError.__init__" veM, fun K => errB K "InvalidWishes", fun K => xnB K "NoAnswer" "ArithmeticError.__new__" "ArithmeticError.__init__" aeM, fun K => errB K "NoAnswer", fun K => xcB K fileN "NotABook" "given" "ValueError" "ValueError.__new__" "ValueError.__init__" veM, fun K => errB K "NotABook", fun K => xnB K "NothingToUndo" "ArithmeticError.__new__" "ArithmeticError.__init__" aeM, fun K => errB K "NothingToUndo", fun K => xcB K fileN "TooMany" "given" "ArithmeticError" "ArithmeticError.__new__" "ArithmeticError.__init__" aeM, fun K => errB K "TooMany", fun K => xcB K fileN "UnknownName" "given" "LookupError" "LookupError.__new__" "LookupError.__init__" leM, fun K => errB K "UnknownName", fun K => xnB K "WrongName" "LookupError.__new__" "LookupError.__init__" leM, fun K => errB K "WrongName", fun K => xnB K "WrongValue" "ValueError.__new__" "ValueError.__init__" veM, fun K => errB K "WrongValue", fun K => bltB K , fun K => sysB K ]
def faa : List He.Fa := faP0 ++ (faP1)
def fnn : List He5.DefA := fnP0 ++ (fnP1)
def exx : List (PySem.W.Frag → Bool) := exP0 ++ (exP1)
abbrev hkk : PySem.W.Hook := hookL 7 faa fnn exx
def obb (s : PySem.W.SharedT) : He.AlD := obsLG 7 faa fnn exx (HandSHeadRun.getT s)
theorem obb_eq (s : PySem.W.SharedT) : obb s = hkk.obs s.abs := obsLG_eq (HandSHeadRun.getT_eq s)
theorem runP0 (w : World) : HandSHeadRun.RunEq Rw (PySem.W.view Rw.prog [39]) (hookL 7 faP0 fnP0 exP0) (obL 7 faP0 fnP0 exP0) 16000 loo w := by
  intro os
  kernel_rfl
theorem runP1 (w : World) : HandSHeadRun.RunEq Rw (PySem.W.view Rw.prog [39]) (hookL 7 faP1 fnP1 exP1) (obL 7 faP1 fnP1 exP1) 16000 loo w := by
  intro os
  kernel_rfl
theorem runs (w : World) : HandSHeadRun.RunEq Rw (PySem.W.view Rw.prog [39]) hkk obb 16000 loo w := runs_joinL (runP0 w) (runP1 w)
end Kv
namespace Kv
open PySem
def lamT : List (Addr × Str) := lamD.map fun p => (p.2, (p.1 ++ ".<locals>.") ++ "<lambda>")
end Kv
namespace Kv
open PySem PySem.Spec PyProof.Rows L2
section
variable {X : Cx} {es : List Expr} {t : TA} {pos : Pos} {x1 : ExprContext} {pins : List (Addr × Obj)} {σ : L2.St} {H : Hp} {s : Shared}
abbrev tupO (us : List Value) : Obj := { cls := .type "tuple", data := .seq us.toArray }
theorem laidT {xs : List V} {us : List Value} (I : Inv X pins σ H s) (z : xs.length ≤ sizeLine) (r : Vals xs us) : Inv X pins σ (upd H s.heap.objs.size (.frz (tupO us) (.tup xs))) { s with heap := s.heap.push (tupO us) } :=
  I.laid (t' := s.toks) (o := .frz (tupO us) (.tup xs)) (fun _ _ e => Heap.get?_push_of_some _ e) (Nat.le_refl _) ⟨Heap.get?_push_size _ rfl, z, us, r, ⟨_, Heap.get?_push_size _ rfl, rfl, _, rfl⟩⟩
def NewT (H : Hp) (xs : List V) (Q : VK) : Prop := ∀ (p : Addr) (o : Obj), H p = none → o.dict = none → Q (.ref p) (upd H p (.frz o (.tup xs)))
theorem newT {xs : List V} {us : List Value} {Q : VK} (I : Inv X pins σ H s) (z : xs.length ≤ sizeLine) (r : Vals xs us) (q : NewT H xs Q) : EP X pins σ Q (.ref s.heap.objs.size) { s with heap := s.heap.push (tupO us) } :=
  ⟨.ref s.heap.objs.size, _, laidT I z r, rfl, q _ _ (I.hok.fresh (Nat.le_refl _)) rfl⟩
def tTupN (t : TA) : TE := fun σ H Q => t σ H fun xs H1 => xs.length ≤ sizeLine ∧ NewT H1 xs Q
theorem pe_tupN {k} (h : PA X es t) : PE X (.Tuple es k pos) (tTupN t) := by
  refine ⟨fun pins s σ H Q I hq => ?_⟩
  exact wpAny_Tuple_spliced (thn (h.run pos pins s σ H _ I hq) fun us s1 ⟨xs, H1, I1, r, z, q⟩ => ⟨by rw [← r.length]; exact z, newT I1 z r q⟩)
def rCatN (K : PySem.W.Frag) : R2 := fun x y H Q => ∃ a b xs ys, x = .ref a ∧ y = .ref b ∧ SqT K H a xs ∧ SqT K H b ys ∧ xs.length + ys.length ≤ sizeLine ∧
  (xs = [] → Q (.ref b) H) ∧ (xs ≠ [] → ys = [] → Q (.ref a) H) ∧ (xs ≠ [] → ys ≠ [] → NewT H (xs ++ ys) Q)
theorem op_catN : OpR X (binaryOp .Add) (rCatN X.K) := by
  intro pins s σ H x y v u Q I rx ry h
  obtain ⟨a, b, xs, ys, rfl, rfl, ha, hb, hz, q0, q1, q2⟩ := h
  cases rx
  cases ry
  obtain ⟨us, ra, pa, _⟩ := I.tuple ha
  obtain ⟨ws, rb, pb, _⟩ := I.tuple hb
  by_cases hx : xs = []
  · subst hx
    cases ra
    exact cat_tup0 pa pb ⟨.ref b, H, I, rfl, q0 rfl⟩
  · refine HT.cat_tup pa pb (fun z => hx (ra.nil_iff.mp z)) (fun z => ⟨.ref a, H, I, rfl, q1 hx (rb.nil_iff.mp z)⟩) (fun z => ?_) (by rw [← ra.length, ← rb.length]; exact hz)
    exact newT I (by rw [List.length_append]; exact hz) (ra.append rb) (q2 hx fun w => z (rb.nil_iff.mpr w))
theorem call_divmodN : CallR X (.builtin "divmod") (fun xs H Q => ∃ i j, xs = [.int i, .int j] ∧ CDiv i j ∧ NewT H [.int (i / j), .int (i % j)] Q) := by
  intro pins s σ H xs us Q I r h
  obtain ⟨i, j, rfl, ⟨d1, d2⟩, q⟩ := h
  obtain ⟨u, w', rfl, ⟨t, rfl⟩, ⟨t', rfl⟩⟩ := vals2 r
  refine divmod_int (by omega) ?_ (.inl (PyProof.noPylong_small (by omega)))
  rw [Int.fdiv_eq_ediv_of_nonneg i (by omega), Int.fmod_eq_emod_of_nonneg i (by omega)]
  refine ⟨.ref s.heap.objs.size, _, ?_, rfl, q _ (tupO [.int (i / j) s.toks, .int (i % j) (s.toks + 1)]) (I.hok.fresh (Nat.le_refl _)) rfl⟩
  have z : [V.int (i / j), V.int (i % j)].length ≤ sizeLine := by show 2 ≤ sizeLine; rw [sizeLine_eq]; decide
  exact I.laid (o := .frz (tupO [.int (i / j) s.toks, .int (i % j) (s.toks + 1)]) (.tup [.int (i / j), .int (i % j)])) (fun b o e => Heap.get?_push_of_some _ e) (Nat.le_refl _) ⟨Heap.get?_push_size _ rfl, z, [.int (i / j) s.toks, .int (i % j) (s.toks + 1)], .cons ⟨_, rfl⟩ (.cons ⟨_, rfl⟩ .nil), ⟨_, Heap.get?_push_size s.heap rfl, rfl, 0, rfl⟩⟩
def rSlN (K : PySem.W.Frag) : V → Option Int → Option Int → Hp → VK → Prop := fun x lo hi H Q => ∃ a xs, x = .ref a ∧ SqT K H a xs ∧
  (HT.sIx xs.length 0 lo = 0 ∧ HT.sIx xs.length xs.length hi = xs.length → Q (.ref a) H) ∧ (¬ (HT.sIx xs.length 0 lo = 0 ∧ HT.sIx xs.length xs.length hi = xs.length) → NewT H (cutV xs lo hi) Q)
theorem sl_tupN : SlR X (rSlN X.K) := by
  intro pins s σ H x v vl vu lo hi sl Q I rx hs pl pu h
  obtain ⟨a, xs, rfl, hx, q1, q2⟩ := h
  cases rx
  obtain ⟨us, r, ht, z⟩ := I.tuple hx
  have l : us.toArray.size = xs.length := by rw [List.size_toArray]; exact r.length.symm
  refine ⟨"tuple", _, PyProof.Rows.slot_tuple_getitem.lookup, ht.typeIs, ?_⟩
  by_cases hw : HT.sIx xs.length 0 lo = 0 ∧ HT.sIx xs.length xs.length hi = xs.length
  · exact getItem_tuple_whole ht hs pl pu (by rw [l]; exact hw) ⟨.ref a, H, I, rfl, q1 hw⟩
  · refine HT.getItem_tuple_cut ht hs pl pu (by rw [l]; exact hw) ?_ (by rw [l]; exact z)
    rw [l]
    exact newT I (Nat.le_trans (cutV_length xs lo hi) z) ((r.drop (HT.sIx xs.length 0 lo)).take (HT.sIx xs.length xs.length hi - HT.sIx xs.length 0 lo)) (q2 hw)
end
end Kv
namespace Kv
open PySem PySem.Spec PyProof.Rows L2
inductive DK where | int (i : Int) | str (s : List Nat)
  deriving DecidableEq
inductive D where
  | non | bl (b : Bool) | int (i : Int) | str (s : List Nat) | tup (ds : List D) | lst (ds : List D) | frl (ds : List D)
  | dct (ks : List DK) (ds : List D) | obj (c : Str) (ns : List Str) (ds : List D) | rep (p : PyData) | cls (c : Str) | tpu (ds : List D) | exo (c : Str) (ns : List Str) (ds : List D)
inductive O where
  | imm (d : D) | lst (ds : List D) | dct (ks : List DK) (ds : List D) | obj (c : Str) (ns : List Str) (os : List O) | ol (os : List O)
def sT (s : List Nat) : Str := ⟨s.toArray⟩
def okS (s : List Nat) : Bool := s.all fun c => decide (c < 1114112)
def DK.key : DK → Key
  | .int i => .inl i
  | .str s => .inr (sT s)
structure Gb where
  K : PySem.W.Frag
  mg : Str → Option Value
def NT : HO → Prop
  | .tbl _ => False
  | _ => True
def NX : HO → Prop
  | .tbl _ => False
  | .ext _ => False
  | _ => True
theorem NX.nt : ∀ {u : HO}, NX u → NT u := fun {u} h => by cases u <;> trivial
structure Thr (H H' : Hp) : Prop where
  at' : ∀ a, H a ≠ none → H' a ≠ none
  tb : LamX.Tabs lamT H → LamX.Tabs lamT H'
instance {H H' : Hp} : CoeFun (Thr H H') (fun _ => ∀ a, H a ≠ none → H' a ≠ none) := ⟨Thr.at'⟩
theorem Thr.refl (H : Hp) : Thr H H := ⟨fun _ e => e, fun t => t⟩
theorem Thr.trans {H1 H2 H3 : Hp} (a : Thr H1 H2) (b : Thr H2 H3) : Thr H1 H3 := ⟨fun c e => b.at' c (a.at' c e), fun t => b.tb (a.tb t)⟩
theorem Thr.ext {H H' : Hp} (e : ∀ b o, H b = some o → H' b = some o) : Thr H H' := by
  refine ⟨fun a n z => ?_, fun t => LamX.Tabs.ext t e⟩
  cases q : H a with
  | none => exact n q
  | some u =>
    rw [e a u q] at z
    cases z
theorem Thr.wr {H : Hp} {D : Addr} {u o : HO} (h : H D = some u) (n : NX u) : Thr H (upd H D o) := by
  refine ⟨fun a e => ?_, fun t p hp => ?_⟩
  · by_cases z : a = D
    · rw [z, upd_same]; simp
    · rw [upd_ne z]; exact e
  · obtain ⟨ps, h1, h2, h3⟩ := t p hp
    have ne : ∀ {b : Addr} {w : HO}, H b = some w → ¬ NX w → b ≠ D := fun {b w} e nw z => by
      rw [z, h] at e
      cases e
      exact nw n
    refine ⟨ps, by rw [upd_ne (ne h1 (fun z => z))]; exact h1, h2, fun pos cv hc => ?_⟩
    obtain ⟨c, e1, e2⟩ := h3 pos cv hc
    exact ⟨c, e1, by rw [upd_ne (ne e2 (fun z => z))]; exact e2⟩
def TpN (F : Hp) (a : Addr) (vs : List V) : Prop := ∃ o : Obj, F a = some (.frz o (.tup vs)) ∧ o.dict = none
theorem TpN.sqt {K : PySem.W.Frag} {F : Hp} {a : Addr} {vs : List V} (h : TpN F a vs) : SqT K F a vs := .inl (.inr ⟨h.choose, h.choose_spec.1⟩)
def XO (cls : Value) (od : Option Addr) (a : Addr) : HO := .ext fun h => ∃ (oe : Obj), h.get? a = some oe ∧ Zc cls od oe ∧ ∃ vs, oe.data = .fields vs
def XdAt (F : Hp) : Option Addr → List (Str × V) → Prop
  | some dd, l => F dd = some (.xd l)
  | none, l => l = []
theorem XdAt.mono {F F' : Hp} (e : Same F F') : ∀ {od : Option Addr} {l : List (Str × V)}, XdAt F od l → XdAt F' od l
  | some _, _, h => e _ _ h
  | none, _, h => h
section
variable (G : Gb)
mutual
def Imm (F : Hp) : D → V → Prop
  | .non, v => v = .non
  | .bl b, v => v = .bl b
  | .int i, v => v = .int i
  | .str s, v => v = .str (sT s) ∧ okS s = true
  | .tup ds, v => ∃ a vs, v = .ref a ∧ TpN F a vs ∧ Imms F ds vs
  | .lst ds, v => ∃ a vs, v = .ref a ∧ F a = some (.lst vs) ∧ Imms F ds vs
  | .tpu ds, v => ∃ a vs, v = .ref a ∧ SqT G.K F a vs ∧ Imms F ds vs
  | .frl ds, v => ∃ a vs, v = .ref a ∧ SqL G.K F a vs ∧ Imms F ds vs
  | .dct ks ds, v => ∃ a vs, v = .ref a ∧ Rd F a (.dK ((ks.map DK.key).zip vs)) ∧ ks.length = vs.length ∧ Imms F ds vs
  | .rep p, v => v = .str p.shown
  | .cls c, v => ∃ C, v = .ref C ∧ G.mg c = some (.ref C)
  | .obj c ns ds, v => ∃ a dx C vs, v = .ref a ∧ G.mg c = some (.ref C) ∧ F a = some (.ins C dx (ns.zip vs)) ∧ F dx = some (.own a) ∧ ns.length = vs.length ∧ Imms F ds vs
  | .exo c ns ds, v => ∃ a od C vs, v = .ref a ∧ G.mg c = some (.ref C) ∧ F a = some (XO (.ref C) od a) ∧ XdAt F od (ns.zip vs) ∧ ns.length = vs.length ∧ Imms F ds vs
def Imms (F : Hp) : List D → List V → Prop
  | [], vs => vs = []
  | d :: ds, vs => ∃ v r, vs = v :: r ∧ Imm F d v ∧ Imms F ds r
end
mutual
def Rep (F H : Hp) : O → V → (Addr → Prop) → Prop
  | .imm d, v, P => Imm G F d v ∧ ∀ a, ¬ P a
  | .lst ds, v, P => ∃ a vs, v = .ref a ∧ H a = some (.lst vs) ∧ F a = none ∧ Imms G F ds vs ∧ ∀ b, P b ↔ b = a
  | .dct ks ds, v, P => ∃ a vs, v = .ref a ∧ H a = some (.dK ((ks.map DK.key).zip vs)) ∧ F a = none ∧ ks.length = vs.length ∧ Imms G F ds vs ∧ ∀ b, P b ↔ b = a
  | .obj c ns os, v, P => ∃ a dx C vs P', v = .ref a ∧ G.mg c = some (.ref C) ∧ H a = some (.ins C dx (ns.zip vs)) ∧ H dx = some (.own a) ∧ F a = none ∧ F dx = none ∧ ns.length = vs.length ∧
      Reps F H os vs P' ∧ ¬ P' a ∧ ¬ P' dx ∧ ∀ b, P b ↔ b = a ∨ b = dx ∨ P' b
  | .ol os, v, P => ∃ a vs P', v = .ref a ∧ H a = some (.lst vs) ∧ F a = none ∧ Reps F H os vs P' ∧ ¬ P' a ∧ ∀ b, P b ↔ b = a ∨ P' b
def Reps (F H : Hp) : List O → List V → (Addr → Prop) → Prop
  | [], vs, P => vs = [] ∧ ∀ a, ¬ P a
  | o :: os, vs, P => ∃ v r P1 P2, vs = v :: r ∧ Rep F H o v P1 ∧ Reps F H os r P2 ∧ (∀ a, P1 a → ¬ P2 a) ∧ ∀ a, P a ↔ P1 a ∨ P2 a
end
mutual
def frz : O → D
  | .imm d => d
  | .lst ds => .lst ds
  | .dct ks ds => .dct ks ds
  | .obj c ns os => .obj c ns (frzs os)
  | .ol os => .lst (frzs os)
def frzs : List O → List D
  | [] => []
  | o :: os => frz o :: frzs os
end
end
section
variable {G : Gb} {F F' H H' : Hp}
theorem Same.sqt {K : PySem.W.Frag} {a : Addr} {xs : List V} (e : Same F F') (h : SqT K F a xs) : SqT K F' a xs := by
  rcases h with (h | ⟨o, h⟩) | h
  · exact .inl (.inl (e _ _ h))
  · exact .inl (.inr ⟨o, e _ _ h⟩)
  · exact .inr h
theorem TpN.mono {a : Addr} {xs : List V} (e : Same F F') (h : TpN F a xs) : TpN F' a xs := ⟨h.choose, e _ _ h.choose_spec.1, h.choose_spec.2⟩
theorem Same.rd {a : Addr} {u : HO} (e : Same F F') (h : Rd F a u) : Rd F' a u := by
  rcases h with h | ⟨o, h⟩
  · exact .inl (e _ _ h)
  · exact .inr ⟨o, e _ _ h⟩
def SameN (H H' : Hp) : Prop := ∀ a o, H a = some o → NT o → H' a = some o
theorem SameN.seq {K : PySem.W.Frag} {a : Addr} {xs : List V} (e : SameN F F') (h : SqL K F a xs) : SqL K F' a xs := by
  rcases h with (h | ⟨o, h⟩) | h
  · exact .inl (.inl (e _ _ h trivial))
  · exact .inl (.inr ⟨o, e _ _ h trivial⟩)
  · exact .inr h
theorem SameN.sqt {K : PySem.W.Frag} {a : Addr} {xs : List V} (e : SameN F F') (h : SqT K F a xs) : SqT K F' a xs := by
  rcases h with (h | ⟨o, h⟩) | h
  · exact .inl (.inl (e _ _ h trivial))
  · exact .inl (.inr ⟨o, e _ _ h trivial⟩)
  · exact .inr h
theorem Same.rdn {a : Addr} {u : HO} (e : ∀ a o, F a = some o → NT o → F' a = some o) (h : Rd F a u) (nt : NT u := by trivial) : Rd F' a u := by
  rcases h with h | ⟨o, h⟩
  · exact .inl (e _ _ h nt)
  · exact .inr ⟨o, e _ _ h trivial⟩
mutual
theorem Imm.mono (e : Same F F') : ∀ (d : D) (v : V), Imm G F d v → Imm G F' d v
  | .non, v, h => by unfold Imm at h ⊢; exact h
  | .bl b, v, h => by unfold Imm at h ⊢; exact h
  | .int i, v, h => by unfold Imm at h ⊢; exact h
  | .str s, v, h => by unfold Imm at h ⊢; exact h
  | .rep s, v, h => by unfold Imm at h ⊢; exact h
  | .cls s, v, h => by unfold Imm at h ⊢; exact h
  | .tup ds, v, h => by
    unfold Imm at h ⊢
    obtain ⟨a, vs, e1, e2, e3⟩ := h
    exact ⟨a, vs, e1, TpN.mono e e2, Imms.mono e ds vs e3⟩
  | .lst ds, v, h => by
    unfold Imm at h ⊢
    obtain ⟨a, vs, e1, e2, e3⟩ := h
    exact ⟨a, vs, e1, e _ _ e2, Imms.mono e ds vs e3⟩
  | .frl ds, v, h => by
    unfold Imm at h ⊢
    obtain ⟨a, vs, e1, e2, e3⟩ := h
    exact ⟨a, vs, e1, e.seq e2, Imms.mono e ds vs e3⟩
  | .dct ks ds, v, h => by
    unfold Imm at h ⊢
    obtain ⟨a, vs, e1, e2, e3, e4⟩ := h
    exact ⟨a, vs, e1, Same.rd e e2, e3, Imms.mono e ds vs e4⟩
  | .obj c ns ds, v, h => by
    unfold Imm at h ⊢
    obtain ⟨a, dx, C, vs, e1, e2, e3, e4, e5, e6⟩ := h
    exact ⟨a, dx, C, vs, e1, e2, e _ _ e3, e _ _ e4, e5, Imms.mono e ds vs e6⟩
  | .tpu ds, v, h => by
    unfold Imm at h ⊢
    obtain ⟨a, vs, e1, e2, e3⟩ := h
    exact ⟨a, vs, e1, Same.sqt e e2, Imms.mono e ds vs e3⟩
  | .exo c ns ds, v, h => by
    unfold Imm at h ⊢
    obtain ⟨a, od, C, vs, e1, e2, e3, e4, e5, e6⟩ := h
    exact ⟨a, od, C, vs, e1, e2, e _ _ e3, e4.mono e, e5, Imms.mono e ds vs e6⟩
theorem Imms.mono (e : Same F F') : ∀ (ds : List D) (vs : List V), Imms G F ds vs → Imms G F' ds vs
  | [], vs, h => by unfold Imms at h ⊢; exact h
  | d :: ds, vs, h => by
    unfold Imms at h ⊢
    obtain ⟨v, r, e1, e2, e3⟩ := h
    exact ⟨v, r, e1, Imm.mono e d v e2, Imms.mono e ds r e3⟩
end
mutual
theorem Rep.keep (e : Same F F') : ∀ (o : O) (v : V) (P : Addr → Prop), (∀ a, P a → ∀ u, H a = some u → NT u → H' a = some u) → (∀ a, P a → H a ≠ none → F' a = none) → Rep G F H o v P → Rep G F' H' o v P
  | .imm d, v, P, k, f, h => by
    unfold Rep at h ⊢
    exact ⟨Imm.mono e d v h.1, h.2⟩
  | .lst ds, v, P, k, f, h => by
    unfold Rep at h ⊢
    obtain ⟨a, vs, e1, e2, e3, e4, e5⟩ := h
    exact ⟨a, vs, e1, k a ((e5 a).2 rfl) _ e2 trivial, f a ((e5 a).2 rfl) (by rw [e2]; simp), Imms.mono e ds vs e4, e5⟩
  | .dct ks ds, v, P, k, f, h => by
    unfold Rep at h ⊢
    obtain ⟨a, vs, e1, e2, e3, e4, e5, e6⟩ := h
    exact ⟨a, vs, e1, k a ((e6 a).2 rfl) _ e2 trivial, f a ((e6 a).2 rfl) (by rw [e2]; simp), e4, Imms.mono e ds vs e5, e6⟩
  | .obj c ns os, v, P, k, f, h => by
    unfold Rep at h ⊢
    obtain ⟨a, dx, C, vs, P', e1, e2, e3, e4, e5, e6, e7, e8, e9, e10, e11⟩ := h
    have pa := (e11 a).2 (.inl rfl)
    have pd := (e11 dx).2 (.inr (.inl rfl))
    exact ⟨a, dx, C, vs, P', e1, e2, k a pa _ e3 trivial, k dx pd _ e4 trivial, f a pa (by rw [e3]; simp), f dx pd (by rw [e4]; simp), e7, Reps.keep e os vs P' (fun b hb => k b ((e11 b).2 (.inr (.inr hb)))) (fun b hb => f b ((e11 b).2 (.inr (.inr hb)))) e8, e9, e10, e11⟩
  | .ol os, v, P, k, f, h => by
    unfold Rep at h ⊢
    obtain ⟨a, vs, P', e1, e2, e3, e4, e5, e6⟩ := h
    have pa := (e6 a).2 (.inl rfl)
    exact ⟨a, vs, P', e1, k a pa _ e2 trivial, f a pa (by rw [e2]; simp), Reps.keep e os vs P' (fun b hb => k b ((e6 b).2 (.inr hb))) (fun b hb => f b ((e6 b).2 (.inr hb))) e4, e5, e6⟩
theorem Reps.keep (e : Same F F') : ∀ (os : List O) (vs : List V) (P : Addr → Prop), (∀ a, P a → ∀ u, H a = some u → NT u → H' a = some u) → (∀ a, P a → H a ≠ none → F' a = none) → Reps G F H os vs P → Reps G F' H' os vs P
  | [], vs, P, k, f, h => by unfold Reps at h ⊢; exact h
  | o :: os, vs, P, k, f, h => by
    unfold Reps at h ⊢
    obtain ⟨v, r, P1, P2, e1, e2, e3, e4, e5⟩ := h
    exact ⟨v, r, P1, P2, e1, Rep.keep e o v P1 (fun b hb => k b ((e5 b).2 (.inl hb))) (fun b hb => f b ((e5 b).2 (.inl hb))) e2, Reps.keep e os r P2 (fun b hb => k b ((e5 b).2 (.inr hb))) (fun b hb => f b ((e5 b).2 (.inr hb))) e3, e4, e5⟩
end
mutual
theorem Rep.own : ∀ (o : O) (v : V) (P : Addr → Prop), Rep G F H o v P → ∀ a, P a → H a ≠ none ∧ F a = none
  | .imm d, v, P, h, a, p => by unfold Rep at h; exact absurd p (h.2 a)
  | .lst ds, v, P, h, a, p => by
    unfold Rep at h
    obtain ⟨b, vs, e1, e2, e3, e4, e5⟩ := h
    obtain rfl := (e5 a).1 p
    exact ⟨by rw [e2]; simp, e3⟩
  | .dct ks ds, v, P, h, a, p => by
    unfold Rep at h
    obtain ⟨b, vs, e1, e2, e3, e4, e5, e6⟩ := h
    obtain rfl := (e6 a).1 p
    exact ⟨by rw [e2]; simp, e3⟩
  | .obj c ns os, v, P, h, a, p => by
    unfold Rep at h
    obtain ⟨b, dx, C, vs, P', e1, e2, e3, e4, e5, e6, e7, e8, e9, e10, e11⟩ := h
    rcases (e11 a).1 p with rfl | rfl | q
    · exact ⟨by rw [e3]; simp, e5⟩
    · exact ⟨by rw [e4]; simp, e6⟩
    · exact Reps.own os vs P' e8 a q
  | .ol os, v, P, h, a, p => by
    unfold Rep at h
    obtain ⟨b, vs, P', e1, e2, e3, e4, e5, e6⟩ := h
    rcases (e6 a).1 p with rfl | q
    · exact ⟨by rw [e2]; simp, e3⟩
    · exact Reps.own os vs P' e4 a q
theorem Reps.own : ∀ (os : List O) (vs : List V) (P : Addr → Prop), Reps G F H os vs P → ∀ a, P a → H a ≠ none ∧ F a = none
  | [], vs, P, h, a, p => by unfold Reps at h; exact absurd p (h.2 a)
  | o :: os, vs, P, h, a, p => by
    unfold Reps at h
    obtain ⟨v, r, P1, P2, e1, e2, e3, e4, e5⟩ := h
    rcases (e5 a).1 p with q | q
    · exact Rep.own o v P1 e2 a q
    · exact Reps.own os r P2 e3 a q
end
mutual
theorem Rep.nx : ∀ (o : O) (v : V) (P : Addr → Prop), Rep G F H o v P → ∀ a, P a → ∀ ps, H a ≠ some (.tbl ps)
  | .imm d, v, P, h, a, p => by unfold Rep at h; exact absurd p (h.2 a)
  | .lst ds, v, P, h, a, p => by
    unfold Rep at h
    obtain ⟨b, vs, e1, e2, e3, e4, e5⟩ := h
    obtain rfl := (e5 a).1 p
    intro ps z
    rw [e2] at z
    cases z
  | .dct ks ds, v, P, h, a, p => by
    unfold Rep at h
    obtain ⟨b, vs, e1, e2, e3, e4, e5, e6⟩ := h
    obtain rfl := (e6 a).1 p
    intro ps z
    rw [e2] at z
    cases z
  | .obj c ns os, v, P, h, a, p => by
    unfold Rep at h
    obtain ⟨b, dx, C, vs, P', e1, e2, e3, e4, e5, e6, e7, e8, e9, e10, e11⟩ := h
    rcases (e11 a).1 p with rfl | rfl | q
    · intro ps z
      rw [e3] at z
      cases z
    · intro ps z
      rw [e4] at z
      cases z
    · exact Reps.nx os vs P' e8 a q
  | .ol os, v, P, h, a, p => by
    unfold Rep at h
    obtain ⟨b, vs, P', e1, e2, e3, e4, e5, e6⟩ := h
    rcases (e6 a).1 p with rfl | q
    · intro ps z
      rw [e2] at z
      cases z
    · exact Reps.nx os vs P' e4 a q
theorem Reps.nx : ∀ (os : List O) (vs : List V) (P : Addr → Prop), Reps G F H os vs P → ∀ a, P a → ∀ ps, H a ≠ some (.tbl ps)
  | [], vs, P, h, a, p => by unfold Reps at h; exact absurd p (h.2 a)
  | o :: os, vs, P, h, a, p => by
    unfold Reps at h
    obtain ⟨v, r, P1, P2, e1, e2, e3, e4, e5⟩ := h
    rcases (e5 a).1 p with q | q
    · exact Rep.nx o v P1 e2 a q
    · exact Reps.nx os r P2 e3 a q
end
end
open Classical in
noncomputable def addF (F H : Hp) (P : Addr → Prop) : Hp := fun a => if P a then H a else F a
section
variable {G : Gb} {F F' H H' : Hp} {P : Addr → Prop}
theorem addF_in {a : Addr} (h : P a) : addF F H P a = H a := by unfold addF; rw [if_pos h]
theorem addF_out {a : Addr} (h : ¬ P a) : addF F H P a = F a := by unfold addF; rw [if_neg h]
theorem addF_same (h : ∀ a, P a → F a = none) : Same F (addF F H P) := fun a o e => by
  rw [addF_out]
  · exact e
  · intro p
    rw [h a p] at e
    cases e
theorem addF_le (h : ∀ a o, F a = some o → H a = some o) : ∀ a o, addF F H P a = some o → H a = some o := fun a o e => by
  by_cases p : P a
  · rw [addF_in p] at e; exact e
  · rw [addF_out p] at e; exact h a o e
mutual
theorem Rep.froze (e : Same F F') : ∀ (o : O) (v : V) (P : Addr → Prop), (∀ a u, P a → H a = some u → F' a = some u) → Rep G F H o v P → Imm G F' (frz o) v
  | .imm d, v, P, k, h => by
    unfold Rep at h
    unfold frz
    exact Imm.mono e d v h.1
  | .lst ds, v, P, k, h => by
    unfold Rep at h
    unfold frz Imm
    obtain ⟨a, vs, e1, e2, e3, e4, e5⟩ := h
    exact ⟨a, vs, e1, k a _ ((e5 a).2 rfl) e2, Imms.mono e ds vs e4⟩
  | .dct ks ds, v, P, k, h => by
    unfold Rep at h
    unfold frz Imm
    obtain ⟨a, vs, e1, e2, e3, e4, e5, e6⟩ := h
    exact ⟨a, vs, e1, .inl (k a _ ((e6 a).2 rfl) e2), e4, Imms.mono e ds vs e5⟩
  | .obj c ns os, v, P, k, h => by
    unfold Rep at h
    unfold frz Imm
    obtain ⟨a, dx, C, vs, P', e1, e2, e3, e4, e5, e6, e7, e8, e9, e10, e11⟩ := h
    exact ⟨a, dx, C, vs, e1, e2, k a _ ((e11 a).2 (.inl rfl)) e3, k dx _ ((e11 dx).2 (.inr (.inl rfl))) e4, e7, Reps.froze e os vs P' (fun b u hb => k b u ((e11 b).2 (.inr (.inr hb)))) e8⟩
  | .ol os, v, P, k, h => by
    unfold Rep at h
    unfold frz Imm
    obtain ⟨a, vs, P', e1, e2, e3, e4, e5, e6⟩ := h
    exact ⟨a, vs, e1, k a _ ((e6 a).2 (.inl rfl)) e2, Reps.froze e os vs P' (fun b u hb => k b u ((e6 b).2 (.inr hb))) e4⟩
theorem Reps.froze (e : Same F F') : ∀ (os : List O) (vs : List V) (P : Addr → Prop), (∀ a u, P a → H a = some u → F' a = some u) → Reps G F H os vs P → Imms G F' (frzs os) vs
  | [], vs, P, k, h => by
    unfold Reps at h
    unfold frzs Imms
    exact h.1
  | o :: os, vs, P, k, h => by
    unfold Reps at h
    unfold frzs Imms
    obtain ⟨v, r, P1, P2, e1, e2, e3, e4, e5⟩ := h
    exact ⟨v, r, e1, Rep.froze e o v P1 (fun b u hb => k b u ((e5 b).2 (.inl hb))) e2, Reps.froze e os r P2 (fun b u hb => k b u ((e5 b).2 (.inr hb))) e3⟩
end
theorem Rep.imm {d : D} {v : V} (h : Imm G F d v) : Rep G F H (.imm d) v (fun _ => False) := by
  unfold Rep
  exact ⟨h, fun _ q => q⟩
theorem Rep.immP {d : D} {v : V} (h : Rep G F H (.imm d) v P) : Imm G F d v := by
  unfold Rep at h
  exact h.1
structure Chg (F H : Hp) (W : Addr → Prop) (F' H' : Hp) (W' : Addr → Prop) : Prop where
  sm : Same F F'
  le : ∀ a o, F' a = some o → H' a = some o
  kp : ∀ a o, ¬ W a → H a = some o → NT o → H' a = some o
  kf : ∀ a, ¬ W a → H a ≠ none → F a = none → F' a = none
  th : Thr H H'
  wr : ∀ a, W' a → W a ∨ H a = none
variable {F1 H1 F2 H2 F3 H3 : Hp} {W W1 W2 W3 : Addr → Prop}
theorem Chg.refl (le : ∀ a o, F a = some o → H a = some o) : Chg F H W F H W := ⟨Same.refl F, le, fun _ _ _ e _ => e, fun _ _ _ e => e, Thr.refl H, fun _ e => .inl e⟩
theorem Chg.trans (a : Chg F1 H1 W1 F2 H2 W2) (b : Chg F2 H2 W2 F3 H3 W3) : Chg F1 H1 W1 F3 H3 W3 where
  sm := a.sm.trans b.sm
  le := b.le
  kp := fun c o n e nt => b.kp c o (fun w => by
    rcases a.wr c w with z | z
    · exact n z
    · rw [z] at e; cases e) (a.kp c o n e nt) nt
  kf := fun c n e f => by
    have n2 : ¬ W2 c := fun w => by
      rcases a.wr c w with z | z
      · exact n z
      · exact e z
    exact b.kf c n2 (a.th c e) (a.kf c n e f)
  th := a.th.trans b.th
  wr := fun c w => by
    rcases b.wr c w with z | z
    · exact a.wr c z
    · right
      cases q : H1 c with
      | none => rfl
      | some u => exact absurd z (a.th c (by rw [q]; simp))
theorem Chg.weak (a : Chg F1 H1 W1 F2 H2 W2) (h : ∀ c, W3 c → W2 c) : Chg F1 H1 W1 F2 H2 W3 := ⟨a.sm, a.le, a.kp, a.kf, a.th, fun c w => a.wr c (h c w)⟩
theorem Chg.wide (a : Chg F1 H1 W1 F2 H2 W2) (h : ∀ c, W1 c → W3 c) : Chg F1 H1 W3 F2 H2 W2 := ⟨a.sm, a.le, fun c o n e nt => a.kp c o (fun w => n (h c w)) e nt, fun c n e f => a.kf c (fun w => n (h c w)) e f, a.th, fun c w => (a.wr c w).imp (h c) id⟩
theorem Chg.kpt (c : Chg F1 H1 W1 F2 H2 W2) (a : Addr) (o : HO) (n : ¬ W1 a) (e : H1 a = some o) (nt : NT o := by trivial) : H2 a = some o := c.kp a o n e nt
theorem Chg.rep (a : Chg F1 H1 W1 F2 H2 W2) {o : O} {v : V} (h : Rep G F1 H1 o v P) (n : ∀ c, P c → ¬ W1 c) : Rep G F2 H2 o v P :=
  Rep.keep a.sm o v P (fun c p u e nt => a.kp c u (n c p) e nt) (fun c p e => a.kf c (n c p) e (Rep.own o v P h c p).2) h
theorem Chg.imm (a : Chg F1 H1 W1 F2 H2 W2) {d : D} {v : V} (h : Imm G F1 d v) : Imm G F2 d v := Imm.mono a.sm d v h
theorem Chg.imms (a : Chg F1 H1 W1 F2 H2 W2) {ds : List D} {vs : List V} (h : Imms G F1 ds vs) : Imms G F2 ds vs := Imms.mono a.sm ds vs h
end
end Kv
namespace Kv
open PySem PySem.Spec PyProof.Rows L2
abbrev Ev := List (Option O)
abbrev gb (X : Cx) : Gb := ⟨X.K, X.mg⟩
abbrev noW : Addr → Prop := fun _ => False
def Tbs (_ : Gb) (F H : Hp) : Prop := LamX.Tabs (lamT) H ∧ ∀ p ∈ lamT, F p.1 = none
theorem Tbs.nn {G : Gb} {F H : Hp} (t : Tbs G F H) {p : Addr × Str} (hp : p ∈ lamT) : ∃ ps, H p.1 = some (.tbl ps) := by
  obtain ⟨ps, h, _⟩ := t.1 p hp
  exact ⟨ps, h⟩
theorem Chg.tbs {G : Gb} {F H F' H' : Hp} {W R : Addr → Prop} (c : Chg F H W F' H' R) (n : ∀ p ∈ lamT, ¬ W p.1) (t : Tbs G F H) : Tbs G F' H' :=
  ⟨c.th.tb t.1, fun p hp => c.kf p.1 (n p hp) (by obtain ⟨ps, e⟩ := t.nn hp; rw [e]; simp) (t.2 p hp)⟩
theorem Chg.tbs0 {G : Gb} {F H F' H' : Hp} {R : Addr → Prop} (c : Chg F H noW F' H' R) (t : Tbs G F H) : Tbs G F' H' := c.tbs (fun _ _ z => z) t
theorem Rep.ntb {G : Gb} {F H : Hp} {o : O} {v : V} {P : Addr → Prop} (r : Rep G F H o v P) (t : Tbs G F H) : ∀ p ∈ lamT, ¬ P p.1 := fun p hp q => by
  obtain ⟨ps, e⟩ := t.nn hp
  exact Rep.nx o v P r _ q _ e
structure Sta (G : Gb) (F H : Hp) (ev : Ev) (σ : L2.St) (W : Addr → Prop) : Prop where
  le : ∀ a o, F a = some o → H a = some o
  len : ev.length = σ.length
  tb : Tbs G F H
  ex : ∃ fp : Nat → Addr → Prop, (∀ (i : Nat) (o : O), ev[i]? = some (some o) → ∃ v, σ[i]? = some (some v) ∧ Rep G F H o v (fp i)) ∧
    (∀ (i : Nat) (a : Addr), fp i a → ∃ o, ev[i]? = some (some o)) ∧ (∀ (i j : Nat) (a : Addr), fp i a → fp j a → i = j) ∧ ∀ a, W a ↔ ∃ i, fp i a
section
variable {G : Gb} {F F' H H' : Hp} {ev : Ev} {σ : L2.St} {W W' P : Addr → Prop} {o : O} {v : V} {i : Nat} {d : D}
theorem Sta.get (S : Sta G F H ev σ W) (h : ev[i]? = some (some o)) : ∃ v P, σ[i]? = some (some v) ∧ Rep G F H o v P ∧ ∀ a, P a → W a := by
  obtain ⟨fp, h1, h2, h3, h4⟩ := S.ex
  obtain ⟨v, e, r⟩ := h1 i o h
  exact ⟨v, fp i, e, r, fun a p => (h4 a).2 ⟨i, p⟩⟩
theorem Sta.ntb (S : Sta G F H ev σ W) : ∀ p ∈ lamT, ¬ W p.1 := fun p hp w => by
  obtain ⟨fp, h1, h2, h3, h4⟩ := S.ex
  obtain ⟨i, q⟩ := (h4 _).1 w
  obtain ⟨o, e⟩ := h2 i _ q
  obtain ⟨v, _, r⟩ := h1 i o e
  exact r.ntb S.tb p hp q
theorem Sta.own (S : Sta G F H ev σ W) : ∀ a, W a → H a ≠ none ∧ F a = none := fun a w => by
  obtain ⟨fp, h1, h2, h3, h4⟩ := S.ex
  obtain ⟨i, p⟩ := (h4 a).1 w
  obtain ⟨o, e⟩ := h2 i a p
  obtain ⟨v, _, r⟩ := h1 i o e
  exact Rep.own o v _ r a p
theorem Sta.chg0 (S : Sta G F H ev σ W) {R : Addr → Prop} (c : Chg F H noW F' H' R) : Sta G F' H' ev σ W := by
  obtain ⟨fp, h1, h2, h3, h4⟩ := S.ex
  refine ⟨c.le, S.len, c.tbs0 S.tb, fp, fun i o e => ?_, h2, h3, h4⟩
  obtain ⟨v, e1, r⟩ := h1 i o e
  exact ⟨v, e1, c.rep r fun _ _ z => z⟩
theorem Sta.fresh (S : Sta G F H ev σ W) {a : Addr} (h : H a = none) : ¬ W a := fun w => (S.own a w).1 h
theorem Sta.store (S : Sta G F H ev σ W) (hi : i < ev.length) (r : Rep G F H o v P) (n : ∀ a, P a → ¬ W a) : ∃ W', Sta G F H (ev.set i (some o)) (σ.set i (some v)) W' ∧ ∀ a, W' a → W a ∨ P a := by
  obtain ⟨fp, h1, h2, h3, h4⟩ := S.ex
  refine ⟨fun a => ∃ j, (if j = i then P else fp j) a, ⟨S.le, by simp [S.len], S.tb, fun j => if j = i then P else fp j, fun j o' e => ?_, fun j a p => ?_, fun j k a p q => ?_, fun a => Iff.rfl⟩, fun a w => ?_⟩
  · by_cases h : j = i
    · subst h
      rw [List.getElem?_set_self hi] at e
      cases e
      refine ⟨v, ?_, by simpa using r⟩
      rw [List.getElem?_set_self (by rw [← S.len]; exact hi)]
    · rw [List.getElem?_set_ne (Ne.symm h)] at e
      obtain ⟨v', e1, r'⟩ := h1 j o' e
      refine ⟨v', ?_, by simpa [h] using r'⟩
      rw [List.getElem?_set_ne (Ne.symm h)]
      exact e1
  · by_cases h : j = i
    · subst h
      exact ⟨o, by rw [List.getElem?_set_self hi]⟩
    · simp only [h, if_false] at p
      rw [List.getElem?_set_ne (Ne.symm h)]
      exact h2 j a p
  · by_cases h : j = i
    · by_cases h' : k = i
      · rw [h, h']
      · simp only [h, if_true] at p
        simp only [h', if_false] at q
        exact absurd ((h4 a).2 ⟨k, q⟩) (n a p)
    · by_cases h' : k = i
      · simp only [h', if_true] at q
        simp only [h, if_false] at p
        exact absurd ((h4 a).2 ⟨j, p⟩) (n a q)
      · simp only [h, if_false] at p
        simp only [h', if_false] at q
        exact h3 j k a p q
  · obtain ⟨j, p⟩ := w
    by_cases h : j = i
    · simp only [h, if_true] at p
      exact .inr p
    · simp only [h, if_false] at p
      exact .inl ((h4 a).2 ⟨j, p⟩)
theorem Sta.forget (S : Sta G F H ev σ W) (i : Nat) {σ' : L2.St} (hl : σ'.length = σ.length) (hs : ∀ j, j ≠ i → ∀ v, σ[j]? = some (some v) → σ'[j]? = some (some v)) : ∃ W', Sta G F H (ev.set i none) σ' W' ∧ ∀ a, W' a → W a := by
  obtain ⟨fp, h1, h2, h3, h4⟩ := S.ex
  refine ⟨fun a => ∃ j, (if j = i then noW else fp j) a, ⟨S.le, by simp [S.len, hl], S.tb, fun j => if j = i then noW else fp j, fun j o' e => ?_, fun j a p => ?_, fun j k a p q => ?_, fun a => Iff.rfl⟩, fun a w => ?_⟩
  · by_cases h : j = i
    · subst h
      by_cases hj : j < ev.length
      · rw [List.getElem?_set_self hj] at e
        cases e
      · rw [List.getElem?_eq_none (by simpa using hj)] at e
        cases e
    · rw [List.getElem?_set_ne (Ne.symm h)] at e
      obtain ⟨v', e1, r'⟩ := h1 j o' e
      exact ⟨v', hs j h v' e1, by simpa [h] using r'⟩
  · by_cases h : j = i
    · simp only [h, if_true] at p
      exact p.elim
    · simp only [h, if_false] at p
      rw [List.getElem?_set_ne (Ne.symm h)]
      exact h2 j a p
  · by_cases h : j = i
    · simp only [h, if_true] at p
      exact p.elim
    · by_cases h' : k = i
      · simp only [h', if_true] at q
        exact q.elim
      · simp only [h, if_false] at p
        simp only [h', if_false] at q
        exact h3 j k a p q
  · obtain ⟨j, p⟩ := w
    by_cases h : j = i
    · simp only [h, if_true] at p
      exact p.elim
    · simp only [h, if_false] at p
      exact (h4 a).2 ⟨j, p⟩
theorem Sta.take (S : Sta G F H ev σ W) (h : ev[i]? = some (some o)) : ∃ v P W', σ[i]? = some (some v) ∧ Rep G F H o v P ∧ Sta G F H (ev.set i none) σ W' ∧ (∀ a, P a → ¬ W' a) ∧ ∀ a, W a ↔ W' a ∨ P a := by
  obtain ⟨fp, h1, h2, h3, h4⟩ := S.ex
  obtain ⟨v, e, r⟩ := h1 i o h
  refine ⟨v, fp i, fun a => ∃ j, (if j = i then noW else fp j) a, e, r, ⟨S.le, by simp [S.len], S.tb, fun j => if j = i then noW else fp j, fun j o' e => ?_, fun j a p => ?_, fun j k a p q => ?_, fun a => Iff.rfl⟩, fun a p w => ?_, fun a => ⟨fun w => ?_, fun w => ?_⟩⟩
  · by_cases hj : j = i
    · subst hj
      by_cases hl : j < ev.length
      · rw [List.getElem?_set_self hl] at e
        cases e
      · rw [List.getElem?_eq_none (by simpa using hl)] at e
        cases e
    · rw [List.getElem?_set_ne (Ne.symm hj)] at e
      obtain ⟨v', e1, r'⟩ := h1 j o' e
      exact ⟨v', e1, by simpa [hj] using r'⟩
  · by_cases hj : j = i
    · simp only [hj, if_true] at p
      exact p.elim
    · simp only [hj, if_false] at p
      rw [List.getElem?_set_ne (Ne.symm hj)]
      exact h2 j a p
  · by_cases hj : j = i
    · simp only [hj, if_true] at p
      exact p.elim
    · by_cases hk : k = i
      · simp only [hk, if_true] at q
        exact q.elim
      · simp only [hj, if_false] at p
        simp only [hk, if_false] at q
        exact h3 j k a p q
  · obtain ⟨j, q⟩ := w
    by_cases hj : j = i
    · simp only [hj, if_true] at q
      exact q.elim
    · simp only [hj, if_false] at q
      exact hj (h3 j i a q p)
  · obtain ⟨j, q⟩ := (h4 a).1 w
    by_cases hj : j = i
    · subst hj
      exact .inr q
    · exact .inl ⟨j, by simpa [hj] using q⟩
  · rcases w with ⟨j, q⟩ | q
    · by_cases hj : j = i
      · simp only [hj, if_true] at q
        exact q.elim
      · simp only [hj, if_false] at q
        exact (h4 a).2 ⟨j, q⟩
    · exact (h4 a).2 ⟨i, q⟩
theorem Sta.put (S : Sta G F H (ev.set i none) σ W) (hi : i < ev.length) (hv : σ[i]? = some (some v)) (r : Rep G F H o v P) (n : ∀ a, P a → ¬ W a) : ∃ W', Sta G F H (ev.set i (some o)) σ W' ∧ ∀ a, W' a ↔ W a ∨ P a := by
  obtain ⟨fp, h1, h2, h3, h4⟩ := S.ex
  refine ⟨fun a => ∃ j, (if j = i then P else fp j) a, ⟨S.le, by have := S.len; simp at this; simp [this], S.tb, fun j => if j = i then P else fp j, fun j o' e => ?_, fun j a p => ?_, fun j k a p q => ?_, fun a => Iff.rfl⟩, fun a => ⟨fun w => ?_, fun w => ?_⟩⟩
  · by_cases h : j = i
    · subst h
      rw [List.getElem?_set_self hi] at e
      cases e
      exact ⟨v, hv, by simpa using r⟩
    · rw [List.getElem?_set_ne (Ne.symm h)] at e
      obtain ⟨v', e1, r'⟩ := h1 j o' (by rw [List.getElem?_set_ne (Ne.symm h)]; exact e)
      exact ⟨v', e1, by simpa [h] using r'⟩
  · by_cases h : j = i
    · subst h
      exact ⟨o, by rw [List.getElem?_set_self hi]⟩
    · simp only [h, if_false] at p
      obtain ⟨o', e⟩ := h2 j a p
      rw [List.getElem?_set_ne (Ne.symm h)] at e ⊢
      exact ⟨o', e⟩
  · by_cases h : j = i
    · by_cases h' : k = i
      · rw [h, h']
      · simp only [h, if_true] at p
        simp only [h', if_false] at q
        exact absurd ((h4 a).2 ⟨k, q⟩) (n a p)
    · by_cases h' : k = i
      · simp only [h', if_true] at q
        simp only [h, if_false] at p
        exact absurd ((h4 a).2 ⟨j, p⟩) (n a q)
      · simp only [h, if_false] at p
        simp only [h', if_false] at q
        exact h3 j k a p q
  · obtain ⟨j, p⟩ := w
    by_cases h : j = i
    · simp only [h, if_true] at p
      exact .inr p
    · simp only [h, if_false] at p
      exact .inl ((h4 a).2 ⟨j, p⟩)
  · rcases w with w | p
    · obtain ⟨j, q⟩ := (h4 a).1 w
      have hj : j ≠ i := fun z => by
        subst z
        obtain ⟨o', e⟩ := h2 j a q
        rw [List.getElem?_set_self hi] at e
        cases e
      exact ⟨j, by simpa [hj] using q⟩
    · exact ⟨i, by simpa using p⟩
end
def Vw (G : Gb) (F H : Hp) : D → V → Prop
  | .lst ds, v => ∃ a vs, v = .ref a ∧ H a = some (.lst vs) ∧ Imms G F ds vs
  | .dct ks ds, v => ∃ a vs, v = .ref a ∧ Rd H a (.dK ((ks.map DK.key).zip vs)) ∧ ks.length = vs.length ∧ Imms G F ds vs
  | d, v => Imm G F d v
def Vws (G : Gb) (F H : Hp) : List D → List V → Prop
  | [], vs => vs = []
  | d :: ds, vs => ∃ v r, vs = v :: r ∧ Vw G F H d v ∧ Vws G F H ds r
def O.vw : O → Option D
  | .imm d => some d
  | .lst ds => some (.lst ds)
  | .dct ks ds => some (.dct ks ds)
  | .obj _ _ _ => none
  | .ol _ => none
section
variable {G : Gb} {F F' H H' : Hp} {W P : Addr → Prop} {o : O} {v : V} {d : D}
theorem Imm.vw (le : ∀ a o, F a = some o → H a = some o) (h : Imm G F d v) : Vw G F H d v := by
  cases d with
  | lst ds =>
    unfold Imm at h
    obtain ⟨a, vs, e1, e2, e3⟩ := h
    exact ⟨a, vs, e1, le _ _ e2, e3⟩
  | dct ks ds =>
    unfold Imm at h
    obtain ⟨a, vs, e1, e2, e3, e4⟩ := h
    exact ⟨a, vs, e1, Same.rd le e2, e3, e4⟩
  | _ => exact h
theorem Rep.vw (le : ∀ a o, F a = some o → H a = some o) (h : Rep G F H o v P) (e : o.vw = some d) : Vw G F H d v := by
  cases o with
  | imm d' =>
    cases e
    exact Imm.vw le h.immP
  | lst ds =>
    cases e
    unfold Rep at h
    obtain ⟨a, vs, e1, e2, e3, e4, e5⟩ := h
    exact ⟨a, vs, e1, e2, e4⟩
  | dct ks ds =>
    cases e
    unfold Rep at h
    obtain ⟨a, vs, e1, e2, e3, e4, e5, e6⟩ := h
    exact ⟨a, vs, e1, .inl e2, e4, e5⟩
  | obj c ns os => cases e
  | ol os => cases e
theorem Vw.chg0 {R : Addr → Prop} (c : Chg F H noW F' H' R) (h : Vw G F H d v) : Vw G F' H' d v := by
  cases d with
  | lst ds =>
    obtain ⟨a, vs, e1, e2, e3⟩ := h
    exact ⟨a, vs, e1, c.kpt _ _ (fun z => z) e2, c.imms e3⟩
  | dct ks ds =>
    obtain ⟨a, vs, e1, e2, e3, e4⟩ := h
    exact ⟨a, vs, e1, Same.rdn (fun a u e nt => c.kp a u (fun z => z) e nt) e2, e3, c.imms e4⟩
  | _ => exact c.imm (d := _) h
theorem Vws.chg0 {R : Addr → Prop} (c : Chg F H noW F' H' R) : ∀ {ds : List D} {vs : List V}, Vws G F H ds vs → Vws G F' H' ds vs
  | [], _, h => h
  | d :: ds, _, h => by
    obtain ⟨v, r, e1, e2, e3⟩ := h
    exact ⟨v, r, e1, e2.chg0 c, Vws.chg0 c e3⟩
theorem Imms.vws (le : ∀ a o, F a = some o → H a = some o) : ∀ {ds : List D} {vs : List V}, Imms G F ds vs → Vws G F H ds vs
  | [], _, h => by unfold Imms at h; exact h
  | d :: ds, _, h => by
    unfold Imms at h
    obtain ⟨v, r, e1, e2, e3⟩ := h
    exact ⟨v, r, e1, e2.vw le, Imms.vws le e3⟩
theorem Imms.length : ∀ {ds : List D} {vs : List V}, Imms G F ds vs → vs.length = ds.length
  | [], _, h => by unfold Imms at h; subst h; rfl
  | d :: ds, _, h => by
    unfold Imms at h
    obtain ⟨v, r, rfl, e2, e3⟩ := h
    simp [Imms.length e3]
theorem Imms.get : ∀ {ds : List D} {vs : List V} {i : Nat} {d : D}, Imms G F ds vs → ds[i]? = some d → ∃ v, vs[i]? = some v ∧ Imm G F d v
  | [], _, _, _, h, e => by simp at e
  | d :: ds, _, 0, d', h, e => by
    unfold Imms at h
    obtain ⟨v, r, rfl, e2, e3⟩ := h
    simp at e
    subst e
    exact ⟨v, rfl, e2⟩
  | d :: ds, _, i + 1, d', h, e => by
    unfold Imms at h
    obtain ⟨v, r, rfl, e2, e3⟩ := h
    obtain ⟨v', h1, h2⟩ := Imms.get (i := i) e3 (by simpa using e)
    exact ⟨v', by simpa using h1, h2⟩
theorem Imms.append : ∀ {ds es : List D} {vs ws : List V}, Imms G F ds vs → Imms G F es ws → Imms G F (ds ++ es) (vs ++ ws)
  | [], _, _, _, h, h' => by unfold Imms at h; subst h; exact h'
  | d :: ds, es, _, ws, h, h' => by
    unfold Imms at h
    obtain ⟨v, r, rfl, e2, e3⟩ := h
    show Imms G F (d :: (ds ++ es)) (v :: (r ++ ws))
    unfold Imms
    exact ⟨v, r ++ ws, rfl, e2, Imms.append e3 h'⟩
theorem Imms.nil : Imms G F [] [] := by unfold Imms; rfl
theorem Imms.cons {ds : List D} {vs : List V} (h : Imm G F d v) (h' : Imms G F ds vs) : Imms G F (d :: ds) (v :: vs) := by
  unfold Imms
  exact ⟨v, vs, rfl, h, h'⟩
theorem Imms.one (h : Imm G F d v) : Imms G F [d] [v] := .cons h .nil
theorem Imms.take (n : Nat) : ∀ {ds : List D} {vs : List V}, Imms G F ds vs → Imms G F (ds.take n) (vs.take n) := by
  induction n with
  | zero => intro ds vs h; simp; exact .nil
  | succ n ih =>
    intro ds vs h
    cases ds with
    | nil => unfold Imms at h; subst h; simp; exact .nil
    | cons d ds =>
      unfold Imms at h
      obtain ⟨v, r, rfl, e2, e3⟩ := h
      simp
      exact .cons e2 (ih e3)
theorem Imms.drop (n : Nat) : ∀ {ds : List D} {vs : List V}, Imms G F ds vs → Imms G F (ds.drop n) (vs.drop n) := by
  induction n with
  | zero => intro ds vs h; simpa using h
  | succ n ih =>
    intro ds vs h
    cases ds with
    | nil => unfold Imms at h; subst h; simp; exact .nil
    | cons d ds =>
      unfold Imms at h
      obtain ⟨v, r, rfl, e2, e3⟩ := h
      simpa using ih e3
theorem Imms.set (n : Nat) (h' : Imm G F d v) : ∀ {ds : List D} {vs : List V}, Imms G F ds vs → Imms G F (ds.set n d) (vs.set n v) := by
  induction n with
  | zero =>
    intro ds vs h
    cases ds with
    | nil => unfold Imms at h; subst h; simp; exact .nil
    | cons e ds =>
      unfold Imms at h
      obtain ⟨v, r, rfl, e2, e3⟩ := h
      simp
      exact .cons h' e3
  | succ n ih =>
    intro ds vs h
    cases ds with
    | nil => unfold Imms at h; subst h; simp; exact .nil
    | cons e ds =>
      unfold Imms at h
      obtain ⟨v, r, rfl, e2, e3⟩ := h
      simp
      exact .cons e2 (ih e3)
theorem Imms.eraseIdx (n : Nat) : ∀ {ds : List D} {vs : List V}, Imms G F ds vs → Imms G F (ds.eraseIdx n) (vs.eraseIdx n) := by
  induction n with
  | zero =>
    intro ds vs h
    cases ds with
    | nil => unfold Imms at h; subst h; simp; exact .nil
    | cons e ds =>
      unfold Imms at h
      obtain ⟨v, r, rfl, e2, e3⟩ := h
      simpa using e3
  | succ n ih =>
    intro ds vs h
    cases ds with
    | nil => unfold Imms at h; subst h; simp; exact .nil
    | cons e ds =>
      unfold Imms at h
      obtain ⟨v, r, rfl, e2, e3⟩ := h
      simp
      exact .cons e2 (ih e3)
theorem Imms.replicate (n : Nat) : ∀ {ds : List D} {vs : List V}, Imms G F ds vs → Imms G F (List.replicate n ds).flatten (List.replicate n vs).flatten := by
  intro ds vs h
  induction n with
  | zero => simp; exact .nil
  | succ n ih =>
    rw [List.replicate_succ, List.replicate_succ, List.flatten_cons, List.flatten_cons]
    exact h.append ih
end
def PO (X : Cx) (e : Expr) (f : Ev → Option O) : Prop := ∃ t : TE, PE X e t ∧ ∀ F H ev σ W o, Sta (gb X) F H ev σ W → f ev = some o →
  ∀ Q : VK, (∀ v F' H' P, Chg F H noW F' H' P → Rep (gb X) F' H' o v P → Q v H') → t σ H Q
def PV (X : Cx) (e : Expr) (f : Ev → Option D) : Prop := ∃ t : TE, PE X e t ∧ ∀ F H ev σ W d, Sta (gb X) F H ev σ W → f ev = some d →
  ∀ Q : VK, (∀ v F' H', Chg F H noW F' H' noW → Imm (gb X) F' d v → Q v H') → t σ H Q
def PB (X : Cx) (e : Expr) (f : Ev → Option D) : Prop := ∃ t : TE, PE X e t ∧ ∀ F H ev σ W d, Sta (gb X) F H ev σ W → f ev = some d →
  ∀ Q : VK, (∀ v F' H', Chg F H noW F' H' noW → Vw (gb X) F' H' d v → Q v H') → t σ H Q
def PTb (X : Cx) (e : Expr) (f : Ev → Option Bool) : Prop := ∃ t : TT, PT X e t ∧ ∀ F H ev σ W b, Sta (gb X) F H ev σ W → f ev = some b →
  ∀ Q : Bool → Hp → Prop, (∀ F' H', Chg F H noW F' H' noW → Q b H') → t σ H Q
def PWb (X : Cx) (e : Expr) (f : Ev → Option Bool) : Prop := ∃ t : TT, PW X e t ∧ ∀ F H ev σ W b, Sta (gb X) F H ev σ W → f ev = some b →
  ∀ Q : Bool → Hp → Prop, (∀ F' H', Chg F H noW F' H' noW → Q b H') → t σ H Q
def PAb (X : Cx) (es : List Expr) (f : Ev → Option (List D)) : Prop := ∃ t : TA, PA X es t ∧ ∀ F H ev σ W ds, Sta (gb X) F H ev σ W → f ev = some ds →
  ∀ Q : List V → Hp → Prop, (∀ vs F' H', Chg F H noW F' H' noW → Vws (gb X) F' H' ds vs → Q vs H') → t σ H Q
def PAv (X : Cx) (es : List Expr) (f : Ev → Option (List D)) : Prop := ∃ t : TA, PA X es t ∧ ∀ F H ev σ W ds, Sta (gb X) F H ev σ W → f ev = some ds →
  ∀ Q : List V → Hp → Prop, (∀ vs F' H', Chg F H noW F' H' noW → Imms (gb X) F' ds vs → Q vs H') → t σ H Q
abbrev M (α : Type) := Ev → Option (α × Ev)
def MO (X : Cx) (e : Expr) (m : M O) : Prop := ∃ t : TE, PE X e t ∧ ∀ F H ev σ W o ev', Sta (gb X) F H ev σ W → m ev = some (o, ev') →
  ∀ Q : VK, (∀ v F' H' W' P, Chg F H W F' H' (fun a => W' a ∨ P a) → Sta (gb X) F' H' ev' σ W' → Rep (gb X) F' H' o v P → (∀ a, P a → ¬ W' a) → Q v H') → t σ H Q
def MV (X : Cx) (e : Expr) (m : M D) : Prop := ∃ t : TE, PE X e t ∧ ∀ F H ev σ W d ev', Sta (gb X) F H ev σ W → m ev = some (d, ev') →
  ∀ Q : VK, (∀ v F' H' W', Chg F H W F' H' W' → Sta (gb X) F' H' ev' σ W' → Imm (gb X) F' d v → Q v H') → t σ H Q
def MTb (X : Cx) (e : Expr) (m : M Bool) : Prop := ∃ t : TT, PT X e t ∧ ∀ F H ev σ W b ev', Sta (gb X) F H ev σ W → m ev = some (b, ev') →
  ∀ Q : Bool → Hp → Prop, (∀ F' H' W', Chg F H W F' H' W' → Sta (gb X) F' H' ev' σ W' → Q b H') → t σ H Q
def MAv (X : Cx) (es : List Expr) (m : M (List D)) : Prop := ∃ t : TA, PA X es t ∧ ∀ F H ev σ W ds ev', Sta (gb X) F H ev σ W → m ev = some (ds, ev') →
  ∀ Q : List V → Hp → Prop, (∀ vs F' H' W', Chg F H W F' H' W' → Sta (gb X) F' H' ev' σ W' → Imms (gb X) F' ds vs → Q vs H') → t σ H Q
def lft {α : Type} (f : Ev → Option α) : M α := fun ev => (f ev).map fun a => (a, ev)
def M.map {α β : Type} (g : α → β) (m : M α) : M β := fun ev => (m ev).map fun p => (g p.1, p.2)
def M.bind {α β : Type} (m : M α) (k : α → M β) : M β := fun ev => (m ev).bind fun p => k p.1 p.2
def M.opt {α : Type} (x : Option α) : M α := fun ev => x.map fun a => (a, ev)
section
variable {X : Cx} {e : Expr} {F F' H H' : Hp} {ev : Ev} {σ : L2.St} {W W' P R : Addr → Prop}
theorem lft_some {α : Type} {f : Ev → Option α} {a : α} {ev ev' : Ev} (h : lft f ev = some (a, ev')) : f ev = some a ∧ ev' = ev := by
  unfold lft at h
  cases q : f ev with
  | none => rw [q] at h; cases h
  | some b => rw [q] at h; cases h; exact ⟨rfl, rfl⟩
theorem map_some {α β : Type} {g : α → β} {m : M α} {b : β} {ev ev' : Ev} (h : M.map g m ev = some (b, ev')) : ∃ a, m ev = some (a, ev') ∧ b = g a := by
  unfold M.map at h
  cases q : m ev with
  | none => rw [q] at h; cases h
  | some p => rw [q] at h; cases h; exact ⟨p.1, rfl, rfl⟩
theorem bind_some {α β : Type} {m : M α} {k : α → M β} {b : β} {ev ev' : Ev} (h : M.bind m k ev = some (b, ev')) : ∃ a ev1, m ev = some (a, ev1) ∧ k a ev1 = some (b, ev') := by
  unfold M.bind at h
  cases q : m ev with
  | none => rw [q] at h; cases h
  | some p => rw [q] at h; exact ⟨p.1, p.2, rfl, h⟩
theorem opt_some {α : Type} {x : Option α} {a : α} {ev ev' : Ev} (h : M.opt x ev = some (a, ev')) : x = some a ∧ ev' = ev := by
  unfold M.opt at h
  cases x with
  | none => cases h
  | some b => cases h; exact ⟨rfl, rfl⟩
theorem Chg.lift {G : Gb} (S : Sta G F H ev σ W) (c : Chg F H noW F' H' P) : Chg F H W F' H' (fun a => W a ∨ P a) := ⟨c.sm, c.le, fun a o n => c.kp a o (fun z => z), fun a n => c.kf a (fun z => z), c.th, fun a w => by
  rcases w with w | w
  · exact .inl w
  · rcases c.wr a w with z | z
    · exact z.elim
    · exact .inr z⟩
theorem Chg.lift0 {G : Gb} (S : Sta G F H ev σ W) (c : Chg F H noW F' H' noW) : Chg F H W F' H' W := (Chg.lift S c).weak fun _ w => .inl w
theorem Chg.newP {G : Gb} (S : Sta G F H ev σ W) (c : Chg F H noW F' H' P) : ∀ a, P a → ¬ W a := fun a p => by
  rcases c.wr a p with z | z
  · exact z.elim
  · exact S.fresh z
theorem Rep.freeze {G : Gb} {o : O} {v : V} (c : Chg F H W F' H' (fun a => W' a ∨ P a)) (r : Rep G F' H' o v P) (n : ∀ a, P a → ¬ W' a) :
    Chg F H W (addF F' H' P) H' W' ∧ Imm G (addF F' H' P) (frz o) v ∧ Chg F' H' P (addF F' H' P) H' noW := by
  have f0 : ∀ a, P a → F' a = none := fun a p => (Rep.own o v P r a p).2
  have sm := addF_same (F := F') (H := H') (P := P) f0
  have c2 : Chg F' H' P (addF F' H' P) H' noW := ⟨sm, addF_le c.le, fun _ _ _ e _ => e, fun a np _ f => by rw [addF_out np]; exact f, Thr.refl H', fun _ z => z.elim⟩
  refine ⟨⟨c.sm.trans sm, addF_le c.le, c.kp, fun a nw he f => ?_, c.th, fun a w => c.wr a (.inl w)⟩, Rep.froze sm o v P (fun a u p e => by rw [addF_in p]; exact e) r, c2⟩
  have np : ¬ P a := fun p => by
    rcases c.wr a (.inr p) with z | z
    · exact nw z
    · exact he z
  rw [addF_out np]
  exact c.kf a nw he f
theorem Sta.freeze {G : Gb} (S : Sta G F' H' ev σ W') (c2 : Chg F' H' P (addF F' H' P) H' noW) (n : ∀ a, P a → ¬ W' a) (hP : ∀ p ∈ lamT, ¬ P p.1) : Sta G (addF F' H' P) H' ev σ W' := by
  obtain ⟨fp, h1, h2, h3, h4⟩ := S.ex
  refine ⟨c2.le, S.len, c2.tbs hP S.tb, fp, fun i o e => ?_, h2, h3, h4⟩
  obtain ⟨v, e1, r⟩ := h1 i o e
  exact ⟨v, e1, c2.rep r fun a q p => n a p ((h4 a).2 ⟨i, q⟩)⟩
theorem PO.pv {f : Ev → Option O} (h : PO X e f) : PV X e (fun ev => (f ev).map frz) := by
  obtain ⟨t, h1, h2⟩ := h
  refine ⟨t, h1, fun F H ev σ W d S hf Q hQ => ?_⟩
  cases q : f ev with
  | none => simp only [q] at hf; cases hf
  | some o =>
    simp only [q] at hf
    cases hf
    refine h2 F H ev σ W o S q Q fun v F' H' P c r => ?_
    obtain ⟨c1, r1, c2⟩ := Rep.freeze (W' := noW) (W := noW) ⟨c.sm, c.le, c.kp, c.kf, c.th, fun a w => c.wr a (w.elim (fun z => z.elim) id)⟩ r (fun _ _ z => z)
    exact hQ v _ _ c1 r1
theorem PV.po {f : Ev → Option D} (h : PV X e f) : PO X e (fun ev => (f ev).map O.imm) := by
  obtain ⟨t, h1, h2⟩ := h
  refine ⟨t, h1, fun F H ev σ W o S hf Q hQ => ?_⟩
  cases q : f ev with
  | none => simp only [q] at hf; cases hf
  | some d =>
    simp only [q] at hf
    cases hf
    exact h2 F H ev σ W d S q Q fun v F' H' c r => hQ v F' H' noW c (.imm r)
theorem PV.pb {f : Ev → Option D} (h : PV X e f) : PB X e f := by
  obtain ⟨t, h1, h2⟩ := h
  exact ⟨t, h1, fun F H ev σ W d S hf Q hQ => h2 F H ev σ W d S hf Q fun v F' H' c r => hQ v F' H' c (r.vw c.le)⟩
theorem PO.mo {f : Ev → Option O} (h : PO X e f) : MO X e (lft f) := by
  obtain ⟨t, h1, h2⟩ := h
  refine ⟨t, h1, fun F H ev σ W o ev' S hf Q hQ => ?_⟩
  obtain ⟨hf, rfl⟩ := lft_some hf
  exact h2 F H _ σ W o S hf Q fun v F' H' P c r => hQ v F' H' W P (c.lift S) (S.chg0 c) r (c.newP S)
theorem PV.mv {f : Ev → Option D} (h : PV X e f) : MV X e (lft f) := by
  obtain ⟨t, h1, h2⟩ := h
  refine ⟨t, h1, fun F H ev σ W o ev' S hf Q hQ => ?_⟩
  obtain ⟨hf, rfl⟩ := lft_some hf
  exact h2 F H _ σ W o S hf Q fun v F' H' c r => hQ v F' H' W (c.lift0 S) (S.chg0 c) r
theorem MO.mv {m : M O} (h : MO X e m) : MV X e (M.map frz m) := by
  obtain ⟨t, h1, h2⟩ := h
  refine ⟨t, h1, fun F H ev σ W d ev' S hf Q hQ => ?_⟩
  obtain ⟨o, hm, rfl⟩ := map_some hf
  refine h2 F H ev σ W o ev' S hm Q fun v F' H' W' P c S' r n => ?_
  obtain ⟨c1, r1, c2⟩ := Rep.freeze c r n
  exact hQ v _ _ W' c1 (S'.freeze c2 n (r.ntb S'.tb)) r1
theorem MV.mo {m : M D} (h : MV X e m) : MO X e (M.map O.imm m) := by
  obtain ⟨t, h1, h2⟩ := h
  refine ⟨t, h1, fun F H ev σ W o ev' S hf Q hQ => ?_⟩
  obtain ⟨d, hm, rfl⟩ := map_some hf
  exact h2 F H ev σ W d ev' S hm Q fun v F' H' W' c S' r => hQ v F' H' W' noW (c.weak fun a w => w.elim id fun z => z.elim) S' (.imm r) (fun _ z => z.elim)
theorem PTb.mt {f : Ev → Option Bool} (h : PTb X e f) : MTb X e (lft f) := by
  obtain ⟨t, h1, h2⟩ := h
  refine ⟨t, h1, fun F H ev σ W o ev' S hf Q hQ => ?_⟩
  obtain ⟨hf, rfl⟩ := lft_some hf
  exact h2 F H _ σ W o S hf Q fun F' H' c => hQ F' H' W (c.lift0 S) (S.chg0 c)
end
end Kv
namespace Kv
open PySem PySem.Spec PyProof.Rows L2
def gt (i : Nat) (ev : Ev) : Option O := (ev[i]?).join
def O.im : O → Option D
  | .imm d => some d
  | _ => none
def O.tb : O → Option Bool
  | .imm (.bl b) => some b
  | _ => none
def vr (i : Nat) (ev : Ev) : Option D := (gt i ev).bind O.im
def vb (i : Nat) (ev : Ev) : Option D := (gt i ev).bind O.vw
def kk {α : Type} (d : α) : Ev → Option α := fun _ => some d
theorem gt_some {i : Nat} {ev : Ev} {o : O} (h : gt i ev = some o) : ev[i]? = some (some o) := by
  unfold gt at h
  cases q : ev[i]? with
  | none => rw [q] at h; cases h
  | some x => rw [q] at h; cases x with
    | none => cases h
    | some y => cases h; rfl
theorem im_some {o : O} {d : D} (h : o.im = some d) : o = .imm d := by
  cases o <;> cases h <;> rfl
theorem bnd {α β : Type} {x : Option α} {f : α → Option β} {b : β} (h : x.bind f = some b) : ∃ a, x = some a ∧ f a = some b := by
  cases x with
  | none => cases h
  | some a => exact ⟨a, rfl, h⟩
section
variable {X : Cx} {pos : Pos}
theorem pv_var {i : Nat} {x : Str} (hN : X.N[i]? = some x := by rfl) (hv : Vis X.env.scope x := by first | exact Or.inl rfl | exact Or.inr (Or.inl rfl) | exact Or.inr (Or.inr rfl)) (hd : (x == ("__debug__" : Str)) = false := by decide) (hcd : (x == ("__classdict__" : Str)) = false := by decide) : PV X (.Name x pos) (vr i) := by
  refine ⟨_, pe_var hN hv hd hcd, fun F H ev σ W d S hf Q hQ => ?_⟩
  obtain ⟨o, h1, h2⟩ := bnd hf
  obtain rfl := im_some h2
  obtain ⟨v, P, e, r, _⟩ := S.get (gt_some h1)
  exact ⟨v, e, hQ v F H (Chg.refl S.le) r.immP⟩
theorem pb_var {i : Nat} {x : Str} (hN : X.N[i]? = some x := by rfl) (hv : Vis X.env.scope x := by first | exact Or.inl rfl | exact Or.inr (Or.inl rfl) | exact Or.inr (Or.inr rfl)) (hd : (x == ("__debug__" : Str)) = false := by decide) (hcd : (x == ("__classdict__" : Str)) = false := by decide) : PB X (.Name x pos) (vb i) := by
  refine ⟨_, pe_var hN hv hd hcd, fun F H ev σ W d S hf Q hQ => ?_⟩
  obtain ⟨o, h1, h2⟩ := bnd hf
  obtain ⟨v, P, e, r, _⟩ := S.get (gt_some h1)
  exact ⟨v, e, hQ v F H (Chg.refl S.le) (r.vw S.le h2)⟩
theorem im_int {G : Gb} {F : Hp} {i : Int} : Imm G F (.int i) (.int i) := by unfold Imm; rfl
theorem im_bl {G : Gb} {F : Hp} {i : Bool} : Imm G F (.bl i) (.bl i) := by unfold Imm; rfl
theorem im_non {G : Gb} {F : Hp} : Imm G F .non .non := by unfold Imm; rfl
theorem im_str {G : Gb} {F : Hp} {l : List Nat} (h : okS l = true) : Imm G F (.str l) (.str (sT l)) := by unfold Imm; exact ⟨rfl, h⟩
theorem pv_int {i j} : PV X (.Constant (.int i) j pos) (kk (.int i)) := ⟨_, pe_int, fun F H ev σ W d S hf Q hQ => by
  cases hf
  exact hQ _ F H (Chg.refl S.le) im_int⟩
theorem pv_bl {i j} : PV X (.Constant (.bool i) j pos) (kk (.bl i)) := ⟨_, pe_bl, fun F H ev σ W d S hf Q hQ => by
  cases hf
  exact hQ _ F H (Chg.refl S.le) im_bl⟩
theorem pv_non {j} : PV X (.Constant .none j pos) (kk .non) := ⟨_, pe_non, fun F H ev σ W d S hf Q hQ => by
  cases hf
  exact hQ _ F H (Chg.refl S.le) im_non⟩
theorem pv_str (l : List Nat) {x : Str} {j} (hx : x = sT l := by decide +kernel) (hl : okS l = true := by decide +kernel) : PV X (.Constant (.str x) j pos) (kk (.str l)) := ⟨_, pe_str, fun F H ev σ W d S hf Q hQ => by
  cases hf
  subst hx
  exact hQ _ F H (Chg.refl S.le) (im_str hl)⟩
theorem pv_globI {x : Str} {i : Int} {t : Tok} (hm : X.mg x = some (.int i t)) (hg : Gl X x := by rfl) (hd : (x == ("__debug__" : Str)) = false := by decide) : PV X (.Name x pos) (kk (.int i)) := ⟨_, pe_glob (v := .int i) hg hm ⟨_, rfl⟩ hd, fun F H ev σ W d S hf Q hQ => by
  cases hf
  exact hQ _ F H (Chg.refl S.le) im_int⟩
end
abbrev LeF (F H : Hp) : Prop := ∀ a o, F a = some o → H a = some o
abbrev Ret (X : Cx) (F H : Hp) (o : O) (Q : VK) : Prop := ∀ v F' H' P, Chg F H noW F' H' P → Rep (gb X) F' H' o v P → Q v H'
def Prim2 (X : Cx) (r : R2) (g : D → D → Option O) : Prop := ∀ F H x y dx dy o, LeF F H → Tbs (gb X) F H → Vw (gb X) F H dx x → Vw (gb X) F H dy y → g dx dy = some o → ∀ Q : VK, Ret X F H o Q → r x y H Q
def Op2 (X : Cx) (f : Value → Value → Sem Value) (g : D → D → Option O) : Prop := ∃ r, OpR X f r ∧ Prim2 X r g
def f2 (g : D → D → Option O) (fa fb : Ev → Option D) : Ev → Option O := fun ev => (fa ev).bind fun x => (fb ev).bind fun y => g x y
def m2 (g : D → D → Option O) (ma mb : M D) : M O := ma.bind fun x => mb.bind fun y => M.opt (g x y)
section
variable {X : Cx} {pos : Pos} {f : Value → Value → Sem Value} {g g' : D → D → Option O} {a b c : Expr} {fa fb fc : Ev → Option D} {ma mb : M D}
theorem Op2.or (h : Op2 X f g) (h' : Op2 X f g') : Op2 X f (fun x y => (g x y).or (g' x y)) := by
  obtain ⟨r, h1, h2⟩ := h
  obtain ⟨r', h1', h2'⟩ := h'
  refine ⟨_, h1.or h1', fun F H x y dx dy o le tb vx vy e Q q => ?_⟩
  cases z : g dx dy with
  | none =>
    simp only [z, Option.none_or] at e
    exact .inr (h2' F H x y dx dy o le tb vx vy e Q q)
  | some o' =>
    simp only [z, Option.some_or] at e
    cases e
    exact .inl (h2 F H x y dx dy o le tb vx vy z Q q)
theorem Prim2.go {r : R2} (h : Prim2 X r g) {ta tb : TE} {F H : Hp} {ev : Ev} {σ : L2.St} {W : Addr → Prop} {o : O} (S : Sta (gb X) F H ev σ W)
    (ha : ∀ F H ev σ W d, Sta (gb X) F H ev σ W → fa ev = some d → ∀ Q : VK, (∀ v F' H', Chg F H noW F' H' noW → Vw (gb X) F' H' d v → Q v H') → ta σ H Q)
    (hb : ∀ F H ev σ W d, Sta (gb X) F H ev σ W → fb ev = some d → ∀ Q : VK, (∀ v F' H', Chg F H noW F' H' noW → Vw (gb X) F' H' d v → Q v H') → tb σ H Q)
    (hf : f2 g fa fb ev = some o) (Q : VK) (hQ : Ret X F H o Q) : tOp r ta tb σ H Q := by
  obtain ⟨x, e1, e2⟩ := bnd hf
  obtain ⟨y, e3, e4⟩ := bnd e2
  refine ha F H ev σ W x S e1 _ fun v F1 H1 c1 v1 => ?_
  refine hb F1 H1 ev σ W y (S.chg0 c1) e3 _ fun u F2 H2 c2 v2 => ?_
  exact h F2 H2 v u x y o c2.le ((c1.trans c2).tbs0 S.tb) (v1.chg0 c2) v2 e4 Q fun v' F' H' P c3 r3 => hQ v' F' H' P ((c1.trans c2).trans c3) r3
theorem po_op {op : Operator} (h : Op2 X (binaryOp op) g) (ha : PB X a fa) (hb : PB X b fb) : PO X (.BinOp a op b pos) (f2 g fa fb) := by
  obtain ⟨r, h1, h2⟩ := h
  obtain ⟨ta, a1, a2⟩ := ha
  obtain ⟨tb, b1, b2⟩ := hb
  exact ⟨_, pe_op h1 a1 b1, fun F H ev σ W o S hf Q hQ => h2.go S a2 b2 hf Q hQ⟩
theorem po_cmp {op : CmpOp} (h : Op2 X (compareOp op) g) (ha : PB X a fa) (hb : PB X b fb) (hm : behindInMarks op b = false := by first | exact nobehind _ (by decide) (by decide) | rfl) : PO X (.Compare a [op] [b] pos) (f2 g fa fb) := by
  obtain ⟨r, h1, h2⟩ := h
  obtain ⟨ta, a1, a2⟩ := ha
  obtain ⟨tb, b1, b2⟩ := hb
  exact ⟨_, pe_cmpR h1 a1 b1 hm, fun F H ev σ W o S hf Q hQ => h2.go S a2 b2 hf Q hQ⟩
def ft (f : Ev → Option O) : Ev → Option Bool := fun ev => (f ev).bind O.tb
theorem tb_some {o : O} {b : Bool} (h : o.tb = some b) : o = .imm (.bl b) := by
  cases o with
  | imm d => cases d <;> first | (cases h; rfl) | cases h
  | _ => cases h
theorem Rep.bl {G : Gb} {F H : Hp} {b : Bool} {v : V} {P : Addr → Prop} (r : Rep G F H (.imm (.bl b)) v P) : v = .bl b ∧ ∀ a, ¬ P a := by
  unfold Rep at r
  exact ⟨by have := r.1; unfold Imm at this; exact this, r.2⟩
theorem Chg.noP {F H F' H' : Hp} {W P : Addr → Prop} (c : Chg F H W F' H' P) : Chg F H W F' H' noW := c.weak fun _ z => z.elim
theorem tt_cmp {op : CmpOp} (h : Op2 X (compareOp op) g) (ha : PB X a fa) (hb : PB X b fb) (hm : behindInMarks op b = false := by first | exact nobehind _ (by decide) (by decide) | rfl) : PTb X (.Compare a [op] [b] pos) (ft (f2 g fa fb)) := by
  obtain ⟨r, h1, h2⟩ := h
  obtain ⟨ta, a1, a2⟩ := ha
  obtain ⟨tb, b1, b2⟩ := hb
  refine ⟨_, pt_cmpR h1 a1 b1 hm, fun F H ev σ W k S hf Q hQ => ?_⟩
  obtain ⟨o, e1, e2⟩ := bnd hf
  obtain rfl := tb_some e2
  exact h2.go S a2 b2 e1 _ fun v F' H' P c r => ⟨k, r.bl.1, hQ F' H' c.noP⟩
def f3 (g g' : D → D → Option O) (fa fb fc : Ev → Option D) : Ev → Option O := fun ev => (fa ev).bind fun x => (fb ev).bind fun y => ((g x y).bind O.tb).bind fun k => if k = true then (fc ev).bind fun z => g' y z else some (.imm (.bl false))
theorem chain_go {r r' : R2} (h : Prim2 X r g) (h' : Prim2 X r' g') {ta tb tc : TE} {F H : Hp} {ev : Ev} {σ : L2.St} {W : Addr → Prop} {o : O} (S : Sta (gb X) F H ev σ W)
    (ha : ∀ F H ev σ W d, Sta (gb X) F H ev σ W → fa ev = some d → ∀ Q : VK, (∀ v F' H', Chg F H noW F' H' noW → Vw (gb X) F' H' d v → Q v H') → ta σ H Q)
    (hb : ∀ F H ev σ W d, Sta (gb X) F H ev σ W → fb ev = some d → ∀ Q : VK, (∀ v F' H', Chg F H noW F' H' noW → Vw (gb X) F' H' d v → Q v H') → tb σ H Q)
    (hc : ∀ F H ev σ W d, Sta (gb X) F H ev σ W → fc ev = some d → ∀ Q : VK, (∀ v F' H', Chg F H noW F' H' noW → Vw (gb X) F' H' d v → Q v H') → tc σ H Q)
    (hf : f3 g g' fa fb fc ev = some o) (Q : VK) (hQ : Ret X F H o Q) : tChain r r' ta tb tc σ H Q := by
  obtain ⟨x, e1, e2⟩ := bnd hf
  obtain ⟨y, e3, e4⟩ := bnd e2
  obtain ⟨k, e5, e6⟩ := bnd e4
  obtain ⟨o1, e7, e8⟩ := bnd e5
  obtain rfl := tb_some e8
  refine ha F H ev σ W x S e1 _ fun v F1 H1 c1 v1 => ?_
  refine hb F1 H1 ev σ W y (S.chg0 c1) e3 _ fun u F2 H2 c2 v2 => ?_
  refine h F2 H2 v u x y _ c2.le ((c1.trans c2).tbs0 S.tb) (v1.chg0 c2) v2 e7 _ fun v' F3 H3 P c3 r3 => ⟨k, r3.bl.1, ?_⟩
  have c13 := (c1.trans c2).trans c3.noP
  cases k with
  | false =>
    rw [if_neg Bool.false_ne_true] at e6 ⊢
    cases e6
    exact hQ _ F3 H3 noW c13 (.imm im_bl)
  | true =>
    rw [if_pos rfl] at e6 ⊢
    obtain ⟨z, e9, e10⟩ := bnd e6
    refine hc F3 H3 ev σ W z (S.chg0 c13) e9 _ fun w F4 H4 c4 v4 => ?_
    exact h' F4 H4 u w y z o c4.le ((c13.trans c4).tbs0 S.tb) ((v2.chg0 c3.noP).chg0 c4) v4 e10 Q fun v' F' H' P c5 r5 => hQ v' F' H' P ((c13.trans c4).trans c5) r5
theorem po_chain {op op' : CmpOp} (h : Op2 X (compareOp op) g) (h' : Op2 X (compareOp op') g') (ha : PB X a fa) (hb : PB X b fb) (hc : PB X c fc) (hm : lastMarks [op, op'] [b, c] = false := by with_unfolding_all rfl) : PO X (.Compare a [op, op'] [b, c] pos) (f3 g g' fa fb fc) := by
  obtain ⟨r, h1, h2⟩ := h
  obtain ⟨r', h1', h2'⟩ := h'
  obtain ⟨ta, a1, a2⟩ := ha
  obtain ⟨tb, b1, b2⟩ := hb
  obtain ⟨tc, c1, c2⟩ := hc
  exact ⟨_, pe_chain h1 h1' a1 b1 c1 hm, fun F H ev σ W o S hf Q hQ => chain_go h2 h2' S a2 b2 c2 hf Q hQ⟩
theorem Prim2.goM {r : R2} (h : Prim2 X r g) {ta tb : TE} {F H : Hp} {ev ev' : Ev} {σ : L2.St} {W : Addr → Prop} {o : O} (S : Sta (gb X) F H ev σ W)
    (ha : ∀ F H ev σ W d ev', Sta (gb X) F H ev σ W → ma ev = some (d, ev') → ∀ Q : VK, (∀ v F' H' W', Chg F H W F' H' W' → Sta (gb X) F' H' ev' σ W' → Imm (gb X) F' d v → Q v H') → ta σ H Q)
    (hb : ∀ F H ev σ W d ev', Sta (gb X) F H ev σ W → mb ev = some (d, ev') → ∀ Q : VK, (∀ v F' H' W', Chg F H W F' H' W' → Sta (gb X) F' H' ev' σ W' → Imm (gb X) F' d v → Q v H') → tb σ H Q)
    (hf : m2 g ma mb ev = some (o, ev')) (Q : VK) (hQ : ∀ v F' H' W' P, Chg F H W F' H' (fun a => W' a ∨ P a) → Sta (gb X) F' H' ev' σ W' → Rep (gb X) F' H' o v P → (∀ a, P a → ¬ W' a) → Q v H') : tOp r ta tb σ H Q := by
  obtain ⟨x, ev1, e1, e2⟩ := bind_some hf
  obtain ⟨y, ev2, e3, e4⟩ := bind_some e2
  obtain ⟨e5, rfl⟩ := opt_some e4
  refine ha F H ev σ W x ev1 S e1 _ fun v F1 H1 W1 c1 S1 v1 => ?_
  refine hb F1 H1 ev1 σ W1 y _ S1 e3 _ fun u F2 H2 W2 c2 S2 v2 => ?_
  exact h F2 H2 v u x y o c2.le S2.tb (Imm.vw c2.le (c2.imm v1)) (Imm.vw c2.le v2) e5 Q fun v' F' H' P c3 r3 => hQ v' F' H' W2 P ((c1.trans c2).trans (c3.lift S2)) (S2.chg0 c3) r3 (c3.newP S2)
def mt (m : M O) : M Bool := m.bind fun o => M.opt o.tb
end
section
variable {X : Cx}
theorem ret0 {F H : Hp} {o : O} {d : D} {v : V} {Q : VK} (le : LeF F H) (q : Ret X F H (.imm d) Q) (h : Imm (gb X) F d v) : Q v H := q v F H noW (Chg.refl le) (.imm h)
theorem chg_new {F H : Hp} {p : Addr} {o : HO} (le : LeF F H) (hp : H p = none) : Chg F H noW F (upd H p o) (fun a => a = p) := by
  have ne : ∀ a u, H a = some u → a ≠ p := fun a u e z => by rw [z, hp] at e; cases e
  refine ⟨Same.refl F, fun a u e => ?_, fun a u _ e _ => ?_, fun a _ _ f => f, Thr.ext fun a u e => ?_, fun a w => .inr (by rw [w]; exact hp)⟩
  · rw [upd_ne (ne a u (le a u e))]; exact le a u e
  · rw [upd_ne (ne a u e)]; exact e
  · rw [upd_ne (ne a u e)]; exact e
theorem free_F {F H : Hp} {p : Addr} (le : LeF F H) (hp : H p = none) : F p = none := by
  cases q : F p with
  | none => rfl
  | some u => rw [le p u q] at hp; cases hp
theorem ret_lst {F H : Hp} {ds : List D} {vs : List V} {p : Addr} {Q : VK} (le : LeF F H) (q : Ret X F H (.lst ds) Q) (hp : H p = none) (h : Imms (gb X) F ds vs) : Q (.ref p) (upd H p (.lst vs)) := by
  refine q _ F _ _ (chg_new le hp) ?_
  unfold Rep
  exact ⟨p, vs, rfl, upd_same, free_F le hp, h, fun _ => Iff.rfl⟩
theorem chg_newF {F H : Hp} {p : Addr} {o : HO} (le : LeF F H) (hp : H p = none) : Chg F H noW (upd F p o) (upd H p o) noW := by
  have ne : ∀ a u, H a = some u → a ≠ p := fun a u e z => by rw [z, hp] at e; cases e
  refine ⟨fun a u e => ?_, fun a u e => ?_, fun a u _ e _ => ?_, fun a _ e f => ?_, Thr.ext fun a u e => ?_, fun a w => w.elim⟩
  · rw [upd_ne (ne a u (le a u e))]; exact e
  · by_cases z : a = p
    · rw [z, upd_same] at e ⊢; exact e
    · rw [upd_ne z] at e ⊢; exact le a u e
  · rw [upd_ne (ne a u e)]; exact e
  · by_cases z : a = p
    · rw [z] at e; exact absurd hp e
    · rw [upd_ne z]; exact f
  · rw [upd_ne (ne a u e)]; exact e
theorem ret_tup {F H : Hp} {ds : List D} {vs : List V} {Q : VK} (le : LeF F H) (q : Ret X F H (.imm (.tup ds)) Q) (h : Imms (gb X) F ds vs) : NewT H vs Q := by
  intro p o hp ho
  have c := chg_newF (o := .frz o (.tup vs)) le hp
  refine q _ _ _ _ c (.imm ?_)
  unfold Imm
  exact ⟨p, vs, rfl, ⟨o, upd_same, ho⟩, c.imms h⟩
theorem Vw.int {G : Gb} {F H : Hp} {i : Int} {v : V} (h : Vw G F H (.int i) v) : v = .int i := by
  have h : Imm G F (.int i) v := h
  unfold Imm at h
  exact h
theorem Vw.bl {G : Gb} {F H : Hp} {i : Bool} {v : V} (h : Vw G F H (.bl i) v) : v = .bl i := by
  have h : Imm G F (.bl i) v := h
  unfold Imm at h
  exact h
theorem Vw.str {G : Gb} {F H : Hp} {i : List Nat} {v : V} (h : Vw G F H (.str i) v) : v = .str (sT i) ∧ okS i = true := by
  have h : Imm G F (.str i) v := h
  unfold Imm at h
  exact h
theorem Vw.tupN {G : Gb} {F H : Hp} {ds : List D} {v : V} (h : Vw G F H (.tup ds) v) : ∃ a vs, v = .ref a ∧ TpN F a vs ∧ Imms G F ds vs := by
  have h : Imm G F (.tup ds) v := h
  unfold Imm at h
  exact h
theorem Vw.tup {G : Gb} {F H : Hp} {ds : List D} {v : V} (h : Vw G F H (.tup ds) v) : ∃ a vs, v = .ref a ∧ SqT G.K F a vs ∧ Imms G F ds vs := by
  obtain ⟨a, vs, e, h1, h2⟩ := h.tupN
  exact ⟨a, vs, e, h1.sqt, h2⟩
theorem Vw.frl {G : Gb} {F H : Hp} {ds : List D} {v : V} (h : Vw G F H (.frl ds) v) : ∃ a vs, v = .ref a ∧ SqL G.K F a vs ∧ Imms G F ds vs := by
  have h : Imm G F (.frl ds) v := h
  unfold Imm at h
  exact h
theorem sT_app (a b : List Nat) : sT a ++ sT b = sT (a ++ b) := by
  show Str.append _ _ = _
  unfold Str.append sT
  simp
theorem sT_len (a : List Nat) : (sT a).length = a.length := by unfold sT Str.length; simp
theorem sT_tl (a : List Nat) : (sT a).cps.toList = a := by unfold sT; simp
theorem sT_inj {a b : List Nat} : sT a = sT b ↔ a = b := ⟨fun h => by rw [← sT_tl a, h, sT_tl], fun h => by rw [h]⟩
theorem okS_app {a b : List Nat} (h : okS a = true) (h' : okS b = true) : okS (a ++ b) = true := by unfold okS at *; simp [h, h']
def gAddI : D → D → Option O
  | .int i, .int j => some (.imm (.int (i + j)))
  | _, _ => none
def gAddS : D → D → Option O
  | .str a, .str b => if a.length + b.length ≤ sizeLine then some (.imm (.str (a ++ b))) else none
  | _, _ => none
def gAddL : D → D → Option O
  | .lst a, .lst b => if a.length + b.length ≤ sizeLine then some (.lst (a ++ b)) else none
  | _, _ => none
def gAddT : D → D → Option O
  | .tup a, .tup b => if a.length + b.length ≤ sizeLine then some (.imm (.tup (a ++ b))) else none
  | _, _ => none
def gAdd (x y : D) : Option O := (((gAddI x y).or (gAddS x y)).or (gAddL x y)).or (gAddT x y)
theorem o_addI : Op2 X (binaryOp .Add) gAddI := by
  refine ⟨_, op_add, fun F H x y dx dy o le tb vx vy e Q q => ?_⟩
  cases dx <;> cases dy <;> first | (cases e; done) | skip
  cases e
  exact ⟨_, _, vx.int, vy.int, ret0 (o := .imm .non) le q im_int⟩
theorem o_addS : Op2 X (binaryOp .Add) gAddS := by
  refine ⟨_, op_add_str, fun F H x y dx dy o le tb vx vy e Q q => ?_⟩
  cases dx <;> cases dy <;> first | (cases e; done) | skip
  simp only [gAddS] at e
  split at e
  · rename_i hz
    cases e
    obtain ⟨e1, o1⟩ := vx.str
    obtain ⟨e2, o2⟩ := vy.str
    refine ⟨_, _, e1, e2, by rw [sT_len, sT_len]; exact hz, ?_⟩
    rw [sT_app]
    exact ret0 (o := .imm .non) le q (im_str (okS_app o1 o2))
  · cases e
theorem o_addL : Op2 X (binaryOp .Add) gAddL := by
  refine ⟨_, op_cat, fun F H x y dx dy o le tb vx vy e Q q => ?_⟩
  cases dx <;> cases dy <;> first | (cases e; done) | skip
  simp only [gAddL] at e
  split at e
  · rename_i hz
    cases e
    obtain ⟨a, vs, e1, h1, i1⟩ := vx
    obtain ⟨b, ws, e2, h2, i2⟩ := vy
    refine ⟨a, b, vs, ws, e1, e2, h1, h2, by rw [i1.length, i2.length]; exact hz, fun p hp => ret_lst le q hp (i1.append i2)⟩
  · cases e
theorem imm_tup {G : Gb} {F : Hp} {ds : List D} {a : Addr} {vs : List V} (h : TpN F a vs) (i : Imms G F ds vs) : Imm G F (.tup ds) (.ref a) := by
  unfold Imm
  exact ⟨a, vs, rfl, h, i⟩
theorem o_addT : Op2 X (binaryOp .Add) gAddT := by
  refine ⟨_, op_catN, fun F H x y dx dy o le tb vx vy e Q q => ?_⟩
  cases dx <;> cases dy <;> first | (cases e; done) | skip
  simp only [gAddT] at e
  split at e
  · rename_i hz
    cases e
    obtain ⟨a, vs, e1, h1, i1⟩ := vx.tupN
    obtain ⟨b, ws, e2, h2, i2⟩ := vy.tupN
    refine ⟨a, b, vs, ws, e1, e2, Same.sqt le h1.sqt, Same.sqt le h2.sqt, by rw [i1.length, i2.length]; exact hz, fun z => ?_, fun z z' => ?_, fun _ _ => ret_tup le q (i1.append i2)⟩
    · subst z
      have e0 := i1.length
      simp at e0
      have e0 := List.eq_nil_of_length_eq_zero e0.symm
      subst e0
      exact ret0 (o := .imm .non) le q (imm_tup h2 i2)
    · subst z'
      have e0 := i2.length
      simp at e0
      have e0 := List.eq_nil_of_length_eq_zero e0.symm
      subst e0
      rw [List.append_nil] at q
      exact ret0 (o := .imm .non) le q (imm_tup h1 i1)
  · cases e
theorem o_add : Op2 X (binaryOp .Add) gAdd := ((o_addI.or o_addS).or o_addL).or o_addT
def gSub : D → D → Option O
  | .int i, .int j => some (.imm (.int (i - j)))
  | _, _ => none
def gMulI : D → D → Option O
  | .int i, .int j => if (-(2 ^ 64) < i ∧ i < 2 ^ 64) ∨ (-(2 ^ 64) < j ∧ j < 2 ^ 64) then some (.imm (.int (i * j))) else none
  | _, _ => none
theorem o_mulI : Op2 X (binaryOp .Mult) gMulI := by
  refine ⟨_, op_mul, fun F H x y dx dy o le tb vx vy e Q q => ?_⟩
  cases dx <;> cases dy <;> first | (cases e; done) | skip
  simp only [gMulI] at e
  split at e
  · rename_i hz
    cases e
    exact ⟨_, _, vx.int, vy.int, hz, ret0 (o := .imm .non) le q im_int⟩
  · cases e
def gRepL : D → D → Option O
  | .lst a, .int k => if -(2 ^ 63) ≤ k ∧ k < 2 ^ 63 ∧ a.length * k.toNat ≤ sizeLine then some (.lst (List.replicate k.toNat a).flatten) else none
  | _, _ => none
theorem o_repL : Op2 X (binaryOp .Mult) gRepL := by
  refine ⟨_, op_rep, fun F H x y dx dy o le tb vx vy e Q q => ?_⟩
  cases dx <;> cases dy <;> first | (cases e; done) | skip
  simp only [gRepL] at e
  split at e
  · rename_i hz
    cases e
    obtain ⟨a, vs, e1, h1, i1⟩ := vx
    exact ⟨a, _, vs, e1, vy.int, h1, hz.1, hz.2.1, by rw [i1.length]; exact hz.2.2, fun p hp => ret_lst le q hp (i1.replicate _)⟩
  · cases e
def gMul (x y : D) : Option O := (gMulI x y).or (gRepL x y)
theorem o_mul : Op2 X (binaryOp .Mult) gMul := o_mulI.or o_repL
def gMod : D → D → Option O
  | .int i, .int j => if 0 < j then some (.imm (.int (i % j))) else none
  | _, _ => none
theorem o_mod : Op2 X (binaryOp .Mod) gMod := by
  refine ⟨_, op_mod, fun F H x y dx dy o le tb vx vy e Q q => ?_⟩
  cases dx <;> cases dy <;> first | (cases e; done) | skip
  simp only [gMod] at e
  split at e
  · rename_i hz
    cases e
    exact ⟨_, _, vx.int, vy.int, hz, ret0 (o := .imm .non) le q im_int⟩
  · cases e
def gFdiv : D → D → Option O
  | .int i, .int j => if 0 < j ∧ j < 1073741824 then some (.imm (.int (i / j))) else none
  | _, _ => none
theorem o_fdiv : Op2 X (binaryOp .FloorDiv) gFdiv := by
  refine ⟨_, op_fdiv, fun F H x y dx dy o le tb vx vy e Q q => ?_⟩
  cases dx <;> cases dy <;> first | (cases e; done) | skip
  simp only [gFdiv] at e
  split at e
  · rename_i hz
    cases e
    exact ⟨_, _, vx.int, vy.int, hz, ret0 (o := .imm .non) le q im_int⟩
  · cases e
def gPow : D → D → Option O
  | .int i, .int j => if 0 ≤ j ∧ j ≤ 1000000 ∧ i.natAbs < 2 ^ 64 then some (.imm (.int (i ^ j.toNat))) else none
  | _, _ => none
theorem o_pow : Op2 X (binaryOp .Pow) gPow := by
  refine ⟨_, op_pow, fun F H x y dx dy o le tb vx vy e Q q => ?_⟩
  cases dx <;> cases dy <;> first | (cases e; done) | skip
  simp only [gPow] at e
  split at e
  · rename_i hz
    cases e
    exact ⟨_, _, vx.int, vy.int, hz, ret0 (o := .imm .non) le q im_int⟩
  · cases e
def gLt : D → D → Option O
  | .int i, .int j => some (.imm (.bl (decide (i < j))))
  | .str a, .str b => some (.imm (.bl (decide (a < b))))
  | _, _ => none
theorem o_lt : Op2 X (compareOp .Lt) gLt := by
  refine ⟨_, op_lt.or op_lt_str, fun F H x y dx dy o le tb vx vy e Q q => ?_⟩
  cases dx <;> cases dy <;> first | (cases e; done) | skip
  · cases e
    exact .inl ⟨_, _, vx.int, vy.int, ret0 (o := .imm .non) le q im_bl⟩
  · cases e
    refine .inr ⟨_, _, vx.str.1, vy.str.1, ?_⟩
    rw [sT_tl, sT_tl]
    exact ret0 (o := .imm .non) le q im_bl
def gLe : D → D → Option O
  | .int i, .int j => some (.imm (.bl (decide (i ≤ j))))
  | _, _ => none
def gGt : D → D → Option O
  | .int i, .int j => some (.imm (.bl (decide (j < i))))
  | _, _ => none
theorem o_gt : Op2 X (compareOp .Gt) gGt := by
  refine ⟨_, op_gt, fun F H x y dx dy o le tb vx vy e Q q => ?_⟩
  cases dx <;> cases dy <;> first | (cases e; done) | skip
  cases e
  exact ⟨_, _, vx.int, vy.int, ret0 (o := .imm .non) le q im_bl⟩
def gGe : D → D → Option O
  | .int i, .int j => some (.imm (.bl (decide (j ≤ i))))
  | _, _ => none
theorem o_ge : Op2 X (compareOp .GtE) gGe := by
  refine ⟨_, op_ge, fun F H x y dx dy o le tb vx vy e Q q => ?_⟩
  cases dx <;> cases dy <;> first | (cases e; done) | skip
  cases e
  exact ⟨_, _, vx.int, vy.int, ret0 (o := .imm .non) le q im_bl⟩
theorem Vw.non {G : Gb} {F H : Hp} {v : V} (h : Vw G F H .non v) : v = .non := by
  have h : Imm G F .non v := h
  unfold Imm at h
  exact h
mutual
def D.py : D → Option PyData
  | .non => some .none
  | .bl b => some (.bool b)
  | .int i => some (.int i)
  | .str s => some (.str (sT s))
  | .tup ds => (D.pys ds).map .tuple
  | .lst ds => (D.pys ds).map .list
  | .frl ds => (D.pys ds).map .list
  | .dct _ _ => none
  | .obj _ _ _ => none
  | .rep p => if PyData.strOk p.shown = true then some (.str p.shown) else none
  | .tpu _ => none
  | .cls _ => none
  | .exo _ _ _ => none
def D.pys : List D → Option (List PyData)
  | [] => some []
  | d :: ds => (D.py d).bind fun p => (D.pys ds).map fun ps => p :: ps
end
theorem strOk_of {s : List Nat} (h : okS s = true) : PyData.strOk (sT s) = true := by
  unfold PyData.strOk sT
  unfold okS at h
  simpa using h
theorem mp {α β : Type} {x : Option α} {f : α → β} {b : β} (h : x.map f = some b) : ∃ a, x = some a ∧ f a = b := by
  cases x with
  | none => cases h
  | some a => cases h; exact ⟨a, rfl, rfl⟩
mutual
theorem Imm.dp {G : Gb} {F H : Hp} (le : LeF F H) : ∀ (d : D) (v : V) (p : PyData), Imm G F d v → D.py d = some p → Dp G.K H v p ∧ PyData.canLay0 p = true
  | .non, v, p, h, e => by
    unfold Imm at h
    unfold D.py at e
    cases e
    subst h
    exact ⟨.non, by unfold PyData.canLay0; rfl⟩
  | .bl b, v, p, h, e => by
    unfold Imm at h
    unfold D.py at e
    cases e
    subst h
    exact ⟨.bl _, by unfold PyData.canLay0; rfl⟩
  | .int b, v, p, h, e => by
    unfold Imm at h
    unfold D.py at e
    cases e
    subst h
    exact ⟨.int _, by unfold PyData.canLay0; rfl⟩
  | .str b, v, p, h, e => by
    unfold Imm at h
    unfold D.py at e
    cases e
    obtain ⟨rfl, o⟩ := h
    exact ⟨.str _, by unfold PyData.canLay0; exact strOk_of o⟩
  | .tup ds, v, p, h, e => by
    unfold Imm at h
    unfold D.py at e
    obtain ⟨ps, e1, rfl⟩ := mp e
    obtain ⟨a, vs, rfl, h1, h2⟩ := h
    obtain ⟨q1, q2⟩ := Imms.dp le ds vs ps h2 e1
    exact ⟨.tup (Same.sqt le h1.sqt) q1, by unfold PyData.canLay0; exact q2⟩
  | .lst ds, v, p, h, e => by
    unfold Imm at h
    unfold D.py at e
    obtain ⟨ps, e1, rfl⟩ := mp e
    obtain ⟨a, vs, rfl, h1, h2⟩ := h
    obtain ⟨q1, q2⟩ := Imms.dp le ds vs ps h2 e1
    exact ⟨.lst (SqL.of (le _ _ h1)) q1, by unfold PyData.canLay0; exact q2⟩
  | .frl ds, v, p, h, e => by
    unfold Imm at h
    unfold D.py at e
    obtain ⟨ps, e1, rfl⟩ := mp e
    obtain ⟨a, vs, rfl, h1, h2⟩ := h
    obtain ⟨q1, q2⟩ := Imms.dp le ds vs ps h2 e1
    exact ⟨.lst (Same.seq le h1) q1, by unfold PyData.canLay0; exact q2⟩
  | .dct _ _, v, p, h, e => by unfold D.py at e; cases e
  | .rep d, v, p, h, e => by
    unfold Imm at h
    unfold D.py at e
    split at e
    · rename_i z
      cases e
      subst h
      exact ⟨.str _, by unfold PyData.canLay0; exact z⟩
    · cases e
  | .cls _, v, p, h, e => by unfold D.py at e; cases e
  | .tpu _, v, p, h, e => by unfold D.py at e; cases e
  | .obj _ _ _, v, p, h, e => by unfold D.py at e; cases e
  | .exo _ _ _, v, p, h, e => by unfold D.py at e; cases e
theorem Imms.dp {G : Gb} {F H : Hp} (le : LeF F H) : ∀ (ds : List D) (vs : List V) (ps : List PyData), Imms G F ds vs → D.pys ds = some ps → DpAll G.K H vs ps ∧ PyData.canLayAll0 ps = true
  | [], vs, ps, h, e => by
    unfold Imms at h
    unfold D.pys at e
    cases e
    subst h
    exact ⟨.nil, by unfold PyData.canLayAll0; rfl⟩
  | d :: ds, vs, ps, h, e => by
    unfold Imms at h
    unfold D.pys at e
    obtain ⟨v, r, rfl, h1, h2⟩ := h
    obtain ⟨p, e1, e2⟩ := bnd e
    obtain ⟨qs, e3, rfl⟩ := mp e2
    obtain ⟨a1, a2⟩ := Imm.dp le d v p h1 e1
    obtain ⟨b1, b2⟩ := Imms.dp le ds r qs h2 e3
    exact ⟨.cons a1 b1, by unfold PyData.canLayAll0; rw [a2, b2]; rfl⟩
end
theorem Vw.dp {G : Gb} {F H : Hp} (le : LeF F H) {d : D} {v : V} {p : PyData} (h : Vw G F H d v) (e : D.py d = some p) : Dp G.K H v p ∧ PyData.canLay0 p = true := by
  cases d with
  | lst ds =>
    unfold D.py at e
    obtain ⟨ps, e1, rfl⟩ := mp e
    obtain ⟨a, vs, rfl, h1, h2⟩ := h
    obtain ⟨q1, q2⟩ := Imms.dp le ds vs ps h2 e1
    exact ⟨.lst (SqL.of h1) q1, by unfold PyData.canLay0; exact q2⟩
  | dct _ _ => unfold D.py at e; cases e
  | _ => exact Imm.dp le _ v p h e
def D.pk (d : D) : Option PyData := d.py.bind fun p => if p.depth ≤ 64 then some p else none
theorem Vw.pk {G : Gb} {F H : Hp} (le : LeF F H) {d : D} {v : V} {p : PyData} (h : Vw G F H d v) (e : D.pk d = some p) : Dp G.K H v p ∧ SeqAt.shaped p = true := by
  obtain ⟨q, e1, e2⟩ := bnd e
  split at e2
  · rename_i hz
    cases e2
    obtain ⟨h1, h2⟩ := h.dp le e1
    exact ⟨h1, by unfold SeqAt.shaped; rw [h2, decide_eq_true hz]; rfl⟩
  · cases e2
def eqD (x y : D) : Option Bool := x.pk.bind fun p => y.pk.map fun q => PyData.eqv p q
def gEqD (x y : D) : Option O := (eqD x y).map fun b => .imm (.bl b)
def gNeD (x y : D) : Option O := (eqD x y).map fun b => .imm (.bl (!b))
def gEqR : D → D → Option O
  | .rep p, .rep q => some (.imm (.bl (decide (p.shown = q.shown))))
  | _, _ => none
def gNeR : D → D → Option O
  | .rep p, .rep q => some (.imm (.bl (!decide (p.shown = q.shown))))
  | _, _ => none
def gEq (x y : D) : Option O := (gEqD x y).or (gEqR x y)
def gNe (x y : D) : Option O := (gNeD x y).or (gNeR x y)
theorem o_eqD (hu : X.A.units + 64 < cLine) : Op2 X (compareOp .Eq) gEqD := by
  refine ⟨_, op_eqD hu, fun F H x y dx dy o le tb vx vy e Q q => ?_⟩
  obtain ⟨b, e1, rfl⟩ := mp e
  obtain ⟨p, e2, e3⟩ := bnd e1
  obtain ⟨p', e4, rfl⟩ := mp e3
  obtain ⟨a1, a2⟩ := vx.pk le e2
  obtain ⟨b1, b2⟩ := vy.pk le e4
  exact ⟨p, p', a1, b1, a2, b2, ret0 (o := .imm .non) le q im_bl⟩
theorem o_neD (hu : X.A.units + 64 < cLine) : Op2 X (compareOp .NotEq) gNeD := by
  refine ⟨_, op_neD hu, fun F H x y dx dy o le tb vx vy e Q q => ?_⟩
  obtain ⟨b, e1, rfl⟩ := mp e
  obtain ⟨p, e2, e3⟩ := bnd e1
  obtain ⟨p', e4, rfl⟩ := mp e3
  obtain ⟨a1, a2⟩ := vx.pk le e2
  obtain ⟨b1, b2⟩ := vy.pk le e4
  exact ⟨p, p', a1, b1, a2, b2, ret0 (o := .imm .non) le q im_bl⟩
theorem Vw.rep {G : Gb} {F H : Hp} {p : PyData} {v : V} (h : Vw G F H (.rep p) v) : v = .str p.shown := by
  have h : Imm G F (.rep p) v := h
  unfold Imm at h
  exact h
theorem dec_str {a b : Str} : decide (V.str a = V.str b) = decide (a = b) := by
  rw [Bool.eq_iff_iff]
  simp
theorem o_eqR : Op2 X (compareOp .Eq) gEqR := by
  refine ⟨_, op_eq, fun F H x y dx dy o le tb vx vy e Q q => ?_⟩
  cases dx <;> cases dy <;> first | (cases e; done) | skip
  cases e
  rw [vx.rep, vy.rep]
  exact ⟨rfl, ret0 (o := .imm .non) le q (by rw [dec_str]; exact im_bl)⟩
theorem o_neR : Op2 X (compareOp .NotEq) gNeR := by
  refine ⟨_, op_ne, fun F H x y dx dy o le tb vx vy e Q q => ?_⟩
  cases dx <;> cases dy <;> first | (cases e; done) | skip
  cases e
  rw [vx.rep, vy.rep]
  exact ⟨rfl, ret0 (o := .imm .non) le q (by rw [dec_str]; exact im_bl)⟩
theorem o_eq (hu : X.A.units + 64 < cLine) : Op2 X (compareOp .Eq) gEq := (o_eqD hu).or o_eqR
theorem o_ne (hu : X.A.units + 64 < cLine) : Op2 X (compareOp .NotEq) gNe := (o_neD hu).or o_neR
def gInS : D → D → Option Bool
  | .str [c], .str z => some (decide (c ∈ z))
  | _, _ => none
def gInL : D → D → Option Bool
  | x, .lst ds => x.pk.bind fun p => (D.pk (.lst ds)).bind fun l => match l with
    | .list ps => some (ps.any fun z => PyData.eqv z p)
    | _ => none
  | _, _ => none
def D.flat : D → Option V
  | .non => some .non
  | .bl b => some (.bl b)
  | .int i => some (.int i)
  | .str s => some (.str (sT s))
  | _ => none
def D.flats : List D → Option (List V)
  | [] => some []
  | d :: ds => d.flat.bind fun v => (D.flats ds).map fun vs => v :: vs
def gInT : D → D → Option Bool
  | x, .tup ds => x.flat.bind fun v => (D.flats ds).map fun vs => inV v vs
  | _, _ => none
theorem Imm.flat {G : Gb} {F : Hp} {d : D} {v w : V} (h : Imm G F d v) (e : d.flat = some w) : v = w ∧ flatV v = true := by
  cases d <;> cases e <;> unfold Imm at h <;> first | (obtain ⟨rfl, _⟩ := h; exact ⟨rfl, rfl⟩) | (subst h; exact ⟨rfl, rfl⟩)
theorem Vw.flat {G : Gb} {F H : Hp} {d : D} {v w : V} (h : Vw G F H d v) (e : d.flat = some w) : v = w ∧ flatV v = true := by
  cases d <;> first | exact Imm.flat (G := G) (F := F) h e | cases e
theorem Imms.flats {G : Gb} {F : Hp} : ∀ {ds : List D} {vs ws : List V}, Imms G F ds vs → D.flats ds = some ws → vs = ws ∧ vs.all flatV = true
  | [], _, _, h, e => by
    unfold Imms at h
    cases e
    subst h
    exact ⟨rfl, rfl⟩
  | d :: ds, _, _, h, e => by
    unfold Imms at h
    obtain ⟨v, r, rfl, h1, h2⟩ := h
    obtain ⟨w, e1, e2⟩ := bnd e
    obtain ⟨ws, e3, rfl⟩ := mp e2
    obtain ⟨rfl, f1⟩ := h1.flat e1
    obtain ⟨rfl, f2⟩ := Imms.flats h2 e3
    exact ⟨rfl, by rw [List.all_cons, f1, f2]; rfl⟩
def gIn (x y : D) : Option O := (((gInS x y).or (gInL x y)).or (gInT x y)).map fun b => .imm (.bl b)
theorem gInS_inv {x y : D} {b : Bool} (h : gInS x y = some b) : ∃ c z, x = .str [c] ∧ y = .str z ∧ b = decide (c ∈ z) := by
  unfold gInS at h
  split at h
  · cases h; exact ⟨_, _, rfl, rfl, rfl⟩
  · cases h
theorem or_inv {α : Type} {x y : Option α} {a : α} (h : x.or y = some a) : x = some a ∨ y = some a := by
  cases x with
  | none => exact .inr (by simpa using h)
  | some b => exact .inl (by simpa using h)
theorem in_go {F H : Hp} {x y : V} {dx dy : D} {b : Bool} (le : LeF F H) (vx : Vw (gb X) F H dx x) (vy : Vw (gb X) F H dy y) (h : ((gInS dx dy).or (gInL dx dy)).or (gInT dx dy) = some b) :
    (∃ (c : Nat) (z : Str), x = .str ⟨#[c]⟩ ∧ y = .str z ∧ b = decide (c ∈ z.cps.toList)) ∨ (∃ d ds, Dp X.K H x d ∧ Dp X.K H y (.list ds) ∧ SeqAt.shaped d = true ∧ SeqAt.shaped (.list ds) = true ∧ b = ds.any fun z => PyData.eqv z d) ∨
    ∃ p xs, y = .ref p ∧ (SqL X.K H p xs ∨ SqT X.K H p xs) ∧ flatV x = true ∧ xs.all flatV = true ∧ b = inV x xs := by
  rcases or_inv h with h | h
  · rcases or_inv h with h | h
    · obtain ⟨c, z, rfl, rfl, rfl⟩ := gInS_inv h
      exact .inl ⟨c, sT z, vx.str.1, vy.str.1, by rw [sT_tl]⟩
    · unfold gInL at h
      split at h
      · obtain ⟨p, e1, e2⟩ := bnd h
        obtain ⟨l, e3, e4⟩ := bnd e2
        split at e4
        · rename_i ps
          cases e4
          obtain ⟨a1, a2⟩ := vx.pk le e1
          obtain ⟨b1, b2⟩ := vy.pk le e3
          exact .inr (.inl ⟨p, ps, a1, b1, a2, b2, rfl⟩)
        · cases e4
      · cases h
  · unfold gInT at h
    split at h
    · obtain ⟨v, e1, e2⟩ := bnd h
      obtain ⟨vs, e3, rfl⟩ := mp e2
      obtain ⟨rfl, f1⟩ := vx.flat e1
      obtain ⟨a, ws, rfl, h1, h2⟩ := vy.tup
      obtain ⟨rfl, f2⟩ := h2.flats e3
      exact .inr (.inr ⟨a, ws, rfl, .inr (Same.sqt le h1), f1, f2, rfl⟩)
    · cases h
theorem o_in (hu : X.A.units + 65 < cLine) : Op2 X (compareOp .In) gIn := by
  refine ⟨_, (op_in_sign.or (op_inD hu)).or op_in_seq, fun F H x y dx dy o le tb vx vy e Q q => ?_⟩
  obtain ⟨b, e1, rfl⟩ := mp e
  have fin : Q (.bl b) H := ret0 (o := .imm .non) le q im_bl
  rcases in_go le vx vy e1 with ⟨c, z, h1, h2, h3⟩ | ⟨d, ds, h1, h2, h3, h4, h5⟩ | ⟨p, xs, h1, h2, h3, h4, h5⟩
  · exact .inl (.inl ⟨c, z, h1, h2, by rw [← h3]; exact fin⟩)
  · exact .inl (.inr ⟨d, ds, h1, h2, h3, h4, by rw [← h5]; exact fin⟩)
  · exact .inr ⟨p, xs, h1, h2, h3, h4, by rw [if_neg Bool.false_ne_true, ← h5]; exact fin⟩
end
end Kv
namespace Kv
open PySem PySem.Spec PyProof.Rows L2
def D.tb : D → Option Bool
  | .bl b => some b
  | _ => none
theorem dtb_some {d : D} {b : Bool} (h : d.tb = some b) : d = .bl b := by cases d <;> first | (cases h; rfl) | cases h
def D.tru : D → Option Bool
  | .non => some false
  | .bl b => some b
  | .int i => some (i != 0)
  | .str s => if s.length ≤ sizeLine then some ((s.length : Int) != 0) else none
  | .lst ds => some (!ds.isEmpty)
  | .frl ds => some (!ds.isEmpty)
  | .tup ds => some (!ds.isEmpty)
  | .dct _ _ => none
  | .obj _ _ _ => none
  | .rep _ => none
  | .tpu _ => none
  | .cls _ => none
  | .exo _ _ _ => none
def fnot (f : Ev → Option Bool) : Ev → Option Bool := fun ev => (f ev).map fun b => !b
def fand (f g : Ev → Option Bool) : Ev → Option Bool := fun ev => (f ev).bind fun b => if b = true then g ev else some false
def for_ (f g : Ev → Option Bool) : Ev → Option Bool := fun ev => (f ev).bind fun b => if b = true then some true else g ev
def fbl (f : Ev → Option Bool) : Ev → Option D := fun ev => (f ev).map D.bl
def fif {α : Type} (c : Ev → Option Bool) (f g : Ev → Option α) : Ev → Option α := fun ev => (c ev).bind fun b => if b = true then f ev else g ev
def mif {α : Type} (c : M Bool) (f g : M α) : M α := c.bind fun b => if b = true then f else g
section
variable {X : Cx} {pos : Pos} {e a b c : Expr} {fa fb : Ev → Option D} {f f' : Ev → Option Bool} {rest : List Expr}
theorem isEmpty_len {α β : Type} {xs : List α} {ys : List β} (h : xs.length = ys.length) : xs.isEmpty = ys.isEmpty := by
  cases xs <;> cases ys <;> simp at h ⊢
theorem Vw.tru {K : PySem.W.Frag} {mg : Str → Option Value} {F H : Hp} (le : LeF F H) {d : D} {v : V} {k : Bool} (h : Vw ⟨K, mg⟩ F H d v) (e : d.tru = some k) : TruV K v H k := by
  cases d with
  | non => cases e; rw [h.non]; rfl
  | bl b => cases e; rw [h.bl]; rfl
  | int b => cases e; rw [h.int]; rfl
  | str s =>
    simp only [D.tru] at e
    split at e
    · rename_i hz
      cases e
      rw [h.str.1]
      exact ⟨by rw [sT_len]; exact hz, by rw [sT_len]⟩
    · cases e
  | lst ds =>
    cases e
    obtain ⟨a, vs, rfl, h1, h2⟩ := h
    exact .inl ⟨vs, SqL.of h1, by rw [isEmpty_len h2.length]⟩
  | frl ds =>
    cases e
    obtain ⟨a, vs, rfl, h1, h2⟩ := h.frl
    exact .inl ⟨vs, Same.seq le h1, by rw [isEmpty_len h2.length]⟩
  | tup ds =>
    cases e
    obtain ⟨a, vs, rfl, h1, h2⟩ := h.tup
    exact .inr (.inl ⟨vs, Same.sqt le h1, by rw [isEmpty_len h2.length]⟩)
  | dct ks ds => cases e
  | obj c n ds => cases e
  | rep p => cases e
  | cls p => cases e
  | tpu p => cases e
  | exo c n ds => cases e
theorem tw_or1 (h : PTb X a f) : PWb X (.BoolOp .Or [a] pos) f := by
  obtain ⟨t, h1, h2⟩ := h
  exact ⟨_, pw_or1 h1, h2⟩
theorem tw_or (h : PTb X a f) (h' : PWb X (.BoolOp .Or (b :: rest) pos) f') : PWb X (.BoolOp .Or (a :: b :: rest) pos) (for_ f f') := by
  obtain ⟨t, h1, h2⟩ := h
  obtain ⟨t', h1', h2'⟩ := h'
  refine ⟨_, pw_or h1 h1', fun F H ev σ W k S hf Q hQ => ?_⟩
  obtain ⟨x, e1, e2⟩ := bnd hf
  refine h2 F H ev σ W _ S e1 _ fun F1 H1 c1 => ?_
  cases x with
  | true =>
    rw [if_pos rfl] at e2 ⊢
    cases e2
    exact hQ F1 H1 c1
  | false =>
    rw [if_neg Bool.false_ne_true] at e2 ⊢
    exact h2' F1 H1 ev σ W _ (S.chg0 c1) e2 _ fun F' H' c => hQ F' H' (c1.trans c)
theorem PWb.tt (h : PWb X e f) : PTb X e f := by
  obtain ⟨t, h1, h2⟩ := h
  exact ⟨t, h1.pt, h2⟩
theorem pv_if {fa fb : Ev → Option D} (hc : PTb X c f) (ha : PV X a fa) (hb : PV X b fb) : PV X (.IfExp c a b pos) (fif f fa fb) := by
  obtain ⟨t, h1, h2⟩ := hc
  obtain ⟨ta, a1, a2⟩ := ha
  obtain ⟨tb, b1, b2⟩ := hb
  refine ⟨_, pe_ifExp h1 a1 b1, fun F H ev σ W d S hf Q hQ => ?_⟩
  obtain ⟨x, e1, e2⟩ := bnd hf
  refine h2 F H ev σ W _ S e1 _ fun F1 H1 c1 => ?_
  cases x with
  | true =>
    rw [if_pos rfl] at e2 ⊢
    exact a2 F1 H1 ev σ W _ (S.chg0 c1) e2 _ fun v F' H' c => hQ v F' H' (c1.trans c)
  | false =>
    rw [if_neg Bool.false_ne_true] at e2 ⊢
    exact b2 F1 H1 ev σ W _ (S.chg0 c1) e2 _ fun v F' H' c => hQ v F' H' (c1.trans c)
theorem po_if {fa fb : Ev → Option O} (hc : PTb X c f) (ha : PO X a fa) (hb : PO X b fb) : PO X (.IfExp c a b pos) (fif f fa fb) := by
  obtain ⟨t, h1, h2⟩ := hc
  obtain ⟨ta, a1, a2⟩ := ha
  obtain ⟨tb, b1, b2⟩ := hb
  refine ⟨_, pe_ifExp h1 a1 b1, fun F H ev σ W d S hf Q hQ => ?_⟩
  obtain ⟨x, e1, e2⟩ := bnd hf
  refine h2 F H ev σ W _ S e1 _ fun F1 H1 c1 => ?_
  cases x with
  | true =>
    rw [if_pos rfl] at e2 ⊢
    exact a2 F1 H1 ev σ W _ (S.chg0 c1) e2 _ fun v F' H' P c => hQ v F' H' P (c1.trans c)
  | false =>
    rw [if_neg Bool.false_ne_true] at e2 ⊢
    exact b2 F1 H1 ev σ W _ (S.chg0 c1) e2 _ fun v F' H' P c => hQ v F' H' P (c1.trans c)
end
def fnil : Ev → Option (List D) := fun _ => some []
def fcons (f : Ev → Option D) (fs : Ev → Option (List D)) : Ev → Option (List D) := fun ev => (f ev).bind fun d => (fs ev).map fun ds => d :: ds
def mcons (m : M D) (ms : M (List D)) : M (List D) := m.bind fun d => M.map (fun ds => d :: ds) ms
def nostar : Expr → Bool
  | .Starred _ _ => false
  | _ => true
theorem starEach_cons {e : Expr} {es : List Expr} {env : Env} (h : nostar e = true) : starEach (e :: es) env = (false, eval e env) :: starEach es env := by
  cases e <;> first | rfl | cases h
section
variable {X : Cx} {e : Expr} {es : List Expr} {f : Ev → Option D} {fs : Ev → Option (List D)} {m : M D} {ms : M (List D)}
theorem ab_nil : PAb X [] fnil := ⟨_, pa_nil, fun F H ev σ W ds S hf Q hQ => by
  cases hf
  exact hQ [] F H (Chg.refl S.le) rfl⟩
theorem ab_cons (h : PB X e f) (h' : PAb X es fs) (hs : nostar e = true := by rfl) : PAb X (e :: es) (fcons f fs) := by
  obtain ⟨t, h1, h2⟩ := h
  obtain ⟨t', h1', h2'⟩ := h'
  refine ⟨_, pa_cons h1 h1' (starEach_cons hs), fun F H ev σ W ds S hf Q hQ => ?_⟩
  obtain ⟨d, e1, e2⟩ := bnd hf
  obtain ⟨ds', e3, rfl⟩ := mp e2
  refine h2 F H ev σ W _ S e1 _ fun v F1 H1 c1 r1 => ?_
  exact h2' F1 H1 ev σ W _ (S.chg0 c1) e3 _ fun vs F' H' c r => hQ _ F' H' (c1.trans c) ⟨v, vs, rfl, r1.chg0 c, r⟩
theorem av_nil : PAv X [] fnil := ⟨_, pa_nil, fun F H ev σ W ds S hf Q hQ => by
  cases hf
  exact hQ [] F H (Chg.refl S.le) .nil⟩
theorem av_cons (h : PV X e f) (h' : PAv X es fs) (hs : nostar e = true := by rfl) : PAv X (e :: es) (fcons f fs) := by
  obtain ⟨t, h1, h2⟩ := h
  obtain ⟨t', h1', h2'⟩ := h'
  refine ⟨_, pa_cons h1 h1' (starEach_cons hs), fun F H ev σ W ds S hf Q hQ => ?_⟩
  obtain ⟨d, e1, e2⟩ := bnd hf
  obtain ⟨ds', e3, rfl⟩ := mp e2
  refine h2 F H ev σ W _ S e1 _ fun v F1 H1 c1 r1 => ?_
  exact h2' F1 H1 ev σ W _ (S.chg0 c1) e3 _ fun vs F' H' c r => hQ _ F' H' (c1.trans c) (.cons (c.imm r1) r)
theorem ma_nil : MAv X [] (lft fnil) := ⟨_, pa_nil, fun F H ev σ W ds ev' S hf Q hQ => by
  obtain ⟨hf, rfl⟩ := lft_some hf
  cases hf
  exact hQ [] F H W (Chg.refl S.le) S .nil⟩
theorem ma_cons (h : MV X e m) (h' : MAv X es ms) (hs : nostar e = true := by rfl) : MAv X (e :: es) (mcons m ms) := by
  obtain ⟨t, h1, h2⟩ := h
  obtain ⟨t', h1', h2'⟩ := h'
  refine ⟨_, pa_cons h1 h1' (starEach_cons hs), fun F H ev σ W ds ev' S hf Q hQ => ?_⟩
  obtain ⟨d, ev1, e1, e2⟩ := bind_some hf
  obtain ⟨ds', e3, rfl⟩ := map_some e2
  refine h2 F H ev σ W _ _ S e1 _ fun v F1 H1 W1 c1 S1 r1 => ?_
  exact h2' F1 H1 ev1 σ W1 _ _ S1 e3 _ fun vs F' H' W' c S' r => hQ _ F' H' W' (c1.trans c) S' (.cons (c.imm r1) r)
end
def gLst (ds : List D) : Option O := if ds.length ≤ sizeLine then some (.lst ds) else none
def gTup (ds : List D) : Option O := if ds.length ≤ sizeLine then some (.imm (.tup ds)) else none
section
variable {X : Cx} {e : Expr} {es : List Expr} {fs : Ev → Option (List D)} {ms : M (List D)} {pos : Pos}
theorem po_lst (h : PAv X es fs) : PO X (.List es pos) (fun ev => (fs ev).bind gLst) := by
  obtain ⟨t, h1, h2⟩ := h
  refine ⟨_, pe_lst h1, fun F H ev σ W o S hf Q hQ => ?_⟩
  obtain ⟨ds, e1, e2⟩ := bnd hf
  unfold gLst at e2
  split at e2
  · rename_i hz
    cases e2
    exact h2 F H ev σ W _ S e1 _ fun vs F' H' c r => ⟨by rw [r.length]; exact hz, fun p hp => ret_lst c.le (fun v F2 H2 P c2 r2 => hQ v F2 H2 P (c.trans c2) r2) hp r⟩
  · cases e2
theorem po_tup {k} (h : PAv X es fs) : PO X (.Tuple es k pos) (fun ev => (fs ev).bind gTup) := by
  obtain ⟨t, h1, h2⟩ := h
  refine ⟨_, pe_tupN h1, fun F H ev σ W o S hf Q hQ => ?_⟩
  obtain ⟨ds, e1, e2⟩ := bnd hf
  unfold gTup at e2
  split at e2
  · rename_i hz
    cases e2
    exact h2 F H ev σ W _ S e1 _ fun vs F' H' c r => ⟨by rw [r.length]; exact hz, ret_tup c.le (fun v F2 H2 P c2 r2 => hQ v F2 H2 P (c.trans c2) r2) r⟩
  · cases e2
end
def PrimN (X : Cx) (r : List V → Hp → VK → Prop) (g : List D → Option O) : Prop := ∀ F H vs ds o, LeF F H → Tbs (gb X) F H → Vws (gb X) F H ds vs → g ds = some o → ∀ Q : VK, Ret X F H o Q → r vs H Q
def OpN (X : Cx) (f : Value) (g : List D → Option O) : Prop := ∃ r, CallR X f r ∧ PrimN X r g
section
variable {X : Cx} {pos p : Pos} {e : Expr} {es : List Expr} {fs : Ev → Option (List D)} {ms : M (List D)} {g g' : List D → Option O} {f : Value} {x : Str}
theorem OpN.or (h : OpN X f g) (h' : OpN X f g') : OpN X f (fun ds => (g ds).or (g' ds)) := by
  obtain ⟨r, h1, h2⟩ := h
  obtain ⟨r', h1', h2'⟩ := h'
  refine ⟨_, h1.or h1', fun F H vs ds o le tb v e Q q => ?_⟩
  cases z : g ds with
  | none =>
    simp only [z, Option.none_or] at e
    exact .inr (h2' F H vs ds o le tb v e Q q)
  | some o' =>
    simp only [z, Option.some_or] at e
    cases e
    exact .inl (h2 F H vs ds o le tb v z Q q)
theorem PrimN.go {r : List V → Hp → VK → Prop} (h : PrimN X r g) {t : TA} {F H : Hp} {ev : Ev} {σ : L2.St} {W : Addr → Prop} {o : O} (S : Sta (gb X) F H ev σ W)
    (ha : ∀ F H ev σ W ds, Sta (gb X) F H ev σ W → fs ev = some ds → ∀ Q : List V → Hp → Prop, (∀ vs F' H', Chg F H noW F' H' noW → Vws (gb X) F' H' ds vs → Q vs H') → t σ H Q)
    (hf : (fs ev).bind g = some o) (Q : VK) (hQ : Ret X F H o Q) : tCB r t σ H Q := by
  obtain ⟨ds, e1, e2⟩ := bnd hf
  exact ha F H ev σ W ds S e1 _ fun vs F1 H1 c1 r1 => h F1 H1 vs ds o c1.le (c1.tbs0 S.tb) r1 e2 Q fun v F' H' P c r => hQ v F' H' P (c1.trans c) r
theorem PrimN.goM {r : List V → Hp → VK → Prop} (h : PrimN X r g) {t : TA} {F H : Hp} {ev ev' : Ev} {σ : L2.St} {W : Addr → Prop} {o : O} (S : Sta (gb X) F H ev σ W)
    (ha : ∀ F H ev σ W ds ev', Sta (gb X) F H ev σ W → ms ev = some (ds, ev') → ∀ Q : List V → Hp → Prop, (∀ vs F' H' W', Chg F H W F' H' W' → Sta (gb X) F' H' ev' σ W' → Imms (gb X) F' ds vs → Q vs H') → t σ H Q)
    (hf : (ms.bind fun ds => M.opt (g ds)) ev = some (o, ev')) (Q : VK) (hQ : ∀ v F' H' W' P, Chg F H W F' H' (fun a => W' a ∨ P a) → Sta (gb X) F' H' ev' σ W' → Rep (gb X) F' H' o v P → (∀ a, P a → ¬ W' a) → Q v H') : tCB r t σ H Q := by
  obtain ⟨ds, ev1, e1, e2⟩ := bind_some hf
  obtain ⟨e3, rfl⟩ := opt_some e2
  exact ha F H ev σ W ds _ S e1 _ fun vs F1 H1 W1 c1 S1 r1 => h F1 H1 vs ds o c1.le S1.tb (r1.vws c1.le) e3 Q fun v F' H' P c r => hQ v F' H' W1 P (c1.trans (c.lift S1)) (S1.chg0 c) r (c.newP S1)
theorem po_callB {id : String} (h : OpN X (.builtin id) g) (hm : X.mg x = none) (hv : bootBuiltins x = some (.builtin id)) (ha : PAb X (e :: es) fs) (hg : Gl X x := by rfl) (hn : x ≠ "__name__" := by decide) (hdb : (x == ("__debug__" : Str)) = false := by decide)
    (he : starEach (e :: es) X.env = (false, eval e X.env) :: starEach es X.env := by rfl) (hpl : (backTo pos (starEach es X.env)).any (·.1) = false := by rfl) : PO X (.Call (.Name x p) (e :: es) [] pos) (fun ev => (fs ev).bind g) := by
  obtain ⟨r, h1, h2⟩ := h
  obtain ⟨t, a1, a2⟩ := ha
  exact ⟨_, pe_callB h1 hg hm hv a1 hn hdb he hpl, fun F H ev σ W o S hf Q hQ => h2.go S a2 hf Q hQ⟩
theorem po_callT {T : String} (h : OpN X (.type T) g) (hm : X.mg x = none) (hv : bootBuiltins x = some (.type T)) (ha : PAb X (e :: es) fs) (hg : Gl X x := by rfl) (hn : x ≠ "__name__" := by decide) (hdb : (x == ("__debug__" : Str)) = false := by decide)
    (he : starEach (e :: es) X.env = (false, eval e X.env) :: starEach es X.env := by rfl) (hpl : (backTo pos (starEach es X.env)).any (·.1) = false := by rfl) : PO X (.Call (.Name x p) (e :: es) [] pos) (fun ev => (fs ev).bind g) := by
  obtain ⟨r, h1, h2⟩ := h
  obtain ⟨t, a1, a2⟩ := ha
  exact ⟨_, pe_callTy h1 hg hm hv a1 hn hdb he hpl, fun F H ev σ W o S hf Q hQ => h2.go S a2 hf Q hQ⟩
end
section
variable {X : Cx}
theorem vws1 {G : Gb} {F H : Hp} {d : D} {vs : List V} (h : Vws G F H [d] vs) : ∃ v, vs = [v] ∧ Vw G F H d v := by
  obtain ⟨v, r, rfl, h1, h2⟩ := h
  have h2 : r = [] := h2
  subst h2
  exact ⟨v, rfl, h1⟩
theorem vws2 {G : Gb} {F H : Hp} {d e : D} {vs : List V} (h : Vws G F H [d, e] vs) : ∃ v u, vs = [v, u] ∧ Vw G F H d v ∧ Vw G F H e u := by
  obtain ⟨v, r, rfl, h1, h2⟩ := h
  obtain ⟨u, rfl, h3⟩ := vws1 h2
  exact ⟨v, u, rfl, h1, h3⟩
def gLen : List D → Option O
  | [.lst ds] => some (.imm (.int ds.length))
  | [.frl ds] => some (.imm (.int ds.length))
  | [.tup ds] => some (.imm (.int ds.length))
  | [.str s] => if s.length ≤ sizeLine then some (.imm (.int s.length)) else none
  | _ => none
theorem o_len : OpN X (.builtin "len") gLen := by
  refine ⟨_, call_len_seq.or call_len_str, fun F H vs ds o le tb h e Q q => ?_⟩
  unfold gLen at e
  split at e
  · rename_i xs
    cases e
    obtain ⟨v, rfl, a, ws, rfl, h1, h2⟩ := vws1 h
    exact .inl ⟨a, ws, rfl, .inl (SqL.of h1), by rw [h2.length]; exact ret0 (o := .imm .non) le q im_int⟩
  · rename_i xs
    cases e
    obtain ⟨v, rfl, hv⟩ := vws1 h
    obtain ⟨a, ws, rfl, h1, h2⟩ := hv.frl
    exact .inl ⟨a, ws, rfl, .inl (Same.seq le h1), by rw [h2.length]; exact ret0 (o := .imm .non) le q im_int⟩
  · rename_i xs
    cases e
    obtain ⟨v, rfl, hv⟩ := vws1 h
    obtain ⟨a, ws, rfl, h1, h2⟩ := hv.tup
    exact .inl ⟨a, ws, rfl, .inr (Same.sqt le h1), by rw [h2.length]; exact ret0 (o := .imm .non) le q im_int⟩
  · rename_i s
    split at e
    · rename_i hz
      cases e
      obtain ⟨v, rfl, hv⟩ := vws1 h
      refine .inr ⟨sT s, by rw [hv.str.1], by rw [sT_len]; exact hz, by rw [sT_len]; exact ret0 (o := .imm .non) le q im_int⟩
    · cases e
  · cases e
def D.bls : List D → Option (List Bool)
  | [] => some []
  | d :: ds => d.tb.bind fun b => (D.bls ds).map fun bs => b :: bs
theorem Imms.bls {G : Gb} {F : Hp} : ∀ {ds : List D} {vs : List V} {bs : List Bool}, Imms G F ds vs → D.bls ds = some bs → vs = bs.map V.bl
  | [], _, _, h, e => by
    unfold Imms at h
    cases e
    exact h
  | d :: ds, _, _, h, e => by
    unfold Imms at h
    obtain ⟨v, r, rfl, h1, h2⟩ := h
    obtain ⟨b, e1, e2⟩ := bnd e
    obtain ⟨bs, e3, rfl⟩ := mp e2
    obtain rfl := dtb_some e1
    unfold Imm at h1
    rw [h1, Imms.bls h2 e3]
    rfl
def gAll : List D → Option O
  | [.lst ds] => (D.bls ds).map fun bs => .imm (.bl (bs.all id))
  | _ => none
theorem o_all (hc : X.calm = true) : OpN X (.builtin "all") gAll := by
  refine ⟨_, cr_all hc, fun F H vs ds o le tb h e Q q => ?_⟩
  unfold gAll at e
  split at e
  · obtain ⟨bs, e1, rfl⟩ := mp e
    obtain ⟨v, rfl, a, ws, rfl, h1, h2⟩ := vws1 h
    obtain rfl := h2.bls e1
    exact ⟨a, bs, rfl, SqL.of h1, ret0 (o := .imm .non) le q im_bl⟩
  · cases e
def gTuple : List D → Option O
  | [.lst ds] => some (.imm (.tup ds))
  | [.tup ds] => some (.imm (.tup ds))
  | _ => none
def gList : List D → Option O
  | [.lst ds] => some (.lst ds)
  | [.frl ds] => some (.lst ds)
  | [.tup ds] => some (.lst ds)
  | _ => none
def gIntI : List D → Option O
  | [.int i] => some (.imm (.int i))
  | [.bl b] => some (.imm (.int (if b then 1 else 0)))
  | _ => none
def gIntS : List D → Option O
  | [.str s] => if s.length ≤ 640 then (PySem.intText? (sT s)).map fun n => .imm (.int n) else none
  | _ => none
def gInt (ds : List D) : Option O := (gIntI ds).or (gIntS ds)
theorem o_int : OpN X (.type "int") gInt := by
  refine OpN.or ⟨_, call_int1, fun F H vs ds o le tb h e Q q => ?_⟩ ⟨_, call_int_str, fun F H vs ds o le tb h e Q q => ?_⟩
  · unfold gIntI at e
    split at e
    · cases e
      obtain ⟨v, rfl, hv⟩ := vws1 h
      rw [hv.int]
      exact .inl ⟨_, rfl, ret0 (o := .imm .non) le q im_int⟩
    · cases e
      obtain ⟨v, rfl, hv⟩ := vws1 h
      rw [hv.bl]
      exact .inr ⟨_, rfl, ret0 (o := .imm .non) le q im_int⟩
    · cases e
  · unfold gIntS at e
    split at e
    · split at e
      · rename_i hz
        obtain ⟨n, e1, rfl⟩ := mp e
        obtain ⟨v, rfl, hv⟩ := vws1 h
        rw [hv.str.1]
        exact ⟨_, n, rfl, e1, by rw [sT_len]; exact hz, ret0 (o := .imm .non) le q im_int⟩
      · cases e
    · cases e
def gAbs : List D → Option O
  | [.int i] => some (.imm (.int (if i < 0 then -i else i)))
  | _ => none
theorem o_abs : OpN X (.builtin "abs") gAbs := by
  refine ⟨_, call_abs, fun F H vs ds o le tb h e Q q => ?_⟩
  unfold gAbs at e
  split at e
  · cases e
    obtain ⟨v, rfl, hv⟩ := vws1 h
    rw [hv.int]
    exact ⟨_, rfl, ret0 (o := .imm .non) le q im_int⟩
  · cases e
def gMax2 : List D → Option O
  | [.int i, .int j] => some (.imm (.int (if j > i then j else i)))
  | _ => none
def gMin2 : List D → Option O
  | [.int i, .int j] => some (.imm (.int (if j < i then j else i)))
  | _ => none
theorem o_max2 (hc : X.calm = true) : OpN X (.builtin "max") gMax2 := by
  refine ⟨_, call_max2 hc, fun F H vs ds o le tb h e Q q => ?_⟩
  unfold gMax2 at e
  split at e
  · cases e
    obtain ⟨v, u, rfl, hv, hu⟩ := vws2 h
    rw [hv.int, hu.int]
    exact ⟨_, _, rfl, ret0 (o := .imm .non) le q im_int⟩
  · cases e
theorem o_min2 (hc : X.calm = true) : OpN X (.builtin "min") gMin2 := by
  refine ⟨_, call_min2 hc, fun F H vs ds o le tb h e Q q => ?_⟩
  unfold gMin2 at e
  split at e
  · cases e
    obtain ⟨v, u, rfl, hv, hu⟩ := vws2 h
    rw [hv.int, hu.int]
    exact ⟨_, _, rfl, ret0 (o := .imm .non) le q im_int⟩
  · cases e
def gDivmod : List D → Option O
  | [.int i, .int j] => if 0 < j ∧ j < 1073741824 then some (.imm (.tup [.int (i / j), .int (i % j)])) else none
  | _ => none
theorem o_divmod : OpN X (.builtin "divmod") gDivmod := by
  refine ⟨_, call_divmodN, fun F H vs ds o le tb h e Q q => ?_⟩
  unfold gDivmod at e
  split at e
  · split at e
    · rename_i hz
      cases e
      obtain ⟨v, u, rfl, hv, hu⟩ := vws2 h
      rw [hv.int, hu.int]
      exact ⟨_, _, rfl, hz, ret_tup le q (.cons im_int (.one im_int))⟩
    · cases e
  · cases e
end
end Kv
namespace Kv
open PySem PySem.Spec PyProof.Rows L2
theorem impPE {X : Cx} {e : Expr} {t t' : TE} (h : PE X e t) (i : ∀ σ H Q, t' σ H Q → t σ H Q) : PE X e t' := ⟨fun pins s σ H Q I q => h.run pins s σ H Q I (i σ H Q q)⟩
theorem impPT {X : Cx} {e : Expr} {t t' : TT} (h : PT X e t) (i : ∀ σ H Q, t' σ H Q → t σ H Q) : PT X e t' := ⟨fun pins s σ H Q I q => h.run pins s σ H Q I (i σ H Q q)⟩
theorem impPG {X : Cx} {e : Expr} {t t' : TG} (h : PG X e t) (i : ∀ v σ H Q, t' v σ H Q → t v σ H Q) : PG X e t' := ⟨fun pins s σ H v u Q I r q => h.run pins s σ H v u Q I r (i v σ H Q q)⟩
theorem impPTs {X : Cx} {es : List Expr} {t t' : TT} (h : PTs X es t) (i : ∀ σ H Q, t' σ H Q → t σ H Q) : PTs X es t' := ⟨fun pins s σ H Q I q => h.run pins s σ H Q I (i σ H Q q)⟩
theorem impPI {X : Cx} {tg e : Expr} {t t' : TI} (h : PI X tg e t) (i : ∀ σ H R, t' σ H R → t σ H R) : PI X tg e t' := ⟨fun pins s σ H R I q => h.run pins s σ H R I (i σ H R q)⟩
section
variable (G : Gb)
def tV (f : Ev → Option D) : TE := fun σ H Q => ∃ F ev W d, Sta G F H ev σ W ∧ f ev = some d ∧ ∀ v F' H', Chg F H noW F' H' noW → Imm G F' d v → Q v H'
def tT (f : Ev → Option Bool) : TT := fun σ H Q => ∃ F ev W b, Sta G F H ev σ W ∧ f ev = some b ∧ ∀ F' H', Chg F H noW F' H' noW → Q b H'
def tMV (m : M D) : TE := fun σ H Q => ∃ F ev W d ev', Sta G F H ev σ W ∧ m ev = some (d, ev') ∧ ∀ v F' H' W', Chg F H W F' H' W' → Sta G F' H' ev' σ W' → Imm G F' d v → Q v H'
def tMT (m : M Bool) : TT := fun σ H Q => ∃ F ev W b ev', Sta G F H ev σ W ∧ m ev = some (b, ev') ∧ ∀ F' H' W', Chg F H W F' H' W' → Sta G F' H' ev' σ W' → Q b H'
end
theorem PV.pe {X : Cx} {e : Expr} {f : Ev → Option D} (h : PV X e f) : PE X e (tV (gb X) f) := by
  obtain ⟨t, h1, h2⟩ := h
  exact impPE h1 fun σ H Q ⟨F, ev, W, d, S, e, q⟩ => h2 F H ev σ W d S e Q q
theorem PTb.pt {X : Cx} {e : Expr} {f : Ev → Option Bool} (h : PTb X e f) : PT X e (tT (gb X) f) := by
  obtain ⟨t, h1, h2⟩ := h
  exact impPT h1 fun σ H Q ⟨F, ev, W, d, S, e, q⟩ => h2 F H ev σ W d S e Q q
theorem MV.pe {X : Cx} {e : Expr} {m : M D} (h : MV X e m) : PE X e (tMV (gb X) m) := by
  obtain ⟨t, h1, h2⟩ := h
  exact impPE h1 fun σ H Q ⟨F, ev, W, d, ev', S, e, q⟩ => h2 F H ev σ W d ev' S e Q q
theorem MTb.pt {X : Cx} {e : Expr} {m : M Bool} (h : MTb X e m) : PT X e (tMT (gb X) m) := by
  obtain ⟨t, h1, h2⟩ := h
  exact impPT h1 fun σ H Q ⟨F, ev, W, d, ev', S, e, q⟩ => h2 F H ev σ W d ev' S e Q q
def PCs (X : Cx) (es : List Expr) (f : Ev → Option Bool) : Prop := PTs X es (tT (gb X) f)
theorem pc_nil {X : Cx} : PCs X [] (kk true) := impPTs pts_nil fun σ H Q ⟨F, ev, W, d, S, e, q⟩ => by
  cases e
  exact q F H (Chg.refl S.le)
abbrev TF := D → Ev → Option Ev
abbrev TFs := List D → Ev → Option Ev
def tgt (G : Gb) (tf : TF) (vs : List Nat) : TG := fun v σ H Q => ∃ F ev W d ev', Sta G F H ev σ W ∧ Imm G F d v ∧ tf d ev = some ev' ∧ ∀ σ' W', Sta G F H ev' σ' W' → (∀ a, W' a → W a) → wipe σ' vs = wipe σ vs → σ'.length = σ.length → Q σ' H
def PGb (X : Cx) (e : Expr) (tf : TF) (vs : List Nat) : Prop := PG X e (tgt (gb X) tf vs)
def sSet (i : Nat) (d : D) (ev : Ev) : Option Ev := if i < ev.length then some (ev.set i (some (.imm d))) else none
def sNil : TFs
  | [], ev => some ev
  | _ :: _, _ => none
def sCons (t : TF) (ts : TFs) : TFs
  | d :: ds, ev => (t d ev).bind fun e1 => ts ds e1
  | [], _ => none
def sTup (n : Nat) (ts : TFs) : TF
  | .tup ds, ev => if ds.length = n then ts ds ev else none
  | .tpu ds, ev => if ds.length = n then ts ds ev else none
  | _, _ => none
def wipeE (ev : Ev) : List Nat → Ev
  | [] => ev
  | v :: vs => (wipeE ev vs).set v none
theorem wipe_len (σ : L2.St) : ∀ vs : List Nat, (wipe σ vs).length = σ.length
  | [] => rfl
  | v :: vs => by
    show ((wipe σ vs).set v none).length = _
    rw [List.length_set, wipe_len σ vs]
theorem wipe_ne {σ : L2.St} {j : Nat} : ∀ {vs : List Nat}, j ∉ vs → (wipe σ vs)[j]? = σ[j]?
  | [], _ => rfl
  | v :: vs, h => by
    show ((wipe σ vs).set v none)[j]? = _
    rw [List.getElem?_set_ne (fun z => h (by rw [z]; exact List.mem_cons_self))]
    exact wipe_ne fun z => h (List.mem_cons_of_mem _ z)
theorem wipe_in {σ : L2.St} {i : Nat} {x : Option V} : ∀ {vs : List Nat}, i ∈ vs → wipe (σ.set i x) vs = wipe σ vs
  | [], h => by cases h
  | v :: vs, h => by
    show (wipe (σ.set i x) vs).set v none = (wipe σ vs).set v none
    by_cases hv : i ∈ vs
    · rw [wipe_in hv]
    · have e : i = v := by
        rcases List.mem_cons.mp h with z | z
        · exact z
        · exact absurd z hv
      subst e
      apply List.ext_getElem?
      intro j
      by_cases hj : j = i
      · subst hj
        by_cases hl : j < (wipe σ vs).length
        · rw [List.getElem?_set_self hl, List.getElem?_set_self (by rw [wipe_len, List.length_set, ← wipe_len σ vs]; exact hl)]
        · rw [List.getElem?_eq_none (by rw [List.length_set, wipe_len, List.length_set]; rw [wipe_len] at hl; omega), List.getElem?_eq_none (by rw [List.length_set]; omega)]
      · rw [List.getElem?_set_ne (Ne.symm hj), List.getElem?_set_ne (Ne.symm hj)]
        by_cases hjv : j ∈ vs
        · -- both wiped there: same by the lemma below
          have key : ∀ (τ : L2.St) (ws : List Nat), j ∈ ws → (wipe τ ws)[j]? = if j < τ.length then some none else none := by
            intro τ ws
            induction ws with
            | nil => intro z; cases z
            | cons w ws ih =>
              intro z
              show ((wipe τ ws).set w none)[j]? = _
              by_cases hw : w = j
              · subst hw
                by_cases hl : w < τ.length
                · rw [if_pos hl, List.getElem?_set_self (by rw [wipe_len]; exact hl)]
                · rw [if_neg hl, List.getElem?_eq_none (by rw [List.length_set, wipe_len]; omega)]
              · rw [List.getElem?_set_ne hw]
                rcases List.mem_cons.mp z with q | q
                · exact absurd q.symm hw
                · exact ih q
          rw [key _ _ hjv, key _ _ hjv, List.length_set]
        · rw [wipe_ne hjv, wipe_ne hjv, List.getElem?_set_ne (Ne.symm hj)]
theorem wipe_eq {σ τ : L2.St} {vs : List Nat} (h : wipe σ vs = wipe τ vs) {j : Nat} (hj : j ∉ vs) : σ[j]? = τ[j]? := by
  rw [← wipe_ne (σ := σ) hj, h, wipe_ne hj]
section
variable {G : Gb} {F F' H H' : Hp} {ev ev' : Ev} {σ σ' : L2.St} {W W' P : Addr → Prop}
theorem Sta.wiped (S : Sta G F H ev σ W) : ∀ (vs : List Nat) (σ' : L2.St), σ'.length = σ.length → (∀ j, j ∉ vs → σ'[j]? = σ[j]?) → ∃ W', Sta G F H (wipeE ev vs) σ' W' ∧ ∀ a, W' a → W a
  | [], σ', hl, hs => by
    have e : σ' = σ := List.ext_getElem? fun j => hs j (by simp)
    subst e
    exact ⟨W, S, fun _ w => w⟩
  | v :: vs, σ', hl, hs => by
    obtain ⟨W1, S1, w1⟩ := S.wiped vs (σ'.set v (σ[v]?.getD none)) (by rw [List.length_set, hl]) fun j hj => by
      by_cases h : j = v
      · subst h
        by_cases hlt : j < σ.length
        · rw [List.getElem?_set_self (by rw [hl]; exact hlt), List.getElem?_eq_getElem hlt]
          rfl
        · rw [List.getElem?_eq_none (by rw [List.length_set]; omega), List.getElem?_eq_none (by omega)]
      · rw [List.getElem?_set_ne (Ne.symm h)]
        exact hs j (by simp [h, hj])
    obtain ⟨W2, S2, w2⟩ := S1.forget v (σ' := σ') (by rw [List.length_set]) fun j hj x e => by
      rw [List.getElem?_set_ne (Ne.symm hj)] at e
      exact e
    exact ⟨W2, S2, fun a w => w1 a (w2 a w)⟩
theorem Sta.wipe (S : Sta G F H ev σ W) (vs : List Nat) : ∃ W', Sta G F H (wipeE ev vs) (wipe σ vs) W' ∧ ∀ a, W' a → W a := S.wiped vs _ (wipe_len σ vs) fun _ hj => wipe_ne hj
end
section
variable {X : Cx} {pos : Pos}
theorem pg_nm {i : Nat} {x : Str} {vs : List Nat} (hN : X.N.Nodup) (hv : i ∈ vs := by simp) (hi : X.N[i]? = some x := by rfl) (hx : Loc X.env.scope x := by first | exact .inl rfl | exact .inr rfl) (hf : X.fn x = true ∨ X.env.scope.names.lookup x = some .local := by first | exact .inl rfl | exact .inr rfl | assumption) : PGb X (.Name x pos) (sSet i) vs :=
  impPG (pg_name hN hi hx hf) fun v σ H Q ⟨F, ev, W, d, ev', S, r, e, q⟩ => by
    unfold sSet at e
    split at e
    · rename_i hl
      cases e
      obtain ⟨W', S', w'⟩ := S.store (o := .imm d) (P := noW) hl (.imm r) (fun _ z => z.elim)
      exact q _ W' S' (fun a w => (w' a w).elim id fun z => z.elim) (wipe_in hv) (by rw [List.length_set])
    · cases e
end
def WalkV (G : Gb) (J : It) (F0 : Hp) (ds : List D) : Prop := ∀ F H, Same F0 F → LeF F H → ∀ i : Nat,
  (∀ d, ds[i]? = some d → J.go i H ∧ ∀ x H', J.yld i H x H' → ∃ F', Chg F H noW F' H' noW ∧ Imm G F' d x) ∧ (i = ds.length → J.stop i H)
def WalkB (G : Gb) (J : It) (F0 H0 : Hp) (ds : List D) : Prop := ∀ F H, Same F0 F → LeF F H → SameN H0 H → ∀ i : Nat,
  (∀ d, ds[i]? = some d → J.go i H ∧ ∀ x H', J.yld i H x H' → ∃ F', Chg F H noW F' H' noW ∧ Imm G F' d x) ∧ (i = ds.length → J.stop i H)
def tI (G : Gb) (fi : Ev → Option (List D)) : TI := fun σ H R => ∃ F ev W ds, Sta G F H ev σ W ∧ fi ev = some ds ∧ ∀ J F' H', Chg F H noW F' H' noW → WalkB G J F' H' ds → R J H'
def tIv (G : Gb) (fi : Ev → Option (List D)) : TI := fun σ H R => ∃ F ev W ds, Sta G F H ev σ W ∧ fi ev = some ds ∧ ∀ J F' H', Chg F H noW F' H' noW → WalkV G J F' ds → R J H'
def tMI (G : Gb) (mi : M (List D)) : TI := fun σ H R => ∃ F ev W ds ev', Sta G F H ev σ W ∧ mi ev = some (ds, ev') ∧ ∀ J F' H' W', Chg F H W F' H' W' → Sta G F' H' ev' σ W' → WalkV G J F' ds → R J H'
def PIb (X : Cx) (tg e : Expr) (fi : Ev → Option (List D)) : Prop := PI X tg e (tI (gb X) fi)
def PIv (X : Cx) (tg e : Expr) (fi : Ev → Option (List D)) : Prop := PI X tg e (tIv (gb X) fi)
def MIv (X : Cx) (tg e : Expr) (mi : M (List D)) : Prop := PI X tg e (tMI (gb X) mi)
def D.items : D → Option (List D)
  | .lst ds => some ds
  | .frl ds => some ds
  | .tup ds => some ds
  | .str s => some (s.map fun c => .str [c])
  | _ => none
section
variable {X : Cx} {tg e : Expr} {f : Ev → Option D}
theorem walk_list {G : Gb} {a : Addr} {xs : List V} {ds : List D} {F H : Hp} (h : SqL G.K H a xs) (r : Imms G F ds xs) (le : LeF F H) (i : Nat) :
    (∀ d, ds[i]? = some d → (Itl G.K a).go i H ∧ ∀ x H', (Itl G.K a).yld i H x H' → ∃ F', Chg F H noW F' H' noW ∧ Imm G F' d x) ∧ (i = ds.length → (Itl G.K a).stop i H) := by
  refine ⟨fun d e => ?_, fun e => ⟨xs, h, by rw [r.length, e]; exact Nat.le_refl _⟩⟩
  obtain ⟨v, e1, r1⟩ := r.get e
  refine ⟨⟨xs, v, h, e1⟩, fun x H' y => ?_⟩
  obtain ⟨rfl, y⟩ := y
  have e2 := y xs h
  rw [e1] at e2
  cases e2
  exact ⟨F, Chg.refl le, r1⟩
theorem walk_tup {G : Gb} {a : Addr} {xs : List V} {ds : List D} {F H : Hp} (h : SqT G.K H a xs) (r : Imms G F ds xs) (le : LeF F H) (i : Nat) :
    (∀ d, ds[i]? = some d → (Itt G.K a).go i H ∧ ∀ x H', (Itt G.K a).yld i H x H' → ∃ F', Chg F H noW F' H' noW ∧ Imm G F' d x) ∧ (i = ds.length → (Itt G.K a).stop i H) := by
  refine ⟨fun d e => ?_, fun e => ⟨xs, h, by rw [r.length, e]; exact Nat.le_refl _⟩⟩
  obtain ⟨v, e1, r1⟩ := r.get e
  refine ⟨⟨xs, v, h, e1⟩, fun x H' y => ?_⟩
  obtain ⟨rfl, y⟩ := y
  have e2 := y xs h
  rw [e1] at e2
  cases e2
  exact ⟨F, Chg.refl le, r1⟩
theorem walk_str {G : Gb} {s : List Nat} {F H : Hp} (o : okS s = true) (le : LeF F H) (i : Nat) :
    (∀ d, (s.map fun c => D.str [c])[i]? = some d → (Its (sT s)).go i H ∧ ∀ x H', (Its (sT s)).yld i H x H' → ∃ F', Chg F H noW F' H' noW ∧ Imm G F' d x) ∧ (i = (s.map fun c => D.str [c]).length → (Its (sT s)).stop i H) := by
  have hz : (sT s).cps.size = s.length := by unfold sT; simp
  refine ⟨fun d e => ?_, fun e => ?_⟩
  · rw [List.getElem?_map] at e
    obtain ⟨c, e1, rfl⟩ := mp e
    obtain ⟨hl, _⟩ := List.getElem?_eq_some_iff.mp e1
    refine ⟨by show i < (sT s).cps.size; rw [hz]; exact hl, fun x H' y => ?_⟩
    obtain ⟨rfl, c', e2, rfl⟩ := y
    have e3 : (sT s).cps[i]? = s[i]? := by unfold sT; simp
    rw [e3, e1] at e2
    cases e2
    refine ⟨F, Chg.refl le, ?_⟩
    have : okS [c] = true := by
      unfold okS at o ⊢
      have := List.all_eq_true.mp o c (List.mem_of_getElem? e1)
      simp only [List.all_cons, this, List.all_nil]
      rfl
    exact im_str this
  · show (sT s).cps.size ≤ i
    rw [hz, e]
    simp
theorem orPI {t t' : TI} (h : PI X tg e t) (h' : PI X tg e t') : PI X tg e (fun σ H R => t σ H R ∨ t' σ H R) := ⟨fun pins s σ H R I q => q.elim (h.run pins s σ H R I) (h'.run pins s σ H R I)⟩
theorem pi_v (h : PV X e f) : PIv X tg e (fun ev => (f ev).bind D.items) := by
  obtain ⟨t, h1, h2⟩ := h
  refine impPI (orPI (pi_list h1) (orPI (pi_tup h1) (pi_str h1))) fun σ H R ⟨F, ev, W, ds, S, e, q⟩ => ?_
  obtain ⟨d, e1, e2⟩ := bnd e
  cases d with
  | lst xs =>
    cases e2
    refine .inl (h2 F H ev σ W _ S e1 _ fun v F' H' c r => ?_)
    unfold Imm at r
    obtain ⟨a, vs, rfl, r1, r2⟩ := r
    refine ⟨a, rfl, ⟨vs, SqL.of (c.le _ _ r1)⟩, q _ F' H' c fun F2 H2 sm le i => ?_⟩
    exact walk_list (SqL.of (le _ _ (sm _ _ r1))) (Imms.mono sm _ _ r2) le i
  | frl xs =>
    cases e2
    refine .inl (h2 F H ev σ W _ S e1 _ fun v F' H' c r => ?_)
    unfold Imm at r
    obtain ⟨a, vs, rfl, r1, r2⟩ := r
    refine ⟨a, rfl, ⟨vs, Same.seq c.le r1⟩, q _ F' H' c fun F2 H2 sm le i => ?_⟩
    exact walk_list (Same.seq le (Same.seq sm r1)) (Imms.mono sm _ _ r2) le i
  | tup xs =>
    cases e2
    refine .inr (.inl (h2 F H ev σ W _ S e1 _ fun v F' H' c r => ?_))
    unfold Imm at r
    obtain ⟨a, vs, rfl, r1, r2⟩ := r
    refine ⟨a, rfl, ⟨vs, Same.sqt c.le r1.sqt⟩, q _ F' H' c fun F2 H2 sm le i => ?_⟩
    exact walk_tup (Same.sqt le (Same.sqt sm r1.sqt)) (Imms.mono sm _ _ r2) le i
  | str s =>
    cases e2
    refine .inr (.inr (h2 F H ev σ W _ S e1 _ fun v F' H' c r => ?_))
    unfold Imm at r
    obtain ⟨rfl, o⟩ := r
    exact ⟨_, rfl, q _ F' H' c fun F2 H2 sm le i => walk_str o le i⟩
  | _ => cases e2
def upTo (lo : Int) (n : Nat) : List D := (List.range n).map fun (k : Nat) => D.int (lo + (k : Int))
theorem walk_rng {G : Gb} {lo : Int} {n : Nat} {F H : Hp} (le : LeF F H) (i : Nat) :
    (∀ d, (upTo lo n)[i]? = some d → (Itr lo n).go i H ∧ ∀ x H', (Itr lo n).yld i H x H' → ∃ F', Chg F H noW F' H' noW ∧ Imm G F' d x) ∧ (i = (upTo lo n).length → (Itr lo n).stop i H) := by
  refine ⟨fun d e => ?_, fun e => ?_⟩
  · unfold upTo at e
    rw [List.getElem?_map] at e
    obtain ⟨c, e1, rfl⟩ := mp e
    obtain ⟨hl, e2⟩ := List.getElem?_eq_some_iff.mp e1
    rw [List.length_range] at hl
    rw [List.getElem_range] at e2
    subst e2
    refine ⟨hl, fun x H' y => ?_⟩
    obtain ⟨rfl, rfl⟩ := y
    exact ⟨F, Chg.refl le, im_int⟩
  · show n ≤ i
    rw [e]
    simp [upTo]
def gRng1 : List D → Option (List D)
  | [.int j] => if -(2 ^ 62) ≤ j ∧ j < 2 ^ 62 then some (upTo 0 j.toNat) else none
  | _ => none
def gRng2 : List D → Option (List D)
  | [.int i, .int j] => if -(2 ^ 62) ≤ i ∧ i < 2 ^ 62 ∧ -(2 ^ 62) ≤ j ∧ j < 2 ^ 62 then some (upTo i (j - i).toNat) else none
  | _ => none
theorem gRng1_inv {ds out : List D} (h : gRng1 ds = some out) : ∃ j, ds = [.int j] ∧ -(2 ^ 62) ≤ j ∧ j < 2 ^ 62 ∧ out = upTo 0 j.toNat := by
  unfold gRng1 at h
  split at h
  · split at h
    · rename_i hz
      cases h
      exact ⟨_, rfl, hz.1, hz.2, rfl⟩
    · cases h
  · cases h
section
variable {a b : Expr} {p pos : Pos} {fs : Ev → Option (List D)} {ms : M (List D)}
theorem pi_rng1 (hm : X.mg "range" = none) (ha : PAb X [a] fs) (hg : Gl X "range" := by rfl) (hs : starEach [a] X.env = [(false, eval a X.env)] := by rfl) : PIv X tg (.Call (.Name "range" p) [a] [] pos) (fun ev => (fs ev).bind gRng1) := by
  obtain ⟨t, h1, h2⟩ := ha
  refine impPI (pi_range1 hg hm h1 hs) fun σ H R ⟨F, ev, W, ds, S, e, q⟩ => ?_
  obtain ⟨d, e1, e2⟩ := bnd e
  obtain ⟨j, rfl, z1, z2, rfl⟩ := gRng1_inv e2
  refine h2 F H ev σ W _ S e1 _ fun vs F' H' c r => ?_
  obtain ⟨v, rfl, hv⟩ := vws1 r
  rw [hv.int]
  exact ⟨_, rfl, z1, z2, q _ F' H' c fun F2 H2 sm le i => walk_rng le i⟩
end
end
theorem PIv.pib {X : Cx} {tg e : Expr} {fi : Ev → Option (List D)} (h : PIv X tg e fi) : PIb X tg e fi :=
  impPI h fun σ H R ⟨F, ev, W, ds, S, e, q⟩ => ⟨F, ev, W, ds, S, e, fun J F' H' c w => q J F' H' c fun F2 H2 sm le _ i => w F2 H2 sm le i⟩
theorem PIv.mi {X : Cx} {tg e : Expr} {fi : Ev → Option (List D)} (h : PIv X tg e fi) : MIv X tg e (lft fi) :=
  impPI h fun σ H R ⟨F, ev, W, ds, ev', S, e, q⟩ => by
    obtain ⟨e, rfl⟩ := lft_some e
    exact ⟨F, _, W, ds, S, e, fun J F' H' c w => q J F' H' W (c.lift0 S) (S.chg0 c) w⟩
end Kv
namespace Kv
open PySem PySem.Spec PyProof.Rows L2
theorem wipe_at {j : Nat} {τ : L2.St} : ∀ {ws : List Nat}, j ∈ ws → (wipe τ ws)[j]? = if j < τ.length then some none else none
  | [], z => by cases z
  | w :: ws, z => by
    show ((wipe τ ws).set w none)[j]? = _
    by_cases hw : w = j
    · subst hw
      by_cases hl : w < τ.length
      · rw [if_pos hl, List.getElem?_set_self (by rw [wipe_len]; exact hl)]
      · rw [if_neg hl, List.getElem?_eq_none (by rw [List.length_set, wipe_len]; omega)]
    · rw [List.getElem?_set_ne hw]
      rcases List.mem_cons.mp z with q | q
      · exact absurd q.symm hw
      · exact wipe_at q
theorem wipe_wipe (σ : L2.St) (vs : List Nat) : wipe (wipe σ vs) vs = wipe σ vs := by
  apply List.ext_getElem?
  intro j
  by_cases h : j ∈ vs
  · rw [wipe_at h, wipe_at h, wipe_len]
  · rw [wipe_ne h]
section
variable {G : Gb} {F H F1 H1 : Hp} {ev : Ev} {σ : L2.St} {W W1 W' : Addr → Prop} {D : Addr} {o : HO}
theorem nx_of {u : HO} (h : H D = some u) (n : NX u := by trivial) : ∀ w, H D = some w → NX w := fun w e => by
  rw [h] at e
  cases e
  exact n
theorem nx_no (h : H D = none) : ∀ w, H D = some w → NX w := fun w e => by
  rw [h] at e
  cases e
theorem Thr.new (h : H D = none) : Thr H (upd H D o) := Thr.ext fun b u e => by
  have ne : b ≠ D := fun z => by
    rw [z, h] at e
    cases e
  rw [upd_ne ne]
  exact e
theorem Thr.put (hx : ∀ w, H D = some w → NX w) : Thr H (upd H D o) := by
  cases q : H D with
  | none => exact Thr.new q
  | some u => exact Thr.wr q (hx u q)
theorem Chg.wrD (c : Chg F1 H1 W1 F H W') (hD : H1 D = none) (fD : F D = none) (hx : ∀ w, H D = some w → NX w) : Chg F1 H1 W1 F (upd H D o) W' := by
  have ne : ∀ a, H1 a ≠ none → a ≠ D := fun a e z => e (by rw [z]; exact hD)
  refine ⟨c.sm, fun a u e => ?_, fun a u n e nt => ?_, c.kf, c.th.trans (Thr.put hx), c.wr⟩
  · rw [upd_ne (fun z => by rw [z, fD] at e; cases e)]; exact c.le a u e
  · rw [upd_ne (ne a (by rw [e]; simp))]; exact c.kp a u n e nt
theorem Sta.wrD (S : Sta G F H ev σ W) (nW : ¬ W D) (fD : F D = none) (hx : ∀ w, H D = some w → NX w) : Sta G F (upd H D o) ev σ W := by
  obtain ⟨fp, h1, h2, h3, h4⟩ := S.ex
  refine ⟨fun a u e => ?_, S.len, ⟨(Thr.put hx).tb S.tb.1, S.tb.2⟩, fp, fun i o' e => ?_, h2, h3, h4⟩
  · rw [upd_ne (fun z => by rw [z, fD] at e; cases e)]; exact S.le a u e
  · obtain ⟨v, e1, r⟩ := h1 i o' e
    refine ⟨v, e1, Rep.keep (Same.refl F) o' v _ (fun a p u q _ => ?_) (fun a p q => (Rep.own o' v _ r a p).2) r⟩
    rw [upd_ne (fun z => nW ((h4 D).2 ⟨i, by rw [← z]; exact p⟩))]
    exact q
end
def lcP (tf : TF) (fc : Ev → Option Bool) (fe : Ev → Option D) (ev : Ev) : List D → Option (List D)
  | [] => some []
  | d :: ds => (tf d ev).bind fun e1 => (fc e1).bind fun b => if b = true then (fe e1).bind fun y => (lcP tf fc fe ev ds).map fun ys => y :: ys else lcP tf fc fe ev ds
def fLc (fi : Ev → Option (List D)) (tf : TF) (fc : Ev → Option Bool) (fe : Ev → Option D) (vs : List Nat) : Ev → Option O :=
  fun ev => (fi ev).bind fun ds => (lcP tf fc fe (wipeE ev vs) ds).bind fun ys => if ys.length ≤ sizeLine then some (.lst ys) else none
theorem fLc_inv {fi : Ev → Option (List D)} {tf : TF} {fc : Ev → Option Bool} {fe : Ev → Option D} {vs : List Nat} {ev : Ev} {o : O} (h : fLc fi tf fc fe vs ev = some o) :
    ∃ ds ys, fi ev = some ds ∧ lcP tf fc fe (wipeE ev vs) ds = some ys ∧ ys.length ≤ sizeLine ∧ o = .lst ys := by
  obtain ⟨ds, e1, e2⟩ := bnd h
  obtain ⟨ys, e3, e4⟩ := bnd e2
  split at e4
  · rename_i hz
    cases e4
    exact ⟨ds, ys, e1, e3, hz, rfl⟩
  · cases e4
theorem lc_read {G : Gb} {fi : Ev → Option (List D)} {tf : TF} {fc : Ev → Option Bool} {fe : Ev → Option D} {vs : List Nat} {F0 H0 : Hp} {ev : Ev} {σ : L2.St} {W : Addr → Prop} {o : O} (S : Sta G F0 H0 ev σ W)
    (hf : fLc fi tf fc fe vs ev = some o) (Q : VK) (hQ : ∀ v F' H' P, Chg F0 H0 noW F' H' P → Rep G F' H' o v P → Q v H') : tLc (tI G fi) (tgt G tf vs) (tT G fc) (tV G fe) vs σ H0 Q := by
  obtain ⟨ds, ys, e1, e2, hz, rfl⟩ := fLc_inv hf
  refine ⟨F0, ev, W, ds, S, e1, fun J F1 H1 c1 wk D hD => ?_⟩
  have f1 : F1 D = none := free_F c1.le hD
  refine ⟨fun i m H => m = ds.length - i ∧ i ≤ ds.length ∧ ∃ F acc zs rest, Chg F1 H1 noW F H noW ∧ H D = some (.lst acc) ∧ F D = none ∧ Imms G F zs acc ∧ lcP tf fc fe (wipeE ev vs) (ds.drop i) = some rest ∧ zs ++ rest = ys,
    ⟨ds.length, rfl, Nat.zero_le _, F1, [], [], ys, (Chg.refl c1.le).wrD hD f1 (nx_no hD), upd_same, f1, .nil, e2, rfl⟩, ?_⟩
  rintro i m H ⟨rfl, hi, F2, acc, zs, rest, g, hDa, fD, im, er, ez⟩
  have w := wk F2 H g.sm g.le (fun a u e nt => g.kp a u (fun z => z) e nt) i
  by_cases hlt : i < ds.length
  · right
    have ed : ds[i]? = some ds[i] := List.getElem?_eq_getElem hlt
    obtain ⟨go, yl⟩ := w.1 _ ed
    rw [List.drop_eq_getElem_cons hlt] at er
    refine ⟨go, fun H => ∃ F acc zs rest, Chg F1 H1 noW F H noW ∧ H D = some (.lst acc) ∧ F D = none ∧ Imms G F zs acc ∧ lcP tf fc fe (wipeE ev vs) (ds.drop (i + 1)) = some rest ∧ zs ++ rest = ys,
      fun H' q => ⟨ds.length - (i + 1), by omega, rfl, hlt, q⟩, fun x H' y => ?_⟩
    obtain ⟨F3, c3, r3⟩ := yl x H' y
    obtain ⟨ev1, h1, er⟩ := bnd er
    obtain ⟨b, h2, er⟩ := bnd er
    have S3 : Sta G F3 H' ev σ W := S.chg0 (c1.trans (g.trans c3))
    obtain ⟨WB, SB, _⟩ := S3.wipe vs
    refine ⟨F3, wipeE ev vs, WB, _, ev1, SB, r3, h1, fun σ3 W3 S4 _ q3 _ => ⟨q3.trans (wipe_wipe σ vs), F3, ev1, W3, b, S4, h2, fun F4 H4 c4 => ?_⟩⟩
    cases b with
    | true =>
      rw [if_pos rfl] at er ⊢
      obtain ⟨z, h3, er⟩ := bnd er
      obtain ⟨rs, h4, rfl⟩ := mp er
      refine ⟨F4, ev1, W3, z, S4.chg0 c4, h3, fun v F5 H5 c5 r5 => ?_⟩
      have c' := (c3.trans c4).trans c5
      have f5 : F5 D = none := c'.kf D (fun q => q) (by rw [hDa]; simp) fD
      refine ⟨acc, c'.kpt D _ (fun q => q) hDa, ?_, F5, acc ++ [v], zs ++ [z], rs, (g.trans c').wrD hD f5 (nx_of (c'.kpt D _ (fun q => q) hDa)), upd_same, f5, (c'.imms im).append (.one r5), h4, by rw [← ez]; simp⟩
      have hl : acc.length = zs.length := im.length
      have hl2 := congrArg List.length ez
      rw [List.length_append, List.length_cons] at hl2
      omega
    | false =>
      rw [if_neg Bool.false_ne_true] at er ⊢
      have c' := c3.trans c4
      exact ⟨F4, acc, zs, rest, g.trans c', c'.kpt D _ (fun q => q) hDa, c'.kf D (fun q => q) (by rw [hDa]; simp) fD, c'.imms im, er, ez⟩
  · left
    have e : i = ds.length := by omega
    subst e
    refine ⟨w.2 rfl, ?_⟩
    rw [List.drop_length] at er
    cases er
    rw [List.append_nil] at ez
    subst ez
    have h0 : ∀ a, a = D → H1 a = none := fun a z => by rw [z]; exact hD
    refine hQ _ F2 H (fun a => a = D) ⟨(c1.trans g).sm, g.le, (c1.trans g).kp, (c1.trans g).kf, (c1.trans g).th, fun a z => .inr ?_⟩ ?_
    · cases q : H0 a with
      | none => rfl
      | some u => exact absurd (h0 a z) (c1.th a (by rw [q]; simp))
    · unfold Rep
      exact ⟨D, acc, rfl, hDa, fD, im, fun _ => Iff.rfl⟩
end Kv
namespace Kv
open PySem PySem.Spec PyProof.Rows L2
section
variable {X : Cx} {elt tg iter : Expr} {ifs : List Expr} {scope : Scope} {own : List (Str × Nat)} {vs : List Nat} {pos : Pos} {fi : Ev → Option (List D)} {tf : TF} {fc : Ev → Option Bool} {fe : Ev → Option D} {mi : M (List D)} {mc : M Bool} {me : M D}
theorem po_lc (own : List (Str × Nat)) (hc : X.calm = true) (hN : X.N.Nodup) (hi : PIb X tg iter fi)
    (hg : ∀ (s : Shared) (H : Hp) (C : Addr) (cl : List (Str × Addr)) (fp : List Addr), PGb (X.blk s H scope (compEnvC scope cl C X.env) fp) tg tf vs) (ht : ∀ (s : Shared) (H : Hp) (C : Addr) (cl : List (Str × Addr)) (fp : List Addr), PCs (X.blk s H scope (compEnvC scope cl C X.env) fp) ifs fc)
    (he : ∀ (s : Shared) (H : Hp) (C : Addr) (cl : List (Str × Addr)) (fp : List Addr), PV (X.blk s H scope (compEnvC scope cl C X.env) fp) elt fe) (ok : blkC X.N X.env.scope scope own = true := by kernel_rfl) (hv : own.map (·.2) = vs := by rfl) (hs : ∀ x, foldedSetIterable iter X.env x = pure x := by intro _; rfl) :
    PO X (.ListComp elt [⟨tg, iter, ifs, 0⟩] scope pos) (fLc fi tf fc fe vs) := by
  subst hv
  exact ⟨_, pe_lc (g := tgt (gb X) tf (own.map (fun (p : Str × Nat) => p.2))) (tt := tT (gb X) fc) (te := tV (gb X) fe) hc hN hi (blkOk_by ok) hg ht (fun s H C cl fp => (he s H C cl fp).pe) hs, fun F H ev σ W o S hf Q hQ => lc_read S hf Q hQ⟩
end
section
variable {X : Cx} {elt tg iter tg1 iter1 : Expr} {ifs ifs1 : List Expr} {scope : Scope} {vs vs1 : List Nat} {pos : Pos} {fi fi1 : Ev → Option (List D)} {tf tf1 : TF} {fc fc1 : Ev → Option Bool} {fe : Ev → Option D}
end
end Kv
namespace Kv
open PySem PySem.Spec PyProof.Rows L2
def gIxL : D → D → Option O
  | .lst ds, .int i => (atI ds i).map .imm
  | .frl ds, .int i => (atI ds i).map .imm
  | _, _ => none
def gIxT : D → D → Option O
  | .tup ds, .int i => (atI ds i).map .imm
  | _, _ => none
def gIxS : D → D → Option O
  | .str s, .int i => if s.length ≤ sizeLine then (atI s i).map fun c => .imm (.str [c]) else none
  | _, _ => none
def gIx (x y : D) : Option O := (gIxL x y).or ((gIxT x y).or (gIxS x y))
theorem atI_inv {α : Type} {xs : List α} {i : Int} {v : α} (h : atI xs i = some v) : ∃ j, ixN xs.length i = some j ∧ xs[j]? = some v := bnd h
theorem Imms.atI {G : Gb} {F : Hp} {ds : List D} {vs : List V} {i : Int} {d : D} (h : Imms G F ds vs) (e : L2.atI ds i = some d) : ∃ v, L2.atI vs i = some v ∧ Imm G F d v := by
  obtain ⟨j, e1, e2⟩ := atI_inv e
  obtain ⟨v, e3, r⟩ := h.get e2
  exact ⟨v, by unfold L2.atI; rw [h.length, e1]; exact e3, r⟩
section
variable {X : Cx} {a b : Expr} {pos : Pos} {fa fb : Ev → Option D} {ma mb : M D}
def OpI (X : Cx) (g : D → D → Option O) : Prop := ∃ r, IxR X r ∧ Prim2 X r g
theorem OpI.or {g g' : D → D → Option O} (h : OpI X g) (h' : OpI X g') : OpI X (fun x y => (g x y).or (g' x y)) := by
  obtain ⟨r, h1, h2⟩ := h
  obtain ⟨r', h1', h2'⟩ := h'
  refine ⟨_, h1.or h1', fun F H x y dx dy o le tb vx vy e Q q => ?_⟩
  cases z : g dx dy with
  | none =>
    simp only [z, Option.none_or] at e
    exact .inr (h2' F H x y dx dy o le tb vx vy e Q q)
  | some o' =>
    simp only [z, Option.some_or] at e
    cases e
    exact .inl (h2 F H x y dx dy o le tb vx vy z Q q)
theorem o_ix : OpI X gIx := by
  refine OpI.or ⟨_, ix_list, fun F H x y dx dy o le tb vx vy e Q q => ?_⟩ (OpI.or ⟨_, ix_tup, fun F H x y dx dy o le tb vx vy e Q q => ?_⟩ ⟨_, ix_str, fun F H x y dx dy o le tb vx vy e Q q => ?_⟩)
  · unfold gIxL at e
    split at e
    · obtain ⟨d, e1, rfl⟩ := mp e
      obtain ⟨p, vs, rfl, h1, h2⟩ := vx
      obtain ⟨v, e2, r⟩ := h2.atI e1
      exact ⟨p, vs, _, v, rfl, vy.int, SqL.of h1, e2, ret0 (o := .imm .non) le q r⟩
    · obtain ⟨d, e1, rfl⟩ := mp e
      obtain ⟨p, vs, rfl, h1, h2⟩ := vx.frl
      obtain ⟨v, e2, r⟩ := h2.atI e1
      exact ⟨p, vs, _, v, rfl, vy.int, Same.seq le h1, e2, ret0 (o := .imm .non) le q r⟩
    · cases e
  · unfold gIxT at e
    split at e
    · obtain ⟨d, e1, rfl⟩ := mp e
      obtain ⟨p, vs, rfl, h1, h2⟩ := vx.tup
      obtain ⟨v, e2, r⟩ := h2.atI e1
      exact ⟨p, vs, _, v, rfl, vy.int, Same.sqt le h1, e2, ret0 (o := .imm .non) le q r⟩
    · cases e
  · unfold gIxS at e
    split at e
    · split at e
      · rename_i hz
        obtain ⟨c, e1, rfl⟩ := mp e
        obtain ⟨e2, o2⟩ := vx.str
        refine ⟨_, _, c, e2, vy.int, by rw [sT_len]; exact hz, by rw [sT_tl]; exact e1, ret0 (o := .imm .non) le q ?_⟩
        refine im_str ?_
        obtain ⟨j, _, e3⟩ := atI_inv e1
        unfold okS at o2 ⊢
        have := List.all_eq_true.mp o2 c (List.mem_of_getElem? e3)
        simp only [List.all_cons, this, List.all_nil]
        rfl
      · cases e
    · cases e
theorem po_ix (ha : PB X a fa) (hb : PB X b fb) (hs : PlainIx b := by exact fun _ _ => rfl) : PO X (.Subscript a b pos) (f2 gIx fa fb) := by
  obtain ⟨r, h1, h2⟩ := o_ix (X := X)
  obtain ⟨ta, a1, a2⟩ := ha
  obtain ⟨tb, b1, b2⟩ := hb
  exact ⟨_, pe_ix h1 a1 b1 hs, fun F H ev σ W o S hf Q hQ => h2.go S a2 b2 hf Q hQ⟩
theorem mo_ix (ha : MV X a ma) (hb : MV X b mb) (hs : PlainIx b := by exact fun _ _ => rfl) : MO X (.Subscript a b pos) (m2 gIx ma mb) := by
  obtain ⟨r, h1, h2⟩ := o_ix (X := X)
  obtain ⟨ta, a1, a2⟩ := ha
  obtain ⟨tb, b1, b2⟩ := hb
  exact ⟨_, pe_ix h1 a1 b1 hs, fun F H ev σ W o ev' S hf Q hQ => h2.goM S a2 b2 hf Q hQ⟩
end
def D.dk : D → Option DK
  | .int i => some (.int i)
  | .str s => some (.str s)
  | _ => none
def repK : List DK → List D → DK → D → List D
  | k :: ks, d :: ds, x, y => (if k = x then y else d) :: repK ks ds x y
  | _, _, _, _ => []
def putK1 (ks : List DK) (x : DK) : List DK := if x ∈ ks then ks else ks ++ [x]
def putD1 (ks : List DK) (ds : List D) (x : DK) (y : D) : List D := if x ∈ ks then repK ks ds x y else ds ++ [y]
theorem key_inj {a b : DK} : a.key = b.key ↔ a = b := by
  constructor
  · intro h
    cases a <;> cases b <;> unfold DK.key at h
    · cases h; rfl
    · cases h
    · cases h
    · rename_i x y
      have := Sum.inr.inj h
      rw [sT_inj.mp this]
  · intro h; rw [h]
theorem dk_key {G : Gb} {F : Hp} {d : D} {v : V} {k : DK} (h : Imm G F d v) (e : d.dk = some k) : v = kV k.key := by
  cases d <;> cases e <;> unfold Imm at h
  · exact h
  · exact h.1
theorem Vw.dk {G : Gb} {F H : Hp} {d : D} {v : V} {k : DK} (h : Vw G F H d v) (e : d.dk = some k) : v = kV k.key := by
  cases d <;> first | exact dk_key (G := G) (F := F) h e | cases e
theorem any_key {x : DK} : ∀ {ks : List DK} {vs : List V}, ks.length = vs.length → (((ks.map DK.key).zip vs).any fun kv => decide (kv.1 = x.key)) = decide (x ∈ ks)
  | [], vs, _ => by simp
  | k :: ks, [], h => by cases h
  | k :: ks, v :: vs, h => by
    rw [List.map_cons, List.zip_cons_cons, List.any_cons, any_key (by simpa using h)]
    by_cases hk : k = x
    · subst hk; simp
    · have nk : ¬ k.key = x.key := fun z => hk (key_inj.mp z)
      have : ¬ x = k := fun z => hk z.symm
      simp [nk, this]
theorem map_rep {G : Gb} {F : Hp} {x : DK} {d : D} {v : V} (r : Imm G F d v) : ∀ {ks : List DK} {ds : List D} {vs : List V}, Imms G F ds vs → ks.length = vs.length →
    ∃ ws, ((ks.map DK.key).zip vs).map (fun kv => if kv.1 = x.key then (kv.1, v) else kv) = (ks.map DK.key).zip ws ∧ ks.length = ws.length ∧ Imms G F (repK ks ds x d) ws
  | [], ds, vs, h, hl => ⟨[], by simp, rfl, by unfold repK; exact .nil⟩
  | k :: ks, [], vs, h, hl => by
    unfold Imms at h
    subst h
    cases hl
  | k :: ks, e :: ds, vs, h, hl => by
    unfold Imms at h
    obtain ⟨u, r', rfl, h1, h2⟩ := h
    obtain ⟨ws, e1, e2, e3⟩ := map_rep (x := x) r h2 (by simpa using hl)
    unfold repK
    by_cases hk : k = x
    · refine ⟨v :: ws, ?_, by simp [e2], by rw [if_pos hk]; exact .cons r e3⟩
      rw [List.map_cons, List.zip_cons_cons, List.map_cons, e1, if_pos (by rw [hk])]
      rfl
    · have nk : ¬ k.key = x.key := fun z => hk (key_inj.mp z)
      refine ⟨u :: ws, ?_, by simp [e2], by rw [if_neg hk]; exact .cons h1 e3⟩
      rw [List.map_cons, List.zip_cons_cons, List.map_cons, e1, if_neg nk]
      rfl
theorem putK_imms {G : Gb} {F : Hp} {x : DK} {d : D} {v : V} {ks : List DK} {ds : List D} {vs : List V} (r : Imm G F d v) (h : Imms G F ds vs) (hl : ks.length = vs.length) :
    ∃ ws, putK ((ks.map DK.key).zip vs) x.key v = ((putK1 ks x).map DK.key).zip ws ∧ (putK1 ks x).length = ws.length ∧ Imms G F (putD1 ks ds x d) ws := by
  unfold putK putK1 putD1
  rw [any_key hl]
  by_cases hx : x ∈ ks
  · rw [if_pos (decide_eq_true hx), if_pos hx, if_pos hx]
    exact map_rep r h hl
  · rw [if_neg (by simp [hx]), if_neg hx, if_neg hx]
    refine ⟨vs ++ [v], ?_, by simp [hl], h.append (.one r)⟩
    rw [List.map_append, List.zip_append (by simp [hl])]
    rfl
section
variable {X : Cx} {a b : Expr} {pos : Pos} {fa fb fc : Ev → Option D}
theorem DGet.rd {H : Hp} {a : Addr} {kvs : List (Key × V)} {k : Key} (e : Rd H a (.dK kvs)) : DGet H a (kV k) (valV kvs k) := .inl ⟨kvs, k, e, rfl, rfl⟩
theorem po_dnew : PO X (.Dict [] [] pos) (kk (.dct [] [])) := ⟨_, pe_dnewK, fun F H ev σ W o S hf Q hQ => by
  cases hf
  intro p hp
  refine hQ _ F _ _ (chg_new S.le hp) ?_
  unfold Rep
  exact ⟨p, [], rfl, upd_same, free_F S.le hp, rfl, .nil, fun _ => Iff.rfl⟩⟩
end
def cutG {α : Type} (xs : List α) (lo hi : Option Int) : List α := (xs.drop (HT.sIx xs.length 0 lo)).take (HT.sIx xs.length xs.length hi - HT.sIx xs.length 0 lo)
def PPt (X : Cx) (e : Option Expr) (f : Ev → Option (Option Int)) : Prop := ∃ t : L2.TO, L2.PO X e t ∧ ∀ F H ev σ W i, Sta (gb X) F H ev σ W → f ev = some i → ∀ Q : Option Int → Hp → Prop, (∀ F' H', Chg F H noW F' H' noW → Q i H') → t σ H Q
def D.i? : D → Option (Option Int)
  | .int i => some (some i)
  | _ => none
section
variable {X : Cx} {a b : Expr} {pos : Pos} {fa fb fc : Ev → Option D} {e : Expr}
theorem pt_none : PPt X none (kk none) := ⟨_, po_none, fun F H ev σ W i S hf Q hQ => by
  cases hf
  exact hQ F H (Chg.refl S.le)⟩
theorem pt_some (h : PB X e fa) : PPt X (some e) (fun ev => (fa ev).bind D.i?) := by
  obtain ⟨t, h1, h2⟩ := h
  refine ⟨_, po_some h1, fun F H ev σ W i S hf Q hQ => ?_⟩
  obtain ⟨d, e1, e2⟩ := bnd hf
  cases d <;> first | (cases e2; done) | skip
  cases e2
  exact h2 F H ev σ W _ S e1 _ fun v F' H' c r => ⟨_, r.int, hQ F' H' c⟩
def gSl (d : D) (lo hi : Option Int) : Option O := match d with
  | .lst ds => some (.lst (cutG ds lo hi))
  | .frl ds => some (.lst (cutG ds lo hi))
  | .tup ds => some (.imm (.tup (cutG ds lo hi)))
  | .str s => if s.length ≤ sizeLine then some (.imm (.str (cutG s lo hi))) else none
  | _ => none
theorem Imms.cut {G : Gb} {F : Hp} {ds : List D} {vs : List V} (h : Imms G F ds vs) (lo hi : Option Int) : Imms G F (cutG ds lo hi) (cutV vs lo hi) := by
  unfold cutG cutV
  rw [h.length]
  exact (h.drop _).take _
theorem cutG_all {α : Type} {xs : List α} {lo hi : Option Int} (h : HT.sIx xs.length 0 lo = 0 ∧ HT.sIx xs.length xs.length hi = xs.length) : cutG xs lo hi = xs := by
  unfold cutG
  rw [h.1, h.2]
  simp
def fSl (f : Ev → Option D) (lo hi : Ev → Option (Option Int)) : Ev → Option O := fun ev => (f ev).bind fun d => (lo ev).bind fun l => (hi ev).bind fun h => gSl d l h
theorem po_slice {lo hi : Option Expr} {fl fh : Ev → Option (Option Int)} {p2 : Pos} (h : PB X e fa) (hl : PPt X lo fl) (hh : PPt X hi fh) : PO X (.Subscript e (.Slice lo hi none p2) pos) (fSl fa fl fh) := by
  obtain ⟨t, h1, h2⟩ := h
  obtain ⟨tl, l1, l2⟩ := hl
  obtain ⟨th, u1, u2⟩ := hh
  refine ⟨_, pe_slice (sl_list.or (sl_tupN.or sl_str)) h1 l1 u1, fun F H ev σ W o S hf Q hQ => ?_⟩
  obtain ⟨d, e1, hf⟩ := bnd hf
  obtain ⟨l, e2, hf⟩ := bnd hf
  obtain ⟨u, e3, hf⟩ := bnd hf
  refine h2 F H ev σ W _ S e1 _ fun v F1 H1 c1 v1 => ?_
  refine l2 F1 H1 ev σ W _ (S.chg0 c1) e2 _ fun F2 H2 c2 => ?_
  refine u2 F2 H2 ev σ W _ ((S.chg0 c1).chg0 c2) e3 _ fun F3 H3 c3 => ?_
  have v3 := (v1.chg0 c2).chg0 c3
  have c := (c1.trans c2).trans c3
  have q : Ret X F3 H3 o Q := fun v F' H' P c' r => hQ v F' H' P (c.trans c') r
  cases d with
  | lst ds =>
    cases hf
    obtain ⟨p, vs, rfl, r1, r2⟩ := v3
    exact .inl ⟨p, vs, rfl, SqL.of r1, fun p hp => ret_lst c.le q hp (r2.cut l u)⟩
  | frl ds =>
    cases hf
    obtain ⟨p, vs, rfl, r1, r2⟩ := v3.frl
    exact .inl ⟨p, vs, rfl, Same.seq c.le r1, fun p hp => ret_lst c.le q hp (r2.cut l u)⟩
  | tup ds =>
    cases hf
    obtain ⟨p, vs, rfl, r1, r2⟩ := v3.tupN
    refine .inr (.inl ⟨p, vs, rfl, Same.sqt c.le r1.sqt, fun z => ?_, fun z => ret_tup c.le q (r2.cut l u)⟩)
    rw [r2.length] at z
    rw [cutG_all z] at q
    exact ret0 (o := .imm .non) c.le q (imm_tup r1 r2)
  | str s =>
    simp only [gSl] at hf
    split at hf
    · rename_i hz
      cases hf
      obtain ⟨rfl, o⟩ := v3.str
      refine .inr (.inr ⟨_, rfl, by rw [sT_len]; exact hz, ?_⟩)
      have e4 : cutS (sT s) l u = sT (cutG s l u) := by
        unfold cutS cutG sT
        simp [Str.length]
      rw [e4]
      refine ret0 (o := .imm .non) c.le q (im_str ?_)
      unfold okS at o ⊢
      rw [List.all_eq_true] at o ⊢
      exact fun x hx => o x (List.mem_of_mem_drop (List.mem_of_mem_take hx))
    · cases hf
  | _ => cases hf
end
section
variable {X : Cx} {o e : Expr} {apos pos : Pos} {fa fb : Ev → Option D} {ma mb : M D}
end
end Kv
namespace Kv
open PySem PySem.Spec PyProof.Rows L2
section
variable {G : Gb} {F F' H H' : Hp} {ev ev' : Ev} {σ σ' : L2.St} {W W' P R : Addr → Prop}
theorem Sta.sub (S : Sta G F H ev σ W) (evr : Ev) (τ : L2.St) (hl : evr.length = τ.length) (h : ∀ (i : Nat) (o : O), evr[i]? = some (some o) → ev[i]? = some (some o) ∧ ∀ v, σ[i]? = some (some v) → τ[i]? = some (some v)) : ∃ W', Sta G F H evr τ W' ∧ ∀ a, W' a → W a := by
  obtain ⟨fp, h1, h2, h3, h4⟩ := S.ex
  refine ⟨fun a => ∃ i, fp i a ∧ ∃ o, evr[i]? = some (some o), ⟨S.le, hl, S.tb, fun i a => fp i a ∧ ∃ o, evr[i]? = some (some o), fun i o e => ?_, fun i a p => p.2, fun i j a p q => h3 i j a p.1 q.1, fun a => Iff.rfl⟩, fun a w => ?_⟩
  · obtain ⟨e1, e2⟩ := h i o e
    obtain ⟨v, e3, r⟩ := h1 i o e1
    refine ⟨v, e2 v e3, ?_⟩
    have : (fun a => fp i a ∧ ∃ o, evr[i]? = some (some o)) = fp i := by
      funext a
      exact propext ⟨fun z => z.1, fun z => ⟨z, o, e⟩⟩
    show Rep G F H o v (fun a => fp i a ∧ ∃ o, evr[i]? = some (some o))
    rw [this]
    exact r
  · obtain ⟨i, p, _⟩ := w
    exact (h4 a).2 ⟨i, p⟩
theorem Sta.chgP (S : Sta G F H ev σ W) (c : Chg F H P F' H' R) (n : ∀ a, W a → ¬ P a) (hP : ∀ p ∈ lamT, ¬ P p.1) : Sta G F' H' ev σ W := by
  obtain ⟨fp, h1, h2, h3, h4⟩ := S.ex
  refine ⟨c.le, S.len, c.tbs hP S.tb, fp, fun i o e => ?_, h2, h3, h4⟩
  obtain ⟨v, e1, r⟩ := h1 i o e
  exact ⟨v, e1, c.rep r fun a p => n a ((h4 a).2 ⟨i, p⟩)⟩
theorem Sta.data (le : LeF F H) (tb : Tbs G F H) : ∀ {ds : List D} {vs : List V}, Imms G F ds vs → Sta G F H (ds.map fun d => some (O.imm d)) (vs.map some) noW := fun {ds vs} h => by
  refine ⟨le, by rw [List.length_map, List.length_map, h.length], tb, fun _ => noW, fun i o e => ?_, fun _ _ p => p.elim, fun _ _ _ p => p.elim, fun a => ⟨fun z => z.elim, fun ⟨_, z⟩ => z⟩⟩
  rw [List.getElem?_map] at e
  obtain ⟨d, e1, e2⟩ := mp e
  cases e2
  obtain ⟨v, e3, r⟩ := h.get e1
  exact ⟨v, by rw [List.getElem?_map, e3]; rfl, .imm r⟩
theorem Sta.cons1 {o : O} {v : V} {ds : List D} {vs : List V} (le : LeF F H) (tb : Tbs G F H) (r : Rep G F H o v P) (h : Imms G F ds vs) : Sta G F H (some o :: ds.map fun d => some (O.imm d)) (some v :: vs.map some) P := by
  refine ⟨le, by simp [h.length], tb, fun i => if i = 0 then P else noW, fun i o' e => ?_, fun i a p => ?_, fun i j a p q => ?_, fun a => ⟨fun z => ⟨0, by simpa using z⟩, fun ⟨i, z⟩ => ?_⟩⟩
  · cases i with
    | zero =>
      simp at e
      subst e
      exact ⟨v, by simp, by simpa using r⟩
    | succ i =>
      rw [List.getElem?_cons_succ, List.getElem?_map] at e
      obtain ⟨d, e1, e2⟩ := mp e
      cases e2
      obtain ⟨u, e3, r'⟩ := h.get e1
      exact ⟨u, by rw [List.getElem?_cons_succ, List.getElem?_map, e3]; rfl, by simpa using Rep.imm r'⟩
  · by_cases hi : i = 0
    · subst hi; exact ⟨o, by simp⟩
    · simp only [hi, if_false] at p
      exact p.elim
  · by_cases hi : i = 0
    · by_cases hj : j = 0
      · rw [hi, hj]
      · simp only [hj, if_false] at q
        exact q.elim
    · simp only [hi, if_false] at p
      exact p.elim
  · by_cases hi : i = 0
    · simpa [hi] using z
    · simp only [hi, if_false] at z
      exact z.elim
end
abbrev Spg := List V → Hp → VK → Prop
structure FnG (P : Program) (w : World) (K : PySem.W.Frag) (mg : Str → Option Value) (base : Heap) (k : Nat) (f : Addr) (fd : FuncData) (ps : List Str) (sp : Spg) : Prop where
  len : ∀ xs G Z, sp xs G Z → xs.length = ps.length
  run : ∀ (B : Around) (fr : List Env) (t : Shared) (G : Hp) (args : Args) (us : List Value) (xs : List V) (Z : VK), Room k B → B.guards = some [] → Env0 P w K mg base B fr t G → BindsTo t fd args (ps.zip us) → Vals xs us → sp xs G Z →
    codeAny (model P w) B (.call (.ref f) args) (fun r t' => ∃ u, r = .ok (.ret u) ∧ CE fr P w G t Z u t') t
theorem FnG.mono {P : Program} {w : World} {K : PySem.W.Frag} {mg : Str → Option Value} {base : Heap} {j k : Nat} {f : Addr} {fd : FuncData} {ps : List Str} {sp : Spg} (F : FnG P w K mg base j f fd ps sp) (h : j ≤ k) : FnG P w K mg base k f fd ps sp :=
  ⟨F.len, fun B fr t G args us xs Z hr => F.run B fr t G args us xs Z (hr.mono h)⟩
section
variable {P : Program} {w : World} {K : PySem.W.Frag} {mg : Str → Option Value} {base : Heap}
theorem fnG_of {k : Nat} {f : Addr} {x qual : Str} {pa : Arguments} {bd : List Stmt} {sc : Scope} {fd : FuncData} {N ps : List Str} {sp : Spg} (F : FunD K x qual pa bd sc [] [] f fd) (S : FnScope N ps sc) (len : ∀ xs G Z, sp xs G Z → xs.length = ps.length)
    (go : ∀ (cdv : Value) (B : Around) (fr : List Env) (t : Shared) (G : Hp) (xs : List V) (Z : VK), Room k (B.deeper (envOfC qual sc t.heap.objs.size f cdv)) → B.guards = some [] → sp xs G Z →
      ∃ tb, PSs (cxOf CX0 P w K mg base N qual sc f cdv B fr t G E0).nox bd tb ∧ tb { nx := fun _ G' => Z .non G', rt := Z } (L2.start N xs) G) : FnG P w K mg base (k + 1) f fd ps sp := by
  obtain ⟨oc, od, dV, kV, doc, pm, an, cdv, ct, osl, rfl, lk, hcd, _, _⟩ := F.ex
  refine ⟨len, fun B fr t G args us xs Z hr hgu e0 hb rv hsp => ?_⟩
  have hl := len _ _ _ hsp
  have KX : K.In t.heap := e0.mod.kin.keeps fun b o e => (e0.bs b o e).1
  have lim : t.heap.NoLimit := e0.mod.nolimit.keeps fun b o e => (e0.bs b o e).1
  have kinds : ∀ y ∈ ps.zip us, sc.names.lookup y.1 = some .local ∨ (sc.names.lookup y.1 = some .cell ∧ ((cellsFrom (t.heap.objs.size + 1) sc.names []).lookup y.1).isSome = true) := by
    rintro ⟨n, u⟩ hy
    rcases S.par n (List.of_mem_zip hy).1 with q | q
    · exact .inl q
    · exact .inr ⟨q, PySem.W.cellsFrom_some _ _ _ (.inl q)⟩
  refine codeAny_call_function hr.depth (KX _ _ lk) rfl S.co S.gen rfl (PySem.W.codeRec_of KX hcd) (hb _ _ _ _ ?_)
  refine wpAny_newFunctionEnv_cells S.kind kinds fun env he t1 x => ?_
  subst he
  refine ⟨lim.keeps x.toInCall.keep, codeAny_func ?_⟩
  obtain ⟨tb, ht, hq⟩ := go cdv B fr t G xs Z (hr.deeper _) hgu hsp
  have I : Inv (cxOf CX0 P w K mg base N qual sc f cdv B fr t G E0) [] (L2.start N xs) G t1 := inv_start S hr.hd e0 hl rv x
  have out : ∀ {σ' : L2.St} {G' : Hp} {v : V} {u : Value} {t' : Shared}, Inv (cxOf CX0 P w K mg base N qual sc f cdv B fr t G E0) [] σ' G' t' → RelV v u → Z v G' → CE fr P w G t Z u t' :=
    fun {σ' G' v u t'} J r q => ⟨v, G', J.os, J.bare, J.base, J.hok, r, q⟩
  refine wpAny_mono (ht.run [] t1 (L2.start N xs) G _ (I.wish _) hq) (fun fl t' hs0 => ?_) fun e t' z => z.elim
  · have hs : SP (cxOf CX0 P w K mg base N qual sc f cdv B fr t G E0) [] { nx := fun _ G' => Z .non G', rt := Z } fl t' := hs0.unwish
    cases fl with
    | ret u =>
      obtain ⟨v, σ', G', J, r, q⟩ := hs
      exact ⟨u, rfl, out J r q⟩
    | next =>
      obtain ⟨σ', G', J, q⟩ := hs
      exact ⟨.none, rfl, out (v := V.non) (u := Value.none) J rfl q⟩
    | brk => obtain ⟨_, _, _, q⟩ := hs; exact False.elim q
    | cont => obtain ⟨_, _, _, q⟩ := hs; exact False.elim q
end
section
variable {X : Cx} {k : Nat} {f : Addr} {fd : FuncData} {ps ks : List Str} {sp : Spg} {x : Str} {p pos : Pos} {e : Expr} {es : List Expr} {kws : List Keyword} {t tk : TA}
theorem run_g {pins : List (Addr × Obj)} {σ : L2.St} {H : Hp} {s : Shared} {Q : VK} {us ws : List Value} {kw : List (Str × Value)} {vs : List V} (F : FnG X.prog X.w X.K X.mg X.base k f fd ps sp) (hr : Room k X.A) (hg : X.A.guards = some []) (I : Inv X pins σ H s)
    (b : BindsTo s fd ⟨us, kw⟩ (ps.zip ws)) (r : Vals vs ws) (h : sp vs H Q) : wpAny (model X.prog X.w) X.A (call (.ref f) us kw) (EP X pins σ Q) X.xe s := by
  refine wpAny_call (codeAny_mono (F.run X.A X.stack s H ⟨us, kw⟩ ws vs Q hr hg I.env0 b r h) fun q s' hq => ?_)
  obtain ⟨u, rfl, hq⟩ := hq
  exact I.after hq
def tCl (sp : Spg) (t : TA) : TE := fun σ H Q => t σ H fun vs H1 => sp vs H1 Q
theorem pe_clG (F : FnG X.prog X.w X.K X.mg X.base k f fd ps sp) (hr : Room k X.A) (hgu : X.A.guards = some []) (hg : Gl X x) (hm : X.mg x = some (.ref f)) (hk : PySem.W.keepIn X.K (.ref f) = true) (hb : L2.Binds X.K fd ps [])
    (ha : PA X (e :: es) t) (hdb : (x == ("__debug__" : Str)) = false) (he : starEach (e :: es) X.env = (false, eval e X.env) :: starEach es X.env) (hpl : (backTo pos (starEach es X.env)).any (·.1) = false) :
    PE X (.Call (.Name x p) (e :: es) [] pos) (tCl sp t) := by
  constructor
  intro pins s σ H Q I h
  apply wpAny_Call_Name_kw
  refine ld_glob I hg hm (PySem.W.callWith_K (h₀ := X.base) I.ok.mod.kin hk (thn (ha.run pos pins s σ H _ I h) ?_) he hpl) hdb
  rintro us s1 ⟨vs, H1, I1, r, q⟩
  refine ⟨I1.kIn, ?_⟩
  have hl : us.length = ps.length := by rw [← r.length]; exact F.len _ _ _ q
  have b := hb s1 us I1.kIn (by simpa using hl)
  rw [List.append_nil] at b
  exact run_g F hr hgu I1 b r q
def perm {α : Type} (π : List Nat) (ws : List α) : List α := π.filterMap fun i => ws[i]?
def KwB (K : PySem.W.Frag) (fd : FuncData) (ps ks : List Str) (π : List Nat) : Prop := ∀ (s : Shared) (ws : List Value), K.In s.heap → ws.length = ks.length → BindsTo s fd ⟨[], ks.zip ws⟩ (ps.zip (perm π ws))
end
abbrev Fm := List O → Option (O × Ev)
def spOf (G : Gb) (n : Nat) (g : Fm) : Spg := fun vs H Q => vs.length = n ∧ ∃ F os W r evr, Sta G F H (os.map some) (vs.map some) W ∧ g os = some (r, evr) ∧
  ∀ v F' H' W' P, Chg F H W F' H' (fun a => W' a ∨ P a) → Sta G F' H' evr (vs.map some) W' → Rep G F' H' r v P → (∀ a, P a → ¬ W' a) → Q v H'
structure Gd (P : Program) (w : World) (K : PySem.W.Frag) (mg : Str → Option Value) (base : Heap) (k : Nat) (x : Str) (st : Stmt) (ps : List Str) (g : Fm) : Prop where
  ex : ∃ f fd, FunD K x x (defArgs st) (defBody st) (defScope st) [] [] f fd ∧ mg x = some (.ref f) ∧ Binds K fd ps [] ∧ FnG P w K mg base k f fd ps (spOf ⟨K, mg⟩ ps.length g)
inductive Fl where | nx | bk | ct | rt (o : O)
abbrev MF := Ev → Option (Fl × Ev)
def Fix (io : List Nat) (σ σ' : L2.St) : Prop := ∀ i ∈ io, σ'[i]? = σ[i]?
def EndOk (G : Gb) (io : List Nat) (F H : Hp) (σ : L2.St) (W : Addr → Prop) (fl : Fl) (ev' : Ev) (D : Ends) : Prop := match fl with
  | .nx => ∀ σ' F' H' W', Chg F H W F' H' W' → Sta G F' H' ev' σ' W' → Fix io σ σ' → D.nx σ' H'
  | .bk => ∀ σ' F' H' W', Chg F H W F' H' W' → Sta G F' H' ev' σ' W' → Fix io σ σ' → D.bk σ' H'
  | .ct => ∀ σ' F' H' W', Chg F H W F' H' W' → Sta G F' H' ev' σ' W' → Fix io σ σ' → D.ct σ' H'
  | .rt o => ∀ σ' v F' H' W' P, Chg F H W F' H' (fun a => W' a ∨ P a) → Sta G F' H' ev' σ' W' → Rep G F' H' o v P → (∀ a, P a → ¬ W' a) → Fix io σ σ' → D.rt v H'
def Snd (G : Gb) (io : List Nat) (t : TS) (m : MF) : Prop := ∀ F H ev σ W fl ev', Sta G F H ev σ W → m ev = some (fl, ev') → ∀ D : Ends, EndOk G io F H σ W fl ev' D → t D σ H
def MS (X : Cx) (io : List Nat) (st : Stmt) (m : MF) : Prop := ∃ t : TS, PS X st t ∧ Snd (gb X) io t m
def MSs (X : Cx) (io : List Nat) (sts : List Stmt) (m : MF) : Prop := ∃ t : TS, PSs X sts t ∧ Snd (gb X) io t m
def rstr (n : Nat) (io : List Nat) (ev : Ev) : Ev := (List.range n).map fun i => if i ∈ io then (ev[i]?).join else none
def runF (nN n : Nat) (io : List Nat) (m : MF) : Fm := fun os => if os.length = n then (m (os.map some ++ List.replicate (nN - n) none)).bind fun p => match p.1 with
  | .nx => some (.imm .non, rstr n io p.2)
  | .rt o => some (o, rstr n io p.2)
  | _ => none
  else none
theorem length_rstr {n : Nat} {io : List Nat} {ev : Ev} : (rstr n io ev).length = n := by simp [rstr]
theorem rstr_at {n : Nat} {io : List Nat} {ev : Ev} {i : Nat} {o : O} (h : (rstr n io ev)[i]? = some (some o)) : i < n ∧ i ∈ io ∧ ev[i]? = some (some o) := by
  unfold rstr at h
  rw [List.getElem?_map] at h
  obtain ⟨j, e1, e2⟩ := mp h
  obtain ⟨hl, e3⟩ := List.getElem?_eq_some_iff.mp e1
  rw [List.length_range] at hl
  rw [List.getElem_range] at e3
  subst e3
  by_cases hi : i ∈ io
  · rw [if_pos hi] at e2
    refine ⟨hl, hi, ?_⟩
    cases q : ev[i]? with
    | none => rw [q] at e2; cases e2
    | some x => rw [q] at e2; exact congrArg some e2
  · rw [if_neg hi] at e2
    cases e2
theorem start_at {N : List Str} {vs : List V} {i : Nat} (h : i < vs.length) : (L2.start N vs)[i]? = (vs.map some)[i]? := by
  unfold L2.start
  rw [List.getElem?_append_left (by simpa using h)]
theorem start_len {N : List Str} {vs : List V} (h : vs.length ≤ N.length) : (L2.start N vs).length = N.length := by
  unfold L2.start
  simp
  omega
theorem Sta.start {G : Gb} {F H : Hp} {os : List O} {vs : List V} {W : Addr → Prop} {N : List Str} {n : Nat} (S : Sta G F H (os.map some) (vs.map some) W) (hn : os.length = n) (hl : n ≤ N.length) : Sta G F H (os.map some ++ List.replicate (N.length - n) none) (L2.start N vs) W := by
  have hv : vs.length = n := by have := S.len; simp at this; omega
  obtain ⟨fp, h1, h2, h3, h4⟩ := S.ex
  refine ⟨S.le, ?_, S.tb, fp, fun i o e => ?_, fun i a p => ?_, h3, h4⟩
  · rw [start_len (by omega)]
    simp
    omega
  · have hi : i < os.length := by
      by_cases hi : i < os.length
      · exact hi
      · rw [List.getElem?_append_right (by simpa using hi), List.getElem?_replicate] at e
        split at e <;> cases e
    rw [List.getElem?_append_left (by simpa using hi)] at e
    obtain ⟨v, e1, r⟩ := h1 i o e
    exact ⟨v, by rw [start_at (by omega)]; exact e1, r⟩
  · obtain ⟨o, e⟩ := h2 i a p
    have hi : i < (os.map some).length := (List.getElem?_eq_some_iff.mp e).1
    exact ⟨o, by rw [List.getElem?_append_left hi]; exact e⟩
theorem fn_ok {P : Program} {w : World} {K : PySem.W.Frag} {mg : Str → Option Value} {base : Heap} {x qual : Str} {st : Stmt} {f : Addr} {fd : FuncData} {N ps : List Str} {k : Nat} {io : List Nat} {m : MF} (F : FunD K x qual (defArgs st) (defBody st) (defScope st) [] [] f fd) (S : FnScope N ps (defScope st))
    (hbody : ∀ (cdv : Value) (A : Around) (outer : List Env) (s : Shared) (H : Hp), Room k (A.deeper (envOfC qual (defScope st) s.heap.objs.size f cdv)) → A.guards = some [] →
      MSs (cxOf CX0 P w K mg base N qual (defScope st) f cdv A outer s H E0).nox io (defBody st) m) :
    FnG P w K mg base (k + 1) f fd ps (spOf ⟨K, mg⟩ ps.length (runF N.length ps.length io m)) := by
  have hpl : ps.length ≤ N.length := by have := congrArg List.length S.pre; rw [List.length_take] at this; omega
  refine fnG_of F S (fun vs H Q h => h.1) (fun cdv A outer s H vs Q hr hgu h => ?_)
  obtain ⟨hv, F0, os, W, r, evr, S0, e, q⟩ := h
  obtain ⟨t, h1, h2⟩ := hbody cdv A outer s H hr hgu
  refine ⟨t, h1, ?_⟩
  unfold runF at e
  split at e
  · rename_i hn
    obtain ⟨p, e1, e2⟩ := bnd e
    have S1 := S0.start (N := N) hn hpl
    have fin : ∀ (ev' : Ev) (σ' : L2.St) (F' H' : Hp) (W' : Addr → Prop), Sta (⟨K, mg⟩ : Gb) F' H' ev' σ' W' → Fix io (L2.start N vs) σ' → ∃ W2, Sta (⟨K, mg⟩ : Gb) F' H' (rstr ps.length io ev') (vs.map some) W2 ∧ ∀ a, W2 a → W' a := by
      intro ev' σ' F' H' W' S' fx
      refine S'.sub _ _ (by rw [length_rstr]; simp [hv]) fun i o e => ?_
      obtain ⟨a1, a2, a3⟩ := rstr_at e
      refine ⟨a3, fun v e' => ?_⟩
      rw [fx i a2, start_at (by omega)] at e'
      exact e'
    refine h2 F0 H _ _ W p.1 p.2 S1 e1 _ ?_
    cases hp : p.1 with
    | nx =>
      rw [hp] at e2
      cases e2
      intro σ' F' H' W' c S' fx
      obtain ⟨W2, S2, w2⟩ := fin _ _ _ _ _ S' fx
      exact q .non F' H' W2 noW (c.weak fun a z => z.elim (w2 a) fun z => z.elim) S2 (.imm im_non) (fun _ z => z.elim)
    | rt o =>
      rw [hp] at e2
      cases e2
      intro σ' v F' H' W' P' c S' rp n fx
      obtain ⟨W2, S2, w2⟩ := fin _ _ _ _ _ S' fx
      exact q v F' H' W2 P' (c.weak fun a z => z.imp (w2 a) id) S2 rp (fun a p z => n a p (w2 a z))
    | bk => rw [hp] at e2; cases e2
    | ct => rw [hp] at e2; cases e2
  · cases e
def ap (g : Fm) (ds : List D) : Option O := (g (ds.map O.imm)).map (·.1)
section
variable {X : Cx} {k n : Nat} {x : Str} {st : Stmt} {ps : List Str} {g : Fm} {e : Expr} {es : List Expr} {fs : Ev → Option (List D)} {ms : M (List D)} {p pos : Pos}
theorem map_map_some {ds : List D} : (ds.map O.imm).map some = ds.map fun d => some (O.imm d) := by rw [List.map_map]; rfl
theorem ap_inv {ds : List D} {o : O} (h : ap g ds = some o) : ∃ evr, g (ds.map O.imm) = some (o, evr) := by
  obtain ⟨p, e1, rfl⟩ := mp h
  exact ⟨p.2, e1⟩
theorem sp_data {G : Gb} {n : Nat} {F H : Hp} {ds : List D} {vs : List V} {o : O} (le : LeF F H) (tb : Tbs G F H) (h : Imms G F ds vs) (hn : vs.length = n) (e : ap g ds = some o) {Q : VK} (q : ∀ v F' H' P, Chg F H noW F' H' P → Rep G F' H' o v P → Q v H') : spOf G n g vs H Q := by
  obtain ⟨evr, e1⟩ := ap_inv e
  refine ⟨hn, F, ds.map O.imm, noW, o, evr, by rw [map_map_some]; exact Sta.data le tb h, e1, fun v F' H' W' P c S r n => q v F' H' P (c.weak fun a z => .inr z) r⟩
theorem po_call (h : Gd X.prog X.w X.K X.mg X.base k x st ps g) (hr : Room k X.A) (hgu : X.A.guards = some []) (ha : PAv X (e :: es) fs) (hn : ps.length = n := by rfl) (hg : Gl X x := by rfl) (hdb : (x == ("__debug__" : Str)) = false := by decide) (he : starEach (e :: es) X.env = (false, eval e X.env) :: starEach es X.env := by rfl)
    (hpl : (backTo pos (starEach es X.env)).any (·.1) = false := by rfl) : PO X (.Call (.Name x p) (e :: es) [] pos) (fun ev => (fs ev).bind fun ds => if ds.length = n then ap g ds else none) := by
  subst hn
  obtain ⟨f, fd, F, hm, hb, ok⟩ := h.ex
  obtain ⟨t, a1, a2⟩ := ha
  refine ⟨_, pe_clG ok hr hgu hg hm F.kp hb a1 hdb he hpl, fun F H ev σ W o S hf Q hQ => ?_⟩
  obtain ⟨ds, e1, e2⟩ := bnd hf
  split at e2
  · rename_i hz
    refine a2 F H ev σ W ds S e1 _ fun vs F1 H1 c1 r1 => ?_
    exact sp_data c1.le (c1.tbs0 S.tb) r1 (by rw [r1.length]; exact hz) e2 fun v F' H' P c r => hQ v F' H' P (c1.trans c) r
  · cases e2
def mSl (i : Nat) (ms : M (List D)) (n : Nat) (g : Fm) : M O := fun ev => (gt i ev).bind fun _ => (ms ev).bind fun p => (gt i p.2).bind fun o => if p.1.length + 1 = n then (g (o :: p.1.map O.imm)).map fun q => (q.1, p.2.set i ((q.2[0]?).join)) else none
theorem mo_callS {i : Nat} {y : Str} {py : Pos} (h : Gd X.prog X.w X.K X.mg X.base k x st ps g) (hr : Room k X.A) (hgu : X.A.guards = some []) (ha : MAv X es ms) (hn : ps.length = n := by rfl) (hN : X.N[i]? = some y := by rfl) (hv : Vis X.env.scope y := by first | exact Or.inl rfl | exact Or.inr (Or.inl rfl) | exact Or.inr (Or.inr rfl)) (hd : (y == ("__debug__" : Str)) = false := by decide) (hcd : (y == ("__classdict__" : Str)) = false := by decide)
    (hg : Gl X x := by rfl) (hdb : (x == ("__debug__" : Str)) = false := by decide) (he : starEach (.Name y py :: es) X.env = (false, eval (.Name y py) X.env) :: starEach es X.env := by rfl)
    (hpl : (backTo pos (starEach es X.env)).any (·.1) = false := by rfl) : MO X (.Call (.Name x p) (.Name y py :: es) [] pos) (mSl i ms n g) := by
  subst hn
  obtain ⟨f, fd, F, hm, hb, ok⟩ := h.ex
  obtain ⟨t, a1, a2⟩ := ha
  refine ⟨_, pe_clG ok hr hgu hg hm F.kp hb (pa_cons (pe_var hN hv hd hcd) a1 he) hdb he hpl, fun F H ev σ W o ev' S hf Q hQ => ?_⟩
  obtain ⟨o0, g0, hf⟩ := bnd hf
  obtain ⟨⟨ds, ev1⟩, e1, hf⟩ := bnd hf
  obtain ⟨o1, g1, hf⟩ := bnd hf
  split at hf
  · rename_i hz
    obtain ⟨⟨r, evr⟩, e2, e3⟩ := mp hf
    cases e3
    obtain ⟨v0, P0, hv0, _, _⟩ := S.get (gt_some g0)
    refine ⟨v0, hv0, ?_⟩
    refine a2 F H ev σ W ds ev1 S e1 _ fun vs F1 H1 W1 c1 S1 r1 => ?_
    obtain ⟨v1, P1, W2, hv1, rp, S2, dj, iff1⟩ := S1.take (gt_some g1)
    rw [hv0] at hv1
    cases hv1
    have SA : Sta (gb X) F1 H1 ((o1 :: ds.map O.imm).map some) ((v0 :: vs).map some) P1 := by
      have := Sta.cons1 c1.le S1.tb rp r1
      rw [List.map_cons, List.map_cons, map_map_some]
      exact this
    refine ⟨by rw [List.length_cons, r1.length]; exact hz, F1, _, P1, r, evr, SA, e2, fun v F' H' W' P c S3 rr n => ?_⟩
    have hi : i < ev1.length := (List.getElem?_eq_some_iff.mp (gt_some g1)).1
    have Sr : Sta (gb X) F' H' (ev1.set i none) σ W2 := S2.chgP c (fun a w p => dj a p w) fun t ht q => S1.ntb t ht ((iff1 _).2 (.inr q))
    have c' : Chg F1 H1 W1 F' H' (fun a => W' a ∨ P a) := c.wide fun a p => (iff1 a).2 (.inr p)
    have far : ∀ a, W2 a → ¬ (W' a ∨ P a) := fun a w z => by
      rcases c.wr a z with q | q
      · exact dj a q w
      · exact (S2.own a w).1 q
    cases h0 : (evr[0]?).join with
    | none =>
      refine hQ v F' H' W2 P ?_ (by rw [h0]; exact Sr) rr (fun a p w => far a w (.inr p))
      have cc := c1.trans c'
      refine ⟨cc.sm, cc.le, cc.kp, cc.kf, cc.th, fun a z => ?_⟩
      rcases z with z | z
      · exact c1.wr a ((iff1 a).2 (.inl z))
      · exact cc.wr a (.inr z)
    | some o2 =>
      have g2 : evr[0]? = some (some o2) := by
        cases q : evr[0]? with
        | none => rw [q] at h0; cases h0
        | some z => rw [q] at h0; exact congrArg some h0
      obtain ⟨v2, P2, hv2, rp2, w2⟩ := S3.get g2
      simp at hv2
      subst hv2
      obtain ⟨W3, S4, iff3⟩ := Sr.put hi hv0 rp2 (fun a p w => far a w (.inl (w2 a p)))
      refine hQ v F' H' W3 P ?_ (by rw [h0]; exact S4) rr (fun a p w => ?_)
      · have cc := c1.trans c'
        refine ⟨cc.sm, cc.le, cc.kp, cc.kf, cc.th, fun a z => ?_⟩
        rcases z with z | z
        · rcases (iff3 a).1 z with q | q
          · exact c1.wr a ((iff1 a).2 (.inl q))
          · exact cc.wr a (.inl (w2 a q))
        · exact cc.wr a (.inr z)
      · rcases (iff3 a).1 w with q | q
        · exact far a q (.inr p)
        · exact n a p (w2 a q)
  · cases hf
end
end Kv
namespace Kv
open PySem PySem.Spec PyProof.Rows L2
section
variable {G : Gb} {F F' H H' F1 H1 : Hp} {ev ev' : Ev} {σ σ' σ1 : L2.St} {W W' W1 P R : Addr → Prop} {io : List Nat} {fl : Fl} {Dd : Ends}
theorem Fix.refl : Fix io σ σ := fun _ _ => rfl
theorem Fix.trans (h : Fix io σ σ') (h' : Fix io σ' σ1) : Fix io σ σ1 := fun i hi => (h' i hi).trans (h i hi)
theorem Fix.set {i : Nat} {x : Option V} (h : i ∉ io) : Fix io σ (σ.set i x) := fun j hj => by
  rw [List.getElem?_set_ne (fun e => h (by rw [e]; exact hj))]
theorem EndOk.step (c : Chg F H W F1 H1 W1) (fx : Fix io σ σ1) (h : EndOk G io F H σ W fl ev' Dd) : EndOk G io F1 H1 σ1 W1 fl ev' Dd := by
  cases fl with
  | nx => exact fun σ' F' H' W' c' S' f' => h σ' F' H' W' (c.trans c') S' (fx.trans f')
  | bk => exact fun σ' F' H' W' c' S' f' => h σ' F' H' W' (c.trans c') S' (fx.trans f')
  | ct => exact fun σ' F' H' W' c' S' f' => h σ' F' H' W' (c.trans c') S' (fx.trans f')
  | rt o => exact fun σ' v F' H' W' P c' S' r n f' => h σ' v F' H' W' P (c.trans c') S' r n (fx.trans f')
theorem Sta.relst {i : Nat} {ds : List D} (S : Sta G F H ev σ W) (h : ev[i]? = some (some (.lst ds))) : ∃ a xs, σ[i]? = some (some (.ref a)) ∧ H a = some (.lst xs) ∧ F a = none ∧ Imms G F ds xs ∧
    ∀ ds' xs', Imms G F ds' xs' → ∃ W', Sta G F (upd H a (.lst xs')) (ev.set i (some (.lst ds'))) σ W' ∧ Chg F H W F (upd H a (.lst xs')) W' := by
  obtain ⟨v, P, W2, hv, r, S2, dj, iff1⟩ := S.take h
  unfold Rep at r
  obtain ⟨a, xs, rfl, hH, hF, r1, hp⟩ := r
  refine ⟨a, xs, hv, hH, hF, r1, fun ds' xs' r' => ?_⟩
  have hi : i < ev.length := (List.getElem?_eq_some_iff.mp h).1
  have c : Chg F H P F (upd H a (.lst xs')) P := by
    refine ⟨Same.refl F, fun b u e => ?_, fun b o n e _ => ?_, fun _ _ _ f => f, Thr.put (nx_of hH), fun b w => .inl w⟩
    · by_cases hb : b = a
      · subst hb; rw [hF] at e; cases e
      · rw [upd_ne hb]; exact S.le b u e
    · rw [upd_ne (fun z => n ((hp b).2 z))]; exact e
  have S3 := S2.chgP c (fun b w p => dj b p w) fun t ht q => S.ntb t ht ((iff1 _).2 (.inr q))
  have rr : Rep G F (upd H a (.lst xs')) (.lst ds') (.ref a) P := by
    unfold Rep
    exact ⟨a, xs', rfl, upd_same, hF, r', hp⟩
  obtain ⟨W3, S4, iff3⟩ := S3.put hi hv rr dj
  refine ⟨W3, S4, (c.wide fun b p => (iff1 b).2 (.inr p)).sm, (c.wide (W3 := W) fun b p => (iff1 b).2 (.inr p)).le, (c.wide (W3 := W) fun b p => (iff1 b).2 (.inr p)).kp, (c.wide (W3 := W) fun b p => (iff1 b).2 (.inr p)).kf, c.th, fun b w => ?_⟩
  exact .inl ((iff1 b).2 ((iff3 b).1 w))
end
section
variable {X : Cx} {i : Nat} {y : Str} {py pos cpos apos : Pos} {e : Expr}
def mTake (i : Nat) : M O := fun ev => (gt i ev).map fun o => (o, ev.set i none)
def mFrz (i : Nat) : M D := fun ev => (gt i ev).map fun o => (frz o, ev.set i (some (.imm (frz o))))
end
section
variable {X : Cx} {i : Nat} {y : Str} {py pos cpos apos : Pos} {e : Expr} {ms : M (List D)}
def O.l? : O → Option (List D)
  | .lst ds => some ds
  | _ => none
theorem l?_some {o : O} {ds : List D} (h : o.l? = some ds) : o = .lst ds := by cases o <;> first | (cases h; done) | (cases h; rfl)
def gl (i : Nat) (ev : Ev) : Option (List D) := (gt i ev).bind O.l?
theorem gl_some {ev : Ev} {ds : List D} (h : gl i ev = some ds) : ev[i]? = some (some (.lst ds)) := by
  obtain ⟨o, e1, e2⟩ := bnd h
  rw [l?_some e2] at e1
  exact gt_some e1
def mApp (i : Nat) (ms : M (List D)) : M O := fun ev => (gl i ev).bind fun _ => (ms ev).bind fun p => (gl i p.2).bind fun ds => match p.1 with
  | [d] => if ds.length < sizeLine then some (.imm .non, p.2.set i (some (.lst (ds ++ [d])))) else none
  | _ => none
def mPopAt (i : Nat) (ms : M (List D)) : M O := fun ev => (gl i ev).bind fun _ => (ms ev).bind fun p => (gl i p.2).bind fun ds => match p.1 with
  | [.int k] => if -(2 ^ 63) ≤ k ∧ k < 2 ^ 63 then (seqIndex? k ds.length).bind fun j => ds[j]?.map fun d => (.imm d, p.2.set i (some (.lst (ds.eraseIdx j)))) else none
  | _ => none
end
end Kv
namespace Kv
open PySem PySem.Spec PyProof.Rows L2
def sAs (i : Nat) (m : M O) : MF := fun ev => (m ev).bind fun p => if i < p.2.length then some (.nx, p.2.set i (some p.1)) else none
def sEx (m : M O) : MF := fun ev => (m ev).map fun p => (.nx, p.2)
def sRt (m : M O) : MF := fun ev => (m ev).map fun p => (.rt p.1, p.2)
def sRtN : MF := fun ev => some (.rt (.imm .non), ev)
def sNx : MF := fun ev => some (.nx, ev)
def sIf (c : M Bool) (a b : MF) : MF := fun ev => (c ev).bind fun p => if p.1 = true then a p.2 else b p.2
def sSq (a b : MF) : MF := fun ev => (a ev).bind fun p => match p.1 with
  | .nx => b p.2
  | _ => some p
def forM (tf : TF) (mb : MF) : List D → MF
  | [], ev => some (.nx, ev)
  | d :: ds, ev => (tf d ev).bind fun e1 => (mb e1).bind fun p => match p.1 with
    | .nx => forM tf mb ds p.2
    | .ct => forM tf mb ds p.2
    | .bk => some (.nx, p.2)
    | .rt o => some (.rt o, p.2)
def sFor (mi : M (List D)) (tf : TF) (mb : MF) : MF := fun ev => (mi ev).bind fun p => forM tf mb p.1 p.2
section
variable {X : Cx} {io : List Nat} {i : Nat} {y : Str} {py pos : Pos} {e : Expr} {st : Stmt} {sts : List Stmt} {m : M O} {mc : M Bool} {ma mb : MF}
theorem as_snd {G : Gb} {t : TE} (hio : i ∉ io) (h2 : ∀ F H ev σ W o ev', Sta G F H ev σ W → m ev = some (o, ev') → ∀ Q : VK, (∀ v F' H' W' P, Chg F H W F' H' (fun a => W' a ∨ P a) → Sta G F' H' ev' σ W' → Rep G F' H' o v P → (∀ a, P a → ¬ W' a) → Q v H') → t σ H Q) :
    Snd G io (tAsg t (gName i)) (sAs i m) := by
  intro F H ev σ W fl ev' S hf Dd hD
  obtain ⟨⟨o, ev1⟩, e1, hf⟩ := bnd hf
  simp only at hf
  split at hf
  · rename_i hl
    cases hf
    refine h2 F H ev σ W o ev1 S e1 _ fun v F' H' W' P c S' r n => ?_
    obtain ⟨W2, S2, w2⟩ := S'.store hl r n
    exact hD _ F' H' W2 (c.weak w2) S2 (Fix.set hio)
  · cases hf
theorem ms_as (h : MO X e m) (hN : X.N.Nodup) (hio : i ∉ io := by decide) (hi : X.N[i]? = some y := by rfl) (hx : Loc X.env.scope y := by first | exact .inl rfl | exact .inr rfl) (hs : swapsWith e (some (.Name y py)) pos.line X.env = pure false := by rfl) (hf : X.fn y = true ∨ X.env.scope.names.lookup y = some .local := by first | exact .inl rfl | exact .inr rfl | assumption) :
    MS X io (.Assign [.Name y py] e pos) (sAs i m) := by
  obtain ⟨t, h1, h2⟩ := h
  exact ⟨_, ps_set hN hi hx h1 hs hf, as_snd hio h2⟩
theorem ms_rt (h : MO X e m) : MS X io (.Return (some e) pos) (sRt m) := by
  obtain ⟨t, h1, h2⟩ := h
  refine ⟨_, ps_ret h1, fun F H ev σ W fl ev' S hf Dd hD => ?_⟩
  obtain ⟨⟨o, ev1⟩, e1, hf⟩ := mp hf
  cases hf
  exact h2 F H ev σ W o ev1 S e1 _ fun v F' H' W' P c S' r n => hD σ v F' H' W' P c S' r n Fix.refl
theorem mss_nil : MSs X io [] sNx := by
  refine ⟨_, pss_nil, fun F H ev σ W fl ev' S hf Dd hD => ?_⟩
  cases hf
  exact hD σ F H W (Chg.refl S.le) S Fix.refl
theorem mss_cons (h : MS X io st ma) (h' : MSs X io sts mb) : MSs X io (st :: sts) (sSq ma mb) := by
  obtain ⟨t, h1, h2⟩ := h
  obtain ⟨u, h3, h4⟩ := h'
  refine ⟨_, pss_cons h1 h3, fun F H ev σ W fl ev' S hf Dd hD => ?_⟩
  obtain ⟨⟨f1, ev1⟩, e1, hf⟩ := bnd hf
  refine h2 F H ev σ W f1 ev1 S e1 _ ?_
  cases f1 with
  | nx => exact fun σ' F' H' W' c S' fx => h4 F' H' ev1 σ' W' fl ev' S' hf Dd (hD.step c fx)
  | bk => cases hf; exact hD
  | ct => cases hf; exact hD
  | rt o => cases hf; exact hD
theorem mss_one (h : MS X io st ma) : MSs X io [st] ma := by
  obtain ⟨t, h1, h2⟩ := h
  exact ⟨t, pss_one h1, h2⟩
theorem ms_if {a b : List Stmt} (hc : MTb X e mc) (ha : MSs X io a ma) (hb : MSs X io b mb) : MS X io (.If e a b pos) (sIf mc ma mb) := by
  obtain ⟨t, h1, h2⟩ := hc
  obtain ⟨u, h3, h4⟩ := ha
  obtain ⟨w, h5, h6⟩ := hb
  refine ⟨_, ps_if h1 h3 h5, fun F H ev σ W fl ev' S hf Dd hD => ?_⟩
  obtain ⟨⟨b, ev1⟩, e1, hf⟩ := bnd hf
  refine h2 F H ev σ W b ev1 S e1 _ fun F' H' W' c S' => ?_
  cases b with
  | true => exact h4 F' H' ev1 σ W' fl ev' S' hf Dd (hD.step c Fix.refl)
  | false => exact h6 F' H' ev1 σ W' fl ev' S' hf Dd (hD.step c Fix.refl)
theorem ms_for {tg iter : Expr} {body : List Stmt} {mi : M (List D)} {tf : TF} {vs : List Nat} (hp : PassesOwn (model X.prog X.w) X.A X.env X.xe) (hc : X.calm = true) (hi : MIv X tg iter mi) (hg : PGb X tg tf vs) (hb : MSs X io body mb) (hv : ∀ j ∈ io, j ∉ vs := by decide)
    (hs : ∀ x, foldedSetIterable iter X.env x = pure x := by intro _; rfl) : MS X io (.For tg iter body [] pos) (sFor mi tf mb) := by
  obtain ⟨t, h3, h4⟩ := hb
  refine ⟨_, ps_for hp hc hi hg h3 hs, fun F H ev σ W fl ev' S hf Dd hD => ?_⟩
  obtain ⟨⟨ds, ev1⟩, e1, hf⟩ := bnd hf
  refine ⟨F, ev, W, ds, ev1, S, e1, fun J F1 H1 W1 c1 S1 wk => ?_⟩
  refine ⟨fun n k τ K => k = ds.length - n ∧ n ≤ ds.length ∧ ∃ F2 ev2 W2, Chg F1 H1 W1 F2 K W2 ∧ Sta (gb X) F2 K ev2 τ W2 ∧ Fix io σ τ ∧ forM tf mb (ds.drop n) ev2 = some (fl, ev'), ⟨ds.length, by simp, Nat.zero_le _, F1, ev1, W1, Chg.refl S1.le, S1, Fix.refl, hf⟩, ?_⟩
  rintro n k τ K ⟨rfl, hn, F2, ev2, W2, c2, S2, fx, e2⟩
  obtain ⟨k1, k2⟩ := wk F2 K c2.sm S2.le n
  by_cases hlt : n < ds.length
  · obtain ⟨go, yl⟩ := k1 ds[n] (List.getElem?_eq_some_iff.mpr ⟨hlt, rfl⟩)
    rw [List.drop_eq_getElem_cons hlt] at e2
    obtain ⟨ev3, t3, e2⟩ := bnd e2
    obtain ⟨⟨f4, ev4⟩, e4, e2⟩ := bnd e2
    refine .inr ⟨go, fun τ' K' => n + 1 ≤ ds.length ∧ ∃ F2 ev2 W2, Chg F1 H1 W1 F2 K' W2 ∧ Sta (gb X) F2 K' ev2 τ' W2 ∧ Fix io σ τ' ∧ forM tf mb (ds.drop (n + 1)) ev2 = some (fl, ev'), fun τ' K' q => ⟨ds.length - (n + 1), by omega, rfl, q.1, q.2⟩, fun x K' hy => ?_⟩
    obtain ⟨F3, c3, r3⟩ := yl x K' hy
    refine ⟨F3, ev2, W2, ds[n], ev3, S2.chg0 c3, r3, t3, fun τ2 W3 S3 w3 q3 l3 => ?_⟩
    have fx2 : Fix io τ τ2 := fun j hj => wipe_eq q3 (hv j hj)
    have c13 := (c2.trans (c3.lift0 S2)).weak w3
    refine h4 F3 K' ev3 τ2 W3 f4 ev4 S3 e4 _ ?_
    have base := (hD.step c1 Fix.refl).step c13 (fx.trans fx2)
    cases f4 with
    | nx => exact fun σ' F' H' W' c' S' f' => ⟨hlt, F', ev4, W', c13.trans c', S', (fx.trans fx2).trans f', e2⟩
    | ct => exact fun σ' F' H' W' c' S' f' => ⟨hlt, F', ev4, W', c13.trans c', S', (fx.trans fx2).trans f', e2⟩
    | bk => cases e2; exact base
    | rt o => cases e2; exact base
  · have hE : n = ds.length := by omega
    subst hE
    rw [List.drop_length] at e2
    cases e2
    exact .inl ⟨k2 rfl, hD τ F2 K W2 (c1.trans c2) S2 fx⟩
end
section
variable {X : Cx} {io : List Nat} {i : Nat} {y : Str} {py pos spos : Pos} {elt tg iter tg1 iter1 : Expr} {ifs ifs1 : List Expr} {scope : Scope} {own : List (Str × Nat)} {vs vs1 : List Nat} {fi fi1 : Ev → Option (List D)} {tf tf1 : TF} {fc fc1 : Ev → Option Bool} {fe : Ev → Option D} {mi : M (List D)} {mc : M Bool} {me : M D}
end
end Kv
namespace Kv
open PySem PySem.Spec PyProof.Rows L2
def tgM (G : Gb) (io : List Nat) (tf : TF) : TG := fun v σ H Q => ∃ F ev W d ev', Sta G F H ev σ W ∧ Imm G F d v ∧ tf d ev = some ev' ∧ ∀ σ' F' H' W', Chg F H W F' H' W' → Sta G F' H' ev' σ' W' → Fix io σ σ' → Q σ' H'
def tgsM (G : Gb) (io : List Nat) (tf : TFs) : TGs := fun xs σ H Q => ∃ F ev W ds ev', Sta G F H ev σ W ∧ Imms G F ds xs ∧ tf ds ev = some ev' ∧ ∀ σ' F' H' W', Chg F H W F' H' W' → Sta G F' H' ev' σ' W' → Fix io σ σ' → Q σ' H'
def MG (X : Cx) (io : List Nat) (e : Expr) (tf : TF) : Prop := PG X e (tgM (gb X) io tf)
def MGs (X : Cx) (io : List Nat) (es : List Expr) (tf : TFs) : Prop := PGs X es (tgsM (gb X) io tf)
section
variable {X : Cx} {io : List Nat} {i : Nat} {y : Str} {py pos spos : Pos} {e a b : Expr} {es : List Expr} {tf t : TF} {ts : TFs}
theorem mg_nm (hN : X.N.Nodup) (hv : i ∉ io := by decide) (hi : X.N[i]? = some y := by rfl) (hx : Loc X.env.scope y := by first | exact .inl rfl | exact .inr rfl) (hf : X.fn y = true ∨ X.env.scope.names.lookup y = some .local := by first | exact .inl rfl | exact .inr rfl | assumption) : MG X io (.Name y pos) (sSet i) :=
  impPG (pg_name hN hi hx hf) fun v σ H Q ⟨F, ev, W, d, ev', S, r, e, q⟩ => by
    unfold sSet at e
    split at e
    · rename_i hl
      cases e
      obtain ⟨W', S', w'⟩ := S.store (o := .imm d) (P := noW) hl (.imm r) (fun _ z => z.elim)
      exact q _ F H W' ((Chg.refl S.le).weak fun a w => (w' a w).elim id False.elim) S' (Fix.set hv)
    · cases e
theorem mgs_nil : MGs X io [] sNil := by
  refine ⟨fun pins s σ H xs us Q I r q => pgs_nil.run pins s σ H xs us Q I r ?_⟩
  obtain ⟨F, ev, W, ds, ev', S, r, e, q⟩ := q
  cases ds with
  | nil =>
    cases e
    unfold Imms at r
    exact ⟨r, q σ F H W (Chg.refl S.le) S Fix.refl⟩
  | cons d ds => cases e
theorem mgs_cons (h : MG X io e t) (h' : MGs X io es ts) (hs : (assignEach (e :: es) X.env).map (·.2) = assign e X.env :: (assignEach es X.env).map (·.2) := by rfl) : MGs X io (e :: es) (sCons t ts) := by
  refine ⟨fun pins s σ H xs us Q I r q => (pgs_cons h h' hs).run pins s σ H xs us Q I r ?_⟩
  obtain ⟨F, ev, W, ds, ev', S, r, e, q⟩ := q
  cases ds with
  | nil => cases e
  | cons d ds =>
    obtain ⟨e1, h1, h2⟩ := bnd e
    unfold Imms at r
    obtain ⟨v, xr, rfl, r1, r2⟩ := r
    refine ⟨v, xr, rfl, F, ev, W, d, e1, S, r1, h1, fun σ1 F1 H1 W1 c1 S1 f1 => ?_⟩
    exact ⟨F1, e1, W1, ds, ev', S1, c1.imms r2, h2, fun σ2 F2 H2 W2 c2 S2 f2 => q σ2 F2 H2 W2 (c1.trans c2) S2 (f1.trans f2)⟩
theorem mg_tp {k n : Nat} (hc : X.calm = true) (h : MGs X io es ts) (hn : (assignEach es X.env).length = n := by rfl) (hst : (assignEach es X.env).findIdx? (·.1) = none := by rfl) : MG X io (.Tuple es k pos) (sTup n ts) :=
  impPG (pg_tup hc h hn hst) fun v σ H Q ⟨F, ev, W, d, ev', S, r, e, q⟩ => by
    cases d <;> first | (cases e; done) | skip
    · simp only [sTup] at e
      split at e
      · rename_i hl
        unfold Imm at r
        obtain ⟨a, xs, rfl, r1, r2⟩ := r
        exact ⟨a, xs, rfl, Same.sqt S.le r1.sqt, by rw [r2.length]; exact hl, F, ev, W, _, ev', S, r2, e, q⟩
      · cases e
    · simp only [sTup] at e
      split at e
      · rename_i hl
        unfold Imm at r
        obtain ⟨a, xs, rfl, r1, r2⟩ := r
        exact ⟨a, xs, rfl, Same.sqt S.le r1, by rw [r2.length]; exact hl, F, ev, W, _, ev', S, r2, e, q⟩
      · cases e
def putL (i : Nat) (k : D) (d : D) (ev : Ev) : Option Ev := (gl i ev).bind fun ds => match k with
  | .int n => (ixN ds.length n).map fun j => ev.set i (some (.lst (ds.set j d)))
  | _ => none
def sSub (i : Nat) (fb : Ev → Option D) : TF := fun d ev => (gl i ev).bind fun _ => (fb ev).bind fun k => putL i k d ev
theorem put_go {G : Gb} {F H : Hp} {ev ev' : Ev} {σ : L2.St} {W : Addr → Prop} {k d : D} {o iv v : V} (S : Sta G F H ev σ W) (ho : σ[i]? = some (some o)) (rk : Imm G F k iv) (rd : Imm G F d v) (e : putL i k d ev = some ev') {Q : Hp → Prop}
    (q : ∀ H' W', Chg F H W F H' W' → Sta G F H' ev' σ W' → Q H') : rSetL o iv v H Q := by
  obtain ⟨ds, g, e⟩ := bnd e
  cases k <;> first | (cases e; done) | skip
  rename_i n
  obtain ⟨j, hj, rfl⟩ := mp e
  obtain ⟨a, xs, hv, hH, hF, r, go⟩ := S.relst (gl_some g)
  rw [ho] at hv
  cases hv
  unfold Imm at rk
  subst rk
  obtain ⟨W', S', c'⟩ := go _ _ (r.set j rd)
  exact ⟨a, xs, _, j, rfl, rfl, hH, by rw [r.length]; exact hj, q _ W' c' S'⟩
theorem mg_sub {fb : Ev → Option D} (hb : PV X b fb) (hN : X.N[i]? = some y := by rfl) (hv : Vis X.env.scope y := by first | exact Or.inl rfl | exact Or.inr (Or.inl rfl) | exact Or.inr (Or.inr rfl)) (hd : (y == ("__debug__" : Str)) = false := by decide) (hcd : (y == ("__classdict__" : Str)) = false := by decide)
    (ha : ∀ v, assign (.Subscript (.Name y py) b pos) X.env v = (do
      let ov ← holding [v] (eval (.Name y py) X.env)
      let iv ← holding [v, ov] (eval b X.env)
      standAt pos
      holding [v, ov, iv] (setItem ov iv v)
      release [v, ov, iv] []) := by intro _; rfl) : MG X io (.Subscript (.Name y py) b pos) (sSub i fb) :=
  impPG (pg_sub (pe_var hN hv hd hcd) hb.pe set_list ha) fun v σ H Q ⟨F, ev, W, d, ev', S, r, e, q⟩ => by
    obtain ⟨ds, g, e⟩ := bnd e
    obtain ⟨k, e1, e⟩ := bnd e
    obtain ⟨a, xs, hv, hH, hF, r0, _⟩ := S.relst (gl_some g)
    refine ⟨_, hv, F, ev, W, k, S, e1, fun iv F1 H1 c1 r1 => ?_⟩
    exact put_go (S.chg0 c1) hv r1 (c1.imm r) e fun H' W' c' S' => q σ F1 H' W' ((c1.lift0 S).trans c') S' Fix.refl
def sTg (m : M D) (tf : TF) : MF := fun ev => (m ev).bind fun p => (tf p.1 p.2).map fun e => (.nx, e)
theorem ms_tg {m : M D} (h : MV X e m) (hg : MG X io a tf) (hs : swapsWithSole [a] e spos.line X.env = pure false := by rfl) (hw : swappedStores [a] e X.env = pure none := by rfl)
    (h1 : (assignEach [a] X.env).map (·.2) = [assign a X.env] := by rfl) : MS X io (.Assign [a] e spos) (sTg m tf) := by
  refine ⟨_, ps_asg h.pe hg hs hw h1, fun F H ev σ W fl ev' S hf Dd hD => ?_⟩
  obtain ⟨⟨d, ev1⟩, e1, hf⟩ := bnd hf
  obtain ⟨ev2, e2, hf⟩ := mp hf
  cases hf
  refine ⟨F, ev, W, d, ev1, S, e1, fun v F1 H1 W1 c1 S1 r1 => ?_⟩
  exact ⟨F1, ev1, W1, d, _, S1, r1, e2, fun σ' F' H' W' c S' fx => hD σ' F' H' W' (c1.trans c) S' fx⟩
end
section
variable {X : Cx} {io : List Nat} {i j : Nat} {x y : Str} {px py pt pt2 pos : Pos} {a b : Expr} {ma mb : M O} {kt k2 : Nat}
def sPar (i j : Nat) (ma mb : M O) : MF := fun ev => (ma ev).bind fun p => (mb p.2).bind fun q => if i < q.2.length ∧ j < q.2.length then some (.nx, (q.2.set i (some p.1)).set j (some q.1)) else none
theorem ms_par (ha : MO X a ma) (hb : MO X b mb) (hc : X.calm = true) (hN : X.N.Nodup) (hio : i ∉ io ∧ j ∉ io := by decide) (hij : i ≠ j := by decide) (hi : X.N[i]? = some x := by rfl) (hj : X.N[j]? = some y := by rfl)
    (hx : X.env.scope.names.lookup x = some .local := by rfl) (hy : X.env.scope.names.lookup y = some .local := by rfl)
    (hw : swappedStores [.Tuple [.Name x px, .Name y py] kt pt] (.Tuple [a, b] k2 pt2) X.env = pure (some [x, y]) := by rfl)
    (hs : swapsWithSole [.Tuple [.Name x px, .Name y py] kt pt] (.Tuple [a, b] k2 pt2) pos.line X.env = pure false := by rfl) (hs1 : starEach [a, b] X.env = (false, eval a X.env) :: starEach [b] X.env := by rfl) (hs2 : starEach [b] X.env = (false, eval b X.env) :: starEach [] X.env := by rfl) :
    MS X io (.Assign [.Tuple [.Name x px, .Name y py] kt pt] (.Tuple [a, b] k2 pt2) pos) (sPar i j ma mb) := by
  obtain ⟨t, h1, h2⟩ := ha
  obtain ⟨u, h3, h4⟩ := hb
  refine ⟨_, ps_par hc hN hi hj hij hx hy (pa_cons h1 (pa_cons h3 pa_nil hs2) hs1) hw hs, fun F H ev σ W fl ev' S hf Dd hD => ?_⟩
  obtain ⟨⟨o1, ev1⟩, e1, hf⟩ := bnd hf
  obtain ⟨⟨o2, ev2⟩, e2, hf⟩ := bnd hf
  simp only at hf
  split at hf
  · rename_i hl
    cases hf
    refine h2 F H ev σ W o1 ev1 S e1 _ fun v F1 H1 W1 P1 c1 S1 r1 n1 => ?_
    refine h4 F1 H1 ev1 σ W1 o2 ev2 S1 e2 _ fun w F2 H2 W2 P2 c2 S2 r2 n2 => ?_
    have r1' := c2.rep r1 n1
    have far : ∀ c, P1 c → ¬ (W2 c ∨ P2 c) := fun c p z => by
      rcases c2.wr c z with q | q
      · exact n1 c p q
      · exact (Rep.own _ _ _ r1 c p).1 q
    obtain ⟨W3, S3, w3⟩ := S2.store hl.1 r1' (fun c p z => far c p (.inl z))
    obtain ⟨W4, S4, w4⟩ := S3.store (i := j) (by rw [List.length_set]; exact hl.2) r2 (fun c p z => (w3 c z).elim (n2 c p) fun q => far c q (.inr p))
    have cc := c1.trans (c2.wide fun c p => .inl p)
    refine ⟨v, w, rfl, hD _ F2 H2 W4 ⟨cc.sm, cc.le, cc.kp, cc.kf, cc.th, fun c z => ?_⟩ S4 ((Fix.set hio.1).trans (Fix.set hio.2))⟩
    rcases w4 c z with z | z
    · rcases w3 c z with z | z
      · exact cc.wr c (.inl z)
      · exact c1.wr c (.inr z)
    · exact cc.wr c (.inr z)
  · cases hf
end
end Kv
namespace Kv
open PySem PySem.Spec PyProof.Rows L2
theorem law_gT {P : Program} {w : World} {K : PySem.W.Frag} {mg mb : Str → Option Value} {k : Nat} {fa a : Addr} {fd : FuncData} {x : Str} {sp : Spg} {t : Shared} {us : List Value} {ns : List Int}
    (KX : K.In t.heap) (gN : t.heap.Ns mainGlobals mg) (bN : t.heap.Ns builtinsNs mb) (bb : ∀ x : Str, x ≠ "__name__" → mb x = bootBuiltins x) (lim : t.heap.NoLimit) (ng : t.gens = #[])
    (hT : ∀ p ∈ lamT, t.heap.get? p.1 = some { cls := .none, data := .fields #[] }) (nT : ∀ p ∈ lamT, K.lookup p.1 = none) (hC : ∀ p ∈ lamT, ∃ c, PySem.W.CodeHd t.heap c p.1)
    (oa : t.heap.get? a = some { cls := .type "list", data := .seq us.toArray }) (hi : IntsAre us ns) (hz : ns.length ≤ sizeLine) (hr : Room k callerA)
    (F : ∀ base : Heap, K.In base → base.Ns mainGlobals mg → FnG P w K mg base k fa fd [x] sp) (bd : ∀ (s : Shared) (u : Value), BindsTo s fd ⟨[u], []⟩ [(x, u)])
    (hsp : ∀ H : Hp, (∀ p ∈ lamT, H p.1 = some (.tbl #[])) → SqL K H a (ns.map V.int) → (∀ p ∈ lamT, p.1 ≠ a) → sp [.ref a] H (fun v _ => v = .bl true)) :
    codeAny (model P w) callerA (.call (.ref fa) ⟨[.ref a], []⟩) (fun r s' => r = .ok (.ret (.bool true)) ∧ OldK t.heap s'.heap ∧ s'.os = t.os ∧ AllBare s'.gens) t := by
  have rv := vals_ints hi
  have lV := hi.length
  have isT : ∀ b, b ∈ lamT.map (fun p => p.1) → t.heap.get? b = some { cls := .none, data := .fields #[] } := fun b hb => by
    obtain ⟨p, hp, e⟩ := List.mem_map.mp hb
    rw [← e]
    exact hT p hp
  have mT : ∀ p ∈ lamT, p.1 ∈ lamT.map (fun p => p.1) := fun p hp => List.mem_map.mpr ⟨p, hp, rfl⟩
  have aT : a ∉ lamT.map (fun p => p.1) := fun z => by
    have q := isT a z
    rw [oa] at q
    have z2 : Data.seq us.toArray _ = Data.fields #[] := congrArg Obj.data (Option.some.inj q)
    cases z2
  have main : ∀ H : Hp, (∀ p ∈ lamT, H p.1 = some (.tbl #[])) → (∀ b, H b = none ∨ b ∈ lamT.map (fun p => p.1) ∨ ∃ ob xs, H b = some (.frz ob (.lst xs))) → SqL K H a (ns.map V.int) → HOk P w H t.heap → (∀ b, H b ≠ none → (b = a ∧ K.lookup a = none) ∨ b ∈ lamT.map (fun p => p.1)) →
      codeAny (model P w) callerA (.call (.ref fa) ⟨[.ref a], []⟩) (fun r s' => r = .ok (.ret (.bool true)) ∧ OldK t.heap s'.heap ∧ s'.os = t.os ∧ AllBare s'.gens) t := by
    intro H hH only hS hok at_a
    have stays : ∀ {b : Addr} {o : Obj}, t.heap.get? b = some o → (b = a → K.lookup a = none → False) → (b ∉ lamT.map (fun p => p.1)) → (hidT t.heap H).get? b = some o := fun {b o} e n n2 => by
      refine hidT_get e ?_
      cases q : H b with
      | none => rfl
      | some u =>
        rcases at_a b (by rw [q]; simp) with ⟨e1, e2⟩ | e1
        · exact (n e1 e2).elim
        · exact (n2 e1).elim
    have nsS : ∀ {b : Addr} {m : Str → Option Value}, t.heap.Ns b m → (hidT t.heap H).Ns b m := by
      rintro b m ⟨o, es, ep, e, d, r⟩
      refine ⟨o, es, ep, stays e (fun e1 _ => ?_) (fun e1 => ?_), d, r⟩
      · rw [e1, oa] at e
        cases e
        cases d
      · rw [isT b e1] at e
        cases e
        cases d
    have KB : K.In (hidT t.heap H) := fun b o e => stays (KX b o e) (fun e1 e2 => by
      rw [e1, e2] at e
      cases e) fun e1 => by
      obtain ⟨p, hp, ep⟩ := List.mem_map.mp e1
      rw [← ep, nT p hp] at e
      cases e
    obtain ⟨mc, l1, l2⟩ := lim
    have e0 : Env0 P w K mg (hidT t.heap H) callerA [] t H :=
      ⟨rfl, ⟨KB, nsS gN, ⟨mb, nsS bN, bb⟩, ⟨mc, nsS l1, l2⟩⟩, fun b o e => of_hidT e, Nat.le_of_eq (hidT_size _ _), trivial, fun b z => (List.not_mem_nil z).elim, hok, .of_eq ng⟩
    refine codeAny_mono ((F _ KB (nsS gN)).run callerA [] t H ⟨[.ref a], []⟩ [.ref a] [.ref a] _ hr rfl e0 (bd t (.ref a)) (.cons rfl .nil) (hsp H hH hS fun p hp z => aT (by rw [← z]; exact mT p hp))) ?_
    rintro r s' ⟨u, rfl, v, H', os, bare, un, hok', rr, rfl⟩
    obtain rfl : u = Value.bool true := rr
    have kept : ∀ b o, b ∉ lamT.map (fun p => p.1) → t.heap.get? b = some o → s'.heap.get? b = some o := fun b o nb e => by
      rcases only b with z | z | ⟨ob, xs, z⟩
      · exact un.keep b o e z (List.not_mem_nil) (List.not_mem_nil)
      · exact (nb z).elim
      · obtain ⟨e1, _⟩ := hok b _ z
        obtain ⟨e2, _⟩ := hok' b _ (un.frzs b ob _ z)
        rw [e] at e1
        cases e1
        exact e2
    have grown : ∀ p ∈ lamT, ∃ more : Array Value, s'.heap.get? p.1 = some { cls := .none, data := .fields more } := fun p hp => by
      obtain ⟨more, z⟩ := un.tbls p.1 #[] (hH p hp)
      exact ⟨_, hok' p.1 _ z⟩
    refine ⟨rfl, ⟨fun b o e => ?_, fun b o e => ?_⟩, os, bare⟩
    · by_cases hb : b ∈ lamT.map (fun p => p.1)
      · obtain ⟨p, hp, ep⟩ := List.mem_map.mp hb
        obtain ⟨more, hm⟩ := grown p hp
        obtain ⟨c, hc⟩ := hC p hp
        have ep : p.1 = b := ep
        subst ep
        rw [hT p hp] at e
        cases e
        exact .inr (.inl ⟨(hc.tab (hT p hp)).isCodeTable, rfl, #[], more, rfl, by rw [Array.empty_append]; exact hm⟩)
      · exact .inl (kept b o hb e)
    · by_cases hb : b ∈ lamT.map (fun p => p.1)
      · obtain ⟨p, hp, ep⟩ := List.mem_map.mp hb
        obtain ⟨more, hm⟩ := grown p hp
        have ep : p.1 = b := ep
        subst ep
        exact ⟨_, hm⟩
      · exact ⟨o, kept b o hb e⟩
  cases hk : K.lookup a with
  | some o =>
    have e := KX a o hk
    rw [oa] at e
    cases e
    refine main (fun b => if b ∈ lamT.map (fun p => p.1) then some (.tbl #[]) else none) (fun p hp => if_pos (mT p hp)) (fun b => ?_) (.inr ⟨_, us.toArray, _, hk, rfl, rfl, rfl, by rw [List.size_toArray, lV]; exact hz, by simpa using rv⟩) (fun b u z => ?_) (fun b z => ?_)
    · by_cases hb : b ∈ lamT.map (fun p => p.1)
      · exact .inr (.inl hb)
      · exact .inl (if_neg hb)
    · by_cases hb : b ∈ lamT.map (fun p => p.1)
      · have z2 := (if_pos hb).symm.trans z
        cases z2
        exact isT b hb
      · have z2 := (if_neg hb).symm.trans z
        cases z2
    · by_cases hb : b ∈ lamT.map (fun p => p.1)
      · exact .inr hb
      · exact (z (if_neg hb)).elim
  | none =>
    refine main (fun b => if b = a then some (.frz { cls := .type "list", data := .seq us.toArray } (.lst (ns.map V.int))) else if b ∈ lamT.map (fun p => p.1) then some (.tbl #[]) else none) (fun p hp => (if_neg (fun z => aT (by rw [← z]; exact mT p hp))).trans (if_pos (mT p hp))) (fun b => ?_) (.inl (.inr ⟨{ cls := .type "list", data := .seq us.toArray }, if_pos rfl⟩)) (fun b u z => ?_) (fun b z => ?_)
    · by_cases hb : b = a
      · exact .inr (.inr ⟨_, _, if_pos hb⟩)
      · by_cases hb2 : b ∈ lamT.map (fun p => p.1)
        · exact .inr (.inl hb2)
        · exact .inl ((if_neg hb).trans (if_neg hb2))
    · by_cases hb : b = a
      · have z2 := (if_pos hb).symm.trans z
        cases z2
        rw [hb]
        exact ⟨oa, by rw [List.length_map]; exact hz, us, _, rv, oa⟩
      · have z1 := (if_neg hb).symm.trans z
        by_cases hb2 : b ∈ lamT.map (fun p => p.1)
        · have z2 := (if_pos hb2).symm.trans z1
          cases z2
          exact isT b hb2
        · have z2 := (if_neg hb2).symm.trans z1
          cases z2
    · by_cases hb : b = a
      · exact .inl ⟨hb, hk⟩
      · by_cases hb2 : b ∈ lamT.map (fun p => p.1)
        · exact .inr hb2
        · exact (z ((if_neg hb).trans (if_neg hb2))).elim
def TabsIn (K : PySem.W.Frag) (h : Heap) : Prop := (∀ p ∈ lamT, h.get? p.1 = some { cls := .none, data := .fields #[] }) ∧ (∀ p ∈ lamT, K.lookup p.1 = none) ∧ ∀ p ∈ lamT, ∃ c, PySem.W.CodeHd h c p.1
theorem walk_gT {l : PySem.W.OpenLaw} {n k : Nat} {q : Program} {loose : List Str} {XP : (Str → Option Value) → Heap → Prop} {YP : World → Heap → Prop} {d : DefRec} {x : Str} (hn : l.most = some n) (hn2 : n ≤ sizeLine) (hdf : d.params.defaults = []) (hr : Room k callerA)
    (F : ∀ (w : World) (mg : Str → Option Value) (fa : Addr) (h : Heap), YP w h → h.Ns mainGlobals mg → mg d.name = some (.ref fa) → ∃ (K : PySem.W.Frag) (fd : FuncData) (g : Fm), K.In h ∧ TabsIn K h ∧ (∀ (s : Shared) (u : Value), BindsTo s fd ⟨[u], []⟩ [(x, u)]) ∧
      (∀ ns : List Int, ns.length ≤ n → (∀ k ∈ ns, Builtin.Int.intBits k ≤ 1048576) → ∃ evr, g [.imm (.frl (ns.map D.int))] = some (.imm (.bl true), evr)) ∧ ∀ base : Heap, K.In base → base.Ns mainGlobals mg → FnG l.prog w K mg base k fa fd [x] (spOf ⟨K, mg⟩ 1 g)) :
    PySem.W.WalkO q loose XP YP l.row.toRowW d [] (fun f vs => PySem.call f vs) := by
  refine Att.attach_callB hn hdf fun w s₀ t mg mb fa o pm cd doc a us ns G Y ho hd hcd hmg hobj hints hlen hbits hg => ?_
  obtain ⟨K, fd, g, KX, ⟨hT, nT, hC⟩, hb, hg1, hF⟩ := F w mg fa _ Y G.T.g hmg
  refine law_gT KX G.T.g G.T.b G.T.builtins G.T.nolimit hg hT nT hC hobj hints (Nat.le_trans hlen hn2) hr hF hb fun H hH hS ha => ?_
  obtain ⟨evr, e⟩ := hg1 ns hlen hbits
  have le : LeF (fun b => if b ∈ lamT.map (fun p => p.1) then none else H b) H := fun b o e => by
    have e : (if b ∈ lamT.map (fun p => p.1) then none else H b) = some o := e
    by_cases hb : b ∈ lamT.map (fun p => p.1)
    · rw [if_pos hb] at e
      cases e
    · rw [if_neg hb] at e
      exact e
  have na : a ∉ lamT.map (fun p => p.1) := fun z => by
    obtain ⟨p, hp, ep⟩ := List.mem_map.mp z
    exact ha p hp ep
  have tb : Tbs (⟨K, mg⟩ : Gb) (fun b => if b ∈ lamT.map (fun p => p.1) then none else H b) H := ⟨fun p hp => LamX.TabS.nil (hH p hp), fun p hp => if_pos (List.mem_map.mpr ⟨p, hp, rfl⟩)⟩
  have hS2 : SqL K (fun b => if b ∈ lamT.map (fun p => p.1) then none else H b) a (ns.map V.int) := by
    rcases hS with (h | ⟨o, h⟩) | h
    · exact .inl (.inl ((if_neg na).trans h))
    · exact .inl (.inr ⟨o, (if_neg na).trans h⟩)
    · exact .inr h
  refine ⟨rfl, _, [.imm (.frl (ns.map D.int))], noW, .imm (.bl true), evr, Sta.data (ds := [.frl (ns.map D.int)]) le tb (.one ?_), e, fun v F' H' W' P c S r n => ?_⟩
  · unfold Imm
    refine ⟨a, ns.map V.int, rfl, hS2, ?_⟩
    clear e hg1 hS hS2 hlen hbits hints
    induction ns with
    | nil => exact .nil
    | cons i r ih => exact .cons (by unfold Imm; rfl) ih
  · have := r.immP
    unfold Imm at this
    exact this
end Kv
namespace Kv
open PySem PySem.Spec PyProof.Rows L2
def D.is : List D → Option (List Int)
  | [] => some []
  | .int s :: ds => (D.is ds).map fun ys => s :: ys
  | _ :: _ => none
theorem Imms.is {G : Gb} {F : Hp} : ∀ {ds : List D} {vs : List V} {ys : List Int}, Imms G F ds vs → D.is ds = some ys → vs = ys.map V.int
  | [], _, _, h, e => by
    unfold Imms at h
    cases e
    exact h
  | d :: ds, _, _, h, e => by
    cases d <;> first | (cases e; done) | skip
    unfold Imms at h
    obtain ⟨v, r, rfl, h1, h2⟩ := h
    obtain ⟨ys, e1, rfl⟩ := mp e
    unfold Imm at h1
    rw [h1, Imms.is h2 e1]
    rfl
section
variable {X : Cx}
def gRepr : List D → Option O
  | [.lst ds] => (D.pk (.lst ds)).bind fun p => if p.showable = true ∧ p.shown.length ≤ sizeLine then some (.imm (.rep p)) else none
  | [.tup ds] => (D.pk (.tup ds)).bind fun p => if p.showable = true ∧ p.shown.length ≤ sizeLine then some (.imm (.rep p)) else none
  | _ => none
theorem canLay_of {d : D} {p : PyData} (e : D.pk d = some p) : p.depth ≤ 64 := by
  obtain ⟨q, e1, e2⟩ := bnd e
  split at e2
  · rename_i hz; cases e2; exact hz
  · cases e2
theorem call_reprD (hgu : X.A.guards = some []) (hu : X.A.units + 66 < cLine) : CallR X (.builtin "repr") (fun xs H Q => ∃ a p, xs = [.ref a] ∧ Dp X.K H (.ref a) p ∧ PyData.canLay0 p = true ∧ p.showable = true ∧ p.depth ≤ 64 ∧ p.shown.length ≤ sizeLine ∧ Q (.str p.shown) H) := by
  intro pins s σ H xs us Q I r h
  obtain ⟨a, p, rfl, hd, hl, hs, hz, hz2, q⟩ := h
  obtain ⟨u, rfl, ru⟩ := r.one
  obtain ⟨as, rr⟩ := Dp.reads I p (.ref a) u hd ru
  cases ru
  exact repr_of_reads' rr hs (PyData.noDict_hsm (PyData.hasDict_of_canLay p hl)) hgu (by omega) (fun _ _ e => e) (fun h' u tk hk => ⟨.str p.shown, H, I.kept hk, ⟨u, rfl⟩, q⟩) hz2
theorem o_repr (hgu : X.A.guards = some []) (hu : X.A.units + 66 < cLine) : OpN X (.builtin "repr") gRepr := by
  refine ⟨_, call_reprD hgu hu, fun F H vs ds o le tb h e Q q => ?_⟩
  unfold gRepr at e
  split at e
  · obtain ⟨p, e1, e⟩ := bnd e
    split at e
    · rename_i hz
      cases e
      obtain ⟨v, rfl, hv⟩ := vws1 h
      obtain ⟨p', e2, e3⟩ := bnd e1
      obtain ⟨q1, q2⟩ := hv.dp le e2
      have hd := canLay_of e1
      split at e3
      · cases e3
        obtain ⟨a, ws, rfl, _⟩ := hv
        exact ⟨a, p, rfl, q1, q2, hz.1, hd, hz.2, ret0 (o := .imm .non) le q (by unfold Imm; rfl)⟩
      · cases e3
    · cases e
  · obtain ⟨p, e1, e⟩ := bnd e
    split at e
    · rename_i hz
      cases e
      obtain ⟨v, rfl, hv⟩ := vws1 h
      obtain ⟨p', e2, e3⟩ := bnd e1
      obtain ⟨q1, q2⟩ := hv.dp le e2
      have hd := canLay_of e1
      split at e3
      · cases e3
        obtain ⟨a, ws, rfl, _⟩ := hv.tup
        exact ⟨a, p, rfl, q1, q2, hz.1, hd, hz.2, ret0 (o := .imm .non) le q (by unfold Imm; rfl)⟩
      · cases e3
    · cases e
  · cases e
def DK.d : DK → D
  | .int i => .int i
  | .str s => .str s
def gLstK : List D → Option O
  | [.dct ks ds] => if ks.all (fun k => match k with | .str s => okS s | .int _ => true) = true then some (.lst (ks.map DK.d)) else none
  | _ => none
end
end Kv
namespace Kv
open PySem PySem.Spec PyProof.Rows L2
def D.tyN : D → Option String
  | .non => some "NoneType"
  | .bl _ => some "bool"
  | .int _ => some "int"
  | .str _ => some "str"
  | .rep _ => some "str"
  | .tup _ => some "tuple"
  | .lst _ => some "list"
  | .frl _ => some "list"
  | .dct _ _ => some "dict"
  | .obj _ _ _ => none
  | .cls _ => none
  | .tpu _ => none
  | .exo _ _ _ => none
def isi (t T : String) : Bool := t == T || (t == "bool" && T == "int")
def tyNs : List String := ["NoneType", "bool", "int", "str", "tuple", "list", "dict"]
section
variable {X : Cx} {a b c e : Expr} {es : List Expr} {pos p p1 : Pos} {fa fb : Ev → Option D} {ma : M D}
theorem sql_ty {H : Hp} {a : Addr} {xs : List V} (h : SqL X.K H a xs) : TyX X.K H (.ref a) (.type "list") := by
  rcases h with (h | ⟨o, h⟩) | ⟨o, its, n, h, h2, _⟩
  · exact .base (.lst h)
  · exact .base (.frz h)
  · exact .kList h h2
theorem sqt_ty {H : Hp} {a : Addr} {xs : List V} (h : SqT X.K H a xs) : TyX X.K H (.ref a) (.type "tuple") := by
  rcases h with (h | ⟨o, h⟩) | ⟨o, its, n, h, h2, _⟩
  · exact .base (.tup h)
  · exact .fTuple h
  · exact .kTuple h h2
theorem Vw.ty {F H : Hp} (le : LeF F H) {d : D} {v : V} {t : String} (h : Vw (gb X) F H d v) (e : d.tyN = some t) : TyX X.K H v (.type t) ∧ t ∈ tyNs := by
  cases d with
  | non => cases e; rw [h.non]; exact ⟨.base .non, by decide⟩
  | bl k => cases e; rw [h.bl]; exact ⟨.base (.bl _), by decide⟩
  | int k => cases e; rw [h.int]; exact ⟨.base (.int _), by decide⟩
  | str k => cases e; rw [h.str.1]; exact ⟨.base (.str _), by decide⟩
  | rep k => cases e; rw [h.rep]; exact ⟨.base (.str _), by decide⟩
  | tup k => cases e; obtain ⟨a, ws, rfl, h1, h2⟩ := h.tup; exact ⟨sqt_ty (Same.sqt le h1), by decide⟩
  | lst k => cases e; obtain ⟨a, ws, rfl, h1, h2⟩ := h; exact ⟨sql_ty (SqL.of h1), by decide⟩
  | frl k => cases e; obtain ⟨a, ws, rfl, h1, h2⟩ := h.frl; exact ⟨sql_ty (Same.seq le h1), by decide⟩
  | dct k k2 =>
    cases e
    obtain ⟨a, ws, rfl, h1, h2⟩ := h
    rcases h1 with h1 | ⟨o, h1⟩
    · exact ⟨.base (.dK h1), by decide⟩
    · exact ⟨.fDict h1, by decide⟩
  | obj _ _ _ => cases e
  | cls _ => cases e
  | tpu _ => cases e
  | exo _ _ _ => cases e
def gIsi (T : String) (d : D) : Option O := d.tyN.map fun t => .imm (.bl (isi t T))
end
section
variable {X : Cx} {k n m : Nat} {x : Str} {st : Stmt} {ps ks : List Str} {g : Fm} {e e0 : Expr} {es : List Expr} {kws : List Keyword} {fs : Ev → Option (List D)} {fa : Ev → Option D} {f0 : Ev → Option O} {m0 : M O} {p pos kpos : Pos} {nm : Option Str} {π : List Nat}
def PKv (X : Cx) (kws : List Keyword) (f : Ev → Option (List D)) : Prop := ∃ t : TA, PK X kws t ∧ ∀ F H ev σ W ds, Sta (gb X) F H ev σ W → f ev = some ds →
  ∀ Q : List V → Hp → Prop, (∀ vs F' H', Chg F H noW F' H' noW → Imms (gb X) F' ds vs → Q vs H') → t σ H Q
theorem kv_nil : PKv X [] (kk []) := ⟨_, pk_nil, fun F H ev σ W ds S hf Q hQ => by cases hf; exact hQ [] F H (Chg.refl S.le) .nil⟩
theorem kv_cons (h : PV X e fa) (h' : PKv X kws fs) : PKv X (⟨nm, e, kpos⟩ :: kws) (fun ev => (fa ev).bind fun d => (fs ev).map fun ds => d :: ds) := by
  obtain ⟨t, h1, h2⟩ := h
  obtain ⟨u, h3, h4⟩ := h'
  refine ⟨_, pk_cons h1 h3, fun F H ev σ W ds S hf Q hQ => ?_⟩
  obtain ⟨d, e1, e2⟩ := bnd hf
  obtain ⟨es, e3, rfl⟩ := mp e2
  refine h2 F H ev σ W d S e1 _ fun v F1 H1 c1 r1 => ?_
  exact h4 F1 H1 ev σ W es (S.chg0 c1) e3 _ fun vs F2 H2 c2 r2 => hQ _ F2 H2 (c1.trans c2) (.cons (c2.imm r1) r2)
def KB (x : Str) (st : Stmt) (ps ks : List Str) (π : List Nat) : Prop := ∀ (kV doc pm : Value) (an : Option Addr) (cdv ct : Value) (ws : List Value), ws.length = ks.length →
  bindArgs (PySem.W.fnOf x x (defArgs st) (defBody st) (defScope st) .none kV doc pm an cdv ct) ⟨[], ks.zip ws⟩ = pure (ps.zip (perm π ws))
theorem KB.of {K : PySem.W.Frag} {f : Addr} {fd : FuncData} (h : KB x st ps ks π) (F : FunD K x x (defArgs st) (defBody st) (defScope st) [] [] f fd) : KwB K fd ps ks π := by
  obtain ⟨oc, od, dV, kV, doc, pm, an, cdv, ct, osl, rfl, lk, hcd, hD, hK⟩ := F.ex
  rcases hD with ⟨_, rfl⟩ | ⟨e, _⟩
  · exact fun s ws _ hl => .of_eq (h kV doc pm an cdv ct ws hl)
  · exact absurd rfl e
def fFr (f0 : Ev → Option O) (fs : Ev → Option (List D)) (n : Nat) (g : Fm) : Ev → Option O := fun ev => (f0 ev).bind fun o => (fs ev).bind fun ds => if ds.length + 1 = n then (g (o :: ds.map O.imm)).map (·.1) else none
theorem po_callF (h : Gd X.prog X.w X.K X.mg X.base k x st ps g) (hr : Room k X.A) (hgu : X.A.guards = some []) (h0 : PO X e0 f0) (ha : PAv X es fs) (hn : ps.length = n := by rfl) (hg : Gl X x := by rfl) (hdb : (x == ("__debug__" : Str)) = false := by decide) (he : starEach (e0 :: es) X.env = (false, eval e0 X.env) :: starEach es X.env := by rfl)
    (hpl : (backTo pos (starEach es X.env)).any (·.1) = false := by rfl) : PO X (.Call (.Name x p) (e0 :: es) [] pos) (fFr f0 fs n g) := by
  subst hn
  obtain ⟨f, fd, F, hm, hb, ok⟩ := h.ex
  obtain ⟨u, b1, b2⟩ := h0
  obtain ⟨t, a1, a2⟩ := ha
  refine ⟨_, pe_clG ok hr hgu hg hm F.kp hb (pa_cons b1 a1 he) hdb he hpl, fun F H ev σ W o S hf Q hQ => ?_⟩
  obtain ⟨o0, e0, hf⟩ := bnd hf
  obtain ⟨ds, e1, hf⟩ := bnd hf
  split at hf
  · rename_i hz
    obtain ⟨⟨r, evr⟩, e2, rfl⟩ := mp hf
    refine b2 F H ev σ W o0 S e0 _ fun v0 F1 H1 P1 c1 r1 => ?_
    have S1 := S.chg0 c1
    refine a2 F1 H1 ev σ W ds S1 e1 _ fun vs F2 H2 c2 r2 => ?_
    have r1' := c2.rep r1 fun _ _ z => z
    have SA : Sta (gb X) F2 H2 ((o0 :: ds.map O.imm).map some) ((v0 :: vs).map some) P1 := by
      have := Sta.cons1 c2.le (c2.tbs0 S1.tb) r1' r2
      rw [List.map_cons, List.map_cons, map_map_some]
      exact this
    refine ⟨by rw [List.length_cons, r2.length]; exact hz, F2, _, P1, r, evr, SA, e2, fun v F' H' W' P c S3 rr n => ?_⟩
    have cc := c1.trans (c2.wide (W3 := P1) fun _ z => z.elim)
    have c3 := Chg.trans (W2 := P1) ⟨(c1.trans (c2.wide (W3 := P1) fun _ z => z.elim)).sm, cc.le, cc.kp, cc.kf, cc.th, fun a z => c1.wr a z⟩ c
    exact hQ v F' H' P (c3.weak fun a z => .inr z) rr
  · cases hf
end
section
variable {X : Cx} {a b : Expr} {pos p p1 pos1 : Pos} {fa fb : Ev → Option D}
def gLrg1 : D → Option O
  | .int j => if 0 ≤ j ∧ j ≤ 16777216 then some (.lst (upTo 0 j.toNat)) else none
  | _ => none
end
section
variable {X : Cx} {kx vx tg iter : Expr} {ifs : List Expr} {scope : Scope} {vs : List Nat} {pos : Pos} {fi : Ev → Option (List D)} {tf : TF} {fc : Ev → Option Bool} {fk fv : Ev → Option D}
end
end Kv
namespace Kv
open PySem PySem.Spec PyProof.Rows L2
theorem kb_len : bootBuiltins "len" = some (.builtin "len") := by decide +kernel
theorem kb_all : bootBuiltins "all" = some (.builtin "all") := by decide +kernel
theorem kb_abs : bootBuiltins "abs" = some (.builtin "abs") := by decide +kernel
theorem kb_max : bootBuiltins "max" = some (.builtin "max") := by decide +kernel
theorem kb_min : bootBuiltins "min" = some (.builtin "min") := by decide +kernel
theorem kb_divmod : bootBuiltins "divmod" = some (.builtin "divmod") := by decide +kernel
theorem kb_repr : bootBuiltins "repr" = some (.builtin "repr") := by decide +kernel
theorem kb_int : bootBuiltins "int" = some (.type "int") := by decide +kernel
theorem ru64 {k : Nat} {A : Around} (r : Room k A) : A.units + 64 < cLine := by have := r.un; omega
theorem ru65 {k : Nat} {A : Around} (r : Room k A) : A.units + 65 < cLine := by have := r.un; omega
theorem ru66 {k : Nat} {A : Around} (r : Room k A) : A.units + 66 < cLine := by have := r.un; omega
section
variable {X : Cx}
def gListA (ds : List D) : Option O := (gList ds).or (gLstK ds)
abbrev fz (f : Ev → Option O) : Ev → Option D := fun ev => (f ev).map frz
abbrev fo (f : Ev → Option D) : Ev → Option O := fun ev => (f ev).map O.imm
abbrev mz (m : M O) : M D := M.map frz m
abbrev mo (m : M D) : M O := M.map O.imm m
abbrev cl (g : List D → Option O) (fs : Ev → Option (List D)) : Ev → Option O := fun ev => (fs ev).bind g
abbrev clM (g : List D → Option O) (ms : M (List D)) : M O := ms.bind fun ds => M.opt (g ds)
abbrev it (f : Ev → Option D) : Ev → Option (List D) := fun ev => (f ev).bind D.items
abbrev itM (m : M D) : M (List D) := m.bind fun d => M.opt d.items
abbrev rg (g : List D → Option (List D)) (fs : Ev → Option (List D)) : Ev → Option (List D) := fun ev => (fs ev).bind g
abbrev rgM (g : List D → Option (List D)) (ms : M (List D)) : M (List D) := ms.bind fun ds => M.opt (g ds)
abbrev tr (f : Ev → Option D) : Ev → Option Bool := fun ev => (f ev).bind D.tru
abbrev trM (m : M D) : M Bool := m.bind fun d => M.opt d.tb
abbrev cu (n : Nat) (g : Fm) (fs : Ev → Option (List D)) : Ev → Option O := fun ev => (fs ev).bind fun ds => if ds.length = n then ap g ds else none
abbrev cuM (n : Nat) (g : Fm) (ms : M (List D)) : M O := ms.bind fun ds => M.opt (if ds.length = n then ap g ds else none)
abbrev cu0 (g : Fm) : Ev → Option O := fun _ => ap g []
abbrev cuK (n m : Nat) (π : List Nat) (g : Fm) (fs : Ev → Option (List D)) : Ev → Option O := fun ev => (fs ev).bind fun ds => if ds.length = m ∧ (perm π ds).length = n then ap g (perm π ds) else none
abbrev kwc (f : Ev → Option D) (fs : Ev → Option (List D)) : Ev → Option (List D) := fun ev => (f ev).bind fun d => (fs ev).map fun ds => d :: ds
abbrev isI (T : String) (f : Ev → Option D) : Ev → Option O := fun ev => (f ev).bind (gIsi T)
abbrev pI (f : Ev → Option D) : Ev → Option (Option Int) := fun ev => (f ev).bind D.i?
abbrev lr1 (f : Ev → Option D) : Ev → Option O := fun ev => (f ev).bind gLrg1
abbrev tbO (f : Ev → Option D) : Ev → Option Bool := fun ev => (f ev).bind D.tb
end
def sFz (i : Nat) (m : MF) : MF := fun ev => (m ev).bind fun p => match p.1 with
  | .nx => (gt i p.2).map fun o => (.nx, p.2.set i (some (.imm (frz o))))
  | _ => none
end Kv
namespace Kv
open PySem PySem.Spec PyProof.Rows L2
section
variable {X : Cx} {c f : Str} {e : Expr} {es : List Expr} {fa : Ev → Option D} {fs : Ev → Option (List D)} {pos apos : Pos} {k : Nat} {g : Fm} {st : Stmt} {ps : List Str}
structure Gp (P : Program) (w : World) (K : PySem.W.Frag) (mg : Str → Option Value) (base : Heap) (k : Nat) (c f : Str) (g : Fm) : Prop where
  ex : ∃ C p a fd ps, mg c = some (.ref C) ∧ Cls K C ∧ PropOf K C f p a ∧ L2.Binds K fd ps [] ∧ ps.length = 1 ∧ FnG P w K mg base k a fd ps (spOf ⟨K, mg⟩ 1 g)
end
end Kv
namespace Kv
open PySem PySem.Spec PyProof.Rows L2
structure FnP (P : Program) (w : World) (K : PySem.W.Frag) (mg : Str → Option Value) (base : Heap) (k : Nat) (f : Addr) (sp : Spg) : Prop where
  run : ∀ (B : Around) (fr : List Env) (t : Shared) (G : Hp) (us : List Value) (xs : List V) (Z : VK), Room k B → B.guards = some [] → Env0 P w K mg base B fr t G → Vals xs us → sp xs G Z →
    codeAny (model P w) B (.call (.ref f) ⟨us, []⟩) (fun r t' => ∃ u, r = .ok (.ret u) ∧ CE fr P w G t Z u t') t
section
variable {P : Program} {w : World} {K : PySem.W.Frag} {mg : Str → Option Value} {base : Heap} {k : Nat} {f : Addr} {sp : Spg}
theorem FnG.fnp {fd : FuncData} {ps : List Str} (F : FnG P w K mg base k f fd ps sp) (hb : L2.Binds K fd ps []) : FnP P w K mg base k f sp := ⟨fun B fr t G us xs Z hr hgu e0 r h => by
  have KX : K.In t.heap := e0.mod.kin.keeps fun b o e => (e0.bs b o e).1
  have hl : us.length = ps.length := by rw [← r.length]; exact F.len _ _ _ h
  have b := hb t us KX (by simpa using hl)
  rw [List.append_nil] at b
  exact F.run B fr t G ⟨us, []⟩ us xs Z hr hgu e0 b r h⟩
end
section
variable {X : Cx} {k : Nat} {f C : Addr} {sp : Spg} {x : Str} {e : Expr} {es : List Expr} {t : TA} {p pos : Pos}
end
end Kv
namespace Kv
open PySem PySem.Spec PyProof.Rows L2
section
variable {G : Gb} {F H : Hp} {x dx p C : Addr} {c : Str}
end
structure Gc (P : Program) (w : World) (K : PySem.W.Frag) (mg : Str → Option Value) (base : Heap) (k : Nat) (c : Str) (n : Nat) (g : Fm) : Prop where
  ex : ∃ C f, mg c = some (.ref C) ∧ Mk K C f ∧ FnP P w K mg base k f (spOf ⟨K, mg⟩ n g)
section
variable {X : Cx} {k n : Nat} {c : Str} {g : Fm} {e : Expr} {es : List Expr} {fs : Ev → Option (List D)} {p pos : Pos}
end
end Kv
namespace Kv
open PySem PySem.Spec PyProof.Rows L2
section
variable {G : Gb} {F H : Hp} {f : Str} {o : O} {v : V}
end
section
variable {X : Cx} {io : List Nat} {i : Nat} {c f y : Str} {py pos apos : Pos} {e : Expr} {m : M O}
end
end Kv
namespace Kv
open PySem PySem.Spec PyProof.Rows L2
structure Gm (P : Program) (w : World) (K : PySem.W.Frag) (mg : Str → Option Value) (base : Heap) (k : Nat) (c m : Str) (st : Stmt) (ps : List Str) (g : Fm) : Prop where
  ex : ∃ C f fd qual, mg c = some (.ref C) ∧ Cls K C ∧ Meth K C m f ∧ FunD K m qual (defArgs st) (defBody st) (defScope st) [] [] f fd ∧ L2.Binds K fd ps [] ∧ FnG P w K mg base k f fd ps (spOf ⟨K, mg⟩ ps.length g)
section
variable {X : Cx} {k n : Nat} {c m : Str} {st : Stmt} {ps : List Str} {g : Fm} {o e : Expr} {es : List Expr} {fa : Ev → Option D} {fs : Ev → Option (List D)} {apos pos : Pos} {pl : Sem Bool} {ta : TE} {t : TA} {sp : Spg} {C f : Addr} {fd : FuncData}
end
end Kv
namespace Kv
open PySem PySem.Spec PyProof.Rows L2 ClX
section
variable {X : Cx} {k n : Nat} {c m : Str} {st : Stmt} {ps : List Str} {g : Fm} {o e : Expr} {es : List Expr} {fs : Ev → Option (List D)} {apos pos p1 : Pos} {pl : Sem Bool} {ta : TE} {t : TA} {sp : Spg} {C q ga : Addr} {mc : Value}
end
structure Gk (P : Program) (w : World) (K : PySem.W.Frag) (mg : Str → Option Value) (base : Heap) (k : Nat) (c m : Str) (n : Nat) (g : Fm) : Prop where
  ex : ∃ C mc p ga, mg c = some (.ref C) ∧ CRead K C mc ∧ CMet K C mc m p ga ∧ FnP P w K mg base k ga (spOf ⟨K, mg⟩ n g)
section
variable {X : Cx} {k n : Nat} {c m : Str} {g : Fm} {e : Expr} {es : List Expr} {fs : Ev → Option (List D)} {apos pos p1 : Pos} {pl : Sem Bool}
end
end Kv
namespace Kv
open PySem PySem.Spec PyProof.Rows L2
section
variable {X : Cx} {o e : Expr} {fa fb : Ev → Option D} {apos pos : Pos}
end
end Kv
namespace Kv
open PySem PySem.Spec PyProof.Rows L2
section
variable {G : Gb} {F H : Hp} {ev : Ev} {σ : L2.St} {W : Addr → Prop}
end
def gd (i : Nat) (ev : Ev) : Option (List DK × List D) := (gt i ev).bind fun o => match o with
  | .dct ks ds => some (ks, ds)
  | _ => none
section
variable {X : Cx} {io : List Nat} {i : Nat} {y : Str} {py pos : Pos} {b : Expr}
end
end Kv
namespace Kv
open PySem PySem.Spec PyProof.Rows L2
section
variable {X : Cx} {k n j : Nat} {c m : Str} {st : Stmt} {ps ks : List Str} {π : List Nat} {g : Fm} {o : Expr} {kws : List Keyword} {fa : Ev → Option D} {fs : Ev → Option (List D)} {apos pos : Pos} {pl : Sem Bool}
end
end Kv
namespace Kv
open PySem PySem.Spec PyProof.Rows L2
open AutoSeq1 (wpAny_loadPart')
section
variable {X : Cx} {e : Expr} {p pos tpos : Pos} {elts : List Expr} {kk : Nat} {ta : TA}
end
section
variable {X : Cx} {e : Expr} {p pos tpos : Pos} {elts : List Expr} {kk : Nat} {fs : Ev → Option (List D)}
end
end Kv
namespace Kv
open PySem PySem.Spec PyProof.Rows L2
section
variable {prog : Program} {w : World} {A : Around} {R : Result → Shared → Prop} {it : Addr} {fp wr : List Addr} {G : Array GenState → Array GenState → Prop} {n : Nat} {P : Nat → Value → Prop} {St : Nat → Shared → Prop}
end
section
variable {prog : Program} {w : World} {A : Around} {E : Value → Shared → Prop} {s : Shared}
end
section
variable {X : Cx} {a : Expr} {ta : TE} {p p2 pq pos : Pos}
end
def D.keys : List D → Option (List DK)
  | [] => some []
  | d :: ds => d.dk.bind fun k => (D.keys ds).map fun ks => k :: ks
section
variable {X : Cx} {a : Expr} {fa : Ev → Option D} {p p2 pq pos : Pos}
end
end Kv
namespace Kv
open PySem PySem.Spec PyProof.Rows L2
def Wk (F F' : Hp) : Prop := ∀ a o, F a = some o → F' a = some o ∨ ∃ kvs, (o = .dK kvs ∧ ∃ od, F' a = some (.frz od (.dK kvs))) ∨ ∃ od, o = .frz od (.dK kvs) ∧ F' a = some (.dK kvs)
section
variable {G : Gb} {F F' H H' : Hp}
theorem Wk.keep (w : Wk F F') {a : Addr} {o : HO} (h : F a = some o) (n1 : ∀ k, o ≠ .dK k) (n2 : ∀ od k, o ≠ .frz od (.dK k)) : F' a = some o := by
  rcases w a o h with z | ⟨k, ⟨z, _⟩ | ⟨od, z, _⟩⟩
  · exact z
  · exact absurd z (n1 k)
  · exact absurd z (n2 od k)
theorem Wk.sqt {K : PySem.W.Frag} (w : Wk F F') {a : Addr} {xs : List V} (h : SqT K F a xs) : SqT K F' a xs := by
  rcases h with (h | ⟨o, h⟩) | h
  · exact .inl (.inl (w.keep h (fun _ z => nomatch z) fun _ _ z => nomatch z))
  · exact .inl (.inr ⟨o, w.keep h (fun _ z => nomatch z) fun _ _ z => nomatch z⟩)
  · exact .inr h
theorem Wk.sql {K : PySem.W.Frag} (w : Wk F F') {a : Addr} {xs : List V} (h : SqL K F a xs) : SqL K F' a xs := by
  rcases h with (h | ⟨o, h⟩) | h
  · exact .inl (.inl (w.keep h (fun _ z => nomatch z) fun _ _ z => nomatch z))
  · exact .inl (.inr ⟨o, w.keep h (fun _ z => nomatch z) fun _ _ z => nomatch z⟩)
  · exact .inr h
theorem Wk.rd (w : Wk F F') {a : Addr} {k : List (Key × V)} (h : Rd F a (.dK k)) : Rd F' a (.dK k) := by
  rcases h with h | ⟨o, h⟩
  · rcases w a _ h with z | ⟨k', ⟨z, od, z2⟩ | ⟨od, z, _⟩⟩
    · exact .inl z
    · cases z; exact .inr ⟨od, z2⟩
    · cases z
  · rcases w a _ h with z | ⟨k', ⟨z, od, z2⟩ | ⟨od, z, z2⟩⟩
    · exact .inr ⟨o, z⟩
    · cases z
    · cases z; exact .inl z2
mutual
theorem Imm.wk (w : Wk F F') : ∀ (d : D) (v : V), Imm G F d v → Imm G F' d v
  | .non, v, h => by unfold Imm at h ⊢; exact h
  | .bl b, v, h => by unfold Imm at h ⊢; exact h
  | .int i, v, h => by unfold Imm at h ⊢; exact h
  | .str s, v, h => by unfold Imm at h ⊢; exact h
  | .rep s, v, h => by unfold Imm at h ⊢; exact h
  | .cls s, v, h => by unfold Imm at h ⊢; exact h
  | .tup ds, v, h => by
    unfold Imm at h ⊢
    obtain ⟨a, vs, e1, e2, e3⟩ := h
    exact ⟨a, vs, e1, ⟨e2.choose, w.keep e2.choose_spec.1 (fun _ z => nomatch z) (fun _ _ z => nomatch z), e2.choose_spec.2⟩, Imms.wk w ds vs e3⟩
  | .tpu ds, v, h => by
    unfold Imm at h ⊢
    obtain ⟨a, vs, e1, e2, e3⟩ := h
    exact ⟨a, vs, e1, w.sqt e2, Imms.wk w ds vs e3⟩
  | .lst ds, v, h => by
    unfold Imm at h ⊢
    obtain ⟨a, vs, e1, e2, e3⟩ := h
    exact ⟨a, vs, e1, w.keep e2 (fun _ z => nomatch z) (fun _ _ z => nomatch z), Imms.wk w ds vs e3⟩
  | .frl ds, v, h => by
    unfold Imm at h ⊢
    obtain ⟨a, vs, e1, e2, e3⟩ := h
    exact ⟨a, vs, e1, w.sql e2, Imms.wk w ds vs e3⟩
  | .dct ks ds, v, h => by
    unfold Imm at h ⊢
    obtain ⟨a, vs, e1, e2, e3, e4⟩ := h
    exact ⟨a, vs, e1, w.rd e2, e3, Imms.wk w ds vs e4⟩
  | .obj c ns ds, v, h => by
    unfold Imm at h ⊢
    obtain ⟨a, dx, C, vs, e1, e2, e3, e4, e5, e6⟩ := h
    exact ⟨a, dx, C, vs, e1, e2, w.keep e3 (fun _ z => nomatch z) (fun _ _ z => nomatch z), w.keep e4 (fun _ z => nomatch z) (fun _ _ z => nomatch z), e5, Imms.wk w ds vs e6⟩
  | .exo c ns ds, v, h => by
    unfold Imm at h ⊢
    obtain ⟨a, od, C, vs, e1, e2, e3, e4, e5, e6⟩ := h
    refine ⟨a, od, C, vs, e1, e2, w.keep e3 (fun _ z => by unfold XO at z; cases z) (fun _ _ z => by unfold XO at z; cases z), ?_, e5, Imms.wk w ds vs e6⟩
    cases od with
    | none => exact e4
    | some dd => exact w.keep (show F dd = some (.xd (ns.zip vs)) from e4) (fun _ z => nomatch z) (fun _ _ z => nomatch z)
theorem Imms.wk (w : Wk F F') : ∀ (ds : List D) (vs : List V), Imms G F ds vs → Imms G F' ds vs
  | [], vs, h => by unfold Imms at h ⊢; exact h
  | d :: ds, vs, h => by
    unfold Imms at h ⊢
    obtain ⟨v, r, e1, e2, e3⟩ := h
    exact ⟨v, r, e1, Imm.wk w d v e2, Imms.wk w ds r e3⟩
end
mutual
theorem Rep.wk (e : Wk F F') : ∀ (o : O) (v : V) (P : Addr → Prop), (∀ a, P a → ∀ u, H a = some u → H' a = some u) → (∀ a, P a → F' a = none) → Rep G F H o v P → Rep G F' H' o v P
  | .imm d, v, P, k, f, h => by
    unfold Rep at h ⊢
    exact ⟨Imm.wk e d v h.1, h.2⟩
  | .lst ds, v, P, k, f, h => by
    unfold Rep at h ⊢
    obtain ⟨a, vs, e1, e2, e3, e4, e5⟩ := h
    exact ⟨a, vs, e1, k a ((e5 a).2 rfl) _ e2, f a ((e5 a).2 rfl), Imms.wk e ds vs e4, e5⟩
  | .dct ks ds, v, P, k, f, h => by
    unfold Rep at h ⊢
    obtain ⟨a, vs, e1, e2, e3, e4, e5, e6⟩ := h
    exact ⟨a, vs, e1, k a ((e6 a).2 rfl) _ e2, f a ((e6 a).2 rfl), e4, Imms.wk e ds vs e5, e6⟩
  | .obj c ns os, v, P, k, f, h => by
    unfold Rep at h ⊢
    obtain ⟨a, dx, C, vs, P', e1, e2, e3, e4, e5, e6, e7, e8, e9, e10, e11⟩ := h
    have pa := (e11 a).2 (.inl rfl)
    have pd := (e11 dx).2 (.inr (.inl rfl))
    have pr : ∀ b, P' b → P b := fun b z => (e11 b).2 (.inr (.inr z))
    exact ⟨a, dx, C, vs, P', e1, e2, k a pa _ e3, k dx pd _ e4, f a pa, f dx pd, e7, Reps.wk e os vs P' (fun b z => k b (pr b z)) (fun b z => f b (pr b z)) e8, e9, e10, e11⟩
  | .ol os, v, P, k, f, h => by
    unfold Rep at h ⊢
    obtain ⟨a, vs, P', e1, e2, e3, e4, e5, e6⟩ := h
    have pa := (e6 a).2 (.inl rfl)
    exact ⟨a, vs, P', e1, k a pa _ e2, f a pa, Reps.wk e os vs P' (fun b z => k b ((e6 b).2 (.inr z))) (fun b z => f b ((e6 b).2 (.inr z))) e4, e5, e6⟩
theorem Reps.wk (e : Wk F F') : ∀ (os : List O) (vs : List V) (P : Addr → Prop), (∀ a, P a → ∀ u, H a = some u → H' a = some u) → (∀ a, P a → F' a = none) → Reps G F H os vs P → Reps G F' H' os vs P
  | [], vs, P, k, f, h => by unfold Reps at h ⊢; exact h
  | o :: os, vs, P, k, f, h => by
    unfold Reps at h ⊢
    obtain ⟨v, r, P1, P2, e1, e2, e3, e4, e5⟩ := h
    exact ⟨v, r, P1, P2, e1, Rep.wk e o v P1 (fun b z => k b ((e5 b).2 (.inl z))) (fun b z => f b ((e5 b).2 (.inl z))) e2, Reps.wk e os r P2 (fun b z => k b ((e5 b).2 (.inr z))) (fun b z => f b ((e5 b).2 (.inr z))) e3, e4, e5⟩
end
end
section
variable {X : Cx} {tg e : Expr} {td t : TE}
end
section
variable {X : Cx} {elt tg iter : Expr} {ifs : List Expr} {scope : Scope} {pos : Pos} {fa : Ev → Option D} {tf : TF} {fc : Ev → Option Bool} {fe : Ev → Option D} {vs : List Nat}
end
end Kv
namespace Kv
open PySem PySem.Spec PyProof.Rows L2 ClX
section
variable {X : Cx} {k n : Nat} {c : Str} {g : Fm} {e : Expr} {fa : Ev → Option D} {p pos sp_ : Pos}
end
structure Gkd (P : Program) (w : World) (K : PySem.W.Frag) (mg : Str → Option Value) (base : Heap) (k : Nat) (c m : Str) (st : Stmt) (ps : List Str) (g : Fm) : Prop where
  ex : ∃ C mc p ga fd qual, mg c = some (.ref C) ∧ CRead K C mc ∧ CMet K C mc m p ga ∧ FunD K m qual (defArgs st) (defBody st) (defScope st) [] [] ga fd ∧ L2.Binds K fd ps [] ∧ FnG P w K mg base k ga fd ps (spOf ⟨K, mg⟩ ps.length g)
theorem Gkd.gk {P : Program} {w : World} {K : PySem.W.Frag} {mg : Str → Option Value} {base : Heap} {k : Nat} {c m : Str} {st : Stmt} {ps : List Str} {g : Fm} (h : Gkd P w K mg base k c m st ps g) : Gk P w K mg base k c m ps.length g := by
  obtain ⟨C, mc, p, ga, fd, qual, h1, h2, h3, h4, h5, h6⟩ := h.ex
  exact ⟨C, mc, p, ga, h1, h2, h3, h6.fnp h5⟩
section
variable {X : Cx} {k n j : Nat} {c m : Str} {st : Stmt} {ps ks : List Str} {π : List Nat} {g : Fm} {kws : List Keyword} {fs : Ev → Option (List D)} {apos pos p1 : Pos} {pl : Sem Bool}
end
def PDs (X : Cx) (pos : Pos) (keys : List (Option Expr)) (values : List Expr) (f : Ev → Option (List (D × D))) : Prop := ∃ trs, PPs X pos keys values trs ∧ ∀ F H ev σ W ds, Sta (gb X) F H ev σ W → f ev = some ds →
  ∀ Q : List (V × V) → Hp → Prop, (∀ vs F' H', Chg F H noW F' H' noW → Imms (gb X) F' (ds.map (·.1)) (vs.map (·.1)) → Imms (gb X) F' (ds.map (·.2)) (vs.map (·.2)) → Q vs H') → tPairs trs σ H Q
def fpair (f g : Ev → Option D) (fs : Ev → Option (List (D × D))) : Ev → Option (List (D × D)) := fun ev => (f ev).bind fun x => (g ev).bind fun y => (fs ev).map fun ps => (x, y) :: ps
section
variable {X : Cx} {a b : Expr} {pos : Pos} {fa fb : Ev → Option D} {ks : List (Option Expr)} {vs : List Expr} {fs : Ev → Option (List (D × D))}
theorem pd_nil : PDs X pos [] [] (kk []) := ⟨_, pps_nil, fun F H ev σ W ds S hf Q hQ => by
  cases hf
  exact hQ [] F H (Chg.refl S.le) .nil .nil⟩
theorem pd_cons (ha : PV X a fa) (hb : PV X b fb) (h : PDs X pos ks vs fs) : PDs X pos (some a :: ks) (b :: vs) (fpair fa fb fs) := by
  obtain ⟨t1, a1, a2⟩ := ha
  obtain ⟨t2, b1, b2⟩ := hb
  obtain ⟨ts, h1, h2⟩ := h
  refine ⟨_, pps_cons a1 b1 h1, fun F H ev σ W ds S hf Q hQ => ?_⟩
  obtain ⟨x, e1, e2⟩ := bnd hf
  obtain ⟨y, e3, e4⟩ := bnd e2
  obtain ⟨ps, e5, rfl⟩ := mp e4
  refine a2 F H ev σ W x S e1 _ fun u F1 H1 c1 r1 => b2 F1 H1 ev σ W y (S.chg0 c1) e3 _ fun v F2 H2 c2 r2 => h2 F2 H2 ev σ W ps (S.chg0 (c1.trans c2)) e5 _ fun ws F3 H3 c3 r3 r4 => ?_
  exact hQ _ F3 H3 (c1.trans (c2.trans c3)) (.cons ((c2.trans c3).imm r1) r3) (.cons (c3.imm r2) r4)
def mrgD : List DK → List D → List (DK × D) → List DK × List D
  | ks, ds, [] => (ks, ds)
  | ks, ds, p :: r => mrgD (putK1 ks p.1) (putD1 ks ds p.1 p.2) r
def keyPs : List (D × D) → Option (List (DK × D))
  | [] => some []
  | p :: r => p.1.dk.bind fun k => (keyPs r).map fun q => (k, p.2) :: q
theorem mrg_imms {G : Gb} {F : Hp} : ∀ {ps : List (D × D)} {qs : List (DK × D)} {us : List (V × V)} {ks : List DK} {ds : List D} {ws : List V}, keyPs ps = some qs → Imms G F (ps.map (·.1)) (us.map (·.1)) → Imms G F (ps.map (·.2)) (us.map (·.2)) → Imms G F ds ws → ks.length = ws.length →
    ∃ kvs : List (Key × V), us = kvs.map (fun kv => (kV kv.1, kv.2)) ∧ kvs.length = ps.length ∧ ∃ xs, mergeK ((ks.map DK.key).zip ws) kvs = ((mrgD ks ds qs).1.map DK.key).zip xs ∧ (mrgD ks ds qs).1.length = xs.length ∧ Imms G F (mrgD ks ds qs).2 xs
  | [], _, us, ks, ds, ws, e, h1, h2, h3, hl => by
    cases e
    have hu : us = [] := by
      have := h1.length
      simpa using this
    subst hu
    exact ⟨[], rfl, rfl, ws, rfl, hl, h3⟩
  | p :: r, _, us, ks, ds, ws, e, h1, h2, h3, hl => by
    unfold keyPs at e
    obtain ⟨k, e1, e2⟩ := bnd e
    obtain ⟨q, e3, rfl⟩ := mp e2
    cases us with
    | nil => have := h1.length; simp at this
    | cons u us =>
      rw [List.map_cons, List.map_cons] at h1 h2
      unfold Imms at h1 h2
      obtain ⟨v1, r1, z1, i1, i2⟩ := h1
      obtain ⟨v2, r2, z2, j1, j2⟩ := h2
      obtain ⟨rfl, rfl⟩ := List.cons.inj z1
      obtain ⟨rfl, rfl⟩ := List.cons.inj z2
      obtain ⟨xs, w1, w2, w3⟩ := putK_imms (x := k) j1 h3 hl
      obtain ⟨kvs, y1, y2, y3⟩ := mrg_imms (ks := putK1 ks k) e3 i2 j2 w3 w2
      refine ⟨(k.key, u.2) :: kvs, ?_, by simp [y2], ?_⟩
      · rw [List.map_cons, ← y1]
        rw [← dk_key i1 e1]
      · unfold mergeK at y3 ⊢
        rw [List.foldl_cons, w1]
        exact y3
def gDisp (ps : List (D × D)) : Option O := (keyPs ps).bind fun qs => if ps.length ≤ 15 then some (.dct (mrgD [] [] qs).1 (mrgD [] [] qs).2) else none
theorem po_disp {k : Option Expr} {v : Expr} (h : PDs X pos (k :: ks) (v :: vs) fs) (hall : (k :: ks).all (·.isSome) = true := by rfl) (hl : (k :: ks).length = (v :: vs).length := by rfl) (h15 : (k :: ks).length ≤ 15 := by decide) : PO X (.Dict (k :: ks) (v :: vs) pos) (fun ev => (fs ev).bind gDisp) := by
  obtain ⟨ts, h1, h2⟩ := h
  refine ⟨_, pe_disp h1 hall hl (by simp) h15, fun F H ev σ W o S hf Q hQ => ?_⟩
  obtain ⟨ps, e1, e2⟩ := bnd hf
  unfold gDisp at e2
  obtain ⟨qs, e3, e4⟩ := bnd e2
  split at e4
  · rename_i hz
    cases e4
    intro p hp
    have c0 := chg_new (o := .dK []) S.le hp
    refine h2 F _ ev σ W ps (S.chg0 c0) e1 _ fun us F2 H2 c2 r1 r2 => ?_
    obtain ⟨kvs, y1, y2, xs, y3, y4, y5⟩ := mrg_imms (ks := []) (ds := []) (ws := []) e3 r1 r2 .nil rfl
    have at2 : H2 p = some (.dK []) := c2.kpt p _ (fun z => z) upd_same
    have f2 : F2 p = none := c2.kf p (fun z => z) (by rw [upd_same]; simp) (free_F S.le hp)
    refine ⟨at2, kvs, y1, by omega, ?_⟩
    have e : mergeK [] kvs = ((mrgD [] [] qs).1.map DK.key).zip xs := y3
    rw [e]
    have cc := c0.trans (c2.wide (W3 := fun a => a = p) fun _ z => z.elim)
    have cw := (cc.weak (W3 := noW) fun _ z => z.elim).wrD (o := .dK (((mrgD [] [] qs).1.map DK.key).zip xs)) hp f2 (nx_of at2)
    refine hQ _ F2 _ (fun a => a = p) ⟨cw.sm, cw.le, cw.kp, cw.kf, cw.th, fun a z => .inr (by rw [z]; exact hp)⟩ ?_
    unfold Rep
    exact ⟨p, xs, rfl, upd_same, f2, y4, y5, fun _ => Iff.rfl⟩
  · cases e4
end
section
variable {X : Cx}
end
section
variable {X : Cx} {e : Expr} {es : List Expr} {fa : Ev → Option D} {fs : Ev → Option (List (List Nat))} {pos : Pos}
end
end Kv
namespace Kv
open PySem PySem.Spec PyProof.Rows L2 ClX
section
variable {X : Cx} {k : Nat} {f : Addr} {fd : FuncData} {ps : List Str} {sp : Spg}
end
section
variable {X : Cx} {k : Nat} {c : Str} {st : Stmt} {ps : List Str} {g : Fm}
end
section
variable {X : Cx} {k : Nat} {c : Str} {st : Stmt} {ps : List Str} {g : Fm}
def PrimV (X : Cx) (r : R2) (g : D → D → Option O) : Prop := ∀ F H x y dx dy o, LeF F H → Tbs (gb X) F H → Imm (gb X) F dx x → Imm (gb X) F dy y → g dx dy = some o → ∀ Q : VK, Ret X F H o Q → r x y H Q
theorem PrimV.go {r : R2} {gg : D → D → Option O} {fa fb : Ev → Option D} (h : PrimV X r gg) {ta tb : TE} {F H : Hp} {ev : Ev} {σ : L2.St} {W : Addr → Prop} {o : O} (S : Sta (gb X) F H ev σ W)
    (ha : ∀ F H ev σ W d, Sta (gb X) F H ev σ W → fa ev = some d → ∀ Q : VK, (∀ v F' H', Chg F H noW F' H' noW → Imm (gb X) F' d v → Q v H') → ta σ H Q)
    (hb : ∀ F H ev σ W d, Sta (gb X) F H ev σ W → fb ev = some d → ∀ Q : VK, (∀ v F' H', Chg F H noW F' H' noW → Imm (gb X) F' d v → Q v H') → tb σ H Q)
    (hf : f2 gg fa fb ev = some o) (Q : VK) (hQ : Ret X F H o Q) : tOp r ta tb σ H Q := by
  obtain ⟨x, e1, e2⟩ := bnd hf
  obtain ⟨y, e3, e4⟩ := bnd e2
  refine ha F H ev σ W x S e1 _ fun v F1 H1 c1 v1 => hb F1 H1 ev σ W y (S.chg0 c1) e3 _ fun u F2 H2 c2 v2 => ?_
  exact h F2 H2 v u x y o c2.le ((c1.trans c2).tbs0 S.tb) (c2.imm v1) v2 e4 Q fun v' F' H' P c3 r3 => hQ v' F' H' P ((c1.trans c2).trans c3) r3
structure Go (K : PySem.W.Frag) (mg : Str → Option Value) (c : Str) : Prop where
  ex : ∃ C, mg c = some (.ref C) ∧ Cls K C ∧ (∀ t ∈ tyNs, PySem.W.kitOne K (.type t) (.ref C) = some false) ∧ PySem.W.findIn K (.ref C) "__class__" = some (some (.builtin "object.__class__")) ∧
    PySem.W.specialIn K (.builtin "object.__class__") "__get__" = some (some (.builtin "getset_descriptor.__get__")) ∧ PySem.W.takesIn K (.builtin "object.__class__") = some true ∧ PySem.W.mroIn K C (.type "object") = some true
end
end Kv
namespace Kv
open PySem PySem.Spec PyProof.Rows L2 ClX
section
variable {fa : List He.Fa} {fn : List He5.DefA} {ex : List (PySem.W.Frag → Bool)} {K : PySem.W.Frag}
theorem SaysV.both (c : SaysV fa fn ex K) : He5.SaysA fa fn K ∧ (ex.all fun f => f K) = true := by
  have c0 : obsV fa fn ex K = He5.valA fn := c
  have c1 : (obsV fa fn ex K).1 = true := by rw [c0]; rfl
  have c2 : (obsV fa fn ex K).2 = (He5.valA fn).2 := by rw [c0]
  obtain ⟨z1, z2⟩ := He.ba c1
  exact ⟨Prod.ext z1 c2, z2⟩
theorem SaysV.fact (c : SaysV fa fn ex K) (i : Nat) {f : He.Fa} (h : fa[i]? = some f := by rfl) : f.ok K = true := c.both.1.fact i h
theorem SaysV.more (c : SaysV fa fn ex K) (i : Nat) {f : PySem.W.Frag → Bool} (h : ex[i]? = some f := by rfl) : f K = true := List.all_eq_true.mp c.both.2 f (List.mem_of_getElem? h)
theorem SaysV.def_ (c : SaysV fa fn ex K) (i : Nat) {d : He5.DefA} (h : fn[i]? = some d := by rfl) : ∃ fd, L2.FunD K d.name d.qual d.params d.body d.scope (d.dvs K) (d.kws K) (d.at_ K) fd := c.both.1.def_ i h
end
end Kv
namespace Kv
open PySem PySem.Spec PyProof.Rows L2
abbrev dsp (f : Ev → Option (List (D × D))) : Ev → Option O := fun ev => (f ev).bind gDisp
end Kv
namespace Kv
open PySem PySem.Spec PyProof.Rows L2
end Kv
namespace Kv
open PySem PySem.Spec PyProof.Rows L2
section
variable {X : Cx} {e : Expr} {es : List Expr} {f : Ev → Option D} {fs : Ev → Option (List D)} {p : Pos}
end
def MWb (X : Cx) (e : Expr) (m : M Bool) : Prop := ∃ t : TT, PW X e t ∧ ∀ F H ev σ W b ev', Sta (gb X) F H ev σ W → m ev = some (b, ev') →
  ∀ Q : Bool → Hp → Prop, (∀ F' H' W', Chg F H W F' H' W' → Sta (gb X) F' H' ev' σ W' → Q b H') → t σ H Q
section
variable {X : Cx} {a b e : Expr} {rest : List Expr} {f f' : M Bool} {pos : Pos}
theorem MWb.tt (h : MWb X e f) : MTb X e f := by
  obtain ⟨t, h1, h2⟩ := h
  exact ⟨t, h1.pt, h2⟩
end
end Kv
namespace Kv
open PySem PySem.Spec PyProof.Rows L2
end Kv
namespace Kv
open PySem PySem.Spec PyProof.Rows L2
section
variable {X : Cx} {e : Expr} {es : List Expr} {m : M O} {md : M D} {ms : M (List O)} {tk : List (Option Nat)} {i : Nat} {y : Str} {py : Pos}
end
section
variable {X : Cx} {k n : Nat} {x : Str} {st : Stmt} {ps : List Str} {g : Fm} {e : Expr} {es : List Expr} {ms : M (List O)} {tk : List (Option Nat)} {p pos : Pos}
end
end Kv
namespace Kv
open PySem PySem.Spec PyProof.Rows L2
section
variable {prog : Program} {w : World} {A : Around} {R : Result → Shared → Prop} {I : Addr} {fp wr : List Addr} {n : Nat} {P : Nat → Value → Prop} {St : Nat → Heap → Prop} {Ok : Heap → Prop}
end
end Kv
namespace Kv
open PySem PySem.Spec PyProof.Rows L2
def D.isT : D → Option (List Int)
  | .tup ds => D.is ds
  | _ => none
end Kv
namespace Kv
open PySem PySem.Spec PyProof.Rows L2
section
variable {X : Cx} {o e : Expr} {fa fb : Ev → Option D} {apos cpos pos : Pos} {name : Str} {id : String} {r : V → List V → Hp → VK → Prop} {to : TE} {t : TA}
end
section
variable {X : Cx} {i : Nat} {y : Str} {py pos cpos apos : Pos} {e : Expr} {ms : M (List D)}
end
section
variable {X : Cx} {io : List Nat} {i : Nat} {y : Str} {py pos : Pos} {e : Expr} {f : Ev → Option D}
end
end Kv
namespace Kv
open PySem PySem.Spec PyProof.Rows L2
section
variable {X : Cx}
end
end Kv
namespace Kv
open PySem PySem.Spec PyProof.Rows L2
section
variable {G : Gb} {F H : Hp}
theorem Reps.len : ∀ {os : List O} {vs : List V} {P : Addr → Prop}, Reps G F H os vs P → vs.length = os.length
  | [], vs, P, h => by
    unfold Reps at h
    rw [h.1]
    rfl
  | o :: os, vs, P, h => by
    unfold Reps at h
    obtain ⟨v, r, P1, P2, rfl, _, r2, _⟩ := h
    rw [List.length_cons, List.length_cons, Reps.len r2]
end
section
variable {X : Cx} {i : Nat} {c f y : Str} {py p1 p2 apos cpos : Pos} {e ie : Expr} {fi fe : Ev → Option D}
end
end Kv
namespace Kv
open PySem PySem.Spec PyProof.Rows L2
section
variable {X : Cx} {tg iter : Expr} {scope : Scope} {vs : List Nat} {pos p : Pos} {fi : Ev → Option (List D)} {tf : TF}
end
end Kv
namespace Kv
open PySem PySem.Spec PyProof.Rows L2
section
variable {X : Cx} {io : List Nat} {i j l : Nat} {x y z : Str} {px py pz pt pt2 pos : Pos} {a b c : Expr} {ms : M (List O)} {tk : List (Option Nat)} {kt k2 : ExprContext}
end
section
variable {P : Program} {w : World} {K : PySem.W.Frag} {mg : Str → Option Value} {base : Heap} {k n : Nat} {f : Addr} {fd : FuncData} {ps : List Str} {G : Gb}
end
end Kv
namespace Kv
open PySem PySem.Spec PyProof.Rows L2
section
variable {X : Cx} {io : List Nat} {i j l : Nat} {x y z : Str} {px py pz pt pt2 pos : Pos} {a b c : Expr} {ms : M (List O)} {tk : List (Option Nat)} {kt k2 : ExprContext}
end
end Kv
namespace Kv
open PySem PySem.Spec PyProof.Rows L2
section
variable {X : Cx} {a b e : Expr} {pos : Pos} {fa fb : Ev → Option D}
end
end Kv
namespace Kv
open PySem PySem.Spec PyProof.Rows L2
section
variable {X : Cx} {k n j i : Nat} {c m f y : Str} {st : Stmt} {ps ks : List Str} {π : List Nat} {g : Fm} {e : Expr} {es : List Expr} {kws : List Keyword} {ms : M (List D)} {fs : Ev → Option (List D)} {py apos pos : Pos} {pl : Sem Bool}
end
end Kv
namespace Kv
open PySem PySem.Spec PyProof.Rows L2
section
variable {X : Cx} {a b c : Expr} {fa fb fc : Ev → Option D}
end
section
variable {X : Cx} {o : Expr} {p pos apos mpos : Pos} {td : TE} {fa : Ev → Option D}
end
end Kv
namespace Kv
open PySem PySem.Spec PyProof.Rows L2
open Sem (wp)
def noG (fs : List Frame) : Prop := ∀ F ∈ fs, ∃ k h g l c p kp, F = .ret k h g l c p kp
theorem noG.nil : noG [] := fun _ h => nomatch h
theorem noG.cons {k h g l c p kp fs} (x : noG fs) : noG (.ret k h g l c p kp :: fs) := fun F hF => by
  rcases List.mem_cons.mp hF with rfl | hF
  · exact ⟨_, _, _, _, _, _, _, rfl⟩
  · exact x F hF
theorem noG.tail {F : Frame} {fs : List Frame} (x : noG (F :: fs)) : noG fs := fun G h => x G (List.mem_cons_of_mem _ h)
theorem noG.append {fs gs : List Frame} (x : noG fs) (y : noG gs) : noG (fs ++ gs) := fun F hF => (List.mem_append.mp hF).elim (x F) (y F)
theorem noG.split : ∀ {fs : List Frame}, noG fs → splitAtGen fs = none
  | [], _ => rfl
  | F :: fs, x => by
    obtain ⟨k, h, g, l, c, p, kp, rfl⟩ := x F (List.mem_cons_self ..)
    show (splitAtGen fs).map _ = none
    rw [noG.split x.tail]
    rfl
def pz : GenState → GenState
  | .suspended _ l c p fs cl => .suspended (fun _ => .unsupported "asleep") l c p fs cl
  | x => x
theorem pz_seen (x : GenState) : (pz x).seen = x.seen := by cases x <;> rfl
def wakeG (G0 : Nat → Option GenState) (a : Array GenState) : Array GenState := a.mapIdx fun i x => (G0 i).getD x
def wakeS (G0 : Nat → Option GenState) (s : Shared) : Shared := { s with gens := wakeG G0 s.gens }
theorem wakeG_get (G0 : Nat → Option GenState) (a : Array GenState) (i : Nat) : (wakeG G0 a)[i]? = a[i]?.map fun x => (G0 i).getD x := by
  unfold wakeG
  rw [Array.getElem?_mapIdx]
theorem wakeG_size (G0 : Nat → Option GenState) (a : Array GenState) : (wakeG G0 a).size = a.size := by
  unfold wakeG
  rw [Array.size_mapIdx]
structure Asleep (G0 : Nat → Option GenState) (a : Array GenState) : Prop where
  here : ∀ i x, G0 i = some x → a[i]? = some (pz x)
  sus : ∀ i x, G0 i = some x → ∃ k l c p fs cl, x = .suspended k l c p fs cl
  oth : ∀ i k l c p fs cl, G0 i = none → a[i]? = some (.suspended k l c p fs cl) → noG fs
theorem wakeG_push {G0 : Nat → Option GenState} {a : Array GenState} (h : Asleep G0 a) (x : GenState) : wakeG G0 (a.push x) = (wakeG G0 a).push x := by
  apply Array.ext_getElem?
  intro i
  rw [wakeG_get, Array.getElem?_push, Array.getElem?_push, wakeG_size]
  split
  · rename_i e
    subst e
    have : G0 a.size = none := by
      cases q : G0 a.size with
      | none => rfl
      | some y =>
        have := h.here _ _ q
        rw [Array.getElem?_eq_none (Nat.le_refl _)] at this
        cases this
    rw [this]
    rfl
  · rw [wakeG_get]
theorem wakeG_set {G0 : Nat → Option GenState} {a : Array GenState} {g : Nat} (h : G0 g = none) (x : GenState) : wakeG G0 (a.setIfInBounds g x) = (wakeG G0 a).setIfInBounds g x := by
  apply Array.ext_getElem?
  intro i
  rw [wakeG_get, Array.getElem?_setIfInBounds, Array.getElem?_setIfInBounds, wakeG_size, wakeG_get]
  by_cases e : g = i
  · subst e
    rw [if_pos rfl, if_pos rfl, h]
    split <;> rfl
  · rw [if_neg e, if_neg e]
theorem Asleep.push {G0 : Nat → Option GenState} {a : Array GenState} (h : Asleep G0 a) (c : Code) : Asleep G0 (a.push (.fresh c)) := by
  refine ⟨fun i x q => ?_, h.sus, fun i k l c' p fs cl q q2 => ?_⟩
  · have := h.here i x q
    have hl := (Array.getElem?_eq_some_iff.mp this).1
    rw [Array.getElem?_push, if_neg (by omega)]
    exact this
  · rw [Array.getElem?_push] at q2
    split at q2
    · cases q2
    · exact h.oth i k l c' p fs cl q q2
theorem Asleep.set {G0 : Nat → Option GenState} {a : Array GenState} (h : Asleep G0 a) {g : Nat} (hg : G0 g = none) {x : GenState} (hx : ∀ k l c p fs cl, x = .suspended k l c p fs cl → noG fs) : Asleep G0 (a.setIfInBounds g x) := by
  refine ⟨fun i y q => ?_, h.sus, fun i k l c' p fs cl q q2 => ?_⟩
  · rw [Array.getElem?_setIfInBounds]
    by_cases e : g = i
    · subst e
      rw [hg] at q
      cases q
    · rw [if_neg e]
      exact h.here i y q
  · rw [Array.getElem?_setIfInBounds] at q2
    by_cases e : g = i
    · subst e
      rw [if_pos rfl] at q2
      split at q2
      · cases q2
        exact hx _ _ _ _ _ _ rfl
      · cases q2
    · rw [if_neg e] at q2
      exact h.oth i k l c' p fs cl q q2
theorem Asleep.not {G0 : Nat → Option GenState} {a : Array GenState} (h : Asleep G0 a) {g : Nat} {x : GenState} (q : a[g]? = some x) (hx : ∀ k l c p fs cl, x ≠ .suspended k l c p fs cl) : G0 g = none := by
  cases e : G0 g with
  | none => rfl
  | some y =>
    have := h.here _ _ e
    rw [q] at this
    obtain ⟨k, l, c, p, fs, cl, rfl⟩ := h.sus _ _ e
    cases this
    exact absurd rfl (hx _ _ _ _ _ _)
theorem wakeG_at {G0 : Nat → Option GenState} {a : Array GenState} {g : Nat} {x : GenState} (h : G0 g = none) (q : a[g]? = some x) : (wakeG G0 a)[g]? = some x := by
  rw [wakeG_get, q, h]
  rfl
theorem no_run {M : Model} {Γ : PySem.Ctx} {p : Pos} {t : Sem PySem.Fin} {fs : List Frame} {s s' : Shared} {e : End} (h : Runs M Γ p t fs s e s') : ∀ w, t ≠ .unsupported w := by
  induction h with
  | segRet _ _ ih _ => exact ih
  | segGen _ _ ih _ => exact ih
  | segSuspOut _ _ ih => exact ih
  | segSuspGen _ _ _ _ ih _ => exact ih
  | _ => intro w z; cases z
abbrev susG (e : End) : Prop := ∀ v g l k c p fs, e = .susp v g l k c p fs → noG fs
theorem susG_gen {e : End} (h : susG e) : ∀ k l c p fs cl, e.genState = .suspended k l c p fs cl → noG fs := by
  intro k l c p fs cl q
  cases e with
  | ret r => cases q
  | susp v g l k c p fs => cases q; exact h _ _ _ _ _ _ _ rfl
theorem susG_ret {r : Result} : susG (.ret r) := fun _ _ _ _ _ _ _ z => nomatch z
theorem wakeS_set {G0 : Nat → Option GenState} {s : Shared} {g : Nat} {x : GenState} (hg : G0 g = none) : wakeS G0 (s.setGen g x) = (wakeS G0 s).setGen g x := by
  show Shared.mk _ (wakeG G0 (s.gens.setIfInBounds g x)) _ _ _ = _
  rw [wakeG_set hg]
  rfl
theorem fr_genState {M : Model} {G0 : Nat → Option GenState} {Γ : PySem.Ctx} {p : Pos} {g : Nat} {st : GenState} {k : GenStatus × Option (List (Code × Pos)) → Sem PySem.Fin} {s s' : Shared} {e : End} (a : Asleep G0 s.gens) (q : s.gens[g]? = some st) (z : Runs M Γ p (k st.seen) [] (wakeS G0 s) e s') : Runs M Γ p (.genState g k) [] (wakeS G0 s) e s' := by
  cases hg : G0 g with
  | none => exact .genState (wakeG_at hg q) z
  | some r =>
    have := a.here _ _ hg
    rw [q] at this
    cases this
    rw [pz_seen] at z
    refine .genState (st := r) ?_ z
    show (wakeG G0 s.gens)[g]? = _
    rw [wakeG_get, q, hg]
    rfl
theorem wakeS_push {G0 : Nat → Option GenState} {s : Shared} {c : Code} (a : Asleep G0 s.gens) : (wakeS G0 { s with gens := s.gens.push (.fresh c) }) = { wakeS G0 s with gens := (wakeS G0 s).gens.push (.fresh c) } := by
  show Shared.mk _ (wakeG G0 (s.gens.push (.fresh c))) _ _ _ = _
  rw [wakeG_push a]
  rfl
theorem fr_newGen {M : Model} {G0 : Nat → Option GenState} {Γ : PySem.Ctx} {p : Pos} {c : Code} {k : Nat → Sem PySem.Fin} {s s' : Shared} {e : End} (a : Asleep G0 s.gens) (z : Runs M Γ p (k s.gens.size) [] (wakeS G0 { s with gens := s.gens.push (.fresh c) }) e s') : Runs M Γ p (.newGen c k) [] (wakeS G0 s) e s' := by
  refine .newGen ?_
  have e1 : (wakeS G0 s).gens.size = s.gens.size := wakeG_size _ _
  rw [e1, ← wakeS_push a]
  exact z
theorem fr_susp {M : Model} {G0 : Nat → Option GenState} {Γ : PySem.Ctx} {p p₀ : Pos} {g : Nat} {k₀ : Resume → Sem PySem.Fin} {l₀ : List Value} {c₀ : Code} {fs fs' : List Frame} {cl : Bool} {r : Resume} {s s1 s2 : Shared} {e : End} (a : Asleep G0 s.gens) (q : s.gens[g]? = some (.suspended k₀ l₀ c₀ p₀ fs cl)) (h1 : Runs M Γ p (k₀ r) fs' s1 e s2) : G0 g = none := by
  cases hg : G0 g with
  | none => rfl
  | some r' =>
    have := a.here _ _ hg
    rw [q] at this
    obtain ⟨k, l, c, p, fs, cl, rfl⟩ := a.sus _ _ hg
    cases this
    exact absurd rfl (no_run h1 _)
theorem frame {M : Model} {G0 : Nat → Option GenState} {Γ : PySem.Ctx} {p : Pos} {t : Sem PySem.Fin} {fs : List Frame} {s s' : Shared} {e : End} (h : Runs M Γ p t fs s e s') : noG fs → Asleep G0 s.gens → Asleep G0 s'.gens ∧ susG e ∧ Runs M Γ p t fs (wakeS G0 s) e (wakeS G0 s') := by
  induction h with
  | done => exact fun _ a => ⟨a, susG_ret, .done⟩
  | raise => exact fun _ a => ⟨a, susG_ret, .raise⟩
  | again q _ ih => exact fun n a => let ⟨x, y, z⟩ := ih n a; ⟨x, y, .again q z⟩
  | rule _ ih => exact fun n a => let ⟨x, y, z⟩ := ih n a; ⟨x, y, .rule z⟩
  | «at» _ ih => exact fun n a => let ⟨x, y, z⟩ := ih n a; ⟨x, y, .at z⟩
  | load q _ ih => exact fun n a => let ⟨x, y, z⟩ := ih n a; ⟨x, y, .load q z⟩
  | update q _ ih => exact fun n a => let ⟨x, y, z⟩ := ih n a; ⟨x, y, .update q z⟩
  | loadIfAlive _ ih => exact fun n a => let ⟨x, y, z⟩ := ih n a; ⟨x, y, .loadIfAlive z⟩
  | point _ ih => exact fun n a => let ⟨x, y, z⟩ := ih n a; ⟨x, y, .point z⟩
  | alloc _ ih => exact fun n a => let ⟨x, y, z⟩ := ih n a; ⟨x, y, .alloc z⟩
  | fresh _ ih => exact fun n a => let ⟨x, y, z⟩ := ih n a; ⟨x, y, .fresh z⟩
  | ask _ ih => exact fun n a => let ⟨x, y, z⟩ := ih n a; ⟨x, y, .ask z⟩
  | choose q _ ih => exact fun n a => let ⟨x, y, z⟩ := ih n a; ⟨x, y, .choose q z⟩
  | os _ ih => exact fun n a => let ⟨x, y, z⟩ := ih n a; ⟨x, y, .os z⟩
  | handled _ ih => exact fun n a => let ⟨x, y, z⟩ := ih n a; ⟨x, y, .handled z⟩
  | genState q _ ih =>
    intro n a
    obtain ⟨x, y, z⟩ := ih n a
    exact ⟨x, y, fr_genState a q z⟩
  | stack _ ih => exact fun n a => let ⟨x, y, z⟩ := ih n a; ⟨x, y, .stack z⟩
  | thread _ ih => exact fun n a => let ⟨x, y, z⟩ := ih n a; ⟨x, y, .thread z⟩
  | newGen _ ih =>
    intro n a
    obtain ⟨x, y, z⟩ := ih n (a.push _)
    exact ⟨x, y, fr_newGen a z⟩
  | call _ _ ih1 ih2 =>
    intro n a
    obtain ⟨x, y, z⟩ := ih1 noG.nil a
    obtain ⟨x2, y2, z2⟩ := ih2 n x
    exact ⟨x2, y2, .call z z2⟩
  | callSusp _ ih =>
    intro n a
    obtain ⟨x, y, z⟩ := ih noG.nil a
    refine ⟨x, fun _ _ _ _ _ _ _ q => ?_, .callSusp z⟩
    cases q
    exact (y _ _ _ _ _ _ _ rfl).append (noG.cons noG.nil)
  | yield =>
    intro n a
    exact ⟨a, fun _ _ _ _ _ _ _ q => by cases q; exact noG.nil, .yield⟩
  | resumeFresh q _ hq _ ih1 ih2 =>
    intro n a
    have hg := a.not q (fun _ _ _ _ _ _ z => by cases z)
    obtain ⟨x, y, z⟩ := ih1 noG.nil (a.set hg fun _ _ _ _ _ _ z => by cases z)
    obtain ⟨x2, y2, z2⟩ := ih2 n (x.set hg (susG_gen y))
    rw [wakeS_set hg] at z z2
    exact ⟨x2, y2, .resumeFresh (wakeG_at hg q) z hq z2⟩
  | resumeSuspended q h1 hq _ ih1 ih2 =>
    intro n a
    have hg := fr_susp a q h1
    have hn := a.oth _ _ _ _ _ _ _ hg q
    obtain ⟨x, y, z⟩ := ih1 hn (a.set hg fun _ _ _ _ _ _ z => by cases z)
    obtain ⟨x2, y2, z2⟩ := ih2 n (x.set hg (susG_gen y))
    rw [wakeS_set hg] at z z2
    exact ⟨x2, y2, .resumeSuspended (wakeG_at hg q) z hq z2⟩
  | resumeJustStarted q hv _ ih =>
    intro n a
    obtain ⟨x, y, z⟩ := ih n a
    exact ⟨x, y, .resumeJustStarted (wakeG_at (a.not q (fun _ _ _ _ _ _ z => by cases z)) q) hv z⟩
  | resumeThrowFresh q _ ih =>
    intro n a
    have hg := a.not q (fun _ _ _ _ _ _ z => by cases z)
    obtain ⟨x, y, z⟩ := ih n (a.set hg fun _ _ _ _ _ _ z => by cases z)
    rw [wakeS_set hg] at z
    exact ⟨x, y, .resumeThrowFresh (wakeG_at hg q) z⟩
  | resumeRunning q _ ih =>
    intro n a
    obtain ⟨x, y, z⟩ := ih n a
    exact ⟨x, y, .resumeRunning (wakeG_at (a.not q (fun _ _ _ _ _ _ z => by cases z)) q) z⟩
  | resumeFinished q _ ih =>
    intro n a
    obtain ⟨x, y, z⟩ := ih n a
    exact ⟨x, y, .resumeFinished (wakeG_at (a.not q (fun _ _ _ _ _ _ z => by cases z)) q) z⟩
  | segRet _ _ ih1 ih2 =>
    intro n a
    obtain ⟨x, y, z⟩ := ih1 noG.nil a
    obtain ⟨x2, y2, z2⟩ := ih2 n.tail x
    exact ⟨x2, y2, .segRet z z2⟩
  | segGen _ _ _ _ =>
    intro n a
    obtain ⟨_, _, _, _, _, _, _, q⟩ := n _ (List.mem_cons_self ..)
    cases q
  | segSuspOut q _ ih =>
    intro n a
    obtain ⟨x, y, z⟩ := ih noG.nil a
    refine ⟨x, fun _ _ _ _ _ _ _ e => ?_, .segSuspOut q z⟩
    cases e
    exact (y _ _ _ _ _ _ _ rfl).append n
  | segSuspGen q _ _ _ _ _ =>
    intro n a
    rw [n.split] at q
    cases q
end Kv
namespace Kv
open PySem PySem.Spec PyProof.Rows L2
open Sem (wp)
def Kept (a b : Array GenState) : Prop := ∀ (i : Nat) k l c p fs cl, a[i]? = some (GenState.suspended k l c p fs cl) → b[i]? = some (GenState.suspended k l c p fs cl)
end Kv
namespace Kv
open PySem PySem.Spec PyProof.Rows L2 GenW
abbrev never : Value → Shared → Prop := fun _ _ => False
def Ru (M : Model) (A : Around) (F : End → Shared → Prop) (c : Code) (t : Sem PySem.Fin) (fs : List Frame) (s : Shared) : Prop :=
  ∀ Γ p, Γ.code = c → Γ.Woken A → ∃ e s', Runs M Γ p t fs s e s' ∧ F e s'
section
variable {M : Model} {A : Around} {F : End → Shared → Prop} {s : Shared} {c : Code} {fs : List Frame}
theorem ru_wrap {α : Type} {m : Sem α} {K : α → Sem PySem.Fin} {H : Value → Sem PySem.Fin} {gd lv} (h : wpAny M (A.over c fs) m (fun a s' => Ru M A F c (K a) fs s') never s) : Ru M A F c (m.wrap K H gd lv) fs s := by
  rintro Γ p rfl hΓ
  exact runs_wrap_of_wp K H gd lv m (h (Γ.over fs) p (hΓ.over fs)) (fun a p' s' h' => h' Γ p' rfl hΓ) (fun _ _ _ h' => h'.elim)
theorem ru_bind {α β : Type} {m : Sem α} {K : α → Sem β} {K' : β → Sem PySem.Fin} {H' : Value → Sem PySem.Fin} {gd lv} (h : wpAny M (A.over c fs) m (fun a s' => Ru M A F c ((K a).wrap K' H' gd lv) fs s') never s) : Ru M A F c ((m >>= K).wrap K' H' gd lv) fs s := by
  rw [Sem.bind_eq_wrap', Sem.wrap_wrap]
  exact ru_wrap h
theorem ru_call {c' : Code} {h g l} {k : Result → Sem PySem.Fin} (hc : ∀ p, Ru M A F c' (M.den c') (.ret k h g l c p [] :: fs) s) : Ru M A F c (.call c' h g l k) fs s := by
  rintro Γ p rfl hΓ
  obtain ⟨e, s', hr, he⟩ := hc p (Γ.goto c') p rfl (hΓ.goto c')
  exact ⟨e, s', runs_call_seg hr, he⟩
theorem ru_leaf {k h g l c₁ p₁ kp} (r : Result) (hk : Ru M A F c₁ (k r) fs s) : Ru M A F c (leafOf r) (.ret k h g l c₁ p₁ kp :: fs) s := by
  rintro Γ p rfl hΓ
  obtain ⟨e, s', hr, he⟩ := hk (Γ.goto c₁) p₁ rfl (hΓ.goto c₁)
  exact ⟨e, s', Runs.pop r hr, he⟩
theorem ru_again {c' : Code} (hq : c'.quiet = true) (hc : Ru M A F c' (M.den c') fs s) : Ru M A F c (.pure (.again c')) fs s := by
  rintro Γ p rfl hΓ
  obtain ⟨e, s', hr, he⟩ := hc (Γ.goto c') p rfl (hΓ.goto c')
  exact ⟨e, s', Runs.head (c₁ := c') (fun _ _ x => .again hq x) hr, he⟩
theorem ru_yield {v g l} {k : Resume → Sem PySem.Fin} (hfs : splitAtGen fs = none) (h : ∀ p, F (.susp v g l k c p fs) s) : Ru M A F c (.yield v g l k) fs s := by
  rintro Γ p rfl _
  exact ⟨_, s, Runs.yield' fs hfs, h p⟩
theorem Ru.imp {F' : End → Shared → Prop} {t : Sem PySem.Fin} (h : Ru M A F c t fs s) (hF : ∀ e s', F e s' → F' e s') : Ru M A F' c t fs s := fun Γ p hc hΓ =>
  let ⟨e, s', hr, he⟩ := h Γ p hc hΓ
  ⟨e, s', hr, hF e s' he⟩
end
section
variable {P : Program} {w : World} {A : Around} {F : End → Shared → Prop} {s : Shared} {c : Code} {fs : List Frame} {env : Env} {Kf : Flow → Sem PySem.Fin} {J : Value → Sem PySem.Fin} {gd : Bool → Bool} {lv : List Value → List Value}
theorem sg_nil (h : Ru (model P w) A F c (Kf .next) fs s) : Ru (model P w) A F c ((execs [] env).wrap Kf J gd lv) fs s := h
theorem sg_one {st : Stmt} (h : Ru (model P w) A F c ((exec st env).wrap (fun f => match f with | .next => (execs [] env).wrap Kf J gd lv | f => Kf f) J gd lv) fs s) : Ru (model P w) A F c ((execs [st] env).wrap Kf J gd lv) fs s := by
  rw [execs_cons_wrap]
  exact h
abbrev forBack (env : Env) (Kf : Flow → Sem PySem.Fin) (J : Value → Sem PySem.Fin) (gd : Bool → Bool) (lv : List Value → List Value) : Result → Sem PySem.Fin := fun r => ((match r with | .ok f => (.pure f : Sem Flow) | .error e => .raise e).onRaise fun (x : Value) => do
        if (← field x 1) == Value.none then unsupported "frame.own-activation:exception-without-traceback"
        setFlight x env.frame).wrap Kf J gd lv
theorem sg_for {x : Str} {px : Pos} {iter : Expr} {body : List Stmt} {pos : Pos} (hs : ∀ v, foldedSetIterable iter env v = pure v)
    (h : wpAny (model P w) (A.over c fs) (eval iter env) (fun xv s1 => wpAny (model P w) (A.over c fs) (pyIter xv) (fun it s2 => ∀ p, Ru (model P w) A F (.forLoop (.Name x px) it body [] env) ((model P w).den (.forLoop (.Name x px) it body [] env))
      (.ret (forBack env Kf J gd lv) none (gd false) (lv []) c p [] :: fs) s2) never s1) never s) :
    Ru (model P w) A F c ((exec (.For (.Name x px) iter body [] pos) env).wrap Kf J gd lv) fs s := by
  rw [exec_For]
  refine ru_bind (wpAny_standAt ?_)
  refine ru_bind (wpAny_mono h (fun xv s1 h1 => ?_) fun _ _ z => z.elim)
  refine ru_bind (wpAny_of_eq (hs xv) ?_)
  refine ru_bind (wpAny_standAt ?_)
  refine ru_bind (wpAny_holding (wpAny_mono h1 (fun it s2 h2 => ?_) fun _ _ z => z.elim))
  exact ru_call h2
abbrev forGo (C : Code) : Flow → Sem PySem.Fin := fun f => match f with
  | .next | .cont => .pure (.again C)
  | .brk => .pure (.done .next)
  | .ret v => .pure (.done (.ret v))
theorem sg_loop {x : Str} {px : Pos} {it : Value} {body : List Stmt} (h : wpAny (model P w) (A.over (.forLoop (.Name x px) it body [] env) fs) (pyNext it) (fun r s1 => match r with
      | none => Ru (model P w) A F (.block [] env) (leafOf (.ok .next)) fs s1
      | some v => wpAny (model P w) (A.over (.forLoop (.Name x px) it body [] env) fs) (storeName env x v) (fun _ s2 => ∀ JJ, Ru (model P w) A F (.forLoop (.Name x px) it body [] env) ((execs body env).wrap (forGo (.forLoop (.Name x px) it body [] env)) JJ id id) fs s2) never s1) never s) :
    Ru (model P w) A F (.forLoop (.Name x px) it body [] env) ((model P w).den (.forLoop (.Name x px) it body [] env)) fs s := by
  show Ru _ A F _ ((forTurn (.Name x px) it body [] env).onRaise (fun x => do noteFrame x env; theTreesLotGoes x)) fs s
  rw [Sem.onRaise_eq_wrap]
  unfold forTurn
  refine ru_bind (wpAny_standAt ?_)
  refine ru_bind (wpAny_onRaise (wpAny_mono h (fun r s1 h1 => ?_) fun _ _ z => z.elim))
  cases r with
  | none => exact ru_again rfl h1
  | some v =>
    refine ru_bind (wpAny_pure ?_)
    refine ru_bind (wpAny_assign_Name (wpAny_mono h1 (fun _ s2 h2 => ?_) fun _ _ z => z.elim))
    rw [Sem.bind_eq_wrap', Sem.wrap_wrap]
    rw [Sem.wrap_congr (execs body env) _ _ (K' := forGo (.forLoop (.Name x px) it body [] env)) (H' := fun e => (Sem.raise e : Sem PySem.Fin).wrap .pure (fun e => ((do noteFrame e env; theTreesLotGoes e : Sem Unit).bind fun _ => .raise e)) id id) (fun f => by cases f <;> rfl) (fun e => rfl)]
    exact h2 _
theorem sg_yield {e : Expr} {yp pos : Pos} (hfs : splitAtGen fs = none)
    (h : wpAny (model P w) (A.over c fs) (eval e env) (fun v s1 => ∀ l p1 (k : Resume → Sem PySem.Fin), (∀ (F1 : End → Shared → Prop) s2, Ru (model P w) A F1 c (Kf .next) fs s2 → Ru (model P w) A F1 c (k (.send .none)) fs s2) → F (.susp v (gd false) l k c p1 fs) s1) never s)
    (hco : env.scope.isCoroutine = false := by rfl) (hi : interactive env = false := by rfl) :
    Ru (model P w) A F c ((exec (.Expr (.Yield (some e) yp) pos) env).wrap Kf J gd lv) fs s := by
  rw [exec_Expr env _ pos hi rfl]
  have hy : ∀ v, yieldOut env v = yieldValue v := fun v => by simp only [yieldOut, hco, Bool.false_eq_true, if_false]
  show Ru _ A F c ((standAt pos >>= fun _ => ((eval e env >>= fun v => (standAt yp >>= fun _ => yieldOut env v)) >>= fun x => dropValue (.Yield (some e) yp) pos x)).wrap Kf J gd lv) fs s
  simp only [hy]
  refine ru_bind (wpAny_standAt ?_)
  rw [Sem.bind_eq_wrap', Sem.bind_eq_wrap', Sem.wrap_wrap, Sem.wrap_wrap]
  refine ru_wrap (wpAny_mono h (fun v s' h' => ?_) fun _ _ z => z.elim)
  refine ru_bind (wpAny_standAt ?_)
  exact ru_yield hfs fun p => h' _ p _ fun _ _ z => z
end
end Kv
namespace Kv
open PySem PySem.Spec PyProof.Rows L2 GenW
structure Evo (Ro : Heap → Prop) (wr : List Addr) (og : List Nat) (s s' : Shared) : Prop where
  heap : ∀ b ∈ wr, ∀ o, s.heap.get? b = some o → s'.heap.get? b = some o
  gens : ∀ i ∈ og, s'.gens[i]? = s.gens[i]?
  ro : Ro s'.heap
  bare : AllBare s'.gens
  sz : s.heap.objs.size ≤ s'.heap.objs.size
  gsz : s.gens.size ≤ s'.gens.size
abbrev Liv (h : Heap) (b : Addr) : Prop := ∃ o, h.get? b = some o ∧ ∀ v, o.data ≠ .cell v
structure Stp (lo : Nat) (wr : List Addr) (s : Shared) (wr' : List Addr) (s' : Shared) : Prop where
  keep : ∀ b o, b ∉ wr → s.heap.get? b = some o → s'.heap.get? b = some o
  own : ∀ b ∈ wr', b ∈ wr ∨ s.heap.objs.size ≤ b
  low : ∀ b ∈ wr', lo ≤ b
  os : s'.os = s.os
  bare : AllBare s'.gens
  sz : s.heap.objs.size ≤ s'.heap.objs.size
  gsz : s.gens.size ≤ s'.gens.size
  live : ∀ b ∈ wr', Liv s'.heap b
theorem Evo.trans {Ro : Heap → Prop} {wr : List Addr} {og : List Nat} {s s1 s2 : Shared} (a : Evo Ro wr og s s1) (b : Evo Ro wr og s1 s2) : Evo Ro wr og s s2 :=
  ⟨fun x hx o e => b.heap x hx o (a.heap x hx o e), fun i hi => (b.gens i hi).trans (a.gens i hi), b.ro, b.bare, Nat.le_trans a.sz b.sz, Nat.le_trans a.gsz b.gsz⟩
theorem Evo.sub {Ro : Heap → Prop} {wr wr' : List Addr} {og og' : List Nat} {s s1 : Shared} (a : Evo Ro wr og s s1) (h : ∀ b ∈ wr', b ∈ wr) (h' : ∀ i ∈ og', i ∈ og) : Evo Ro wr' og' s s1 :=
  ⟨fun x hx o e => a.heap x (h x hx) o e, fun i hi => a.gens i (h' i hi), a.ro, a.bare, a.sz, a.gsz⟩
abbrev Slp (s : Shared) (i : Nat) : Prop := ∃ k l c p fs cl, s.gens[i]? = some (GenState.suspended k l c p fs cl)
def TupAt (lo : Nat) (h : Heap) (v : Value) (ds : List V) : Prop := ∃ (t : Addr) (its : List Value), v = .ref t ∧ lo ≤ t ∧ (IsTup h t its.toArray ∧ ∃ o, h.get? t = some o ∧ o.dict = none) ∧ Vals ds its
def GEn (M : Model) (A : Around) (Ro : Heap → Prop) (lo : Nat) (a : Addr) (g : Nat) : List (List V) → List Addr → Shared → End → Shared → Prop
  | [] => fun wr s₀ e s => match e with
    | .ret r => r = .ok (.ret .none) ∧ Stp lo wr s₀ [] s
    | .susp .. => False
  | ds :: L => fun wr s₀ e s => match e with
    | .ret _ => False
    | .susp v g₀ _ k c _ fs => (g₀ || fs.any Frame.guarded) = false ∧ ∃ wr' og, TupAt s₀.heap.objs.size s.heap v ds ∧ (∀ b ∈ wr', v ≠ Value.ref b) ∧ Stp lo wr s₀ wr' s ∧ a ∈ wr' ∧ s.heap.IsGen a g ∧ (∀ i ∈ og, g < i ∧ Slp s i) ∧
      ∀ s'', Evo Ro wr' og s s'' → Ru M A (GEn M A Ro lo a g L wr' s'') c (k (.send .none)) fs s''
section
variable {M : Model}
end
section
variable {P : Program} {w : World} {A : Around} {E : Value → Shared → Prop} {s : Shared}
end
def Rdy (P : Program) (w : World) (A : Around) (Ro : Heap → Prop) (lo : Nat) (a : Addr) (g : Nat) : List (List V) → List Addr → List Nat → Shared → Prop
  | [] => fun wr og s => ∀ s1, Evo Ro wr og s s1 → wpAny (model P w) A (pyNext (.ref a)) (fun r s2 => r = none ∧ Stp lo wr s1 [] s2) never s1
  | ds :: L => fun wr og s => ∀ s1, Evo Ro wr og s s1 → wpAny (model P w) A (pyNext (.ref a)) (fun r s2 => ∃ v wr2 og2, r = some v ∧ TupAt s1.heap.objs.size s2.heap v ds ∧ (∀ b ∈ wr2, v ≠ Value.ref b) ∧ Stp lo wr s1 wr2 s2 ∧ (∀ i ∈ og2, g ≤ i ∧ Slp s2 i) ∧ Rdy P w A Ro lo a g L wr2 og2 s2) never s1
theorem Rdy.evo {P : Program} {w : World} {A : Around} {Ro : Heap → Prop} {lo : Nat} {a : Addr} {g : Nat} {L : List (List V)} {wr : List Addr} {og : List Nat} {s s' : Shared} (h : Rdy P w A Ro lo a g L wr og s) (e : Evo Ro wr og s s') : Rdy P w A Ro lo a g L wr og s' := by
  cases L with
  | nil => exact fun s1 e1 => h s1 (e.trans e1)
  | cons ds L => exact fun s1 e1 => h s1 (e.trans e1)
end Kv
namespace Kv
open PySem PySem.Spec PyProof.Rows L2 GenW
open Sem (wp)
theorem runs_hsz {M : Model} {Γ : PySem.Ctx} {p : Pos} {t : Sem PySem.Fin} {fs : List Frame} {s s' : Shared} {e : End} (h : Runs M Γ p t fs s e s') : s.heap.objs.size ≤ s'.heap.objs.size := by
  induction h <;> (try simp only [Shared.setGen, Heap.size_push, Heap.size_update] at *) <;> omega
theorem wakes_hsz {M : Model} {Γ : PySem.Ctx} {p : Pos} {g : Nat} {r : Resume} {s s' : Shared} {res : GenResult} (h : Wakes M Γ p g r s res s') : s.heap.objs.size ≤ s'.heap.objs.size := by
  unfold Wakes at h
  split at h
  · exact h.elim
  · split at h
    · obtain ⟨e₁, s₁, hr, _, _, rfl⟩ := h
      show (s.setGen g .running).heap.objs.size ≤ s₁.heap.objs.size
      exact runs_hsz hr
    · rw [h.2]; exact Nat.le_refl _
    · rw [h.2]; exact Nat.le_refl _
  · obtain ⟨e₁, s₁, hr, _, _, rfl⟩ := h
    show (s.setGen g .running).heap.objs.size ≤ s₁.heap.objs.size
    exact runs_hsz hr
  · rw [h.2]; exact Nat.le_refl _
  · rw [h.2]; exact Nat.le_refl _
theorem wp_hsz {α : Type} (M : Model) (Γ : PySem.Ctx) (n : Nat) (t : Sem α) : ∀ (Q : α → Pos → Shared → Prop) (E : Value → Pos → Shared → Prop) (p : Pos) (s : Shared), n ≤ s.heap.objs.size → wp M Γ t Q E p s →
    wp M Γ t (fun a p' s' => n ≤ s'.heap.objs.size ∧ Q a p' s') (fun e p' s' => n ≤ s'.heap.objs.size ∧ E e p' s') p s := by
  induction t with
  | pure a => intro Q E p s hn h; exact ⟨hn, h⟩
  | raise e => intro Q E p s hn h; exact ⟨hn, h⟩
  | unsupported _ => intro Q E p s _ h; exact h
  | finish _ => intro Q E p s _ h; exact h
  | rule _ k ih => intro Q E p s hn h; exact ih () Q E p s hn h
  | «at» p' k ih => intro Q E p s hn h; exact ih () Q E p' s hn h
  | load a _ k ih => intro Q E p s hn h; obtain ⟨o, ho, h⟩ := h; exact ⟨o, ho, ih o Q E p s hn h⟩
  | update a _ f k ih =>
    intro Q E p s hn h
    refine ⟨h.1, ih () Q E p _ ?_ h.2⟩
    show n ≤ (s.heap.update a f).objs.size
    rw [Heap.size_update]; exact hn
  | loadIfAlive a k ih => intro Q E p s hn h; exact ih _ Q E p s hn h
  | point _ k ih => intro Q E p s hn h; exact ih () Q E p s hn h
  | register _ _ => intro Q E p s _ h; exact h
  | alloc o k ih =>
    intro Q E p s hn h
    refine ih _ Q E p _ ?_ h
    show n ≤ (s.heap.push o).objs.size
    rw [Heap.size_push]; omega
  | fresh k ih => intro Q E p s hn h; exact ih _ Q E p { s with toks := s.toks + 1 } hn h
  | ask k ih => intro Q E p s hn h; exact ih _ Q E p s hn h
  | choose src m k ih => intro Q E p s hn h; exact ⟨h.1, ih _ Q E p { s with drawn := s.drawn.bump src } hn h.2⟩
  | os q _ k ih => intro Q E p s hn h; exact ih _ Q E p { s with os := (Os.step s.os q).1 } hn h
  | call c hd _ _ k ih => intro Q E p s hn h; obtain ⟨r, s', hr, h⟩ := h; exact ⟨r, s', hr, ih r Q E p s' (Nat.le_trans hn (runs_hsz hr)) h⟩
  | handled own k ih => intro Q E p s hn h; exact ih _ Q E p s hn h
  | genState g k ih => intro Q E p s hn h; obtain ⟨st, hs, h⟩ := h; exact ⟨st, hs, ih _ Q E p s hn h⟩
  | newGen c k ih => intro Q E p s hn h; exact ih _ Q E p { s with gens := s.gens.push (.fresh c) } hn h
  | resume g r _ k ih => intro Q E p s hn h; obtain ⟨res, s', hw, h⟩ := h; exact ⟨res, s', hw, ih res Q E p s' (Nat.le_trans hn (wakes_hsz hw)) h⟩
  | yield _ _ _ _ => intro Q E p s _ h; exact h
  | stack k ih => intro Q E p s hn h; exact ih _ Q E p s hn h
  | fork _ _ => intro Q E p s _ h; exact h
  | thread k ih => intro Q E p s hn h; exact ih _ Q E p s hn h
  | await _ _ _ _ _ => intro Q E p s _ h; exact h
theorem wpAny_hsz {α : Type} {M : Model} {A : Around} {s : Shared} {t : Sem α} {Q : α → Shared → Prop} {E : Value → Shared → Prop} (h : wpAny M A t (fun a s' => s.heap.objs.size ≤ s'.heap.objs.size → Q a s') E s) : wpAny M A t Q E s :=
  wpAny_mono (fun Γ p hΓ => wp_hsz M Γ s.heap.objs.size t _ _ p s (Nat.le_refl _) (h Γ p hΓ) : wpAny M A t (fun a s' => s.heap.objs.size ≤ s'.heap.objs.size ∧ (s.heap.objs.size ≤ s'.heap.objs.size → Q a s')) (fun e s' => s.heap.objs.size ≤ s'.heap.objs.size ∧ E e s') s)
    (fun _ _ x => x.2 x.1) fun _ _ x => x.2
theorem Stp.trans {lo : Nat} {wr wr1 wr2 : List Addr} {s s1 s2 : Shared} (a : Stp lo wr s wr1 s1) (b : Stp lo wr1 s1 wr2 s2) : Stp lo wr s wr2 s2 :=
  ⟨fun x o hx e => b.keep x o (fun hw => (a.own x hw).elim hx fun z => absurd (Heap.lt_size e) (Nat.not_lt_of_le z)) (a.keep x o hx e), fun x hx => (b.own x hx).elim (fun hw => a.own x hw) fun z => .inr (Nat.le_trans a.sz z), b.low, b.os.trans a.os, b.bare, Nat.le_trans a.sz b.sz, Nat.le_trans a.gsz b.gsz, b.live⟩
theorem Stp.refl {lo : Nat} {wr : List Addr} {s : Shared} (hl : ∀ b ∈ wr, lo ≤ b) (hb : AllBare s.gens) (hv : ∀ b ∈ wr, Liv s.heap b) : Stp lo wr s wr s := ⟨fun _ _ _ e => e, fun _ h => .inl h, hl, rfl, hb, Nat.le_refl _, Nat.le_refl _, hv⟩
theorem Liv.keep {h h' : Heap} {b : Addr} (l : Liv h b) (k : ∀ o, h.get? b = some o → h'.get? b = some o) : Liv h' b := let ⟨o, e, d⟩ := l; ⟨o, k o e, d⟩
theorem Liv.ns {h : Heap} {b : Addr} {m : Str → Option Value} (n : h.Ns b m) : Liv h b := let ⟨o, _, _, e, d, _⟩ := n; ⟨o, e, fun v z => by rw [d] at z; cases z⟩
theorem Liv.gen {h : Heap} {b : Addr} {g : Nat} (n : h.IsGen b g) : Liv h b := let ⟨o, _, _, e, _, d, _⟩ := n; ⟨o, e, fun v z => by rw [d] at z; cases z⟩
theorem Stp.heap {lo : Nat} {wr wr' : List Addr} {s : Shared} {h' : Heap} {tk : Nat} (hk : ∀ b o, b ∉ wr → s.heap.get? b = some o → h'.get? b = some o) (ho : ∀ b ∈ wr', b ∈ wr ∨ s.heap.objs.size ≤ b) (hl : ∀ b ∈ wr', lo ≤ b) (hb : AllBare s.gens) (hs : s.heap.objs.size ≤ h'.objs.size) (hv : ∀ b ∈ wr', Liv h' b) :
    Stp lo wr s wr' { s with heap := h', toks := tk } := ⟨hk, ho, hl, rfl, hb, hs, Nat.le_refl _, hv⟩
structure Cur (Ro : Heap → Prop) (lo : Nat) (a : Addr) (g : Nat) (L : Addr) (m : Str → Option Value) (wr0 : List Addr) (s₀ : Shared) (wr : List Addr) (s : Shared) : Prop where
  stp : Stp lo wr0 s₀ wr s
  ro : Ro s.heap
  ns : s.heap.Ns L m
  isg : s.heap.IsGen a g
  aw : a ∈ wr
  lw : L ∈ wr
abbrev RoSt (Ro : Heap → Prop) (lo : Nat) : Prop := ∀ h h', Ro h → (∀ b o, b < lo → h.get? b = some o → h'.get? b = some o) → Ro h'
section
variable {Ro : Heap → Prop} {lo : Nat} {a : Addr} {g : Nat} {L : Addr} {m m' : Str → Option Value} {wr0 wr wr' : List Addr} {og : List Nat} {s₀ s s' : Shared}
theorem Cur.next (c : Cur Ro lo a g L m wr0 s₀ wr s) (st : Stp lo wr s wr' s') (hro : RoSt Ro lo) (hn : s'.heap.Ns L m') (hg : s'.heap.IsGen a g) (ha : a ∈ wr') (hl : L ∈ wr') : Cur Ro lo a g L m' wr0 s₀ wr' s' :=
  ⟨c.stp.trans st, hro _ _ c.ro (fun b o hb e => st.keep b o (fun hw => absurd (c.stp.low b hw) (by omega)) e), hn, hg, ha, hl⟩
theorem Cur.toks (c : Cur Ro lo a g L m wr0 s₀ wr s) {tk : Nat} : Cur Ro lo a g L m wr0 s₀ wr { s with toks := tk } :=
  ⟨⟨c.stp.keep, c.stp.own, c.stp.low, c.stp.os, c.stp.bare, c.stp.sz, c.stp.gsz, c.stp.live⟩, c.ro, c.ns, c.isg, c.aw, c.lw⟩
theorem Cur.more (c : Cur Ro lo a g L m wr0 s₀ wr s) (hro : RoSt Ro lo) {h' : Heap} {tk : Nat} (hk : ∀ b o, s.heap.get? b = some o → h'.get? b = some o) (hs : s.heap.objs.size ≤ h'.objs.size) : Cur Ro lo a g L m wr0 s₀ wr { s with heap := h', toks := tk } :=
  c.next (Stp.heap (fun b o _ e => hk b o e) (fun b hb => .inl hb) c.stp.low c.stp.bare hs fun b hb => (c.stp.live b hb).keep (hk b)) hro (c.ns.keeps hk) (c.isg.keeps hk) c.aw c.lw
theorem Cur.woke (c : Cur Ro lo a g L m wr0 s₀ wr s) (e : Evo Ro wr og s s') : Cur Ro lo a g L m wr s' wr s' :=
  ⟨Stp.refl c.stp.low e.bare (fun b hb => (c.stp.live b hb).keep (e.heap b hb)), e.ro, let ⟨o, es, ep, x, r⟩ := c.ns; ⟨o, es, ep, e.heap L c.lw o x, r⟩, let ⟨o, nm, qn, x, r⟩ := c.isg; ⟨o, nm, qn, e.heap a c.aw o x, r⟩, c.aw, c.lw⟩
end
section
variable {M : Model} {P : Program} {w : World} {A : Around} {E : Value → Shared → Prop} {s : Shared} {env : Env}
theorem g_ld {x : Str} {px : Pos} {m : Str → Option Value} {v : Value} {Q : Value → Shared → Prop} (hk : env.scope.kind = .function) (hl : env.kindOf x = some .local) (hd : (x == ("__debug__" : Str)) = false) (hn : s.heap.Ns env.locals m) (hv : m x = some v) (h : Q v s) : wpAny M A (eval (.Name x px) env) Q E s :=
  wpAny_Name (wpAny_loadName_local hk hl hn hv h) hd
theorem g_star {t : Addr} {its : List Value} {Q : List Value → Shared → Prop} (ht : IsTup s.heap t its.toArray) (hz : its.length ≤ sizeLine) (h : ∀ h', (∀ b o, s.heap.get? b = some o → h'.get? b = some o) → s.heap.objs.size ≤ h'.objs.size → Q its { s with heap := h' }) : PySem.W.StarOf (model P w) A E (.ref t) Q s := by
  obtain ⟨o, ho, hc, n, hd⟩ := id ht
  have hT : s.TypeIs (.ref t) "tuple" := ⟨o, ho, hc⟩
  have z : wpAny (model P w) A (collect (.ref t)) Q E s := by
    refine wpAny_hsz ?_
    refine wpAny_collect_seq t (.inr rfl) ho hc hd (fun h' hk => ?_) (by rw [List.size_toArray]; omega)
    intro hs
    have e : its.toArray.toList = its := by simp
    rw [e]
    exact h h' hk hs
  unfold PySem.W.StarOf notIterableAtAll
  exact wpAny_bind (wpAny_specialOf hT PySem.F.slot_tuple_iter.lookup (wpAny_pure ⟨rfl, z⟩))
end
end Kv
namespace Kv
open PySem PySem.Spec PyProof.Rows L2 GenW
structure WkI (P : Program) (w : World) (Ro : Heap → Prop) (I : Addr) (xs : List V) (St : Nat → Heap → Prop) : Prop where
  frame : ∀ j h h', St j h → (∀ o, h.get? I = some o → h'.get? I = some o) → St j h'
  obj : ∀ j h, St j h → Liv h I
  item : ∀ (A : Around) (j : Nat) (x : V) (s : Shared) (Q : Option Value → Shared → Prop), A.handled = none → xs[j]? = some x → St j s.heap → Ro s.heap →
    (∀ v h' tk, RelV x v → St (j + 1) h' → (∀ b o, b ≠ I → s.heap.get? b = some o → h'.get? b = some o) → s.heap.objs.size ≤ h'.objs.size → Q (some v) { s with heap := h', toks := tk }) → wpAny (model P w) A (pyNext (.ref I)) Q never s
  done : ∀ (A : Around) (s : Shared) (Q : Option Value → Shared → Prop), A.handled = none → St xs.length s.heap → Ro s.heap →
    (∀ h' tk, (∀ b o, b ≠ I → s.heap.get? b = some o → h'.get? b = some o) → s.heap.objs.size ≤ h'.objs.size → Q none { s with heap := h', toks := tk }) → wpAny (model P w) A (pyNext (.ref I)) Q never s
section
variable {P : Program} {w : World} {Ro : Heap → Prop}
end
section
variable {P : Program} {w : World} {K : PySem.W.Frag} {f : Addr} {name qual : Str} {params : Arguments} {body : List Stmt} {scope : Scope} {dV kV doc pm cdv ct oc : Value} {an od : Option Addr} {osl : Array (Option Value)} {N ps : List Str}
end
end Kv
namespace Kv
open PySem PySem.Spec PyProof.Rows L2 GenW
def outs (xs : List V) : Nat → List (List V)
  | 0 => [[]]
  | n + 1 => xs.flatMap fun x => (outs xs n).map fun r => x :: r
theorem outs_len {xs : List V} : ∀ {n : Nat} {r : List V}, r ∈ outs xs n → r.length = n
  | 0, r, h => by rw [List.mem_singleton.mp h]; rfl
  | n + 1, r, h => by
    obtain ⟨x, _, h⟩ := List.mem_flatMap.mp h
    obtain ⟨q, hq, rfl⟩ := List.mem_map.mp h
    rw [List.length_cons, outs_len hq]
structure PGn (K : PySem.W.Frag) (mg : Str → Option Value) (f : Addr) (scope : Scope) (nA nB nC nD nF : Str) : Prop where
  kind : scope.kind = .function
  co : scope.isCoroutine = false
  lA : scope.names.lookup nA = some .local
  lB : scope.names.lookup nB = some .local
  lC : scope.names.lookup nC = some .local
  lD : scope.names.lookup nD = some .local
  lF : scope.names.lookup nF = some .globalImplicit
  AC : nA ≠ nC
  AD : nA ≠ nD
  BC : nB ≠ nC
  BD : nB ≠ nD
  CD : nC ≠ nD
  dA : (nA == ("__debug__" : Str)) = false
  dB : (nB == ("__debug__" : Str)) = false
  dC : (nC == ("__debug__" : Str)) = false
  dD : (nD == ("__debug__" : Str)) = false
  dF : (nF == ("__debug__" : Str)) = false
  mF : mg nF = some (.ref f)
  kp : PySem.W.keepIn K (.ref f) = true
theorem SameBut.sz {L : Addr} {h h' : Heap} (s : Heap.SameBut L h h') : h'.objs.size = h.objs.size := s.1
theorem sz_big : 2000 ≤ sizeLine := by decide
theorem intf {scope : Scope} {qual : Str} {L f : Addr} {cdv : Value} (h : scope.kind = .function) : interactive (envOfC qual scope L f cdv) = false := by
  unfold interactive
  simp [envOfC, h]
section
variable {P : Program} {w : World} {K : PySem.W.Frag} {mg : Str → Option Value} {f : Addr} {scope : Scope} {qual : Str} {cdv : Value} {nA nB nC nD nF : Str} {Ro : Heap → Prop} {lo : Nat} {A1 Ag : Around} {a : Addr} {g : Nat} {L : Addr}
def rst (wr wri : List Addr) : List Addr := wr.filter fun b => decide (b ∉ wri)
theorem mem_rst {wr wri : List Addr} {b : Addr} : b ∈ rst wr wri ↔ b ∈ wr ∧ b ∉ wri := by
  unfold rst
  rw [List.mem_filter, decide_eq_true_eq]
structure At (a : Addr) (g : Nat) (L I : Addr) (Z : Heap → Prop) (nA nB : Str) (u ub : Value) (m : Str → Option Value) (s : Shared) (wr : List Addr) : Prop where
  z : Z s.heap
  iw : I ∈ wr
  il : I < s.heap.objs.size
  ll : L < s.heap.objs.size
  al : a < s.heap.objs.size
  gl : g < s.gens.size
  mA : m nA = some u
  mB : m nB = some ub
theorem inner (G : PGn K mg f scope nA nB nC nD nF) (hro : RoSt Ro lo) {x : V} {xv : Value} (rx : RelV x xv) {R2 : List (List V)} {ai : Addr} {gi ni : Nat} (hgi : g < gi) (hni : lo ≤ ni) {I : Addr} {Z : Heap → Prop} (hZ : ∀ h h', Z h → (∀ o, h.get? I = some o → h'.get? I = some o) → Z h') (hI : I < ni) (hL : L < ni) (ha : a < ni) (hIL : I ≠ L)
    {u ub : Value} {pD pc pd ps pt py pe : Pos} {k3 : Nat} {FS : List Frame}
    (hov : A1.over (.forLoop (.Name nD pD) (.ref ai) [.Expr (.Yield (some (.Tuple [.Name nC pc, .Starred (.Name nD pd) ps] k3 pt)) py) pe] [] (envOfC qual scope L f cdv)) FS = Ag) (hsp : splitAtGen FS = none) (hgu : FS.any Frame.guarded = false)
    (cont : ∀ wr0 s₀ wr s m, Cur Ro lo a g L m wr0 s₀ wr s → At a g L I Z nA nB u ub m s wr → Ru (model P w) A1 (GEn (model P w) A1 Ro lo a g R2 wr0 s₀) (.block [] (envOfC qual scope L f cdv)) (leafOf (.ok .next)) FS s) :
    ∀ (Li : List (List V)), (∀ r ∈ Li, r.length ≤ 1000) → ∀ (wri : List Addr) (ogi : List Nat) (wr0 : List Addr) (s₀ : Shared) (wr : List Addr) (s : Shared) (m : Str → Option Value), Cur Ro lo a g L m wr0 s₀ wr s → At a g L I Z nA nB u ub m s wr → m nC = some xv → Rdy P w Ag Ro ni ai gi Li wri ogi s → (∀ b ∈ wri, b ∈ wr ∧ ni ≤ b) →
      Ru (model P w) A1 (GEn (model P w) A1 Ro lo a g (Li.map (fun r => x :: r) ++ R2) wr0 s₀) (.forLoop (.Name nD pD) (.ref ai) [.Expr (.Yield (some (.Tuple [.Name nC pc, .Starred (.Name nD pd) ps] k3 pt)) py) pe] [] (envOfC qual scope L f cdv))
        ((model P w).den (.forLoop (.Name nD pD) (.ref ai) [.Expr (.Yield (some (.Tuple [.Name nC pc, .Starred (.Name nD pd) ps] k3 pt)) py) pe] [] (envOfC qual scope L f cdv))) FS s
  | [], _, wri, ogi, wr0, s₀, wr, s, m, c, at_, mC, hr, hw => by
    refine sg_loop ?_
    rw [hov]
    refine wpAny_mono (hr s ⟨fun _ _ _ e => e, fun _ _ => rfl, c.ro, c.stp.bare, Nat.le_refl _, Nat.le_refl _⟩) (fun r s1 h1 => ?_) fun _ _ z => z
    obtain ⟨rfl, st⟩ := h1
    have nw : ∀ b, b < ni → b ∉ wri := fun b hb z => absurd (hw b z).2 (by omega)
    have st' : Stp lo wr s (rst wr wri) s1 := ⟨fun b o hb e => st.keep b o (fun z => hb (hw b z).1) e, fun b hb => .inl (mem_rst.mp hb).1, fun b hb => c.stp.low b (mem_rst.mp hb).1, st.os, st.bare, st.sz, st.gsz, fun b hb => (c.stp.live b (mem_rst.mp hb).1).keep fun o e => st.keep b o (mem_rst.mp hb).2 e⟩
    have c1 : Cur Ro lo a g L m wr0 s₀ (rst wr wri) s1 := c.next st' hro (c.ns.at' fun o e => st.keep L o (nw L hL) e) (let ⟨o, nm, qn, e, r⟩ := c.isg; ⟨o, nm, qn, st.keep a o (nw a ha) e, r⟩) (mem_rst.mpr ⟨c.aw, nw a ha⟩) (mem_rst.mpr ⟨c.lw, nw L hL⟩)
    exact cont wr0 s₀ (rst wr wri) s1 m c1 ⟨hZ _ _ at_.z fun o e => st.keep I o (nw I hI) e, mem_rst.mpr ⟨at_.iw, nw I hI⟩, Nat.lt_of_lt_of_le at_.il st.sz, Nat.lt_of_lt_of_le at_.ll st.sz, Nat.lt_of_lt_of_le at_.al st.sz, Nat.lt_of_lt_of_le at_.gl st.gsz, at_.mA, at_.mB⟩
  | ds :: Li, hlen, wri, ogi, wr0, s₀, wr, s, m, c, at_, mC, hr, hw => by
    refine sg_loop ?_
    rw [hov]
    refine wpAny_mono (hr s ⟨fun _ _ _ e => e, fun _ _ => rfl, c.ro, c.stp.bare, Nat.le_refl _, Nat.le_refl _⟩) (fun r s1 h1 => ?_) fun _ _ z => z
    obtain ⟨v, wri2, ogi2, rfl, ⟨t, its, rfl, ht, ⟨htup, _⟩, hv⟩, _, st, hog, hr2⟩ := h1
    have nw : ∀ b, b < ni → b ∉ wri := fun b hb z => absurd (hw b z).2 (by omega)
    have st' : Stp lo wr s (wri2 ++ rst wr wri) s1 := ⟨fun b o hb e => st.keep b o (fun z => hb (hw b z).1) e, fun b hb => by
      rcases List.mem_append.mp hb with q | q
      · exact (st.own b q).elim (fun z => .inl (hw b z).1) .inr
      · exact .inl (mem_rst.mp q).1, fun b hb => by
      rcases List.mem_append.mp hb with q | q
      · exact Nat.le_trans hni (st.low b q)
      · exact c.stp.low b (mem_rst.mp q).1, st.os, st.bare, st.sz, st.gsz, fun b hb => by
      rcases List.mem_append.mp hb with q | q
      · exact st.live b q
      · exact (c.stp.live b (mem_rst.mp q).1).keep fun o e => st.keep b o (mem_rst.mp q).2 e⟩
    have c1 : Cur Ro lo a g L m wr0 s₀ (wri2 ++ rst wr wri) s1 := c.next st' hro (c.ns.at' fun o e => st.keep L o (nw L hL) e) (let ⟨o, nm, qn, e, r⟩ := c.isg; ⟨o, nm, qn, st.keep a o (nw a ha) e, r⟩) (List.mem_append_right _ (mem_rst.mpr ⟨c.aw, nw a ha⟩)) (List.mem_append_right _ (mem_rst.mpr ⟨c.lw, nw L hL⟩))
    have z1 : Z s1.heap := hZ _ _ at_.z fun o e => st.keep I o (nw I hI) e
    refine wpAny_storeName_local (m := m) G.lD c1.ns (fun h' hns hsb => ?_) (by rw [show (envOfC qual scope L f cdv).scope.kind = .function from G.kind]; rfl)
    have sz2 : h'.objs.size = s1.heap.objs.size := hsb.1
    have keep2 : ∀ b o, b ≠ L → s1.heap.get? b = some o → h'.get? b = some o := fun b o hb e => hsb.extBut b o hb e
    have aL : a ≠ L := fun z => by
      obtain ⟨o, nm, qn, e, hc, hd, _⟩ := c1.isg
      obtain ⟨o2, es, ep, e2, r⟩ := c1.ns
      rw [z, e2] at e
      cases e
      first | (obtain ⟨r1, r2⟩ := r; rw [r1] at hd; cases hd) | (rw [r.1] at hd; cases hd)
    have c2 : Cur Ro lo a g L (fun y => if y = nD then some (.ref t) else m y) wr0 s₀ (wri2 ++ rst wr wri) { s1 with heap := h', toks := s1.toks + 1 } :=
      c1.next (Stp.heap (fun b o hb e => keep2 b o (fun z => hb (z ▸ c1.lw)) e) (fun b hb => .inl hb) c1.stp.low c1.stp.bare (by rw [sz2]; exact Nat.le_refl _) fun b hb => by
        by_cases z : b = L
        · rw [z]; exact Liv.ns hns
        · exact (c1.stp.live b hb).keep fun o e => keep2 b o z e) hro hns (let ⟨o, nm, qn, e, r⟩ := c1.isg; ⟨o, nm, qn, keep2 a o aL e, r⟩) c1.aw c1.lw
    have r3 : Rdy P w Ag Ro ni ai gi Li wri2 ogi2 { s1 with heap := h', toks := s1.toks + 1 } := hr2.evo ⟨fun b hb o e => keep2 b o (fun z => absurd (st.low b hb) (by rw [z]; exact Nat.not_le_of_lt hL)) e, fun _ _ => rfl, c2.ro, st.bare, by show s1.heap.objs.size ≤ h'.objs.size; rw [sz2]; exact Nat.le_refl _, Nat.le_refl _⟩
    have tL : t ≠ L := fun z => absurd ht (by rw [z]; exact Nat.not_le_of_lt at_.ll)
    have tup2 : IsTup h' t its.toArray := let ⟨o, e, r⟩ := htup; ⟨o, keep2 t o tL e, r⟩
    have a2 : At a g L I Z nA nB u ub (fun y => if y = nD then some (.ref t) else m y) { s1 with heap := h', toks := s1.toks + 1 } (wri2 ++ rst wr wri) :=
      ⟨hZ _ _ z1 fun o e => keep2 I o hIL e, List.mem_append_right _ (mem_rst.mpr ⟨at_.iw, nw I hI⟩), by show I < h'.objs.size; rw [sz2]; exact Nat.lt_of_lt_of_le at_.il st.sz, by show L < h'.objs.size; rw [sz2]; exact Nat.lt_of_lt_of_le at_.ll st.sz, by show a < h'.objs.size; rw [sz2]; exact Nat.lt_of_lt_of_le at_.al st.sz, Nat.lt_of_lt_of_le at_.gl st.gsz, (if_neg G.AD).trans at_.mA, (if_neg G.BD).trans at_.mB⟩
    have mC2 : (fun y => if y = nD then some (Value.ref t) else m y) nC = some xv := (if_neg G.CD).trans mC
    intro JJ
    refine sg_one (sg_yield hsp ?_ G.co (intf G.kind))
    rw [hov]
    refine wpAny_Tuple_spliced (spliced_more (g_ld G.kind G.lC G.dC c2.ns mC2 ?_))
    refine PySem.W.items_star (g_ld G.kind G.lD G.dD c2.ns (if_pos rfl) ?_) rfl
    have hl := hlen ds (List.mem_cons_self ..)
    have hil : its.length = ds.length := hv.length.symm
    refine g_star tup2 (Nat.le_trans (by omega) sz_big) fun h3 hk3 hs3 => spliced_none ⟨Nat.le_trans (by rw [List.append_nil, List.length_cons]; omega) sz_big, ?_⟩
    intro l p1 k hk
    have c3 : Cur Ro lo a g L (fun y => if y = nD then some (.ref t) else m y) wr0 s₀ (wri2 ++ rst wr wri) { s1 with heap := h3.push { cls := .type "tuple", data := .seq (xv :: (its ++ [])).toArray }, toks := s1.toks + 1 } :=
      (c2.more (tk := s1.toks + 1) hro hk3 hs3).more hro (fun b o e => Heap.get?_push_of_some _ e) (by show h3.objs.size ≤ _; rw [Heap.size_push]; exact Nat.le_succ _)
    have k3' : ∀ b o, h'.get? b = some o → (h3.push { cls := .type "tuple", data := .seq (xv :: (its ++ [])).toArray }).get? b = some o := fun b o e => Heap.get?_push_of_some _ (hk3 b o e)
    have s3' : h'.objs.size ≤ (h3.push { cls := .type "tuple", data := .seq (xv :: (its ++ [])).toArray }).objs.size := by rw [Heap.size_push]; exact Nat.le_succ_of_le hs3
    refine ⟨by show (false || FS.any Frame.guarded) = false; rw [hgu]; rfl, wri2 ++ rst wr wri, ogi2, ⟨h3.objs.size, xv :: (its ++ []), rfl, ?_, ⟨⟨_, Heap.get?_push_size _ rfl, rfl, _, rfl⟩, _, Heap.get?_push_size _ rfl, rfl⟩, by rw [List.append_nil]; exact .cons rx hv⟩, fun b hb z => ?_, c3.stp, c3.aw, c3.isg, fun i hi => ⟨Nat.lt_of_lt_of_le hgi (hog i hi).1, (hog i hi).2⟩, fun s'' e'' => hk _ s'' ?_⟩
    · have q1 := c2.stp.sz
      exact Nat.le_trans q1 hs3
    · obtain ⟨o, e, _⟩ := c2.stp.live b hb
      have q1 : b < h'.objs.size := Heap.lt_size e
      cases z
      exact absurd q1 (Nat.not_lt_of_le hs3)
    · refine sg_nil (ru_again rfl ?_)
      have e4 : Evo Ro (wri2 ++ rst wr wri) ogi2 { s1 with heap := h', toks := s1.toks + 1 } s'' := ⟨fun b hb o e => e''.heap b hb o (k3' b o e), e''.gens, e''.ro, e''.bare, Nat.le_trans s3' e''.sz, e''.gsz⟩
      exact inner G hro rx hgi hni hZ hI hL ha hIL hov hsp hgu cont Li (fun r hr => hlen r (List.mem_cons_of_mem _ hr)) wri2 ogi2 (wri2 ++ rst wr wri) s'' (wri2 ++ rst wr wri) s'' _ (c3.woke e'') ⟨hZ _ _ a2.z fun o e => e4.heap I a2.iw o e, a2.iw, Nat.lt_of_lt_of_le a2.il e4.sz, Nat.lt_of_lt_of_le a2.ll e4.sz, Nat.lt_of_lt_of_le a2.al e4.sz, Nat.lt_of_lt_of_le a2.gl e4.gsz, a2.mA, a2.mB⟩ mC2
        (r3.evo (e4.sub (fun b hb => List.mem_append_left _ hb) fun _ h => h)) fun b hb => ⟨List.mem_append_left _ hb, st.low b hb⟩
end
end Kv
namespace Kv
open PySem PySem.Spec PyProof.Rows L2 GenW
section
variable {P : Program} {w : World} {K : PySem.W.Frag} {mg : Str → Option Value} {base : Heap} {f : Addr} {scope : Scope} {qual : Str} {cdv : Value} {nA nB nC nD nF : Str} {Ro : Heap → Prop} {lo : Nat} {A1 Ag : Around} {a : Addr} {g : Nat} {L : Addr} {u : Value} {xs : List V} {body : List Stmt}
def GOK (P : Program) (w : World) (f : Addr) (u : Value) (xs : List V) (Ro : Heap → Prop) (body : List Stmt) (qual : Str) (scope : Scope) (cdv : Value) (n : Nat) : Prop :=
  ∀ (A : Around) (s : Shared) (tk : Tok) (Q : Value → Shared → Prop), A.depth < recursionLimit → Ro s.heap → RoSt Ro s.heap.objs.size → AllBare s.gens →
    (∀ (a : Addr) (h' : Heap) (tk' : Nat), (∀ b o, s.heap.get? b = some o → h'.get? b = some o) → s.heap.objs.size < a → a < h'.objs.size → h'.IsGen a s.gens.size → (∀ b ∈ [a, s.heap.objs.size], Liv h' b) →
      (∀ A' : Around, A'.handled = none → A'.depth + n + 1 < recursionLimit → Rdy P w A' Ro s.heap.objs.size a s.gens.size (outs xs n) [a, s.heap.objs.size] [s.gens.size] { s with heap := h', toks := tk', gens := s.gens.push (.fresh (.func body (envOfC qual scope s.heap.objs.size f cdv))) }) →
      Q (.ref a) { s with heap := h', toks := tk', gens := s.gens.push (.fresh (.func body (envOfC qual scope s.heap.objs.size f cdv))) }) → wpAny (model P w) A (call (.ref f) [u, .int (n : Int) tk]) Q never s
theorem outer (G : PGn K mg f scope nA nB nC nD nF) (md : Mod K mg base) (hb : ∀ h, Ro h → ∀ b o, base.get? b = some o → h.get? b = some o) {n : Nat} (ih : GOK P w f u xs Ro body qual scope cdv n) (hn : n ≤ 1000) (hh : Ag.handled = none) (hdep : Ag.depth + n + 1 < recursionLimit) (hro : RoSt Ro lo)
    {I : Addr} {St : Nat → Heap → Prop} (W : WkI P w Ro I xs St) (hIL : I ≠ L) (haI : a ≠ I) (haL : a ≠ L) {tk : Tok} {pC pD pF pa pb pn pm pcall pc pd ps pt py pe pfor : Pos} {k2 k3 : Nat} {FS : List Frame}
    (hov : A1.over (.forLoop (.Name nC pC) (.ref I) [.For (.Name nD pD) (.Call (.Name nF pF) [.Name nA pa, .BinOp (.Name nB pb) .Sub (.Constant (.int 1) k2 pn) pm] [] pcall) [.Expr (.Yield (some (.Tuple [.Name nC pc, .Starred (.Name nD pd) ps] k3 pt)) py) pe] [] pfor] [] (envOfC qual scope L f cdv)) FS = Ag) (hsp : splitAtGen FS = none) (hgu : FS.any Frame.guarded = false)
    (cont : ∀ wr0 s₀ wr s m, Cur Ro lo a g L m wr0 s₀ wr s → Ru (model P w) A1 (GEn (model P w) A1 Ro lo a g [] wr0 s₀) (.block [] (envOfC qual scope L f cdv)) (leafOf (.ok .next)) FS s) :
    ∀ (ys : List V) (j : Nat), j ≤ xs.length → xs.drop j = ys → ∀ (wr0 : List Addr) (s₀ : Shared) (wr : List Addr) (s : Shared) (m : Str → Option Value), Cur Ro lo a g L m wr0 s₀ wr s → At a g L I (St j) nA nB u (.int ((n + 1 : Nat) : Int) tk) m s wr →
      Ru (model P w) A1 (GEn (model P w) A1 Ro lo a g (ys.flatMap fun x => (outs xs n).map fun r => x :: r) wr0 s₀) (.forLoop (.Name nC pC) (.ref I) [.For (.Name nD pD) (.Call (.Name nF pF) [.Name nA pa, .BinOp (.Name nB pb) .Sub (.Constant (.int 1) k2 pn) pm] [] pcall) [.Expr (.Yield (some (.Tuple [.Name nC pc, .Starred (.Name nD pd) ps] k3 pt)) py) pe] [] pfor] [] (envOfC qual scope L f cdv))
        ((model P w).den (.forLoop (.Name nC pC) (.ref I) [.For (.Name nD pD) (.Call (.Name nF pF) [.Name nA pa, .BinOp (.Name nB pb) .Sub (.Constant (.int 1) k2 pn) pm] [] pcall) [.Expr (.Yield (some (.Tuple [.Name nC pc, .Starred (.Name nD pd) ps] k3 pt)) py) pe] [] pfor] [] (envOfC qual scope L f cdv))) FS s
  | [], j, hj, hd, wr0, s₀, wr, s, m, c, at_ => by
    have ej : j = xs.length := by
      have := congrArg List.length hd
      rw [List.length_drop, List.length_nil] at this
      omega
    subst ej
    refine sg_loop ?_
    rw [hov]
    refine W.done Ag s _ hh at_.z c.ro fun h' tk' hk hs => ?_
    exact cont _ _ (rst wr [I]) _ m (c.next (Stp.heap (fun b o hb' e => hk b o (fun z => hb' (z ▸ at_.iw)) e) (fun b hb' => .inl (mem_rst.mp hb').1) (fun b hb' => c.stp.low b (mem_rst.mp hb').1) c.stp.bare hs fun b hb' => (c.stp.live b (mem_rst.mp hb').1).keep fun o e => hk b o (fun z => (mem_rst.mp hb').2 (List.mem_singleton.mpr z)) e) hro (c.ns.at' fun o e => hk L o (Ne.symm hIL) e) (let ⟨o, nm, qn, e, r⟩ := c.isg; ⟨o, nm, qn, hk a o haI e, r⟩) (mem_rst.mpr ⟨c.aw, by simpa using haI⟩) (mem_rst.mpr ⟨c.lw, by simpa using Ne.symm hIL⟩))
  | x :: ys, j, hj, hd, wr0, s₀, wr, s, m, c, at_ => by
    have hjl : j < xs.length := by
      have := congrArg List.length hd
      rw [List.length_drop, List.length_cons] at this
      omega
    have hx : xs[j]? = some x := by
      rw [List.drop_eq_getElem_cons hjl] at hd
      cases hd
      exact List.getElem?_eq_getElem hjl
    have hd' : xs.drop (j + 1) = ys := by
      rw [List.drop_eq_getElem_cons hjl] at hd
      cases hd
      rfl
    refine sg_loop ?_
    rw [hov]
    refine W.item Ag j x s _ hh hx at_.z c.ro fun v h1 tk1 rv st1 hk hs => ?_
    have c1 : Cur Ro lo a g L m wr0 s₀ wr { s with heap := h1, toks := tk1 } := c.next (Stp.heap (fun b o hb' e => hk b o (fun z => hb' (z ▸ at_.iw)) e) (fun b hb' => .inl hb') c.stp.low c.stp.bare hs fun b hb' => by
      by_cases z : b = I
      · rw [z]; exact W.obj _ _ st1
      · exact (c.stp.live b hb').keep fun o e => hk b o z e) hro (c.ns.at' fun o e => hk L o (Ne.symm hIL) e) (let ⟨o, nm, qn, e, r⟩ := c.isg; ⟨o, nm, qn, hk a o haI e, r⟩) c.aw c.lw
    refine wpAny_storeName_local (m := m) G.lC c1.ns (fun h2 hns hsb => ?_) (by rw [show (envOfC qual scope L f cdv).scope.kind = .function from G.kind]; rfl)
    have sz2 : h2.objs.size = h1.objs.size := hsb.1
    have keep2 : ∀ b o, b ≠ L → h1.get? b = some o → h2.get? b = some o := fun b o hb e => hsb.extBut b o hb e
    have c2 : Cur Ro lo a g L (fun y => if y = nC then some v else m y) wr0 s₀ wr { s with heap := h2, toks := tk1 + 1 } :=
      c1.next (Stp.heap (tk := tk1 + 1) (fun b o hb e => keep2 b o (fun z => hb (z ▸ c1.lw)) e) (fun b hb => .inl hb) c1.stp.low c1.stp.bare (by rw [sz2]; exact Nat.le_refl _) fun b hb => by
        by_cases z : b = L
        · rw [z]; exact Liv.ns hns
        · exact (c1.stp.live b hb).keep fun o e => keep2 b o z e) hro hns (let ⟨o, nm, qn, e, r⟩ := c1.isg; ⟨o, nm, qn, keep2 a o haL e, r⟩) c1.aw c1.lw
    have st2 : St (j + 1) h2 := W.frame _ _ _ st1 fun o e => keep2 I o hIL e
    have hs2 : s.heap.objs.size ≤ h2.objs.size := by rw [sz2]; exact hs
    intro JJ
    refine sg_one (sg_for (fun _ => rfl) ?_)
    rw [hov]
    have kin2 : ∀ b o, base.get? b = some o → h2.get? b = some o := hb _ c2.ro
    refine wpAny_Call_Name_kw (Calls.Name_function_global G.kind G.lF (Calls.loadGlobal_global (md.glob.keeps kin2) G.mF ?_) G.dF)
    refine PySem.W.callWith_K (h₀ := base) md.kin G.kp (spliced_more (g_ld G.kind G.lA G.dA c2.ns ((if_neg G.AC).trans at_.mA) ?_)) rfl rfl
    refine spliced_more (wpAny_BinOp (g_ld G.kind G.lB G.dB c2.ns ((if_neg G.BC).trans at_.mB) (wpAny_Constant_int (PySem.AutoIntOps.sub_0 ?_))))
    show wpAny _ _ (spliced _) _ _ _
    refine spliced_none ⟨md.kin.keeps kin2, ?_⟩
    have en : (((n + 1 : Nat) : Int) - 1) = (n : Int) := by omega
    rw [en]
    have ro2 := c2.ro
    refine ih Ag { s with heap := h2, toks := tk1 + 1 + 1 + 1 } _ _ (by omega) ro2 (fun h h' r k => hro h h' r fun b o hb' e => k b o (Nat.lt_of_lt_of_le hb' (Nat.le_trans (c.stp.low L c.lw) (Nat.le_of_lt (Nat.lt_of_lt_of_le at_.ll hs2)))) e) c2.stp.bare fun ai h4 tk4 hk4 hai1 hai2 hgi hliv hrd => ?_
    refine wpAny_pyIter_gen (s := { s with heap := h4, toks := tk4, gens := _ }) hgi ?_
    intro p
    have hlo : lo ≤ h2.objs.size := Nat.le_trans (c.stp.low L c.lw) (Nat.le_of_lt (Nat.lt_of_lt_of_le at_.ll hs2))
    have bare4 : AllBare (s.gens.push (.fresh (.func body (envOfC qual scope h2.objs.size f cdv)))) := AllBare.push c2.stp.bare rfl
    have c4 : Cur Ro lo a g L (fun y => if y = nC then some v else m y) wr0 s₀ ([ai, h2.objs.size] ++ wr) { s with heap := h4, toks := tk4, gens := s.gens.push (.fresh (.func body (envOfC qual scope h2.objs.size f cdv))) } := by
      refine c2.next ⟨fun b o _ e => hk4 b o e, fun b hb' => ?_, fun b hb' => ?_, rfl, bare4, ?_, ?_, fun b hb' => ?_⟩ hro (c2.ns.keeps hk4) (c2.isg.keeps hk4) (List.mem_append_right _ c2.aw) (List.mem_append_right _ c2.lw)
      · rcases List.mem_append.mp hb' with q | q
        · rcases List.mem_cons.mp q with rfl | q
          · exact .inr (Nat.le_of_lt hai1)
          · rw [List.mem_singleton.mp q]; exact .inr (Nat.le_refl _)
        · exact .inl q
      · rcases List.mem_append.mp hb' with q | q
        · rcases List.mem_cons.mp q with rfl | q
          · exact Nat.le_trans hlo (Nat.le_of_lt hai1)
          · rw [List.mem_singleton.mp q]; exact hlo
        · exact c2.stp.low b q
      · exact Nat.le_of_lt (Nat.lt_trans hai1 hai2)
      · show s.gens.size ≤ (s.gens.push _).size
        rw [Array.size_push]; exact Nat.le_succ _
      · rcases List.mem_append.mp hb' with q | q
        · exact hliv b q
        · exact (c2.stp.live b q).keep (hk4 b)
    have big : h2.objs.size ≤ h4.objs.size := Nat.le_of_lt (Nat.lt_trans hai1 hai2)
    refine inner (ub := .int ((n + 1 : Nat) : Int) tk) (Z := St (j + 1)) (I := I) (u := u) (ni := h2.objs.size) (gi := s.gens.size) G hro rv at_.gl hlo (fun h h' z k => W.frame _ _ _ z k) (Nat.lt_of_lt_of_le at_.il hs2) (Nat.lt_of_lt_of_le at_.ll hs2) (Nat.lt_of_lt_of_le at_.al hs2) hIL
      ((over_loop rfl rfl).trans hov) (by show (splitAtGen FS).map _ = none; rw [hsp]; rfl) (by show (id false || FS.any Frame.guarded) = false; rw [hgu]; rfl)
      (fun wr0' s₀' wr' s' m' c' at' => ?_) (outs xs n) (fun r hr => by rw [outs_len hr]; exact hn) [ai, h2.objs.size] [s.gens.size] wr0 s₀ ([ai, h2.objs.size] ++ wr) _ _ c4 ⟨W.frame _ _ _ st2 fun o e => hk4 I o e, List.mem_append_right _ at_.iw, Nat.lt_of_lt_of_le (Nat.lt_of_lt_of_le at_.il hs2) big, Nat.lt_of_lt_of_le (Nat.lt_of_lt_of_le at_.ll hs2) big, Nat.lt_of_lt_of_le (Nat.lt_of_lt_of_le at_.al hs2) big, by show g < (s.gens.push _).size; rw [Array.size_push]; exact Nat.lt_succ_of_lt at_.gl, (if_neg G.AC).trans at_.mA, (if_neg G.BC).trans at_.mB⟩ (if_pos rfl) (hrd Ag hh hdep) (fun b hb' => ⟨List.mem_append_left _ hb', ?_⟩)
    · refine ru_leaf (.ok .next) (sg_nil (env := envOfC qual scope L f cdv) (ru_again rfl ?_))
      exact outer G md hb ih hn hh hdep hro W hIL haI haL hov hsp hgu cont ys (j + 1) hjl hd' wr0' s₀' wr' s' m' c' at'
    · rcases List.mem_cons.mp hb' with rfl | q
      · exact Nat.le_of_lt hai1
      · rw [List.mem_singleton.mp q]; exact Nat.le_refl _
end
end Kv
namespace Kv
open PySem PySem.Spec PyProof.Rows L2 GenW
section
variable {P : Program} {w : World} {K : PySem.W.Frag} {mg : Str → Option Value} {base : Heap} {f : Addr} {name qual : Str} {params : Arguments} {scope : Scope} {dV kV doc pm cdv ct oc : Value} {an od : Option Addr} {osl : Array (Option Value)} {N : List Str} {nA nB nC nD nF : Str} {Ro : Heap → Prop} {u : Value} {xs : List V}
  {p1 p2 p3 p4 p5 p6 pC pD pF pa pb pn pmm pcall pc pd ps pt py pe pfor pA pfo pif : Pos} {k0 k1 k2 k3 : Nat}
theorem Stp.out {lo : Nat} {wr wr' : List Addr} {s s' : Shared} (a : Stp lo wr s wr' s') : Stp lo wr s [] s' := ⟨a.keep, fun _ h => (nomatch h), fun _ h => (nomatch h), a.os, a.bare, a.sz, a.gsz, fun _ h => (nomatch h)⟩
end
end Kv
namespace Kv
open PySem PySem.Spec PyProof.Rows L2 GenW
theorem Kept.trans {a b c : Array GenState} (x : Kept a b) (y : Kept b c) : Kept a c := fun i k l c' p fs cl e => y i k l c' p fs cl (x i k l c' p fs cl e)
section
variable {X : Cx} {nm tgn : Str} {pt pc pcall pos : Pos} {e : Expr} {es : List Expr} {body : List Stmt} {ta : TA} {g : TG} {tb : TS} {nmax : Nat}
theorem Inv.drawn {pins : List (Addr × Obj)} {σ : L2.St} {H : Hp} {s s' : Shared} {lo : Nat} {wr wr2 : List Addr} {t : Addr} {its : List Value} {ds : List V} (I : Inv X pins σ H s) (st : Stp lo wr s wr2 s') (hw : ∀ b ∈ wr, FpOk X pins H b) (ht : s.heap.objs.size ≤ t) {ob : Obj} (hob : s'.heap.get? t = some ob) (htup : IsTup s'.heap t its.toArray) (hv : Vals ds its) (hl : ds.length ≤ sizeLine) :
    Inv X pins σ (upd H t (.frz ob (.tup ds))) s' := by
  have hn : H t = none := I.hok.fresh ht
  have nt : ∀ b o, s.heap.get? b = some o → b ≠ t := fun b o e => Nat.ne_of_lt (Nat.lt_of_lt_of_le (Heap.lt_size e) ht)
  refine I.call' (ch := wr) st.os ⟨fun b o e _ _ hx => st.keep b o hx e, fun b o e _ _ hx => ⟨o.slots, st.keep b o hx e⟩, fun b o e n hx => by rw [upd_ne (nt b o e)]; exact n, fun b o e hx => ⟨o, st.keep b o hx e⟩, fun b xs q => by rw [upd_ne (ne_of_none q hn)]; exact q, fun b o u q => by rw [upd_ne (ne_of_none q hn)]; exact q, fun b ps q => ⟨#[], by rw [upd_ne (ne_of_none q hn), q]; simp⟩⟩ ?_ st.bare (fun b hb => ⟨(hw b hb).2.2.2.1, (hw b hb).2.1, (hw b hb).2.2.2.2.1, (hw b hb).2.2.2.2.2⟩)
  intro b u q
  by_cases hb : b = t
  · subst hb
    rw [upd_same] at q
    cases q
    exact ⟨hob, hl, its, hv, htup⟩
  · rw [upd_ne hb] at q
    refine (I.hok b u q).stay (fun c v hc y => st.keep c v (fun hcw => ?_) y) (fun c r => by rw [upd_ne (ne_of_none r hn)]; exact r) fun c xs r => by rw [upd_ne (ne_of_none r hn)]; exact r
    have z := (hw c hcw).1
    rcases hc with rfl | hc
    · rw [q] at z; cases z
    · rw [hc] at z; cases z
end
end Kv
namespace Kv
open PySem PySem.Spec PyProof.Rows L2 GenW
section
variable {G : Gb} {F F' : Hp}
end
section
variable {X : Cx} {io : List Nat} {nm tgn : Str} {pt pc pcall pos : Pos} {e : Expr} {es : List Expr} {body : List Stmt} {fs : Ev → Option (List D)} {tf : TF} {vs : List Nat} {mb : MF}
end
end Kv
namespace Kv
open PySem PySem.Spec PyProof.Rows L2 GenW
end Kv
namespace Kv
open PySem PySem.Spec PyProof.Rows L2
def gNeg : D → Option O
  | .int i => some (.imm (.int (-i)))
  | _ => none
abbrev ng (f : Ev → Option D) : Ev → Option O := fun ev => (f ev).bind gNeg
theorem po_neg {X : Cx} {a : Expr} {fa : Ev → Option D} {pos : Pos} (ha : PB X a fa) : PO X (.UnaryOp .USub a pos) (ng fa) := by
  obtain ⟨t, a1, a2⟩ := ha
  refine ⟨_, pe_un un_neg a1, fun F H ev σ W o S hf Q hQ => ?_⟩
  obtain ⟨d, e1, e2⟩ := bnd hf
  cases d <;> first | (cases e2; done) | skip
  cases e2
  refine a2 F H ev σ W _ S e1 _ fun v F1 H1 c1 r1 => ⟨_, r1.int, ?_⟩
  exact hQ _ F1 H1 noW c1 (.imm im_int)
section
variable {X : Cx}
end
end Kv
namespace Kv
open PySem PySem.Spec PyProof.Rows L2
section
variable {X : Cx} {i : Nat} {c f y : Str} {py pos p1 apos cpos : Pos} {e : Expr} {fe : Ev → Option D}
end
section
variable {X : Cx} {k n i : Nat} {c m y : Str} {st : Stmt} {ps : List Str} {g : Fm} {py apos pos : Pos} {pl : Sem Bool}
end
end Kv
namespace Kv
open PySem PySem.Spec PyProof.Rows L2
section
variable {X : Cx}
variable {io : List Nat} {i : Nat} {y : Str} {py : Pos} {kx vx tg iter : Expr} {ifs : List Expr} {scope : Scope} {pos spos : Pos} {fi : Ev → Option (List D)} {tf : TF} {fc : Ev → Option Bool} {fk fv : Ev → Option D} {vs : List Nat}
end
end Kv
namespace Kv
open PySem PySem.Spec PyProof.Rows L2 ClX
end Kv
namespace Kv
open PySem PySem.Spec PyProof.Rows L2
def gReprS : List D → Option O
  | [.str s] => if (PyData.str (sT s)).shown.length ≤ sizeLine then some (.imm (.rep (.str (sT s)))) else none
  | [.non] => some (.imm (.rep .none))
  | [.bl b] => some (.imm (.rep (.bool b)))
  | [.int i] => if i.natAbs.log2 < 1920 then some (.imm (.rep (.int i))) else none
  | _ => none
def gReprA (ds : List D) : Option O := (gRepr ds).or (gReprS ds)
section
variable {X : Cx}
theorem call_reprS : CallR X (.builtin "repr") (fun xs H Q => (∃ z : Str, xs = [.str z] ∧ (reprText z).length ≤ sizeLine ∧ Q (.str (reprText z)) H) ∨ (xs = [.non] ∧ Q (.str "None") H) ∨ (∃ b : Bool, xs = [.bl b] ∧ Q (.str (if b then "True" else "False")) H) ∨ ∃ i : Int, xs = [.int i] ∧ i.natAbs.log2 < 1920 ∧ Q (.str (toString i)) H) := by
  intro pins s σ H xs us Q I r h
  rcases h with ⟨z, rfl, hz, q⟩ | ⟨rfl, q⟩ | ⟨b, rfl, q⟩ | ⟨i, rfl, hi, q⟩
  · obtain ⟨u, rfl, ru⟩ := r.one
    obtain ⟨t, rfl⟩ := ru
    exact P.repr_of_str ⟨.str (reprText z), H, I.tok _, ⟨_, rfl⟩, q⟩ hz
  · obtain ⟨u, rfl, ru⟩ := r.one
    cases ru
    exact P.repr_of_none ⟨.str "None", H, I.tok _, ⟨_, rfl⟩, q⟩
  · obtain ⟨u, rfl, ru⟩ := r.one
    cases ru
    exact P.repr_of_bool ⟨.str (if b then "True" else "False"), H, I.tok _, ⟨_, rfl⟩, q⟩
  · obtain ⟨u, rfl, ru⟩ := r.one
    obtain ⟨t, rfl⟩ := ru
    exact P.repr_of_int hi ⟨.str (toString i), H, I.tok _, ⟨_, rfl⟩, q⟩
theorem o_reprS : OpN X (.builtin "repr") gReprS := by
  refine ⟨_, call_reprS, fun F H vs ds o le tb h e Q q => ?_⟩
  unfold gReprS at e
  split at e
  · split at e
    · rename_i s hz
      cases e
      obtain ⟨v, rfl, hv⟩ := vws1 h
      unfold Vw Imm at hv
      obtain ⟨rfl, _⟩ := hv
      exact .inl ⟨_, rfl, hz, ret0 (o := .imm .non) le q (by unfold Imm; rfl)⟩
    · cases e
  · cases e
    obtain ⟨v, rfl, hv⟩ := vws1 h
    unfold Vw Imm at hv
    subst hv
    exact .inr (.inl ⟨rfl, ret0 (o := .imm .non) le q (by unfold Imm; rfl)⟩)
  · cases e
    obtain ⟨v, rfl, hv⟩ := vws1 h
    unfold Vw Imm at hv
    subst hv
    exact .inr (.inr (.inl ⟨_, rfl, ret0 (o := .imm .non) le q (by unfold Imm; rfl)⟩))
  · split at e
    · rename_i i hz
      cases e
      obtain ⟨v, rfl, hv⟩ := vws1 h
      unfold Vw Imm at hv
      subst hv
      exact .inr (.inr (.inr ⟨_, rfl, hz, ret0 (o := .imm .non) le q (by unfold Imm; rfl)⟩))
    · cases e
  · cases e
theorem o_reprA (hgu : X.A.guards = some []) (hu : X.A.units + 66 < cLine) : OpN X (.builtin "repr") gReprA := OpN.or (o_repr hgu hu) o_reprS
end
end Kv
namespace Kv
open PySem PySem.Spec PyProof.Rows L2
section
variable {X : Cx} {io : List Nat} {i j : Nat} {x y : Str} {px py pt pt2 pos : Pos} {a b : Expr} {ms : M (List O)} {tk : List (Option Nat)} {kt k2 : ExprContext}
end
end Kv
namespace Kv
open PySem PySem.Spec PyProof.Rows L2
section
variable {X : Cx} {tg e : Expr} {td t : TE} {apos cpos : Pos}
end
section
variable {X : Cx}
end
section
variable {X : Cx} {elt tg iter : Expr} {ifs : List Expr} {scope : Scope} {pos apos cpos : Pos} {fa : Ev → Option D} {tf : TF} {fc : Ev → Option Bool} {fe : Ev → Option D} {vs : List Nat}
end
end Kv
namespace Kv
open PySem PySem.Spec PyProof.Rows L2
section
variable {X : Cx}
end
end Kv
namespace Kv
open PySem PySem.Spec PyProof.Rows L2
section
variable {X : Cx} {o e : Expr} {fa fb : Ev → Option D} {apos cpos pos : Pos}
end
end Kv
namespace Kv
open PySem PySem.Spec PyProof.Rows L2
end Kv
namespace Kv
open PySem PySem.Spec PyProof.Rows L2
section
variable {X : Cx} {k n j : Nat} {c m : Str} {st : Stmt} {ps ks : List Str} {π : List Nat} {g : Fm} {kws : List Keyword} {fs : Ev → Option (List D)} {p pos : Pos}
end
end Kv
namespace Kv
open PySem PySem.Spec PyProof.Rows L2
section
variable {X : Cx} {a b : Expr} {fa fb : Ev → Option D} {pos : Pos}
end
end Kv
namespace Kv
open PySem PySem.Spec PyProof.Rows L2
section
variable {X : Cx} {pos p py : Pos} {c y : Str} {i : Nat}
end
section
variable {X : Cx}
end
section
variable {X : Cx} {scope : Scope} {pos pl pa pb py py' : Pos} {ifs : List Expr} {a b y : Str} {i j e : Nat} {mc : M Bool} {fe : Ev → Option D}
end
end Kv
namespace Kv
open PySem PySem.Spec PyProof.Rows L2
section
variable {prog : Program} {w : World} {A : Around} {E : Value → Shared → Prop} {s : Shared} {h h' : Heap} {a : Addr} {l : List Str}
def TxE (prog : Program) (w : World) (en : Int × Value) : Prop := ∃ y tk, en.2 = Value.str y tk ∧ en.1 = (mixKind prog w).hash (.inr y)
def txOf (en : Int × Value) : Str := match en.2 with
  | .str y _ => y
  | _ => ⟨#[]⟩
def TxS (prog : Program) (w : World) (h : Heap) (a : Addr) (l : List Str) : Prop :=
  ∃ ob en ep tb, h.get? a = some ob ∧ ob.ExactSet ∧ ob.data = .set en ep tb ∧ (∀ q ∈ en.toList, TxE prog w q) ∧ (en.toList.map txOf).Perm l ∧ l.Nodup ∧
    l.length < scanBound ∧ tb.fits en.size = true ∧ Ris tb.place.toList ∧ (w.params.followText "set-order" = true ∨ tb.led = true)
theorem TxS.keep (R : TxS prog w h a l) (k : ∀ o, h.get? a = some o → h'.get? a = some o) : TxS prog w h' a l := by
  obtain ⟨ob, en, ep, tb, h1, r⟩ := R
  exact ⟨ob, en, ep, tb, k ob h1, r⟩
end
section
variable {prog : Program} {w : World} {A : Around} {R : Result → Shared → Prop} {it : Addr} {fp wr : List Addr} {G : Array GenState → Array GenState → Prop} {n : Nat} {P : Nat → Value → Prop} {St : Nat → Shared → Prop}
end
section
variable {prog : Program} {w : World} {A : Around} {E : Value → Shared → Prop} {s : Shared}
end
end Kv
namespace Kv
open PySem PySem.Spec PyProof.Rows L2
section
variable {X : Cx} {a : Expr} {ta : TE} {p p2 pq pos : Pos}
end
section
variable {X : Cx} {a : Expr} {fa : Ev → Option D} {p p2 pq pos : Pos}
end
end Kv
namespace Kv
open PySem PySem.Spec PyProof.Rows L2
section
variable {X : Cx} {e : Expr} {fa : Ev → Option D} {k : Nat} {p1 p2 p3 pos : Pos}
end
section
variable {X : Cx} {a : Expr} {ma : M D} {p p2 pq pos : Pos}
end
end Kv
namespace Kv
open PySem PySem.Spec PyProof.Rows L2
section
variable {prog : Program} {w : World} {A : Around} {E : Value → Shared → Prop} {s : Shared}
end
section
variable {X : Cx} {e : Expr} {te : TE} {fa : Ev → Option D} {k : Nat} {p1 p2 p3 pos : Pos}
end
end Kv
namespace Kv
open PySem PySem.Spec PyProof.Rows L2
section
variable {X : Cx} {g : D → D → Option O} {a b : Expr} {pos : Pos} {ma mb : M D}
theorem PrimV.goM {r : R2} (h : PrimV X r g) {ta tb : TE} {F H : Hp} {ev ev' : Ev} {σ : L2.St} {W : Addr → Prop} {o : O} (S : Sta (gb X) F H ev σ W)
    (ha : ∀ F H ev σ W d ev', Sta (gb X) F H ev σ W → ma ev = some (d, ev') → ∀ Q : VK, (∀ v F' H' W', Chg F H W F' H' W' → Sta (gb X) F' H' ev' σ W' → Imm (gb X) F' d v → Q v H') → ta σ H Q)
    (hb : ∀ F H ev σ W d ev', Sta (gb X) F H ev σ W → mb ev = some (d, ev') → ∀ Q : VK, (∀ v F' H' W', Chg F H W F' H' W' → Sta (gb X) F' H' ev' σ W' → Imm (gb X) F' d v → Q v H') → tb σ H Q)
    (hf : m2 g ma mb ev = some (o, ev')) (Q : VK) (hQ : ∀ v F' H' W' P, Chg F H W F' H' (fun a => W' a ∨ P a) → Sta (gb X) F' H' ev' σ W' → Rep (gb X) F' H' o v P → (∀ a, P a → ¬ W' a) → Q v H') : tOp r ta tb σ H Q := by
  obtain ⟨x, ev1, e1, e2⟩ := bind_some hf
  obtain ⟨y, ev2, e3, e4⟩ := bind_some e2
  obtain ⟨e5, rfl⟩ := opt_some e4
  refine ha F H ev σ W x ev1 S e1 _ fun v F1 H1 W1 c1 S1 v1 => ?_
  refine hb F1 H1 ev1 σ W1 y _ S1 e3 _ fun u F2 H2 W2 c2 S2 v2 => ?_
  exact h F2 H2 v u x y o c2.le S2.tb (c2.imm v1) v2 e5 Q fun v' F' H' P c3 r3 => hQ v' F' H' W2 P ((c1.trans c2).trans (c3.lift S2)) (S2.chg0 c3) r3 (c3.newP S2)
end
end Kv
namespace Kv
open PySem PySem.Spec PyProof.Rows L2
section
variable {X : Cx}
end
end Kv
namespace Kv
open PySem PySem.Spec PyProof.Rows L2
def kPy : Key → PyData
  | .inl i => .int i
  | .inr x => .str x
def vPy : V → Option PyData
  | .non => some .none
  | .bl b => some (.bool b)
  | .int i => some (.int i)
  | .str x => some (.str x)
  | _ => none
def FKv : List (Key × V) → List (PyData × PyData) → Prop
  | [], r => r = []
  | (k, v) :: t, r => ∃ q r', r = (kPy k, q) :: r' ∧ vPy v = some q ∧ FKv t r'
theorem reads_key {h : Heap} {k : Key} {u : Value} (e : keyIs k u = true) : Reads h u (kPy k) [] := by
  rcases keyIs_shape e with ⟨i, t, rfl, rfl⟩ | ⟨x, t, rfl, rfl⟩
  · exact .int i t
  · exact .str x t
theorem reads_vPy {h : Heap} {v : V} {u : Value} {q : PyData} (r : RelV v u) (e : vPy v = some q) : Reads h u q [] := by
  cases v with
  | non => cases e; cases r; exact .none
  | bl b => cases e; cases r; exact .bool b
  | int i => cases e; obtain ⟨t, rfl⟩ := r; exact .int i t
  | str x => cases e; obtain ⟨t, rfl⟩ := r; exact .str x t
  | _ => cases e
theorem reads_kvs {P : Program} {w : World} {h : Heap} : ∀ {kvs : List (Key × V)} {vs : List (Key × Value)} {es : List DictEntry} {r : List (PyData × PyData)}, KV kvs vs → Pairs (mixKind P w) es vs → FKv kvs r →
    ReadsAll h (es.map (·.key)) (r.map (·.1)) [] ∧ ReadsAll h (es.map (·.val)) (r.map (·.2)) []
  | [], _, _, r, a, b, c => by
    cases a
    cases b
    cases (show r = [] from c)
    exact ⟨.nil, .nil⟩
  | (k, v) :: t, _, _, r, a, b, c => by
    cases a with
    | cons a1 a2 =>
      cases b with
      | cons b1 b2 b3 =>
        obtain ⟨q, r', rfl, c1, c2⟩ := c
        obtain ⟨i1, i2⟩ := reads_kvs a2 b3 c2
        obtain ⟨e1, e2⟩ := a1
        refine ⟨?_, ?_⟩
        · refine ReadsAll.cons (as := []) (bs := []) ?_ i1
          rw [show kPy k = kPy _ from congrArg kPy e1]
          exact reads_key b1
        · refine ReadsAll.cons (as := []) (bs := []) ?_ i2
          have z := reads_vPy (h := h) e2 c1
          rw [← b2] at z
          exact z
section
variable {X : Cx}
theorem call_reprK (hgu : X.A.guards = some []) (hu : X.A.units + 66 < cLine) : CallR X (.builtin "repr") (fun xs H Q => ∃ a kvs r, xs = [.ref a] ∧ Rd H a (.dK kvs) ∧ FKv kvs r ∧ (PyData.dict r).showable = true ∧ (PyData.dict r).depth ≤ 64 ∧ (PyData.dict r).shown.length ≤ sizeLine ∧ Q (.str (PyData.dict r).shown) H) := by
  intro pins s σ H xs us Q I rel h
  obtain ⟨a, kvs, r, rfl, hd, hk, hs, hz, hz2, q⟩ := h
  obtain ⟨u, rfl, ru⟩ := rel.one
  cases ru
  obtain ⟨_, sm, vs, rv, o, es, ep, ho, hx, hdat, _, hp, _⟩ := dk_rd I.hok hd
  obtain ⟨r1, r2⟩ := reads_kvs (h := s.heap) rv hp hk
  have rr : Reads s.heap (.ref a) (.dict r) (a :: [] ++ []) := .dict ho hx.1 hdat r1 r2
  refine repr_of_reads' rr hs (fun _ hm => ?_) hgu (by omega) (fun _ _ e => e) (fun h' u tk hk => ⟨.str _, H, I.kept hk, ⟨u, rfl⟩, q⟩) hz2
  have e : sysModules = a := by simpa using hm
  rw [← e] at sm
  simp at sm
end
def D.fpy : D → Option PyData
  | .non => some .none
  | .bl b => some (.bool b)
  | .int i => some (.int i)
  | .str s => some (.str (sT s))
  | _ => none
def D.fpys : List DK → List D → Option (List (PyData × PyData))
  | [], _ => some []
  | _, [] => some []
  | k :: ks, d :: ds => d.fpy.bind fun p => (D.fpys ks ds).map fun r => (kPy k.key, p) :: r
def gReprD : List D → Option O
  | [.dct ks ds] => (D.fpys ks ds).bind fun r => if (PyData.dict r).showable = true ∧ (PyData.dict r).depth ≤ 64 ∧ (PyData.dict r).shown.length ≤ sizeLine then some (.imm (.rep (.dict r))) else none
  | _ => none
theorem Imm.fpy {G : Gb} {F : Hp} {d : D} {v : V} {p : PyData} (h : Imm G F d v) (e : d.fpy = some p) : vPy v = some p := by
  cases d <;> cases e <;> unfold Imm at h <;> first | (obtain ⟨rfl, _⟩ := h; rfl) | (subst h; rfl)
theorem Imms.fpys {G : Gb} {F : Hp} : ∀ {ks : List DK} {ds : List D} {vs : List V} {r : List (PyData × PyData)}, Imms G F ds vs → ks.length = vs.length → D.fpys ks ds = some r → FKv ((ks.map DK.key).zip vs) r
  | [], _, _, r, _, _, e => by
    unfold D.fpys at e
    cases e
    show FKv (List.zip [] _) _
    rw [List.zip_nil_left]
    rfl
  | k :: ks, [], vs, r, h, hl, e => by
    unfold Imms at h
    subst h
    cases hl
  | k :: ks, d :: ds, vs, r, h, hl, e => by
    unfold Imms at h
    obtain ⟨v, r0, rfl, h1, h2⟩ := h
    unfold D.fpys at e
    obtain ⟨p, e1, e2⟩ := bnd e
    obtain ⟨r', e3, rfl⟩ := mp e2
    exact ⟨p, r', rfl, h1.fpy e1, Imms.fpys h2 (Nat.succ.inj hl) e3⟩
section
variable {X : Cx}
theorem o_reprD0 (hgu : X.A.guards = some []) (hu : X.A.units + 66 < cLine) : OpN X (.builtin "repr") gReprD := by
  refine ⟨_, call_reprK hgu hu, fun F H vs ds o le tb h e Q q => ?_⟩
  unfold gReprD at e
  split at e
  · obtain ⟨r, e1, e⟩ := bnd e
    split at e
    · rename_i hz
      cases e
      obtain ⟨v, rfl, hv⟩ := vws1 h
      obtain ⟨a, ws, rfl, h1, h2, h3⟩ := hv
      exact ⟨a, _, r, rfl, h1, h3.fpys h2 e1, hz.1, hz.2.1, hz.2.2, ret0 (o := .imm .non) le q (by unfold Imm; rfl)⟩
    · cases e
  · cases e
def gReprB (ds : List D) : Option O := (gReprA ds).or (gReprD ds)
theorem o_reprB (hgu : X.A.guards = some []) (hu : X.A.units + 66 < cLine) : OpN X (.builtin "repr") gReprB := OpN.or (o_reprA hgu hu) (o_reprD0 hgu hu)
end
end Kv
namespace Kv
open PySem PySem.Spec PyProof.Rows L2
section
variable {X : Cx}
end
end Kv
namespace Kv
open PySem PySem.Spec PyProof.Rows L2
section
variable {X : Cx} {pos : Pos} {a b : Expr} {rest : List Expr} {m m' : M D}
end
end Kv
namespace Kv
open PySem PySem.Spec PyProof.Rows L2
section
variable {X : Cx}
end
end Kv
namespace Kv
open PySem PySem.Spec PyProof.Rows L2
abbrev IT := Int × List Nat
section
variable {X : Cx}
def D.its : List D → Option (List IT)
  | [] => some []
  | .tup [.int i, .str z] :: r => (D.its r).map fun t => (i, z) :: t
  | _ :: _ => none
variable {o e : Expr} {fa fb : Ev → Option D} {apos cpos pos : Pos}
end
end Kv
namespace Kv
open PySem PySem.Spec PyProof.Rows L2
section
variable {X : Cx}
end
end Kv
namespace Kv
open PySem PySem.Spec PyProof.Rows L2
section
variable {X : Cx} {pos : Pos}
end
end Kv
namespace Kv
open PySem PySem.Spec PyProof.Rows L2
section
variable {prog : Program} {w : World} {A : Around} {E : Value → Shared → Prop} {s : Shared} {K : PySem.W.Frag} {x C : Addr} {ox : Obj} {od : Option Obj} {b : Value}
end
section
variable {X : Cx} {k : Nat} {c c' : Str} {st : Stmt} {ps : List Str} {g : Fm} {a b : Expr} {pos : Pos} {fa fb : Ev → Option D} {fo : Ev → Option O}
end
end Kv
namespace Kv
open PySem PySem.Spec PyProof.Rows L2
section
variable {X : Cx} {k n : Nat} {c c' : Str} {st : Stmt} {ps : List Str} {g : Fm} {a b e : Expr} {es : List Expr} {p pos : Pos} {fa fb : Ev → Option D} {ms : M (List D)}
end
section
variable {X : Cx} {c c2 : Str}
end
end Kv
namespace Kv
open PySem PySem.Spec PyProof.Rows L2 PySem.W
structure XBase (B newId initId : String) (bm : List Value) : Prop where
  F : ExcBaseFacts B newId initId bm
  S : StoreFacts B bm "object.__setattr__" "object"
  X : KxsFacts B initId
theorem xb_V : XBase "ValueError" "ValueError.__new__" "ValueError.__init__" [.type "ValueError", .type "Exception", .type "BaseException", .type "object"] := ⟨PySem.F.excBase_ValueError, PySem.F.store_ValueError, kxs_ValueError⟩
theorem xb_L : XBase "LookupError" "LookupError.__new__" "LookupError.__init__" [.type "LookupError", .type "Exception", .type "BaseException", .type "object"] := ⟨PySem.F.excBase_LookupError, PySem.F.store_LookupError, kxs_LookupError⟩
theorem xb_A : XBase "ArithmeticError" "ArithmeticError.__new__" "ArithmeticError.__init__" [.type "ArithmeticError", .type "Exception", .type "BaseException", .type "object"] := ⟨PySem.F.excBase_ArithmeticError, PySem.F.store_ArithmeticError, kxs_ArithmeticError⟩
theorem isSup_ok {st : Stmt} (h : isSup st = true) : ∃ p0 p1 p2 p3 p4, st = .Expr (.Call (.Attribute (.Call (.Name "super" p0) [] [] p1) "__init__" p2) [] [] p3) p4 ∧ (p2.endLine == p3.line) = true := by
  unfold isSup at h
  split at h
  · obtain ⟨h1, h2⟩ := He.ba h
    obtain ⟨h2, h3⟩ := He.ba h2
    rw [of_decide_eq_true h1, of_decide_eq_true h2]
    exact ⟨_, _, _, _, _, rfl, h3⟩
  · cases h
theorem isKeep_ok {f : Str} {st : Stmt} (h : isKeep f st = true) : ∃ p0 p1 p2 p3, st = .Assign [.Attribute (.Name "self" p0) f p1] (.Name f p2) p3 := by
  unfold isKeep at h
  split at h
  · obtain ⟨h1, h2⟩ := He.ba h
    obtain ⟨h2, h3⟩ := He.ba h2
    rw [of_decide_eq_true h1, of_decide_eq_true h2, of_decide_eq_true h3]
    exact ⟨_, _, _, _, rfl⟩
  · cases h
theorem isPars_ok {f : Str} {a : Arguments} (h : isPars f a = true) : ∃ x1 p1 x2 p2, a = ⟨[], [⟨"self", x1, p1⟩, ⟨f, x2, p2⟩], none, [], [], none, []⟩ := by
  unfold isPars at h
  split at h
  · obtain ⟨h1, h2⟩ := He.ba h
    rw [of_decide_eq_true h1, of_decide_eq_true h2]
    exact ⟨_, _, _, _, rfl⟩
  · cases h
theorem cloB_ok {K : PySem.W.Frag} {C : Addr} {l : List (Str × Addr)} (h : cloB K C l = true) : ∃ cc : Addr, l = [(("__class__" : Str), cc)] ∧ ∃ cl cld csl, K.lookup cc = some ⟨cl, cld, .cell (some (.ref C)), csl⟩ := by
  unfold cloB at h
  split at h
  · rename_i n cc
    obtain ⟨k1, k2⟩ := He.ba h
    rw [of_decide_eq_true k1]
    split at k2
    · rename_i cl cld D csl lc
      rw [of_decide_eq_true k2] at lc
      exact ⟨cc, rfl, cl, cld, csl, lc⟩
    · cases k2
  · cases h
theorem isBody_ok {f : Str} {b : FuncBody} (h : isBody f b = true) : ∃ p0 p1 p2 p3 p4 p5 p6 p7 p8, b = .stmts [.Expr (.Call (.Attribute (.Call (.Name "super" p0) [] [] p1) "__init__" p2) [] [] p3) p4, .Assign [.Attribute (.Name "self" p5) f p6] (.Name f p7) p8] ∧ (p2.endLine == p3.line) = true := by
  unfold isBody at h
  split at h
  · obtain ⟨g1, g2⟩ := He.ba h
    obtain ⟨p0, p1, p2, p3, p4, rfl, g3⟩ := isSup_ok g1
    obtain ⟨p5, p6, p7, p8, rfl⟩ := isKeep_ok g2
    exact ⟨_, _, _, _, _, _, _, _, _, rfl, g3⟩
  · cases h
theorem fileB_ok {K : PySem.W.Frag} {file : Str} {v : Value} (h : fileB K file v = true) : ∃ cda, v = .ref cda ∧ ∃ ccl cdd vs ccs tf, K.lookup cda = some ⟨ccl, cdd, .fields vs, ccs⟩ ∧ vs[2]? = some (.str file tf) := by
  unfold fileB at h
  split at h
  · rename_i cda
    split at h
    · rename_i ccl cdd vs ccs lcd
      split at h
      · rename_i z tf hv
        rw [of_decide_eq_true h] at hv
        exact ⟨cda, rfl, ccl, cdd, vs, ccs, tf, lcd, hv⟩
      · cases h
    · cases h
  · cases h
structure InitX (K : PySem.W.Frag) (file : Str) (C : Addr) (f : Str) (fI : Addr) : Prop where
  ex : ∃ oc od osl nm q x1 q1 x2 q2 p0 p1 p2 p3 p4 p5 p6 p7 p8 sc cc kwd doc pm an cda ct, K.lookup fI = some ⟨oc, od, .func ⟨nm, q, ⟨[], [⟨"self", x1, q1⟩, ⟨f, x2, q2⟩], none, [], [], none, []⟩, .stmts [.Expr (.Call (.Attribute (.Call (.Name "super" p0) [] [] p1) "__init__" p2) [] [] p3) p4, .Assign [.Attribute (.Name "self" p5) f p6] (.Name f p7) p8],
      sc, mainGlobals, [("__class__", cc)], .none, kwd, doc, pm, an, .ref cda, ct, builtinsNs⟩, osl⟩ ∧ PySem.W.codeIn K (.ref cda) q = true ∧ (p2.endLine == p3.line) = true ∧ scopeB f sc = true ∧ (∃ cl cld csl, K.lookup cc = some ⟨cl, cld, .cell (some (.ref C)), csl⟩) ∧ ∃ ccl cdd vs ccs tf, K.lookup cda = some ⟨ccl, cdd, .fields vs, ccs⟩ ∧ vs[2]? = some (.str file tf)
theorem initX_of {K : PySem.W.Frag} {file : Str} {C : Addr} {f : Str} {fI : Addr} {oc : Value} {od : Option Addr} {osl : Array (Option Value)} {nm q : Str} {pa : Arguments} {bd : FuncBody} {sc : Scope} {gl : Addr} {clo : List (Str × Addr)} {dfl kwd doc pm cd ct : Value} {an : Option Addr} {bl : Addr}
    (lk : K.lookup fI = some ⟨oc, od, .func ⟨nm, q, pa, bd, sc, gl, clo, dfl, kwd, doc, pm, an, cd, ct, bl⟩, osl⟩) (h1 : isPars f pa = true) (h2 : isBody f bd = true) (h3 : scopeB f sc = true) (h4 : gl = mainGlobals) (h5 : bl = builtinsNs) (h6 : cloB K C clo = true) (h7 : dfl = .none) (h8 : PySem.W.codeIn K cd q = true) (h9 : fileB K file cd = true) : InitX K file C f fI := by
  obtain ⟨x1, q1, x2, q2, e1⟩ := isPars_ok h1
  obtain ⟨p0, p1, p2, p3, p4, p5, p6, p7, p8, e2, e3⟩ := isBody_ok h2
  obtain ⟨cc, e6, c6⟩ := cloB_ok h6
  obtain ⟨cda, e9, c9⟩ := fileB_ok h9
  subst h4 h5 h7 e1 e2 e6 e9
  exact ⟨oc, od, osl, nm, q, x1, q1, x2, q2, p0, p1, p2, p3, p4, p5, p6, p7, p8, sc, cc, kwd, doc, pm, an, cda, ct, lk, h8, e3, h3, c6, c9⟩
theorem initB_ok {K : PySem.W.Frag} {file : Str} {C : Addr} {f : Str} {fI : Addr} (h : initB K file C f fI = true) : InitX K file C f fI := by
  unfold initB at h
  split at h
  · rename_i oc od fd osl lk
    obtain ⟨nm, q, pa, bd, sc, gl, clo, dfl, kwd, doc, pm, an, cd, ct, bl⟩ := fd
    obtain ⟨h1, h⟩ := He.ba h
    obtain ⟨h2, h⟩ := He.ba h
    obtain ⟨h3, h⟩ := He.ba h
    obtain ⟨h4, h⟩ := He.ba h
    obtain ⟨h5, h⟩ := He.ba h
    obtain ⟨h6, h⟩ := He.ba h
    obtain ⟨h7, h⟩ := He.ba h
    obtain ⟨h8, h9⟩ := He.ba h
    exact initX_of lk h1 h2 h3 (of_decide_eq_true h4) (of_decide_eq_true h5) h6 (of_decide_eq_true h7) h8 h9
  · cases h
structure XcC (K : PySem.W.Frag) (file : Str) (x f : Str) (B newId initId : String) (bm : List Value) : Prop where
  inB : excInitIn K (He.ga K x) bm newId = true
  over : excOver K (He.ga K x) bm = true
  ini : findIn K (.ref (He.ga K x)) "__init__" = some (some (.ref (He.ma K (He.ga K x) "__init__")))
  fn : isFn K (.ref (He.ma K (He.ga K x) "__init__")) = true
  sa : findIn K (.ref (He.ga K x)) "__setattr__" = some (some (.builtin "object.__setattr__"))
  tk : takerIn K (He.ga K x) f = some none
  hd : hasDictIn K (He.ga K x) = true
  sup : ks_superIn K (He.ga K x) (He.ga K x) "__init__" = some (some (.builtin initId))
  sub : subIn K (.ref (He.ga K x)) (.type B) = some true
  opq : nsIn K cStatics "thirdparty.any" = some none
  self : mroIn K (He.ga K x) (.ref (He.ga K x)) = some true
  nos : nsIn K mainGlobals "super" = some none
  exC : subIn K (.ref (He.ga K x)) (.type "BaseException") = some true
  tyC : typeIn K (.ref (He.ga K x)) = some (.type "type")
  kp : keepIn K (.ref (He.ga K x)) = true
  glo : nsIn K mainGlobals x = some (some (.ref (He.ga K x)))
  def_ : InitX K file (He.ga K x) f (He.ma K (He.ga K x) "__init__")
theorem xcB_ok {K : PySem.W.Frag} {file : Str} {x f : Str} {B newId initId : String} {bm : List Value} (h : xcB K file x f B newId initId bm = true) : XcC K file x f B newId initId bm := by
  unfold xcB at h
  obtain ⟨h1, h⟩ := He.ba h
  obtain ⟨h2, h⟩ := He.ba h
  obtain ⟨h3, h⟩ := He.ba h
  obtain ⟨h4, h⟩ := He.ba h
  obtain ⟨h5, h⟩ := He.ba h
  obtain ⟨h6, h⟩ := He.ba h
  obtain ⟨h7, h⟩ := He.ba h
  obtain ⟨h8, h⟩ := He.ba h
  obtain ⟨h9, h⟩ := He.ba h
  obtain ⟨h10, h⟩ := He.ba h
  obtain ⟨h11, h⟩ := He.ba h
  obtain ⟨h12, h⟩ := He.ba h
  obtain ⟨h13, h⟩ := He.ba h
  obtain ⟨h14, h⟩ := He.ba h
  obtain ⟨h15, h⟩ := He.ba h
  obtain ⟨h16, h17⟩ := He.ba h
  exact ⟨h1, h2, of_decide_eq_true h3, h4, of_decide_eq_true h5, of_decide_eq_true h6, h7, of_decide_eq_true h8, of_decide_eq_true h9, of_decide_eq_true h10, of_decide_eq_true h11, of_decide_eq_true h12, of_decide_eq_true h13, of_decide_eq_true h14, h15, of_decide_eq_true h16, initB_ok h17⟩
section
variable {X : Cx} {pins : List (Addr × Obj)} {σ : L2.St} {H : Hp} {s : Shared} {x f file : Str} {B newId initId : String} {bm : List Value} {v : V} {u : Value} {Q : XK}
theorem xc_end {C t4 dx : Addr} {hs : Int} {tk1 tk2 tk : Nat} {n' : Nat} {hp h5 : Heap} {g : Array GenState} {dr : Drawn} {os : OsState} (I : Inv X pins σ H ⟨hp, g, dr, tk, os⟩) (keep : ∀ b o, hp.get? b = some o → h5.get? b = some o) (exAt : h5.get? (hp.objs.size + 1) = some (excObj C t4 (some dx) .none))
    (dAt : h5.get? dx = some (dictOf [⟨hs, .str f tk1, u⟩] n')) (dGe : hp.objs.size ≤ dx) (dNe : dx ≠ hp.objs.size + 1) (rv : RelV v u) (R : Raises X (.ref C)) (q : H dx = none → Q (.ref C) (some dx) (upd H dx (.xd [(f, v)]))) : MkP X pins σ Q (.ref (hp.objs.size + 1)) ⟨h5, g, dr, tk2, os⟩ := by
  obtain ⟨G, g1, g2⟩ := restrict h5 fun b => decide (b ≠ hp.objs.size + 1)
  have gk : ∀ b, b ≠ hp.objs.size + 1 → G.get? b = h5.get? b := fun b hb => g1 b (decide_eq_true hb)
  have gn : G.get? (hp.objs.size + 1) = none := g2 _ (by simp)
  have ge : ∀ n, hp.get? (hp.objs.size + n) = none := fun n => Heap.get?_none_of_le (Nat.le_add_right _ _)
  have gold : ∀ b o, hp.get? b = some o → G.get? b = some o := fun b o e => by
    rw [gk b (fun z => by rw [z, ge 1] at e; cases e)]
    exact keep b o e
  have hd : H dx = none := I.hok.fresh dGe
  have J : Inv X pins σ (upd H dx (.xd [(f, v)])) ⟨G, g, dr, tk2, os⟩ := I.laid (t' := tk2) gold dGe (by
    refine ⟨fun y => if y = f then some u else none, ?_, fun y => ?_⟩
    · refine ⟨_, _, _, (gk dx dNe).trans dAt, rfl, ?_, ?_, fun y => ?_⟩
      · intro e he
        have he : e ∈ [(⟨hs, .str f tk1, u⟩ : DictEntry)] := by simpa using he
        rcases List.mem_cons.mp he with rfl | he
        · exact ⟨_, _, rfl⟩
        · cases he
      · exact List.pairwise_singleton _ _
      · show findBy _ _ y = (if y = f then some u else none)
        unfold findBy
        by_cases hy : y = f
        · rw [if_pos hy, hy]
          simp [Value.isStr]
        · rw [if_neg hy]
          simp [Value.isStr]
          exact fun z => hy z.symm
    · show RelO (List.lookup y [(f, v)]) (if y = f then some u else none)
      by_cases hy : y = f
      · rw [if_pos hy, hy]
        simp [List.lookup]
        exact rv
      · rw [if_neg hy]
        have : (y == f) = false := by simpa using hy
        simp [List.lookup, this]
        exact True.intro)
  exact ⟨hp.objs.size + 1, _, _, _, _, .ref C, some dx, rfl, J, fun b o e => by
    by_cases hb : b = hp.objs.size + 1
    · rw [hb, gn] at e; cases e
    · exact (gk b hb).symm.trans e, gn, exAt, ⟨rfl, rfl⟩, rfl, rfl, by rw [upd_ne (Ne.symm dNe)]; exact I.hok.fresh (Nat.le_add_right _ 1), rfl, I.bare, R, q hd⟩
theorem xc_call (XB : XBase B newId initId bm) (c : XcC X.K file x f B newId initId bm) (hfile : ((X.prog.main.file : Str) == file) = true) (htop : (X.prog.main.scope.names.lookup ("super" : Str)).isSome = false) (hf : f = "given" ∨ f = "index")
    (hr : Room 2 X.A) (I : Inv X pins σ H s) (rv : RelV v u) (q : ∀ d, H d = none → Q (.ref (He.ga X.K x)) (some d) (upd H d (.xd [(f, v)]))) :
    wpAny (model X.prog X.w) X.A (call (.ref (He.ga X.K x)) [u]) (MkP X pins σ Q) X.xe s := by
  obtain ⟨nm0, N0, qn0, bs0, bm0, hdct0, sn0, sub0, ab0, col0, dd0, k0, k1, k2, k3, k5, hC, hT⟩ := excInit_of I.kIn c.inB
  obtain ⟨oc, od, osl, nm, q', x1, q1, x2, q2, p0, p1, p2, p3, p4, p5, p6, p7, p8, sc, cc, kwd, doc, pm, an, cda, ct, lk, hcd, hpp, hsc, ⟨cl, cld, csl, lc⟩, ccl, cdd, vs, ccs, tf, lcd, hv2⟩ := c.def_.ex
  obtain ⟨oI, hoI, hcI⟩ : ∃ oI, s.heap.get? (He.ma X.K (He.ga X.K x) "__init__") = some oI ∧ oI.cls = .type "function" := by
    obtain ⟨o, ho, hc⟩ := Option.map_eq_some_iff.mp (show (X.K.lookup (He.ma X.K (He.ga X.K x) "__init__")).map (·.cls) = some (.type "function") from beq_iff_eq.mp c.fn)
    exact ⟨o, I.kIn _ _ ho, hc⟩
  obtain ⟨s1, hsc⟩ := He.ba hsc
  obtain ⟨s2, hsc⟩ := He.ba hsc
  obtain ⟨s3, hsc⟩ := He.ba hsc
  obtain ⟨s4, hsc⟩ := He.ba hsc
  obtain ⟨s5, hsc⟩ := He.ba hsc
  obtain ⟨s6, hsc⟩ := He.ba hsc
  obtain ⟨s7, s8⟩ := He.ba hsc
  have s1 := of_decide_eq_true s1
  have s5 := of_decide_eq_true s5
  have s6 := of_decide_eq_true s6
  have s7 := of_decide_eq_true s7
  have s8 := of_decide_eq_true s8
  have s2 : sc.isCoroutine = false := by simpa using s2
  have s3 : sc.isGenerator = false := by simpa using s3
  obtain ⟨mb, hmb, hbb⟩ := I.mod.blt
  have hG : s.heap.Ns mainGlobals X.mg := I.mod.glob.keeps I.bk
  have hB : s.heap.Ns builtinsNs mb := hmb.keeps I.bk
  have hlim := I.nolimit
  have mgS : X.mg "super" = none := PySem.W.mg_none_of I.kIn hG c.nos
  have Inv0 := I
  have K0 := I.kIn
  have sz1 : [u].length ≤ sizeLine := by show 1 ≤ sizeLine; rw [sizeLine_eq]; omega
  obtain ⟨hp, g, dr, tk, os⟩ := s
  have k2' : ∀ b o, hp.get? b = some o → ((hp.push (kdv_tup [u])).push (PySem.PX.excO (He.ga X.K x) hp.objs.size)).get? b = some o := fun b o e => Heap.get?_push_of_some _ (Heap.get?_push_of_some _ e)
  have hsz : ((hp.push (kdv_tup [u])).push (PySem.PX.excO (He.ga X.K x) hp.objs.size)).objs.size = hp.objs.size + 2 := by rw [Heap.size_push, Heap.size_push]
  have hrm := hr.make (He.ga X.K x) [u] []
  refine wpAny_call (PySem.PX.call_own XB.F hT hC (looks_findIn K0 c.ini) (fun self => exc_bind hoI hcI self) sz1 ?_)
  refine ks_codeAny_call_defAt (binds := [("self", .ref (hp.objs.size + 1)), (f, u)]) hrm.depth (k2' _ _ (K0 _ _ lk)) rfl (hlim.keeps k2') ((PySem.W.codeRec_of K0 hcd).keeps k2') rfl (BindsTo.of_eq (by rcases hf with rfl | rfl <;> rfl)) ?_ ?_ (fun h1 hns hk1 => ?_) s2 s3 s1
  · intro y hy e
    have := List.all_eq_true.mp s4 y hy
    rw [e] at this
    cases this
  · intro y hy
    rcases List.mem_cons.mp hy with rfl | hy
    · exact s5
    · rcases List.mem_cons.mp hy with rfl | hy
      · exact s6
      · cases hy
  have hL : hp.objs.size + 2 = ((hp.push (kdv_tup [u])).push (PySem.PX.excO (He.ga X.K x) hp.objs.size)).objs.size := hsz.symm
  rw [hsz] at hns ⊢
  have F1 : Fr hp (hp.objs.size + 2) h1 (fun y => ([("self", Value.ref (hp.objs.size + 1)), (f, u)] : List (Str × Value)).reverse.lookup y) := ⟨hns, fun b o e => hk1 b o (k2' b o e), Nat.le_add_right _ _⟩
  have ge : ∀ n, hp.get? (hp.objs.size + n) = none := fun n => Heap.get?_none_of_le (Nat.le_add_right _ _)
  have N1 : News hp (hp.objs.size + 2) h1 [(hp.objs.size + 1, excObj (He.ga X.K x) hp.objs.size none .none), (hp.objs.size, excTup [u])] := fun p hm => by
    rcases List.mem_cons.mp hm with rfl | hm
    · exact ⟨hk1 _ _ (by heap_get), by simp, ge 1⟩
    · rcases List.mem_cons.mp hm with rfl | hm
      · exact ⟨hk1 _ _ (by heap_get), by simp, ge 0⟩
      · cases hm
  have X1 : X.K.In h1 := K0.keeps F1.keep
  generalize hA1 : X.A.under (.builtin "type.__call__" ⟨.ref (He.ga X.K x) :: [u], []⟩) = A1
  generalize henv : callEnv _ _ _ = env
  have v1 : env.scope = sc := by rw [← henv]; rfl
  have v2 : ∀ y, env.kindOf y = sc.names.lookup y := fun y => by rw [← henv]; rfl
  have v3 : env.func = some (He.ma X.K (He.ga X.K x) "__init__") := by rw [← henv]; rfl
  have v4 : env.code = .ref cda := by rw [← henv]; rfl
  have v5 : env.cells = [(("__class__" : Str), cc)] := by rw [← henv]; rfl
  have v6 : env.globals = mainGlobals := by rw [← henv]; rfl
  have v7 : env.builtins = builtinsNs := by rw [← henv]; rfl
  have v8 : env.locals = hp.objs.size + 2 := by rw [← henv]; rfl
  clear henv
  have he : eval (.Call (.Attribute (.Call (.Name "super" p0) [] [] p1) "__init__" p2) [] [] p3) env = (do
      let ov ← attributeBase (.Call (.Name "super" p0) [] [] p1) "__init__" env (eval (.Call (.Name "super" p0) [] [] p1) env)
      standAt p2.atName
      let (f, first) ← holding [ov] (getMethod ov "__init__" (do return (← importBound (.Call (.Name "super" p0) [] [] p1) env).getD true))
      callWith p3 f first (backTo p3 (starEach [] env)) []) := by
    show (do
      let ov ← attributeBase (.Call (.Name "super" p0) [] [] p1) "__init__" env (eval (.Call (.Name "super" p0) [] [] p1) env)
      standAt p2.atName
      methodCall (.Call (.Name "super" p0) [] [] p1) "__init__" p2 p3 env ov 0 (backTo p3 (starEach [] env)) (backToKw p3 (keywordEach [] env))) = _
    unfold methodCall methodCallPos
    simp only [hpp, Bool.or_true, if_true, pure_bind]
    rfl
  refine ks_wpAt_execs_cons (ks_wpAt_Expr_any (ks_wpAt_MethodCall ?_ he) ?_ rfl)
  rotate_left
  · unfold interactive
    rw [v1, s1]
    rfl
  refine ks_wpAt_super_base (f := He.ma X.K (He.ga X.K x) "__init__") (cc := cda) ((v2 _).trans s7) ((v2 _).trans s8) (by decide) v3 (X1 _ _ lk) rfl rfl v4 (X1 _ _ lcd) rfl hv2 hfile htop ?_
  refine ks_loadName_global (by rw [v1]; exact s1) ((v2 _).trans s7) (Calls.loadGlobal_builtin (mg := X.mg) (mb := mb) (by rw [v6]; exact hG.keeps F1.keep) mgS (by rw [v7]; exact hB.keeps F1.keep) ((hbb _ (by decide +kernel)).trans PyProof.Rows.Boot.«super») ⟨rfl, ?_⟩)
  refine wpAny_loadName_free (by rw [v1]; exact s1) ((v2 _).trans s8) (c := cc) (by rw [v5]; rfl) ⟨_, X1 _ _ lc, rfl⟩ ?_
  refine wpAny_loadName_local (by rw [v1]; exact s1) ((v2 _).trans s5) (by rw [v8]; exact F1.ns) (v := .ref (hp.objs.size + 1)) (by rcases hf with rfl | rfl <;> rfl) ?_
  obtain ⟨oC, hCo, hCd⟩ : ∃ oC, h1.get? (He.ga X.K x) = some oC ∧ ∃ cd, oC.data = .cls cd := ⟨_, F1.keep _ _ hC, _, rfl⟩
  obtain ⟨cdC, hCd⟩ := hCd
  refine ks_wpAny_isType_cls hCo hCd ⟨rfl, ?_⟩
  have Icls : InstAt h1 (hp.objs.size + 1) (excObj (He.ga X.K x) hp.objs.size none .none) (He.ga X.K x) none := ⟨(N1 _ (List.mem_cons_self ..)).1, rfl, rfl, trivial⟩
  refine ks_wpAny_call_super hCo hCd Icls.at_ rfl (fun c e => by cases e) (looks_mroIn X1 c.self) (fun h2 e2 kk2 => ?_)
  obtain ⟨F2, N2, lt2⟩ := ks_newsPush (s := ⟨h1, g, dr, tk + 2, os⟩) (o := ks_superObj (He.ga X.K x) (hp.objs.size + 1) (He.ga X.K x)) F1 N1 rfl e2 kk2
  have X2 : X.K.In h2 := K0.keeps F2.keep
  have I2 : InstAt h2 (hp.objs.size + 1) (excObj (He.ga X.K x) hp.objs.size none .none) (He.ga X.K x) none := ⟨(N2 _ (.tail _ (.head _))).1, rfl, rfl, trivial⟩
  refine kxs_method XB.X F2 K0 N2 (List.mem_cons_self ..) I2 c.opq c.sup c.sub (by decide) (fun q3 h3 F3 N3 lt3 => ?_)
  refine kxs_callWith0 N3 (List.mem_cons_self ..) (kxs_call F3 K0 N3 XB.F c.inB (List.mem_cons_self ..) (.tail ?_ (.tail ?_ (.head ?_))) (by show 0 ≤ sizeLine; omega) (fun t4 h4 F4 N4 lt4 => ?_))
  · exact Nat.ne_of_gt (lt3 _ (.tail _ (.head _)))
  · exact Nat.ne_of_gt (lt2 _ (.head _))
  · intro p hm
    rcases List.mem_cons.mp hm with rfl | hm
    · show hp.objs.size ≠ hp.objs.size + 1
      omega
    · cases hm
  show _root_.PySem.wpAt _ _ _ _ _ _ _
  refine ks_wpAt_execs_cons (ks_wpAt_Assign_Attr (wpAt_of_wpAny (wpAny_Name (wpAny_loadName_local (by rw [v1]; exact s1) ((v2 _).trans s6) (by rw [v8]; exact F4.ns) (v := u) (by rcases hf with rfl | rfl <;> rfl) ?_) (by rcases hf with rfl | rfl <;> decide))) rfl)
  refine wpAny_Name (wpAny_loadName_local (by rw [v1]; exact s1) ((v2 _).trans s5) (by rw [v8]; exact F4.ns) (v := .ref (hp.objs.size + 1)) (by rcases hf with rfl | rfl <;> rfl) ?_) (by decide)
  refine set_exc0 XB.S F4 K0 N4 (.tail _ (.tail _ (.tail _ (.head _)))) c.sa c.over c.tk c.hd rfl (.tail ?_ (.tail ?_ (.tail ?_ (.head ?_)))) (by show 1 ≤ 1000; omega) (fun dx h5 F5 N5 lt5 => ?_)
  · exact Nat.ne_of_gt (lt4 _ (.tail _ (.tail _ (.head _))))
  · exact Nat.ne_of_gt (lt3 _ (.tail _ (.head _)))
  · exact Nat.ne_of_gt (lt2 _ (.head _))
  · intro p hm
    rcases List.mem_cons.mp hm with rfl | hm
    · show hp.objs.size ≠ hp.objs.size + 1
      omega
    · cases hm
  refine wpAt_of_wpAny (wpAny_execs_nil ?_)
  have ge : ∀ n, hp.get? (hp.objs.size + n) = none := fun n => Heap.get?_none_of_le (Nat.le_add_right _ _)
  have exAt : h5.get? (hp.objs.size + 1) = some (excObj (He.ga X.K x) t4 (some dx) .none) := (N5 _ (.tail _ (.tail _ (.tail _ (.tail _ (.head _)))))).1
  have dAt := (N5 _ (.head _)).1
  have dNew : hp.get? dx = none := (N5 _ (.head _)).2.2
  have dGe : hp.objs.size ≤ dx := Nat.le_trans (Nat.le_add_right _ 1) (Nat.le_of_lt (lt5 (hp.objs.size + 1, excObj (He.ga X.K x) t4 none .none) (.tail _ (.tail _ (.tail _ (.head _))))))
  have dNe : dx ≠ hp.objs.size + 1 := Nat.ne_of_gt (lt5 (hp.objs.size + 1, excObj (He.ga X.K x) t4 none .none) (.tail _ (.tail _ (.tail _ (.head _)))))
  exact ⟨rfl, xc_end Inv0 F5.keep exAt dAt dGe dNe rv (raises_own c.exC c.tyC) (q dx)⟩
end
end Kv
namespace Kv
open PySem PySem.Spec PyProof.Rows L2
structure Er where
  c : Str
  ns : List Str
  ds : List D
def ErFd (G : Gb) (F : Hp) (d : Option Addr) (e : Er) : Prop := match d with
  | some dd => ∃ vs, F dd = some (.xd (e.ns.zip vs)) ∧ e.ns.length = vs.length ∧ Imms G F e.ds vs
  | none => e.ns = []
theorem ErFd.mono {G : Gb} {F F' : Hp} {d : Option Addr} {e : Er} (h : ErFd G F d e) (sm : Same F F') : ErFd G F' d e := by
  cases d with
  | none => exact h
  | some dd =>
    obtain ⟨vs, h2, h3, h4⟩ := h
    exact ⟨vs, sm _ _ h2, h3, Imms.mono sm _ _ h4⟩
def ErAt (G : Gb) (F H : Hp) (cls : Value) (d : Option Addr) (e : Er) : Prop := ∃ C, cls = .ref C ∧ G.mg e.c = some (.ref C) ∧ ErFd G F d e
inductive Rx (α : Type) where | ok (a : α) | er (e : Er)
abbrev MX (α : Type) := Ev → Option (Rx α × Ev)
def lfx {α : Type} (m : M α) : MX α := fun ev => (m ev).map fun p => (.ok p.1, p.2)
def ExOk (G : Gb) (io : List Nat) (F H : Hp) (σ : L2.St) (W : Addr → Prop) (ev' : Ev) (e : Er) (Wx : WX) : Prop := ∀ σ' F' H' W' cls d, Chg F H W F' H' W' → Sta G F' H' ev' σ' W' → Fix io σ σ' → ErAt G F' H' cls d e → Wx cls d σ' H'
def EndX (G : Gb) (io : List Nat) (F H : Hp) (σ : L2.St) (W : Addr → Prop) (r : Rx Fl) (ev' : Ev) (Wx : WX) (D : Ends) : Prop := match r with
  | .ok fl => EndOk G io F H σ W fl ev' D
  | .er e => ExOk G io F H σ W ev' e Wx
def SndX (G : Gb) (io : List Nat) (Wx : WX) (t : TS) (m : MX Fl) : Prop := ∀ F H ev σ W r ev', Sta G F H ev σ W → m ev = some (r, ev') → ∀ D : Ends, EndX G io F H σ W r ev' Wx D → t D σ H
def MSx (X : Cx) (io : List Nat) (st : Stmt) (m : MX Fl) : Prop := ∀ Wx : WX, Takes X Wx → ∃ t : TS, PS X st t ∧ SndX (gb X) io Wx t m
def MSxs (X : Cx) (io : List Nat) (sts : List Stmt) (m : MX Fl) : Prop := ∀ Wx : WX, Takes X Wx → ∃ t : TS, PSs X sts t ∧ SndX (gb X) io Wx t m
def OutX (G : Gb) (F H : Hp) (σ : L2.St) (W : Addr → Prop) (r : Rx O) (ev' : Ev) (Wx : WX) (Q : VK) : Prop := match r with
  | .ok o => ∀ v F' H' W' P, Chg F H W F' H' (fun a => W' a ∨ P a) → Sta G F' H' ev' σ W' → Rep G F' H' o v P → (∀ a, P a → ¬ W' a) → Q v H'
  | .er e => ∀ F' H' W' cls d, Chg F H W F' H' W' → Sta G F' H' ev' σ W' → ErAt G F' H' cls d e → Wx cls d σ H'
def MOx (X : Cx) (e : Expr) (m : MX O) : Prop := ∀ Wx : WX, Takes X Wx → ∃ t : TE, PE X e t ∧ ∀ F H ev σ W r ev', Sta (gb X) F H ev σ W → m ev = some (r, ev') → ∀ Q : VK, OutX (gb X) F H σ W r ev' Wx Q → t σ H Q
theorem lfx_some {α : Type} {m : M α} {r : Rx α} {ev ev' : Ev} (h : lfx m ev = some (r, ev')) : ∃ a, m ev = some (a, ev') ∧ r = .ok a := by
  unfold lfx at h
  cases q : m ev with
  | none => rw [q] at h; cases h
  | some p => rw [q] at h; cases h; exact ⟨p.1, rfl, rfl⟩
section
variable {X : Cx} {io : List Nat} {e : Expr} {st : Stmt} {sts : List Stmt} {pos : Pos} {ma mb : MX Fl}
theorem MO.x {m : M O} (h : MO X e m) : MOx X e (lfx m) := by
  obtain ⟨t, h1, h2⟩ := h
  refine fun Wx tk => ⟨t, h1, fun F H ev σ W r ev' S hf Q hQ => ?_⟩
  obtain ⟨o, e1, rfl⟩ := lfx_some hf
  exact h2 F H ev σ W o ev' S e1 Q hQ
theorem MS.x {m : MF} (h : MS X io st m) : MSx X io st (lfx m) := by
  obtain ⟨t, h1, h2⟩ := h
  refine fun Wx tk => ⟨t, h1, fun F H ev σ W r ev' S hf D hD => ?_⟩
  obtain ⟨o, e1, rfl⟩ := lfx_some hf
  exact h2 F H ev σ W o ev' S e1 D hD
theorem MSs.x {m : MF} (h : MSs X io sts m) : MSxs X io sts (lfx m) := by
  obtain ⟨t, h1, h2⟩ := h
  refine fun Wx tk => ⟨t, h1, fun F H ev σ W r ev' S hf D hD => ?_⟩
  obtain ⟨o, e1, rfl⟩ := lfx_some hf
  exact h2 F H ev σ W o ev' S e1 D hD
theorem EndX.step {G : Gb} {F H F1 H1 : Hp} {σ σ1 : L2.St} {W W1 : Addr → Prop} {r : Rx Fl} {ev' : Ev} {Wx : WX} {Dd : Ends} (c : Chg F H W F1 H1 W1) (fx : Fix io σ σ1) (h : EndX G io F H σ W r ev' Wx Dd) : EndX G io F1 H1 σ1 W1 r ev' Wx Dd := by
  cases r with
  | ok fl => exact EndOk.step c fx h
  | er e => exact fun σ' F' H' W' cls d c' S' f' er => h σ' F' H' W' cls d (c.trans c') S' (fx.trans f') er
end
structure FnX (P : Program) (w : World) (K : PySem.W.Frag) (mg : Str → Option Value) (base : Heap) (k : Nat) (f : Addr) (fd : FuncData) (ps : List Str) (sp : Sp) : Prop where
  len : ∀ xs G Z E, sp xs G Z E → xs.length = ps.length
  run : ∀ (B : Around) (fr : List Env) (t : Shared) (G : Hp) (args : Args) (us : List Value) (xs : List V) (Z : VK) (E : XK), Room k B → B.guards = some [] → Env0 P w K mg base B fr t G → BindsTo t fd args (ps.zip us) → Vals xs us → sp xs G Z E →
    codeAny (model P w) B (.call (.ref f) args) (CR (L2.CX P w) fr P w G t Z E) t
theorem FnX.mono {P : Program} {w : World} {K : PySem.W.Frag} {mg : Str → Option Value} {base : Heap} {j k : Nat} {f : Addr} {fd : FuncData} {ps : List Str} {sp : Sp} (F : FnX P w K mg base j f fd ps sp) (h : j ≤ k) : FnX P w K mg base k f fd ps sp :=
  ⟨F.len, fun B fr t G args us xs Z E hr => F.run B fr t G args us xs Z E (hr.mono h)⟩
abbrev Fmx := List O → Option (Rx O × Ev)
def spX (G : Gb) (n : Nat) (g : Fmx) : Sp := fun vs H Q E => vs.length = n ∧ ∃ F os W r evr, Sta G F H (os.map some) (vs.map some) W ∧ g os = some (r, evr) ∧ (match r with
  | .ok o => ∀ v F' H' W' P, Chg F H W F' H' (fun a => W' a ∨ P a) → Sta G F' H' evr (vs.map some) W' → Rep G F' H' o v P → (∀ a, P a → ¬ W' a) → Q v H'
  | .er x => ∀ F' H' W' cls d, Chg F H W F' H' W' → Sta G F' H' evr (vs.map some) W' → ErAt G F' H' cls d x → E cls d H')
section
variable {P : Program} {w : World} {K : PySem.W.Frag} {mg : Str → Option Value} {base : Heap}
structure Gx (P : Program) (w : World) (K : PySem.W.Frag) (mg : Str → Option Value) (base : Heap) (k : Nat) (x : Str) (st : Stmt) (ps : List Str) (g : Fmx) : Prop where
  ex : ∃ f fd, FunD K x x (defArgs st) (defBody st) (defScope st) [] [] f fd ∧ mg x = some (.ref f) ∧ Binds K fd ps [] ∧ FnX P w K mg base k f fd ps (spX ⟨K, mg⟩ ps.length g)
end
section
variable {X : Cx} {k n : Nat} {f : Addr} {fd : FuncData} {x : Str} {st : Stmt} {ps : List Str} {sp : Sp} {g : Fmx} {e : Expr} {es : List Expr} {fs : Ev → Option (List D)} {ms : M (List D)} {p pos : Pos} {t : TA} {Wx : WX}
end
end Kv
namespace Kv
open PySem PySem.Spec PyProof.Rows L2 LamX
section
variable {X : Cx} {pins : List (Addr × Obj)} {σ : L2.St} {H : Hp} {s : Shared}
end
section
variable {X : Cx} {x1 x2 x3 n : Str} {c1 c2 c3 : Addr} {i : Nat} {body suite : List Stmt} {b₀ : Stmt} {q1 q2 q3 pos pos' tpos : Pos} {tk0 : Nat} {tb : WX → TS} {ts : Addr → Value → Option Addr → TS}
end
end Kv
namespace Kv
open PySem PySem.Spec PyProof.Rows L2
def D.bs : List D → Option (List Bool)
  | [] => some []
  | .bl b :: ds => (D.bs ds).map fun bs => b :: bs
  | _ :: _ => none
theorem Imms.bs {G : Gb} {F : Hp} : ∀ {ds : List D} {vs : List V} {ys : List Bool}, Imms G F ds vs → D.bs ds = some ys → vs = ys.map V.bl
  | [], _, _, h, e => by
    unfold Imms at h
    cases e
    exact h
  | d :: ds, _, _, h, e => by
    cases d <;> first | (cases e; done) | skip
    unfold Imms at h
    obtain ⟨v, r, rfl, h1, h2⟩ := h
    obtain ⟨ys, e1, rfl⟩ := mp e
    unfold Imm at h1
    rw [h1, Imms.bs h2 e1]
    rfl
theorem vals_bl {vs : List Value} : ∀ {bs : List Bool}, Vals (bs.map V.bl) vs → vs = bs.map Value.bool
  | [], h => by cases h; rfl
  | b :: bs, h => by
    cases h with
    | cons r h' =>
      have r : _ = Value.bool b := r
      rw [r, vals_bl h']
      rfl
theorem reads_bl {h : Heap} : ∀ bs : List Bool, ReadsAll h (bs.map Value.bool) (bs.map PyData.bool) []
  | [] => .nil
  | b :: bs => ReadsAll.cons (as := []) (bs := []) (.bool b) (reads_bl bs)
theorem plain_bl : ∀ bs : List Bool, PyData.plainAll (bs.map PyData.bool) = true
  | [] => rfl
  | b :: bs => by
    show (PyData.plain (.bool b) && PyData.plainAll (bs.map PyData.bool)) = true
    rw [plain_bl bs]
    rfl
theorem depth_bl : ∀ bs : List Bool, PyData.depthAll (bs.map PyData.bool) = 0
  | [] => rfl
  | b :: bs => by
    show max (PyData.depth (.bool b)) (PyData.depthAll (bs.map PyData.bool)) = 0
    rw [depth_bl bs]
    rfl
theorem mt_lcntB {X : Cx} (hu : X.A.units + 4 < cLine) : MtR X "list.count" (fun x xs H Q => ∃ (a : Addr) (bs : List Bool) (k : Bool), x = V.ref a ∧ xs = [.bl k] ∧ SqL X.K H a (bs.map V.bl) ∧ Q (.int (bs.count k : Nat)) H) := by
  intro pins s σ H x xs v us Q I rx rxs h
  obtain ⟨a, bs, k, rfl, rfl, hs, q⟩ := h
  cases rx
  obtain ⟨u, rfl, hu1⟩ := vals1 rxs
  have hu1 : u = Value.bool k := hu1
  subst hu1
  obtain ⟨its, rv, p, hz⟩ := I.list hs
  have e := vals_bl rv
  subst e
  have this : (bs.map PyData.bool).countP (fun y => PyData.eqv y (.bool k)) = bs.count k := by
    rw [List.countP_map]
    unfold List.count
    congr 1
  refine PySem.SeqAt.count_list_data (vs := (bs.map Value.bool).toArray) p.isList (by simpa using reads_bl bs) (.bool k) (plain_bl bs) rfl (by rw [depth_bl]; simp; omega) ?_
  rw [this]
  exact ⟨.int _, H, I.tok _, ⟨_, rfl⟩, q⟩
theorem mt_lidxB {X : Cx} (hu : X.A.units + 4 < cLine) : MtR X "list.index" (fun x xs H Q => ∃ (a : Addr) (bs : List Bool) (k : Bool), x = V.ref a ∧ xs = [.bl k] ∧ SqL X.K H a (bs.map V.bl) ∧ k ∈ bs ∧ Q (.int (bs.idxOf k : Nat)) H) := by
  intro pins s σ H x xs v us Q I rx rxs h
  obtain ⟨a, bs, k, rfl, rfl, hs, hk, q⟩ := h
  cases rx
  obtain ⟨u, rfl, hu1⟩ := vals1 rxs
  have hu1 : u = Value.bool k := hu1
  subst hu1
  obtain ⟨its, rv, p, hz⟩ := I.list hs
  have e := vals_bl rv
  subst e
  exact PySem.W.index_list_datum (vs := bs.map Value.bool) (xs := bs) (x := k) p.isList ⟨[], reads_bl bs⟩ ⟨[], .bool k⟩ (by show X.A.units + 1 + 0 < cLine; omega) (by simpa using hz) hk ⟨.int _, H, I.tok _, ⟨_, rfl⟩, q⟩
def gCntB : D → D → Option O
  | .lst ds, .bl k => (D.bs ds).map fun bs => .imm (.int (bs.count k : Nat))
  | _, _ => none
def gIdxB : D → D → Option O
  | .lst ds, .bl k => (D.bs ds).bind fun bs => if k ∈ bs then some (.imm (.int (bs.idxOf k : Nat))) else none
  | _, _ => none
section
variable {X : Cx} {o e : Expr} {fa fb : Ev → Option D} {apos cpos pos : Pos}
theorem po_cntB (hu : X.A.units + 4 < cLine) (ho : PB X o fa) (he : PV X e fb) (hs : starEach [e] X.env = (false, eval e X.env) :: starEach [] X.env := by rfl) (hbase : attributeBase o "count" X.env (eval o X.env) = eval o X.env := by rfl) (hline : (apos.endLine == cpos.line) = true := by rfl) :
    PO X (.Call (.Attribute o "count" apos) [e] [] cpos) (f2 gCntB fa fb) := by
  obtain ⟨t, h1, h2⟩ := ho
  obtain ⟨u, h3, h4⟩ := he
  refine ⟨_, pe_bm F.plainAttrs_list F.slot_list_count F.type_list_count (mt_lcntB hu) h1 (pa_cons h3 pa_nil hs) hbase (by rw [hs]; rfl) hline hs, fun F H ev σ W out S hf Q hQ => ?_⟩
  obtain ⟨x, e1, e2⟩ := bnd hf
  obtain ⟨z, e3, e4⟩ := bnd e2
  cases x <;> cases z <;> first | (cases e4; done) | skip
  rename_i ds k
  obtain ⟨ns, e5, e6⟩ := mp e4
  subst e6
  refine h2 F H ev σ W _ S e1 _ fun v F1 H1 c1 r1 => ?_
  obtain ⟨a, ws, rfl, q1, q2⟩ := r1
  obtain rfl := Imms.bs q2 e5
  refine ⟨.inl ⟨rfl, _, .inl (.inl q1)⟩, ?_⟩
  refine h4 F1 H1 ev σ W _ (S.chg0 c1) e3 _ fun v2 F2 H2 c2 r2 => ?_
  unfold Imm at r2
  subst r2
  exact ⟨a, ns, k, rfl, rfl, .inl (.inl (c2.kpt a _ (fun z => z) q1)), hQ (.int (ns.count k : Nat)) F2 H2 noW (c1.trans c2) (.imm im_int)⟩
theorem po_idxB (hu : X.A.units + 4 < cLine) (ho : PB X o fa) (he : PV X e fb) (hs : starEach [e] X.env = (false, eval e X.env) :: starEach [] X.env := by rfl) (hbase : attributeBase o "index" X.env (eval o X.env) = eval o X.env := by rfl) (hline : (apos.endLine == cpos.line) = true := by rfl) :
    PO X (.Call (.Attribute o "index" apos) [e] [] cpos) (f2 gIdxB fa fb) := by
  obtain ⟨t, h1, h2⟩ := ho
  obtain ⟨u, h3, h4⟩ := he
  refine ⟨_, pe_bm F.plainAttrs_list F.slot_list_index F.type_list_index (mt_lidxB hu) h1 (pa_cons h3 pa_nil hs) hbase (by rw [hs]; rfl) hline hs, fun F H ev σ W out S hf Q hQ => ?_⟩
  obtain ⟨x, e1, e2⟩ := bnd hf
  obtain ⟨z, e3, e4⟩ := bnd e2
  cases x <;> cases z <;> first | (cases e4; done) | skip
  rename_i ds k
  obtain ⟨ns, e5, e6⟩ := bnd e4
  split at e6
  · rename_i hk
    cases e6
    refine h2 F H ev σ W _ S e1 _ fun v F1 H1 c1 r1 => ?_
    obtain ⟨a, ws, rfl, q1, q2⟩ := r1
    obtain rfl := Imms.bs q2 e5
    refine ⟨.inl ⟨rfl, _, .inl (.inl q1)⟩, ?_⟩
    refine h4 F1 H1 ev σ W _ (S.chg0 c1) e3 _ fun v2 F2 H2 c2 r2 => ?_
    unfold Imm at r2
    subst r2
    exact ⟨a, ns, k, rfl, rfl, .inl (.inl (c2.kpt a _ (fun z => z) q1)), hk, hQ (.int (ns.idxOf k : Nat)) F2 H2 noW (c1.trans c2) (.imm im_int)⟩
  · cases e6
end
structure ExcF (K : PySem.W.Frag) (C : Addr) : Prop where
  cls : (PySem.W.clsIn K C).isSome = true
  ga : PySem.W.findIn K (.ref C) "__getattribute__" = some (some (.builtin "BaseException.__getattribute__"))
  gt : PySem.W.findIn K (.ref C) "__getattr__" = some none
  sub : PySem.W.subIn K (.ref C) (.type "BaseException") = some true
  at_ : PySem.W.findIn K (.ref C) "__class__" = some (some (.builtin "object.__class__"))
  sp : PySem.W.specialIn K (.builtin "object.__class__") "__get__" = some (some (.builtin "getset_descriptor.__get__"))
  tk : PySem.W.takesIn K (.builtin "object.__class__") = some true
  mr : PySem.W.mroIn K C (.type "object") = some true
  hd : PySem.W.hasDictIn K C = true
end Kv
namespace Kv
open PySem PySem.Spec PyProof.Rows L2
structure ErS (G : Gb) (i : Nat) (a : Addr) (dd : Option Addr) (er : Er) (F : Hp) (σ : L2.St) : Prop where
  sl : σ[i]? = some (some (.ref a))
  fd : ErFd G F dd er
def POe (X : Cx) (i : Nat) (a : Addr) (dd : Option Addr) (er : Er) (e : Expr) (f : Ev → Option O) : Prop := ∃ t : TE, PE X e t ∧ ∀ F H ev σ W o, ErS (gb X) i a dd er F σ → Sta (gb X) F H ev σ W → f ev = some o →
  ∀ Q : VK, (∀ v F' H' P, Chg F H noW F' H' P → Rep (gb X) F' H' o v P → Q v H') → t σ H Q
def PVe (X : Cx) (i : Nat) (a : Addr) (dd : Option Addr) (er : Er) (e : Expr) (f : Ev → Option D) : Prop := ∃ t : TE, PE X e t ∧ ∀ F H ev σ W d, ErS (gb X) i a dd er F σ → Sta (gb X) F H ev σ W → f ev = some d →
  ∀ Q : VK, (∀ v F' H', Chg F H noW F' H' noW → Imm (gb X) F' d v → Q v H') → t σ H Q
section
variable {X : Cx} {i : Nat} {a C C2 : Addr} {dd : Option Addr} {oe : Obj} {er : Er} {io : List Nat} {e c : Expr} {es : List Expr} {st : Stmt} {sts : List Stmt} {x y : Str} {f fa : Ev → Option D} {fo' : Ev → Option O} {fs : Ev → Option (List D)} {p p1 py pos : Pos} {b : Bool} {ma mb : MF}
theorem POe.pv (h : POe X i a dd er e fo') : PVe X i a dd er e (fun ev => (fo' ev).map frz) := by
  obtain ⟨t, h1, h2⟩ := h
  refine ⟨t, h1, fun F H ev σ W d es S hf Q hQ => ?_⟩
  obtain ⟨o, e1, rfl⟩ := mp hf
  refine h2 F H ev σ W o es S e1 Q fun v F' H' P c r => ?_
  obtain ⟨c1, r1, c2⟩ := Rep.freeze (W' := noW) (W := noW) ⟨c.sm, c.le, c.kp, c.kf, c.th, fun a w => c.wr a (w.elim (fun z => z.elim) id)⟩ r (fun _ _ z => z)
  exact hQ v _ _ c1 r1
theorem PVe.po (h : PVe X i a dd er e f) : POe X i a dd er e (fun ev => (f ev).map O.imm) := by
  obtain ⟨t, h1, h2⟩ := h
  refine ⟨t, h1, fun F H ev σ W o es S hf Q hQ => ?_⟩
  obtain ⟨d, e1, rfl⟩ := mp hf
  exact h2 F H ev σ W d es S e1 Q fun v F' H' c r => hQ v F' H' noW c (.imm r)
theorem zip_look {G : Gb} {F : Hp} {n : Str} : ∀ {ns : List Str} {ds : List D} {vs : List V} {d : D}, Imms G F ds vs → (ns.zip ds).lookup n = some d → ∃ v, (ns.zip vs).lookup n = some v ∧ Imm G F d v
  | [], _, _, _, _, h => by cases h
  | _ :: _, [], _, _, _, h => by cases h
  | m :: ns, d0 :: ds, vs, d, hi, h => by
    unfold Imms at hi
    obtain ⟨v, r, rfl, h1, h2⟩ := hi
    have h : (match n == m with | true => some d0 | false => (ns.zip ds).lookup n) = some d := h
    show ∃ v', (match n == m with | true => some v | false => (ns.zip r).lookup n) = some v' ∧ Imm G F d v'
    cases q : (n == m) with
    | true =>
      rw [q] at h
      cases h
      exact ⟨v, rfl, h1⟩
    | false =>
      rw [q] at h
      exact zip_look h2 h
end
end Kv
namespace Kv
open PySem PySem.Spec PyProof.Rows L2
structure FnT (P : Program) (w : World) (K : PySem.W.Frag) (mg : Str → Option Value) (base : Heap) (k : Nat) (f : Addr) (fd : FuncData) (ps : List Str) (sp : Addr → Obj → Spg) : Prop where
  len : ∀ a oe xs G Z, sp a oe xs G Z → xs.length = ps.length
  run : ∀ (a : Addr) (oe : Obj) (B : Around) (fr : List Env) (t : Shared) (G : Hp) (args : Args) (us : List Value) (xs : List V) (Z : VK), L2H.RoomH k B → B.guards = some [] → L2H.PinOk fr G t (a, oe) → Env0 P w K mg base B fr t G → BindsTo t fd args (ps.zip us) → Vals xs us → sp a oe xs G Z →
    codeAny (model P w) B (.call (.ref f) args) (fun r t' => ∃ u, r = .ok (.ret u) ∧ CE fr P w G t Z u t') t
theorem FnT.mono {P : Program} {w : World} {K : PySem.W.Frag} {mg : Str → Option Value} {base : Heap} {j k : Nat} {f : Addr} {fd : FuncData} {ps : List Str} {sp : Addr → Obj → Spg} (F : FnT P w K mg base j f fd ps sp) (h : j ≤ k) : FnT P w K mg base k f fd ps sp :=
  ⟨F.len, fun a oe B fr t G args us xs Z hr => F.run a oe B fr t G args us xs Z (hr.mono h)⟩
section
variable {P : Program} {w : World} {K : PySem.W.Frag} {mg : Str → Option Value} {base : Heap}
abbrev Fer := Er → List D → Option O
def spT (G : Gb) (n : Nat) (g : Fer) : Addr → Obj → Spg := fun a oe vs H Q => vs.length = n ∧ ∃ F er C dd ds ws o, LeF F H ∧ Tbs G F H ∧ ErAt G F H (.ref C) dd er ∧ oe.cls = .ref C ∧ oe.dict = dd ∧ (∃ vs', oe.data = .fields vs') ∧ vs = .ref a :: ws ∧ Imms G F ds ws ∧ g er ds = some o ∧
  ∀ v F' H' P, Chg F H noW F' H' P → Rep G F' H' o v P → Q v H'
structure Gt (P : Program) (w : World) (K : PySem.W.Frag) (mg : Str → Option Value) (base : Heap) (k : Nat) (x : Str) (st : Stmt) (ps : List Str) (g : Fer) : Prop where
  ex : ∃ f fd, FunD K x x (defArgs st) (defBody st) (defScope st) [] [] f fd ∧ mg x = some (.ref f) ∧ Binds K fd ps [] ∧ FnT P w K mg base k f fd ps (spT ⟨K, mg⟩ ps.length g)
end
section
variable {X : Cx} {i k n : Nat} {a C : Addr} {dd : Option Addr} {oe : Obj} {er : Er} {x y : Str} {st : Stmt} {ps : List Str} {g : Fer} {es : List Expr} {fs : Ev → Option (List D)} {p py pos : Pos}
end
end Kv
namespace Kv
open PySem PySem.Spec PyProof.Rows L2 LamX
section
variable {X : Cx} {pins : List (Addr × Obj)} {σ : L2.St} {H : Hp} {s : Shared}
end
section
variable {X : Cx} {pins : List (Addr × Obj)} {σ : L2.St} {H : Hp} {s : Shared}
end
theorem Gt.mono {P : Program} {w : World} {K : PySem.W.Frag} {mg : Str → Option Value} {base : Heap} {j k : Nat} {x : Str} {st : Stmt} {ps : List Str} {g : Fer} (h : Gt P w K mg base j x st ps g) (hk : j ≤ k) : Gt P w K mg base k x st ps g := by
  obtain ⟨f, fd, F, hm, hb, ok⟩ := h.ex
  exact ⟨f, fd, F, hm, hb, ok.mono hk⟩
section
variable {X : Cx}
end
end Kv
namespace Kv
open PySem PySem.Spec PyProof.Rows L2 ClX
theorem LamK.tabs {K : PySem.W.Frag} {h : Heap} (X : K.In h) (L : LamK K h) : TabsIn K h := by
  refine ⟨fun p hp => ?_, fun p hp => ?_, fun p hp => ?_⟩ <;> (obtain ⟨d, hd, rfl⟩ := List.mem_map.mp hp)
  · exact L.empty d hd
  · exact L.out d hd
  · exact ⟨_, PySem.W.codeHd_of_K X (L.hd d hd)⟩
structure ErrF (K : PySem.W.Frag) (c : Str) : Prop where
  F : ExcF K (He.ga K c)
  C : ∀ x ∈ errX, PySem.W.kitOne K (.ref (He.ga K c)) (.ref (He.ga K x)) = some (subE c x)
  T : ∀ T ∈ ["ValueError", "LookupError", "ArithmeticError"], PySem.W.kitOne K (.ref (He.ga K c)) (.type T) = some (subT c T)
  X : PySem.W.exmAny K (.ref (He.ga K c)) [.ref (He.ga K "WrongValue"), .ref (He.ga K "WrongName"), .ref (He.ga K "NoAnswer")] = some true
  N : ∀ n ∈ (["given", "index", "shown"] : List Str), PySem.W.findIn K (.ref (He.ga K c)) n = some none
theorem errB_ok {K : PySem.W.Frag} {c : Str} (h : errB K c = true) : ErrF K c := by
  unfold errB at h
  obtain ⟨h1, h⟩ := He.ba h
  obtain ⟨h2, h⟩ := He.ba h
  obtain ⟨h3, h⟩ := He.ba h
  obtain ⟨h4, h⟩ := He.ba h
  obtain ⟨h5, h⟩ := He.ba h
  obtain ⟨h6, h⟩ := He.ba h
  obtain ⟨h7, h⟩ := He.ba h
  obtain ⟨h8, h⟩ := He.ba h
  obtain ⟨h9, h⟩ := He.ba h
  obtain ⟨h10, h⟩ := He.ba h
  obtain ⟨h11, h⟩ := He.ba h
  obtain ⟨h12, h13⟩ := He.ba h
  exact ⟨⟨h1, of_decide_eq_true h2, of_decide_eq_true h3, of_decide_eq_true h4, of_decide_eq_true h5, of_decide_eq_true h6, of_decide_eq_true h7, of_decide_eq_true h8, h9⟩, fun x hx => of_decide_eq_true (List.all_eq_true.mp h10 x hx), fun T hT => of_decide_eq_true (List.all_eq_true.mp h11 T hT), of_decide_eq_true h12, fun n hn => of_decide_eq_true (List.all_eq_true.mp h13 n hn)⟩
end Kv
namespace Kv
open PySem PySem.Spec PyProof.Rows L2
section
variable {P : Program} {w : World} {K : PySem.W.Frag} {mg : Str → Option Value} {base : Heap}
end
theorem hu4 {k : Nat} {A : Around} (r : L2H.RoomH k A) : A.units + 4 < cLine := by have := r.un; omega
structure PFile (P : Program) (file : Str) : Prop where
  file : ((P.main.file : Str) == file) = true
  top : (P.main.scope.names.lookup ("super" : Str)).isSome = false
end Kv
namespace Kv
open PySem PySem.Spec PyProof.Rows L2
structure FnPX (P : Program) (w : World) (K : PySem.W.Frag) (mg : Str → Option Value) (base : Heap) (k : Nat) (f : Addr) (sp : Sp) : Prop where
  run : ∀ (B : Around) (fr : List Env) (t : Shared) (G : Hp) (us : List Value) (xs : List V) (Z : VK) (E : XK), Room k B → B.guards = some [] → Env0 P w K mg base B fr t G → Vals xs us → sp xs G Z E →
    codeAny (model P w) B (.call (.ref f) ⟨us, []⟩) (CR (L2.CX P w) fr P w G t Z E) t
section
variable {P : Program} {w : World} {K : PySem.W.Frag} {mg : Str → Option Value} {base : Heap} {k : Nat} {f : Addr} {sp : Sp}
theorem FnX.fnp {fd : FuncData} {ps : List Str} (F : FnX P w K mg base k f fd ps sp) (hb : L2.Binds K fd ps []) : FnPX P w K mg base k f sp := ⟨fun B fr t G us xs Z E hr hgu e0 r h => by
  have KX : K.In t.heap := e0.mod.kin.keeps fun b o e => (e0.bs b o e).1
  have hl : us.length = ps.length := by rw [← r.length]; exact F.len _ _ _ _ h
  have b := hb t us KX (by simpa using hl)
  rw [List.append_nil] at b
  exact F.run B fr t G ⟨us, []⟩ us xs Z E hr hgu e0 b r h⟩
end
section
variable {X : Cx} {k n : Nat} {f C : Addr} {sp : Sp} {c : Str} {g : Fmx} {e : Expr} {es : List Expr} {fa : Ev → Option D} {ms : M (List D)} {t : TA} {p pos sp_ : Pos} {Wx : WX}
end
def fzX (m : MX O) : MX O := fun ev => (m ev).map fun p => (match p.1 with
  | .ok o => .ok (.imm (frz o))
  | .er x => .er x, p.2)
theorem MOx.fz {X : Cx} {e : Expr} {m : MX O} (h : MOx X e m) : MOx X e (fzX m) := by
  refine fun Wx tk => ?_
  obtain ⟨t, h1, h2⟩ := h Wx tk
  refine ⟨t, h1, fun F H ev σ W r ev' S hf Q hQ => ?_⟩
  obtain ⟨⟨r0, ev1⟩, e1, e2⟩ := mp hf
  cases r0 with
  | er x =>
    cases e2
    exact h2 F H ev σ W (.er x) ev1 S e1 Q hQ
  | ok o =>
    cases e2
    refine h2 F H ev σ W (.ok o) ev1 S e1 Q fun v F' H' W' P c S' rp n => ?_
    obtain ⟨c1', r1', c2'⟩ := Rep.freeze c rp n
    exact hQ v _ H' W' noW (c1'.weak fun a z => z.elim id fun z => z.elim) (S'.freeze c2' n (rp.ntb S'.tb)) (.imm r1') fun _ z => z.elim
section
variable {X : Cx} {k n m : Nat} {x : Str} {st : Stmt} {ps ks : List Str} {g : Fmx} {kws : List Keyword} {fs : Ev → Option (List D)} {p pos : Pos} {π : List Nat}
end
def tsX (G : Gb) (io : List Nat) (W : WX) (m : MX Fl) : TS := fun D σ H => ∃ F ev Wd r ev', Sta G F H ev σ Wd ∧ m ev = some (r, ev') ∧ EndX G io F H σ Wd r ev' W D
theorem MSxs.ts {X : Cx} {io : List Nat} {sts : List Stmt} {m : MX Fl} (h : MSxs X io sts m) {W : WX} (tk : Takes X W) : PSs X sts (tsX (gb X) io W m) := by
  obtain ⟨t, h1, h2⟩ := h W tk
  exact ⟨fun pins s σ H D I ⟨F, ev, Wd, r, ev', S, e, q⟩ => h1.run pins s σ H D I (h2 F H ev σ Wd r ev' S e D q)⟩
def tsM (G : Gb) (io : List Nat) (m : MF) : TS := fun D σ H => ∃ F ev Wd fl ev', Sta G F H ev σ Wd ∧ m ev = some (fl, ev') ∧ EndOk G io F H σ Wd fl ev' D
theorem MSs.ts {X : Cx} {io : List Nat} {sts : List Stmt} {m : MF} (h : MSs X io sts m) : PSs X sts (tsM (gb X) io m) := by
  obtain ⟨t, h1, h2⟩ := h
  exact ⟨fun pins s σ H D I ⟨F, ev, Wd, fl, ev', S, e, q⟩ => h1.run pins s σ H D I (h2 F H ev σ Wd fl ev' S e D q)⟩
section
variable {X : Cx} {io : List Nat} {x : Str} {c : Addr} {body suite : List Stmt} {b₀ : Stmt} {np pos pos' : Pos} {mb : MX Fl} {ms : MF} {cs : List Str}
end
end Kv
namespace Kv
open PySem PySem.Spec PyProof.Rows L2
end Kv
namespace Kv
open PySem PySem.Spec PyProof.Rows L2 GenW
section
variable {X : Cx} {c P : Addr} {params : Arguments} {scope : Scope} {e : Expr} {sp nm : Str} {k0 k : Nat} {p pc apos px pos lpos kp cpos : Pos} {ms : M (List D)}
end
end Kv
namespace Kv
open PySem PySem.Spec PyProof.Rows L2 ClX
section
variable {X : Cx} {k n j : Nat} {c m : Str} {st : Stmt} {ps ks : List Str} {π : List Nat} {g : Fmx} {o e : Expr} {es : List Expr} {kws : List Keyword} {fa : Ev → Option D} {fs : Ev → Option (List D)} {apos pos p1 : Pos} {pl : Sem Bool} {Wx : WX}
end
end Kv
namespace Kv
open PySem PySem.Spec PyProof.Rows L2
section
variable {P : Program} {w : World} {K : PySem.W.Frag} {mg : Str → Option Value} {base : Heap}
end
section
variable {X : Cx} {k : Nat} {f : Addr} {fd : FuncData} {ps : List Str} {sp : Spg}
end
section
variable {M : Model} {A : Around} {E : Value → Shared → Prop} {s : Shared} {K : PySem.W.Frag} {a C f : Addr} {ox : Obj} {od : Option Obj}
end
section
variable {X : Cx} {pins : List (Addr × Obj)} {σ : L2.St} {E : Value → Shared → Prop} {k : Nat} {c : Str} {st : Stmt} {ps : List Str} {g : Fm}
def GOk (F H : Hp) (ls : List Nat) (gs : List Code) : Prop := ∀ id b rest kw, Code.builtin id ⟨.ref b :: rest, kw⟩ ∈ gs → (∃ u, F b = some u ∧ ∀ o vs, u = .frz o (.tup vs) → vs.length ∈ ls) ∨ (F b = none ∧ H b ≠ none)
theorem GOk.same {F F' H H' : Hp} {ls : List Nat} {gs : List Code} (h : GOk F H ls gs) (c : Chg F H noW F' H' noW) : GOk F' H' ls gs := fun id b rest kw hm => by
  rcases h id b rest kw hm with ⟨u, h1, h2⟩ | ⟨h1, h2⟩
  · exact .inl ⟨u, c.sm _ _ h1, h2⟩
  · exact .inr ⟨c.kf b (fun z => z) h2 h1, c.th b h2⟩
end
end Kv
namespace Kv
open PySem PySem.Spec PyProof.Rows L2 LamX
section
variable {X : Cx} {pins : List (Addr × Obj)} {σ : L2.St} {H : Hp} {s : Shared}
end
section
variable {X : Cx}
end
end Kv
namespace Kv
open PySem PySem.Spec PyProof.Rows L2
section
variable {X : Cx} {k n : Nat} {c : Str} {g : Fmx} {e : Expr} {es : List Expr} {ms : M (List D)} {p pos : Pos} {Wx : WX}
end
section
variable {X : Cx} {k n j : Nat} {c m : Str} {st : Stmt} {ps ks : List Str} {π : List Nat} {g : Fmx} {kws : List Keyword} {fs : Ev → Option (List D)} {p pos : Pos}
end
end Kv
namespace Kv
open PySem PySem.Spec PyProof.Rows L2
end Kv
namespace Kv
open PySem PySem.Spec PyProof.Rows L2
section
variable {X : Cx} {c : Str}
end
end Kv
namespace Kv
open PySem PySem.Spec PyProof.Rows L2
section
variable {X : Cx}
end
end Kv
namespace Kv
open PySem PySem.Spec PyProof.Rows L2
section
variable {X : Cx} {k n j i : Nat} {c m f x y : Str} {st : Stmt} {ps ks : List Str} {π : List Nat} {g : Fmx} {e : Expr} {es : List Expr} {kws : List Keyword} {ms : M (List D)} {fs : Ev → Option (List D)} {p py apos pos : Pos} {pl : Sem Bool}
theorem OutX.step {G : Gb} {F H F1 H1 : Hp} {σ : L2.St} {W W1 : Addr → Prop} {r : Rx O} {ev' : Ev} {Wx : WX} {Q : VK} (c : Chg F H W F1 H1 W1) (h : OutX G F H σ W r ev' Wx Q) : OutX G F1 H1 σ W1 r ev' Wx Q := by
  cases r with
  | ok o => exact fun v F' H' W' P c' S' rr n => h v F' H' W' P (c.trans c') S' rr n
  | er x => exact fun F' H' W' cls d c' S' er => h F' H' W' cls d (c.trans c') S' er
end
structure XnC (K : PySem.W.Frag) (x : Str) (newId initId : String) (bm : List Value) : Prop where
  inB : PySem.W.excInitIn K (He.ga K x) bm newId = true
  ini : PySem.W.findIn K (.ref (He.ga K x)) "__init__" = some (some (.builtin initId))
  exC : PySem.W.subIn K (.ref (He.ga K x)) (.type "BaseException") = some true
  tyC : PySem.W.typeIn K (.ref (He.ga K x)) = some (.type "type")
  kp : PySem.W.keepIn K (.ref (He.ga K x)) = true
theorem xnB_ok {K : PySem.W.Frag} {x : Str} {newId initId : String} {bm : List Value} (h : xnB K x newId initId bm = true) : XnC K x newId initId bm := by
  unfold xnB at h
  obtain ⟨h1, h⟩ := He.ba h
  obtain ⟨h2, h⟩ := He.ba h
  obtain ⟨h3, h⟩ := He.ba h
  obtain ⟨h4, h5⟩ := He.ba h
  exact ⟨h1, of_decide_eq_true h2, of_decide_eq_true h3, of_decide_eq_true h4, h5⟩
section
variable {X : Cx} {io : List Nat} {x : Str} {B newId initId : String} {bm : List Value} {p p2 pos : Pos}
theorem pmk_own0 (XB : XBase B newId initId bm) (c : XnC X.K x newId initId bm) (hmx : X.mg x = some (.ref (He.ga X.K x))) (hg : Gl X x) (hdb : (x == ("__debug__" : Str)) = false) : PMk X (.Call (.Name x p) [] [] pos) (fun _ H Q => Q (.ref (He.ga X.K x)) none H) := by
  intro pins s σ H Q I h
  refine wpAny_Call_Name_kw (ld_glob I hg hmx ?_ hdb)
  refine PySem.W.callWith_K0 (first := []) I.kIn c.kp ?_
  show wpAny _ _ (call (.ref (He.ga X.K x)) []) _ _ _
  obtain ⟨nm0, N0, qn0, bs0, bm0, hdct0, sn0, sub0, ab0, col0, dd0, k0, k1, k2, k3, k5, hC, hT⟩ := PySem.W.excInit_of I.kIn c.inB
  have K0 := I.kIn
  have I0 := I
  obtain ⟨hp, g, dr, tk, os⟩ := s
  refine PySem.W.call_B XB.F hT hC (PySem.W.looks_findIn K0 c.ini) (by show 0 ≤ sizeLine; omega) fun h' k he ht => ?_
  have ge : ∀ n, hp.get? (hp.objs.size + n) = none := fun n => Heap.get?_none_of_le (Nat.le_add_right _ _)
  exact mk_of I0 ⟨k, ge 1, _, he, ge 2, ht⟩ (raises_own c.exC c.tyC) h (I0.hok.gone (ge 1))
end
end Kv
namespace Kv
open PySem PySem.Spec PyProof.Rows L2 PySem.W
theorem isPars2_ok {a : Arguments} (h : isPars2 a = true) : ∃ x1 p1 x2 p2 x3 p3, a = ⟨[], [⟨"self", x1, p1⟩, ⟨"index", x2, p2⟩, ⟨"shown", x3, p3⟩], none, [], [], none, []⟩ := by
  unfold isPars2 at h
  split at h
  · obtain ⟨h1, h2⟩ := He.ba h
    obtain ⟨h2, h3⟩ := He.ba h2
    rw [of_decide_eq_true h1, of_decide_eq_true h2, of_decide_eq_true h3]
    exact ⟨_, _, _, _, _, _, rfl⟩
  · cases h
theorem isBody2_ok {b : FuncBody} (h : isBody2 b = true) : ∃ p0 p1 p2 p3 p4 p5 p6 p7 p8 q5 q6 q7 q8, b = .stmts [.Expr (.Call (.Attribute (.Call (.Name "super" p0) [] [] p1) "__init__" p2) [] [] p3) p4, .Assign [.Attribute (.Name "self" p5) "index" p6] (.Name "index" p7) p8, .Assign [.Attribute (.Name "self" q5) "shown" q6] (.Name "shown" q7) q8] ∧ (p2.endLine == p3.line) = true := by
  unfold isBody2 at h
  split at h
  · obtain ⟨g1, g2⟩ := He.ba h
    obtain ⟨g2, g4⟩ := He.ba g2
    obtain ⟨p0, p1, p2, p3, p4, rfl, g3⟩ := isSup_ok g1
    obtain ⟨p5, p6, p7, p8, rfl⟩ := isKeep_ok g2
    obtain ⟨q5, q6, q7, q8, rfl⟩ := isKeep_ok g4
    exact ⟨_, _, _, _, _, _, _, _, _, _, _, _, _, rfl, g3⟩
  · cases h
structure InitX2 (K : PySem.W.Frag) (file : Str) (C : Addr) (fI : Addr) : Prop where
  ex : ∃ oc od osl nm q x1 q1 x2 q2 x3 q3 p0 p1 p2 p3 p4 p5 p6 p7 p8 r5 r6 r7 r8 sc cc kwd doc pm an cda ct, K.lookup fI = some ⟨oc, od, .func ⟨nm, q, ⟨[], [⟨"self", x1, q1⟩, ⟨"index", x2, q2⟩, ⟨"shown", x3, q3⟩], none, [], [], none, []⟩, .stmts [.Expr (.Call (.Attribute (.Call (.Name "super" p0) [] [] p1) "__init__" p2) [] [] p3) p4, .Assign [.Attribute (.Name "self" p5) "index" p6] (.Name "index" p7) p8, .Assign [.Attribute (.Name "self" r5) "shown" r6] (.Name "shown" r7) r8],
      sc, mainGlobals, [("__class__", cc)], .none, kwd, doc, pm, an, .ref cda, ct, builtinsNs⟩, osl⟩ ∧ PySem.W.codeIn K (.ref cda) q = true ∧ (p2.endLine == p3.line) = true ∧ scopeB "index" sc = true ∧ sc.names.lookup ("shown" : Str) = some .local ∧ (∃ cl cld csl, K.lookup cc = some ⟨cl, cld, .cell (some (.ref C)), csl⟩) ∧ ∃ ccl cdd vs ccs tf, K.lookup cda = some ⟨ccl, cdd, .fields vs, ccs⟩ ∧ vs[2]? = some (.str file tf)
theorem initX2_of {K : PySem.W.Frag} {file : Str} {C : Addr} {fI : Addr} {oc : Value} {od : Option Addr} {osl : Array (Option Value)} {nm q : Str} {pa : Arguments} {bd : FuncBody} {sc : Scope} {gl : Addr} {clo : List (Str × Addr)} {dfl kwd doc pm cd ct : Value} {an : Option Addr} {bl : Addr}
    (lk : K.lookup fI = some ⟨oc, od, .func ⟨nm, q, pa, bd, sc, gl, clo, dfl, kwd, doc, pm, an, cd, ct, bl⟩, osl⟩) (h1 : isPars2 pa = true) (h2 : isBody2 bd = true) (h3 : scopeB "index" sc = true) (h3b : sc.names.lookup ("shown" : Str) = some .local) (h4 : gl = mainGlobals) (h5 : bl = builtinsNs) (h6 : cloB K C clo = true) (h7 : dfl = .none) (h8 : PySem.W.codeIn K cd q = true) (h9 : fileB K file cd = true) : InitX2 K file C fI := by
  obtain ⟨x1, q1, x2, q2, x3, q3, e1⟩ := isPars2_ok h1
  obtain ⟨p0, p1, p2, p3, p4, p5, p6, p7, p8, r5, r6, r7, r8, e2, e3⟩ := isBody2_ok h2
  obtain ⟨cc, e6, c6⟩ := cloB_ok h6
  obtain ⟨cda, e9, c9⟩ := fileB_ok h9
  subst h4 h5 h7 e1 e2 e6 e9
  exact ⟨oc, od, osl, nm, q, x1, q1, x2, q2, x3, q3, p0, p1, p2, p3, p4, p5, p6, p7, p8, r5, r6, r7, r8, sc, cc, kwd, doc, pm, an, cda, ct, lk, h8, e3, h3, h3b, c6, c9⟩
theorem initB2_ok {K : PySem.W.Frag} {file : Str} {C : Addr} {fI : Addr} (h : initB2 K file C fI = true) : InitX2 K file C fI := by
  unfold initB2 at h
  split at h
  · rename_i oc od fd osl lk
    obtain ⟨nm, q, pa, bd, sc, gl, clo, dfl, kwd, doc, pm, an, cd, ct, bl⟩ := fd
    obtain ⟨h1, h⟩ := He.ba h
    obtain ⟨h2, h⟩ := He.ba h
    obtain ⟨h3, h⟩ := He.ba h
    obtain ⟨h3b, h⟩ := He.ba h
    obtain ⟨h4, h⟩ := He.ba h
    obtain ⟨h5, h⟩ := He.ba h
    obtain ⟨h6, h⟩ := He.ba h
    obtain ⟨h7, h⟩ := He.ba h
    obtain ⟨h8, h9⟩ := He.ba h
    exact initX2_of lk h1 h2 h3 (of_decide_eq_true h3b) (of_decide_eq_true h4) (of_decide_eq_true h5) h6 (of_decide_eq_true h7) h8 h9
  · cases h
structure Xc2 (K : PySem.W.Frag) (file : Str) (x : Str) (B newId initId : String) (bm : List Value) : Prop where
  inB : excInitIn K (He.ga K x) bm newId = true
  over : excOver K (He.ga K x) bm = true
  ini : findIn K (.ref (He.ga K x)) "__init__" = some (some (.ref (He.ma K (He.ga K x) "__init__")))
  fn : isFn K (.ref (He.ma K (He.ga K x) "__init__")) = true
  sa : findIn K (.ref (He.ga K x)) "__setattr__" = some (some (.builtin "object.__setattr__"))
  tk : takerIn K (He.ga K x) "index" = some none
  tk2 : takerIn K (He.ga K x) "shown" = some none
  hd : hasDictIn K (He.ga K x) = true
  sup : ks_superIn K (He.ga K x) (He.ga K x) "__init__" = some (some (.builtin initId))
  sub : subIn K (.ref (He.ga K x)) (.type B) = some true
  opq : nsIn K cStatics "thirdparty.any" = some none
  self : mroIn K (He.ga K x) (.ref (He.ga K x)) = some true
  nos : nsIn K mainGlobals "super" = some none
  exC : subIn K (.ref (He.ga K x)) (.type "BaseException") = some true
  tyC : typeIn K (.ref (He.ga K x)) = some (.type "type")
  kp : keepIn K (.ref (He.ga K x)) = true
  def_ : InitX2 K file (He.ga K x) (He.ma K (He.ga K x) "__init__")
theorem xc2B_ok {K : PySem.W.Frag} {file : Str} {x : Str} {B newId initId : String} {bm : List Value} (h : xc2B K file x B newId initId bm = true) : Xc2 K file x B newId initId bm := by
  unfold xc2B at h
  obtain ⟨h1, h⟩ := He.ba h
  obtain ⟨h2, h⟩ := He.ba h
  obtain ⟨h3, h⟩ := He.ba h
  obtain ⟨h4, h⟩ := He.ba h
  obtain ⟨h5, h⟩ := He.ba h
  obtain ⟨h6, h⟩ := He.ba h
  obtain ⟨h6b, h⟩ := He.ba h
  obtain ⟨h7, h⟩ := He.ba h
  obtain ⟨h8, h⟩ := He.ba h
  obtain ⟨h9, h⟩ := He.ba h
  obtain ⟨h10, h⟩ := He.ba h
  obtain ⟨h11, h⟩ := He.ba h
  obtain ⟨h12, h⟩ := He.ba h
  obtain ⟨h13, h⟩ := He.ba h
  obtain ⟨h14, h⟩ := He.ba h
  obtain ⟨h15, h17⟩ := He.ba h
  exact ⟨h1, h2, of_decide_eq_true h3, h4, of_decide_eq_true h5, of_decide_eq_true h6, of_decide_eq_true h6b, h7, of_decide_eq_true h8, of_decide_eq_true h9, of_decide_eq_true h10, of_decide_eq_true h11, of_decide_eq_true h12, of_decide_eq_true h13, of_decide_eq_true h14, h15, initB2_ok h17⟩
section
variable {X : Cx} {pins : List (Addr × Obj)} {σ : L2.St} {H : Hp} {s : Shared} {x file : Str} {B newId initId : String} {bm : List Value} {v v2 : V} {u u2 : Value} {Q : XK}
theorem xc_end2 {C t4 dx : Addr} {hs hs2 : Int} {tk1 tk2 tk3 tk : Nat} {n' : Nat} {hp h5 : Heap} {g : Array GenState} {dr : Drawn} {os : OsState} (I : Inv X pins σ H ⟨hp, g, dr, tk, os⟩) (keep : ∀ b o, hp.get? b = some o → h5.get? b = some o) (exAt : h5.get? (hp.objs.size + 1) = some (excObj C t4 (some dx) .none))
    (dAt : h5.get? dx = some (dictOf [⟨hs, .str "index" tk1, u⟩, ⟨hs2, .str "shown" tk3, u2⟩] n')) (dGe : hp.objs.size ≤ dx) (dNe : dx ≠ hp.objs.size + 1) (rv : RelV v u) (rv2 : RelV v2 u2) (R : Raises X (.ref C)) (q : H dx = none → Q (.ref C) (some dx) (upd H dx (.xd [("index", v), ("shown", v2)]))) : MkP X pins σ Q (.ref (hp.objs.size + 1)) ⟨h5, g, dr, tk2, os⟩ := by
  obtain ⟨G, g1, g2⟩ := restrict h5 fun b => decide (b ≠ hp.objs.size + 1)
  have gk : ∀ b, b ≠ hp.objs.size + 1 → G.get? b = h5.get? b := fun b hb => g1 b (decide_eq_true hb)
  have gn : G.get? (hp.objs.size + 1) = none := g2 _ (by simp)
  have ge : ∀ n, hp.get? (hp.objs.size + n) = none := fun n => Heap.get?_none_of_le (Nat.le_add_right _ _)
  have gold : ∀ b o, hp.get? b = some o → G.get? b = some o := fun b o e => by
    rw [gk b (fun z => by rw [z, ge 1] at e; cases e)]
    exact keep b o e
  have hd : H dx = none := I.hok.fresh dGe
  have J : Inv X pins σ (upd H dx (.xd [("index", v), ("shown", v2)])) ⟨G, g, dr, tk2, os⟩ := I.laid (t' := tk2) gold dGe (by
    refine ⟨fun y => if y = ("index" : Str) then some u else if y = ("shown" : Str) then some u2 else none, ?_, fun y => ?_⟩
    · refine ⟨_, _, _, (gk dx dNe).trans dAt, rfl, ?_, ?_, fun y => ?_⟩
      · intro e he
        have he : e ∈ [(⟨hs, .str "index" tk1, u⟩ : DictEntry), ⟨hs2, .str "shown" tk3, u2⟩] := by simpa using he
        rcases List.mem_cons.mp he with rfl | he
        · exact ⟨_, _, rfl⟩
        rcases List.mem_cons.mp he with rfl | he
        · exact ⟨_, _, rfl⟩
        · cases he
      · refine List.Pairwise.cons (fun z hz => ?_) (List.pairwise_singleton _ _)
        have hz : z ∈ [(⟨hs2, .str "shown" tk3, u2⟩ : DictEntry)] := by simpa using hz
        obtain rfl := List.mem_singleton.mp hz
        have ne : ¬ (("index" : Str) = ("shown" : Str)) := by decide
        intro n h1 h2
        have e1 : ("index" : Str) = n := by simpa [Value.isStr] using h1
        have e2 : ("shown" : Str) = n := by simpa [Value.isStr] using h2
        exact ne (e1.trans e2.symm)
      · show findBy _ _ y = (if y = ("index" : Str) then some u else if y = ("shown" : Str) then some u2 else none)
        unfold findBy
        by_cases hy : y = ("index" : Str)
        · rw [if_pos hy, hy]
          simp [Value.isStr]
        · rw [if_neg hy]
          by_cases hy2 : y = ("shown" : Str)
          · have ne : ¬ (("index" : Str) = ("shown" : Str)) := by decide
            have ne2 : ¬ (("shown" : Str) = ("index" : Str)) := by decide
            rw [if_pos hy2, hy2]
            simp [Value.isStr, ne, ne2]
          · rw [if_neg hy2]
            simp [Value.isStr]
            exact ⟨fun z => hy z.symm, fun z => hy2 z.symm⟩
    · show RelO (List.lookup y [(("index" : Str), v), (("shown" : Str), v2)]) (if y = ("index" : Str) then some u else if y = ("shown" : Str) then some u2 else none)
      by_cases hy : y = ("index" : Str)
      · rw [if_pos hy, hy]
        simp [List.lookup]
        exact rv
      · rw [if_neg hy]
        have hb : (y == ("index" : Str)) = false := by simpa using hy
        by_cases hy2 : y = ("shown" : Str)
        · rw [if_pos hy2, hy2]
          simp [List.lookup]
          exact rv2
        · rw [if_neg hy2]
          have hb2 : (y == ("shown" : Str)) = false := by simpa using hy2
          simp [List.lookup, hb, hb2]
          exact True.intro)
  exact ⟨hp.objs.size + 1, _, _, _, _, .ref C, some dx, rfl, J, fun b o e => by
    by_cases hb : b = hp.objs.size + 1
    · rw [hb, gn] at e; cases e
    · exact (gk b hb).symm.trans e, gn, exAt, ⟨rfl, rfl⟩, rfl, rfl, by rw [upd_ne (Ne.symm dNe)]; exact I.hok.fresh (Nat.le_add_right _ 1), rfl, I.bare, R, q hd⟩
theorem xc_call2 (XB : XBase B newId initId bm) (c : Xc2 X.K file x B newId initId bm) (hfile : ((X.prog.main.file : Str) == file) = true) (htop : (X.prog.main.scope.names.lookup ("super" : Str)).isSome = false)
    (hr : Room 2 X.A) (I : Inv X pins σ H s) (rv : RelV v u) (rv2 : RelV v2 u2) (q : ∀ d, H d = none → Q (.ref (He.ga X.K x)) (some d) (upd H d (.xd [("index", v), ("shown", v2)]))) :
    wpAny (model X.prog X.w) X.A (call (.ref (He.ga X.K x)) [u, u2]) (MkP X pins σ Q) X.xe s := by
  obtain ⟨nm0, N0, qn0, bs0, bm0, hdct0, sn0, sub0, ab0, col0, dd0, k0, k1, k2, k3, k5, hC, hT⟩ := excInit_of I.kIn c.inB
  obtain ⟨oc, od, osl, nm, q', x1, q1, x2, q2, x3, q3, p0, p1, p2, p3, p4, p5, p6, p7, p8, r5, r6, r7, r8, sc, cc, kwd, doc, pm, an, cda, ct, lk, hcd, hpp, hsc, s6b, ⟨cl, cld, csl, lc⟩, ccl, cdd, vs, ccs, tf, lcd, hv2⟩ := c.def_.ex
  obtain ⟨oI, hoI, hcI⟩ : ∃ oI, s.heap.get? (He.ma X.K (He.ga X.K x) "__init__") = some oI ∧ oI.cls = .type "function" := by
    obtain ⟨o, ho, hc⟩ := Option.map_eq_some_iff.mp (show (X.K.lookup (He.ma X.K (He.ga X.K x) "__init__")).map (·.cls) = some (.type "function") from beq_iff_eq.mp c.fn)
    exact ⟨o, I.kIn _ _ ho, hc⟩
  obtain ⟨s1, hsc⟩ := He.ba hsc
  obtain ⟨s2, hsc⟩ := He.ba hsc
  obtain ⟨s3, hsc⟩ := He.ba hsc
  obtain ⟨s4, hsc⟩ := He.ba hsc
  obtain ⟨s5, hsc⟩ := He.ba hsc
  obtain ⟨s6, hsc⟩ := He.ba hsc
  obtain ⟨s7, s8⟩ := He.ba hsc
  have s1 := of_decide_eq_true s1
  have s5 := of_decide_eq_true s5
  have s6 := of_decide_eq_true s6
  have s7 := of_decide_eq_true s7
  have s8 := of_decide_eq_true s8
  have s2 : sc.isCoroutine = false := by simpa using s2
  have s3 : sc.isGenerator = false := by simpa using s3
  obtain ⟨mb, hmb, hbb⟩ := I.mod.blt
  have hG : s.heap.Ns mainGlobals X.mg := I.mod.glob.keeps I.bk
  have hB : s.heap.Ns builtinsNs mb := hmb.keeps I.bk
  have hlim := I.nolimit
  have mgS : X.mg "super" = none := PySem.W.mg_none_of I.kIn hG c.nos
  have Inv0 := I
  have K0 := I.kIn
  have sz1 : [u, u2].length ≤ sizeLine := by show 2 ≤ sizeLine; rw [sizeLine_eq]; omega
  obtain ⟨hp, g, dr, tk, os⟩ := s
  have k2' : ∀ b o, hp.get? b = some o → ((hp.push (kdv_tup [u, u2])).push (PySem.PX.excO (He.ga X.K x) hp.objs.size)).get? b = some o := fun b o e => Heap.get?_push_of_some _ (Heap.get?_push_of_some _ e)
  have hsz : ((hp.push (kdv_tup [u, u2])).push (PySem.PX.excO (He.ga X.K x) hp.objs.size)).objs.size = hp.objs.size + 2 := by rw [Heap.size_push, Heap.size_push]
  have hrm := hr.make (He.ga X.K x) [u, u2] []
  refine wpAny_call (PySem.PX.call_own XB.F hT hC (looks_findIn K0 c.ini) (fun self => exc_bind hoI hcI self) sz1 ?_)
  refine ks_codeAny_call_defAt (binds := [("self", .ref (hp.objs.size + 1)), ("index", u), ("shown", u2)]) hrm.depth (k2' _ _ (K0 _ _ lk)) rfl (hlim.keeps k2') ((PySem.W.codeRec_of K0 hcd).keeps k2') rfl (BindsTo.of_eq (by rfl)) ?_ ?_ (fun h1 hns hk1 => ?_) s2 s3 s1
  · intro y hy e
    have := List.all_eq_true.mp s4 y hy
    rw [e] at this
    cases this
  · intro y hy
    rcases List.mem_cons.mp hy with rfl | hy
    · exact s5
    · rcases List.mem_cons.mp hy with rfl | hy
      · exact s6
      · rcases List.mem_cons.mp hy with rfl | hy
        · exact s6b
        · cases hy
  have hL : hp.objs.size + 2 = ((hp.push (kdv_tup [u, u2])).push (PySem.PX.excO (He.ga X.K x) hp.objs.size)).objs.size := hsz.symm
  rw [hsz] at hns ⊢
  have F1 : Fr hp (hp.objs.size + 2) h1 (fun y => ([("self", Value.ref (hp.objs.size + 1)), ("index", u), ("shown", u2)] : List (Str × Value)).reverse.lookup y) := ⟨hns, fun b o e => hk1 b o (k2' b o e), Nat.le_add_right _ _⟩
  have ge : ∀ n, hp.get? (hp.objs.size + n) = none := fun n => Heap.get?_none_of_le (Nat.le_add_right _ _)
  have N1 : News hp (hp.objs.size + 2) h1 [(hp.objs.size + 1, excObj (He.ga X.K x) hp.objs.size none .none), (hp.objs.size, excTup [u, u2])] := fun p hm => by
    rcases List.mem_cons.mp hm with rfl | hm
    · exact ⟨hk1 _ _ (by heap_get), by simp, ge 1⟩
    · rcases List.mem_cons.mp hm with rfl | hm
      · exact ⟨hk1 _ _ (by heap_get), by simp, ge 0⟩
      · cases hm
  have X1 : X.K.In h1 := K0.keeps F1.keep
  generalize hA1 : X.A.under (.builtin "type.__call__" ⟨.ref (He.ga X.K x) :: [u, u2], []⟩) = A1
  generalize henv : callEnv _ _ _ = env
  have v1 : env.scope = sc := by rw [← henv]; rfl
  have v2 : ∀ y, env.kindOf y = sc.names.lookup y := fun y => by rw [← henv]; rfl
  have v3 : env.func = some (He.ma X.K (He.ga X.K x) "__init__") := by rw [← henv]; rfl
  have v4 : env.code = .ref cda := by rw [← henv]; rfl
  have v5 : env.cells = [(("__class__" : Str), cc)] := by rw [← henv]; rfl
  have v6 : env.globals = mainGlobals := by rw [← henv]; rfl
  have v7 : env.builtins = builtinsNs := by rw [← henv]; rfl
  have v8 : env.locals = hp.objs.size + 2 := by rw [← henv]; rfl
  clear henv
  have he : eval (.Call (.Attribute (.Call (.Name "super" p0) [] [] p1) "__init__" p2) [] [] p3) env = (do
      let ov ← attributeBase (.Call (.Name "super" p0) [] [] p1) "__init__" env (eval (.Call (.Name "super" p0) [] [] p1) env)
      standAt p2.atName
      let (f, first) ← holding [ov] (getMethod ov "__init__" (do return (← importBound (.Call (.Name "super" p0) [] [] p1) env).getD true))
      callWith p3 f first (backTo p3 (starEach [] env)) []) := by
    show (do
      let ov ← attributeBase (.Call (.Name "super" p0) [] [] p1) "__init__" env (eval (.Call (.Name "super" p0) [] [] p1) env)
      standAt p2.atName
      methodCall (.Call (.Name "super" p0) [] [] p1) "__init__" p2 p3 env ov 0 (backTo p3 (starEach [] env)) (backToKw p3 (keywordEach [] env))) = _
    unfold methodCall methodCallPos
    simp only [hpp, Bool.or_true, if_true, pure_bind]
    rfl
  refine ks_wpAt_execs_cons (ks_wpAt_Expr_any (ks_wpAt_MethodCall ?_ he) ?_ rfl)
  rotate_left
  · unfold interactive
    rw [v1, s1]
    rfl
  refine ks_wpAt_super_base (f := He.ma X.K (He.ga X.K x) "__init__") (cc := cda) ((v2 _).trans s7) ((v2 _).trans s8) (by decide) v3 (X1 _ _ lk) rfl rfl v4 (X1 _ _ lcd) rfl hv2 hfile htop ?_
  refine ks_loadName_global (by rw [v1]; exact s1) ((v2 _).trans s7) (Calls.loadGlobal_builtin (mg := X.mg) (mb := mb) (by rw [v6]; exact hG.keeps F1.keep) mgS (by rw [v7]; exact hB.keeps F1.keep) ((hbb _ (by decide +kernel)).trans PyProof.Rows.Boot.«super») ⟨rfl, ?_⟩)
  refine wpAny_loadName_free (by rw [v1]; exact s1) ((v2 _).trans s8) (c := cc) (by rw [v5]; rfl) ⟨_, X1 _ _ lc, rfl⟩ ?_
  refine wpAny_loadName_local (by rw [v1]; exact s1) ((v2 _).trans s5) (by rw [v8]; exact F1.ns) (v := .ref (hp.objs.size + 1)) (by rfl) ?_
  obtain ⟨oC, hCo, hCd⟩ : ∃ oC, h1.get? (He.ga X.K x) = some oC ∧ ∃ cd, oC.data = .cls cd := ⟨_, F1.keep _ _ hC, _, rfl⟩
  obtain ⟨cdC, hCd⟩ := hCd
  refine ks_wpAny_isType_cls hCo hCd ⟨rfl, ?_⟩
  have Icls : InstAt h1 (hp.objs.size + 1) (excObj (He.ga X.K x) hp.objs.size none .none) (He.ga X.K x) none := ⟨(N1 _ (List.mem_cons_self ..)).1, rfl, rfl, trivial⟩
  refine ks_wpAny_call_super hCo hCd Icls.at_ rfl (fun c e => by cases e) (looks_mroIn X1 c.self) (fun h2 e2 kk2 => ?_)
  obtain ⟨F2, N2, lt2⟩ := ks_newsPush (s := ⟨h1, g, dr, tk + 2, os⟩) (o := ks_superObj (He.ga X.K x) (hp.objs.size + 1) (He.ga X.K x)) F1 N1 rfl e2 kk2
  have X2 : X.K.In h2 := K0.keeps F2.keep
  have I2 : InstAt h2 (hp.objs.size + 1) (excObj (He.ga X.K x) hp.objs.size none .none) (He.ga X.K x) none := ⟨(N2 _ (.tail _ (.head _))).1, rfl, rfl, trivial⟩
  refine kxs_method XB.X F2 K0 N2 (List.mem_cons_self ..) I2 c.opq c.sup c.sub (by decide) (fun q3 h3 F3 N3 lt3 => ?_)
  refine kxs_callWith0 N3 (List.mem_cons_self ..) (kxs_call F3 K0 N3 XB.F c.inB (List.mem_cons_self ..) (.tail ?_ (.tail ?_ (.head ?_))) (by show 0 ≤ sizeLine; omega) (fun t4 h4 F4 N4 lt4 => ?_))
  · exact Nat.ne_of_gt (lt3 _ (.tail _ (.head _)))
  · exact Nat.ne_of_gt (lt2 _ (.head _))
  · intro p hm
    rcases List.mem_cons.mp hm with rfl | hm
    · show hp.objs.size ≠ hp.objs.size + 1
      omega
    · cases hm
  show _root_.PySem.wpAt _ _ _ _ _ _ _
  refine ks_wpAt_execs_cons (ks_wpAt_Assign_Attr (wpAt_of_wpAny (wpAny_Name (wpAny_loadName_local (by rw [v1]; exact s1) ((v2 _).trans s6) (by rw [v8]; exact F4.ns) (v := u) (by rfl) ?_) (by decide))) rfl)
  refine wpAny_Name (wpAny_loadName_local (by rw [v1]; exact s1) ((v2 _).trans s5) (by rw [v8]; exact F4.ns) (v := .ref (hp.objs.size + 1)) (by rfl) ?_) (by decide)
  refine set_exc0 XB.S F4 K0 N4 (.tail _ (.tail _ (.tail _ (.head _)))) c.sa c.over c.tk c.hd rfl (.tail ?_ (.tail ?_ (.tail ?_ (.head ?_)))) (by show 1 ≤ 1000; omega) (fun dx h5 F5 N5 lt5 => ?_)
  · exact Nat.ne_of_gt (lt4 _ (.tail _ (.tail _ (.head _))))
  · exact Nat.ne_of_gt (lt3 _ (.tail _ (.head _)))
  · exact Nat.ne_of_gt (lt2 _ (.head _))
  · intro p hm
    rcases List.mem_cons.mp hm with rfl | hm
    · show hp.objs.size ≠ hp.objs.size + 1
      omega
    · cases hm
  refine ks_wpAt_execs_cons (ks_wpAt_Assign_Attr (wpAt_of_wpAny (wpAny_Name (wpAny_loadName_local (by rw [v1]; exact s1) ((v2 _).trans s6b) (by rw [v8]; exact F5.ns) (v := u2) (by rfl) ?_) (by decide))) rfl)
  refine wpAny_Name (wpAny_loadName_local (by rw [v1]; exact s1) ((v2 _).trans s5) (by rw [v8]; exact F5.ns) (v := .ref (hp.objs.size + 1)) (by rfl) ?_) (by decide)
  refine set_excD XB.S F5 K0 N5 (.tail _ (.tail _ (.tail _ (.tail _ (.head _))))) c.sa c.over c.tk2 c.hd (.head _) rfl rfl (.head ?_) (by show 2 ≤ 1000; omega) (fun h6 F6 N6 => ?_)
  · intro p hm
    have l1 := lt5 _ (.head _)
    have l2 := lt5 _ (.tail _ (.head _))
    have l3 := lt5 _ (.tail _ (.tail _ (.head _)))
    have l4 := lt5 _ (.tail _ (.tail _ (.tail _ (.head _))))
    have l5 := lt5 _ (.tail _ (.tail _ (.tail _ (.tail _ (.head _)))))
    rcases List.mem_cons.mp hm with rfl | hm
    · exact Nat.ne_of_lt l1
    rcases List.mem_cons.mp hm with rfl | hm
    · exact Nat.ne_of_lt l2
    rcases List.mem_cons.mp hm with rfl | hm
    · exact Nat.ne_of_lt l3
    rcases List.mem_cons.mp hm with rfl | hm
    · exact Nat.ne_of_lt l4
    rcases List.mem_cons.mp hm with rfl | hm
    · exact Nat.ne_of_lt l5
    · cases hm
  refine wpAt_of_wpAny (wpAny_execs_nil ?_)
  have ge : ∀ n, hp.get? (hp.objs.size + n) = none := fun n => Heap.get?_none_of_le (Nat.le_add_right _ _)
  have exAt : h6.get? (hp.objs.size + 1) = some (excObj (He.ga X.K x) t4 (some dx) .none) := (N6 _ (.tail _ (.tail _ (.tail _ (.tail _ (.head _)))))).1
  have dAt := (N6 _ (.head _)).1
  have dGe : hp.objs.size ≤ dx := Nat.le_trans (Nat.le_add_right _ 1) (Nat.le_of_lt (lt5 (hp.objs.size + 1, excObj (He.ga X.K x) t4 none .none) (.tail _ (.tail _ (.tail _ (.head _))))))
  have dNe : dx ≠ hp.objs.size + 1 := Nat.ne_of_gt (lt5 (hp.objs.size + 1, excObj (He.ga X.K x) t4 none .none) (.tail _ (.tail _ (.tail _ (.head _)))))
  exact ⟨rfl, xc_end2 Inv0 F6.keep exAt dAt dGe dNe rv rv2 (raises_own c.exC c.tyC) (q dx)⟩
end
section
variable {X : Cx} {io : List Nat} {e1 e2 : Expr} {pos : Pos}
end
end Kv
namespace Kv
open PySem PySem.Spec PyProof.Rows L2
section
variable {X : Cx} {e : Expr} {es : List Expr} {f : Ev → Option O} {ms : M (List O)} {tk : List (Option Nat)} {y : Str} {py : Pos}
end
section
variable {X : Cx}
end
section
variable {X : Cx} {k n : Nat} {c : Str} {g : Fm} {p pos : Pos}
end
end Kv
namespace GQ
open PySem PySem.SeqAt
open AutoSeq1 (wpAny_loadPart')
open MeetsSeq MeetsSeq2 MeetsSeq3 SeqRoads2
section
variable {prog : Program} {w : World} {A : Around} {R : Result → Shared → Prop} {E : Value → Shared → Prop} {s : Shared}
end
end GQ
namespace Kv
open PySem PySem.Spec PyProof.Rows L2
def EqD (X : Cx) (n : Nat) (d : D) : Prop := ∀ (A : Around) (pins : List (Addr × Obj)) (s : Shared) (σ : L2.St) (H F : Hp) (x y : V) (u v : Value), Sub X n A → A.guards = some [] → Inv X pins σ H s → RelV x u → RelV y v → LeF F H → Tbs (gb X) F H → Imm (gb X) F d x → Imm (gb X) F d y →
    wpAny (model X.prog X.w) A (eqBool u v) (fun r s' => r = true ∧ ∃ F' H', Inv X pins σ H' s' ∧ Chg F H noW F' H' noW) X.xe s
section
variable {X : Cx} {k n : Nat} {c : Str} {st : Stmt} {ps : List Str} {g : Fm}
theorem EqD.mono {d : D} {m : Nat} (h : EqD X n d) (hn : n ≤ m) : EqD X m d := fun A pins s σ H F x y u v sb => h A pins s σ H F x y u v (sb.mono hn)
end
section
variable {X : Cx} {e : Expr} {f : Ev → Option Bool}
end
section
variable {X : Cx}
end
section
variable {X : Cx} {io : List Nat} {pos : Pos}
end
end Kv
namespace Kv
open PySem PySem.Spec PyProof.Rows L2
section
variable {X : Cx} {io : List Nat} {i j l q : Nat} {x y z u : Str} {px py pz pu pt pt2 pos : Pos} {a b c d : Expr} {ms : M (List O)} {tk : List (Option Nat)} {kt k2 : ExprContext}
theorem Chg.none {F H F' H' : Hp} (c : Chg F H noW F' H' noW) (W : Addr → Prop) : Chg F H W F' H' W := ⟨c.sm, c.le, fun a o n => c.kp a o (fun z => z), fun a n => c.kf a (fun z => z), c.th, fun a w => .inl w⟩
end
end Kv
namespace Kv
open PySem PySem.Spec PyProof.Rows L2 LamX
section
variable {X : Cx} {x1 n : Str} {c1 : Addr} {i : Nat} {body suite : List Stmt} {b₀ : Stmt} {q1 pos pos' : Pos} {tb : WX → TS} {ts : Addr → Value → Option Addr → TS}
end
section
variable {X : Cx} {pins : List (Addr × Obj)} {σ : L2.St} {H : Hp} {s : Shared}
end
section
variable {X : Cx}
end
end Kv
namespace Kv
open PySem PySem.Spec PyProof.Rows L2
section
variable {G : Gb} {F H : Hp}
end
section
variable {X : Cx} {k n i j : Nat} {x y L : Str} {st : Stmt} {ps : List Str} {g : Fm} {ie : Expr} {es : List Expr} {fi : Ev → Option D} {ms : M (List D)} {p py pL p2 pos : Pos}
end
section
variable {X : Cx} {es : List Expr} {ms : M (List O)} {tk : List (Option Nat)} {pos : Pos}
end
end Kv
namespace Kv
open PySem PySem.Spec PyProof.Rows L2
section
variable {prog : Program} {w : World} {A : Around} {E : Value → Shared → Prop} {s : Shared} {K : PySem.W.Frag} {x C : Addr} {ox : Obj} {od : Option Obj} {b : Value}
end
section
variable {G : Gb} {F H : Hp}
end
section
variable {X : Cx} {j : Nat} {c L : Str} {ia ib : Expr} {fa fb : Ev → Option D} {pL pL2 p1 p2 pos : Pos}
end
end Kv
namespace Kv
open PySem PySem.Spec PyProof.Rows L2
section
variable {prog : Program} {w : World} {A : Around} {E : Value → Shared → Prop} {s : Shared} {K : PySem.W.Frag} {x C : Addr} {ox : Obj} {od : Option Obj}
end
section
variable {X : Cx} {k : Nat} {c c' : Str} {st : Stmt} {ps : List Str} {g : Fm}
end
section
variable {X : Cx} {k e : Nat} {c c' : Str} {st : Stmt} {ps : List Str} {g : Fm} {fA : Ev → Option D}
end
section
variable {X : Cx} {a : Expr} {c y : Str} {i : Nat} {py : Pos} {fo : Ev → Option O}
end
section
variable {X : Cx} {io : List Nat} {k e i : Nat} {c c' y w : Str} {wp spos : Pos} {st : Stmt} {ps : List Str} {g : Fm} {z a a' : Expr} {es : List Expr} {f1 : Ev → Bool} {fs : Ev → Option (List D)} {fA : Ev → Option D} {scope : Scope} {pl py py' p1 p2 p3 p4 p5 p6 pos : Pos}
end
section
variable {X : Cx} {j : Nat} {c L : Str} {ia ib : Expr} {fa fb : Ev → Option D} {pL pL2 p1 p2 pos : Pos}
end
end Kv
namespace Kv
open PySem PySem.Spec PyProof.Rows L2
section
variable {X : Cx} {j : Nat} {c L : Str} {pL pL2 pos : Pos}
end
end Kv
namespace Kv
open PySem PySem.Spec PyProof.Rows L2
section
variable {prog : Program} {w : World} {A : Around} {E : Value → Shared → Prop} {s : Shared} {K : PySem.W.Frag} {y C f : Addr} {oy : Obj} {oe : Option Obj} {t : Str} {u : Tok}
end
section
variable {X : Cx} {k : Nat} {c : Str} {st : Stmt} {ps : List Str} {g : Fm}
end
end Kv
namespace Kv
open PySem PySem.Spec PyProof.Rows L2
section
variable {X : Cx} {k : Nat} {c : Str} {st : Stmt} {ps : List Str} {g : Fm}
end
end Kv
namespace Kv
open PySem PySem.Spec PyProof.Rows L2
section
variable {X : Cx} {o e : Expr} {fa fb : Ev → Option D} {apos cpos pos : Pos}
end
section
variable {X : Cx} {k : Nat} {c : Str} {g : Fmx} {p pos : Pos}
end
end Kv
namespace Kv
open PySem PySem.Spec PyProof.Rows L2
section
variable {X : Cx} {pos : Pos} {a b e e2 : Expr} {rest : List Expr} {m m' mb : M D} {fa : Ev → Option D}
end
end Kv
namespace Kv
open PySem PySem.Spec PyProof.Rows L2
section
variable {X : Cx} {k : Nat} {c f : Str} {g : Fm} {m : MX O} {e : Expr} {pos : Pos}
end
end Kv
namespace Kv
open PySem PySem.Spec PyProof.Rows L2
section
variable {X : Cx}
end
end Kv
namespace Kv
open PySem PySem.Spec PyProof.Rows L2
section
variable {prog : Program} {w : World} {A : Around} {E : Value → Shared → Prop} {s : Shared}
end
end Kv
namespace Kv
open PySem PySem.Spec PyProof.Rows L2
section
variable {X : Cx} {a : Expr} {ta : TE} {fa : Ev → Option D} {p p2 pq pos : Pos}
end
end Kv
namespace Kv
open PySem PySem.Spec PyProof.Rows L2
theorem Gx.glo {P : Program} {w : World} {K : PySem.W.Frag} {mg : Str → Option Value} {base : Heap} {k : Nat} {x : Str} {st : Stmt} {ps : List Str} {g : Fmx} (h : Gx P w K mg base k x st ps g) : ∃ C, mg x = some (.ref C) := by
  obtain ⟨f, fd, _, hm, _⟩ := h.ex
  exact ⟨f, hm⟩
section
variable {X : Cx} {n i k : Nat} {x y : Str} {st : Stmt} {ps : List Str} {g : Fmx} {tbl : List (Str × Fmx)} {e : Expr} {es : List Expr} {ms : M (List D)} {p pos : Pos} {t : TA} {Wx : WX}
end
section
variable {X : Cx} {a : Expr} {pos p p1 pos1 : Pos} {fa : Ev → Option D}
end
section
variable {X : Cx}
end
end Kv
namespace Kv
open PySem PySem.Spec PyProof.Rows L2
section
variable {X : Cx} {pins : List (Addr × Obj)} {σ : L2.St} {H F : Hp} {s : Shared}
end
theorem repr_list' {prog : Program} {w : World} {h₀ : Heap} {a : Addr} {o : Obj} {vs : Array Value} {n : Nat} {xs : List PyData} {as : List Addr} {A : Around} {E : Value → Shared → Prop} {s : Shared} {Q : Value → Shared → Prop} (h1 : h₀.get? a = some o) (h2 : o.cls = .type "list") (h3 : o.data = .seq vs n) (h4 : ReadsAll h₀ vs.toList xs as)
    (hs : (PyData.list xs).showable = true) (hsm : sysModules ∉ as) (hg : A.guards = some []) (hu : A.units + ((PyData.list xs).depth + 1) < cLine) (hk0 : ∀ b o, h₀.get? b = some o → s.heap.get? b = some o)
    (hQ : ∀ h' u tk, (∀ b o, s.heap.get? b = some o → h'.get? b = some o) → Q (.str (PyData.list xs).shown u) { s with heap := h', toks := tk }) (hsz : (PyData.list xs).shown.length ≤ sizeLine) : wpAny (model prog w) A (call (.builtin "repr") [.ref a]) Q E s := by
  have hz' : (listText (PyData.shownAll xs)).length ≤ sizeLine := by simpa only [PyData.shown] using hsz
  obtain ⟨bs, hb, hk⟩ := ReprAllK.of_readsAll (prog := prog) (w := w) h4 (by simpa [PyData.showable] using hs) (fun hx hm => hsm hm) (fun t ht => Nat.le_trans (listText_mem_le ht) hz')
  have hna : a ∉ bs := not_mem_of_deeper (.list h1 h2 h3 h4) (by simp only [PyData.depth]; omega) hb
  refine call_repr_slot (by omega) ⟨o, hk0 _ _ h1, h2⟩ F.slot_list_repr.toG ?_
  have hg1 : A.in1.guards = some [] := hg
  have hu1 : A.in1.units + (PyData.list xs).depth < cLine := by show A.units + 1 + (PyData.list xs).depth < cLine; omega
  simp only [PyData.depth] at hu1
  simp only [PyData.shown] at hQ
  obtain ⟨l⟩ := vs
  cases l with
  | nil =>
    have h4' : ReadsAll h₀ [] xs _ := h4
    cases h4'
    simp only [PyData.shownAll, listText_nil] at hQ
    exact call_list_repr_empty ⟨o, hk0 _ _ h1, h2⟩ (hk0 _ _ h1) h3 ⟨_, _, rfl, hQ s.heap _ _ fun _ _ e => e⟩
  | cons x l => exact call_list_reprK h1 h2 h3 hna (by simpa using hk.length_eq) (fun i y e => hk.item i y (by simpa using e)) hg1 (fun b _ => Clear.nil b) hu1 hk0 (fun h' u tk hk => ⟨_, _, rfl, hQ h' u tk hk⟩) hz'
def shwC (p : PyData) : Option O := if p.showable = true ∧ p.depth ≤ 64 ∧ p.shown.length ≤ sizeLine then some (.imm (.rep p)) else none
section
variable {X : Cx}
end
section
variable {X : Cx}
end
end Kv
namespace PySem
namespace KvX
open Builtin.ObjectAttr Builtin
section
variable {M : Model} {AA : Around} {EE : Value → Shared → Prop} {hp : Heap} {gs : Array GenState} {dw : Drawn} {tk : Nat} {os : OsState} {prog : Program} {w : World} {RR : Result → Shared → Prop}
variable {nm qn : Str} {C N : Addr} {bs bm bb : List Value} {hdct : Bool} {sn : List Str} {sub : List Value} {ab : Bool} {col : Option Bool} {dd : Option Addr} {k0 k1 k2 k3 k5 : Option Value} {B newId initId : String} {kv : List (Str × Value)}
abbrev ExK (hp : Heap) (C : Addr) (o : Obj) : Prop := hp.get? C = some o
theorem kwx_check (F : ExcBaseFacts B newId initId bb) (hT : ∀ Y : String, bm.contains (.type Y) = bb.contains (.type Y)) {Z : Unit → Shared → Prop}
    (hC : ExK hp C (excClassObj nm qn C N bs bm hdct sn sub ab col dd k0 k1 k2 k3 k5 newId)) (hq : Z () ⟨hp, gs, dw, tk, os⟩) : wpAny M AA (checkBuiltinCall newId ⟨[.ref C], kv⟩) Z EE ⟨hp, gs, dw, tk, os⟩ := by
  have hc1 : (Value.ref C :: bm).contains (.type B) = true := by
    rw [List.contains_cons, hT, F.hasB]
    exact Bool.or_true _
  have hst := F.noStar
  simp only [F.newRow, F.newKind, F.newSplit, checkBuiltinCall]
  repeat (first
    | refine wpAny_loadPart_at hC ?_
    | (refine wpAny_isSubtype_exc hC ?_
       rw [hc1])
    | refine wpAny_staticBase_exc hC ?_
    | refine wpAny_madeBy_exc hC ?_
    | simp only [Bool.false_eq_true, bne_self_eq_false, if_false]
    | wp_step)
  exact hq
theorem kwx_new (F : ExcBaseFacts B newId initId bb) (hT : ∀ Y : String, bm.contains (.type Y) = bb.contains (.type Y)) (hC : ExK hp C (excClassObj nm qn C N bs bm hdct sn sub ab col dd k0 k1 k2 k3 k5 newId))
    (hq : RR (.ok (.ret (.ref (hp.objs.size + 1)))) ⟨(hp.push (W.kdv_tup [])).push (PX.excO C hp.objs.size), gs, dw, tk, os⟩) : codeAny (model prog w) AA (.builtin newId ⟨[.ref C], kv⟩) RR ⟨hp, gs, dw, tk, os⟩ := by
  have hen := F.ends
  have c1 : (Value.ref C :: bm).contains (.type B) = true := by
    rw [List.contains_cons, hT, F.hasB]
    exact Bool.or_true _
  have c2 : (Value.ref C :: bm).contains (.type "AttributeError") = false := by
    rw [List.contains_cons, hT, F.noAttr]
    rfl
  have c3 : (Value.ref C :: bm).contains (.type "NameError") = false := by
    rw [List.contains_cons, hT, F.noName]
    rfl
  have z0 : ([] : List Value).length ≤ sizeLine := Nat.zero_le _
  refine codeAny_builtinAt F.entry ?_
  unfold Builtin.«BaseException.__new__»
  refine wpAt_bind ?_
  show wpAt _ _ _ (stack >>= _) _ _ _
  refine wpAt_bind (wpAt_stack fun p below => wpAt_of_wpAny ?_)
  wp_walk
  refine wpAt_of_wpAny ?_
  rw [F.owner]
  repeat (first
    | with_reducible refine wpAny_madeHere_exc F.canon hC ?_
    | with_reducible refine wpAny_loadPart_at hC ?_
    | (with_reducible refine wpAny_isSubtype_exc hC ?_
       first | rw [c1] | rw [c2] | rw [c3])
    | wp_step)
  show RR _ _
  rw [Heap.size_push]
  exact hq
theorem kwx_type (F : ExcBaseFacts B newId initId bb) (hT : ∀ Y : String, bm.contains (.type Y) = bb.contains (.type Y)) {fI : Addr} {Q : Fin → Shared → Prop} (hC : ExK hp C (excClassObj nm qn C N bs bm hdct sn sub ab col dd k0 k1 k2 k3 k5 newId))
    (hi : W.Looks (model prog w) hp (typeLookup (.ref C) "__init__") (some (.ref fI))) (hb : ∀ me, W.Looks (model prog w) hp (bindSpecial (.ref fI) me) (.ref fI, [me]))
    (hq : codeAny (model prog w) AA (.call (.ref fI) ⟨[.ref (hp.objs.size + 1)], kv⟩)
      (fun r s' => match r with
        | .ok (.ret v) => v = .none ∧ Q (.done (.ret (.ref (hp.objs.size + 1)))) s'
        | .ok _ => False
        | .error e => EE e s') ⟨(hp.push (W.kdv_tup [])).push (PX.excO C hp.objs.size), gs, dw, tk, os⟩) :
    wpAny (model prog w) AA (Builtin.«type.__call__» ⟨[.ref C], kv⟩) Q EE ⟨hp, gs, dw, tk, os⟩ := by
  repeat (first
    | with_reducible refine wpAny_loadPart_at hC ?_
    | with_reducible refine wpAny_madeBy_exc hC ?_
    | wp_step)
  refine codeAny_call_builtin_code (Code.quiet_builtin _ F.quiet) (kwx_check F hT hC ?_)
  refine kwx_new F hT hC ?_
  show wpAny _ _ _ _ _ _
  have kp : ∀ b o, hp.get? b = some o → ((hp.push (W.kdv_tup [])).push (PX.excO C hp.objs.size)).get? b = some o := fun b o e => Heap.get?_push_of_some _ (Heap.get?_push_of_some _ e)
  have hC1 := kp _ _ hC
  have gN : ((hp.push (W.kdv_tup [])).push (PX.excO C hp.objs.size)).get? (hp.objs.size + 1) = some (PX.excO C hp.objs.size) := by heap_get
  have cC : (Value.ref C :: bm).contains (.ref C) = true := by simp
  have j1 := hi.keeps kp
  have j2 := (hb (.ref (hp.objs.size + 1))).keeps kp
  unfold isInstance
  repeat (first
    | with_reducible refine wpAny_loadPart_at gN ?_
    | (with_reducible refine wpAny_isSubtype_exc hC1 ?_
       rw [cC])
    | wp_step)
  show wpAny _ _ (typeLookup (.ref C) _) _ _ _
  refine j1.at ?_
  refine wpAny_holding (wpAny_bind (j2.at ?_))
  refine wpAny_bind (wpAny_call (codeAny_mono hq fun r s' z => ?_))
  rcases r with e | (v | _ | _ | _) <;> first | exact z | exact z.elim | skip
  obtain ⟨ev, z⟩ := z
  subst ev
  first
    | exact wpAny_pure (wpAny_pure z)
    | (wp_walk; exact z)
theorem kwx_chk (hC : ExK hp C (excClassObj nm qn C N bs bm hdct sn sub ab col dd k0 k1 k2 k3 k5 newId)) {Z : Unit → Shared → Prop} (hq : Z () ⟨hp, gs, dw, tk, os⟩) : wpAny M AA (checkBuiltinCall "type.__call__" ⟨[.ref C], kv⟩) Z EE ⟨hp, gs, dw, tk, os⟩ := by
  have f9 := tc_sub
  have hTy : (⟨hp, gs, dw, tk, os⟩ : Shared).TypeIs (.ref C) "type" := ⟨_, hC, rfl⟩
  simp only [tc_split, tc_kind, checkBuiltinCall]
  repeat (any_goals (first
    | assumption
    | with_reducible refine wpAny_loadPart_at hC ?_
    | with_reducible refine wpAny_onRaise ?_
    | with_reducible refine wpAny_map ?_
    | wp_step))
theorem kwx_call (F : ExcBaseFacts B newId initId bb) (hT : ∀ Y : String, bm.contains (.type Y) = bb.contains (.type Y)) {fI : Addr} (hC : ExK hp C (excClassObj nm qn C N bs bm hdct sn sub ab col dd k0 k1 k2 k3 k5 newId))
    (hi : W.Looks (model prog w) hp (typeLookup (.ref C) "__init__") (some (.ref fI))) (hb : ∀ me, W.Looks (model prog w) hp (bindSpecial (.ref fI) me) (.ref fI, [me]))
    (hq : codeAny (model prog w) (AA.under (.builtin "type.__call__" ⟨[.ref C], kv⟩)) (.call (.ref fI) ⟨[.ref (hp.objs.size + 1)], kv⟩) (W.InitBack (hp.objs.size + 1) RR) ⟨(hp.push (W.kdv_tup [])).push (PX.excO C hp.objs.size), gs, dw, tk, os⟩) :
    codeAny (model prog w) AA (.call (.ref C) ⟨[], kv⟩) RR ⟨hp, gs, dw, tk, os⟩ := by
  have f1 := tc_lookup
  have f2 := tc_bind (.ref C)
  have hTy : (⟨hp, gs, dw, tk, os⟩ : Shared).TypeIs (.ref C) "type" := ⟨_, hC, rfl⟩
  refine codeAny_of_tree ?_
  show wpAny _ _ (callAny (.ref C) _) _ _ _
  repeat (any_goals (first
    | assumption
    | with_reducible refine wpAny_loadPart_at hC ?_
    | wp_step))
  refine ⟨rfl, ?_⟩
  refine codeAny_call_builtin_at (Code.quiet_builtin _ (by decide +kernel)) entry_typeCall (kwx_chk hC (kwx_type F hT hC hi hb ?_))
  refine codeAny_mono hq fun r s' z => ?_
  rcases r with e | (v | _ | _ | _) <;> exact z
end
end KvX
end PySem
namespace Kv
open PySem PySem.Spec PyProof.Rows L2 PySem.W PySem.KvX
-- BEHIND
section
variable {X : Cx} {pins : List (Addr × Obj)} {σ : L2.St} {H : Hp} {s : Shared} {x f file : Str} {B newId initId : String} {bm : List Value} {v v2 : V} {u u2 : Value} {Q : XK}
theorem xc_callK (XB : XBase B newId initId bm) (c : XcC X.K file x f B newId initId bm) (hfile : ((X.prog.main.file : Str) == file) = true) (htop : (X.prog.main.scope.names.lookup ("super" : Str)).isSome = false) (hf : f = "given" ∨ f = "index")
    (hr : Room 2 X.A) (I : Inv X pins σ H s) (rv : RelV v u) (q : ∀ d, H d = none → Q (.ref (He.ga X.K x)) (some d) (upd H d (.xd [(f, v)]))) :
    wpAny (model X.prog X.w) X.A (call (.ref (He.ga X.K x)) [] [(f, u)]) (MkP X pins σ Q) X.xe s := by
  obtain ⟨nm0, N0, qn0, bs0, bm0, hdct0, sn0, sub0, ab0, col0, dd0, k0, k1, k2, k3, k5, hC, hT⟩ := excInit_of I.kIn c.inB
  obtain ⟨oc, od, osl, nm, q', x1, q1, x2, q2, p0, p1, p2, p3, p4, p5, p6, p7, p8, sc, cc, kwd, doc, pm, an, cda, ct, lk, hcd, hpp, hsc, ⟨cl, cld, csl, lc⟩, ccl, cdd, vs, ccs, tf, lcd, hv2⟩ := c.def_.ex
  obtain ⟨oI, hoI, hcI⟩ : ∃ oI, s.heap.get? (He.ma X.K (He.ga X.K x) "__init__") = some oI ∧ oI.cls = .type "function" := by
    obtain ⟨o, ho, hc⟩ := Option.map_eq_some_iff.mp (show (X.K.lookup (He.ma X.K (He.ga X.K x) "__init__")).map (·.cls) = some (.type "function") from beq_iff_eq.mp c.fn)
    exact ⟨o, I.kIn _ _ ho, hc⟩
  obtain ⟨s1, hsc⟩ := He.ba hsc
  obtain ⟨s2, hsc⟩ := He.ba hsc
  obtain ⟨s3, hsc⟩ := He.ba hsc
  obtain ⟨s4, hsc⟩ := He.ba hsc
  obtain ⟨s5, hsc⟩ := He.ba hsc
  obtain ⟨s6, hsc⟩ := He.ba hsc
  obtain ⟨s7, s8⟩ := He.ba hsc
  have s1 := of_decide_eq_true s1
  have s5 := of_decide_eq_true s5
  have s6 := of_decide_eq_true s6
  have s7 := of_decide_eq_true s7
  have s8 := of_decide_eq_true s8
  have s2 : sc.isCoroutine = false := by simpa using s2
  have s3 : sc.isGenerator = false := by simpa using s3
  obtain ⟨mb, hmb, hbb⟩ := I.mod.blt
  have hG : s.heap.Ns mainGlobals X.mg := I.mod.glob.keeps I.bk
  have hB : s.heap.Ns builtinsNs mb := hmb.keeps I.bk
  have hlim := I.nolimit
  have mgS : X.mg "super" = none := PySem.W.mg_none_of I.kIn hG c.nos
  have Inv0 := I
  have K0 := I.kIn
  obtain ⟨hp, g, dr, tk, os⟩ := s
  have k2' : ∀ b o, hp.get? b = some o → ((hp.push (kdv_tup [])).push (PySem.PX.excO (He.ga X.K x) hp.objs.size)).get? b = some o := fun b o e => Heap.get?_push_of_some _ (Heap.get?_push_of_some _ e)
  have hsz : ((hp.push (kdv_tup [])).push (PySem.PX.excO (He.ga X.K x) hp.objs.size)).objs.size = hp.objs.size + 2 := by rw [Heap.size_push, Heap.size_push]
  have hrm := hr.make (He.ga X.K x) [] [(f, u)]
  refine wpAny_call (kwx_call XB.F hT hC (looks_findIn K0 c.ini) (fun self => exc_bind hoI hcI self) ?_)
  refine ks_codeAny_call_defAt (binds := [("self", .ref (hp.objs.size + 1)), (f, u)]) hrm.depth (k2' _ _ (K0 _ _ lk)) rfl (hlim.keeps k2') ((PySem.W.codeRec_of K0 hcd).keeps k2') rfl (BindsTo.of_eq (by rcases hf with rfl | rfl <;> rfl)) ?_ ?_ (fun h1 hns hk1 => ?_) s2 s3 s1
  · intro y hy e
    have := List.all_eq_true.mp s4 y hy
    rw [e] at this
    cases this
  · intro y hy
    rcases List.mem_cons.mp hy with rfl | hy
    · exact s5
    · rcases List.mem_cons.mp hy with rfl | hy
      · exact s6
      · cases hy
  have hL : hp.objs.size + 2 = ((hp.push (kdv_tup [])).push (PySem.PX.excO (He.ga X.K x) hp.objs.size)).objs.size := hsz.symm
  rw [hsz] at hns ⊢
  have F1 : Fr hp (hp.objs.size + 2) h1 (fun y => ([("self", Value.ref (hp.objs.size + 1)), (f, u)] : List (Str × Value)).reverse.lookup y) := ⟨hns, fun b o e => hk1 b o (k2' b o e), Nat.le_add_right _ _⟩
  have ge : ∀ n, hp.get? (hp.objs.size + n) = none := fun n => Heap.get?_none_of_le (Nat.le_add_right _ _)
  have N1 : News hp (hp.objs.size + 2) h1 [(hp.objs.size + 1, excObj (He.ga X.K x) hp.objs.size none .none), (hp.objs.size, excTup [])] := fun p hm => by
    rcases List.mem_cons.mp hm with rfl | hm
    · exact ⟨hk1 _ _ (by heap_get), by simp, ge 1⟩
    · rcases List.mem_cons.mp hm with rfl | hm
      · exact ⟨hk1 _ _ (by heap_get), by simp, ge 0⟩
      · cases hm
  have X1 : X.K.In h1 := K0.keeps F1.keep
  generalize hA1 : X.A.under (.builtin "type.__call__" ⟨[.ref (He.ga X.K x)], [(f, u)]⟩) = A1
  generalize henv : callEnv _ _ _ = env
  have v1 : env.scope = sc := by rw [← henv]; rfl
  have v2 : ∀ y, env.kindOf y = sc.names.lookup y := fun y => by rw [← henv]; rfl
  have v3 : env.func = some (He.ma X.K (He.ga X.K x) "__init__") := by rw [← henv]; rfl
  have v4 : env.code = .ref cda := by rw [← henv]; rfl
  have v5 : env.cells = [(("__class__" : Str), cc)] := by rw [← henv]; rfl
  have v6 : env.globals = mainGlobals := by rw [← henv]; rfl
  have v7 : env.builtins = builtinsNs := by rw [← henv]; rfl
  have v8 : env.locals = hp.objs.size + 2 := by rw [← henv]; rfl
  clear henv
  have he : eval (.Call (.Attribute (.Call (.Name "super" p0) [] [] p1) "__init__" p2) [] [] p3) env = (do
      let ov ← attributeBase (.Call (.Name "super" p0) [] [] p1) "__init__" env (eval (.Call (.Name "super" p0) [] [] p1) env)
      standAt p2.atName
      let (f, first) ← holding [ov] (getMethod ov "__init__" (do return (← importBound (.Call (.Name "super" p0) [] [] p1) env).getD true))
      callWith p3 f first (backTo p3 (starEach [] env)) []) := by
    show (do
      let ov ← attributeBase (.Call (.Name "super" p0) [] [] p1) "__init__" env (eval (.Call (.Name "super" p0) [] [] p1) env)
      standAt p2.atName
      methodCall (.Call (.Name "super" p0) [] [] p1) "__init__" p2 p3 env ov 0 (backTo p3 (starEach [] env)) (backToKw p3 (keywordEach [] env))) = _
    unfold methodCall methodCallPos
    simp only [hpp, Bool.or_true, if_true, pure_bind]
    rfl
  refine ks_wpAt_execs_cons (ks_wpAt_Expr_any (ks_wpAt_MethodCall ?_ he) ?_ rfl)
  rotate_left
  · unfold interactive
    rw [v1, s1]
    rfl
  refine ks_wpAt_super_base (f := He.ma X.K (He.ga X.K x) "__init__") (cc := cda) ((v2 _).trans s7) ((v2 _).trans s8) (by decide) v3 (X1 _ _ lk) rfl rfl v4 (X1 _ _ lcd) rfl hv2 hfile htop ?_
  refine ks_loadName_global (by rw [v1]; exact s1) ((v2 _).trans s7) (Calls.loadGlobal_builtin (mg := X.mg) (mb := mb) (by rw [v6]; exact hG.keeps F1.keep) mgS (by rw [v7]; exact hB.keeps F1.keep) ((hbb _ (by decide +kernel)).trans PyProof.Rows.Boot.«super») ⟨rfl, ?_⟩)
  refine wpAny_loadName_free (by rw [v1]; exact s1) ((v2 _).trans s8) (c := cc) (by rw [v5]; rfl) ⟨_, X1 _ _ lc, rfl⟩ ?_
  refine wpAny_loadName_local (by rw [v1]; exact s1) ((v2 _).trans s5) (by rw [v8]; exact F1.ns) (v := .ref (hp.objs.size + 1)) (by rcases hf with rfl | rfl <;> rfl) ?_
  obtain ⟨oC, hCo, hCd⟩ : ∃ oC, h1.get? (He.ga X.K x) = some oC ∧ ∃ cd, oC.data = .cls cd := ⟨_, F1.keep _ _ hC, _, rfl⟩
  obtain ⟨cdC, hCd⟩ := hCd
  refine ks_wpAny_isType_cls hCo hCd ⟨rfl, ?_⟩
  have Icls : InstAt h1 (hp.objs.size + 1) (excObj (He.ga X.K x) hp.objs.size none .none) (He.ga X.K x) none := ⟨(N1 _ (List.mem_cons_self ..)).1, rfl, rfl, trivial⟩
  refine ks_wpAny_call_super hCo hCd Icls.at_ rfl (fun c e => by cases e) (looks_mroIn X1 c.self) (fun h2 e2 kk2 => ?_)
  obtain ⟨F2, N2, lt2⟩ := ks_newsPush (s := ⟨h1, g, dr, tk + 2, os⟩) (o := ks_superObj (He.ga X.K x) (hp.objs.size + 1) (He.ga X.K x)) F1 N1 rfl e2 kk2
  have X2 : X.K.In h2 := K0.keeps F2.keep
  have I2 : InstAt h2 (hp.objs.size + 1) (excObj (He.ga X.K x) hp.objs.size none .none) (He.ga X.K x) none := ⟨(N2 _ (.tail _ (.head _))).1, rfl, rfl, trivial⟩
  refine kxs_method XB.X F2 K0 N2 (List.mem_cons_self ..) I2 c.opq c.sup c.sub (by decide) (fun q3 h3 F3 N3 lt3 => ?_)
  refine kxs_callWith0 N3 (List.mem_cons_self ..) (kxs_call F3 K0 N3 XB.F c.inB (List.mem_cons_self ..) (.tail ?_ (.tail ?_ (.head ?_))) (by show 0 ≤ sizeLine; omega) (fun t4 h4 F4 N4 lt4 => ?_))
  · exact Nat.ne_of_gt (lt3 _ (.tail _ (.head _)))
  · exact Nat.ne_of_gt (lt2 _ (.head _))
  · intro p hm
    rcases List.mem_cons.mp hm with rfl | hm
    · show hp.objs.size ≠ hp.objs.size + 1
      omega
    · cases hm
  show _root_.PySem.wpAt _ _ _ _ _ _ _
  refine ks_wpAt_execs_cons (ks_wpAt_Assign_Attr (wpAt_of_wpAny (wpAny_Name (wpAny_loadName_local (by rw [v1]; exact s1) ((v2 _).trans s6) (by rw [v8]; exact F4.ns) (v := u) (by rcases hf with rfl | rfl <;> rfl) ?_) (by rcases hf with rfl | rfl <;> decide))) rfl)
  refine wpAny_Name (wpAny_loadName_local (by rw [v1]; exact s1) ((v2 _).trans s5) (by rw [v8]; exact F4.ns) (v := .ref (hp.objs.size + 1)) (by rcases hf with rfl | rfl <;> rfl) ?_) (by decide)
  refine set_exc0 XB.S F4 K0 N4 (.tail _ (.tail _ (.tail _ (.head _)))) c.sa c.over c.tk c.hd rfl (.tail ?_ (.tail ?_ (.tail ?_ (.head ?_)))) (by show 1 ≤ 1000; omega) (fun dx h5 F5 N5 lt5 => ?_)
  · exact Nat.ne_of_gt (lt4 _ (.tail _ (.tail _ (.head _))))
  · exact Nat.ne_of_gt (lt3 _ (.tail _ (.head _)))
  · exact Nat.ne_of_gt (lt2 _ (.head _))
  · intro p hm
    rcases List.mem_cons.mp hm with rfl | hm
    · show hp.objs.size ≠ hp.objs.size + 1
      omega
    · cases hm
  refine wpAt_of_wpAny (wpAny_execs_nil ?_)
  have ge : ∀ n, hp.get? (hp.objs.size + n) = none := fun n => Heap.get?_none_of_le (Nat.le_add_right _ _)
  have exAt : h5.get? (hp.objs.size + 1) = some (excObj (He.ga X.K x) t4 (some dx) .none) := (N5 _ (.tail _ (.tail _ (.tail _ (.tail _ (.head _)))))).1
  have dAt := (N5 _ (.head _)).1
  have dNew : hp.get? dx = none := (N5 _ (.head _)).2.2
  have dGe : hp.objs.size ≤ dx := Nat.le_trans (Nat.le_add_right _ 1) (Nat.le_of_lt (lt5 (hp.objs.size + 1, excObj (He.ga X.K x) t4 none .none) (.tail _ (.tail _ (.tail _ (.head _))))))
  have dNe : dx ≠ hp.objs.size + 1 := Nat.ne_of_gt (lt5 (hp.objs.size + 1, excObj (He.ga X.K x) t4 none .none) (.tail _ (.tail _ (.tail _ (.head _)))))
  exact ⟨rfl, xc_end Inv0 F5.keep exAt dAt dGe dNe rv (raises_own c.exC c.tyC) (q dx)⟩
theorem xc_call2K (XB : XBase B newId initId bm) (c : Xc2 X.K file x B newId initId bm) (hfile : ((X.prog.main.file : Str) == file) = true) (htop : (X.prog.main.scope.names.lookup ("super" : Str)).isSome = false)
    (hr : Room 2 X.A) (I : Inv X pins σ H s) (rv : RelV v u) (rv2 : RelV v2 u2) (q : ∀ d, H d = none → Q (.ref (He.ga X.K x)) (some d) (upd H d (.xd [("index", v), ("shown", v2)]))) :
    wpAny (model X.prog X.w) X.A (call (.ref (He.ga X.K x)) [] [("shown", u2), ("index", u)]) (MkP X pins σ Q) X.xe s := by
  obtain ⟨nm0, N0, qn0, bs0, bm0, hdct0, sn0, sub0, ab0, col0, dd0, k0, k1, k2, k3, k5, hC, hT⟩ := excInit_of I.kIn c.inB
  obtain ⟨oc, od, osl, nm, q', x1, q1, x2, q2, x3, q3, p0, p1, p2, p3, p4, p5, p6, p7, p8, r5, r6, r7, r8, sc, cc, kwd, doc, pm, an, cda, ct, lk, hcd, hpp, hsc, s6b, ⟨cl, cld, csl, lc⟩, ccl, cdd, vs, ccs, tf, lcd, hv2⟩ := c.def_.ex
  obtain ⟨oI, hoI, hcI⟩ : ∃ oI, s.heap.get? (He.ma X.K (He.ga X.K x) "__init__") = some oI ∧ oI.cls = .type "function" := by
    obtain ⟨o, ho, hc⟩ := Option.map_eq_some_iff.mp (show (X.K.lookup (He.ma X.K (He.ga X.K x) "__init__")).map (·.cls) = some (.type "function") from beq_iff_eq.mp c.fn)
    exact ⟨o, I.kIn _ _ ho, hc⟩
  obtain ⟨s1, hsc⟩ := He.ba hsc
  obtain ⟨s2, hsc⟩ := He.ba hsc
  obtain ⟨s3, hsc⟩ := He.ba hsc
  obtain ⟨s4, hsc⟩ := He.ba hsc
  obtain ⟨s5, hsc⟩ := He.ba hsc
  obtain ⟨s6, hsc⟩ := He.ba hsc
  obtain ⟨s7, s8⟩ := He.ba hsc
  have s1 := of_decide_eq_true s1
  have s5 := of_decide_eq_true s5
  have s6 := of_decide_eq_true s6
  have s7 := of_decide_eq_true s7
  have s8 := of_decide_eq_true s8
  have s2 : sc.isCoroutine = false := by simpa using s2
  have s3 : sc.isGenerator = false := by simpa using s3
  obtain ⟨mb, hmb, hbb⟩ := I.mod.blt
  have hG : s.heap.Ns mainGlobals X.mg := I.mod.glob.keeps I.bk
  have hB : s.heap.Ns builtinsNs mb := hmb.keeps I.bk
  have hlim := I.nolimit
  have mgS : X.mg "super" = none := PySem.W.mg_none_of I.kIn hG c.nos
  have Inv0 := I
  have K0 := I.kIn
  obtain ⟨hp, g, dr, tk, os⟩ := s
  have k2' : ∀ b o, hp.get? b = some o → ((hp.push (kdv_tup [])).push (PySem.PX.excO (He.ga X.K x) hp.objs.size)).get? b = some o := fun b o e => Heap.get?_push_of_some _ (Heap.get?_push_of_some _ e)
  have hsz : ((hp.push (kdv_tup [])).push (PySem.PX.excO (He.ga X.K x) hp.objs.size)).objs.size = hp.objs.size + 2 := by rw [Heap.size_push, Heap.size_push]
  have hrm := hr.make (He.ga X.K x) [] [("shown", u2), ("index", u)]
  refine wpAny_call (kwx_call XB.F hT hC (looks_findIn K0 c.ini) (fun self => exc_bind hoI hcI self) ?_)
  refine ks_codeAny_call_defAt (binds := [("self", .ref (hp.objs.size + 1)), ("index", u), ("shown", u2)]) hrm.depth (k2' _ _ (K0 _ _ lk)) rfl (hlim.keeps k2') ((PySem.W.codeRec_of K0 hcd).keeps k2') rfl (BindsTo.of_eq (by rfl)) ?_ ?_ (fun h1 hns hk1 => ?_) s2 s3 s1
  · intro y hy e
    have := List.all_eq_true.mp s4 y hy
    rw [e] at this
    cases this
  · intro y hy
    rcases List.mem_cons.mp hy with rfl | hy
    · exact s5
    · rcases List.mem_cons.mp hy with rfl | hy
      · exact s6
      · rcases List.mem_cons.mp hy with rfl | hy
        · exact s6b
        · cases hy
  have hL : hp.objs.size + 2 = ((hp.push (kdv_tup [])).push (PySem.PX.excO (He.ga X.K x) hp.objs.size)).objs.size := hsz.symm
  rw [hsz] at hns ⊢
  have F1 : Fr hp (hp.objs.size + 2) h1 (fun y => ([("self", Value.ref (hp.objs.size + 1)), ("index", u), ("shown", u2)] : List (Str × Value)).reverse.lookup y) := ⟨hns, fun b o e => hk1 b o (k2' b o e), Nat.le_add_right _ _⟩
  have ge : ∀ n, hp.get? (hp.objs.size + n) = none := fun n => Heap.get?_none_of_le (Nat.le_add_right _ _)
  have N1 : News hp (hp.objs.size + 2) h1 [(hp.objs.size + 1, excObj (He.ga X.K x) hp.objs.size none .none), (hp.objs.size, excTup [])] := fun p hm => by
    rcases List.mem_cons.mp hm with rfl | hm
    · exact ⟨hk1 _ _ (by heap_get), by simp, ge 1⟩
    · rcases List.mem_cons.mp hm with rfl | hm
      · exact ⟨hk1 _ _ (by heap_get), by simp, ge 0⟩
      · cases hm
  have X1 : X.K.In h1 := K0.keeps F1.keep
  generalize hA1 : X.A.under (.builtin "type.__call__" ⟨[.ref (He.ga X.K x)], [("shown", u2), ("index", u)]⟩) = A1
  generalize henv : callEnv _ _ _ = env
  have v1 : env.scope = sc := by rw [← henv]; rfl
  have v2 : ∀ y, env.kindOf y = sc.names.lookup y := fun y => by rw [← henv]; rfl
  have v3 : env.func = some (He.ma X.K (He.ga X.K x) "__init__") := by rw [← henv]; rfl
  have v4 : env.code = .ref cda := by rw [← henv]; rfl
  have v5 : env.cells = [(("__class__" : Str), cc)] := by rw [← henv]; rfl
  have v6 : env.globals = mainGlobals := by rw [← henv]; rfl
  have v7 : env.builtins = builtinsNs := by rw [← henv]; rfl
  have v8 : env.locals = hp.objs.size + 2 := by rw [← henv]; rfl
  clear henv
  have he : eval (.Call (.Attribute (.Call (.Name "super" p0) [] [] p1) "__init__" p2) [] [] p3) env = (do
      let ov ← attributeBase (.Call (.Name "super" p0) [] [] p1) "__init__" env (eval (.Call (.Name "super" p0) [] [] p1) env)
      standAt p2.atName
      let (f, first) ← holding [ov] (getMethod ov "__init__" (do return (← importBound (.Call (.Name "super" p0) [] [] p1) env).getD true))
      callWith p3 f first (backTo p3 (starEach [] env)) []) := by
    show (do
      let ov ← attributeBase (.Call (.Name "super" p0) [] [] p1) "__init__" env (eval (.Call (.Name "super" p0) [] [] p1) env)
      standAt p2.atName
      methodCall (.Call (.Name "super" p0) [] [] p1) "__init__" p2 p3 env ov 0 (backTo p3 (starEach [] env)) (backToKw p3 (keywordEach [] env))) = _
    unfold methodCall methodCallPos
    simp only [hpp, Bool.or_true, if_true, pure_bind]
    rfl
  refine ks_wpAt_execs_cons (ks_wpAt_Expr_any (ks_wpAt_MethodCall ?_ he) ?_ rfl)
  rotate_left
  · unfold interactive
    rw [v1, s1]
    rfl
  refine ks_wpAt_super_base (f := He.ma X.K (He.ga X.K x) "__init__") (cc := cda) ((v2 _).trans s7) ((v2 _).trans s8) (by decide) v3 (X1 _ _ lk) rfl rfl v4 (X1 _ _ lcd) rfl hv2 hfile htop ?_
  refine ks_loadName_global (by rw [v1]; exact s1) ((v2 _).trans s7) (Calls.loadGlobal_builtin (mg := X.mg) (mb := mb) (by rw [v6]; exact hG.keeps F1.keep) mgS (by rw [v7]; exact hB.keeps F1.keep) ((hbb _ (by decide +kernel)).trans PyProof.Rows.Boot.«super») ⟨rfl, ?_⟩)
  refine wpAny_loadName_free (by rw [v1]; exact s1) ((v2 _).trans s8) (c := cc) (by rw [v5]; rfl) ⟨_, X1 _ _ lc, rfl⟩ ?_
  refine wpAny_loadName_local (by rw [v1]; exact s1) ((v2 _).trans s5) (by rw [v8]; exact F1.ns) (v := .ref (hp.objs.size + 1)) (by rfl) ?_
  obtain ⟨oC, hCo, hCd⟩ : ∃ oC, h1.get? (He.ga X.K x) = some oC ∧ ∃ cd, oC.data = .cls cd := ⟨_, F1.keep _ _ hC, _, rfl⟩
  obtain ⟨cdC, hCd⟩ := hCd
  refine ks_wpAny_isType_cls hCo hCd ⟨rfl, ?_⟩
  have Icls : InstAt h1 (hp.objs.size + 1) (excObj (He.ga X.K x) hp.objs.size none .none) (He.ga X.K x) none := ⟨(N1 _ (List.mem_cons_self ..)).1, rfl, rfl, trivial⟩
  refine ks_wpAny_call_super hCo hCd Icls.at_ rfl (fun c e => by cases e) (looks_mroIn X1 c.self) (fun h2 e2 kk2 => ?_)
  obtain ⟨F2, N2, lt2⟩ := ks_newsPush (s := ⟨h1, g, dr, tk + 2, os⟩) (o := ks_superObj (He.ga X.K x) (hp.objs.size + 1) (He.ga X.K x)) F1 N1 rfl e2 kk2
  have X2 : X.K.In h2 := K0.keeps F2.keep
  have I2 : InstAt h2 (hp.objs.size + 1) (excObj (He.ga X.K x) hp.objs.size none .none) (He.ga X.K x) none := ⟨(N2 _ (.tail _ (.head _))).1, rfl, rfl, trivial⟩
  refine kxs_method XB.X F2 K0 N2 (List.mem_cons_self ..) I2 c.opq c.sup c.sub (by decide) (fun q3 h3 F3 N3 lt3 => ?_)
  refine kxs_callWith0 N3 (List.mem_cons_self ..) (kxs_call F3 K0 N3 XB.F c.inB (List.mem_cons_self ..) (.tail ?_ (.tail ?_ (.head ?_))) (by show 0 ≤ sizeLine; omega) (fun t4 h4 F4 N4 lt4 => ?_))
  · exact Nat.ne_of_gt (lt3 _ (.tail _ (.head _)))
  · exact Nat.ne_of_gt (lt2 _ (.head _))
  · intro p hm
    rcases List.mem_cons.mp hm with rfl | hm
    · show hp.objs.size ≠ hp.objs.size + 1
      omega
    · cases hm
  show _root_.PySem.wpAt _ _ _ _ _ _ _
  refine ks_wpAt_execs_cons (ks_wpAt_Assign_Attr (wpAt_of_wpAny (wpAny_Name (wpAny_loadName_local (by rw [v1]; exact s1) ((v2 _).trans s6) (by rw [v8]; exact F4.ns) (v := u) (by rfl) ?_) (by decide))) rfl)
  refine wpAny_Name (wpAny_loadName_local (by rw [v1]; exact s1) ((v2 _).trans s5) (by rw [v8]; exact F4.ns) (v := .ref (hp.objs.size + 1)) (by rfl) ?_) (by decide)
  refine set_exc0 XB.S F4 K0 N4 (.tail _ (.tail _ (.tail _ (.head _)))) c.sa c.over c.tk c.hd rfl (.tail ?_ (.tail ?_ (.tail ?_ (.head ?_)))) (by show 1 ≤ 1000; omega) (fun dx h5 F5 N5 lt5 => ?_)
  · exact Nat.ne_of_gt (lt4 _ (.tail _ (.tail _ (.head _))))
  · exact Nat.ne_of_gt (lt3 _ (.tail _ (.head _)))
  · exact Nat.ne_of_gt (lt2 _ (.head _))
  · intro p hm
    rcases List.mem_cons.mp hm with rfl | hm
    · show hp.objs.size ≠ hp.objs.size + 1
      omega
    · cases hm
  refine ks_wpAt_execs_cons (ks_wpAt_Assign_Attr (wpAt_of_wpAny (wpAny_Name (wpAny_loadName_local (by rw [v1]; exact s1) ((v2 _).trans s6b) (by rw [v8]; exact F5.ns) (v := u2) (by rfl) ?_) (by decide))) rfl)
  refine wpAny_Name (wpAny_loadName_local (by rw [v1]; exact s1) ((v2 _).trans s5) (by rw [v8]; exact F5.ns) (v := .ref (hp.objs.size + 1)) (by rfl) ?_) (by decide)
  refine set_excD XB.S F5 K0 N5 (.tail _ (.tail _ (.tail _ (.tail _ (.head _))))) c.sa c.over c.tk2 c.hd (.head _) rfl rfl (.head ?_) (by show 2 ≤ 1000; omega) (fun h6 F6 N6 => ?_)
  · intro p hm
    have l1 := lt5 _ (.head _)
    have l2 := lt5 _ (.tail _ (.head _))
    have l3 := lt5 _ (.tail _ (.tail _ (.head _)))
    have l4 := lt5 _ (.tail _ (.tail _ (.tail _ (.head _))))
    have l5 := lt5 _ (.tail _ (.tail _ (.tail _ (.tail _ (.head _)))))
    rcases List.mem_cons.mp hm with rfl | hm
    · exact Nat.ne_of_lt l1
    rcases List.mem_cons.mp hm with rfl | hm
    · exact Nat.ne_of_lt l2
    rcases List.mem_cons.mp hm with rfl | hm
    · exact Nat.ne_of_lt l3
    rcases List.mem_cons.mp hm with rfl | hm
    · exact Nat.ne_of_lt l4
    rcases List.mem_cons.mp hm with rfl | hm
    · exact Nat.ne_of_lt l5
    · cases hm
  refine wpAt_of_wpAny (wpAny_execs_nil ?_)
  have ge : ∀ n, hp.get? (hp.objs.size + n) = none := fun n => Heap.get?_none_of_le (Nat.le_add_right _ _)
  have exAt : h6.get? (hp.objs.size + 1) = some (excObj (He.ga X.K x) t4 (some dx) .none) := (N6 _ (.tail _ (.tail _ (.tail _ (.tail _ (.head _)))))).1
  have dAt := (N6 _ (.head _)).1
  have dGe : hp.objs.size ≤ dx := Nat.le_trans (Nat.le_add_right _ 1) (Nat.le_of_lt (lt5 (hp.objs.size + 1, excObj (He.ga X.K x) t4 none .none) (.tail _ (.tail _ (.tail _ (.head _))))))
  have dNe : dx ≠ hp.objs.size + 1 := Nat.ne_of_gt (lt5 (hp.objs.size + 1, excObj (He.ga X.K x) t4 none .none) (.tail _ (.tail _ (.tail _ (.head _)))))
  exact ⟨rfl, xc_end2 Inv0 F6.keep exAt dAt dGe dNe rv rv2 (raises_own c.exC c.tyC) (q dx)⟩
end
end Kv
namespace Kv
open PySem PySem.Spec PyProof.Rows L2
section
variable {X : Cx} {pins : List (Addr × Obj)} {σ : L2.St} {H : Hp} {s : Shared}
theorem mkp_ep {Q : XK} {Q2 : VK} {u : Value} (h : MkP X pins σ Q u s) (q : ∀ a cls od G, G a = none → Q cls od G → Q2 (.ref a) (upd G a (XO cls od a))) : EP X pins σ Q2 u s := by
  obtain ⟨a, oe, vs, sI, H1, cls, d, rfl, J, k, hne, ha, hz, hd, h1, na, os, ag, r, q0⟩ := h
  have new : ObjOk X.prog X.w (upd H1 a (XO cls d a)) s.heap a (XO cls d a) := ⟨⟨oe, ha, hz, vs, hd⟩, ⟨oe, ha⟩, fun _ _ ⟨o, e, z⟩ kk => ⟨o, kk o e, z⟩⟩
  have J1 := J.laidN (t' := s.toks) k hne na new
  exact ⟨.ref a, _, ⟨J1.ok, os.trans J.os, ag, J1.base, J1.loc, J1.cell, J1.free, J1.freeC, J1.pin, J1.hok, J1.len⟩, rfl, q a cls d H1 na q0⟩
end
section
variable {X : Cx} {x f file : Str} {B newId initId : String} {bm : List Value} {e e1 e2 : Expr} {kws : List Keyword} {fe : Ev → Option D} {fs : Ev → Option (List D)} {p pos p1 : Pos} {cs : List Str}
theorem exo_laid {F H : Hp} {ns : List Str} {ds : List D} {vs : List V} {Q : VK} {C : Addr} (le : LeF F H) (hm : X.mg x = some (.ref C)) (hl : ns.length = vs.length) (r : Imms (gb X) F ds vs) (q : ∀ v F' H', Chg F H noW F' H' noW → Imm (gb X) F' (.exo x ns ds) v → Q v H') :
    ∀ d a, H d = none → upd H d (.xd (ns.zip vs)) a = none → Q (.ref a) (upd (upd H d (.xd (ns.zip vs))) a (XO (.ref C) (some d) a)) := by
  intro d a hd ha
  have c2 := chg_newF (o := .xd (ns.zip vs)) le hd
  have c3 := chg_newF (o := XO (.ref C) (some d) a) c2.le ha
  have ne : d ≠ a := fun z => by
    rw [← z, upd_same] at ha
    cases ha
  refine q _ _ _ (c2.trans c3) ?_
  unfold Imm
  refine ⟨a, some d, C, vs, rfl, hm, upd_same, ?_, hl, (c2.trans c3).imms r⟩
  show upd (upd F d _) a _ d = some _
  rw [upd_ne ne, upd_same]
theorem pv_ex1 (XB : XBase B newId initId bm) (c : XcC X.K file x f B newId initId bm) (hfile : ((X.prog.main.file : Str) == file) = true) (htop : (X.prog.main.scope.names.lookup ("super" : Str)).isSome = false) (hf : f = "given" ∨ f = "index")
    (hr : Room 2 X.A) (h : PV X e fe) (hmx : X.mg x = some (.ref (He.ga X.K x))) (hg : Gl X x := by rfl) (hdb : (x == ("__debug__" : Str)) = false := by decide) (he : starEach [e] X.env = (false, eval e X.env) :: starEach [] X.env := by rfl) (hpl : (backTo pos (starEach [] X.env)).any (·.1) = false := by rfl) :
    PV X (.Call (.Name x p) [e] [] pos) (fun ev => (fe ev).map fun d => .exo x [f] [d]) := by
  obtain ⟨t, h1, h2⟩ := h
  have ha : PA X [e] (tCons t tNil) := pa_cons h1 pa_nil he
  refine ⟨fun σ H Q => (tCons t tNil) σ H fun vs H1 => ∃ v, vs = [v] ∧ ∀ d a, H1 d = none → upd H1 d (.xd [(f, v)]) a = none → Q (.ref a) (upd (upd H1 d (.xd [(f, v)])) a (XO (.ref (He.ga X.K x)) (some d) a)), ⟨fun pins s σ H Q I h => ?_⟩, fun F H ev σ W d S hf Q hQ => ?_⟩
  · refine wpAny_Call_Name_kw (ld_glob I hg hmx ?_ hdb)
    refine PySem.W.callWith_K (h₀ := X.base) I.ok.mod.kin c.kp (thn (ha.run pos pins s σ H _ I h) fun us s1 ⟨vs, H1, I1, r1, v, ev, q⟩ => ⟨I1.kIn, ?_⟩) he hpl
    subst ev
    obtain ⟨u, rfl, rv⟩ := vals1 r1
    exact wpAny_mono (xc_call (Q := fun cls od G => ∀ a, G a = none → Q (.ref a) (upd G a (XO cls od a))) XB c hfile htop hf hr I1 rv fun d hd a ha => q d a hd ha) (fun u s' z => mkp_ep z fun a cls od G na q => q a na) (fun _ _ z => z)
  · obtain ⟨d0, e1, rfl⟩ := mp hf
    exact h2 F H ev σ W d0 S e1 _ fun v F1 H1 c1 r1 => ⟨v, rfl, exo_laid (ns := [f]) (vs := [v]) c1.le hmx rfl (.one r1) fun v F' H' c r => hQ v F' H' (c1.trans c) r⟩
def exK1 (x f : Str) (fs : Ev → Option (List D)) : Ev → Option D := fun ev => (fs ev).bind fun ds => match ds with
  | [d] => some (.exo x [f] [d])
  | _ => none
theorem pv_exK (XB : XBase B newId initId bm) (c : XcC X.K file x f B newId initId bm) (hfile : ((X.prog.main.file : Str) == file) = true) (htop : (X.prog.main.scope.names.lookup ("super" : Str)).isSome = false) (hf : f = "given" ∨ f = "index")
    (hr : Room 2 X.A) (h : PKv X kws fs) (hmx : X.mg x = some (.ref (He.ga X.K x))) (hks : (backToKw pos (keywordEach kws X.env)).filterMap (·.1) = [f] := by rfl) (hg : Gl X x := by rfl) (hdb : (x == ("__debug__" : Str)) = false := by decide)
    (hall : (backToKw pos (keywordEach kws X.env)).all (·.1.isSome) = true := by rfl) (hpl : ((backTo pos (starEach [] X.env)).any (·.1) || (backToKw pos (keywordEach kws X.env)).any (·.1.isNone)) = false := by rfl) :
    PV X (.Call (.Name x p) [] kws pos) (exK1 x f fs) := by
  obtain ⟨t, a1, a2⟩ := h
  refine ⟨fun σ H Q => t σ H fun vs H1 => ∃ v, vs = [v] ∧ ∀ d a, H1 d = none → upd H1 d (.xd [(f, v)]) a = none → Q (.ref a) (upd (upd H1 d (.xd [(f, v)])) a (XO (.ref (He.ga X.K x)) (some d) a)), ⟨fun pins s σ H Q I h => ?_⟩, fun F H ev σ W d S hf Q hQ => ?_⟩
  · refine wpAny_Call_Name_kw (ld_glob I hg hmx ?_ hdb)
    refine PySem.W.callWith_KW0 (first := []) (h₀ := X.base) I.ok.mod.kin c.kp hall (thn (a1.run pos pins s σ H _ I h) ?_) hpl
    rintro us s1 ⟨vs, H1, I1, r1, v, ev, q⟩
    refine ⟨I1.kIn, ?_⟩
    subst ev
    obtain ⟨u, rfl, rv⟩ := vals1 r1
    rw [hks]
    exact wpAny_mono (xc_callK (Q := fun cls od G => ∀ a, G a = none → Q (.ref a) (upd G a (XO cls od a))) XB c hfile htop hf hr I1 rv fun d hd a ha => q d a hd ha) (fun u s' z => mkp_ep z fun a cls od G na q => q a na) (fun _ _ z => z)
  · obtain ⟨ds, e1, e2⟩ := bnd hf
    match ds, e2 with
    | [], e2 => cases e2
    | _ :: _ :: _, e2 => cases e2
    | [d0], e2 =>
    cases e2
    refine a2 F H ev σ W [d0] S e1 _ fun vs F1 H1 c1 r1 => ?_
    unfold Imms at r1
    obtain ⟨v, r, rfl, r2, r3⟩ := r1
    unfold Imms at r3
    subst r3
    exact ⟨v, rfl, exo_laid (ns := [f]) (vs := [v]) c1.le hmx rfl (.one r2) fun v F' H' c r => hQ v F' H' (c1.trans c) r⟩
def exP2 (x : Str) (fs : Ev → Option (List D)) : Ev → Option D := fun ev => (fs ev).bind fun ds => match ds with
  | [a, b] => some (.exo x ["index", "shown"] [a, b])
  | _ => none
theorem pv_ex2 (XB : XBase B newId initId bm) (c : Xc2 X.K file x B newId initId bm) (hfile : ((X.prog.main.file : Str) == file) = true) (htop : (X.prog.main.scope.names.lookup ("super" : Str)).isSome = false)
    (hr : Room 2 X.A) (h : PAv X [e1, e2] fs) (hmx : X.mg x = some (.ref (He.ga X.K x))) (hg : Gl X x := by rfl) (hdb : (x == ("__debug__" : Str)) = false := by decide) (he : starEach [e1, e2] X.env = (false, eval e1 X.env) :: starEach [e2] X.env := by rfl) (hpl : (backTo pos (starEach [e2] X.env)).any (·.1) = false := by rfl) :
    PV X (.Call (.Name x p) [e1, e2] [] pos) (exP2 x fs) := by
  obtain ⟨t, h1, h2⟩ := h
  refine ⟨fun σ H Q => t σ H fun vs H1 => ∃ v v2, vs = [v, v2] ∧ ∀ d a, H1 d = none → upd H1 d (.xd [("index", v), ("shown", v2)]) a = none → Q (.ref a) (upd (upd H1 d (.xd [("index", v), ("shown", v2)])) a (XO (.ref (He.ga X.K x)) (some d) a)), ⟨fun pins s σ H Q I h => ?_⟩, fun F H ev σ W d S hf Q hQ => ?_⟩
  · refine wpAny_Call_Name_kw (ld_glob I hg hmx ?_ hdb)
    refine PySem.W.callWith_K (h₀ := X.base) I.ok.mod.kin c.kp (thn (h1.run pos pins s σ H _ I h) fun us s1 ⟨vs, H1, I1, r1, v, v2, ev, q⟩ => ⟨I1.kIn, ?_⟩) he hpl
    subst ev
    cases r1 with
    | cons rv r2 =>
      obtain ⟨u2, rfl, rv2⟩ := vals1 r2
      exact wpAny_mono (xc_call2 (Q := fun cls od G => ∀ a, G a = none → Q (.ref a) (upd G a (XO cls od a))) XB c hfile htop hr I1 rv rv2 fun d hd a ha => q d a hd ha) (fun u s' z => mkp_ep z fun a cls od G na q => q a na) (fun _ _ z => z)
  · obtain ⟨ds, e1, e2⟩ := bnd hf
    match ds, e2 with
    | [], e2 => cases e2
    | [_], e2 => cases e2
    | _ :: _ :: _ :: _, e2 => cases e2
    | [d0, d1], e2 =>
    cases e2
    refine h2 F H ev σ W [d0, d1] S e1 _ fun vs F1 H1 c1 r1 => ?_
    have r1' := r1
    unfold Imms at r1
    obtain ⟨v, r, rfl, r2, r3⟩ := r1
    unfold Imms at r3
    obtain ⟨v2, r', rfl, r4, r5⟩ := r3
    unfold Imms at r5
    subst r5
    exact ⟨v, v2, rfl, exo_laid (ns := ["index", "shown"]) (vs := [v, v2]) c1.le hmx rfl r1' fun v F' H' c r => hQ v F' H' (c1.trans c) r⟩
def exK2 (x : Str) (fs : Ev → Option (List D)) : Ev → Option D := fun ev => (fs ev).bind fun ds => match ds with
  | [b, a] => some (.exo x ["index", "shown"] [a, b])
  | _ => none
theorem pv_exK2 (XB : XBase B newId initId bm) (c : Xc2 X.K file x B newId initId bm) (hfile : ((X.prog.main.file : Str) == file) = true) (htop : (X.prog.main.scope.names.lookup ("super" : Str)).isSome = false)
    (hr : Room 2 X.A) (h : PKv X kws fs) (hmx : X.mg x = some (.ref (He.ga X.K x))) (hks : (backToKw pos (keywordEach kws X.env)).filterMap (·.1) = ([("shown" : Str), ("index" : Str)] : List Str) := by rfl) (hg : Gl X x := by rfl) (hdb : (x == ("__debug__" : Str)) = false := by decide)
    (hall : (backToKw pos (keywordEach kws X.env)).all (·.1.isSome) = true := by rfl) (hpl : ((backTo pos (starEach [] X.env)).any (·.1) || (backToKw pos (keywordEach kws X.env)).any (·.1.isNone)) = false := by rfl) :
    PV X (.Call (.Name x p) [] kws pos) (exK2 x fs) := by
  obtain ⟨t, a1, a2⟩ := h
  refine ⟨fun σ H Q => t σ H fun vs H1 => ∃ v v2, vs = [v2, v] ∧ ∀ d a, H1 d = none → upd H1 d (.xd [("index", v), ("shown", v2)]) a = none → Q (.ref a) (upd (upd H1 d (.xd [("index", v), ("shown", v2)])) a (XO (.ref (He.ga X.K x)) (some d) a)), ⟨fun pins s σ H Q I h => ?_⟩, fun F H ev σ W d S hf Q hQ => ?_⟩
  · refine wpAny_Call_Name_kw (ld_glob I hg hmx ?_ hdb)
    refine PySem.W.callWith_KW0 (first := []) (h₀ := X.base) I.ok.mod.kin c.kp hall (thn (a1.run pos pins s σ H _ I h) ?_) hpl
    rintro us s1 ⟨vs, H1, I1, r1, v, v2, ev, q⟩
    refine ⟨I1.kIn, ?_⟩
    subst ev
    rw [hks]
    cases r1 with
    | cons rv2 r2 =>
      obtain ⟨u2, rfl, rv⟩ := vals1 r2
      exact wpAny_mono (xc_call2K (Q := fun cls od G => ∀ a, G a = none → Q (.ref a) (upd G a (XO cls od a))) XB c hfile htop hr I1 rv rv2 fun d hd a ha => q d a hd ha) (fun u s' z => mkp_ep z fun a cls od G na q => q a na) (fun _ _ z => z)
  · obtain ⟨ds, e1, e2⟩ := bnd hf
    match ds, e2 with
    | [], e2 => cases e2
    | [_], e2 => cases e2
    | _ :: _ :: _ :: _, e2 => cases e2
    | [d1, d0], e2 =>
    cases e2
    refine a2 F H ev σ W [d1, d0] S e1 _ fun vs F1 H1 c1 r1 => ?_
    unfold Imms at r1
    obtain ⟨v2, r, rfl, r2, r3⟩ := r1
    unfold Imms at r3
    obtain ⟨v, r', rfl, r4, r5⟩ := r3
    unfold Imms at r5
    subst r5
    exact ⟨v, v2, rfl, exo_laid (ns := ["index", "shown"]) (vs := [v, v2]) c1.le hmx rfl (.cons r4 (.one r2)) fun v F' H' c r => hQ v F' H' (c1.trans c) r⟩
theorem pv_ex0 (XB : XBase B newId initId bm) (c : XnC X.K x newId initId bm) (hmx : X.mg x = some (.ref (He.ga X.K x))) (hg : Gl X x := by rfl) (hdb : (x == ("__debug__" : Str)) = false := by decide) : PV X (.Call (.Name x p) [] [] pos) (fun _ => some (.exo x [] [])) := by
  refine ⟨fun _ H Q => ∀ a, H a = none → Q (.ref a) (upd H a (XO (.ref (He.ga X.K x)) none a)), ⟨fun pins s σ H Q I h => ?_⟩, fun F H ev σ W d S hf Q hQ => ?_⟩
  · exact wpAny_mono (pmk_own0 XB c hmx hg hdb pins s σ H (fun cls od G => ∀ a, G a = none → Q (.ref a) (upd G a (XO cls od a))) I h) (fun u s' z => mkp_ep z fun a cls od G na q => q a na) (fun _ _ z => z)
  · cases hf
    intro a ha
    have c3 := chg_newF (o := XO (.ref (He.ga X.K x)) none a) S.le ha
    refine hQ _ _ _ c3 ?_
    unfold Imm
    exact ⟨a, none, _, [], rfl, hmx, upd_same, rfl, rfl, .nil⟩
def rIsV (K : PySem.W.Frag) : List V → Hp → VK → Prop := fun xs H Q => ∃ (a C : Addr) (od : Option Addr) (c : V) (cv : Value) (b : Bool), xs = [.ref a, c] ∧ H a = some (XO (.ref C) od a) ∧ ExcF K C ∧ (∀ d, od = some d → ∃ fs, H d = some (.xd fs)) ∧ (∀ u, RelV c u → u = cv) ∧ PySem.W.kitOne K (.ref C) cv = some b ∧ Q (.bl b) H
theorem xo_inst {pins : List (Addr × Obj)} {σ : L2.St} {H : Hp} {s : Shared} {a C : Addr} {od : Option Addr} (I : Inv X pins σ H s) (h : H a = some (XO (.ref C) od a)) (hx : ∀ d, od = some d → ∃ fs, H d = some (.xd fs)) : ∃ (oe : Obj) (od' : Option Obj), PySem.W.InstAt s.heap a oe C od' ∧ ∀ d fs, od = some d → H d = some (.xd fs) → ∃ o mA, od' = some o ∧ s.heap.Ns1 d mA ∧ s.heap.get? d = some o ∧ ∀ f, RelO (fs.lookup f) (mA f) := by
  obtain ⟨⟨oe, ha, ⟨z1, z2⟩, vs, hd⟩, _, _⟩ := I.hok a _ h
  cases od with
  | none => exact ⟨oe, none, ⟨ha, z1, by unfold PySem.W.notCls; rw [hd], by rw [z2]; trivial⟩, fun d fs e _ => by cases e⟩
  | some d =>
    obtain ⟨fs, hf⟩ := hx d rfl
    have hx2 : ObjOk X.prog X.w H s.heap d (.xd fs) := I.hok d _ hf
    obtain ⟨mA, hns, rel⟩ := hx2
    obtain ⟨o, es, ep, e1, e2⟩ := id hns
    refine ⟨oe, some o, ⟨ha, z1, by unfold PySem.W.notCls; rw [hd], by rw [z2]; exact e1⟩, fun d' fs' e h' => ?_⟩
    cases e
    rw [hf] at h'
    cases h'
    exact ⟨o, mA, rfl, hns, e1, rel⟩
theorem call_isV : CallR X (.builtin "isinstance") (rIsV X.K) := by
  intro pins s σ H xs us Q I r h
  obtain ⟨a, C, od, c, cv, b, rfl, hH, E, hx, hcv, e, q⟩ := h
  cases r with
  | cons rx rr =>
    cases rr with
    | cons rt rr =>
      cases rr
      cases rx
      have ec := hcv _ rt
      subst ec
      obtain ⟨oe, od', J, _⟩ := xo_inst I hH hx
      exact PySem.W.kia_one (PySem.W.kitx_exc E.cls E.ga E.gt E.sub E.at_ E.sp E.tk E.mr) I.kIn J e (fun z => nomatch z) fun tk => ⟨.bl b, H, I.kept (t' := tk) fun _ _ z => z, rfl, q⟩
def gIsE (cs : List Str) (x : Str) : D → Option O
  | .exo c _ _ => if c ∈ cs then some (.imm (.bl (subE c x))) else none
  | _ => none
def gIsT (cs : List Str) (T : String) : D → Option O
  | .exo c _ _ => if c ∈ cs then some (.imm (.bl (subT c T))) else none
  | _ => none
theorem exo_parts {F H : Hp} {c : Str} {ns : List Str} {ds : List D} {v : V} (le : LeF F H) (h : Vw (gb X) F H (.exo c ns ds) v) : ∃ a od C vs, v = .ref a ∧ X.mg c = some (.ref C) ∧ H a = some (XO (.ref C) od a) ∧ (∀ d, od = some d → H d = some (.xd (ns.zip vs))) ∧ (od = none → ns.zip vs = []) ∧ ns.length = vs.length ∧ Imms (gb X) F ds vs := by
  have h : Imm (gb X) F (.exo c ns ds) v := h
  unfold Imm at h
  obtain ⟨a, od, C, vs, e1, e2, e3, e4, e5, e6⟩ := h
  refine ⟨a, od, C, vs, e1, e2, le _ _ e3, fun d hd => ?_, fun hd => ?_, e5, e6⟩
  · subst hd
    exact le _ _ e4
  · subst hd
    exact e4
theorem po_isE (ha : PB X e fe) (hG : ∀ c ∈ cs, X.mg c = some (.ref (He.ga X.K c))) (hE : ∀ c ∈ cs, ErrF X.K c) (hx : x ∈ errX) (hxm : X.mg x = some (.ref (He.ga X.K x))) (hm : X.mg "isinstance" = none) (hg : Gl X "isinstance" := by rfl) (hgT : Gl X x := by rfl) (hdx : (x == ("__debug__" : Str)) = false := by decide)
    (h1 : starEach [e, .Name x p1] X.env = (false, eval e X.env) :: starEach [.Name x p1] X.env := by rfl) (h2 : starEach [.Name x p1] X.env = (false, eval (.Name x p1) X.env) :: starEach [] X.env := by rfl) (hpl : (backTo pos (starEach [.Name x p1] X.env)).any (·.1) = false := by rfl) :
    PO X (.Call (.Name "isinstance" p) [e, .Name x p1] [] pos) (fun ev => (fe ev).bind (gIsE cs x)) := by
  obtain ⟨t, a1, a2⟩ := ha
  refine ⟨_, pe_callB call_isV hg hm boot_isinstance (pa_cons a1 (pa_cons (pe_glob (v := .ref (He.ga X.K x)) hgT hxm rfl hdx) pa_nil h2) h1) (by decide) (by decide) h1 hpl, fun F H ev σ W o S hf Q hQ => ?_⟩
  obtain ⟨d, e1, e2⟩ := bnd hf
  cases d <;> first | (cases e2; done) | skip
  rename_i c ns ds
  have e2 : (if c ∈ cs then some (O.imm (.bl (subE c x))) else none) = some o := e2
  split at e2
  · rename_i hc
    cases e2
    refine a2 F H ev σ W _ S e1 _ fun v F1 H1 c1 r1 => ?_
    obtain ⟨a, od, C, vs, rfl, m, q1, q2, q3, q4, q5⟩ := exo_parts c1.le r1
    rw [hG c hc] at m
    cases m
    exact ⟨a, _, od, .ref (He.ga X.K x), .ref (He.ga X.K x), subE c x, rfl, q1, (hE c hc).F, fun d hd => ⟨_, q2 d hd⟩, fun u r => r, (hE c hc).C x hx, hQ _ F1 H1 noW c1 (.imm im_bl)⟩
  · cases e2
theorem po_isET {T : String} (ha : PB X e fe) (hG : ∀ c ∈ cs, X.mg c = some (.ref (He.ga X.K c))) (hE : ∀ c ∈ cs, ErrF X.K c) (hT : T ∈ ["ValueError", "LookupError", "ArithmeticError"]) (hm : X.mg "isinstance" = none) (hmT : X.mg x = none) (hvT : bootBuiltins x = some (.type T)) (hg : Gl X "isinstance" := by rfl) (hgT : Gl X x := by rfl) (hdx : (x == ("__debug__" : Str)) = false := by decide) (hnx : x ≠ "__name__" := by decide)
    (h1 : starEach [e, .Name x p1] X.env = (false, eval e X.env) :: starEach [.Name x p1] X.env := by rfl) (h2 : starEach [.Name x p1] X.env = (false, eval (.Name x p1) X.env) :: starEach [] X.env := by rfl) (hpl : (backTo pos (starEach [.Name x p1] X.env)).any (·.1) = false := by rfl) :
    PO X (.Call (.Name "isinstance" p) [e, .Name x p1] [] pos) (fun ev => (fe ev).bind (gIsT cs T)) := by
  obtain ⟨t, a1, a2⟩ := ha
  refine ⟨_, pe_callB call_isV hg hm boot_isinstance (pa_cons a1 (pa_cons (pe_bltn (v := .ty T) hgT hmT hvT rfl hnx hdx) pa_nil h2) h1) (by decide) (by decide) h1 hpl, fun F H ev σ W o S hf Q hQ => ?_⟩
  obtain ⟨d, e1, e2⟩ := bnd hf
  cases d <;> first | (cases e2; done) | skip
  rename_i c ns ds
  have e2 : (if c ∈ cs then some (O.imm (.bl (subT c T))) else none) = some o := e2
  split at e2
  · rename_i hc
    cases e2
    refine a2 F H ev σ W _ S e1 _ fun v F1 H1 c1 r1 => ?_
    obtain ⟨a, od, C, vs, rfl, m, q1, q2, q3, q4, q5⟩ := exo_parts c1.le r1
    rw [hG c hc] at m
    cases m
    exact ⟨a, _, od, .ty T, .type T, subT c T, rfl, q1, (hE c hc).F, fun d hd => ⟨_, q2 d hd⟩, fun u r => r, (hE c hc).T T hT, hQ _ F1 H1 noW c1 (.imm im_bl)⟩
  · cases e2
def gFldE (cs : List Str) (n : Str) : D → Option D
  | .exo c ns ds => if c ∈ cs then (ns.zip ds).lookup n else none
  | _ => none
theorem pe_xfV {te : TE} {n : Str} (he : PE X e te) (hb : attributeBase e n X.env (eval e X.env) = eval e X.env := by rfl) :
    PE X (.Attribute e n pos) (fun σ H Q => te σ H fun x H1 => ∃ (a C dd : Addr) (fs : List (Str × V)) (v : V), x = .ref a ∧ H1 a = some (XO (.ref C) (some dd) a) ∧ ExcF X.K C ∧ PySem.W.findIn X.K (.ref C) n = some none ∧ H1 dd = some (.xd fs) ∧ fs.lookup n = some v ∧ Q v H1) := by
  refine ⟨fun pins s σ H Q I h => ?_⟩
  refine attr_of hb (thn (he.run pins s σ H _ I h) fun u s1 hh => ?_)
  obtain ⟨x, H1, I1, rx, a, C, dd, fs, v, ex, hH, E, hno, ea, l, q⟩ := hh
  subst ex
  obtain rfl : u = Value.ref a := rx
  obtain ⟨oe, od', J, hh⟩ := xo_inst I1 hH (fun d e => by cases e; exact ⟨_, ea⟩)
  obtain ⟨od, mA, rfl, hns, ho, hr⟩ := hh dd fs rfl ea
  obtain ⟨od2, ho2, hl⟩ := lookIn_ns hns
  rw [ho] at ho2
  cases ho2
  obtain ⟨u, hu, ru⟩ := RelO.some_of (v := v) (o := mA n) (by rw [← l]; exact hr n)
  exact HandSPX.exc_get I1.kIn J E.ga E.gt E.sub (PySem.W.findObj_own E.hd hno rfl (by rw [hl, hu])) (handed_of ru) ⟨v, H1, I1.tok _, ru, q⟩
theorem pv_fldE {n : Str} (ha : PB X e fe) (hG : ∀ c ∈ cs, X.mg c = some (.ref (He.ga X.K c))) (hE : ∀ c ∈ cs, ErrF X.K c) (hn : n ∈ (["given", "index", "shown"] : List Str)) (hb : attributeBase e n X.env (eval e X.env) = eval e X.env := by rfl) : PV X (.Attribute e n pos) (fun ev => (fe ev).bind (gFldE cs n)) := by
  obtain ⟨t, a1, a2⟩ := ha
  refine ⟨_, pe_xfV a1 hb, fun F H ev σ W d0 S hf Q hQ => ?_⟩
  obtain ⟨d, e1, e2⟩ := bnd hf
  cases d <;> first | (cases e2; done) | skip
  rename_i c ns ds
  have e2 : (if c ∈ cs then (ns.zip ds).lookup n else none) = some d0 := e2
  split at e2
  · rename_i hc
    refine a2 F H ev σ W _ S e1 _ fun v F1 H1 c1 r1 => ?_
    obtain ⟨a, od, C, vs, rfl, m, q1, q2, q3, q4, q5⟩ := exo_parts c1.le r1
    rw [hG c hc] at m
    cases m
    obtain ⟨v, l, r⟩ := zip_look q5 e2
    cases od with
    | none =>
      rw [q3 rfl] at l
      cases l
    | some dd => exact ⟨a, _, dd, _, v, rfl, q1, (hE c hc).F, (hE c hc).N n hn, q2 dd rfl, l, hQ v F1 H1 c1 r⟩
  · cases e2
end
end Kv
namespace Kv
open PySem PySem.Spec PyProof.Rows L2
mutual
def D.apy : D → Option PyData
  | .non => some .none
  | .bl b => some (.bool b)
  | .int i => some (.int i)
  | .str s => some (.str (sT s))
  | .tup ds => (D.apys ds).map .tuple
  | .lst ds => (D.apys ds).map .list
  | .dct ks es => (D.fpys ks es).map PyData.dict
  | .frl _ => none
  | .obj _ _ _ => none
  | .rep _ => none
  | .cls _ => none
  | .tpu _ => none
  | .exo _ _ _ => none
def D.apys : List D → Option (List PyData)
  | [] => some []
  | d :: ds => (D.apy d).bind fun p => (D.apys ds).map fun ps => p :: ps
end
section
variable {X : Cx} {pins : List (Addr × Obj)} {σ : L2.St} {H F : Hp} {s : Shared}
def SysK (K : PySem.W.Frag) : Prop := ∃ o, K.lookup sysModules = some o
theorem SysK.ne (h : SysK X.K) (I : Inv X pins σ H s) {a : Addr} {o : HO} (e : H a = some o) : sysModules ≠ a := fun z => by
  obtain ⟨ob, q⟩ := h
  have n := (I.bs _ _ (I.mod.kin _ _ q)).2
  rw [z, e] at n
  cases n
mutual
theorem apy_reads (hS : SysK X.K) (I : Inv X pins σ H s) (le : LeF F H) : ∀ (d : D) (v : V) (u : Value) (p : PyData), Imm (gb X) F d v → RelV v u → D.apy d = some p → ∃ as, Reads s.heap u p as ∧ sysModules ∉ as
  | .non, v, u, p, h, r, e => by
    unfold D.apy at e
    cases e
    exact ⟨[], reads_vPy r (h.fpy rfl), by simp⟩
  | .bl b, v, u, p, h, r, e => by
    unfold D.apy at e
    cases e
    exact ⟨[], reads_vPy r (h.fpy rfl), by simp⟩
  | .int b, v, u, p, h, r, e => by
    unfold D.apy at e
    cases e
    exact ⟨[], reads_vPy r (h.fpy rfl), by simp⟩
  | .str b, v, u, p, h, r, e => by
    unfold D.apy at e
    cases e
    exact ⟨[], reads_vPy r (h.fpy rfl), by simp⟩
  | .tup ds, v, u, p, h, r, e => by
    unfold D.apy at e
    obtain ⟨ps, e1, rfl⟩ := mp e
    unfold Imm at h
    obtain ⟨a, vs, rfl, tn, hi⟩ := h
    cases r
    obtain ⟨its, rv, ⟨o, ho, hc, m, hd⟩, _⟩ := I.tuple (Same.sqt (K := X.K) le tn.sqt)
    obtain ⟨as, r1, r2⟩ := apys_reads hS I le ds vs its ps hi rv e1
    exact ⟨as, .tuple ho hc hd (by simpa using r1), r2⟩
  | .lst ds, v, u, p, h, r, e => by
    unfold D.apy at e
    obtain ⟨ps, e1, rfl⟩ := mp e
    unfold Imm at h
    obtain ⟨a, vs, rfl, tn, hi⟩ := h
    cases r
    obtain ⟨its, rv, ⟨o, m, ho, hc, _, hd⟩, _⟩ := I.list (SqL.of (le _ _ tn))
    obtain ⟨as, r1, r2⟩ := apys_reads hS I le ds vs its ps hi rv e1
    exact ⟨a :: as, .list ho hc hd (by simpa using r1), fun hm => (List.mem_cons.mp hm).elim (hS.ne I (le _ _ tn)) r2⟩
  | .dct ks es, v, u, p, h, r, e => by
    unfold D.apy at e
    obtain ⟨r0, e1, rfl⟩ := mp e
    unfold Imm at h
    obtain ⟨a, vs, rfl, h1, h2, h3⟩ := h
    cases r
    have hd : Rd H a (.dK ((ks.map DK.key).zip vs)) := h1.elim (fun z => .inl (le _ _ z)) (fun ⟨o, z⟩ => .inr ⟨o, le _ _ z⟩)
    obtain ⟨_, sm, ws, rv, o, es', ep, ho, hx, hdat, _, hp, _⟩ := dk_rd I.hok hd
    obtain ⟨r1, r2⟩ := reads_kvs (h := s.heap) rv hp (h3.fpys h2 e1)
    refine ⟨a :: [] ++ [], .dict ho hx.1 hdat r1 r2, fun hm => ?_⟩
    have z : sysModules = a := by simpa using hm
    rw [← z] at sm
    simp at sm
  | .frl _, _, _, _, _, _, e => by unfold D.apy at e; cases e
  | .obj _ _ _, _, _, _, _, _, e => by unfold D.apy at e; cases e
  | .rep _, _, _, _, _, _, e => by unfold D.apy at e; cases e
  | .cls _, _, _, _, _, _, e => by unfold D.apy at e; cases e
  | .tpu _, _, _, _, _, _, e => by unfold D.apy at e; cases e
  | .exo _ _ _, _, _, _, _, _, e => by unfold D.apy at e; cases e
theorem apys_reads (hS : SysK X.K) (I : Inv X pins σ H s) (le : LeF F H) : ∀ (ds : List D) (vs : List V) (us : List Value) (ps : List PyData), Imms (gb X) F ds vs → Vals vs us → D.apys ds = some ps → ∃ as, ReadsAll s.heap us ps as ∧ sysModules ∉ as
  | [], vs, us, ps, h, r, e => by
    unfold Imms at h
    subst h
    cases r
    unfold D.apys at e
    cases e
    exact ⟨[], .nil, by simp⟩
  | d :: ds, vs, us, ps, h, r, e => by
    unfold Imms at h
    obtain ⟨v, vr, rfl, h1, h2⟩ := h
    cases r with
    | cons r1 r2 =>
      unfold D.apys at e
      obtain ⟨p, e1, e2⟩ := bnd e
      obtain ⟨ps', e3, rfl⟩ := mp e2
      obtain ⟨as, a1, a2⟩ := apy_reads hS I le d v _ p h1 r1 e1
      obtain ⟨bs, b1, b2⟩ := apys_reads hS I le ds vr _ ps' h2 r2 e3
      exact ⟨as ++ bs, .cons a1 b1, fun hm => (List.mem_append.mp hm).elim a2 b2⟩
end
end
def gReprG : List D → Option O
  | [.tup ds] => (D.apys ds).bind fun ps => shwC (.tuple ps)
  | [.lst ds] => (D.apys ds).bind fun ps => shwC (.list ps)
  | _ => none
section
variable {X : Cx}
theorem o_reprG (hS : SysK X.K) (hgu : X.A.guards = some []) (hu : X.A.units + 66 < cLine) : OpN X (.builtin "repr") gReprG := by
  refine ⟨fun xs H Q => ∃ F ds ps a, xs = [V.ref a] ∧ LeF F H ∧ D.apys ds = some ps ∧ ((Imm (gb X) F (.tup ds) (.ref a) ∧ (PyData.tuple ps).showable = true ∧ (PyData.tuple ps).depth ≤ 64 ∧ (PyData.tuple ps).shown.length ≤ sizeLine ∧ Q (.str (PyData.tuple ps).shown) H) ∨
    (∃ vs, H a = some (.lst vs) ∧ Imms (gb X) F ds vs ∧ (PyData.list ps).showable = true ∧ (PyData.list ps).depth ≤ 64 ∧ (PyData.list ps).shown.length ≤ sizeLine ∧ Q (.str (PyData.list ps).shown) H)), fun pins s σ H xs us Q I r hq => ?_, fun F H vs ds o le tb hv e Q q => ?_⟩
  · obtain ⟨F, ds, ps, a, rfl, le, e1, hq⟩ := hq
    obtain ⟨u, rfl, ru⟩ := r.one
    cases ru
    rcases hq with ⟨hv, hs, hz, hz2, q⟩ | ⟨vs, fa, hi, hs, hz, hz2, q⟩
    · unfold Imm at hv
      obtain ⟨a', vs, ea, tn, hi⟩ := hv
      cases ea
      obtain ⟨its, rv, ⟨o, ho, hc, m, hd⟩, _⟩ := I.tuple (Same.sqt (K := X.K) le tn.sqt)
      obtain ⟨as, r1, r2⟩ := apys_reads hS I le _ _ _ _ hi rv e1
      exact repr_of_reads' (.tuple ho hc hd (by simpa using r1)) hs (fun _ => r2) hgu (by omega) (fun _ _ e => e) (fun h' u tk hk => ⟨.str _, H, I.kept hk, ⟨u, rfl⟩, q⟩) hz2
    · obtain ⟨its, rv, ⟨o, m, ho, hc, _, hd⟩, _⟩ := I.list (SqL.of fa)
      obtain ⟨as, r1, r2⟩ := apys_reads hS I le _ _ _ _ hi rv e1
      exact repr_list' ho hc hd (by simpa using r1) hs r2 hgu (by omega) (fun _ _ e => e) (fun h' u tk hk => ⟨.str _, H, I.kept hk, ⟨u, rfl⟩, q⟩) hz2
  · unfold gReprG at e
    split at e
    · obtain ⟨ps, e1, e2⟩ := bnd e
      unfold shwC at e2
      split at e2
      · rename_i hz
        cases e2
        obtain ⟨v, rfl, hw⟩ := vws1 hv
        have hw : Imm (gb X) F (.tup _) v := hw
        unfold Imm at hw
        obtain ⟨a, vs, rfl, tn, hi⟩ := hw
        exact ⟨F, _, ps, a, rfl, le, e1, .inl ⟨by unfold Imm; exact ⟨a, vs, rfl, tn, hi⟩, hz.1, hz.2.1, hz.2.2, ret0 (o := .imm .non) le q (by unfold Imm; rfl)⟩⟩
      · cases e2
    · obtain ⟨ps, e1, e2⟩ := bnd e
      unfold shwC at e2
      split at e2
      · rename_i hz
        cases e2
        obtain ⟨v, rfl, hw⟩ := vws1 hv
        obtain ⟨a, ws, rfl, h1, h2⟩ := hw
        exact ⟨F, _, ps, a, rfl, le, e1, .inr ⟨ws, h1, h2, hz.1, hz.2.1, hz.2.2, ret0 (o := .imm .non) le q (by unfold Imm; rfl)⟩⟩
      · cases e2
    · cases e
def gReprBG (ds : List D) : Option O := (gReprB ds).or (gReprG ds)
theorem o_reprBG (hS : SysK X.K) (hgu : X.A.guards = some []) (hu : X.A.units + 66 < cLine) : OpN X (.builtin "repr") gReprBG := OpN.or (o_reprB hgu hu) (o_reprG hS hgu hu)
end
theorem sysB_ok {K : PySem.W.Frag} (h : sysB K = true) : SysK K := Option.isSome_iff_exists.mp h
end Kv
namespace Kv
open PySem PySem.Spec PyProof.Rows L2 GenW
section
variable {P : Program} {w : World} {K : PySem.W.Frag} {mg : Str → Option Value} {base : Heap} {f : Addr} {name qual : Str} {params : Arguments} {scope : Scope} {dV kV doc pm cdv ct oc : Value} {an od : Option Addr} {osl : Array (Option Value)} {nA nB nF nT : Str} {k1 : Nat} {p1 p2 p3 p4 p5 p6 p7 p8 p9 q1 q2 q3 q4 q5 q6 : Pos}
end
end Kv
namespace Kv
open PySem PySem.Spec PyProof.Rows L2 GenW
def RdyS (P : Program) (w : World) (A : Around) (Ro : Heap → Prop) (lo : Nat) (a : Addr) (g : Nat) : List Str → List Addr → List Nat → Shared → Prop
  | [] => fun wr og s => ∀ s1, Evo Ro wr og s s1 → wpAny (model P w) A (pyNext (.ref a)) (fun r s2 => r = none ∧ Stp lo wr s1 [] s2) never s1
  | x :: L => fun wr og s => ∀ s1, Evo Ro wr og s s1 → wpAny (model P w) A (pyNext (.ref a)) (fun r s2 => ∃ t wr2 og2, r = some (.str x t) ∧ Stp lo wr s1 wr2 s2 ∧ (∀ i ∈ og2, g ≤ i ∧ Slp s2 i) ∧ RdyS P w A Ro lo a g L wr2 og2 s2) never s1
theorem RdyS.evo {P : Program} {w : World} {A : Around} {Ro : Heap → Prop} {lo : Nat} {a : Addr} {g : Nat} {L : List Str} {wr : List Addr} {og : List Nat} {s s' : Shared} (h : RdyS P w A Ro lo a g L wr og s) (e : Evo Ro wr og s s') : RdyS P w A Ro lo a g L wr og s' := by
  cases L with
  | nil => exact fun s1 e1 => h s1 (e.trans e1)
  | cons ds L => exact fun s1 e1 => h s1 (e.trans e1)
section
variable {P : Program} {w : World} {scope : Scope} {qual : Str} {cdv : Value} {f : Addr} {nA nB nD : Str} {Ro : Heap → Prop} {lo : Nat} {A1 Ag : Around} {a : Addr} {g : Nat} {L : Addr}
end
end Kv
namespace Kv
open PySem PySem.Spec PyProof.Rows L2 GenW
section
variable {P : Program} {w : World} {K : PySem.W.Frag} {mg : Str → Option Value} {base : Heap} {f fP : Addr} {name qual : Str} {params : Arguments} {scope : Scope} {dV kV doc pm cdv ct oc : Value} {an od : Option Addr} {osl : Array (Option Value)} {N : List Str} {nA nB nD nT nP nG sp : Str} {Ro : Heap → Prop} {k0 : Nat}
  {pD pT pg pa psl psub pp pa2 pb2 pc2 pcall pk apos px pj py pe pfor : Pos}
end
end Kv
namespace Kv
open PySem PySem.Spec PyProof.Rows L2 GenW
section
variable {X : Cx}
end
end Kv
namespace Kv
open PySem PySem.Spec PyProof.Rows L2 GenW
section
variable {X : Cx} {nm tgn : Str} {pt pc pcall pos : Pos} {elt e : Expr} {es ifs : List Expr} {scope : Scope} {fs : Ev → Option (List D)} {tf : TF} {fc : Ev → Option Bool} {fe : Ev → Option D} {vs : List Nat}
end
end Kv
namespace Kv
open PySem PySem.Spec PyProof.Rows L2 ClX
def errCs : List Str := ["Broken", "InUse", "InvalidExchanges", "InvalidName", "InvalidNumber", "InvalidOrder", "InvalidRelation", "InvalidRow", "InvalidRows", "InvalidSaying", "InvalidShown", "InvalidTable", "InvalidText", "InvalidTie", "InvalidWish", "InvalidWishes", "NoAnswer", "NotABook", "NothingToUndo", "TooMany", "UnknownName", "WrongName", "WrongValue"]
structure Bs (K : PySem.W.Frag) (mg : Str → Option Value) : Prop where
  xc_Broken : Xc2 K fileN "Broken" "ArithmeticError" "ArithmeticError.__new__" "ArithmeticError.__init__" aeM
  xc_InUse : XcC K fileN "InUse" "index" "LookupError" "LookupError.__new__" "LookupError.__init__" leM
  xc_InvalidExchanges : XcC K fileN "InvalidExchanges" "index" "ValueError" "ValueError.__new__" "ValueError.__init__" veM
  xc_InvalidName : XcC K fileN "InvalidName" "given" "ValueError" "ValueError.__new__" "ValueError.__init__" veM
  xc_InvalidNumber : XcC K fileN "InvalidNumber" "given" "ValueError" "ValueError.__new__" "ValueError.__init__" veM
  xc_InvalidOrder : XcC K fileN "InvalidOrder" "given" "ValueError" "ValueError.__new__" "ValueError.__init__" veM
  xc_InvalidRelation : XcC K fileN "InvalidRelation" "given" "ValueError" "ValueError.__new__" "ValueError.__init__" veM
  xc_InvalidRow : XcC K fileN "InvalidRow" "given" "ValueError" "ValueError.__new__" "ValueError.__init__" veM
  xc_InvalidRows : XcC K fileN "InvalidRows" "index" "ValueError" "ValueError.__new__" "ValueError.__init__" veM
  xc_InvalidSaying : XcC K fileN "InvalidSaying" "given" "ValueError" "ValueError.__new__" "ValueError.__init__" veM
  xc_InvalidShown : XcC K fileN "InvalidShown" "given" "ValueError" "ValueError.__new__" "ValueError.__init__" veM
  xc_InvalidTable : XcC K fileN "InvalidTable" "given" "ValueError" "ValueError.__new__" "ValueError.__init__" veM
  xc_InvalidText : XcC K fileN "InvalidText" "given" "ValueError" "ValueError.__new__" "ValueError.__init__" veM
  xc_InvalidTie : XcC K fileN "InvalidTie" "given" "ValueError" "ValueError.__new__" "ValueError.__init__" veM
  xc_InvalidWish : XcC K fileN "InvalidWish" "given" "ValueError" "ValueError.__new__" "ValueError.__init__" veM
  xc_InvalidWishes : XcC K fileN "InvalidWishes" "index" "ValueError" "ValueError.__new__" "ValueError.__init__" veM
  xn_NoAnswer : XnC K "NoAnswer" "ArithmeticError.__new__" "ArithmeticError.__init__" aeM
  xc_NotABook : XcC K fileN "NotABook" "given" "ValueError" "ValueError.__new__" "ValueError.__init__" veM
  xn_NothingToUndo : XnC K "NothingToUndo" "ArithmeticError.__new__" "ArithmeticError.__init__" aeM
  xc_TooMany : XcC K fileN "TooMany" "given" "ArithmeticError" "ArithmeticError.__new__" "ArithmeticError.__init__" aeM
  xc_UnknownName : XcC K fileN "UnknownName" "given" "LookupError" "LookupError.__new__" "LookupError.__init__" leM
  xn_WrongName : XnC K "WrongName" "LookupError.__new__" "LookupError.__init__" leM
  xn_WrongValue : XnC K "WrongValue" "ValueError.__new__" "ValueError.__init__" veM
  xg_InvalidText : mg "InvalidText" = some (.ref (He.ga K "InvalidText"))
  xg_InvalidNumber : mg "InvalidNumber" = some (.ref (He.ga K "InvalidNumber"))
  xg_InvalidRelation : mg "InvalidRelation" = some (.ref (He.ga K "InvalidRelation"))
  xg_InvalidTable : mg "InvalidTable" = some (.ref (He.ga K "InvalidTable"))
  xg_InvalidSaying : mg "InvalidSaying" = some (.ref (He.ga K "InvalidSaying"))
  xg_InvalidRow : mg "InvalidRow" = some (.ref (He.ga K "InvalidRow"))
  xg_InvalidShown : mg "InvalidShown" = some (.ref (He.ga K "InvalidShown"))
  xg_InvalidOrder : mg "InvalidOrder" = some (.ref (He.ga K "InvalidOrder"))
  xg_InvalidTie : mg "InvalidTie" = some (.ref (He.ga K "InvalidTie"))
  xg_InvalidName : mg "InvalidName" = some (.ref (He.ga K "InvalidName"))
  xg_InvalidWish : mg "InvalidWish" = some (.ref (He.ga K "InvalidWish"))
  xg_NotABook : mg "NotABook" = some (.ref (He.ga K "NotABook"))
  xg_InvalidRows : mg "InvalidRows" = some (.ref (He.ga K "InvalidRows"))
  xg_InvalidExchanges : mg "InvalidExchanges" = some (.ref (He.ga K "InvalidExchanges"))
  xg_InvalidWishes : mg "InvalidWishes" = some (.ref (He.ga K "InvalidWishes"))
  xg_UnknownName : mg "UnknownName" = some (.ref (He.ga K "UnknownName"))
  xg_InUse : mg "InUse" = some (.ref (He.ga K "InUse"))
  xg_TooMany : mg "TooMany" = some (.ref (He.ga K "TooMany"))
  xg_Broken : mg "Broken" = some (.ref (He.ga K "Broken"))
  xg_NothingToUndo : mg "NothingToUndo" = some (.ref (He.ga K "NothingToUndo"))
  xg_WrongValue : mg "WrongValue" = some (.ref (He.ga K "WrongValue"))
  xg_WrongName : mg "WrongName" = some (.ref (He.ga K "WrongName"))
  xg_NoAnswer : mg "NoAnswer" = some (.ref (He.ga K "NoAnswer"))
  eg : ∀ c ∈ errCs, mg c = some (.ref (He.ga K c))
  er : ∀ c ∈ errCs, ErrF K c
  sys : SysK K
  b_ArithmeticError : mg "ArithmeticError" = none
  b_LookupError : mg "LookupError" = none
  b_ValueError : mg "ValueError" = none
  b_abs : mg "abs" = none
  b_all : mg "all" = none
  b_divmod : mg "divmod" = none
  b_int : mg "int" = none
  b_isinstance : mg "isinstance" = none
  b_len : mg "len" = none
  b_max : mg "max" = none
  b_min : mg "min" = none
  b_range : mg "range" = none
  b_repr : mg "repr" = none
  c_MOST_EXCHANGES : ∃ t, mg "MOST_EXCHANGES" = some (.int 5 t)
  c_MOST_PLACES : ∃ t, mg "MOST_PLACES" = some (.int 4 t)
  c_MOST_RELATIONS : ∃ t, mg "MOST_RELATIONS" = some (.int 4 t)
  c_MOST_ROWS : ∃ t, mg "MOST_ROWS" = some (.int 9 t)
  c_MOST_VARIABLES : ∃ t, mg "MOST_VARIABLES" = some (.int 99 t)
  c_MOST_WIDTH : ∃ t, mg "MOST_WIDTH" = some (.int 3 t)
def m__law_error : MF := sSq (sAs 1 (lft (fo (fz (cl gLst (fcons (fz (fun ev => ((vr 0) ev).bind (gIsE errCs "InvalidText"))) (fcons (fz (fun ev => ((vr 0) ev).bind (gIsE errCs "InvalidNumber"))) (fcons (fz (fun ev => ((vr 0) ev).bind (gIsE errCs "InvalidRelation"))) fnil)))))))) (sSq (sAs 1 (lft (fo (fz (f2 gAdd (vr 1) (fz (cl gLst (fcons (fz (fun ev => ((vr 0) ev).bind (gIsE errCs "InvalidTable"))) (fcons (fz (fun ev => ((vr 0) ev).bind (gIsE errCs "InvalidSaying"))) (fcons (fz (fun ev => ((vr 0) ev).bind (gIsE errCs "InvalidRow"))) fnil)))))))))) (sSq (sAs 1 (lft (fo (fz (f2 gAdd (vr 1) (fz (cl gLst (fcons (fz (fun ev => ((vr 0) ev).bind (gIsE errCs "InvalidShown"))) (fcons (fz (fun ev => ((vr 0) ev).bind (gIsE errCs "InvalidOrder"))) (fcons (fz (fun ev => ((vr 0) ev).bind (gIsE errCs "InvalidTie"))) fnil)))))))))) (sSq (sAs 1 (lft (fo (fz (f2 gAdd (vr 1) (fz (cl gLst (fcons (fz (fun ev => ((vr 0) ev).bind (gIsE errCs "InvalidName"))) (fcons (fz (fun ev => ((vr 0) ev).bind (gIsE errCs "InvalidWish"))) (fcons (fz (fun ev => ((vr 0) ev).bind (gIsE errCs "NotABook"))) fnil)))))))))) (sSq (sAs 1 (lft (fo (fz (f2 gAdd (vr 1) (fz (cl gLst (fcons (fz (fun ev => ((vr 0) ev).bind (gIsE errCs "InvalidRows"))) (fcons (fz (fun ev => ((vr 0) ev).bind (gIsE errCs "InvalidExchanges"))) fnil))))))))) (sSq (sAs 1 (lft (fo (fz (f2 gAdd (vr 1) (fz (cl gLst (fcons (fz (fun ev => ((vr 0) ev).bind (gIsE errCs "InvalidWishes"))) (fcons (fz (fun ev => ((vr 0) ev).bind (gIsE errCs "UnknownName"))) (fcons (fz (fun ev => ((vr 0) ev).bind (gIsE errCs "InUse"))) fnil)))))))))) (sSq (sAs 1 (lft (fo (fz (f2 gAdd (vr 1) (fz (cl gLst (fcons (fz (fun ev => ((vr 0) ev).bind (gIsE errCs "TooMany"))) (fcons (fz (fun ev => ((vr 0) ev).bind (gIsE errCs "Broken"))) (fcons (fz (fun ev => ((vr 0) ev).bind (gIsE errCs "NothingToUndo"))) fnil)))))))))) (sSq (sAs 2 (lft (fo (fz (cl gLst (fcons (kk (.str [73, 110, 118, 97, 108, 105, 100, 84, 101, 120, 116])) (fcons (kk (.str [73, 110, 118, 97, 108, 105, 100, 78, 117, 109, 98, 101, 114])) (fcons (kk (.str [73, 110, 118, 97, 108, 105, 100, 82, 101, 108, 97, 116, 105, 111, 110])) (fcons (kk (.str [73, 110, 118, 97, 108, 105, 100, 84, 97, 98, 108, 101])) (fcons (kk (.str [73, 110, 118, 97, 108, 105, 100, 83, 97, 121, 105, 110, 103])) (fcons (kk (.str [73, 110, 118, 97, 108, 105, 100, 82, 111, 119])) fnil))))))))))) (sSq (sAs 2 (lft (fo (fz (f2 gAdd (vr 2) (fz (cl gLst (fcons (kk (.str [73, 110, 118, 97, 108, 105, 100, 83, 104, 111, 119, 110])) (fcons (kk (.str [73, 110, 118, 97, 108, 105, 100, 79, 114, 100, 101, 114])) (fcons (kk (.str [73, 110, 118, 97, 108, 105, 100, 84, 105, 101])) (fcons (kk (.str [73, 110, 118, 97, 108, 105, 100, 78, 97, 109, 101])) (fcons (kk (.str [73, 110, 118, 97, 108, 105, 100, 87, 105, 115, 104])) (fcons (kk (.str [78, 111, 116, 65, 66, 111, 111, 107])) fnil))))))))))))) (sSq (sAs 2 (lft (fo (fz (f2 gAdd (vr 2) (fz (cl gLst (fcons (kk (.str [73, 110, 118, 97, 108, 105, 100, 82, 111, 119, 115])) (fcons (kk (.str [73, 110, 118, 97, 108, 105, 100, 69, 120, 99, 104, 97, 110, 103, 101, 115])) (fcons (kk (.str [73, 110, 118, 97, 108, 105, 100, 87, 105, 115, 104, 101, 115])) (fcons (kk (.str [85, 110, 107, 110, 111, 119, 110, 78, 97, 109, 101])) (fcons (kk (.str [73, 110, 85, 115, 101])) (fcons (kk (.str [84, 111, 111, 77, 97, 110, 121])) fnil))))))))))))) (sSq (sAs 2 (lft (fo (fz (f2 gAdd (vr 2) (fz (cl gLst (fcons (kk (.str [66, 114, 111, 107, 101, 110])) (fcons (kk (.str [78, 111, 116, 104, 105, 110, 103, 84, 111, 85, 110, 100, 111])) fnil))))))))) (sSq (sAs 3 (lft (fo (fz (cl gLst (fcons (fz (fun ev => ((vr 0) ev).bind (gIsE errCs "WrongValue"))) (fcons (fz (fun ev => ((vr 0) ev).bind (gIsE errCs "WrongName"))) (fcons (fz (fun ev => ((vr 0) ev).bind (gIsE errCs "NoAnswer"))) fnil)))))))) (sSq (sAs 4 (lft (fo (fz (cl gLst (fcons (fz (fun ev => ((vr 0) ev).bind (gIsT errCs "ValueError"))) (fcons (fz (fun ev => ((vr 0) ev).bind (gIsT errCs "LookupError"))) (fcons (fz (fun ev => ((vr 0) ev).bind (gIsT errCs "ArithmeticError"))) fnil)))))))) (sSq (sIf (lft (for_ (ft (f2 gNe (fz (f2 gCntB (vr 1) (kk (.bl true)))) (kk (.int 1)))) (ft (f2 gNe (vr 3) (vr 4))))) (sRt (lft (fo (kk (.str []))))) sNx) (sSq (sAs 5 (lft (fo (fz (f2 gIdxB (vr 1) (kk (.bl true))))))) (sRt (lft (fif (ft (f2 gEq (vr 3) (fz (cl gLst (fcons (fz (f2 gLt (vr 5) (kk (.int 15)))) (fcons (fz (f3 gLt gLt (kk (.int 14)) (vr 5) (kk (.int 17)))) (fcons (fz (f2 gGt (vr 5) (kk (.int 16)))) fnil))))))) (f2 gIx (vr 2) (vr 5)) (fo (kk (.str []))))))))))))))))))))
def g__law_error : Fm := runF 6 1 [] m__law_error
def m__law_errors : MF := sSq (sAs 1 (lft (fo (fz (cl gLst (fcons (fun ev => ((vr 0) ev).map fun d => .exo "InvalidText" ["given"] [d]) (fcons (exK1 "InvalidText" "given" (kwc (vr 0) (kk []))) (fcons (fun ev => ((vr 0) ev).map fun d => .exo "InvalidNumber" ["given"] [d]) (fcons (exK1 "InvalidNumber" "given" (kwc (vr 0) (kk []))) fnil))))))))) (sSq (sAs 1 (lft (fo (fz (f2 gAdd (vr 1) (fz (cl gLst (fcons (fun ev => ((vr 0) ev).map fun d => .exo "InvalidRelation" ["given"] [d]) (fcons (exK1 "InvalidRelation" "given" (kwc (vr 0) (kk []))) (fcons (fun ev => ((vr 0) ev).map fun d => .exo "InvalidTable" ["given"] [d]) fnil)))))))))) (sSq (sAs 1 (lft (fo (fz (f2 gAdd (vr 1) (fz (cl gLst (fcons (exK1 "InvalidTable" "given" (kwc (vr 0) (kk []))) (fcons (fun ev => ((vr 0) ev).map fun d => .exo "InvalidSaying" ["given"] [d]) (fcons (exK1 "InvalidSaying" "given" (kwc (vr 0) (kk []))) (fcons (fun ev => ((vr 0) ev).map fun d => .exo "InvalidRow" ["given"] [d]) fnil))))))))))) (sSq (sAs 1 (lft (fo (fz (f2 gAdd (vr 1) (fz (cl gLst (fcons (exK1 "InvalidRow" "given" (kwc (vr 0) (kk []))) (fcons (fun ev => ((vr 0) ev).map fun d => .exo "InvalidShown" ["given"] [d]) (fcons (exK1 "InvalidShown" "given" (kwc (vr 0) (kk []))) (fcons (fun ev => ((vr 0) ev).map fun d => .exo "InvalidOrder" ["given"] [d]) fnil))))))))))) (sSq (sAs 1 (lft (fo (fz (f2 gAdd (vr 1) (fz (cl gLst (fcons (exK1 "InvalidOrder" "given" (kwc (vr 0) (kk []))) (fcons (fun ev => ((vr 0) ev).map fun d => .exo "InvalidTie" ["given"] [d]) (fcons (exK1 "InvalidTie" "given" (kwc (vr 0) (kk []))) (fcons (fun ev => ((vr 0) ev).map fun d => .exo "InvalidName" ["given"] [d]) fnil))))))))))) (sSq (sAs 1 (lft (fo (fz (f2 gAdd (vr 1) (fz (cl gLst (fcons (exK1 "InvalidName" "given" (kwc (vr 0) (kk []))) (fcons (fun ev => ((vr 0) ev).map fun d => .exo "InvalidWish" ["given"] [d]) (fcons (exK1 "InvalidWish" "given" (kwc (vr 0) (kk []))) (fcons (fun ev => ((vr 0) ev).map fun d => .exo "NotABook" ["given"] [d]) fnil))))))))))) (sSq (sAs 1 (lft (fo (fz (f2 gAdd (vr 1) (fz (cl gLst (fcons (exK1 "NotABook" "given" (kwc (vr 0) (kk []))) (fcons (fun ev => ((vr 0) ev).map fun d => .exo "InvalidRows" ["index"] [d]) (fcons (exK1 "InvalidRows" "index" (kwc (vr 0) (kk []))) (fcons (fun ev => ((vr 0) ev).map fun d => .exo "InvalidExchanges" ["index"] [d]) fnil))))))))))) (sSq (sAs 1 (lft (fo (fz (f2 gAdd (vr 1) (fz (cl gLst (fcons (exK1 "InvalidExchanges" "index" (kwc (vr 0) (kk []))) (fcons (fun ev => ((vr 0) ev).map fun d => .exo "InvalidWishes" ["index"] [d]) (fcons (exK1 "InvalidWishes" "index" (kwc (vr 0) (kk []))) fnil)))))))))) (sSq (sAs 1 (lft (fo (fz (f2 gAdd (vr 1) (fz (cl gLst (fcons (fun ev => ((vr 0) ev).map fun d => .exo "UnknownName" ["given"] [d]) (fcons (exK1 "UnknownName" "given" (kwc (vr 0) (kk []))) (fcons (fun ev => ((vr 0) ev).map fun d => .exo "InUse" ["index"] [d]) (fcons (exK1 "InUse" "index" (kwc (vr 0) (kk []))) fnil))))))))))) (sRt (lft (f2 gAdd (vr 1) (fz (cl gLst (fcons (fun ev => ((vr 0) ev).map fun d => .exo "TooMany" ["given"] [d]) (fcons (exK1 "TooMany" "given" (kwc (vr 0) (kk []))) fnil)))))))))))))))
def g__law_errors : Fm := runF 2 1 [] m__law_errors
def m__law_field : MF := sSq (sIf (lft (ft (f2 gIn (vr 1) (fz (cl gLst (fcons (kk (.str [73, 110, 118, 97, 108, 105, 100, 82, 111, 119, 115])) (fcons (kk (.str [73, 110, 118, 97, 108, 105, 100, 69, 120, 99, 104, 97, 110, 103, 101, 115])) (fcons (kk (.str [73, 110, 118, 97, 108, 105, 100, 87, 105, 115, 104, 101, 115])) (fcons (kk (.str [73, 110, 85, 115, 101])) fnil))))))))) (sRt (lft (fo (fun ev => ((vr 0) ev).bind (gFldE errCs "index"))))) sNx) (sSq (sIf (lft (ft (f2 gEq (vr 1) (kk (.str [66, 114, 111, 107, 101, 110]))))) (sRt (lft (cl gLst (fcons (fun ev => ((vr 0) ev).bind (gFldE errCs "index")) (fcons (fun ev => ((vr 0) ev).bind (gFldE errCs "shown")) fnil))))) sNx) (sRt (lft (fo (fif (ft (f2 gIn (vr 1) (fz (cl gLst (fcons (kk (.str [78, 111, 116, 104, 105, 110, 103, 84, 111, 85, 110, 100, 111])) (fcons (kk (.str [])) fnil)))))) (kk .non) (fun ev => ((vr 0) ev).bind (gFldE errCs "given")))))))
def g__law_field : Fm := runF 2 2 [] m__law_field
def m__law_draw : MF := sSq (sTg (lft (fz (f2 gAdd (fz (f2 gIx (vb 0) (kk (.int 2)))) (kk (.int 1))))) (sSub 0 (kk (.int 2)))) (sSq (sTg (lft (fz (f2 gMod (fz (cl gInt (fcons (fz (f2 gAdd (fz (f2 gAdd (fz (f2 gMul (fz (f2 gIx (vb 0) (kk (.int 1)))) (kk (.int 69621)))) (fz (f2 gMul (kk (.int 40503)) (fz (f2 gIx (vb 0) (kk (.int 2)))))))) (kk (.int 1)))) fnil))) (kk (.int 2147483647))))) (sSub 0 (kk (.int 1)))) (sSq (sIf (lft (ft (f2 gGt (fz (f2 gIx (vb 0) (kk (.int 0)))) (kk (.int 0))))) (sSq (sTg (lft (fz (cl gDivmod (fcons (fz (f2 gIx (vb 0) (kk (.int 0)))) (fcons (vr 1) fnil))))) (sTup 2 (sCons (sSub 0 (kk (.int 0))) (sCons (sSet 4) sNil)))) (sRt (lft (fo (vr 4))))) sNx) (sSq (sAs 2 (lft (fo (fz (f2 gAdd (fz (f2 gIx (vb 0) (kk (.int 1)))) (kk (.int 12345))))))) (sSq (sAs 3 (lft (fo (fz (f2 gMod (fz (cl gInt (fcons (fz (f2 gAdd (fz (f2 gMul (vr 2) (fz (f2 gIx (vb 0) (kk (.int 1)))))) (fz (f2 gIx (vb 0) (kk (.int 2)))))) fnil))) (kk (.int 2147483629))))))) (sRt (lft (f2 gMod (fz (cl gInt (fcons (fz (f2 gFdiv (vr 3) (kk (.int 256)))) fnil))) (vr 1))))))))
def g__law_draw : Fm := runF 5 2 [0] m__law_draw
def m__law_of : MF := sRt (m2 gIx (lft (vr 1)) (mz (mSl 0 (mcons (lft (fz (cl gLen (fcons (vr 1) fnil)))) (lft fnil)) 2 g__law_draw)))
def g__law_of : Fm := runF 2 2 [0] m__law_of
def m__law_odd : MF := sSq (sAs 1 (lft (fo (fz (cl gLst (fcons (kk .non) (fcons (kk (.bl true)) (fcons (kk (.bl false)) (fcons (kk (.int 0)) (fcons (kk (.int 1)) (fcons (fz (ng (kk (.int 1)))) (fcons (kk (.int 7)) (fcons (fz (f2 gPow (kk (.int 10)) (kk (.int 39)))) (fcons (kk (.str [])) (fcons (kk (.str [97])) (fcons (kk (.str [48, 49])) (fcons (kk (.str [48, 49, 50])) (fcons (kk (.str [50, 50, 50, 50])) (fcons (kk (.str [117, 112, 32, 48, 48, 32, 48, 49])) (fcons (kk (.str [118, 97, 108, 117, 101, 115, 32, 50])) (fcons (kk (.str [117, 112])) fnil))))))))))))))))))))) (sSq (sAs 1 (lft (fo (fz (f2 gAdd (vr 1) (fz (cl gLst (fcons (fz (cl gTup fnil)) (fcons (fz (cl gTup (fcons (kk (.int 0)) fnil))) (fcons (fz (cl gTup (fcons (kk (.int 0)) (fcons (kk (.int 1)) fnil)))) (fcons (fz (cl gTup (fcons (kk (.int 1)) (fcons (kk (.int 0)) fnil)))) (fcons (fz (cl gTup (fcons (kk (.int 0)) (fcons (kk (.int 0)) fnil)))) (fcons (fz (cl gTup (fcons (kk (.bl true)) (fcons (kk (.int 0)) fnil)))) (fcons (fz (cl gTup (fcons (kk (.str [48, 49])) fnil))) (fcons (fz (cl gTup (fcons (kk (.str [48, 49])) (fcons (kk (.str [48])) fnil)))) (fcons (fz (cl gTup (fcons (kk (.str [51])) fnil))) (fcons (fz (cl gTup (fcons (kk (.str [117, 112])) (fcons (fz (cl gTup (fcons (kk (.int 0)) (fcons (kk (.int 1)) fnil)))) fnil)))) fnil))))))))))))))))) (sSq (sAs 1 (lft (fo (fz (f2 gAdd (vr 1) (fz (cl gLst (fcons (fz (cl gTup (fcons (kk (.int 1)) (fcons (fz (cl gTup fnil)) (fcons (fz (cl gTup (fcons (kk (.int 0)) fnil))) fnil))))) (fcons (fz (cl gTup (fcons (kk (.int 2)) (fcons (fz (cl gTup (fcons (fz (cl gTup (fcons (kk (.str [117, 112])) (fcons (fz (cl gTup (fcons (kk (.int 0)) (fcons (kk (.int 1)) fnil)))) fnil)))) fnil))) (fcons (fz (cl gTup (fcons (kk (.int 0)) fnil))) fnil))))) (fcons (fz (cl gLst fnil)) (fcons (fz (cl gLst (fcons (kk (.int 0)) fnil))) (fcons (fz (cl gLst (fcons (kk (.str [120])) fnil))) (fcons (fz (kk (.dct [] []))) (fcons (fz (dsp (fpair (kk (.str [97])) (kk (.int 0)) (kk [])))) (fcons (fz (cl gTup (fcons (fz (cl gLst fnil)) fnil))) (fcons (fz (cl gTup (fcons (kk .non) fnil))) (fcons (fz (cl gTup (fcons (fz (cl gTup fnil)) fnil))) fnil))))))))))))))))) (sRt (mSl 0 (mcons (lft (fz (f2 gAdd (vr 1) (fz (cl gLst (fcons (fz (cl gTup (fcons (kk (.str [115, 97, 105, 100])) (fcons (fz (cl gTup (fcons (kk (.str [48])) fnil))) fnil)))) (fcons (fz (cl gTup (fcons (kk (.str [97, 108, 105, 107, 101])) (fcons (kk (.str [97])) (fcons (kk (.str [98])) fnil))))) (fcons (fz (cl gTup (fcons (kk (.str [97])) (fcons (fz (cl gTup (fcons (kk (.str [107, 101, 101, 112, 115])) (fcons (kk (.str [48, 49])) fnil)))) fnil)))) (fcons (fz (cl gTup (fcons (kk (.bl true)) fnil))) fnil))))))))) (lft fnil)) 2 g__law_of))))
def g__law_odd : Fm := runF 2 1 [0] m__law_odd
def lb__law_right_1 : MF := sSq (sAs 7 (lft (fo (fz (cu 1 g__law_error (fcons (fz (f2 gIx (vr 2) (vr 3))) fnil)))))) (sIf (lft (for_ (ft (f2 gNe (vr 7) (fz (f2 gIx (vr 1) (fz (f2 gFdiv (vr 3) (kk (.int 2)))))))) (ft (f2 gNe (fz (cl gReprBG (fcons (fz (cu 2 g__law_field (fcons (fz (f2 gIx (vr 2) (vr 3))) (fcons (vr 7) fnil)))) fnil))) (fz (cl gReprBG (fcons (vr 5) fnil))))))) (sRt (lft (fo (kk (.bl false))))) sNx)
def m__law_right : MF := sSq (sPar 5 6 (mo (mz (mSl 0 (lft fnil) 1 g__law_odd))) (mo (mz (mSl 0 (lft fnil) 1 g__law_odd)))) (sSq (sAs 1 (lft (fo (fz (cl gLst (fcons (kk (.str [73, 110, 118, 97, 108, 105, 100, 84, 101, 120, 116])) (fcons (kk (.str [73, 110, 118, 97, 108, 105, 100, 78, 117, 109, 98, 101, 114])) (fcons (kk (.str [73, 110, 118, 97, 108, 105, 100, 82, 101, 108, 97, 116, 105, 111, 110])) (fcons (kk (.str [73, 110, 118, 97, 108, 105, 100, 84, 97, 98, 108, 101])) (fcons (kk (.str [73, 110, 118, 97, 108, 105, 100, 83, 97, 121, 105, 110, 103])) (fcons (kk (.str [73, 110, 118, 97, 108, 105, 100, 82, 111, 119])) fnil))))))))))) (sSq (sAs 1 (lft (fo (fz (f2 gAdd (vr 1) (fz (cl gLst (fcons (kk (.str [73, 110, 118, 97, 108, 105, 100, 83, 104, 111, 119, 110])) (fcons (kk (.str [73, 110, 118, 97, 108, 105, 100, 79, 114, 100, 101, 114])) (fcons (kk (.str [73, 110, 118, 97, 108, 105, 100, 84, 105, 101])) (fcons (kk (.str [73, 110, 118, 97, 108, 105, 100, 78, 97, 109, 101])) (fcons (kk (.str [73, 110, 118, 97, 108, 105, 100, 87, 105, 115, 104])) (fcons (kk (.str [78, 111, 116, 65, 66, 111, 111, 107])) fnil))))))))))))) (sSq (sAs 1 (lft (fo (fz (f2 gAdd (vr 1) (fz (cl gLst (fcons (kk (.str [73, 110, 118, 97, 108, 105, 100, 82, 111, 119, 115])) (fcons (kk (.str [73, 110, 118, 97, 108, 105, 100, 69, 120, 99, 104, 97, 110, 103, 101, 115])) (fcons (kk (.str [73, 110, 118, 97, 108, 105, 100, 87, 105, 115, 104, 101, 115])) (fcons (kk (.str [85, 110, 107, 110, 111, 119, 110, 78, 97, 109, 101])) (fcons (kk (.str [73, 110, 85, 115, 101])) (fcons (kk (.str [84, 111, 111, 77, 97, 110, 121])) fnil))))))))))))) (sSq (sAs 2 (lft (fo (fz (cu 1 g__law_errors (fcons (vr 5) fnil)))))) (sSq (sFor (lft (rg gRng1 (fcons (fz (cl gLen (fcons (vr 2) fnil))) fnil))) (sSet 3) lb__law_right_1) (sSq (sAs 4 (lft (fo (fz (cl gLst (fcons (exP2 "Broken" (fcons (vr 5) (fcons (vr 6) fnil))) (fcons (exK2 "Broken" (kwc (vr 6) (kwc (vr 5) (kk [])))) fnil))))))) (sSq (sIf (lft (ft (f2 gNe (fz (fLc (it (vr 4)) (sSet 8) (kk true) (fz (cu 1 g__law_error (fcons (vr 8) fnil))) [8])) (fz (cl gLst (fcons (kk (.str [66, 114, 111, 107, 101, 110])) (fcons (kk (.str [66, 114, 111, 107, 101, 110])) fnil))))))) (sRt (lft (fo (kk (.bl false))))) sNx) (sSq (sIf (lft (ft (f2 gNe (fz (cl gReprBG (fcons (fz (fLc (it (vr 4)) (sSet 8) (kk true) (fz (cu 2 g__law_field (fcons (vr 8) (fcons (kk (.str [66, 114, 111, 107, 101, 110])) fnil)))) [8])) fnil))) (fz (cl gReprBG (fcons (fz (cl gLst (fcons (fz (cl gLst (fcons (vr 5) (fcons (vr 6) fnil)))) (fcons (fz (cl gLst (fcons (vr 5) (fcons (vr 6) fnil)))) fnil)))) fnil)))))) (sRt (lft (fo (kk (.bl false))))) sNx) (sRt (lft (f2 gEq (fz (cu 1 g__law_error (fcons (fun _ => some (.exo "NothingToUndo" [] [])) fnil))) (kk (.str [78, 111, 116, 104, 105, 110, 103, 84, 111, 85, 110, 100, 111])))))))))))))
def g__law_right : Fm := runF 9 1 [0] m__law_right
def m__law_spring : MF := sSq (sAs 2 (lft (fo (fz (fif (ft (f2 gLt (vr 1) (fz (cl gLen (fcons (vr 0) fnil))))) (f2 gIx (vr 0) (vr 1)) (f2 gAdd (fz (f2 gMul (kk (.int 7)) (vr 1))) (kk (.int 2)))))))) (sSq (sAs 3 (lft (fo (fz (f2 gAdd (kk (.int 90001)) (fz (f2 gMul (kk (.int 7919)) (vr 1)))))))) (sSq (sFor (lft (it (fz (f2 gAdd (fz (fSl (vr 0) (kk none) (pI (kk (.int 8))))) (fz (cl gLst (fcons (vr 2) fnil))))))) (sSet 4) (sAs 3 (lft (fo (fz (f2 gMod (fz (cl gInt (fcons (fz (f2 gAdd (fz (f2 gAdd (fz (f2 gMul (vr 3) (kk (.int 48271)))) (fz (cl gInt (fcons (vr 4) fnil))))) (fz (f2 gMul (kk (.int 11)) (vr 1))))) fnil))) (kk (.int 2147483647)))))))) (sRt (lft (cl gLst (fcons (fz (fif (for_ (ft (f2 gLt (vr 2) (kk (.int 0)))) (ft (f2 gGe (vr 2) (fz (f2 gPow (kk (.int 10)) (kk (.int 18))))))) (cl gAbs (fcons (vr 2) fnil)) (fo (kk (.int 0))))) (fcons (vr 3) (fcons (kk (.int 0)) fnil))))))))
def g__law_spring : Fm := runF 5 2 [] m__law_spring
def m_law : MF := sSq (sAs 1 (lft (fo (fz (cl gLst (fcons (kk (.int 3)) (fcons (kk (.int 4)) (fcons (kk (.int 9)) (fcons (kk (.int 4)) (fcons (kk (.int 99)) (fcons (kk (.int 5)) fnil))))))))))) (sSq (sIf (lft (ft (f2 gNe (fz (cl gReprB (fcons (vr 1) fnil))) (fz (cl gRepr (fcons (fz (cl gLst (fcons (kk (.int 3)) (fcons (kk (.int 4)) (fcons (kk (.int 9)) (fcons (kk (.int 4)) (fcons (kk (.int 99)) (fcons (kk (.int 5)) fnil)))))))) fnil)))))) (sRt (lft (fo (kk (.bl false))))) sNx) (sSq (sAs 2 (lft (fo (fz (cl gLst (fcons (fz (fun ev => ((fun _ => some (.exo "WrongValue" [] [])) ev).bind (gIsT errCs "ValueError"))) (fcons (fz (fun ev => ((fun _ => some (.exo "WrongName" [] [])) ev).bind (gIsT errCs "LookupError"))) fnil))))))) (sSq (sAs 2 (lft (fo (fz (f2 gAdd (vr 2) (fz (cl gLst (fcons (fz (fun ev => ((fun _ => some (.exo "NoAnswer" [] [])) ev).bind (gIsT errCs "ArithmeticError"))) (fcons (fz (fun ev => ((fun _ => some (.exo "NoAnswer" [] [])) ev).bind (gIsE errCs "WrongValue"))) fnil))))))))) (sSq (sIf (lft (ft (f2 gNe (vr 2) (fz (cl gLst (fcons (kk (.bl true)) (fcons (kk (.bl true)) (fcons (kk (.bl true)) (fcons (kk (.bl false)) fnil))))))))) (sRt (lft (fo (kk (.bl false))))) sNx) (sRt (lft (cl gAll (fcons (fz (fLc (rg gRng1 (fcons (fz (cl gMax2 (fcons (kk (.int 2)) (fcons (fz (cl gMin2 (fcons (fz (cl gLen (fcons (vr 0) fnil))) (fcons (kk (.int 4)) fnil)))) fnil)))) fnil)) (sSet 3) (kk true) (fz (fFr (cu 2 g__law_spring (fcons (vr 0) (fcons (vr 3) fnil))) fnil 1 g__law_right)) [3])) fnil))))))))
def g_law : Fm := runF 4 1 [] m_law
section
variable {P : Program} {w : World} {K : PySem.W.Frag} {mg : Str → Option Value} {base : Heap}
theorem sc__law_error : FnScope ["_law_e", "_law_fits_here", "_law_words", "_law_bases", "_law_plain_ones", "_law_at"] ["_law_e"] (defScope s__law_error) := ⟨rfl, rfl, rfl, by decide +kernel, rfl, by decide +kernel, by decide +kernel⟩
theorem fok__law_error (B : Bs K mg) (PF : PFile P fileN) {f : Addr} {fd : FuncData} (F : FunD K "_law_error" "_law_error" (defArgs s__law_error) (defBody s__law_error) (defScope s__law_error) [] [] f fd)  : FnG P w K mg base 5 f fd ["_law_e"] (spOf ⟨K, mg⟩ 1 g__law_error) :=
  fn_ok F sc__law_error fun cdv A outer s H hr hgu => by
  exact mss_cons (ms_as (i := 1) (PO.mo (PV.po (PO.pv (po_lst (av_cons (PO.pv (po_isE (cs := errCs) (PV.pb (pv_var (i := 0))) B.eg B.er (by decide) B.xg_InvalidText B.b_isinstance)) (av_cons (PO.pv (po_isE (cs := errCs) (PV.pb (pv_var (i := 0))) B.eg B.er (by decide) B.xg_InvalidNumber B.b_isinstance)) (av_cons (PO.pv (po_isE (cs := errCs) (PV.pb (pv_var (i := 0))) B.eg B.er (by decide) B.xg_InvalidRelation B.b_isinstance)) av_nil))))))) sc__law_error.nd) (mss_cons (ms_as (i := 1) (PO.mo (PV.po (PO.pv (po_op o_add (PV.pb (pv_var (i := 1))) (PV.pb (PO.pv (po_lst (av_cons (PO.pv (po_isE (cs := errCs) (PV.pb (pv_var (i := 0))) B.eg B.er (by decide) B.xg_InvalidTable B.b_isinstance)) (av_cons (PO.pv (po_isE (cs := errCs) (PV.pb (pv_var (i := 0))) B.eg B.er (by decide) B.xg_InvalidSaying B.b_isinstance)) (av_cons (PO.pv (po_isE (cs := errCs) (PV.pb (pv_var (i := 0))) B.eg B.er (by decide) B.xg_InvalidRow B.b_isinstance)) av_nil)))))))))) sc__law_error.nd) (mss_cons (ms_as (i := 1) (PO.mo (PV.po (PO.pv (po_op o_add (PV.pb (pv_var (i := 1))) (PV.pb (PO.pv (po_lst (av_cons (PO.pv (po_isE (cs := errCs) (PV.pb (pv_var (i := 0))) B.eg B.er (by decide) B.xg_InvalidShown B.b_isinstance)) (av_cons (PO.pv (po_isE (cs := errCs) (PV.pb (pv_var (i := 0))) B.eg B.er (by decide) B.xg_InvalidOrder B.b_isinstance)) (av_cons (PO.pv (po_isE (cs := errCs) (PV.pb (pv_var (i := 0))) B.eg B.er (by decide) B.xg_InvalidTie B.b_isinstance)) av_nil)))))))))) sc__law_error.nd) (mss_cons (ms_as (i := 1) (PO.mo (PV.po (PO.pv (po_op o_add (PV.pb (pv_var (i := 1))) (PV.pb (PO.pv (po_lst (av_cons (PO.pv (po_isE (cs := errCs) (PV.pb (pv_var (i := 0))) B.eg B.er (by decide) B.xg_InvalidName B.b_isinstance)) (av_cons (PO.pv (po_isE (cs := errCs) (PV.pb (pv_var (i := 0))) B.eg B.er (by decide) B.xg_InvalidWish B.b_isinstance)) (av_cons (PO.pv (po_isE (cs := errCs) (PV.pb (pv_var (i := 0))) B.eg B.er (by decide) B.xg_NotABook B.b_isinstance)) av_nil)))))))))) sc__law_error.nd) (mss_cons (ms_as (i := 1) (PO.mo (PV.po (PO.pv (po_op o_add (PV.pb (pv_var (i := 1))) (PV.pb (PO.pv (po_lst (av_cons (PO.pv (po_isE (cs := errCs) (PV.pb (pv_var (i := 0))) B.eg B.er (by decide) B.xg_InvalidRows B.b_isinstance)) (av_cons (PO.pv (po_isE (cs := errCs) (PV.pb (pv_var (i := 0))) B.eg B.er (by decide) B.xg_InvalidExchanges B.b_isinstance)) av_nil))))))))) sc__law_error.nd) (mss_cons (ms_as (i := 1) (PO.mo (PV.po (PO.pv (po_op o_add (PV.pb (pv_var (i := 1))) (PV.pb (PO.pv (po_lst (av_cons (PO.pv (po_isE (cs := errCs) (PV.pb (pv_var (i := 0))) B.eg B.er (by decide) B.xg_InvalidWishes B.b_isinstance)) (av_cons (PO.pv (po_isE (cs := errCs) (PV.pb (pv_var (i := 0))) B.eg B.er (by decide) B.xg_UnknownName B.b_isinstance)) (av_cons (PO.pv (po_isE (cs := errCs) (PV.pb (pv_var (i := 0))) B.eg B.er (by decide) B.xg_InUse B.b_isinstance)) av_nil)))))))))) sc__law_error.nd) (mss_cons (ms_as (i := 1) (PO.mo (PV.po (PO.pv (po_op o_add (PV.pb (pv_var (i := 1))) (PV.pb (PO.pv (po_lst (av_cons (PO.pv (po_isE (cs := errCs) (PV.pb (pv_var (i := 0))) B.eg B.er (by decide) B.xg_TooMany B.b_isinstance)) (av_cons (PO.pv (po_isE (cs := errCs) (PV.pb (pv_var (i := 0))) B.eg B.er (by decide) B.xg_Broken B.b_isinstance)) (av_cons (PO.pv (po_isE (cs := errCs) (PV.pb (pv_var (i := 0))) B.eg B.er (by decide) B.xg_NothingToUndo B.b_isinstance)) av_nil)))))))))) sc__law_error.nd) (mss_cons (ms_as (i := 2) (PO.mo (PV.po (PO.pv (po_lst (av_cons (pv_str [73, 110, 118, 97, 108, 105, 100, 84, 101, 120, 116]) (av_cons (pv_str [73, 110, 118, 97, 108, 105, 100, 78, 117, 109, 98, 101, 114]) (av_cons (pv_str [73, 110, 118, 97, 108, 105, 100, 82, 101, 108, 97, 116, 105, 111, 110]) (av_cons (pv_str [73, 110, 118, 97, 108, 105, 100, 84, 97, 98, 108, 101]) (av_cons (pv_str [73, 110, 118, 97, 108, 105, 100, 83, 97, 121, 105, 110, 103]) (av_cons (pv_str [73, 110, 118, 97, 108, 105, 100, 82, 111, 119]) av_nil)))))))))) sc__law_error.nd) (mss_cons (ms_as (i := 2) (PO.mo (PV.po (PO.pv (po_op o_add (PV.pb (pv_var (i := 2))) (PV.pb (PO.pv (po_lst (av_cons (pv_str [73, 110, 118, 97, 108, 105, 100, 83, 104, 111, 119, 110]) (av_cons (pv_str [73, 110, 118, 97, 108, 105, 100, 79, 114, 100, 101, 114]) (av_cons (pv_str [73, 110, 118, 97, 108, 105, 100, 84, 105, 101]) (av_cons (pv_str [73, 110, 118, 97, 108, 105, 100, 78, 97, 109, 101]) (av_cons (pv_str [73, 110, 118, 97, 108, 105, 100, 87, 105, 115, 104]) (av_cons (pv_str [78, 111, 116, 65, 66, 111, 111, 107]) av_nil))))))))))))) sc__law_error.nd) (mss_cons (ms_as (i := 2) (PO.mo (PV.po (PO.pv (po_op o_add (PV.pb (pv_var (i := 2))) (PV.pb (PO.pv (po_lst (av_cons (pv_str [73, 110, 118, 97, 108, 105, 100, 82, 111, 119, 115]) (av_cons (pv_str [73, 110, 118, 97, 108, 105, 100, 69, 120, 99, 104, 97, 110, 103, 101, 115]) (av_cons (pv_str [73, 110, 118, 97, 108, 105, 100, 87, 105, 115, 104, 101, 115]) (av_cons (pv_str [85, 110, 107, 110, 111, 119, 110, 78, 97, 109, 101]) (av_cons (pv_str [73, 110, 85, 115, 101]) (av_cons (pv_str [84, 111, 111, 77, 97, 110, 121]) av_nil))))))))))))) sc__law_error.nd) (mss_cons (ms_as (i := 2) (PO.mo (PV.po (PO.pv (po_op o_add (PV.pb (pv_var (i := 2))) (PV.pb (PO.pv (po_lst (av_cons (pv_str [66, 114, 111, 107, 101, 110]) (av_cons (pv_str [78, 111, 116, 104, 105, 110, 103, 84, 111, 85, 110, 100, 111]) av_nil))))))))) sc__law_error.nd) (mss_cons (ms_as (i := 3) (PO.mo (PV.po (PO.pv (po_lst (av_cons (PO.pv (po_isE (cs := errCs) (PV.pb (pv_var (i := 0))) B.eg B.er (by decide) B.xg_WrongValue B.b_isinstance)) (av_cons (PO.pv (po_isE (cs := errCs) (PV.pb (pv_var (i := 0))) B.eg B.er (by decide) B.xg_WrongName B.b_isinstance)) (av_cons (PO.pv (po_isE (cs := errCs) (PV.pb (pv_var (i := 0))) B.eg B.er (by decide) B.xg_NoAnswer B.b_isinstance)) av_nil))))))) sc__law_error.nd) (mss_cons (ms_as (i := 4) (PO.mo (PV.po (PO.pv (po_lst (av_cons (PO.pv (po_isET (cs := errCs) (T := "ValueError") (PV.pb (pv_var (i := 0))) B.eg B.er (by decide) B.b_isinstance B.b_ValueError PyProof.Rows.Boot.«ValueError»)) (av_cons (PO.pv (po_isET (cs := errCs) (T := "LookupError") (PV.pb (pv_var (i := 0))) B.eg B.er (by decide) B.b_isinstance B.b_LookupError PyProof.Rows.Boot.«LookupError»)) (av_cons (PO.pv (po_isET (cs := errCs) (T := "ArithmeticError") (PV.pb (pv_var (i := 0))) B.eg B.er (by decide) B.b_isinstance B.b_ArithmeticError PyProof.Rows.Boot.«ArithmeticError»)) av_nil))))))) sc__law_error.nd) (mss_cons (ms_if (PTb.mt (PWb.tt (tw_or (tt_cmp (o_ne (ru64 hr)) (PV.pb (PO.pv (po_cntB (hu4 (L2H.roomH_of hr)) (PV.pb (pv_var (i := 1))) pv_bl))) (PV.pb pv_int)) (tw_or1 (tt_cmp (o_ne (ru64 hr)) (PV.pb (pv_var (i := 3))) (PV.pb (pv_var (i := 4)))))))) (mss_one (ms_rt (PO.mo (PV.po (pv_str []))))) mss_nil) (mss_cons (ms_as (i := 5) (PO.mo (PV.po (PO.pv (po_idxB (hu4 (L2H.roomH_of hr)) (PV.pb (pv_var (i := 1))) pv_bl)))) sc__law_error.nd) (mss_one (ms_rt (PO.mo (po_if (tt_cmp (o_eq (ru64 hr)) (PV.pb (pv_var (i := 3))) (PV.pb (PO.pv (po_lst (av_cons (PO.pv (po_cmp o_lt (PV.pb (pv_var (i := 5))) (PV.pb pv_int))) (av_cons (PO.pv (po_chain o_lt o_lt (PV.pb pv_int) (PV.pb (pv_var (i := 5))) (PV.pb pv_int))) (av_cons (PO.pv (po_cmp o_gt (PV.pb (pv_var (i := 5))) (PV.pb pv_int))) av_nil))))))) (po_ix (PV.pb (pv_var (i := 2))) (PV.pb (pv_var (i := 5)))) (PV.po (pv_str []))))))))))))))))))))
theorem ok__law_error (B : Bs K mg) (PF : PFile P fileN) (E : ∃ f fd, FunD K "_law_error" "_law_error" (defArgs s__law_error) (defBody s__law_error) (defScope s__law_error) [] [] f fd ∧ mg "_law_error" = some (.ref f))  : Gd P w K mg base 5 "_law_error" s__law_error ["_law_e"] g__law_error := by
  obtain ⟨f, fd, F, hm⟩ := E
  exact ⟨f, fd, F, hm, F.bindsN fun _ _ _ _ _ _ us hl => match us, hl with | [_], _ => rfl, fok__law_error B PF F⟩
theorem sc__law_errors : FnScope ["_law_thing", "_law_some"] ["_law_thing"] (defScope s__law_errors) := ⟨rfl, rfl, rfl, by decide +kernel, rfl, by decide +kernel, by decide +kernel⟩
theorem fok__law_errors (B : Bs K mg) (PF : PFile P fileN) {f : Addr} {fd : FuncData} (F : FunD K "_law_errors" "_law_errors" (defArgs s__law_errors) (defBody s__law_errors) (defScope s__law_errors) [] [] f fd)  : FnG P w K mg base 5 f fd ["_law_thing"] (spOf ⟨K, mg⟩ 1 g__law_errors) :=
  fn_ok F sc__law_errors fun cdv A outer s H hr hgu => by
  exact mss_cons (ms_as (i := 1) (PO.mo (PV.po (PO.pv (po_lst (av_cons (pv_ex1 xb_V B.xc_InvalidText PF.file PF.top (.inl rfl) (hr.mono (by decide)) (pv_var (i := 0)) B.xg_InvalidText) (av_cons (pv_exK xb_V B.xc_InvalidText PF.file PF.top (.inl rfl) (hr.mono (by decide)) (kv_cons (pv_var (i := 0)) kv_nil) B.xg_InvalidText) (av_cons (pv_ex1 xb_V B.xc_InvalidNumber PF.file PF.top (.inl rfl) (hr.mono (by decide)) (pv_var (i := 0)) B.xg_InvalidNumber) (av_cons (pv_exK xb_V B.xc_InvalidNumber PF.file PF.top (.inl rfl) (hr.mono (by decide)) (kv_cons (pv_var (i := 0)) kv_nil) B.xg_InvalidNumber) av_nil)))))))) sc__law_errors.nd) (mss_cons (ms_as (i := 1) (PO.mo (PV.po (PO.pv (po_op o_add (PV.pb (pv_var (i := 1))) (PV.pb (PO.pv (po_lst (av_cons (pv_ex1 xb_V B.xc_InvalidRelation PF.file PF.top (.inl rfl) (hr.mono (by decide)) (pv_var (i := 0)) B.xg_InvalidRelation) (av_cons (pv_exK xb_V B.xc_InvalidRelation PF.file PF.top (.inl rfl) (hr.mono (by decide)) (kv_cons (pv_var (i := 0)) kv_nil) B.xg_InvalidRelation) (av_cons (pv_ex1 xb_V B.xc_InvalidTable PF.file PF.top (.inl rfl) (hr.mono (by decide)) (pv_var (i := 0)) B.xg_InvalidTable) av_nil)))))))))) sc__law_errors.nd) (mss_cons (ms_as (i := 1) (PO.mo (PV.po (PO.pv (po_op o_add (PV.pb (pv_var (i := 1))) (PV.pb (PO.pv (po_lst (av_cons (pv_exK xb_V B.xc_InvalidTable PF.file PF.top (.inl rfl) (hr.mono (by decide)) (kv_cons (pv_var (i := 0)) kv_nil) B.xg_InvalidTable) (av_cons (pv_ex1 xb_V B.xc_InvalidSaying PF.file PF.top (.inl rfl) (hr.mono (by decide)) (pv_var (i := 0)) B.xg_InvalidSaying) (av_cons (pv_exK xb_V B.xc_InvalidSaying PF.file PF.top (.inl rfl) (hr.mono (by decide)) (kv_cons (pv_var (i := 0)) kv_nil) B.xg_InvalidSaying) (av_cons (pv_ex1 xb_V B.xc_InvalidRow PF.file PF.top (.inl rfl) (hr.mono (by decide)) (pv_var (i := 0)) B.xg_InvalidRow) av_nil))))))))))) sc__law_errors.nd) (mss_cons (ms_as (i := 1) (PO.mo (PV.po (PO.pv (po_op o_add (PV.pb (pv_var (i := 1))) (PV.pb (PO.pv (po_lst (av_cons (pv_exK xb_V B.xc_InvalidRow PF.file PF.top (.inl rfl) (hr.mono (by decide)) (kv_cons (pv_var (i := 0)) kv_nil) B.xg_InvalidRow) (av_cons (pv_ex1 xb_V B.xc_InvalidShown PF.file PF.top (.inl rfl) (hr.mono (by decide)) (pv_var (i := 0)) B.xg_InvalidShown) (av_cons (pv_exK xb_V B.xc_InvalidShown PF.file PF.top (.inl rfl) (hr.mono (by decide)) (kv_cons (pv_var (i := 0)) kv_nil) B.xg_InvalidShown) (av_cons (pv_ex1 xb_V B.xc_InvalidOrder PF.file PF.top (.inl rfl) (hr.mono (by decide)) (pv_var (i := 0)) B.xg_InvalidOrder) av_nil))))))))))) sc__law_errors.nd) (mss_cons (ms_as (i := 1) (PO.mo (PV.po (PO.pv (po_op o_add (PV.pb (pv_var (i := 1))) (PV.pb (PO.pv (po_lst (av_cons (pv_exK xb_V B.xc_InvalidOrder PF.file PF.top (.inl rfl) (hr.mono (by decide)) (kv_cons (pv_var (i := 0)) kv_nil) B.xg_InvalidOrder) (av_cons (pv_ex1 xb_V B.xc_InvalidTie PF.file PF.top (.inl rfl) (hr.mono (by decide)) (pv_var (i := 0)) B.xg_InvalidTie) (av_cons (pv_exK xb_V B.xc_InvalidTie PF.file PF.top (.inl rfl) (hr.mono (by decide)) (kv_cons (pv_var (i := 0)) kv_nil) B.xg_InvalidTie) (av_cons (pv_ex1 xb_V B.xc_InvalidName PF.file PF.top (.inl rfl) (hr.mono (by decide)) (pv_var (i := 0)) B.xg_InvalidName) av_nil))))))))))) sc__law_errors.nd) (mss_cons (ms_as (i := 1) (PO.mo (PV.po (PO.pv (po_op o_add (PV.pb (pv_var (i := 1))) (PV.pb (PO.pv (po_lst (av_cons (pv_exK xb_V B.xc_InvalidName PF.file PF.top (.inl rfl) (hr.mono (by decide)) (kv_cons (pv_var (i := 0)) kv_nil) B.xg_InvalidName) (av_cons (pv_ex1 xb_V B.xc_InvalidWish PF.file PF.top (.inl rfl) (hr.mono (by decide)) (pv_var (i := 0)) B.xg_InvalidWish) (av_cons (pv_exK xb_V B.xc_InvalidWish PF.file PF.top (.inl rfl) (hr.mono (by decide)) (kv_cons (pv_var (i := 0)) kv_nil) B.xg_InvalidWish) (av_cons (pv_ex1 xb_V B.xc_NotABook PF.file PF.top (.inl rfl) (hr.mono (by decide)) (pv_var (i := 0)) B.xg_NotABook) av_nil))))))))))) sc__law_errors.nd) (mss_cons (ms_as (i := 1) (PO.mo (PV.po (PO.pv (po_op o_add (PV.pb (pv_var (i := 1))) (PV.pb (PO.pv (po_lst (av_cons (pv_exK xb_V B.xc_NotABook PF.file PF.top (.inl rfl) (hr.mono (by decide)) (kv_cons (pv_var (i := 0)) kv_nil) B.xg_NotABook) (av_cons (pv_ex1 xb_V B.xc_InvalidRows PF.file PF.top (.inr rfl) (hr.mono (by decide)) (pv_var (i := 0)) B.xg_InvalidRows) (av_cons (pv_exK xb_V B.xc_InvalidRows PF.file PF.top (.inr rfl) (hr.mono (by decide)) (kv_cons (pv_var (i := 0)) kv_nil) B.xg_InvalidRows) (av_cons (pv_ex1 xb_V B.xc_InvalidExchanges PF.file PF.top (.inr rfl) (hr.mono (by decide)) (pv_var (i := 0)) B.xg_InvalidExchanges) av_nil))))))))))) sc__law_errors.nd) (mss_cons (ms_as (i := 1) (PO.mo (PV.po (PO.pv (po_op o_add (PV.pb (pv_var (i := 1))) (PV.pb (PO.pv (po_lst (av_cons (pv_exK xb_V B.xc_InvalidExchanges PF.file PF.top (.inr rfl) (hr.mono (by decide)) (kv_cons (pv_var (i := 0)) kv_nil) B.xg_InvalidExchanges) (av_cons (pv_ex1 xb_V B.xc_InvalidWishes PF.file PF.top (.inr rfl) (hr.mono (by decide)) (pv_var (i := 0)) B.xg_InvalidWishes) (av_cons (pv_exK xb_V B.xc_InvalidWishes PF.file PF.top (.inr rfl) (hr.mono (by decide)) (kv_cons (pv_var (i := 0)) kv_nil) B.xg_InvalidWishes) av_nil)))))))))) sc__law_errors.nd) (mss_cons (ms_as (i := 1) (PO.mo (PV.po (PO.pv (po_op o_add (PV.pb (pv_var (i := 1))) (PV.pb (PO.pv (po_lst (av_cons (pv_ex1 xb_L B.xc_UnknownName PF.file PF.top (.inl rfl) (hr.mono (by decide)) (pv_var (i := 0)) B.xg_UnknownName) (av_cons (pv_exK xb_L B.xc_UnknownName PF.file PF.top (.inl rfl) (hr.mono (by decide)) (kv_cons (pv_var (i := 0)) kv_nil) B.xg_UnknownName) (av_cons (pv_ex1 xb_L B.xc_InUse PF.file PF.top (.inr rfl) (hr.mono (by decide)) (pv_var (i := 0)) B.xg_InUse) (av_cons (pv_exK xb_L B.xc_InUse PF.file PF.top (.inr rfl) (hr.mono (by decide)) (kv_cons (pv_var (i := 0)) kv_nil) B.xg_InUse) av_nil))))))))))) sc__law_errors.nd) (mss_one (ms_rt (PO.mo (po_op o_add (PV.pb (pv_var (i := 1))) (PV.pb (PO.pv (po_lst (av_cons (pv_ex1 xb_A B.xc_TooMany PF.file PF.top (.inl rfl) (hr.mono (by decide)) (pv_var (i := 0)) B.xg_TooMany) (av_cons (pv_exK xb_A B.xc_TooMany PF.file PF.top (.inl rfl) (hr.mono (by decide)) (kv_cons (pv_var (i := 0)) kv_nil) B.xg_TooMany) av_nil)))))))))))))))))
theorem ok__law_errors (B : Bs K mg) (PF : PFile P fileN) (E : ∃ f fd, FunD K "_law_errors" "_law_errors" (defArgs s__law_errors) (defBody s__law_errors) (defScope s__law_errors) [] [] f fd ∧ mg "_law_errors" = some (.ref f))  : Gd P w K mg base 5 "_law_errors" s__law_errors ["_law_thing"] g__law_errors := by
  obtain ⟨f, fd, F, hm⟩ := E
  exact ⟨f, fd, F, hm, F.bindsN fun _ _ _ _ _ _ us hl => match us, hl with | [_], _ => rfl, fok__law_errors B PF F⟩
theorem sc__law_field : FnScope ["_law_e", "_law_word_now"] ["_law_e", "_law_word_now"] (defScope s__law_field) := ⟨rfl, rfl, rfl, by decide +kernel, rfl, by decide +kernel, by decide +kernel⟩
theorem fok__law_field (B : Bs K mg) (PF : PFile P fileN) {f : Addr} {fd : FuncData} (F : FunD K "_law_field" "_law_field" (defArgs s__law_field) (defBody s__law_field) (defScope s__law_field) [] [] f fd)  : FnG P w K mg base 5 f fd ["_law_e", "_law_word_now"] (spOf ⟨K, mg⟩ 2 g__law_field) :=
  fn_ok F sc__law_field fun cdv A outer s H hr hgu => by
  exact mss_cons (ms_if (PTb.mt (tt_cmp (o_in (ru65 hr)) (PV.pb (pv_var (i := 1))) (PV.pb (PO.pv (po_lst (av_cons (pv_str [73, 110, 118, 97, 108, 105, 100, 82, 111, 119, 115]) (av_cons (pv_str [73, 110, 118, 97, 108, 105, 100, 69, 120, 99, 104, 97, 110, 103, 101, 115]) (av_cons (pv_str [73, 110, 118, 97, 108, 105, 100, 87, 105, 115, 104, 101, 115]) (av_cons (pv_str [73, 110, 85, 115, 101]) av_nil))))))))) (mss_one (ms_rt (PO.mo (PV.po (pv_fldE (cs := errCs) (PV.pb (pv_var (i := 0))) B.eg B.er (by decide)))))) mss_nil) (mss_cons (ms_if (PTb.mt (tt_cmp (o_eq (ru64 hr)) (PV.pb (pv_var (i := 1))) (PV.pb (pv_str [66, 114, 111, 107, 101, 110])))) (mss_one (ms_rt (PO.mo (po_lst (av_cons (pv_fldE (cs := errCs) (PV.pb (pv_var (i := 0))) B.eg B.er (by decide)) (av_cons (pv_fldE (cs := errCs) (PV.pb (pv_var (i := 0))) B.eg B.er (by decide)) av_nil)))))) mss_nil) (mss_one (ms_rt (PO.mo (PV.po (pv_if (tt_cmp (o_in (ru65 hr)) (PV.pb (pv_var (i := 1))) (PV.pb (PO.pv (po_lst (av_cons (pv_str [78, 111, 116, 104, 105, 110, 103, 84, 111, 85, 110, 100, 111]) (av_cons (pv_str []) av_nil)))))) pv_non (pv_fldE (cs := errCs) (PV.pb (pv_var (i := 0))) B.eg B.er (by decide))))))))
theorem ok__law_field (B : Bs K mg) (PF : PFile P fileN) (E : ∃ f fd, FunD K "_law_field" "_law_field" (defArgs s__law_field) (defBody s__law_field) (defScope s__law_field) [] [] f fd ∧ mg "_law_field" = some (.ref f))  : Gd P w K mg base 5 "_law_field" s__law_field ["_law_e", "_law_word_now"] g__law_field := by
  obtain ⟨f, fd, F, hm⟩ := E
  exact ⟨f, fd, F, hm, F.bindsN fun _ _ _ _ _ _ us hl => match us, hl with | [_, _], _ => rfl, fok__law_field B PF F⟩
theorem sc__law_draw : FnScope ["_law_spring_here", "_law_size", "_law_far", "_law_mixed", "_law_digit"] ["_law_spring_here", "_law_size"] (defScope s__law_draw) := ⟨rfl, rfl, rfl, by decide +kernel, rfl, by decide +kernel, by decide +kernel⟩
theorem fok__law_draw (B : Bs K mg) (PF : PFile P fileN) {f : Addr} {fd : FuncData} (F : FunD K "_law_draw" "_law_draw" (defArgs s__law_draw) (defBody s__law_draw) (defScope s__law_draw) [] [] f fd)  : FnG P w K mg base 5 f fd ["_law_spring_here", "_law_size"] (spOf ⟨K, mg⟩ 2 g__law_draw) :=
  fn_ok F sc__law_draw fun cdv A outer s H hr hgu => by
  exact mss_cons (ms_tg (PV.mv (PO.pv (po_op o_add (PV.pb (PO.pv (po_ix (pb_var (i := 0)) (PV.pb pv_int)))) (PV.pb pv_int)))) (mg_sub (i := 0) pv_int)) (mss_cons (ms_tg (PV.mv (PO.pv (po_op o_mod (PV.pb (PO.pv (po_callT o_int B.b_int kb_int (ab_cons (PV.pb (PO.pv (po_op o_add (PV.pb (PO.pv (po_op o_add (PV.pb (PO.pv (po_op o_mul (PV.pb (PO.pv (po_ix (pb_var (i := 0)) (PV.pb pv_int)))) (PV.pb pv_int)))) (PV.pb (PO.pv (po_op o_mul (PV.pb pv_int) (PV.pb (PO.pv (po_ix (pb_var (i := 0)) (PV.pb pv_int)))))))))) (PV.pb pv_int)))) ab_nil)))) (PV.pb pv_int)))) (mg_sub (i := 0) pv_int)) (mss_cons (ms_if (PTb.mt (tt_cmp o_gt (PV.pb (PO.pv (po_ix (pb_var (i := 0)) (PV.pb pv_int)))) (PV.pb pv_int))) (mss_cons (ms_tg (PV.mv (PO.pv (po_callB o_divmod B.b_divmod kb_divmod (ab_cons (PV.pb (PO.pv (po_ix (pb_var (i := 0)) (PV.pb pv_int)))) (ab_cons (PV.pb (pv_var (i := 1))) ab_nil))))) (mg_tp rfl (mgs_cons (mg_sub (i := 0) pv_int) (mgs_cons (mg_nm sc__law_draw.nd) mgs_nil)))) (mss_one (ms_rt (PO.mo (PV.po (pv_var (i := 4))))))) mss_nil) (mss_cons (ms_as (i := 2) (PO.mo (PV.po (PO.pv (po_op o_add (PV.pb (PO.pv (po_ix (pb_var (i := 0)) (PV.pb pv_int)))) (PV.pb pv_int))))) sc__law_draw.nd) (mss_cons (ms_as (i := 3) (PO.mo (PV.po (PO.pv (po_op o_mod (PV.pb (PO.pv (po_callT o_int B.b_int kb_int (ab_cons (PV.pb (PO.pv (po_op o_add (PV.pb (PO.pv (po_op o_mul (PV.pb (pv_var (i := 2))) (PV.pb (PO.pv (po_ix (pb_var (i := 0)) (PV.pb pv_int))))))) (PV.pb (PO.pv (po_ix (pb_var (i := 0)) (PV.pb pv_int))))))) ab_nil)))) (PV.pb pv_int))))) sc__law_draw.nd) (mss_one (ms_rt (PO.mo (po_op o_mod (PV.pb (PO.pv (po_callT o_int B.b_int kb_int (ab_cons (PV.pb (PO.pv (po_op o_fdiv (PV.pb (pv_var (i := 3))) (PV.pb pv_int)))) ab_nil)))) (PV.pb (pv_var (i := 1)))))))))))
theorem ok__law_draw (B : Bs K mg) (PF : PFile P fileN) (E : ∃ f fd, FunD K "_law_draw" "_law_draw" (defArgs s__law_draw) (defBody s__law_draw) (defScope s__law_draw) [] [] f fd ∧ mg "_law_draw" = some (.ref f))  : Gd P w K mg base 5 "_law_draw" s__law_draw ["_law_spring_here", "_law_size"] g__law_draw := by
  obtain ⟨f, fd, F, hm⟩ := E
  exact ⟨f, fd, F, hm, F.bindsN fun _ _ _ _ _ _ us hl => match us, hl with | [_, _], _ => rfl, fok__law_draw B PF F⟩
theorem sc__law_of : FnScope ["_law_spring_here", "_law_menu"] ["_law_spring_here", "_law_menu"] (defScope s__law_of) := ⟨rfl, rfl, rfl, by decide +kernel, rfl, by decide +kernel, by decide +kernel⟩
theorem fok__law_of (B : Bs K mg) (PF : PFile P fileN) {f : Addr} {fd : FuncData} (F : FunD K "_law_of" "_law_of" (defArgs s__law_of) (defBody s__law_of) (defScope s__law_of) [] [] f fd) (h__law_draw : Gd P w K mg base 5 "_law_draw" s__law_draw ["_law_spring_here", "_law_size"] g__law_draw) : FnG P w K mg base 12 f fd ["_law_spring_here", "_law_menu"] (spOf ⟨K, mg⟩ 2 g__law_of) :=
  fn_ok F sc__law_of fun cdv A outer s H hr hgu => by
  exact mss_one (ms_rt (mo_ix (PV.mv (pv_var (i := 1))) (MO.mv (mo_callS (i := 0) h__law_draw (hr.mono (by decide)) hgu (ma_cons (PV.mv (PO.pv (po_callB o_len B.b_len kb_len (ab_cons (PV.pb (pv_var (i := 1))) ab_nil)))) ma_nil)))))
theorem ok__law_of (B : Bs K mg) (PF : PFile P fileN) (E : ∃ f fd, FunD K "_law_of" "_law_of" (defArgs s__law_of) (defBody s__law_of) (defScope s__law_of) [] [] f fd ∧ mg "_law_of" = some (.ref f)) (h__law_draw : Gd P w K mg base 5 "_law_draw" s__law_draw ["_law_spring_here", "_law_size"] g__law_draw) : Gd P w K mg base 12 "_law_of" s__law_of ["_law_spring_here", "_law_menu"] g__law_of := by
  obtain ⟨f, fd, F, hm⟩ := E
  exact ⟨f, fd, F, hm, F.bindsN fun _ _ _ _ _ _ us hl => match us, hl with | [_, _], _ => rfl, fok__law_of B PF F h__law_draw⟩
theorem sc__law_odd : FnScope ["_law_spring_here", "_law_some"] ["_law_spring_here"] (defScope s__law_odd) := ⟨rfl, rfl, rfl, by decide +kernel, rfl, by decide +kernel, by decide +kernel⟩
theorem fok__law_odd (B : Bs K mg) (PF : PFile P fileN) {f : Addr} {fd : FuncData} (F : FunD K "_law_odd" "_law_odd" (defArgs s__law_odd) (defBody s__law_odd) (defScope s__law_odd) [] [] f fd) (h__law_of : Gd P w K mg base 12 "_law_of" s__law_of ["_law_spring_here", "_law_menu"] g__law_of) : FnG P w K mg base 19 f fd ["_law_spring_here"] (spOf ⟨K, mg⟩ 1 g__law_odd) :=
  fn_ok F sc__law_odd fun cdv A outer s H hr hgu => by
  exact mss_cons (ms_as (i := 1) (PO.mo (PV.po (PO.pv (po_lst (av_cons pv_non (av_cons pv_bl (av_cons pv_bl (av_cons pv_int (av_cons pv_int (av_cons (PO.pv (po_neg (PV.pb pv_int))) (av_cons pv_int (av_cons (PO.pv (po_op o_pow (PV.pb pv_int) (PV.pb pv_int))) (av_cons (pv_str []) (av_cons (pv_str [97]) (av_cons (pv_str [48, 49]) (av_cons (pv_str [48, 49, 50]) (av_cons (pv_str [50, 50, 50, 50]) (av_cons (pv_str [117, 112, 32, 48, 48, 32, 48, 49]) (av_cons (pv_str [118, 97, 108, 117, 101, 115, 32, 50]) (av_cons (pv_str [117, 112]) av_nil)))))))))))))))))))) sc__law_odd.nd) (mss_cons (ms_as (i := 1) (PO.mo (PV.po (PO.pv (po_op o_add (PV.pb (pv_var (i := 1))) (PV.pb (PO.pv (po_lst (av_cons (PO.pv (po_tup av_nil)) (av_cons (PO.pv (po_tup (av_cons pv_int av_nil))) (av_cons (PO.pv (po_tup (av_cons pv_int (av_cons pv_int av_nil)))) (av_cons (PO.pv (po_tup (av_cons pv_int (av_cons pv_int av_nil)))) (av_cons (PO.pv (po_tup (av_cons pv_int (av_cons pv_int av_nil)))) (av_cons (PO.pv (po_tup (av_cons pv_bl (av_cons pv_int av_nil)))) (av_cons (PO.pv (po_tup (av_cons (pv_str [48, 49]) av_nil))) (av_cons (PO.pv (po_tup (av_cons (pv_str [48, 49]) (av_cons (pv_str [48]) av_nil)))) (av_cons (PO.pv (po_tup (av_cons (pv_str [51]) av_nil))) (av_cons (PO.pv (po_tup (av_cons (pv_str [117, 112]) (av_cons (PO.pv (po_tup (av_cons pv_int (av_cons pv_int av_nil)))) av_nil)))) av_nil))))))))))))))))) sc__law_odd.nd) (mss_cons (ms_as (i := 1) (PO.mo (PV.po (PO.pv (po_op o_add (PV.pb (pv_var (i := 1))) (PV.pb (PO.pv (po_lst (av_cons (PO.pv (po_tup (av_cons pv_int (av_cons (PO.pv (po_tup av_nil)) (av_cons (PO.pv (po_tup (av_cons pv_int av_nil))) av_nil))))) (av_cons (PO.pv (po_tup (av_cons pv_int (av_cons (PO.pv (po_tup (av_cons (PO.pv (po_tup (av_cons (pv_str [117, 112]) (av_cons (PO.pv (po_tup (av_cons pv_int (av_cons pv_int av_nil)))) av_nil)))) av_nil))) (av_cons (PO.pv (po_tup (av_cons pv_int av_nil))) av_nil))))) (av_cons (PO.pv (po_lst av_nil)) (av_cons (PO.pv (po_lst (av_cons pv_int av_nil))) (av_cons (PO.pv (po_lst (av_cons (pv_str [120]) av_nil))) (av_cons (PO.pv po_dnew) (av_cons (PO.pv (po_disp (pd_cons (pv_str [97]) pv_int pd_nil))) (av_cons (PO.pv (po_tup (av_cons (PO.pv (po_lst av_nil)) av_nil))) (av_cons (PO.pv (po_tup (av_cons pv_non av_nil))) (av_cons (PO.pv (po_tup (av_cons (PO.pv (po_tup av_nil)) av_nil))) av_nil))))))))))))))))) sc__law_odd.nd) (mss_one (ms_rt (mo_callS (i := 0) h__law_of (hr.mono (by decide)) hgu (ma_cons (PV.mv (PO.pv (po_op o_add (PV.pb (pv_var (i := 1))) (PV.pb (PO.pv (po_lst (av_cons (PO.pv (po_tup (av_cons (pv_str [115, 97, 105, 100]) (av_cons (PO.pv (po_tup (av_cons (pv_str [48]) av_nil))) av_nil)))) (av_cons (PO.pv (po_tup (av_cons (pv_str [97, 108, 105, 107, 101]) (av_cons (pv_str [97]) (av_cons (pv_str [98]) av_nil))))) (av_cons (PO.pv (po_tup (av_cons (pv_str [97]) (av_cons (PO.pv (po_tup (av_cons (pv_str [107, 101, 101, 112, 115]) (av_cons (pv_str [48, 49]) av_nil)))) av_nil)))) (av_cons (PO.pv (po_tup (av_cons pv_bl av_nil))) av_nil)))))))))) ma_nil))))))
theorem ok__law_odd (B : Bs K mg) (PF : PFile P fileN) (E : ∃ f fd, FunD K "_law_odd" "_law_odd" (defArgs s__law_odd) (defBody s__law_odd) (defScope s__law_odd) [] [] f fd ∧ mg "_law_odd" = some (.ref f)) (h__law_of : Gd P w K mg base 12 "_law_of" s__law_of ["_law_spring_here", "_law_menu"] g__law_of) : Gd P w K mg base 19 "_law_odd" s__law_odd ["_law_spring_here"] g__law_odd := by
  obtain ⟨f, fd, F, hm⟩ := E
  exact ⟨f, fd, F, hm, F.bindsN fun _ _ _ _ _ _ us hl => match us, hl with | [_], _ => rfl, fok__law_odd B PF F h__law_of⟩
theorem sc__law_right : FnScope ["_law_spring_here", "_law_words", "_law_some", "_law_k", "_law_pairs", "_law_thing", "_law_mate_thing", "_law_word_now", "_law_each"] ["_law_spring_here"] (defScope s__law_right) := ⟨rfl, rfl, rfl, by decide +kernel, rfl, by decide +kernel, by decide +kernel⟩
theorem fok__law_right (B : Bs K mg) (PF : PFile P fileN) {f : Addr} {fd : FuncData} (F : FunD K "_law_right" "_law_right" (defArgs s__law_right) (defBody s__law_right) (defScope s__law_right) [] [] f fd) (h__law_error : Gd P w K mg base 5 "_law_error" s__law_error ["_law_e"] g__law_error) (h__law_errors : Gd P w K mg base 5 "_law_errors" s__law_errors ["_law_thing"] g__law_errors) (h__law_field : Gd P w K mg base 5 "_law_field" s__law_field ["_law_e", "_law_word_now"] g__law_field) (h__law_odd : Gd P w K mg base 19 "_law_odd" s__law_odd ["_law_spring_here"] g__law_odd) : FnG P w K mg base 26 f fd ["_law_spring_here"] (spOf ⟨K, mg⟩ 1 g__law_right) :=
  fn_ok F sc__law_right fun cdv A outer s H hr hgu => by
  exact mss_cons (ms_par (i := 5) (j := 6) (MV.mo (MO.mv (mo_callS (i := 0) h__law_odd (hr.mono (by decide)) hgu ma_nil))) (MV.mo (MO.mv (mo_callS (i := 0) h__law_odd (hr.mono (by decide)) hgu ma_nil))) rfl sc__law_right.nd) (mss_cons (ms_as (i := 1) (PO.mo (PV.po (PO.pv (po_lst (av_cons (pv_str [73, 110, 118, 97, 108, 105, 100, 84, 101, 120, 116]) (av_cons (pv_str [73, 110, 118, 97, 108, 105, 100, 78, 117, 109, 98, 101, 114]) (av_cons (pv_str [73, 110, 118, 97, 108, 105, 100, 82, 101, 108, 97, 116, 105, 111, 110]) (av_cons (pv_str [73, 110, 118, 97, 108, 105, 100, 84, 97, 98, 108, 101]) (av_cons (pv_str [73, 110, 118, 97, 108, 105, 100, 83, 97, 121, 105, 110, 103]) (av_cons (pv_str [73, 110, 118, 97, 108, 105, 100, 82, 111, 119]) av_nil)))))))))) sc__law_right.nd) (mss_cons (ms_as (i := 1) (PO.mo (PV.po (PO.pv (po_op o_add (PV.pb (pv_var (i := 1))) (PV.pb (PO.pv (po_lst (av_cons (pv_str [73, 110, 118, 97, 108, 105, 100, 83, 104, 111, 119, 110]) (av_cons (pv_str [73, 110, 118, 97, 108, 105, 100, 79, 114, 100, 101, 114]) (av_cons (pv_str [73, 110, 118, 97, 108, 105, 100, 84, 105, 101]) (av_cons (pv_str [73, 110, 118, 97, 108, 105, 100, 78, 97, 109, 101]) (av_cons (pv_str [73, 110, 118, 97, 108, 105, 100, 87, 105, 115, 104]) (av_cons (pv_str [78, 111, 116, 65, 66, 111, 111, 107]) av_nil))))))))))))) sc__law_right.nd) (mss_cons (ms_as (i := 1) (PO.mo (PV.po (PO.pv (po_op o_add (PV.pb (pv_var (i := 1))) (PV.pb (PO.pv (po_lst (av_cons (pv_str [73, 110, 118, 97, 108, 105, 100, 82, 111, 119, 115]) (av_cons (pv_str [73, 110, 118, 97, 108, 105, 100, 69, 120, 99, 104, 97, 110, 103, 101, 115]) (av_cons (pv_str [73, 110, 118, 97, 108, 105, 100, 87, 105, 115, 104, 101, 115]) (av_cons (pv_str [85, 110, 107, 110, 111, 119, 110, 78, 97, 109, 101]) (av_cons (pv_str [73, 110, 85, 115, 101]) (av_cons (pv_str [84, 111, 111, 77, 97, 110, 121]) av_nil))))))))))))) sc__law_right.nd) (mss_cons (ms_as (i := 2) (PO.mo (PV.po (PO.pv (po_call h__law_errors (hr.mono (by decide)) hgu (av_cons (pv_var (i := 5)) av_nil))))) sc__law_right.nd) (mss_cons (ms_for (vs := [3]) .never rfl (PIv.mi (pi_rng1 B.b_range (ab_cons (PV.pb (PO.pv (po_callB o_len B.b_len kb_len (ab_cons (PV.pb (pv_var (i := 2))) ab_nil)))) ab_nil))) (pg_nm sc__law_right.nd) (mss_cons (ms_as (i := 7) (PO.mo (PV.po (PO.pv (po_call h__law_error (hr.mono (by decide)) hgu (av_cons (PO.pv (po_ix (PV.pb (pv_var (i := 2))) (PV.pb (pv_var (i := 3))))) av_nil))))) sc__law_right.nd) (mss_one (ms_if (PTb.mt (PWb.tt (tw_or (tt_cmp (o_ne (ru64 hr)) (PV.pb (pv_var (i := 7))) (PV.pb (PO.pv (po_ix (PV.pb (pv_var (i := 1))) (PV.pb (PO.pv (po_op o_fdiv (PV.pb (pv_var (i := 3))) (PV.pb pv_int)))))))) (tw_or1 (tt_cmp (o_ne (ru64 hr)) (PV.pb (PO.pv (po_callB (o_reprBG B.sys hgu (ru66 hr)) B.b_repr kb_repr (ab_cons (PV.pb (PO.pv (po_call h__law_field (hr.mono (by decide)) hgu (av_cons (PO.pv (po_ix (PV.pb (pv_var (i := 2))) (PV.pb (pv_var (i := 3))))) (av_cons (pv_var (i := 7)) av_nil))))) ab_nil)))) (PV.pb (PO.pv (po_callB (o_reprBG B.sys hgu (ru66 hr)) B.b_repr kb_repr (ab_cons (PV.pb (pv_var (i := 5))) ab_nil))))))))) (mss_one (ms_rt (PO.mo (PV.po pv_bl)))) mss_nil)))) (mss_cons (ms_as (i := 4) (PO.mo (PV.po (PO.pv (po_lst (av_cons (pv_ex2 xb_A B.xc_Broken PF.file PF.top (hr.mono (by decide)) (av_cons (pv_var (i := 5)) (av_cons (pv_var (i := 6)) av_nil)) B.xg_Broken) (av_cons (pv_exK2 xb_A B.xc_Broken PF.file PF.top (hr.mono (by decide)) (kv_cons (pv_var (i := 6)) (kv_cons (pv_var (i := 5)) kv_nil)) B.xg_Broken) av_nil)))))) sc__law_right.nd) (mss_cons (ms_if (PTb.mt (tt_cmp (o_ne (ru64 hr)) (PV.pb (PO.pv (po_lc [("_law_each", 8)] rfl sc__law_right.nd (PIv.pib (pi_v (pv_var (i := 4)))) (fun _ _ _ _ _ => pg_nm sc__law_right.nd) (fun _ _ _ _ _ => pc_nil) (fun _ _ _ _ _ => PO.pv (po_call h__law_error (hr.mono (by decide)) hgu (av_cons (pv_var (i := 8)) av_nil)))))) (PV.pb (PO.pv (po_lst (av_cons (pv_str [66, 114, 111, 107, 101, 110]) (av_cons (pv_str [66, 114, 111, 107, 101, 110]) av_nil))))))) (mss_one (ms_rt (PO.mo (PV.po pv_bl)))) mss_nil) (mss_cons (ms_if (PTb.mt (tt_cmp (o_ne (ru64 hr)) (PV.pb (PO.pv (po_callB (o_reprBG B.sys hgu (ru66 hr)) B.b_repr kb_repr (ab_cons (PV.pb (PO.pv (po_lc [("_law_each", 8)] rfl sc__law_right.nd (PIv.pib (pi_v (pv_var (i := 4)))) (fun _ _ _ _ _ => pg_nm sc__law_right.nd) (fun _ _ _ _ _ => pc_nil) (fun _ _ _ _ _ => PO.pv (po_call h__law_field (hr.mono (by decide)) hgu (av_cons (pv_var (i := 8)) (av_cons (pv_str [66, 114, 111, 107, 101, 110]) av_nil))))))) ab_nil)))) (PV.pb (PO.pv (po_callB (o_reprBG B.sys hgu (ru66 hr)) B.b_repr kb_repr (ab_cons (PV.pb (PO.pv (po_lst (av_cons (PO.pv (po_lst (av_cons (pv_var (i := 5)) (av_cons (pv_var (i := 6)) av_nil)))) (av_cons (PO.pv (po_lst (av_cons (pv_var (i := 5)) (av_cons (pv_var (i := 6)) av_nil)))) av_nil))))) ab_nil)))))) (mss_one (ms_rt (PO.mo (PV.po pv_bl)))) mss_nil) (mss_one (ms_rt (PO.mo (po_cmp (o_eq (ru64 hr)) (PV.pb (PO.pv (po_call h__law_error (hr.mono (by decide)) hgu (av_cons (pv_ex0 xb_A B.xn_NothingToUndo B.xg_NothingToUndo) av_nil)))) (PV.pb (pv_str [78, 111, 116, 104, 105, 110, 103, 84, 111, 85, 110, 100, 111]))))))))))))))
theorem ok__law_right (B : Bs K mg) (PF : PFile P fileN) (E : ∃ f fd, FunD K "_law_right" "_law_right" (defArgs s__law_right) (defBody s__law_right) (defScope s__law_right) [] [] f fd ∧ mg "_law_right" = some (.ref f)) (h__law_error : Gd P w K mg base 5 "_law_error" s__law_error ["_law_e"] g__law_error) (h__law_errors : Gd P w K mg base 5 "_law_errors" s__law_errors ["_law_thing"] g__law_errors) (h__law_field : Gd P w K mg base 5 "_law_field" s__law_field ["_law_e", "_law_word_now"] g__law_field) (h__law_odd : Gd P w K mg base 19 "_law_odd" s__law_odd ["_law_spring_here"] g__law_odd) : Gd P w K mg base 26 "_law_right" s__law_right ["_law_spring_here"] g__law_right := by
  obtain ⟨f, fd, F, hm⟩ := E
  exact ⟨f, fd, F, hm, F.bindsN fun _ _ _ _ _ _ us hl => match us, hl with | [_], _ => rfl, fok__law_right B PF F h__law_error h__law_errors h__law_field h__law_odd⟩
theorem sc__law_spring : FnScope ["_law_cells", "_law_k", "_law_cell", "_law_mixed", "_law_number"] ["_law_cells", "_law_k"] (defScope s__law_spring) := ⟨rfl, rfl, rfl, by decide +kernel, rfl, by decide +kernel, by decide +kernel⟩
theorem fok__law_spring (B : Bs K mg) (PF : PFile P fileN) {f : Addr} {fd : FuncData} (F : FunD K "_law_spring" "_law_spring" (defArgs s__law_spring) (defBody s__law_spring) (defScope s__law_spring) [] [] f fd)  : FnG P w K mg base 5 f fd ["_law_cells", "_law_k"] (spOf ⟨K, mg⟩ 2 g__law_spring) :=
  fn_ok F sc__law_spring fun cdv A outer s H hr hgu => by
  exact mss_cons (ms_as (i := 2) (PO.mo (PV.po (PO.pv (po_if (tt_cmp o_lt (PV.pb (pv_var (i := 1))) (PV.pb (PO.pv (po_callB o_len B.b_len kb_len (ab_cons (PV.pb (pv_var (i := 0))) ab_nil))))) (po_ix (PV.pb (pv_var (i := 0))) (PV.pb (pv_var (i := 1)))) (po_op o_add (PV.pb (PO.pv (po_op o_mul (PV.pb pv_int) (PV.pb (pv_var (i := 1)))))) (PV.pb pv_int)))))) sc__law_spring.nd) (mss_cons (ms_as (i := 3) (PO.mo (PV.po (PO.pv (po_op o_add (PV.pb pv_int) (PV.pb (PO.pv (po_op o_mul (PV.pb pv_int) (PV.pb (pv_var (i := 1)))))))))) sc__law_spring.nd) (mss_cons (ms_for (vs := [4]) .never rfl (PIv.mi (pi_v (PO.pv (po_op o_add (PV.pb (PO.pv (po_slice (PV.pb (pv_var (i := 0))) pt_none (pt_some (PV.pb pv_int))))) (PV.pb (PO.pv (po_lst (av_cons (pv_var (i := 2)) av_nil)))))))) (pg_nm sc__law_spring.nd) (mss_one (ms_as (i := 3) (PO.mo (PV.po (PO.pv (po_op o_mod (PV.pb (PO.pv (po_callT o_int B.b_int kb_int (ab_cons (PV.pb (PO.pv (po_op o_add (PV.pb (PO.pv (po_op o_add (PV.pb (PO.pv (po_op o_mul (PV.pb (pv_var (i := 3))) (PV.pb pv_int)))) (PV.pb (PO.pv (po_callT o_int B.b_int kb_int (ab_cons (PV.pb (pv_var (i := 4))) ab_nil))))))) (PV.pb (PO.pv (po_op o_mul (PV.pb pv_int) (PV.pb (pv_var (i := 1))))))))) ab_nil)))) (PV.pb pv_int))))) sc__law_spring.nd))) (mss_one (ms_rt (PO.mo (po_lst (av_cons (PO.pv (po_if (PWb.tt (tw_or (tt_cmp o_lt (PV.pb (pv_var (i := 2))) (PV.pb pv_int)) (tw_or1 (tt_cmp o_ge (PV.pb (pv_var (i := 2))) (PV.pb (PO.pv (po_op o_pow (PV.pb pv_int) (PV.pb pv_int)))))))) (po_callB o_abs B.b_abs kb_abs (ab_cons (PV.pb (pv_var (i := 2))) ab_nil)) (PV.po pv_int))) (av_cons (pv_var (i := 3)) (av_cons pv_int av_nil)))))))))
theorem ok__law_spring (B : Bs K mg) (PF : PFile P fileN) (E : ∃ f fd, FunD K "_law_spring" "_law_spring" (defArgs s__law_spring) (defBody s__law_spring) (defScope s__law_spring) [] [] f fd ∧ mg "_law_spring" = some (.ref f))  : Gd P w K mg base 5 "_law_spring" s__law_spring ["_law_cells", "_law_k"] g__law_spring := by
  obtain ⟨f, fd, F, hm⟩ := E
  exact ⟨f, fd, F, hm, F.bindsN fun _ _ _ _ _ _ us hl => match us, hl with | [_, _], _ => rfl, fok__law_spring B PF F⟩
theorem sc_law : FnScope ["_law_script", "_law_told_limits", "_law_bases", "_law_k"] ["_law_script"] (defScope s_law) := ⟨rfl, rfl, rfl, by decide +kernel, rfl, by decide +kernel, by decide +kernel⟩
theorem fok_law (B : Bs K mg) (PF : PFile P fileN) {f : Addr} {fd : FuncData} (F : FunD K "law" "law" (defArgs s_law) (defBody s_law) (defScope s_law) [] [] f fd) (h__law_right : Gd P w K mg base 26 "_law_right" s__law_right ["_law_spring_here"] g__law_right) (h__law_spring : Gd P w K mg base 5 "_law_spring" s__law_spring ["_law_cells", "_law_k"] g__law_spring) : FnG P w K mg base 33 f fd ["_law_script"] (spOf ⟨K, mg⟩ 1 g_law) :=
  fn_ok F sc_law fun cdv A outer s H hr hgu => by
  exact mss_cons (ms_as (i := 1) (PO.mo (PV.po (PO.pv (po_lst (av_cons (pv_globI (B.c_MOST_WIDTH).choose_spec) (av_cons (pv_globI (B.c_MOST_RELATIONS).choose_spec) (av_cons (pv_globI (B.c_MOST_ROWS).choose_spec) (av_cons (pv_globI (B.c_MOST_PLACES).choose_spec) (av_cons (pv_globI (B.c_MOST_VARIABLES).choose_spec) (av_cons (pv_globI (B.c_MOST_EXCHANGES).choose_spec) av_nil)))))))))) sc_law.nd) (mss_cons (ms_if (PTb.mt (tt_cmp (o_ne (ru64 hr)) (PV.pb (PO.pv (po_callB (o_reprB hgu (ru66 hr)) B.b_repr kb_repr (ab_cons (PV.pb (pv_var (i := 1))) ab_nil)))) (PV.pb (PO.pv (po_callB (o_repr hgu (ru66 hr)) B.b_repr kb_repr (ab_cons (PV.pb (PO.pv (po_lst (av_cons pv_int (av_cons pv_int (av_cons pv_int (av_cons pv_int (av_cons pv_int (av_cons pv_int av_nil))))))))) ab_nil)))))) (mss_one (ms_rt (PO.mo (PV.po pv_bl)))) mss_nil) (mss_cons (ms_as (i := 2) (PO.mo (PV.po (PO.pv (po_lst (av_cons (PO.pv (po_isET (cs := errCs) (T := "ValueError") (PV.pb (pv_ex0 xb_V B.xn_WrongValue B.xg_WrongValue)) B.eg B.er (by decide) B.b_isinstance B.b_ValueError PyProof.Rows.Boot.«ValueError»)) (av_cons (PO.pv (po_isET (cs := errCs) (T := "LookupError") (PV.pb (pv_ex0 xb_L B.xn_WrongName B.xg_WrongName)) B.eg B.er (by decide) B.b_isinstance B.b_LookupError PyProof.Rows.Boot.«LookupError»)) av_nil)))))) sc_law.nd) (mss_cons (ms_as (i := 2) (PO.mo (PV.po (PO.pv (po_op o_add (PV.pb (pv_var (i := 2))) (PV.pb (PO.pv (po_lst (av_cons (PO.pv (po_isET (cs := errCs) (T := "ArithmeticError") (PV.pb (pv_ex0 xb_A B.xn_NoAnswer B.xg_NoAnswer)) B.eg B.er (by decide) B.b_isinstance B.b_ArithmeticError PyProof.Rows.Boot.«ArithmeticError»)) (av_cons (PO.pv (po_isE (cs := errCs) (PV.pb (pv_ex0 xb_A B.xn_NoAnswer B.xg_NoAnswer)) B.eg B.er (by decide) B.xg_WrongValue B.b_isinstance)) av_nil))))))))) sc_law.nd) (mss_cons (ms_if (PTb.mt (tt_cmp (o_ne (ru64 hr)) (PV.pb (pv_var (i := 2))) (PV.pb (PO.pv (po_lst (av_cons pv_bl (av_cons pv_bl (av_cons pv_bl (av_cons pv_bl av_nil))))))))) (mss_one (ms_rt (PO.mo (PV.po pv_bl)))) mss_nil) (mss_one (ms_rt (PO.mo (po_callB (o_all rfl) B.b_all kb_all (ab_cons (PV.pb (PO.pv (po_lc [("_law_k", 3)] rfl sc_law.nd (PIv.pib (pi_rng1 B.b_range (ab_cons (PV.pb (PO.pv (po_callB (o_max2 rfl) B.b_max kb_max (ab_cons (PV.pb pv_int) (ab_cons (PV.pb (PO.pv (po_callB (o_min2 rfl) B.b_min kb_min (ab_cons (PV.pb (PO.pv (po_callB o_len B.b_len kb_len (ab_cons (PV.pb (pv_var (i := 0))) ab_nil)))) (ab_cons (PV.pb pv_int) ab_nil))))) ab_nil))))) ab_nil))) (fun _ _ _ _ _ => pg_nm sc_law.nd) (fun _ _ _ _ _ => pc_nil) (fun _ _ _ _ _ => PO.pv (po_callF h__law_right (hr.mono (by decide)) hgu (po_call h__law_spring (hr.mono (by decide)) hgu (av_cons (pv_var (i := 0)) (av_cons (pv_var (i := 3)) av_nil))) av_nil))))) ab_nil)))))))))
end
end Kv
namespace Kv
open PySem PySem.Spec PyProof.Rows L2
theorem sz_line : sizeLine = 16777216 := sizeLine_eq
theorem map_rep0 {α : Type} {f : Nat → α} {a : α} : ∀ {l : List Nat}, (∀ i ∈ l, f i = a) → l.map f = List.replicate l.length a
  | [], _ => rfl
  | i :: l, h => by rw [List.map_cons, h i (List.mem_cons_self ..), map_rep0 fun j hj => h j (List.mem_cons_of_mem _ hj)]; rfl
theorem rstr_n {n : Nat} {ev : Ev} : rstr n [] ev = List.replicate n none := by
  unfold rstr
  rw [map_rep0 (a := none) fun i _ => by simp]
  rw [List.length_range]
theorem rstr_0 {n : Nat} {x : Option O} {ev : Ev} : rstr (n + 1) [0] (x :: ev) = x :: List.replicate n none := by
  unfold rstr
  rw [List.range_succ_eq_map, List.map_cons, List.map_map, map_rep0 (a := none) fun i _ => by simp, List.length_range]
  simp
theorem sq_nx {a b : MF} {ev ev1 : Ev} (h : a ev = some (.nx, ev1)) : sSq a b ev = b ev1 := by
  unfold sSq
  rw [h]
  rfl
theorem run_rt {nN n : Nat} {io : List Nat} {m : MF} {os : List O} {o : O} {ev1 : Ev} (hl : os.length = n) (h : m (os.map some ++ List.replicate (nN - n) none) = some (.rt o, ev1)) : runF nN n io m os = some (o, rstr n io ev1) := by
  unfold runF
  rw [if_pos hl, h]
  rfl
theorem for_go {mi : M (List D)} {tf : TF} {mb : MF} {ev ev1 : Ev} {ds : List D} (h : mi ev = some (ds, ev1)) : sFor mi tf mb ev = forM tf mb ds ev1 := by
  unfold sFor
  rw [h]
  rfl
theorem cut_map {α β : Type} {f : α → β} {xs : List α} {lo hi : Option Int} : cutG (xs.map f) lo hi = (cutG xs lo hi).map f := by
  unfold cutG
  rw [List.length_map, List.map_take, List.map_drop]
theorem cut_len {α : Type} {xs : List α} {lo hi : Option Int} : (cutG xs lo hi).length ≤ xs.length := by
  unfold cutG
  rw [List.length_take, List.length_drop]
  omega
theorem eqD_rep (p : PyData) : eqD (.rep p) (.rep p) = none ∨ eqD (.rep p) (.rep p) = some true := by
  unfold eqD D.pk D.py
  by_cases z : PyData.strOk p.shown = true
  · rw [if_pos z]
    refine .inr ?_
    show Option.bind (if (PyData.str p.shown).depth ≤ 64 then some (PyData.str p.shown) else none) _ = _
    have d : (PyData.str p.shown).depth ≤ 64 := by unfold PyData.depth; omega
    rw [if_pos d]
    show some (PyData.eqv (.str p.shown) (.str p.shown)) = _
    unfold PyData.eqv
    simp
  · rw [if_neg z]
    exact .inl rfl
theorem gNe_rep (p : PyData) : gNe (.rep p) (.rep p) = some (.imm (.bl false)) := by
  unfold gNe gNeD
  rcases eqD_rep p with h | h <;> rw [h] <;> simp [gNeR]
theorem lcP_map {tf : TF} {fc : Ev → Option Bool} {fe : Ev → Option D} {ev : Ev} {φ : D → D} : ∀ ds : List D, (∀ d ∈ ds, ∃ e1, tf d ev = some e1 ∧ fc e1 = some true ∧ fe e1 = some (φ d)) → lcP tf fc fe ev ds = some (ds.map φ)
  | [], _ => rfl
  | d :: ds, h => by
    obtain ⟨e1, a1, a2, a3⟩ := h d (List.mem_cons_self ..)
    unfold lcP
    rw [a1]
    show (fc e1).bind _ = _
    rw [a2]
    show (fe e1).bind _ = _
    rw [a3, Option.bind_some, lcP_map ds fun x hx => h x (List.mem_cons_of_mem _ hx)]
    rfl
theorem fLc_map {fi : Ev → Option (List D)} {tf : TF} {fc : Ev → Option Bool} {fe : Ev → Option D} {vs : List Nat} {ev : Ev} {ds : List D} {φ : D → D} (h : fi ev = some ds) (hz : ds.length ≤ sizeLine) (hd : ∀ d ∈ ds, ∃ e1, tf d (wipeE ev vs) = some e1 ∧ fc e1 = some true ∧ fe e1 = some (φ d)) : fLc fi tf fc fe vs ev = some (.lst (ds.map φ)) := by
  unfold fLc
  rw [h, Option.bind_some, lcP_map ds hd, Option.bind_some, if_pos (by rw [List.length_map]; exact hz)]
theorem bls_all : ∀ ds : List D, (∀ d ∈ ds, d = .bl true) → D.bls ds = some (List.replicate ds.length true)
  | [], _ => rfl
  | d :: ds, h => by
    rw [h d (List.mem_cons_self ..)]
    unfold D.bls
    rw [bls_all ds fun x hx => h x (List.mem_cons_of_mem _ hx)]
    rfl
theorem gAll_true {ds : List D} (h : ∀ d ∈ ds, d = .bl true) : gAll [.lst ds] = some (.imm (.bl true)) := by
  show (D.bls ds).map _ = _
  rw [bls_all ds h]
  simp
theorem all_lc {fi : Ev → Option (List D)} {tf : TF} {fe : Ev → Option D} {vs : List Nat} {ev : Ev} {ds : List D} (h : fi ev = some ds) (hz : ds.length ≤ sizeLine) (hd : ∀ d ∈ ds, ∃ e1, tf d (wipeE ev vs) = some e1 ∧ fe e1 = some (.bl true)) : cl gAll (fcons (fz (fLc fi tf (kk true) fe vs)) fnil) ev = some (.imm (.bl true)) := by
  have e := fLc_map (tf := tf) (fc := kk true) (fe := fe) (vs := vs) (φ := fun _ => .bl true) h hz fun d hd' => by
    obtain ⟨e1, a, b⟩ := hd d hd'
    exact ⟨e1, a, rfl, b⟩
  have e2 : fcons (fz (fLc fi tf (kk true) fe vs)) fnil ev = some [.lst (ds.map fun _ => .bl true)] := by
    unfold fcons
    show ((fLc fi tf (kk true) fe vs ev).map frz).bind _ = _
    rw [e]
    rfl
  show (fcons (fz (fLc fi tf (kk true) fe vs)) fnil ev).bind gAll = _
  rw [e2]
  exact gAll_true fun d hd => by
    obtain ⟨_, _, rfl⟩ := List.mem_map.mp hd
    rfl
end Kv
namespace Kv
open PySem PySem.Spec PyProof.Rows L2
theorem upTo_len (lo : Int) (n : Nat) : (upTo lo n).length = n := by unfold upTo; simp
theorem rng_of {n : Int} (h0 : -(2 ^ 62) ≤ n) (h1 : n < 2 ^ 62) : gRng1 [.int n] = some (upTo 0 n.toNat) := by
  show (if -(2 ^ 62) ≤ n ∧ n < 2 ^ 62 then some (upTo 0 n.toNat) else none) = _
  rw [if_pos ⟨h0, h1⟩]
theorem for_ff {f g : Ev → Option Bool} {ev : Ev} {b : Bool} (h : f ev = some false) (h2 : g ev = some b) : for_ f g ev = some b := by
  unfold for_
  rw [h]
  exact h2
theorem if_f {c : Ev → Option Bool} {a b : MF} {ev : Ev} (h : c ev = some false) : sIf (lft c) a b ev = b ev := by
  unfold sIf lft
  rw [h]
  rfl
theorem rt_of {f : Ev → Option O} {ev : Ev} {o : O} (h : f ev = some o) : sRt (lft f) ev = some (.rt o, ev) := by
  unfold sRt lft
  rw [h]
  rfl
theorem cu_of {n : Nat} {g : Fm} {fs : Ev → Option (List D)} {ev : Ev} {ds : List D} {o : O} (h : fs ev = some ds) (hl : ds.length = n) (hg : ap g ds = some o) : cu n g fs ev = some o := by
  show (fs ev).bind _ = _
  rw [h, Option.bind_some, if_pos hl, hg]
theorem vr_of {i : Nat} {ev : Ev} {d : D} (h : ev[i]? = some (some (.imm d))) : vr i ev = some d := by
  unfold vr gt
  rw [h]
  rfl
theorem fc_of {f : Ev → Option D} {fs : Ev → Option (List D)} {ev : Ev} {d : D} {ds : List D} (h : f ev = some d) (h' : fs ev = some ds) : fcons f fs ev = some (d :: ds) := by
  unfold fcons
  rw [h, Option.bind_some, h']
  rfl
theorem fz_of {f : Ev → Option O} {ev : Ev} {d : D} (h : f ev = some (.imm d)) : fz f ev = some d := by
  show (f ev).map frz = _
  rw [h]
  rfl
theorem f2_of {g : D → D → Option O} {fa fb : Ev → Option D} {ev : Ev} {a b : D} {o : O} (h : fa ev = some a) (h' : fb ev = some b) (hg : g a b = some o) : f2 g fa fb ev = some o := by
  unfold f2
  rw [h, Option.bind_some, h', Option.bind_some, hg]
theorem ft_of {f : Ev → Option O} {ev : Ev} {b : Bool} (h : f ev = some (.imm (.bl b))) : ft f ev = some b := by
  unfold ft
  rw [h]
  rfl
theorem cl_of {g : List D → Option O} {fs : Ev → Option (List D)} {ev : Ev} {ds : List D} {o : O} (h : fs ev = some ds) (hg : g ds = some o) : cl g fs ev = some o := by
  show (fs ev).bind g = _
  rw [h, Option.bind_some, hg]
abbrev T (zs : List (List Nat)) : D := .tup (zs.map D.str)
theorem ap_of {g : Fm} {ds : List D} {o : O} {evr : Ev} (h : g (ds.map O.imm) = some (o, evr)) : ap g ds = some o := by
  unfold ap
  rw [h]
  rfl
theorem as_of {i : Nat} {f : Ev → Option D} {ev : Ev} {d : D} (h : f ev = some d) (hi : i < ev.length) : sAs i (lft (fo f)) ev = some (.nx, ev.set i (some (.imm d))) := by
  show Option.bind (Option.map _ (Option.map O.imm (f ev))) _ = _
  rw [h]
  show (if i < ev.length then _ else _) = _
  rw [if_pos hi]
end Kv
namespace Kv
open PySem PySem.Spec PyProof.Rows L2
end Kv
namespace Kv
open PySem PySem.Spec PyProof.Rows L2
section
variable {ev ev1 ev2 : Ev}
theorem mSl_of {i n : Nat} {ms : M (List D)} {g : Fm} {o0 o r : O} {ds : List D} {evr : Ev} (h0 : gt i ev = some o0) (h1 : ms ev = some (ds, ev1)) (h2 : gt i ev1 = some o) (hn : ds.length + 1 = n) (hg : g (o :: ds.map O.imm) = some (r, evr)) : mSl i ms n g ev = some (r, ev1.set i ((evr[0]?).join)) := by
  unfold mSl
  rw [h0, Option.bind_some, h1, Option.bind_some]
  dsimp only
  rw [h2, Option.bind_some, if_pos hn, hg]
  rfl
theorem mz_of {m : M O} {o : O} (h : m ev = some (o, ev1)) : mz m ev = some (frz o, ev1) := by
  show Option.map _ (m ev) = _
  rw [h]
  rfl
theorem mo_of {m : M D} {d : D} (h : m ev = some (d, ev1)) : mo m ev = some (.imm d, ev1) := by
  show Option.map _ (m ev) = _
  rw [h]
  rfl
theorem mcons_of {m : M D} {ms : M (List D)} {d : D} {ds : List D} (h : m ev = some (d, ev1)) (h' : ms ev1 = some (ds, ev2)) : mcons m ms ev = some (d :: ds, ev2) := by
  unfold mcons M.bind M.map
  rw [h, Option.bind_some]
  dsimp only
  rw [h']
  rfl
theorem sRt_of {m : M O} {o : O} (h : m ev = some (o, ev1)) : sRt m ev = some (.rt o, ev1) := by
  unfold sRt
  rw [h]
  rfl
end
end Kv
namespace Kv
open PySem PySem.Spec PyProof.Rows L2
theorem ifx {c : Ev → Option Bool} {a : MF} {ev : Ev} (h : c ev = some false) : sIf (lft c) a sNx ev = some (.nx, ev) := by
  rw [if_f h]
  rfl
theorem forM_nx {tf : TF} {mb : MF} {d : D} {ds : List D} {ev e1 ev2 : Ev} (h1 : tf d ev = some e1) (h2 : mb e1 = some (.nx, ev2)) : forM tf mb (d :: ds) ev = forM tf mb ds ev2 := by
  rw [forM, h1, Option.bind_some, h2, Option.bind_some]
theorem lft_o {α : Type} {f : Ev → Option α} {ev : Ev} {o : α} (h : f ev = some o) : lft f ev = some (o, ev) := by
  unfold lft
  rw [h]
  rfl
theorem sPar_of {i j : Nat} {ma mb : M O} {ev ev1 ev2 : Ev} {a b : O} (h : ma ev = some (a, ev1)) (h' : mb ev1 = some (b, ev2)) (hi : i < ev2.length) (hj : j < ev2.length) : sPar i j ma mb ev = some (.nx, (ev2.set i (some a)).set j (some b)) := by
  unfold sPar
  rw [h, Option.bind_some]
  dsimp only
  rw [h', Option.bind_some]
  dsimp only
  rw [if_pos ⟨hi, hj⟩]
end Kv
namespace Kv
open PySem PySem.Spec PyProof.Rows L2
end Kv
namespace Kv
open PySem PySem.Spec PyProof.Rows L2
end Kv
namespace Kv
open PySem PySem.Spec PyProof.Rows L2
abbrev Tie : Type := List Nat × List (List Nat)
abbrev Dom : Type := List (List Nat)
def dm (L : Dom) (v : Nat) : List Nat := L.getD v []
def fitAt (L : Dom) (vs r : List Nat) (i : Nat) : Bool := decide (r.getD i 0 ∈ dm L (vs.getD i 0)) && decide (r.getD (vs.idxOf (vs.getD i 0)) 0 = r.getD i 0)
def fitsB (L : Dom) (vs r : List Nat) : Bool := (List.range vs.length).all (fitAt L vs r)
def AC (L : Dom) (t : Tie) : Prop := ∀ i, i < t.1.length → ∀ c ∈ dm L (t.1.getD i 0), ∃ r ∈ t.2, fitsB L t.1 r = true ∧ r.getD i 0 = c
def size (L : Dom) : Nat := (L.map List.length).sum
end Kv
namespace Kv
open PySem PySem.Spec PyProof.Rows L2
end Kv
namespace Kv
open PySem PySem.Spec PyProof.Rows L2
end Kv
namespace Kv
open PySem PySem.Spec PyProof.Rows L2
end Kv
namespace Kv
open PySem PySem.Spec PyProof.Rows L2
end Kv
namespace Kv
open PySem PySem.Spec PyProof.Rows L2
def Spr (o : O) : Prop := ∃ a b c : Int, o = .lst [.int a, .int b, .int c] ∧ 0 ≤ a ∧ 0 ≤ b ∧ b < 2147483647 ∧ 0 ≤ c
theorem draw_ok {o : O} {n : Int} (h : Spr o) (h1 : 1 ≤ n) (h2 : n < 1073741824) : ∃ (d : Int) (o' : O), g__law_draw [o, .imm (.int n)] = some (.imm (.int d), [some o', none]) ∧ Spr o' ∧ 0 ≤ d ∧ d < n := by
  obtain ⟨a, b, c, rfl, ha, hb, hb2, hc⟩ := h
  have m1 := Int.emod_nonneg (b * 69621 + 40503 * (c + 1) + 1) (show (2147483647 : Int) ≠ 0 by decide)
  have m2 := Int.emod_lt_of_pos (b * 69621 + 40503 * (c + 1) + 1) (show (0 : Int) < 2147483647 by decide)
  by_cases hp : 0 < a
  · refine ⟨a % n, .lst [.int (a / n), .int ((b * 69621 + 40503 * (c + 1) + 1) % 2147483647), .int (c + 1)], ?_, ⟨_, _, _, rfl, Int.ediv_nonneg ha (by omega), m1, m2, by omega⟩, Int.emod_nonneg _ (by omega), Int.emod_lt_of_pos _ (by omega)⟩
    simp [g__law_draw, m__law_draw, hp, h2, show (0 : Int) < n by omega, runF, rstr_0, rstr_n, sSq, sAs, sEx, sRt, sRtN, sNx, sIf, sTg, sPar, sSub, sTup, sCons, sNil, sSet, lft, fz, fo, mz, mo, cl, clM, it, itM, rg, rgM, tr, trM, cu, cuM, cu0, cuK, kwc, isI, pI, lr1, tbO, M.map, M.bind, M.opt, f2, m2, f3, ft, mt, fnot, fand, for_, fbl, fif, mif, fcons, fnil, mcons, kk, vr, vb, gt, gl, O.l?, O.im, O.vw, O.tb, D.tb, D.tru, frz, putL, mSl, mTake, mFrz, mApp, mPopAt, ap, fFr, perm, gAdd, gAddI, gAddS, gAddL, gAddT, gSub, gMul, gMulI, gRepL, gMod, gFdiv, gPow, gLt, gLe, gGt, gGe, gIx, gIxL, gIxT, gIxS, gInt, gIntI, gIntS, gLst, gTup, gLen, gDivmod, gAbs, gMin2, gMax2, atI, ixN, gListA, gList, gTuple, D.items, gRng1, gRng2, gIsi, D.tyN, isi, wipeE, sFz, fSl, D.i?, gSl, D.tb]
  · have e2 : -18446744073709551616 < (b * 69621 + 40503 * (c + 1) + 1) % 2147483647 := by omega
    have e3 : (b * 69621 + 40503 * (c + 1) + 1) % 2147483647 < 18446744073709551616 := by omega
    refine ⟨((((b * 69621 + 40503 * (c + 1) + 1) % 2147483647 + 12345) * ((b * 69621 + 40503 * (c + 1) + 1) % 2147483647) + (c + 1)) % 2147483629 / 256) % n, .lst [.int a, .int ((b * 69621 + 40503 * (c + 1) + 1) % 2147483647), .int (c + 1)], ?_, ⟨_, _, _, rfl, ha, m1, m2, by omega⟩, Int.emod_nonneg _ (by omega), Int.emod_lt_of_pos _ (by omega)⟩
    simp [g__law_draw, m__law_draw, hp, e2, e3, h2, show (0 : Int) < n by omega, runF, rstr_0, rstr_n, sSq, sAs, sEx, sRt, sRtN, sNx, sIf, sTg, sPar, sSub, sTup, sCons, sNil, sSet, lft, fz, fo, mz, mo, cl, clM, it, itM, rg, rgM, tr, trM, cu, cuM, cu0, cuK, kwc, isI, pI, lr1, tbO, M.map, M.bind, M.opt, f2, m2, f3, ft, mt, fnot, fand, for_, fbl, fif, mif, fcons, fnil, mcons, kk, vr, vb, gt, gl, O.l?, O.im, O.vw, O.tb, D.tb, D.tru, frz, putL, mSl, mTake, mFrz, mApp, mPopAt, ap, fFr, perm, gAdd, gAddI, gAddS, gAddL, gAddT, gSub, gMul, gMulI, gRepL, gMod, gFdiv, gPow, gLt, gLe, gGt, gGe, gIx, gIxL, gIxT, gIxS, gInt, gIntI, gIntS, gLst, gTup, gLen, gDivmod, gAbs, gMin2, gMax2, atI, ixN, gListA, gList, gTuple, D.items, gRng1, gRng2, gIsi, D.tyN, isi, wipeE, sFz, fSl, D.i?, gSl, D.tb]
def springB : MF := sAs 3 (lft (fo (fz (f2 gMod (fz (cl gInt (fcons (fz (f2 gAdd (fz (f2 gAdd (fz (f2 gMul (vr 3) (kk (.int 48271)))) (fz (cl gInt (fcons (vr 4) fnil))))) (fz (f2 gMul (kk (.int 11)) (vr 1))))) fnil))) (kk (.int 2147483647))))))
theorem spring_loop (A C : D) (k : Int) : ∀ (zs : List Int) (m : Int) (x : Option O), zs ≠ [] → ∃ (m' : Int) (x' : Option O), forM (sSet 4) springB (zs.map D.int) [some (.imm A), some (.imm (.int k)), some (.imm C), some (.imm (.int m)), x] = some (.nx, [some (.imm A), some (.imm (.int k)), some (.imm C), some (.imm (.int m')), x']) ∧ 0 ≤ m' ∧ m' < 2147483647
  | [], _, _, h => absurd rfl h
  | z :: zs, m, x, _ => by
    have m1 := Int.emod_nonneg (m * 48271 + z + 11 * k) (show (2147483647 : Int) ≠ 0 by decide)
    have m2 := Int.emod_lt_of_pos (m * 48271 + z + 11 * k) (show (0 : Int) < 2147483647 by decide)
    have st : forM (sSet 4) springB ((z :: zs).map D.int) [some (.imm A), some (.imm (.int k)), some (.imm C), some (.imm (.int m)), x] = forM (sSet 4) springB (zs.map D.int) [some (.imm A), some (.imm (.int k)), some (.imm C), some (.imm (.int ((m * 48271 + z + 11 * k) % 2147483647))), some (.imm (.int z))] := by
      rw [List.map_cons]
      simp [forM, springB, runF, rstr_0, rstr_n, sSq, sAs, sEx, sRt, sRtN, sNx, sIf, sTg, sPar, sSub, sTup, sCons, sNil, sSet, lft, fz, fo, mz, mo, cl, clM, it, itM, rg, rgM, tr, trM, cu, cuM, cu0, cuK, kwc, isI, pI, lr1, tbO, M.map, M.bind, M.opt, f2, m2, f3, ft, mt, fnot, fand, for_, fbl, fif, mif, fcons, fnil, mcons, kk, vr, vb, gt, gl, O.l?, O.im, O.vw, O.tb, D.tb, D.tru, frz, putL, mSl, mTake, mFrz, mApp, mPopAt, ap, fFr, perm, gAdd, gAddI, gAddS, gAddL, gAddT, gSub, gMul, gMulI, gRepL, gMod, gFdiv, gPow, gLt, gLe, gGt, gGe, gIx, gIxL, gIxT, gIxS, gInt, gIntI, gIntS, gLst, gTup, gLen, gDivmod, gAbs, gMin2, gMax2, atI, ixN, gListA, gList, gTuple, D.items, gRng1, gRng2, gIsi, D.tyN, isi, wipeE, sFz, fSl, D.i?, gSl, D.tb]
    rw [st]
    by_cases hz : zs = []
    · subst hz
      exact ⟨_, _, rfl, m1, m2⟩
    · exact spring_loop A C k zs _ _ hz
theorem spring_ok (ns : List Int) (hl : ns.length ≤ 63) (k : Nat) : ∃ o, g__law_spring [.imm (.frl (ns.map D.int)), .imm (.int k)] = some (o, [none, none]) ∧ Spr o := by
  have cell : ∃ c : Int, (sAs 2 (lft (fo (fz (fif (ft (f2 gLt (vr 1) (fz (cl gLen (fcons (vr 0) fnil))))) (f2 gIx (vr 0) (vr 1)) (f2 gAdd (fz (f2 gMul (kk (.int 7)) (vr 1))) (kk (.int 2)))))))) [some (.imm (.frl (ns.map D.int))), some (.imm (.int k)), none, none, none] = some (.nx, [some (.imm (.frl (ns.map D.int))), some (.imm (.int k)), some (.imm (.int c)), none, none]) := by
    by_cases hk : k < ns.length
    · refine ⟨ns[k], ?_⟩
      simp [hk, runF, rstr_0, rstr_n, sSq, sAs, sEx, sRt, sRtN, sNx, sIf, sTg, sPar, sSub, sTup, sCons, sNil, sSet, lft, fz, fo, mz, mo, cl, clM, it, itM, rg, rgM, tr, trM, cu, cuM, cu0, cuK, kwc, isI, pI, lr1, tbO, M.map, M.bind, M.opt, f2, m2, f3, ft, mt, fnot, fand, for_, fbl, fif, mif, fcons, fnil, mcons, kk, vr, vb, gt, gl, O.l?, O.im, O.vw, O.tb, D.tb, D.tru, frz, putL, mSl, mTake, mFrz, mApp, mPopAt, ap, fFr, perm, gAdd, gAddI, gAddS, gAddL, gAddT, gSub, gMul, gMulI, gRepL, gMod, gFdiv, gPow, gLt, gLe, gGt, gGe, gIx, gIxL, gIxT, gIxS, gInt, gIntI, gIntS, gLst, gTup, gLen, gDivmod, gAbs, gMin2, gMax2, atI, ixN, gListA, gList, gTuple, D.items, gRng1, gRng2, gIsi, D.tyN, isi, wipeE, sFz, fSl, D.i?, gSl, D.tb]
    · refine ⟨7 * k + 2, ?_⟩
      simp [hk, runF, rstr_0, rstr_n, sSq, sAs, sEx, sRt, sRtN, sNx, sIf, sTg, sPar, sSub, sTup, sCons, sNil, sSet, lft, fz, fo, mz, mo, cl, clM, it, itM, rg, rgM, tr, trM, cu, cuM, cu0, cuK, kwc, isI, pI, lr1, tbO, M.map, M.bind, M.opt, f2, m2, f3, ft, mt, fnot, fand, for_, fbl, fif, mif, fcons, fnil, mcons, kk, vr, vb, gt, gl, O.l?, O.im, O.vw, O.tb, D.tb, D.tru, frz, putL, mSl, mTake, mFrz, mApp, mPopAt, ap, fFr, perm, gAdd, gAddI, gAddS, gAddL, gAddT, gSub, gMul, gMulI, gRepL, gMod, gFdiv, gPow, gLt, gLe, gGt, gGe, gIx, gIxL, gIxT, gIxS, gInt, gIntI, gIntS, gLst, gTup, gLen, gDivmod, gAbs, gMin2, gMax2, atI, ixN, gListA, gList, gTuple, D.items, gRng1, gRng2, gIsi, D.tyN, isi, wipeE, sFz, fSl, D.i?, gSl, D.tb]
  obtain ⟨c, e1⟩ := cell
  have hz : (cutG ns none (some 8)).length + 1 ≤ 16777216 := by
    have := cut_len (xs := ns) (lo := none) (hi := some 8)
    omega
  obtain ⟨m', x', e3, b1, b2⟩ := spring_loop (.frl (ns.map D.int)) (.int c) k (cutG ns none (some 8) ++ [c]) (90001 + 7919 * k) none (by simp)
  refine ⟨.lst [.int (if c < 0 ∨ 10 ^ 18 ≤ c then (if c < 0 then -c else c) else 0), .int m', .int 0], ?_, _, _, _, rfl, ?_, b1, b2, by decide⟩
  · unfold g__law_spring
    refine (run_rt (n := 2) rfl (o := .lst [.int (if c < 0 ∨ 10 ^ 18 ≤ c then (if c < 0 then -c else c) else 0), .int m', .int 0]) (ev1 := [some (.imm (.frl (ns.map D.int))), some (.imm (.int k)), some (.imm (.int c)), some (.imm (.int m')), x']) ?_).trans (by rw [rstr_n]; rfl)
    · unfold m__law_spring
      show sSq _ _ [some (.imm (.frl (ns.map D.int))), some (.imm (.int k)), none, none, none] = _
      rw [sq_nx e1, sq_nx (ev1 := [some (.imm (.frl (ns.map D.int))), some (.imm (.int k)), some (.imm (.int c)), some (.imm (.int (90001 + 7919 * k))), none]) (by simp [runF, rstr_0, rstr_n, sSq, sAs, sEx, sRt, sRtN, sNx, sIf, sTg, sPar, sSub, sTup, sCons, sNil, sSet, lft, fz, fo, mz, mo, cl, clM, it, itM, rg, rgM, tr, trM, cu, cuM, cu0, cuK, kwc, isI, pI, lr1, tbO, M.map, M.bind, M.opt, f2, m2, f3, ft, mt, fnot, fand, for_, fbl, fif, mif, fcons, fnil, mcons, kk, vr, vb, gt, gl, O.l?, O.im, O.vw, O.tb, D.tb, D.tru, frz, putL, mSl, mTake, mFrz, mApp, mPopAt, ap, fFr, perm, gAdd, gAddI, gAddS, gAddL, gAddT, gSub, gMul, gMulI, gRepL, gMod, gFdiv, gPow, gLt, gLe, gGt, gGe, gIx, gIxL, gIxT, gIxS, gInt, gIntI, gIntS, gLst, gTup, gLen, gDivmod, gAbs, gMin2, gMax2, atI, ixN, gListA, gList, gTuple, D.items, gRng1, gRng2, gIsi, D.tyN, isi, wipeE, sFz, fSl, D.i?, gSl, D.tb]), sq_nx (ev1 := [some (.imm (.frl (ns.map D.int))), some (.imm (.int k)), some (.imm (.int c)), some (.imm (.int m')), x']) ?_]
      · by_cases h1 : c < 0
        · simp [h1, sz_line, runF, rstr_0, rstr_n, sSq, sAs, sEx, sRt, sRtN, sNx, sIf, sTg, sPar, sSub, sTup, sCons, sNil, sSet, lft, fz, fo, mz, mo, cl, clM, it, itM, rg, rgM, tr, trM, cu, cuM, cu0, cuK, kwc, isI, pI, lr1, tbO, M.map, M.bind, M.opt, f2, m2, f3, ft, mt, fnot, fand, for_, fbl, fif, mif, fcons, fnil, mcons, kk, vr, vb, gt, gl, O.l?, O.im, O.vw, O.tb, D.tb, D.tru, frz, putL, mSl, mTake, mFrz, mApp, mPopAt, ap, fFr, perm, gAdd, gAddI, gAddS, gAddL, gAddT, gSub, gMul, gMulI, gRepL, gMod, gFdiv, gPow, gLt, gLe, gGt, gGe, gIx, gIxL, gIxT, gIxS, gInt, gIntI, gIntS, gLst, gTup, gLen, gDivmod, gAbs, gMin2, gMax2, atI, ixN, gListA, gList, gTuple, D.items, gRng1, gRng2, gIsi, D.tyN, isi, wipeE, sFz, fSl, D.i?, gSl, D.tb]
        · by_cases h2 : 1000000000000000000 ≤ c
          · simp [h1, h2, sz_line, runF, rstr_0, rstr_n, sSq, sAs, sEx, sRt, sRtN, sNx, sIf, sTg, sPar, sSub, sTup, sCons, sNil, sSet, lft, fz, fo, mz, mo, cl, clM, it, itM, rg, rgM, tr, trM, cu, cuM, cu0, cuK, kwc, isI, pI, lr1, tbO, M.map, M.bind, M.opt, f2, m2, f3, ft, mt, fnot, fand, for_, fbl, fif, mif, fcons, fnil, mcons, kk, vr, vb, gt, gl, O.l?, O.im, O.vw, O.tb, D.tb, D.tru, frz, putL, mSl, mTake, mFrz, mApp, mPopAt, ap, fFr, perm, gAdd, gAddI, gAddS, gAddL, gAddT, gSub, gMul, gMulI, gRepL, gMod, gFdiv, gPow, gLt, gLe, gGt, gGe, gIx, gIxL, gIxT, gIxS, gInt, gIntI, gIntS, gLst, gTup, gLen, gDivmod, gAbs, gMin2, gMax2, atI, ixN, gListA, gList, gTuple, D.items, gRng1, gRng2, gIsi, D.tyN, isi, wipeE, sFz, fSl, D.i?, gSl, D.tb]
          · simp [h1, h2, sz_line, runF, rstr_0, rstr_n, sSq, sAs, sEx, sRt, sRtN, sNx, sIf, sTg, sPar, sSub, sTup, sCons, sNil, sSet, lft, fz, fo, mz, mo, cl, clM, it, itM, rg, rgM, tr, trM, cu, cuM, cu0, cuK, kwc, isI, pI, lr1, tbO, M.map, M.bind, M.opt, f2, m2, f3, ft, mt, fnot, fand, for_, fbl, fif, mif, fcons, fnil, mcons, kk, vr, vb, gt, gl, O.l?, O.im, O.vw, O.tb, D.tb, D.tru, frz, putL, mSl, mTake, mFrz, mApp, mPopAt, ap, fFr, perm, gAdd, gAddI, gAddS, gAddL, gAddT, gSub, gMul, gMulI, gRepL, gMod, gFdiv, gPow, gLt, gLe, gGt, gGe, gIx, gIxL, gIxT, gIxS, gInt, gIntI, gIntS, gLst, gTup, gLen, gDivmod, gAbs, gMin2, gMax2, atI, ixN, gListA, gList, gTuple, D.items, gRng1, gRng2, gIsi, D.tyN, isi, wipeE, sFz, fSl, D.i?, gSl, D.tb]
      · rw [for_go (ds := (cutG ns none (some 8) ++ [c]).map D.int) (ev1 := [some (.imm (.frl (ns.map D.int))), some (.imm (.int k)), some (.imm (.int c)), some (.imm (.int (90001 + 7919 * k))), none]) ?_]
        · exact e3
        · simp [cut_map, hz, sz_line, runF, rstr_0, rstr_n, sSq, sAs, sEx, sRt, sRtN, sNx, sIf, sTg, sPar, sSub, sTup, sCons, sNil, sSet, lft, fz, fo, mz, mo, cl, clM, it, itM, rg, rgM, tr, trM, cu, cuM, cu0, cuK, kwc, isI, pI, lr1, tbO, M.map, M.bind, M.opt, f2, m2, f3, ft, mt, fnot, fand, for_, fbl, fif, mif, fcons, fnil, mcons, kk, vr, vb, gt, gl, O.l?, O.im, O.vw, O.tb, D.tb, D.tru, frz, putL, mSl, mTake, mFrz, mApp, mPopAt, ap, fFr, perm, gAdd, gAddI, gAddS, gAddL, gAddT, gSub, gMul, gMulI, gRepL, gMod, gFdiv, gPow, gLt, gLe, gGt, gGe, gIx, gIxL, gIxT, gIxS, gInt, gIntI, gIntS, gLst, gTup, gLen, gDivmod, gAbs, gMin2, gMax2, atI, ixN, gListA, gList, gTuple, D.items, gRng1, gRng2, gIsi, D.tyN, isi, wipeE, sFz, fSl, D.i?, gSl, D.tb]
  · split <;> (try split) <;> omega
end Kv
namespace Kv
open PySem PySem.Spec PyProof.Rows L2
theorem of_ok {o : O} {ds : List D} (h : Spr o) (h0 : ds ≠ []) (hl : ds.length < 1000000) : ∃ (d : D) (o' : O), d ∈ ds ∧ Spr o' ∧ g__law_of [o, .imm (.lst ds)] = some (.imm d, [some o', none]) := by
  have hp : 0 < ds.length := List.length_pos_iff.mpr h0
  obtain ⟨d, o', e, s, d0, d1⟩ := draw_ok (n := ds.length) h (by omega) (by omega)
  have hd : d.toNat < ds.length := by omega
  refine ⟨ds[d.toNat], o', List.getElem_mem hd, s, ?_⟩
  simp [g__law_of, m__law_of, e, d0, d1, hd, runF, rstr_0, rstr_n, sSq, sAs, sEx, sRt, sRtN, sNx, sIf, sTg, sPar, sSub, sTup, sCons, sNil, sSet, lft, fz, fo, mz, mo, cl, clM, it, itM, rg, rgM, tr, trM, cu, cuM, cu0, cuK, kwc, isI, pI, lr1, tbO, M.map, M.bind, M.opt, f2, m2, f3, ft, mt, fnot, fand, for_, fbl, fif, mif, fcons, fnil, mcons, kk, vr, vb, gt, gl, O.l?, O.im, O.vw, O.tb, D.tb, D.tru, frz, putL, mSl, mTake, mFrz, mApp, mPopAt, ap, fFr, perm, gAdd, gAddI, gAddS, gAddL, gAddT, gSub, gMul, gMulI, gRepL, gMod, gFdiv, gPow, gLt, gLe, gGt, gGe, gIx, gIxL, gIxT, gIxS, gInt, gIntI, gIntS, gLst, gTup, gLen, gDivmod, gAbs, gMin2, gMax2, atI, ixN, gListA, gList, gTuple, D.items, gRng1, gRng2, gIsi, D.tyN, isi, wipeE, sFz, fSl, D.i?, gSl, D.tb]
end Kv
namespace Kv
open PySem PySem.Spec PyProof.Rows L2
end Kv
namespace Kv
open PySem PySem.Spec PyProof.Rows L2
abbrev Sh : Type := List Nat × List (List Nat)
section
variable {m : Nat} {s : Sh}
end
end Kv
namespace Kv
open PySem PySem.Spec PyProof.Rows L2
section
variable {m : Nat} {s : Sh}
end
end Kv
namespace Kv
open PySem PySem.Spec PyProof.Rows L2
section
variable {m : Nat} {S : List Sh}
end
end Kv
namespace Kv
open PySem PySem.Spec PyProof.Rows L2
end Kv
namespace Kv
open PySem PySem.Spec PyProof.Rows L2
end Kv
namespace Kv
open PySem PySem.Spec PyProof.Rows L2
section
variable {L : Dom} {vs r : List Nat}
end
end Kv
namespace Kv
open PySem PySem.Spec PyProof.Rows L2
section
variable {S : D} {L : Dom} {w : List Nat} {rows : List (List Nat)} {x3 x9 : Option O} {A B : D} {i v : Nat}
end
end Kv
namespace Kv
open PySem PySem.Spec PyProof.Rows L2
section
variable {S A B : D} {L : Dom} {w : List Nat} {x3 x4 x7 x8 x9 : Option O} {vs : List Nat}
end
end Kv
namespace Kv
open PySem PySem.Spec PyProof.Rows L2
section
variable {m cnt K : Nat} {Ts : List Tie} {near : List (List Nat)} {L : Dom} {x2 x3 x4 x5 x6 x7 : Option O}
end
end Kv
namespace Kv
open PySem PySem.Spec PyProof.Rows L2
section
variable {m cnt : Nat} {Ts : List Tie} {N : List (List Nat)} {x1 x2 x3 x5 x6 x7 x8 : Option O}
end
end Kv
namespace Kv
open PySem PySem.Spec PyProof.Rows L2
section
variable {m cnt : Nat} {Ts : List Tie}
end
section
variable {m cnt : Nat} {Ts : List Tie} {A B C : Option O} {s r : List Nat}
end
end Kv
namespace Kv
open PySem PySem.Spec PyProof.Rows L2
structure Say where
  n : Nat
  ts : List (List Nat × List Nat)
  sh : List Nat
section
variable {m : Nat} {S : List Sh}
end
end Kv
namespace Kv
open PySem PySem.Spec PyProof.Rows L2
section
variable {m : Nat} {S : List Sh} {x : Say}
end
end Kv
namespace Kv
open PySem PySem.Spec PyProof.Rows L2
section
variable {m : Nat} {S : List Sh} {x : Say}
end
end Kv
namespace Kv
open PySem PySem.Spec PyProof.Rows L2
section
variable {m : Nat} {S : List Sh} {x : Say}
end
end Kv
namespace Kv
open PySem PySem.Spec PyProof.Rows L2
section
variable {m : Nat} {S : List Sh} {x : Say} {R : D} {w : List (List Nat)} {F : List (List Nat)} {x3 x7 x8 x9 : Option O}
end
end Kv
namespace Kv
open PySem PySem.Spec PyProof.Rows L2
section
variable {m : Nat} {S : List Sh} {x : Say}
end
end Kv
namespace Kv
open PySem PySem.Spec PyProof.Rows L2
section
variable {m : Nat} {S : List Sh} {A x2 x3 x5 x6 x7 : Option O} {n : Nat}
end
end Kv
namespace Kv
open PySem PySem.Spec PyProof.Rows L2
end Kv
namespace Kv
open PySem PySem.Spec PyProof.Rows L2
section
variable {m c w : Nat} {t : List Nat} {zs : List (List Nat)}
end
end Kv
namespace Kv
open PySem PySem.Spec PyProof.Rows L2
section
variable {m c w : Nat} {t : List Nat} {zs : List (List Nat)} {R : D}
end
section
variable {m c w : Nat} {t : List Nat} {zs : List (List Nat)}
end
end Kv
namespace Kv
open PySem PySem.Spec PyProof.Rows L2
section
variable {m c w : Nat} {t : List Nat} {zs : List (List Nat)}
end
end Kv
namespace Kv
open PySem PySem.Spec PyProof.Rows L2
section
variable {m c : Nat} {t : List Nat}
end
end Kv
namespace Kv
open PySem PySem.Spec PyProof.Rows L2
section
variable {m c : Nat} {t : List Nat}
end
end Kv
namespace Kv
open PySem PySem.Spec PyProof.Rows L2
end Kv
namespace Kv
open PySem PySem.Spec PyProof.Rows L2
theorem law_last {ns : List Int} (hl : ns.length ≤ 63) {g : Fm} (hr : ∀ {o : O}, Spr o → ∃ evr, g [o] = some (.imm (.bl true), evr)) {ev : Ev} {j : Nat} {c : Int} (h0 : ev[0]? = some (some (.imm (.frl (ns.map D.int))))) (hj : j < ev.length) (hj0 : j ≠ 0) (hc : 0 ≤ c ∧ c ≤ 100) :
    cl gAll (fcons (fz (fLc (rg gRng1 (fcons (fz (cl gMax2 (fcons (kk (.int 2)) (fcons (fz (cl gMin2 (fcons (fz (cl gLen (fcons (vr 0) fnil))) (fcons (kk (.int c)) fnil)))) fnil)))) fnil)) (sSet j) (kk true) (fz (fFr (cu 2 g__law_spring (fcons (vr 0) (fcons (vr j) fnil))) fnil 1 g)) [j])) fnil) ev = some (.imm (.bl true)) := by
  have hv : ∀ ev' : Ev, ev'[0]? = some (some (.imm (.frl (ns.map D.int)))) → vr 0 ev' = some (.frl (ns.map D.int)) := fun ev' h => vr_of h
  have hn : ∃ n : Nat, rg gRng1 (fcons (fz (cl gMax2 (fcons (kk (.int 2)) (fcons (fz (cl gMin2 (fcons (fz (cl gLen (fcons (vr 0) fnil))) (fcons (kk (.int c)) fnil)))) fnil)))) fnil) ev = some (upTo 0 n) ∧ n ≤ 5000 := by
    have key : ∀ (L : Int), 0 ≤ L → gRng1 [.int (if (if c < L then c else L) > 2 then (if c < L then c else L) else 2)] = some (upTo 0 (if (if c < L then c else L) > 2 then (if c < L then c else L) else 2).toNat) ∧ (if (if c < L then c else L) > 2 then (if c < L then c else L) else 2).toNat ≤ 5000 := fun L h0 => by
      have : ∃ m : Int, (if (if c < L then c else L) > 2 then (if c < L then c else L) else 2) = m ∧ 0 ≤ m ∧ m ≤ 100 := by
        refine ⟨_, rfl, ?_, ?_⟩ <;> (split <;> (try split) <;> omega)
      obtain ⟨m, e, m0, m5⟩ := this
      rw [e]
      exact ⟨rng_of (by omega) (by omega), by omega⟩
    obtain ⟨k1, k2⟩ := key ((ns.map D.int).length : Int) (by omega)
    refine ⟨_, ?_, k2⟩
    have f1 : fz (cl gLen (fcons (vr 0) fnil)) ev = some (.int ((ns.map D.int).length : Int)) := fz_of (cl_of (ds := [.frl (ns.map D.int)]) (fc_of (hv ev h0) rfl) rfl)
    have f2 : fz (cl gMin2 (fcons (fz (cl gLen (fcons (vr 0) fnil))) (fcons (kk (.int c)) fnil))) ev = some (.int (if c < ((ns.map D.int).length : Int) then c else ((ns.map D.int).length : Int))) := fz_of (cl_of (ds := [.int ((ns.map D.int).length : Int), .int c]) (fc_of f1 rfl) rfl)
    have f3 : fz (cl gMax2 (fcons (kk (.int 2)) (fcons (fz (cl gMin2 (fcons (fz (cl gLen (fcons (vr 0) fnil))) (fcons (kk (.int c)) fnil)))) fnil))) ev = some (.int (if (if c < ((ns.map D.int).length : Int) then c else ((ns.map D.int).length : Int)) > 2 then (if c < ((ns.map D.int).length : Int) then c else ((ns.map D.int).length : Int)) else 2)) := fz_of (cl_of (ds := [.int 2, .int (if c < ((ns.map D.int).length : Int) then c else ((ns.map D.int).length : Int))]) (fc_of rfl (fc_of f2 rfl)) rfl)
    show Option.bind (fcons _ _ ev) gRng1 = _
    rw [fc_of f3 (ds := []) rfl, Option.bind_some]
    exact k1
  obtain ⟨n, e, n1⟩ := hn
  refine all_lc e (by rw [upTo_len, sz_line]; omega) fun d hd => ?_
  unfold upTo at hd
  obtain ⟨i, _, rfl⟩ := List.mem_map.mp hd
  have hwl : (wipeE ev [j]).length = ev.length := by
    show List.length (ev.set j none) = _
    rw [List.length_set]
  have hw0 : (wipeE ev [j])[0]? = some (some (.imm (.frl (ns.map D.int)))) := by
    show (ev.set j none)[0]? = _
    rw [List.getElem?_set_ne hj0]
    exact h0
  refine ⟨(wipeE ev [j]).set j (some (.imm (.int (0 + (i : Int))))), ?_, ?_⟩
  · unfold sSet
    rw [if_pos (by rw [hwl]; exact hj)]
  obtain ⟨o, e1, s1⟩ := spring_ok ns hl i
  obtain ⟨evr, e2⟩ := hr s1
  have v0 : vr 0 ((wipeE ev [j]).set j (some (.imm (.int (0 + (i : Int)))))) = some (.frl (ns.map D.int)) := vr_of (by rw [List.getElem?_set_ne hj0]; exact hw0)
  have vj : vr j ((wipeE ev [j]).set j (some (.imm (.int (0 + (i : Int)))))) = some (.int (0 + (i : Int))) := vr_of (by rw [List.getElem?_set_self (by rw [hwl]; exact hj)])
  have a : cu 2 g__law_spring (fcons (vr 0) (fcons (vr j) fnil)) ((wipeE ev [j]).set j (some (.imm (.int (0 + (i : Int)))))) = some o := cu_of (ds := [.frl (ns.map D.int), .int (0 + (i : Int))]) (fc_of v0 (fc_of vj rfl)) rfl (ap_of (by
    have z : (0 : Int) + (i : Int) = (i : Int) := by omega
    rw [z]
    exact e1))
  refine fz_of ?_
  unfold fFr
  rw [a, Option.bind_some]
  show Option.map _ (g [o]) = _
  rw [e2]
  rfl
end Kv
namespace Kv
open PySem PySem.Spec PyProof.Rows L2
section
variable {m : Nat} {S : List Sh}
end
section
variable {α : Type} {f : α → D} {xs : List α} {R : D}
end
end Kv
namespace Kv
open PySem PySem.Spec PyProof.Rows L2
section
variable {m c : Nat} {t : List Nat} {R : List (List Nat)}
end
section
variable {m c : Nat} {t : List Nat} {S : List Sh}
end
end Kv
namespace Kv
open PySem PySem.Spec PyProof.Rows L2
def oddL0 : List D := [.non, .bl true, .bl false, .int 0, .int 1, .int (-1), .int 7, .int 1000000000000000000000000000000000000000, .str [], .str [97], .str [48, 49], .str [48, 49, 50], .str [50, 50, 50, 50], .str [117, 112, 32, 48, 48, 32, 48, 49], .str [118, 97, 108, 117, 101, 115, 32, 50], .str [117, 112]]
def oddL1 : List D := [.tup [], .tup [.int 0], .tup [.int 0, .int 1], .tup [.int 1, .int 0], .tup [.int 0, .int 0], .tup [.bl true, .int 0], .tup [.str [48, 49]], .tup [.str [48, 49], .str [48]], .tup [.str [51]], .tup [.str [117, 112], .tup [.int 0, .int 1]]]
def oddL2 : List D := [.tup [.int 1, .tup [], .tup [.int 0]], .tup [.int 2, .tup [.tup [.str [117, 112], .tup [.int 0, .int 1]]], .tup [.int 0]], .lst [], .lst [.int 0], .lst [.str [120]], .dct [] [], .dct [.str [97]] [.int 0], .tup [.lst []], .tup [.non], .tup [.tup []]]
def oddL3 : List D := [.tup [.str [115, 97, 105, 100], .tup [.str [48]]], .tup [.str [97, 108, 105, 107, 101], .str [97], .str [98]], .tup [.str [97], .tup [.str [107, 101, 101, 112, 115], .str [48, 49]]], .tup [.bl true]]
abbrev oddLA : List D := ((oddL0 ++ oddL1) ++ oddL2) ++ oddL3
theorem odd_dr {o : O} (h : Spr o) : ∃ d o', d ∈ oddLA ∧ Spr o' ∧ g__law_odd [o] = some (.imm d, [some o']) := by
  obtain ⟨d, o', hd, s, e⟩ := of_ok (o := o) (ds := oddLA) h (by decide) (by decide)
  refine ⟨d, o', hd, s, ?_⟩
  refine (run_rt (n := 1) rfl (o := .imm d) (ev1 := [some o', some (.imm (.lst ((oddL0 ++ oddL1) ++ oddL2)))]) ?_).trans rfl
  show m__law_odd [some o, none] = _
  unfold m__law_odd
  rw [sq_nx (ev1 := [some o, some (.imm (.lst oddL0))]) (by kernel_rfl), sq_nx (ev1 := [some o, some (.imm (.lst (oddL0 ++ oddL1)))]) (by kernel_rfl), sq_nx (ev1 := [some o, some (.imm (.lst ((oddL0 ++ oddL1) ++ oddL2)))]) (by kernel_rfl)]
  exact sRt_of (mSl_of (o := o) (ds := [.lst oddLA]) (ev1 := [some o, some (.imm (.lst ((oddL0 ++ oddL1) ++ oddL2)))]) rfl (mcons_of (lft_o (by kernel_rfl)) rfl) rfl rfl e)
abbrev rs1 : MF := sPar 5 6 (mo (mz (mSl 0 (lft fnil) 1 g__law_odd))) (mo (mz (mSl 0 (lft fnil) 1 g__law_odd)))
abbrev rs2 : MF := sAs 1 (lft (fo (fz (cl gLst (fcons (kk (.str [73, 110, 118, 97, 108, 105, 100, 84, 101, 120, 116])) (fcons (kk (.str [73, 110, 118, 97, 108, 105, 100, 78, 117, 109, 98, 101, 114])) (fcons (kk (.str [73, 110, 118, 97, 108, 105, 100, 82, 101, 108, 97, 116, 105, 111, 110])) (fcons (kk (.str [73, 110, 118, 97, 108, 105, 100, 84, 97, 98, 108, 101])) (fcons (kk (.str [73, 110, 118, 97, 108, 105, 100, 83, 97, 121, 105, 110, 103])) (fcons (kk (.str [73, 110, 118, 97, 108, 105, 100, 82, 111, 119])) fnil))))))))))
abbrev rs3 : MF := sAs 1 (lft (fo (fz (f2 gAdd (vr 1) (fz (cl gLst (fcons (kk (.str [73, 110, 118, 97, 108, 105, 100, 83, 104, 111, 119, 110])) (fcons (kk (.str [73, 110, 118, 97, 108, 105, 100, 79, 114, 100, 101, 114])) (fcons (kk (.str [73, 110, 118, 97, 108, 105, 100, 84, 105, 101])) (fcons (kk (.str [73, 110, 118, 97, 108, 105, 100, 78, 97, 109, 101])) (fcons (kk (.str [73, 110, 118, 97, 108, 105, 100, 87, 105, 115, 104])) (fcons (kk (.str [78, 111, 116, 65, 66, 111, 111, 107])) fnil))))))))))))
abbrev rs4 : MF := sAs 1 (lft (fo (fz (f2 gAdd (vr 1) (fz (cl gLst (fcons (kk (.str [73, 110, 118, 97, 108, 105, 100, 82, 111, 119, 115])) (fcons (kk (.str [73, 110, 118, 97, 108, 105, 100, 69, 120, 99, 104, 97, 110, 103, 101, 115])) (fcons (kk (.str [73, 110, 118, 97, 108, 105, 100, 87, 105, 115, 104, 101, 115])) (fcons (kk (.str [85, 110, 107, 110, 111, 119, 110, 78, 97, 109, 101])) (fcons (kk (.str [73, 110, 85, 115, 101])) (fcons (kk (.str [84, 111, 111, 77, 97, 110, 121])) fnil))))))))))))
abbrev rs5 : MF := sAs 2 (lft (fo (fz (cu 1 g__law_errors (fcons (vr 5) fnil)))))
abbrev rs6 : MF := sFor (lft (rg gRng1 (fcons (fz (cl gLen (fcons (vr 2) fnil))) fnil))) (sSet 3) lb__law_right_1
abbrev rs7 : MF := sAs 4 (lft (fo (fz (cl gLst (fcons (exP2 "Broken" (fcons (vr 5) (fcons (vr 6) fnil))) (fcons (exK2 "Broken" (kwc (vr 6) (kwc (vr 5) (kk [])))) fnil))))))
abbrev rs8 : MF := sIf (lft (ft (f2 gNe (fz (fLc (it (vr 4)) (sSet 8) (kk true) (fz (cu 1 g__law_error (fcons (vr 8) fnil))) [8])) (fz (cl gLst (fcons (kk (.str [66, 114, 111, 107, 101, 110])) (fcons (kk (.str [66, 114, 111, 107, 101, 110])) fnil))))))) (sRt (lft (fo (kk (.bl false))))) sNx
abbrev rs9 : MF := sIf (lft (ft (f2 gNe (fz (cl gReprBG (fcons (fz (fLc (it (vr 4)) (sSet 8) (kk true) (fz (cu 2 g__law_field (fcons (vr 8) (fcons (kk (.str [66, 114, 111, 107, 101, 110])) fnil)))) [8])) fnil))) (fz (cl gReprBG (fcons (fz (cl gLst (fcons (fz (cl gLst (fcons (vr 5) (fcons (vr 6) fnil)))) (fcons (fz (cl gLst (fcons (vr 5) (fcons (vr 6) fnil)))) fnil)))) fnil)))))) (sRt (lft (fo (kk (.bl false))))) sNx
abbrev rs10 : MF := sRt (lft (f2 gEq (fz (cu 1 g__law_error (fcons (fun _ => some (.exo "NothingToUndo" [] [])) fnil))) (kk (.str [78, 111, 116, 104, 105, 110, 103, 84, 111, 85, 110, 100, 111]))))
theorem rs_eq : m__law_right = sSq rs1 (sSq rs2 (sSq rs3 (sSq rs4 (sSq rs5 (sSq rs6 (sSq rs7 (sSq rs8 (sSq rs9 rs10)))))))) := rfl
def wrdD : D := .lst [.str [73, 110, 118, 97, 108, 105, 100, 84, 101, 120, 116], .str [73, 110, 118, 97, 108, 105, 100, 78, 117, 109, 98, 101, 114], .str [73, 110, 118, 97, 108, 105, 100, 82, 101, 108, 97, 116, 105, 111, 110], .str [73, 110, 118, 97, 108, 105, 100, 84, 97, 98, 108, 101], .str [73, 110, 118, 97, 108, 105, 100, 83, 97, 121, 105, 110, 103], .str [73, 110, 118, 97, 108, 105, 100, 82, 111, 119], .str [73, 110, 118, 97, 108, 105, 100, 83, 104, 111, 119, 110], .str [73, 110, 118, 97, 108, 105, 100, 79, 114, 100, 101, 114], .str [73, 110, 118, 97, 108, 105, 100, 84, 105, 101], .str [73, 110, 118, 97, 108, 105, 100, 78, 97, 109, 101], .str [73, 110, 118, 97, 108, 105, 100, 87, 105, 115, 104], .str [78, 111, 116, 65, 66, 111, 111, 107], .str [73, 110, 118, 97, 108, 105, 100, 82, 111, 119, 115], .str [73, 110, 118, 97, 108, 105, 100, 69, 120, 99, 104, 97, 110, 103, 101, 115], .str [73, 110, 118, 97, 108, 105, 100, 87, 105, 115, 104, 101, 115], .str [85, 110, 107, 110, 111, 119, 110, 78, 97, 109, 101], .str [73, 110, 85, 115, 101], .str [84, 111, 111, 77, 97, 110, 121]]
def errD (d : D) : List D := [.exo "InvalidText" ["given"] [d], .exo "InvalidText" ["given"] [d], .exo "InvalidNumber" ["given"] [d], .exo "InvalidNumber" ["given"] [d], .exo "InvalidRelation" ["given"] [d], .exo "InvalidRelation" ["given"] [d], .exo "InvalidTable" ["given"] [d], .exo "InvalidTable" ["given"] [d], .exo "InvalidSaying" ["given"] [d], .exo "InvalidSaying" ["given"] [d], .exo "InvalidRow" ["given"] [d], .exo "InvalidRow" ["given"] [d], .exo "InvalidShown" ["given"] [d], .exo "InvalidShown" ["given"] [d], .exo "InvalidOrder" ["given"] [d], .exo "InvalidOrder" ["given"] [d], .exo "InvalidTie" ["given"] [d], .exo "InvalidTie" ["given"] [d], .exo "InvalidName" ["given"] [d], .exo "InvalidName" ["given"] [d], .exo "InvalidWish" ["given"] [d], .exo "InvalidWish" ["given"] [d], .exo "NotABook" ["given"] [d], .exo "NotABook" ["given"] [d], .exo "InvalidRows" ["index"] [d], .exo "InvalidRows" ["index"] [d], .exo "InvalidExchanges" ["index"] [d], .exo "InvalidExchanges" ["index"] [d], .exo "InvalidWishes" ["index"] [d], .exo "InvalidWishes" ["index"] [d], .exo "UnknownName" ["given"] [d], .exo "UnknownName" ["given"] [d], .exo "InUse" ["index"] [d], .exo "InUse" ["index"] [d], .exo "TooMany" ["given"] [d], .exo "TooMany" ["given"] [d]]
def brkD (d u : D) : List D := [.exo "Broken" ["index", "shown"] [d, u], .exo "Broken" ["index", "shown"] [d, u]]
theorem er_InvalidText {ns : List Str} {ds : List D} : ap g__law_error [.exo "InvalidText" ns ds] = some (.imm (.str [73, 110, 118, 97, 108, 105, 100, 84, 101, 120, 116])) := by kernel_rfl
theorem er_InvalidNumber {ns : List Str} {ds : List D} : ap g__law_error [.exo "InvalidNumber" ns ds] = some (.imm (.str [73, 110, 118, 97, 108, 105, 100, 78, 117, 109, 98, 101, 114])) := by kernel_rfl
theorem er_InvalidRelation {ns : List Str} {ds : List D} : ap g__law_error [.exo "InvalidRelation" ns ds] = some (.imm (.str [73, 110, 118, 97, 108, 105, 100, 82, 101, 108, 97, 116, 105, 111, 110])) := by kernel_rfl
theorem er_InvalidTable {ns : List Str} {ds : List D} : ap g__law_error [.exo "InvalidTable" ns ds] = some (.imm (.str [73, 110, 118, 97, 108, 105, 100, 84, 97, 98, 108, 101])) := by kernel_rfl
theorem er_InvalidSaying {ns : List Str} {ds : List D} : ap g__law_error [.exo "InvalidSaying" ns ds] = some (.imm (.str [73, 110, 118, 97, 108, 105, 100, 83, 97, 121, 105, 110, 103])) := by kernel_rfl
theorem er_InvalidRow {ns : List Str} {ds : List D} : ap g__law_error [.exo "InvalidRow" ns ds] = some (.imm (.str [73, 110, 118, 97, 108, 105, 100, 82, 111, 119])) := by kernel_rfl
theorem er_InvalidShown {ns : List Str} {ds : List D} : ap g__law_error [.exo "InvalidShown" ns ds] = some (.imm (.str [73, 110, 118, 97, 108, 105, 100, 83, 104, 111, 119, 110])) := by kernel_rfl
theorem er_InvalidOrder {ns : List Str} {ds : List D} : ap g__law_error [.exo "InvalidOrder" ns ds] = some (.imm (.str [73, 110, 118, 97, 108, 105, 100, 79, 114, 100, 101, 114])) := by kernel_rfl
theorem er_InvalidTie {ns : List Str} {ds : List D} : ap g__law_error [.exo "InvalidTie" ns ds] = some (.imm (.str [73, 110, 118, 97, 108, 105, 100, 84, 105, 101])) := by kernel_rfl
theorem er_InvalidName {ns : List Str} {ds : List D} : ap g__law_error [.exo "InvalidName" ns ds] = some (.imm (.str [73, 110, 118, 97, 108, 105, 100, 78, 97, 109, 101])) := by kernel_rfl
theorem er_InvalidWish {ns : List Str} {ds : List D} : ap g__law_error [.exo "InvalidWish" ns ds] = some (.imm (.str [73, 110, 118, 97, 108, 105, 100, 87, 105, 115, 104])) := by kernel_rfl
theorem er_NotABook {ns : List Str} {ds : List D} : ap g__law_error [.exo "NotABook" ns ds] = some (.imm (.str [78, 111, 116, 65, 66, 111, 111, 107])) := by kernel_rfl
theorem er_InvalidRows {ns : List Str} {ds : List D} : ap g__law_error [.exo "InvalidRows" ns ds] = some (.imm (.str [73, 110, 118, 97, 108, 105, 100, 82, 111, 119, 115])) := by kernel_rfl
theorem er_InvalidExchanges {ns : List Str} {ds : List D} : ap g__law_error [.exo "InvalidExchanges" ns ds] = some (.imm (.str [73, 110, 118, 97, 108, 105, 100, 69, 120, 99, 104, 97, 110, 103, 101, 115])) := by kernel_rfl
theorem er_InvalidWishes {ns : List Str} {ds : List D} : ap g__law_error [.exo "InvalidWishes" ns ds] = some (.imm (.str [73, 110, 118, 97, 108, 105, 100, 87, 105, 115, 104, 101, 115])) := by kernel_rfl
theorem er_UnknownName {ns : List Str} {ds : List D} : ap g__law_error [.exo "UnknownName" ns ds] = some (.imm (.str [85, 110, 107, 110, 111, 119, 110, 78, 97, 109, 101])) := by kernel_rfl
theorem er_InUse {ns : List Str} {ds : List D} : ap g__law_error [.exo "InUse" ns ds] = some (.imm (.str [73, 110, 85, 115, 101])) := by kernel_rfl
theorem er_TooMany {ns : List Str} {ds : List D} : ap g__law_error [.exo "TooMany" ns ds] = some (.imm (.str [84, 111, 111, 77, 97, 110, 121])) := by kernel_rfl
theorem fd_InvalidText {d : D} : ap g__law_field [.exo "InvalidText" ["given"] [d], .str [73, 110, 118, 97, 108, 105, 100, 84, 101, 120, 116]] = some (.imm d) := by kernel_rfl
theorem fd_InvalidNumber {d : D} : ap g__law_field [.exo "InvalidNumber" ["given"] [d], .str [73, 110, 118, 97, 108, 105, 100, 78, 117, 109, 98, 101, 114]] = some (.imm d) := by kernel_rfl
theorem fd_InvalidRelation {d : D} : ap g__law_field [.exo "InvalidRelation" ["given"] [d], .str [73, 110, 118, 97, 108, 105, 100, 82, 101, 108, 97, 116, 105, 111, 110]] = some (.imm d) := by kernel_rfl
theorem fd_InvalidTable {d : D} : ap g__law_field [.exo "InvalidTable" ["given"] [d], .str [73, 110, 118, 97, 108, 105, 100, 84, 97, 98, 108, 101]] = some (.imm d) := by kernel_rfl
theorem fd_InvalidSaying {d : D} : ap g__law_field [.exo "InvalidSaying" ["given"] [d], .str [73, 110, 118, 97, 108, 105, 100, 83, 97, 121, 105, 110, 103]] = some (.imm d) := by kernel_rfl
theorem fd_InvalidRow {d : D} : ap g__law_field [.exo "InvalidRow" ["given"] [d], .str [73, 110, 118, 97, 108, 105, 100, 82, 111, 119]] = some (.imm d) := by kernel_rfl
theorem fd_InvalidShown {d : D} : ap g__law_field [.exo "InvalidShown" ["given"] [d], .str [73, 110, 118, 97, 108, 105, 100, 83, 104, 111, 119, 110]] = some (.imm d) := by kernel_rfl
theorem fd_InvalidOrder {d : D} : ap g__law_field [.exo "InvalidOrder" ["given"] [d], .str [73, 110, 118, 97, 108, 105, 100, 79, 114, 100, 101, 114]] = some (.imm d) := by kernel_rfl
theorem fd_InvalidTie {d : D} : ap g__law_field [.exo "InvalidTie" ["given"] [d], .str [73, 110, 118, 97, 108, 105, 100, 84, 105, 101]] = some (.imm d) := by kernel_rfl
theorem fd_InvalidName {d : D} : ap g__law_field [.exo "InvalidName" ["given"] [d], .str [73, 110, 118, 97, 108, 105, 100, 78, 97, 109, 101]] = some (.imm d) := by kernel_rfl
theorem fd_InvalidWish {d : D} : ap g__law_field [.exo "InvalidWish" ["given"] [d], .str [73, 110, 118, 97, 108, 105, 100, 87, 105, 115, 104]] = some (.imm d) := by kernel_rfl
theorem fd_NotABook {d : D} : ap g__law_field [.exo "NotABook" ["given"] [d], .str [78, 111, 116, 65, 66, 111, 111, 107]] = some (.imm d) := by kernel_rfl
theorem fd_InvalidRows {d : D} : ap g__law_field [.exo "InvalidRows" ["index"] [d], .str [73, 110, 118, 97, 108, 105, 100, 82, 111, 119, 115]] = some (.imm d) := by kernel_rfl
theorem fd_InvalidExchanges {d : D} : ap g__law_field [.exo "InvalidExchanges" ["index"] [d], .str [73, 110, 118, 97, 108, 105, 100, 69, 120, 99, 104, 97, 110, 103, 101, 115]] = some (.imm d) := by kernel_rfl
theorem fd_InvalidWishes {d : D} : ap g__law_field [.exo "InvalidWishes" ["index"] [d], .str [73, 110, 118, 97, 108, 105, 100, 87, 105, 115, 104, 101, 115]] = some (.imm d) := by kernel_rfl
theorem fd_UnknownName {d : D} : ap g__law_field [.exo "UnknownName" ["given"] [d], .str [85, 110, 107, 110, 111, 119, 110, 78, 97, 109, 101]] = some (.imm d) := by kernel_rfl
theorem fd_InUse {d : D} : ap g__law_field [.exo "InUse" ["index"] [d], .str [73, 110, 85, 115, 101]] = some (.imm d) := by kernel_rfl
theorem fd_TooMany {d : D} : ap g__law_field [.exo "TooMany" ["given"] [d], .str [84, 111, 111, 77, 97, 110, 121]] = some (.imm d) := by kernel_rfl
def Shw (d : D) : Prop := ∃ r, gReprBG [d] = some (.imm r) ∧ gNe r r = some (.imm (.bl false))
theorem turn_body {o : O} {d u e w : D} {k : Int} {x7 x8 : Option O} (h1 : gIx (.lst (errD d)) (.int k) = some (.imm e)) (h2 : ap g__law_error [e] = some (.imm w)) (h3 : gIx wrdD (.int (k / 2)) = some (.imm w)) (h4 : gNe w w = some (.imm (.bl false))) (h5 : ap g__law_field [e, w] = some (.imm d)) (hs : Shw d) (x4 : Option O) :
    lb__law_right_1 [some o, some (.imm wrdD), some (.imm (.lst (errD d))), some (.imm (.int k)), x4, some (.imm d), some (.imm u), x7, x8] = some (.nx, [some o, some (.imm wrdD), some (.imm (.lst (errD d))), some (.imm (.int k)), x4, some (.imm d), some (.imm u), some (.imm w), x8]) := by
  obtain ⟨r, r1, r2⟩ := hs
  unfold lb__law_right_1
  rw [sq_nx (ev1 := [some o, some (.imm wrdD), some (.imm (.lst (errD d))), some (.imm (.int k)), x4, some (.imm d), some (.imm u), some (.imm w), x8]) (as_of (fz_of (cu_of (ds := [e]) (fc_of (fz_of (f2_of (a := .lst (errD d)) (b := .int k) rfl rfl h1)) rfl) rfl h2)) (by simp))]
  have t1 : ft (f2 gNe (vr 7) (fz (f2 gIx (vr 1) (fz (f2 gFdiv (vr 3) (kk (.int 2))))))) [some o, some (.imm wrdD), some (.imm (.lst (errD d))), some (.imm (.int k)), x4, some (.imm d), some (.imm u), some (.imm w), x8] = some false := ft_of (f2_of (a := w) (b := w) rfl (fz_of (f2_of (a := wrdD) (b := .int (k / 2)) rfl (fz_of (f2_of (a := .int k) (b := .int 2) rfl rfl rfl)) h3)) h4)
  have t2 : ft (f2 gNe (fz (cl gReprBG (fcons (fz (cu 2 g__law_field (fcons (fz (f2 gIx (vr 2) (vr 3))) (fcons (vr 7) fnil)))) fnil))) (fz (cl gReprBG (fcons (vr 5) fnil)))) [some o, some (.imm wrdD), some (.imm (.lst (errD d))), some (.imm (.int k)), x4, some (.imm d), some (.imm u), some (.imm w), x8] = some false := ft_of (f2_of (a := r) (b := r) (fz_of (cl_of (ds := [d]) (fc_of (fz_of (cu_of (ds := [e, w]) (fc_of (fz_of (f2_of (a := .lst (errD d)) (b := .int k) rfl rfl h1)) rfl) rfl h5)) rfl) r1)) (fz_of (cl_of (ds := [d]) rfl r1)) r2)
  exact ifx (for_ff t1 t2)
theorem turn_k {o : O} {d u : D} {x7 x8 : Option O} (hs : Shw d) (x4 : Option O) : ∀ k : Nat, k < 36 → ∃ w, lb__law_right_1 [some o, some (.imm wrdD), some (.imm (.lst (errD d))), some (.imm (.int k)), x4, some (.imm d), some (.imm u), x7, x8] = some (.nx, [some o, some (.imm wrdD), some (.imm (.lst (errD d))), some (.imm (.int k)), x4, some (.imm d), some (.imm u), some (.imm w), x8])
  | 0, _ => ⟨_, turn_body (e := .exo "InvalidText" ["given"] [d]) (w := .str [73, 110, 118, 97, 108, 105, 100, 84, 101, 120, 116]) (by kernel_rfl) er_InvalidText (by kernel_rfl) (by kernel_rfl) fd_InvalidText hs x4⟩
  | 1, _ => ⟨_, turn_body (e := .exo "InvalidText" ["given"] [d]) (w := .str [73, 110, 118, 97, 108, 105, 100, 84, 101, 120, 116]) (by kernel_rfl) er_InvalidText (by kernel_rfl) (by kernel_rfl) fd_InvalidText hs x4⟩
  | 2, _ => ⟨_, turn_body (e := .exo "InvalidNumber" ["given"] [d]) (w := .str [73, 110, 118, 97, 108, 105, 100, 78, 117, 109, 98, 101, 114]) (by kernel_rfl) er_InvalidNumber (by kernel_rfl) (by kernel_rfl) fd_InvalidNumber hs x4⟩
  | 3, _ => ⟨_, turn_body (e := .exo "InvalidNumber" ["given"] [d]) (w := .str [73, 110, 118, 97, 108, 105, 100, 78, 117, 109, 98, 101, 114]) (by kernel_rfl) er_InvalidNumber (by kernel_rfl) (by kernel_rfl) fd_InvalidNumber hs x4⟩
  | 4, _ => ⟨_, turn_body (e := .exo "InvalidRelation" ["given"] [d]) (w := .str [73, 110, 118, 97, 108, 105, 100, 82, 101, 108, 97, 116, 105, 111, 110]) (by kernel_rfl) er_InvalidRelation (by kernel_rfl) (by kernel_rfl) fd_InvalidRelation hs x4⟩
  | 5, _ => ⟨_, turn_body (e := .exo "InvalidRelation" ["given"] [d]) (w := .str [73, 110, 118, 97, 108, 105, 100, 82, 101, 108, 97, 116, 105, 111, 110]) (by kernel_rfl) er_InvalidRelation (by kernel_rfl) (by kernel_rfl) fd_InvalidRelation hs x4⟩
  | 6, _ => ⟨_, turn_body (e := .exo "InvalidTable" ["given"] [d]) (w := .str [73, 110, 118, 97, 108, 105, 100, 84, 97, 98, 108, 101]) (by kernel_rfl) er_InvalidTable (by kernel_rfl) (by kernel_rfl) fd_InvalidTable hs x4⟩
  | 7, _ => ⟨_, turn_body (e := .exo "InvalidTable" ["given"] [d]) (w := .str [73, 110, 118, 97, 108, 105, 100, 84, 97, 98, 108, 101]) (by kernel_rfl) er_InvalidTable (by kernel_rfl) (by kernel_rfl) fd_InvalidTable hs x4⟩
  | 8, _ => ⟨_, turn_body (e := .exo "InvalidSaying" ["given"] [d]) (w := .str [73, 110, 118, 97, 108, 105, 100, 83, 97, 121, 105, 110, 103]) (by kernel_rfl) er_InvalidSaying (by kernel_rfl) (by kernel_rfl) fd_InvalidSaying hs x4⟩
  | 9, _ => ⟨_, turn_body (e := .exo "InvalidSaying" ["given"] [d]) (w := .str [73, 110, 118, 97, 108, 105, 100, 83, 97, 121, 105, 110, 103]) (by kernel_rfl) er_InvalidSaying (by kernel_rfl) (by kernel_rfl) fd_InvalidSaying hs x4⟩
  | 10, _ => ⟨_, turn_body (e := .exo "InvalidRow" ["given"] [d]) (w := .str [73, 110, 118, 97, 108, 105, 100, 82, 111, 119]) (by kernel_rfl) er_InvalidRow (by kernel_rfl) (by kernel_rfl) fd_InvalidRow hs x4⟩
  | 11, _ => ⟨_, turn_body (e := .exo "InvalidRow" ["given"] [d]) (w := .str [73, 110, 118, 97, 108, 105, 100, 82, 111, 119]) (by kernel_rfl) er_InvalidRow (by kernel_rfl) (by kernel_rfl) fd_InvalidRow hs x4⟩
  | 12, _ => ⟨_, turn_body (e := .exo "InvalidShown" ["given"] [d]) (w := .str [73, 110, 118, 97, 108, 105, 100, 83, 104, 111, 119, 110]) (by kernel_rfl) er_InvalidShown (by kernel_rfl) (by kernel_rfl) fd_InvalidShown hs x4⟩
  | 13, _ => ⟨_, turn_body (e := .exo "InvalidShown" ["given"] [d]) (w := .str [73, 110, 118, 97, 108, 105, 100, 83, 104, 111, 119, 110]) (by kernel_rfl) er_InvalidShown (by kernel_rfl) (by kernel_rfl) fd_InvalidShown hs x4⟩
  | 14, _ => ⟨_, turn_body (e := .exo "InvalidOrder" ["given"] [d]) (w := .str [73, 110, 118, 97, 108, 105, 100, 79, 114, 100, 101, 114]) (by kernel_rfl) er_InvalidOrder (by kernel_rfl) (by kernel_rfl) fd_InvalidOrder hs x4⟩
  | 15, _ => ⟨_, turn_body (e := .exo "InvalidOrder" ["given"] [d]) (w := .str [73, 110, 118, 97, 108, 105, 100, 79, 114, 100, 101, 114]) (by kernel_rfl) er_InvalidOrder (by kernel_rfl) (by kernel_rfl) fd_InvalidOrder hs x4⟩
  | 16, _ => ⟨_, turn_body (e := .exo "InvalidTie" ["given"] [d]) (w := .str [73, 110, 118, 97, 108, 105, 100, 84, 105, 101]) (by kernel_rfl) er_InvalidTie (by kernel_rfl) (by kernel_rfl) fd_InvalidTie hs x4⟩
  | 17, _ => ⟨_, turn_body (e := .exo "InvalidTie" ["given"] [d]) (w := .str [73, 110, 118, 97, 108, 105, 100, 84, 105, 101]) (by kernel_rfl) er_InvalidTie (by kernel_rfl) (by kernel_rfl) fd_InvalidTie hs x4⟩
  | 18, _ => ⟨_, turn_body (e := .exo "InvalidName" ["given"] [d]) (w := .str [73, 110, 118, 97, 108, 105, 100, 78, 97, 109, 101]) (by kernel_rfl) er_InvalidName (by kernel_rfl) (by kernel_rfl) fd_InvalidName hs x4⟩
  | 19, _ => ⟨_, turn_body (e := .exo "InvalidName" ["given"] [d]) (w := .str [73, 110, 118, 97, 108, 105, 100, 78, 97, 109, 101]) (by kernel_rfl) er_InvalidName (by kernel_rfl) (by kernel_rfl) fd_InvalidName hs x4⟩
  | 20, _ => ⟨_, turn_body (e := .exo "InvalidWish" ["given"] [d]) (w := .str [73, 110, 118, 97, 108, 105, 100, 87, 105, 115, 104]) (by kernel_rfl) er_InvalidWish (by kernel_rfl) (by kernel_rfl) fd_InvalidWish hs x4⟩
  | 21, _ => ⟨_, turn_body (e := .exo "InvalidWish" ["given"] [d]) (w := .str [73, 110, 118, 97, 108, 105, 100, 87, 105, 115, 104]) (by kernel_rfl) er_InvalidWish (by kernel_rfl) (by kernel_rfl) fd_InvalidWish hs x4⟩
  | 22, _ => ⟨_, turn_body (e := .exo "NotABook" ["given"] [d]) (w := .str [78, 111, 116, 65, 66, 111, 111, 107]) (by kernel_rfl) er_NotABook (by kernel_rfl) (by kernel_rfl) fd_NotABook hs x4⟩
  | 23, _ => ⟨_, turn_body (e := .exo "NotABook" ["given"] [d]) (w := .str [78, 111, 116, 65, 66, 111, 111, 107]) (by kernel_rfl) er_NotABook (by kernel_rfl) (by kernel_rfl) fd_NotABook hs x4⟩
  | 24, _ => ⟨_, turn_body (e := .exo "InvalidRows" ["index"] [d]) (w := .str [73, 110, 118, 97, 108, 105, 100, 82, 111, 119, 115]) (by kernel_rfl) er_InvalidRows (by kernel_rfl) (by kernel_rfl) fd_InvalidRows hs x4⟩
  | 25, _ => ⟨_, turn_body (e := .exo "InvalidRows" ["index"] [d]) (w := .str [73, 110, 118, 97, 108, 105, 100, 82, 111, 119, 115]) (by kernel_rfl) er_InvalidRows (by kernel_rfl) (by kernel_rfl) fd_InvalidRows hs x4⟩
  | 26, _ => ⟨_, turn_body (e := .exo "InvalidExchanges" ["index"] [d]) (w := .str [73, 110, 118, 97, 108, 105, 100, 69, 120, 99, 104, 97, 110, 103, 101, 115]) (by kernel_rfl) er_InvalidExchanges (by kernel_rfl) (by kernel_rfl) fd_InvalidExchanges hs x4⟩
  | 27, _ => ⟨_, turn_body (e := .exo "InvalidExchanges" ["index"] [d]) (w := .str [73, 110, 118, 97, 108, 105, 100, 69, 120, 99, 104, 97, 110, 103, 101, 115]) (by kernel_rfl) er_InvalidExchanges (by kernel_rfl) (by kernel_rfl) fd_InvalidExchanges hs x4⟩
  | 28, _ => ⟨_, turn_body (e := .exo "InvalidWishes" ["index"] [d]) (w := .str [73, 110, 118, 97, 108, 105, 100, 87, 105, 115, 104, 101, 115]) (by kernel_rfl) er_InvalidWishes (by kernel_rfl) (by kernel_rfl) fd_InvalidWishes hs x4⟩
  | 29, _ => ⟨_, turn_body (e := .exo "InvalidWishes" ["index"] [d]) (w := .str [73, 110, 118, 97, 108, 105, 100, 87, 105, 115, 104, 101, 115]) (by kernel_rfl) er_InvalidWishes (by kernel_rfl) (by kernel_rfl) fd_InvalidWishes hs x4⟩
  | 30, _ => ⟨_, turn_body (e := .exo "UnknownName" ["given"] [d]) (w := .str [85, 110, 107, 110, 111, 119, 110, 78, 97, 109, 101]) (by kernel_rfl) er_UnknownName (by kernel_rfl) (by kernel_rfl) fd_UnknownName hs x4⟩
  | 31, _ => ⟨_, turn_body (e := .exo "UnknownName" ["given"] [d]) (w := .str [85, 110, 107, 110, 111, 119, 110, 78, 97, 109, 101]) (by kernel_rfl) er_UnknownName (by kernel_rfl) (by kernel_rfl) fd_UnknownName hs x4⟩
  | 32, _ => ⟨_, turn_body (e := .exo "InUse" ["index"] [d]) (w := .str [73, 110, 85, 115, 101]) (by kernel_rfl) er_InUse (by kernel_rfl) (by kernel_rfl) fd_InUse hs x4⟩
  | 33, _ => ⟨_, turn_body (e := .exo "InUse" ["index"] [d]) (w := .str [73, 110, 85, 115, 101]) (by kernel_rfl) er_InUse (by kernel_rfl) (by kernel_rfl) fd_InUse hs x4⟩
  | 34, _ => ⟨_, turn_body (e := .exo "TooMany" ["given"] [d]) (w := .str [84, 111, 111, 77, 97, 110, 121]) (by kernel_rfl) er_TooMany (by kernel_rfl) (by kernel_rfl) fd_TooMany hs x4⟩
  | 35, _ => ⟨_, turn_body (e := .exo "TooMany" ["given"] [d]) (w := .str [84, 111, 111, 77, 97, 110, 121]) (by kernel_rfl) er_TooMany (by kernel_rfl) (by kernel_rfl) fd_TooMany hs x4⟩
  | k + 36, h => absurd h (by omega)
end Kv
namespace Kv
open PySem PySem.Spec PyProof.Rows L2
def Sh2 (d u : D) : Prop := ∃ r, gReprBG [.lst [.lst [d, u], .lst [d, u]]] = some (.imm r) ∧ gNe r r = some (.imm (.bl false))
def shwB (d : D) : Bool := match gReprBG [d] with
  | some (.imm r) => (match gNe r r with
    | some (.imm (.bl b)) => !b
    | _ => false)
  | _ => false
theorem shwB_ok {d : D} (h : shwB d = true) : Shw d := by
  unfold shwB at h
  split at h
  · rename_i r e
    split at h
    · rename_i b e2
      cases b with
      | false => exact ⟨r, e, e2⟩
      | true => cases h
    · cases h
  · cases h
theorem shw_all : oddLA.all shwB = true := by kernel_rfl
def okP (w k : Nat) (p : PyData) : Bool := p.showable && (p.leavesShort 50 && (decide (p.weight ≤ w) && decide (p.depth ≤ k)))
def okD (d : D) : Bool := match D.apy d with
  | some p => okP 200 6 p
  | none => false
theorem okD_all : oddLA.all okD = true := by kernel_rfl
theorem okD_of {d : D} (h : d ∈ oddLA) : ∃ p, D.apy d = some p ∧ p.showable = true ∧ p.leavesShort 50 = true ∧ p.weight ≤ 200 ∧ p.depth ≤ 6 := by
  have q := List.all_eq_true.mp okD_all d h
  unfold okD at q
  split at q
  · rename_i p e
    unfold okP at q
    obtain ⟨q1, q⟩ := Bool.and_eq_true_iff.mp q
    obtain ⟨q2, q⟩ := Bool.and_eq_true_iff.mp q
    obtain ⟨q3, q4⟩ := Bool.and_eq_true_iff.mp q
    exact ⟨p, e, q1, q2, of_decide_eq_true q3, of_decide_eq_true q4⟩
  · cases q
theorem reprB_lst (ds : List D) : gReprB [.lst ds] = none ∨ ∃ p, gReprB [.lst ds] = some (.imm (.rep p)) := by
  have e1 : gReprB [.lst ds] = ((gRepr [.lst ds]).or none).or none := rfl
  cases hr : gRepr [.lst ds] with
  | none => exact .inl (by rw [e1, hr]; rfl)
  | some o =>
    have hr2 : (D.pk (.lst ds)).bind (fun p => if p.showable = true ∧ p.shown.length ≤ sizeLine then some (O.imm (.rep p)) else none) = some o := hr
    obtain ⟨p, _, h2⟩ := bnd hr2
    split at h2
    · cases h2
      exact .inr ⟨p, by rw [e1, hr]; rfl⟩
    · cases h2
theorem sh2_of {d u : D} (h : d ∈ oddLA) (h' : u ∈ oddLA) : Sh2 d u := by
  obtain ⟨p, p1, p2, p3, p4, p5⟩ := okD_of h
  obtain ⟨q, q1, q2, q3, q4, q5⟩ := okD_of h'
  rcases reprB_lst [.lst [d, u], .lst [d, u]] with hB | ⟨r, hB⟩
  · have a1 : D.apys [.lst [d, u], .lst [d, u]] = some [.list [p, q], .list [p, q]] := by simp [D.apys, D.apy, p1, q1]
    have b1 : (PyData.list [.list [p, q], .list [p, q]]).showable = true := by simp [PyData.showable, PyData.showableAll, p2, q2]
    have b2 : (PyData.list [.list [p, q], .list [p, q]]).leavesShort 50 = true := by simp [PyData.leavesShort, PyData.leavesShortAll, p3, q3]
    have b3 : (PyData.list [.list [p, q], .list [p, q]]).weight ≤ 2000 := by
      simp only [PyData.weight, PyData.weightAll]
      omega
    have b4 : (PyData.list [.list [p, q], .list [p, q]]).depth ≤ 64 := by
      simp only [PyData.depth, PyData.depthAll]
      omega
    have b5 : (PyData.list [.list [p, q], .list [p, q]]).shown.length ≤ sizeLine := by
      have := PyData.shown_le 50 (by decide) _ b2
      rw [sz_line]
      omega
    refine ⟨.rep (.list [.list [p, q], .list [p, q]]), ?_, gNe_rep _⟩
    unfold gReprBG
    rw [hB]
    show (D.apys [.lst [d, u], .lst [d, u]]).bind (fun ps => shwC (.list ps)) = _
    rw [a1, Option.bind_some]
    unfold shwC
    rw [if_pos ⟨b1, b4, b5⟩]
  · exact ⟨.rep r, by unfold gReprBG; rw [hB]; rfl, gNe_rep _⟩
theorem shw_of {d : D} (h : d ∈ oddLA) : Shw d := shwB_ok (List.all_eq_true.mp shw_all d h)
theorem turns_all {o : O} {d u : D} {x4 x8 : Option O} (hs : Shw d) : ∀ (ks : List Nat) (x3 x7 : Option O), (∀ k ∈ ks, k < 36) → ∃ y3 y7, forM (sSet 3) lb__law_right_1 (ks.map fun k => D.int (k : Nat)) [some o, some (.imm wrdD), some (.imm (.lst (errD d))), x3, x4, some (.imm d), some (.imm u), x7, x8] = some (.nx, [some o, some (.imm wrdD), some (.imm (.lst (errD d))), y3, x4, some (.imm d), some (.imm u), y7, x8])
  | [], x3, x7, _ => ⟨x3, x7, rfl⟩
  | k :: ks, x3, x7, h => by
    obtain ⟨w, e⟩ := turn_k (o := o) (u := u) (x7 := x7) (x8 := x8) hs x4 k (h k (List.mem_cons_self ..))
    obtain ⟨y3, y7, e2⟩ := turns_all (o := o) (u := u) (x4 := x4) (x8 := x8) hs ks (some (.imm (.int k))) (some (.imm w)) fun j hj => h j (List.mem_cons_of_mem _ hj)
    exact ⟨y3, y7, (forM_nx rfl e).trans e2⟩
theorem right_ok {o : O} (h : Spr o) : ∃ evr, g__law_right [o] = some (.imm (.bl true), evr) := by
  obtain ⟨d, o1, hd, s1, e1⟩ := odd_dr h
  obtain ⟨u, o2, hu, s2, e2⟩ := odd_dr s1
  obtain ⟨evz, ez⟩ : ∃ evz, m__law_right [some o, none, none, none, none, none, none, none, none] = some (.rt (.imm (.bl true)), evz) := by
    rw [rs_eq]
    have a1 : rs1 [some o, none, none, none, none, none, none, none, none] = some (.nx, [some o2, none, none, none, none, some (.imm d), some (.imm u), none, none]) :=
      (sPar_of (a := .imm d) (b := .imm u) (ev2 := [some o2, none, none, none, none, none, none, none, none]) (mo_of (mz_of (mSl_of (o0 := o) (o := o) (ds := []) (ev1 := [some o, none, none, none, none, none, none, none, none]) rfl rfl rfl rfl e1))) (mo_of (mz_of (mSl_of (o0 := o1) (o := o1) (ds := []) (ev1 := [some o1, none, none, none, none, none, none, none, none]) rfl rfl rfl rfl e2))) (by simp) (by simp)).trans rfl
    obtain ⟨y3, y7, f⟩ := turns_all (o := o2) (d := d) (u := u) (x4 := none) (x8 := none) (shw_of hd) (List.range 36) none none fun k hk => List.mem_range.mp hk
    have a6 : rs6 [some o2, some (.imm wrdD), some (.imm (.lst (errD d))), none, none, some (.imm d), some (.imm u), none, none] = some (.nx, [some o2, some (.imm wrdD), some (.imm (.lst (errD d))), y3, none, some (.imm d), some (.imm u), y7, none]) :=
      (for_go (ds := (List.range 36).map fun k => D.int (k : Nat)) (ev1 := [some o2, some (.imm wrdD), some (.imm (.lst (errD d))), none, none, some (.imm d), some (.imm u), none, none]) (by kernel_rfl)).trans f
    obtain ⟨r, r1, r2⟩ := sh2_of hd hu
    have a9 : rs9 [some o2, some (.imm wrdD), some (.imm (.lst (errD d))), y3, some (.imm (.lst (brkD d u))), some (.imm d), some (.imm u), y7, none] = some (.nx, [some o2, some (.imm wrdD), some (.imm (.lst (errD d))), y3, some (.imm (.lst (brkD d u))), some (.imm d), some (.imm u), y7, none]) := ifx (ft_of (f2_of (a := r) (b := r) (fz_of (cl_of (ds := [.lst [.lst [d, u], .lst [d, u]]]) (by kernel_rfl) r1)) (fz_of (cl_of (ds := [.lst [.lst [d, u], .lst [d, u]]]) (by kernel_rfl) r1)) r2))
    rw [sq_nx a1, sq_nx (ev1 := [some o2, some (.imm (.lst [.str [73, 110, 118, 97, 108, 105, 100, 84, 101, 120, 116], .str [73, 110, 118, 97, 108, 105, 100, 78, 117, 109, 98, 101, 114], .str [73, 110, 118, 97, 108, 105, 100, 82, 101, 108, 97, 116, 105, 111, 110], .str [73, 110, 118, 97, 108, 105, 100, 84, 97, 98, 108, 101], .str [73, 110, 118, 97, 108, 105, 100, 83, 97, 121, 105, 110, 103], .str [73, 110, 118, 97, 108, 105, 100, 82, 111, 119]])), none, none, none, some (.imm d), some (.imm u), none, none]) (by kernel_rfl), sq_nx (ev1 := [some o2, some (.imm (.lst [.str [73, 110, 118, 97, 108, 105, 100, 84, 101, 120, 116], .str [73, 110, 118, 97, 108, 105, 100, 78, 117, 109, 98, 101, 114], .str [73, 110, 118, 97, 108, 105, 100, 82, 101, 108, 97, 116, 105, 111, 110], .str [73, 110, 118, 97, 108, 105, 100, 84, 97, 98, 108, 101], .str [73, 110, 118, 97, 108, 105, 100, 83, 97, 121, 105, 110, 103], .str [73, 110, 118, 97, 108, 105, 100, 82, 111, 119], .str [73, 110, 118, 97, 108, 105, 100, 83, 104, 111, 119, 110], .str [73, 110, 118, 97, 108, 105, 100, 79, 114, 100, 101, 114], .str [73, 110, 118, 97, 108, 105, 100, 84, 105, 101], .str [73, 110, 118, 97, 108, 105, 100, 78, 97, 109, 101], .str [73, 110, 118, 97, 108, 105, 100, 87, 105, 115, 104], .str [78, 111, 116, 65, 66, 111, 111, 107]])), none, none, none, some (.imm d), some (.imm u), none, none]) (by kernel_rfl),
      sq_nx (ev1 := [some o2, some (.imm wrdD), none, none, none, some (.imm d), some (.imm u), none, none]) (by kernel_rfl), sq_nx (ev1 := [some o2, some (.imm wrdD), some (.imm (.lst (errD d))), none, none, some (.imm d), some (.imm u), none, none]) (by kernel_rfl), sq_nx a6,
      sq_nx (ev1 := [some o2, some (.imm wrdD), some (.imm (.lst (errD d))), y3, some (.imm (.lst (brkD d u))), some (.imm d), some (.imm u), y7, none]) (by kernel_rfl), sq_nx (ev1 := [some o2, some (.imm wrdD), some (.imm (.lst (errD d))), y3, some (.imm (.lst (brkD d u))), some (.imm d), some (.imm u), y7, none]) (by kernel_rfl), sq_nx a9]
    exact ⟨[some o2, some (.imm wrdD), some (.imm (.lst (errD d))), y3, some (.imm (.lst (brkD d u))), some (.imm d), some (.imm u), y7, none], by kernel_rfl⟩
  exact ⟨_, run_rt (n := 1) rfl (o := .imm (.bl true)) ez⟩
def limD : D := .lst [.int 3, .int 4, .int 9, .int 4, .int 99, .int 5]
theorem plain (ns : List Int) (hl : ns.length ≤ 63) (hk : ∀ k ∈ ns, Builtin.Int.intBits k ≤ 1048576) : ∃ evr, g_law [.imm (.frl (ns.map D.int))] = some (.imm (.bl true), evr) := by
  refine ⟨_, run_rt (n := 1) rfl (o := .imm (.bl true)) (ev1 := [some (.imm (.frl (ns.map D.int))), some (.imm limD), some (.imm (.lst [.bl true, .bl true, .bl true, .bl false])), none]) ?_⟩
  show m_law [some (.imm (.frl (ns.map D.int))), none, none, none] = _
  unfold m_law
  rw [sq_nx (ev1 := [some (.imm (.frl (ns.map D.int))), some (.imm limD), none, none]) (by kernel_rfl), sq_nx (ev1 := [some (.imm (.frl (ns.map D.int))), some (.imm limD), none, none]) (by kernel_rfl), sq_nx (ev1 := [some (.imm (.frl (ns.map D.int))), some (.imm limD), some (.imm (.lst [.bl true, .bl true])), none]) (by kernel_rfl),
    sq_nx (ev1 := [some (.imm (.frl (ns.map D.int))), some (.imm limD), some (.imm (.lst [.bl true, .bl true, .bl true, .bl false])), none]) (by kernel_rfl), sq_nx (ev1 := [some (.imm (.frl (ns.map D.int))), some (.imm limD), some (.imm (.lst [.bl true, .bl true, .bl true, .bl false])), none]) (by kernel_rfl)]
  exact rt_of (law_last hl right_ok rfl (by simp) (by decide) (by decide))
end Kv
namespace Kv
open PySem PySem.Spec PyProof.Rows L2 ClX
theorem bs_of {K : PySem.W.Frag} {h : Heap} {mg : Str → Option Value} (X : K.In h) (G : h.Ns mainGlobals mg) (c : SaysV faa fnn exx K) : Bs K mg where
  b_ArithmeticError := He.free_ok X G (c.fact 32 (f := .free "ArithmeticError") rfl)
  b_LookupError := He.free_ok X G (c.fact 33 (f := .free "LookupError") rfl)
  b_ValueError := He.free_ok X G (c.fact 34 (f := .free "ValueError") rfl)
  b_abs := He.free_ok X G (c.fact 35 (f := .free "abs") rfl)
  b_all := He.free_ok X G (c.fact 36 (f := .free "all") rfl)
  b_divmod := He.free_ok X G (c.fact 37 (f := .free "divmod") rfl)
  b_int := He.free_ok X G (c.fact 38 (f := .free "int") rfl)
  b_isinstance := He.free_ok X G (c.fact 39 (f := .free "isinstance") rfl)
  b_len := He.free_ok X G (c.fact 40 (f := .free "len") rfl)
  b_max := He.free_ok X G (c.fact 41 (f := .free "max") rfl)
  b_min := He.free_ok X G (c.fact 42 (f := .free "min") rfl)
  b_range := He.free_ok X G (c.fact 43 (f := .free "range") rfl)
  b_repr := He.free_ok X G (c.fact 44 (f := .free "repr") rfl)
  c_MOST_EXCHANGES := He.int_ok X G (c.fact 45 (f := .int "MOST_EXCHANGES" 5) rfl)
  c_MOST_PLACES := He.int_ok X G (c.fact 46 (f := .int "MOST_PLACES" 4) rfl)
  c_MOST_RELATIONS := He.int_ok X G (c.fact 47 (f := .int "MOST_RELATIONS" 4) rfl)
  c_MOST_ROWS := He.int_ok X G (c.fact 48 (f := .int "MOST_ROWS" 9) rfl)
  c_MOST_VARIABLES := He.int_ok X G (c.fact 49 (f := .int "MOST_VARIABLES" 99) rfl)
  c_MOST_WIDTH := He.int_ok X G (c.fact 50 (f := .int "MOST_WIDTH" 3) rfl)
  xc_Broken := xc2B_ok (c.more 0 (f := fun K => xc2B K fileN "Broken" "ArithmeticError" "ArithmeticError.__new__" "ArithmeticError.__init__" aeM) rfl)
  xc_InUse := xcB_ok (c.more 2 (f := fun K => xcB K fileN "InUse" "index" "LookupError" "LookupError.__new__" "LookupError.__init__" leM) rfl)
  xc_InvalidExchanges := xcB_ok (c.more 4 (f := fun K => xcB K fileN "InvalidExchanges" "index" "ValueError" "ValueError.__new__" "ValueError.__init__" veM) rfl)
  xc_InvalidName := xcB_ok (c.more 6 (f := fun K => xcB K fileN "InvalidName" "given" "ValueError" "ValueError.__new__" "ValueError.__init__" veM) rfl)
  xc_InvalidNumber := xcB_ok (c.more 8 (f := fun K => xcB K fileN "InvalidNumber" "given" "ValueError" "ValueError.__new__" "ValueError.__init__" veM) rfl)
  xc_InvalidOrder := xcB_ok (c.more 10 (f := fun K => xcB K fileN "InvalidOrder" "given" "ValueError" "ValueError.__new__" "ValueError.__init__" veM) rfl)
  xc_InvalidRelation := xcB_ok (c.more 12 (f := fun K => xcB K fileN "InvalidRelation" "given" "ValueError" "ValueError.__new__" "ValueError.__init__" veM) rfl)
  xc_InvalidRow := xcB_ok (c.more 14 (f := fun K => xcB K fileN "InvalidRow" "given" "ValueError" "ValueError.__new__" "ValueError.__init__" veM) rfl)
  xc_InvalidRows := xcB_ok (c.more 16 (f := fun K => xcB K fileN "InvalidRows" "index" "ValueError" "ValueError.__new__" "ValueError.__init__" veM) rfl)
  xc_InvalidSaying := xcB_ok (c.more 18 (f := fun K => xcB K fileN "InvalidSaying" "given" "ValueError" "ValueError.__new__" "ValueError.__init__" veM) rfl)
  xc_InvalidShown := xcB_ok (c.more 20 (f := fun K => xcB K fileN "InvalidShown" "given" "ValueError" "ValueError.__new__" "ValueError.__init__" veM) rfl)
  xc_InvalidTable := xcB_ok (c.more 22 (f := fun K => xcB K fileN "InvalidTable" "given" "ValueError" "ValueError.__new__" "ValueError.__init__" veM) rfl)
  xc_InvalidText := xcB_ok (c.more 24 (f := fun K => xcB K fileN "InvalidText" "given" "ValueError" "ValueError.__new__" "ValueError.__init__" veM) rfl)
  xc_InvalidTie := xcB_ok (c.more 26 (f := fun K => xcB K fileN "InvalidTie" "given" "ValueError" "ValueError.__new__" "ValueError.__init__" veM) rfl)
  xc_InvalidWish := xcB_ok (c.more 28 (f := fun K => xcB K fileN "InvalidWish" "given" "ValueError" "ValueError.__new__" "ValueError.__init__" veM) rfl)
  xc_InvalidWishes := xcB_ok (c.more 30 (f := fun K => xcB K fileN "InvalidWishes" "index" "ValueError" "ValueError.__new__" "ValueError.__init__" veM) rfl)
  xn_NoAnswer := xnB_ok (c.more 32 (f := fun K => xnB K "NoAnswer" "ArithmeticError.__new__" "ArithmeticError.__init__" aeM) rfl)
  xc_NotABook := xcB_ok (c.more 34 (f := fun K => xcB K fileN "NotABook" "given" "ValueError" "ValueError.__new__" "ValueError.__init__" veM) rfl)
  xn_NothingToUndo := xnB_ok (c.more 36 (f := fun K => xnB K "NothingToUndo" "ArithmeticError.__new__" "ArithmeticError.__init__" aeM) rfl)
  xc_TooMany := xcB_ok (c.more 38 (f := fun K => xcB K fileN "TooMany" "given" "ArithmeticError" "ArithmeticError.__new__" "ArithmeticError.__init__" aeM) rfl)
  xc_UnknownName := xcB_ok (c.more 40 (f := fun K => xcB K fileN "UnknownName" "given" "LookupError" "LookupError.__new__" "LookupError.__init__" leM) rfl)
  xn_WrongName := xnB_ok (c.more 42 (f := fun K => xnB K "WrongName" "LookupError.__new__" "LookupError.__init__" leM) rfl)
  xn_WrongValue := xnB_ok (c.more 44 (f := fun K => xnB K "WrongValue" "ValueError.__new__" "ValueError.__init__" veM) rfl)
  xg_InvalidText := He.glo_ok X G (c.fact 9 (f := .glo "InvalidText") rfl)
  xg_InvalidNumber := He.glo_ok X G (c.fact 10 (f := .glo "InvalidNumber") rfl)
  xg_InvalidRelation := He.glo_ok X G (c.fact 11 (f := .glo "InvalidRelation") rfl)
  xg_InvalidTable := He.glo_ok X G (c.fact 12 (f := .glo "InvalidTable") rfl)
  xg_InvalidSaying := He.glo_ok X G (c.fact 13 (f := .glo "InvalidSaying") rfl)
  xg_InvalidRow := He.glo_ok X G (c.fact 14 (f := .glo "InvalidRow") rfl)
  xg_InvalidShown := He.glo_ok X G (c.fact 15 (f := .glo "InvalidShown") rfl)
  xg_InvalidOrder := He.glo_ok X G (c.fact 16 (f := .glo "InvalidOrder") rfl)
  xg_InvalidTie := He.glo_ok X G (c.fact 17 (f := .glo "InvalidTie") rfl)
  xg_InvalidName := He.glo_ok X G (c.fact 18 (f := .glo "InvalidName") rfl)
  xg_InvalidWish := He.glo_ok X G (c.fact 19 (f := .glo "InvalidWish") rfl)
  xg_NotABook := He.glo_ok X G (c.fact 20 (f := .glo "NotABook") rfl)
  xg_InvalidRows := He.glo_ok X G (c.fact 21 (f := .glo "InvalidRows") rfl)
  xg_InvalidExchanges := He.glo_ok X G (c.fact 22 (f := .glo "InvalidExchanges") rfl)
  xg_InvalidWishes := He.glo_ok X G (c.fact 23 (f := .glo "InvalidWishes") rfl)
  xg_UnknownName := He.glo_ok X G (c.fact 24 (f := .glo "UnknownName") rfl)
  xg_InUse := He.glo_ok X G (c.fact 25 (f := .glo "InUse") rfl)
  xg_TooMany := He.glo_ok X G (c.fact 26 (f := .glo "TooMany") rfl)
  xg_Broken := He.glo_ok X G (c.fact 27 (f := .glo "Broken") rfl)
  xg_NothingToUndo := He.glo_ok X G (c.fact 28 (f := .glo "NothingToUndo") rfl)
  xg_WrongValue := He.glo_ok X G (c.fact 29 (f := .glo "WrongValue") rfl)
  xg_WrongName := He.glo_ok X G (c.fact 30 (f := .glo "WrongName") rfl)
  xg_NoAnswer := He.glo_ok X G (c.fact 31 (f := .glo "NoAnswer") rfl)
  sys := sysB_ok (c.more 47 (f := fun K => sysB K ) rfl)
  eg := fun c hc => by
    unfold errCs at hc
    simp only [List.mem_cons, List.not_mem_nil, or_false] at hc
    rcases hc with rfl | rfl | rfl | rfl | rfl | rfl | rfl | rfl | rfl | rfl | rfl | rfl | rfl | rfl | rfl | rfl | rfl | rfl | rfl | rfl | rfl | rfl | rfl
    · exact He.glo_ok X G (c.fact 27 (f := .glo "Broken") rfl)
    · exact He.glo_ok X G (c.fact 25 (f := .glo "InUse") rfl)
    · exact He.glo_ok X G (c.fact 22 (f := .glo "InvalidExchanges") rfl)
    · exact He.glo_ok X G (c.fact 18 (f := .glo "InvalidName") rfl)
    · exact He.glo_ok X G (c.fact 10 (f := .glo "InvalidNumber") rfl)
    · exact He.glo_ok X G (c.fact 16 (f := .glo "InvalidOrder") rfl)
    · exact He.glo_ok X G (c.fact 11 (f := .glo "InvalidRelation") rfl)
    · exact He.glo_ok X G (c.fact 14 (f := .glo "InvalidRow") rfl)
    · exact He.glo_ok X G (c.fact 21 (f := .glo "InvalidRows") rfl)
    · exact He.glo_ok X G (c.fact 13 (f := .glo "InvalidSaying") rfl)
    · exact He.glo_ok X G (c.fact 15 (f := .glo "InvalidShown") rfl)
    · exact He.glo_ok X G (c.fact 12 (f := .glo "InvalidTable") rfl)
    · exact He.glo_ok X G (c.fact 9 (f := .glo "InvalidText") rfl)
    · exact He.glo_ok X G (c.fact 17 (f := .glo "InvalidTie") rfl)
    · exact He.glo_ok X G (c.fact 19 (f := .glo "InvalidWish") rfl)
    · exact He.glo_ok X G (c.fact 23 (f := .glo "InvalidWishes") rfl)
    · exact He.glo_ok X G (c.fact 31 (f := .glo "NoAnswer") rfl)
    · exact He.glo_ok X G (c.fact 20 (f := .glo "NotABook") rfl)
    · exact He.glo_ok X G (c.fact 28 (f := .glo "NothingToUndo") rfl)
    · exact He.glo_ok X G (c.fact 26 (f := .glo "TooMany") rfl)
    · exact He.glo_ok X G (c.fact 24 (f := .glo "UnknownName") rfl)
    · exact He.glo_ok X G (c.fact 30 (f := .glo "WrongName") rfl)
    · exact He.glo_ok X G (c.fact 29 (f := .glo "WrongValue") rfl)
  er := fun c hc => by
    unfold errCs at hc
    simp only [List.mem_cons, List.not_mem_nil, or_false] at hc
    rcases hc with rfl | rfl | rfl | rfl | rfl | rfl | rfl | rfl | rfl | rfl | rfl | rfl | rfl | rfl | rfl | rfl | rfl | rfl | rfl | rfl | rfl | rfl | rfl
    · exact errB_ok (c.more 1 (f := fun K => errB K "Broken") rfl)
    · exact errB_ok (c.more 3 (f := fun K => errB K "InUse") rfl)
    · exact errB_ok (c.more 5 (f := fun K => errB K "InvalidExchanges") rfl)
    · exact errB_ok (c.more 7 (f := fun K => errB K "InvalidName") rfl)
    · exact errB_ok (c.more 9 (f := fun K => errB K "InvalidNumber") rfl)
    · exact errB_ok (c.more 11 (f := fun K => errB K "InvalidOrder") rfl)
    · exact errB_ok (c.more 13 (f := fun K => errB K "InvalidRelation") rfl)
    · exact errB_ok (c.more 15 (f := fun K => errB K "InvalidRow") rfl)
    · exact errB_ok (c.more 17 (f := fun K => errB K "InvalidRows") rfl)
    · exact errB_ok (c.more 19 (f := fun K => errB K "InvalidSaying") rfl)
    · exact errB_ok (c.more 21 (f := fun K => errB K "InvalidShown") rfl)
    · exact errB_ok (c.more 23 (f := fun K => errB K "InvalidTable") rfl)
    · exact errB_ok (c.more 25 (f := fun K => errB K "InvalidText") rfl)
    · exact errB_ok (c.more 27 (f := fun K => errB K "InvalidTie") rfl)
    · exact errB_ok (c.more 29 (f := fun K => errB K "InvalidWish") rfl)
    · exact errB_ok (c.more 31 (f := fun K => errB K "InvalidWishes") rfl)
    · exact errB_ok (c.more 33 (f := fun K => errB K "NoAnswer") rfl)
    · exact errB_ok (c.more 35 (f := fun K => errB K "NotABook") rfl)
    · exact errB_ok (c.more 37 (f := fun K => errB K "NothingToUndo") rfl)
    · exact errB_ok (c.more 39 (f := fun K => errB K "TooMany") rfl)
    · exact errB_ok (c.more 41 (f := fun K => errB K "UnknownName") rfl)
    · exact errB_ok (c.more 43 (f := fun K => errB K "WrongName") rfl)
    · exact errB_ok (c.more 45 (f := fun K => errB K "WrongValue") rfl)
theorem facts {P : Program} {w : World} {K : PySem.W.Frag} {h : Heap} {mg : Str → Option Value} {a : Addr} (X : K.In h) (G : h.Ns mainGlobals mg) (hm : mg ("law" : Str) = some (.ref a)) (c : SaysV faa fnn exx K) (L : LamK K h) (PF : PFile P fileN) :
    ∃ fd : FuncData, (∀ (s : Shared) (v : Value), BindsTo s fd ⟨[v], []⟩ [("_law_script", v)]) ∧ ∀ base : Heap, K.In base → base.Ns mainGlobals mg → FnG P w K mg base 33 a fd ["_law_script"] (spOf ⟨K, mg⟩ 1 g_law) := by
  obtain ⟨fd__law_error, F__law_error⟩ := c.def_ 0 (d := dd__law_error) rfl
  obtain ⟨fd__law_errors, F__law_errors⟩ := c.def_ 1 (d := dd__law_errors) rfl
  obtain ⟨fd__law_field, F__law_field⟩ := c.def_ 2 (d := dd__law_field) rfl
  obtain ⟨fd__law_draw, F__law_draw⟩ := c.def_ 3 (d := dd__law_draw) rfl
  obtain ⟨fd__law_of, F__law_of⟩ := c.def_ 4 (d := dd__law_of) rfl
  obtain ⟨fd__law_odd, F__law_odd⟩ := c.def_ 5 (d := dd__law_odd) rfl
  obtain ⟨fd__law_right, F__law_right⟩ := c.def_ 6 (d := dd__law_right) rfl
  obtain ⟨fd__law_spring, F__law_spring⟩ := c.def_ 7 (d := dd__law_spring) rfl
  obtain ⟨fd_law, F_law⟩ := c.def_ 8 (d := dd_law) rfl
  have e := hm.symm.trans (He.glo_ok X G (c.fact 8 (f := .glo "law") rfl))
  cases e
  have b := FunD.bindsA (ps := ["_law_script"]) F_law fun _ _ _ _ _ _ us hl => match us, hl with | [_], _ => rfl
  have B := bs_of X G c
  refine ⟨fd_law, fun s v => b s [v] rfl, fun base KB GB => ?_⟩
  have h__law_error : Gd P w K mg base 5 "_law_error" s__law_error ["_law_e"] g__law_error := ok__law_error B PF ⟨_, _, F__law_error, He.glo_ok X G (c.fact 0 (f := .glo "_law_error") rfl)⟩
  have h__law_errors : Gd P w K mg base 5 "_law_errors" s__law_errors ["_law_thing"] g__law_errors := ok__law_errors B PF ⟨_, _, F__law_errors, He.glo_ok X G (c.fact 1 (f := .glo "_law_errors") rfl)⟩
  have h__law_field : Gd P w K mg base 5 "_law_field" s__law_field ["_law_e", "_law_word_now"] g__law_field := ok__law_field B PF ⟨_, _, F__law_field, He.glo_ok X G (c.fact 2 (f := .glo "_law_field") rfl)⟩
  have h__law_draw : Gd P w K mg base 5 "_law_draw" s__law_draw ["_law_spring_here", "_law_size"] g__law_draw := ok__law_draw B PF ⟨_, _, F__law_draw, He.glo_ok X G (c.fact 3 (f := .glo "_law_draw") rfl)⟩
  have h__law_of : Gd P w K mg base 12 "_law_of" s__law_of ["_law_spring_here", "_law_menu"] g__law_of := ok__law_of B PF ⟨_, _, F__law_of, He.glo_ok X G (c.fact 4 (f := .glo "_law_of") rfl)⟩ h__law_draw
  have h__law_odd : Gd P w K mg base 19 "_law_odd" s__law_odd ["_law_spring_here"] g__law_odd := ok__law_odd B PF ⟨_, _, F__law_odd, He.glo_ok X G (c.fact 5 (f := .glo "_law_odd") rfl)⟩ h__law_of
  have h__law_right : Gd P w K mg base 26 "_law_right" s__law_right ["_law_spring_here"] g__law_right := ok__law_right B PF ⟨_, _, F__law_right, He.glo_ok X G (c.fact 6 (f := .glo "_law_right") rfl)⟩ h__law_error h__law_errors h__law_field h__law_odd
  have h__law_spring : Gd P w K mg base 5 "_law_spring" s__law_spring ["_law_cells", "_law_k"] g__law_spring := ok__law_spring B PF ⟨_, _, F__law_spring, He.glo_ok X G (c.fact 7 (f := .glo "_law_spring") rfl)⟩
  exact fok_law B PF F_law h__law_right h__law_spring
end Kv
open PySem PySem.W PySem.Calls PyProof.Rows
theorem PySem.Challenge.cw_saidbyties_k01_errors_and_limits_holds : PySem.Challenge.rw_saidbyties_k01_errors_and_limits.Holds := by
  w_on; o_law
  refine HandSHeadRun.head_any (r := OpenLaw.row PySem.Challenge.rw_saidbyties_k01_errors_and_limits) (q := view (OpenLaw.row PySem.Challenge.rw_saidbyties_k01_errors_and_limits).prog [39]) (H := Kv.hkk) (ob := Kv.obb) (M := 16000) (loose := Kv.loo) (d := HandSHeadRun.topDef (OpenLaw.row PySem.Challenge.rw_saidbyties_k01_errors_and_limits).prog 39) (kwd := []) Kv.obb_eq
    (by kernel_rfl) (fun s => by kernel_rfl) Kv.runs (by kernel_rfl) (by kernel_rfl) (by kernel_rfl) (by rfl) (by first | assumption | decide +kernel) (by decide +kernel) ⟨rfl, rfl, rfl, rfl, rfl, by decide +kernel⟩ ?hw ?hc
  case hw => w_witness2
  case hc =>
    refine Kv.walk_gT (l := PySem.Challenge.rw_saidbyties_k01_errors_and_limits) (n := 63) (k := 33) (x := "_law_script") rfl (by decide) (by kernel_rfl) ⟨rfl, by decide, by decide⟩ ?_
    intro w mg fa h Y G hmg0
    obtain ⟨K, KX, c, L⟩ := Y
    have hmg : mg ("law" : PySem.Str) = some (.ref fa) := by
      have e : (HandSHeadRun.topDef (OpenLaw.row PySem.Challenge.rw_saidbyties_k01_errors_and_limits).prog 39).name = ("law" : PySem.Str) := by kernel_rfl
      rw [← e]
      exact hmg0
    obtain ⟨fd, hb, hF⟩ := Kv.facts (P := (PySem.Challenge.rw_saidbyties_k01_errors_and_limits).prog) (w := w) KX G hmg c L ⟨by kernel_rfl, by kernel_rfl⟩
    exact ⟨K, fd, Kv.g_law, KX, L.tabs KX, hb, fun ns hl hk => Kv.plain ns hl hk, hF⟩
