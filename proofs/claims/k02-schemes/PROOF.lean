import PyProof.Rows.All
import Wide.All
import OpenK.AllK
import Wide.FinOn
import HandS.ForExc
import HandS.ForMost
import HandS.Zip
import HandS.Star
import HandS.Wide
import HandS.TupMul
import HandS.TupAny
import HandS.ClsMeth
import HandS.Property
import HandS.Defaults
import HandS.IsInst
import HandS.TryOnly
import HandS.Style
import HandS.TupLen
import HandS.WordsDict
import HandS.Small
import KE.GoesEnumKw
import HandS.Conv
import KE.SortData
import KE.KDictSum
import HandS.Rev
import HandS.RaiseMore
import PyProof.ReprRoads
import HandS.EndBits
import HandS.WideMore
import PyProof.ListIndex
import PyProof.ListIndexNeg
import HandS.TupLe
import HandS.Iter
import HandS.WideBits
import HandS.Text
import HandS.ExcInit
import HandS.ExcField
import HandS.ExcIs
import KE.KIsAll
import HandS.Remove
import PyProof.DictUpdate
import KE.KStateDown
import HandS.Head0
import HandS.Head1
import HandS.Head2
import HandS.HeadHook1
import PyProof.CallFns
import PyProof.Rows.IntBool
import PyProof.CallStr
import PyProof.GenQ
import PyProof.GenRules
import PyProof.GenComp
import PyProof.ForAny
import HandS.GenList
import HandS.GenOver
import PyProof.ListStr
import KE.KUnpackStar
import HandS.ExcValue
import PyProof.RulesMatchSeq
import PyProof.Rows.MatchSeqLen
import HandS.SetFor
import HandS.TupSets
import KE.KDictCopyH
import PyProof.P3In
import HandS.Keys
import HandS.DictComp
import PyProof.FactsLen
import PyProof.TupleOfGen
import HandS.HeadHook3
import KE.KTupSum
import KE.KDictOf
import HandS.Flow
import PyProof.Rows.StrRev
import KE.KMethU
import KE.IntTextText
import PySem.Challenge.RW_crossnought_k02_schemes_of_any_values
set_option Elab.async false
set_option linter.all false
set_option maxRecDepth 100000
set_option maxHeartbeats 4000000
namespace DL
open PySem PySem.Spec PyProof.Rows L2
def refsX (o : Obj) : List Addr := match o.data with
  | .dict es _ => es.toList.flatMap fun e => He.refV e.val
  | .func fd => He.refV fd.code ++ He.refV fd.kwdefaults
  | .cls cd => [cd.ns]
  | .fields vs => vs.toList.flatMap He.refV
  | _ => []
def nextX (g : Addr → Option Obj) (as : List Addr) : List Addr := as.flatMap fun a => match g a with
  | some o => refsX o
  | none => []
def levX (g : Addr → Option Obj) : Nat → List Addr → List Addr
  | 0, as => as
  | n + 1, as => as ++ levX g n (nextX g as)
def asX (g : Addr → Option Obj) : List Addr := PySem.cStatics :: levX g 5 [mainGlobals]
def frX (g : Addr → Option Obj) : PySem.W.Frag := He.frG g (asX g)
def gmA (K : PySem.W.Frag) (C : Addr) (m : Str) : Addr := match PySem.W.findCls K (.ref C) (.type "type") m with
  | some (.get _ (.ref p) _ _) => p
  | _ => 0
def rcA (K : PySem.W.Frag) (p : Addr) (T : String) : Addr := match PySem.W.recIn K p T with
  | some (.ref f :: _) => f
  | _ => 0
def eqO (a b : Option (Option Value)) : Bool := decide (a = b)
def eqV (a b : Option Value) : Bool := decide (a = b)
def eqB (a b : Option Bool) : Bool := decide (a = b)
def isInt (o : Option (Option Value)) (i : Int) : Bool := match o with
  | some (some (.int j _)) => decide (j = i)
  | _ => false
def isRec (o : Option (List Value)) (f : Addr) : Bool := match o with
  | some (.ref a :: _) => decide (a = f)
  | _ => false
def isGet (o : Option PySem.W.CFound) (b : String) (p C : Addr) : Bool := match o with
  | some (.get (.builtin c) (.ref q) .none (.ref D)) => decide (c = b) && (decide (q = p) && decide (D = C))
  | _ => false
def isVInt (o : Option PySem.W.CFound) (i : Int) : Bool := match o with
  | some (.val (.int j _)) => decide (j = i)
  | _ => false
def isVBi (o : Option PySem.W.CFound) (b : String) : Bool := match o with
  | some (.val (.builtin c)) => decide (c = b)
  | _ => false
def relX : V → Value → Bool
  | .int i, .int j _ => decide (i = j)
  | .str x, .str y _ => decide (x = y)
  | _, _ => false
def relsX : List V → List Value → Bool
  | [], [] => true
  | v :: vs, u :: us => relX v u && relsX vs us
  | _, _ => false
def isTupX (K : PySem.W.Frag) (a : Addr) (xs : List V) : Bool := match K.lookup a with
  | some ⟨.type T, _, .seq its _, _⟩ => decide (T = "tuple") && (Nat.ble its.size 1000 && relsX xs its.toList)
  | _ => false
def isExcX (K : PySem.W.Frag) (C : Addr) (mro : List Value) (nw : String) : Bool := match K.lookup C with
  | some ⟨.type T, _, .cls cd, sl⟩ => decide (T = "type") && (decide (cd.mro = .ref C :: mro) && (cd.hasDict && (!cd.hasDel && (match sl.toList with
    | [_, _, _, _, some (.builtin b), _] => decide (b = nw)
    | _ => false))))
  | _ => false
def fnOb (K : PySem.W.Frag) (a : Addr) : He.FnV := match K.lookup a with
  | some ⟨_, _, .func fd, _⟩ => some (fd.name, fd.qualname, fd.params, fd.body, fd.scope, fd.globals, fd.closure, fd.defaults, fd.builtins)
  | _ => none
structure HdF where
  at_ : PySem.W.Frag → Addr
  name : Str
  qual : Str
  params : Arguments
  body : List Stmt
  scope : Scope
def HdF.val (d : HdF) : He.FnV := some (d.name, d.qual, d.params, .stmts d.body, d.scope, mainGlobals, [], .none, builtinsNs)
def codeX (K : PySem.W.Frag) (a : Addr) (q : Str) : Bool := match K.lookup a with
  | some ⟨_, _, .func fd, _⟩ => PySem.W.codeIn K fd.code q
  | _ => false
abbrev AlX : Type := Bool × List He.FnV
def obX (fa : PySem.W.Frag → List Bool) (fn : List HdF) (K : PySem.W.Frag) : AlX := ((fa K).all id && fn.all fun d => codeX K (d.at_ K) d.qual, fn.map fun d => fnOb K (d.at_ K))
def valX (fn : List HdF) : AlX := (true, fn.map HdF.val)
def SaysX (fa : PySem.W.Frag → List Bool) (fn : List HdF) (K : PySem.W.Frag) : Prop := obX fa fn K = valX fn
def hookX (fa : PySem.W.Frag → List Bool) (fn : List HdF) : PySem.W.Hook where
  α := AlX
  obs := fun s => obX fa fn (frX s.heap.get?)
  val := fun _ => valX fn
  says := fun _ h => ∃ K : PySem.W.Frag, K.In h ∧ SaysX fa fn K
  of := fun _ _ e => ⟨_, He.frG_in, e⟩
  keeps := fun _ _ _ ⟨K, hK, c⟩ k => ⟨K, PySem.W.Frag.In.keeps hK k, c⟩
def obsX (fa : PySem.W.Frag → List Bool) (fn : List HdF) (s : PySem.W.SharedT) : AlX := obX fa fn (frX (HandSHeadRun.getT s))
abbrev TabX : Type := (PySem.W.Frag → Addr) × List Str
abbrev AlY : Type := AlX × List (Option (List (Option (Str × Int))))
def obY (fa : PySem.W.Frag → List Bool) (fn : List HdF) (ts : List TabX) (K : PySem.W.Frag) : AlY := (obX fa fn K, ts.map fun t => He.dicW K (t.1 K))
def valY (fn : List HdF) (ts : List TabX) (w : World) : AlY := (valX fn, ts.map fun t => some (He.keysIn w.params t.2))
def SaysY (fa : PySem.W.Frag → List Bool) (fn : List HdF) (ts : List TabX) (w : World) (K : PySem.W.Frag) : Prop := obY fa fn ts K = valY fn ts w
end DL
namespace K02
open PySem PySem.Spec PyProof.Rows L2 DL
def top (i : Nat) : Stmt := PySem.Challenge.pw_crossnought_k02_schemes_of_any_values.main.body.getD i (.Pass ⟨0, 0, 0, 0⟩)
abbrev s__law_deck : Stmt := top 20
abbrev s_is_between : Stmt := top 17
abbrev s_reduced_modulo : Stmt := top 10
abbrev s_power_of : Stmt := top 11
abbrev s_is_probable : Stmt := top 12
abbrev s_is_odd_prime : Stmt := top 13
abbrev s_Scheme_is_prime : Stmt := inClass (top 18) 4
abbrev s_Scheme__init_ : Stmt := inClass (top 18) 3
abbrev s__law_is_prime : Stmt := top 23
abbrev s__law_prime_from : Stmt := top 26
abbrev s__law_draw : Stmt := top 21
abbrev s__law_pick : Stmt := top 22
abbrev s__law_parts : Stmt := top 27
abbrev s__law_is_between : Stmt := top 24
abbrev s__law_wrong : Stmt := top 25
abbrev s__law_outcome : Stmt := top 28
abbrev s_Scheme_shortened : Stmt := inClass (top 18) 11
abbrev s_Scheme_is_same : Stmt := inClass (top 18) 10
abbrev s_Scheme_prime : Stmt := inClass (top 18) 6
abbrev s_Scheme_accounts : Stmt := inClass (top 18) 7
abbrev s_Scheme_length : Stmt := inClass (top 18) 8
abbrev s_Scheme_largest_amount : Stmt := inClass (top 18) 9
abbrev s__law_numbers : Stmt := top 29
abbrev s__law_created_correct : Stmt := top 30
abbrev s__law_correct : Stmt := top 31
abbrev s_law : Stmt := top 32
abbrev s_BadScheme__init_ : Stmt := inClass (top 3) 0
abbrev hR : PySem.W.OpenRow := PySem.W.OpenLaw.row PySem.Challenge.rw_crossnought_k02_schemes_of_any_values
def nm0 : List PySem.Str := ["_wall", "__name__", "CrossError", "BadScheme", "BadAmount", "BadText", "UnknownAccount", "NoInverse", "__name__", "BASES", "reduced_modulo", "power_of", "is_probable", "is_odd_prime", "inverse_modulo", "__name__", "LEAST_ACCOUNTS", "is_between", "Scheme", "__name__", "_law_deck", "_law_draw", "_law_pick", "_law_is_prime", "_law_is_between", "_law_wrong", "_law_prime_from", "_law_parts", "_law_outcome", "_law_numbers"]
def nm1 : List PySem.Str := ["_law_created_correct", "_law_correct"]
def names : List PySem.Str := nm0 ++ nm1
def hd__law_deck : DL.HdF := ⟨fun K => (He.ga K "_law_deck"), "_law_deck", "_law_deck", defArgs s__law_deck, defBody s__law_deck, defScope s__law_deck⟩
def hd_is_between : DL.HdF := ⟨fun K => (He.ga K "is_between"), "is_between", "is_between", defArgs s_is_between, defBody s_is_between, defScope s_is_between⟩
def hd_reduced_modulo : DL.HdF := ⟨fun K => (He.ga K "reduced_modulo"), "reduced_modulo", "reduced_modulo", defArgs s_reduced_modulo, defBody s_reduced_modulo, defScope s_reduced_modulo⟩
def hd_power_of : DL.HdF := ⟨fun K => (He.ga K "power_of"), "power_of", "power_of", defArgs s_power_of, defBody s_power_of, defScope s_power_of⟩
def hd_is_probable : DL.HdF := ⟨fun K => (He.ga K "is_probable"), "is_probable", "is_probable", defArgs s_is_probable, defBody s_is_probable, defScope s_is_probable⟩
def hd_is_odd_prime : DL.HdF := ⟨fun K => (He.ga K "is_odd_prime"), "is_odd_prime", "is_odd_prime", defArgs s_is_odd_prime, defBody s_is_odd_prime, defScope s_is_odd_prime⟩
def hd_Scheme_is_prime : DL.HdF := ⟨fun K => (DL.rcA K (DL.gmA K (He.ga K "Scheme") "is_prime") "staticmethod"), "is_prime", "Scheme.is_prime", defArgs s_Scheme_is_prime, defBody s_Scheme_is_prime, defScope s_Scheme_is_prime⟩
def hd_Scheme__init_ : DL.HdF := ⟨fun K => (He.ma K (He.ga K "Scheme") "__init__"), "__init__", "Scheme.__init__", defArgs s_Scheme__init_, defBody s_Scheme__init_, defScope s_Scheme__init_⟩
def hd__law_is_prime : DL.HdF := ⟨fun K => (He.ga K "_law_is_prime"), "_law_is_prime", "_law_is_prime", defArgs s__law_is_prime, defBody s__law_is_prime, defScope s__law_is_prime⟩
def hd__law_prime_from : DL.HdF := ⟨fun K => (He.ga K "_law_prime_from"), "_law_prime_from", "_law_prime_from", defArgs s__law_prime_from, defBody s__law_prime_from, defScope s__law_prime_from⟩
def hd__law_draw : DL.HdF := ⟨fun K => (He.ga K "_law_draw"), "_law_draw", "_law_draw", defArgs s__law_draw, defBody s__law_draw, defScope s__law_draw⟩
def hd__law_pick : DL.HdF := ⟨fun K => (He.ga K "_law_pick"), "_law_pick", "_law_pick", defArgs s__law_pick, defBody s__law_pick, defScope s__law_pick⟩
def hd__law_parts : DL.HdF := ⟨fun K => (He.ga K "_law_parts"), "_law_parts", "_law_parts", defArgs s__law_parts, defBody s__law_parts, defScope s__law_parts⟩
def hd__law_is_between : DL.HdF := ⟨fun K => (He.ga K "_law_is_between"), "_law_is_between", "_law_is_between", defArgs s__law_is_between, defBody s__law_is_between, defScope s__law_is_between⟩
def hd__law_wrong : DL.HdF := ⟨fun K => (He.ga K "_law_wrong"), "_law_wrong", "_law_wrong", defArgs s__law_wrong, defBody s__law_wrong, defScope s__law_wrong⟩
def hd__law_outcome : DL.HdF := ⟨fun K => (He.ga K "_law_outcome"), "_law_outcome", "_law_outcome", defArgs s__law_outcome, defBody s__law_outcome, defScope s__law_outcome⟩
def hd_Scheme_shortened : DL.HdF := ⟨fun K => (He.ma K (He.ga K "Scheme") "shortened"), "shortened", "Scheme.shortened", defArgs s_Scheme_shortened, defBody s_Scheme_shortened, defScope s_Scheme_shortened⟩
def hd_Scheme_is_same : DL.HdF := ⟨fun K => (He.ma K (He.ga K "Scheme") "is_same"), "is_same", "Scheme.is_same", defArgs s_Scheme_is_same, defBody s_Scheme_is_same, defScope s_Scheme_is_same⟩
def hd_Scheme_prime : DL.HdF := ⟨fun K => (DL.rcA K (He.ma K (He.ga K "Scheme") "prime") "property"), "prime", "Scheme.prime", defArgs s_Scheme_prime, defBody s_Scheme_prime, defScope s_Scheme_prime⟩
def hd_Scheme_accounts : DL.HdF := ⟨fun K => (DL.rcA K (He.ma K (He.ga K "Scheme") "accounts") "property"), "accounts", "Scheme.accounts", defArgs s_Scheme_accounts, defBody s_Scheme_accounts, defScope s_Scheme_accounts⟩
def hd_Scheme_length : DL.HdF := ⟨fun K => (DL.rcA K (He.ma K (He.ga K "Scheme") "length") "property"), "length", "Scheme.length", defArgs s_Scheme_length, defBody s_Scheme_length, defScope s_Scheme_length⟩
def hd_Scheme_largest_amount : DL.HdF := ⟨fun K => (DL.rcA K (He.ma K (He.ga K "Scheme") "largest_amount") "property"), "largest_amount", "Scheme.largest_amount", defArgs s_Scheme_largest_amount, defBody s_Scheme_largest_amount, defScope s_Scheme_largest_amount⟩
def hd__law_numbers : DL.HdF := ⟨fun K => (He.ga K "_law_numbers"), "_law_numbers", "_law_numbers", defArgs s__law_numbers, defBody s__law_numbers, defScope s__law_numbers⟩
def hd__law_created_correct : DL.HdF := ⟨fun K => (He.ga K "_law_created_correct"), "_law_created_correct", "_law_created_correct", defArgs s__law_created_correct, defBody s__law_created_correct, defScope s__law_created_correct⟩
def hd__law_correct : DL.HdF := ⟨fun K => (He.ga K "_law_correct"), "_law_correct", "_law_correct", defArgs s__law_correct, defBody s__law_correct, defScope s__law_correct⟩
def hd_law : DL.HdF := ⟨fun K => (He.ga K "law"), "law", "law", defArgs s_law, defBody s_law, defScope s_law⟩
def hd_BadScheme__init_ : DL.HdF := ⟨fun K => (He.ma K (He.ga K "BadScheme") "__init__"), "__init__", "BadScheme.__init__", defArgs s_BadScheme__init_, defBody s_BadScheme__init_, defScope s_BadScheme__init_⟩
def fns : List DL.HdF := [hd__law_deck, hd_is_between, hd_reduced_modulo, hd_power_of, hd_is_probable, hd_is_odd_prime, hd_Scheme_is_prime, hd_Scheme__init_, hd__law_is_prime, hd__law_prime_from, hd__law_draw, hd__law_pick, hd__law_parts, hd__law_is_between, hd__law_wrong, hd__law_outcome, hd_Scheme_shortened, hd_Scheme_is_same, hd_Scheme_prime, hd_Scheme_accounts, hd_Scheme_length, hd_Scheme_largest_amount, hd__law_numbers, hd__law_created_correct, hd__law_correct, hd_law, hd_BadScheme__init_]
def fcts (K : PySem.W.Frag) : List Bool := [DL.eqO (PySem.W.nsIn K mainGlobals "Scheme") (some (some (.ref (He.ga K "Scheme")))),
  DL.eqO (PySem.W.nsIn K mainGlobals "_law_deck") (some (some (.ref (He.ga K "_law_deck")))),
  PySem.W.keepIn K (.ref (He.ga K "_law_deck")),
  DL.eqO (PySem.W.nsIn K mainGlobals "is_between") (some (some (.ref (He.ga K "is_between")))),
  PySem.W.keepIn K (.ref (He.ga K "is_between")),
  DL.eqO (PySem.W.nsIn K mainGlobals "reduced_modulo") (some (some (.ref (He.ga K "reduced_modulo")))),
  PySem.W.keepIn K (.ref (He.ga K "reduced_modulo")),
  DL.eqO (PySem.W.nsIn K mainGlobals "power_of") (some (some (.ref (He.ga K "power_of")))),
  PySem.W.keepIn K (.ref (He.ga K "power_of")),
  DL.eqO (PySem.W.nsIn K mainGlobals "is_probable") (some (some (.ref (He.ga K "is_probable")))),
  PySem.W.keepIn K (.ref (He.ga K "is_probable")),
  DL.eqO (PySem.W.nsIn K mainGlobals "is_odd_prime") (some (some (.ref (He.ga K "is_odd_prime")))),
  PySem.W.keepIn K (.ref (He.ga K "is_odd_prime")),
  DL.isGet (PySem.W.findCls K (.ref (He.ga K "Scheme")) (.type "type") "is_prime") "staticmethod.__get__" (DL.gmA K (He.ga K "Scheme") "is_prime") (He.ga K "Scheme"),
  DL.isRec (PySem.W.recIn K (DL.gmA K (He.ga K "Scheme") "is_prime") "staticmethod") (DL.rcA K (DL.gmA K (He.ga K "Scheme") "is_prime") "staticmethod"),
  PySem.W.keepIn K (.ref (DL.rcA K (DL.gmA K (He.ga K "Scheme") "is_prime") "staticmethod")),
  DL.eqO (PySem.W.findIn K (.ref (He.ga K "Scheme")) "__init__") (some (some (.ref (He.ma K (He.ga K "Scheme") "__init__")))),
  PySem.W.isFn K (.ref (He.ma K (He.ga K "Scheme") "__init__")),
  PySem.W.keepIn K (.ref (He.ma K (He.ga K "Scheme") "__init__")),
  DL.eqO (PySem.W.nsIn K mainGlobals "_law_is_prime") (some (some (.ref (He.ga K "_law_is_prime")))),
  PySem.W.keepIn K (.ref (He.ga K "_law_is_prime")),
  DL.eqO (PySem.W.nsIn K mainGlobals "_law_prime_from") (some (some (.ref (He.ga K "_law_prime_from")))),
  PySem.W.keepIn K (.ref (He.ga K "_law_prime_from")),
  DL.eqO (PySem.W.nsIn K mainGlobals "_law_draw") (some (some (.ref (He.ga K "_law_draw")))),
  PySem.W.keepIn K (.ref (He.ga K "_law_draw")),
  DL.eqO (PySem.W.nsIn K mainGlobals "_law_pick") (some (some (.ref (He.ga K "_law_pick")))),
  PySem.W.keepIn K (.ref (He.ga K "_law_pick")),
  DL.eqO (PySem.W.nsIn K mainGlobals "_law_parts") (some (some (.ref (He.ga K "_law_parts")))),
  PySem.W.keepIn K (.ref (He.ga K "_law_parts")),
  DL.eqO (PySem.W.nsIn K mainGlobals "_law_is_between") (some (some (.ref (He.ga K "_law_is_between")))),
  PySem.W.keepIn K (.ref (He.ga K "_law_is_between")),
  DL.eqO (PySem.W.nsIn K mainGlobals "_law_wrong") (some (some (.ref (He.ga K "_law_wrong")))),
  PySem.W.keepIn K (.ref (He.ga K "_law_wrong")),
  DL.eqO (PySem.W.nsIn K mainGlobals "_law_outcome") (some (some (.ref (He.ga K "_law_outcome")))),
  PySem.W.keepIn K (.ref (He.ga K "_law_outcome")),
  DL.eqO (PySem.W.findIn K (.ref (He.ga K "Scheme")) "shortened") (some (some (.ref (He.ma K (He.ga K "Scheme") "shortened")))),
  PySem.W.isFn K (.ref (He.ma K (He.ga K "Scheme") "shortened")),
  PySem.W.keepIn K (.ref (He.ma K (He.ga K "Scheme") "shortened")),
  DL.eqO (PySem.W.findIn K (.ref (He.ga K "Scheme")) "is_same") (some (some (.ref (He.ma K (He.ga K "Scheme") "is_same")))),
  PySem.W.isFn K (.ref (He.ma K (He.ga K "Scheme") "is_same")),
  PySem.W.keepIn K (.ref (He.ma K (He.ga K "Scheme") "is_same")),
  DL.eqO (PySem.W.findIn K (.ref (He.ga K "Scheme")) "prime") (some (some (.ref (He.ma K (He.ga K "Scheme") "prime")))),
  DL.eqO (PySem.W.specialIn K (.ref (He.ma K (He.ga K "Scheme") "prime")) "__get__") (some (some (.builtin "property.__get__"))),
  DL.eqB (PySem.W.takesIn K (.ref (He.ma K (He.ga K "Scheme") "prime"))) (some true),
  DL.isRec (PySem.W.recIn K (He.ma K (He.ga K "Scheme") "prime") "property") (DL.rcA K (He.ma K (He.ga K "Scheme") "prime") "property"),
  PySem.W.keepIn K (.ref (DL.rcA K (He.ma K (He.ga K "Scheme") "prime") "property")),
  DL.eqO (PySem.W.findIn K (.ref (He.ga K "Scheme")) "accounts") (some (some (.ref (He.ma K (He.ga K "Scheme") "accounts")))),
  DL.eqO (PySem.W.specialIn K (.ref (He.ma K (He.ga K "Scheme") "accounts")) "__get__") (some (some (.builtin "property.__get__"))),
  DL.eqB (PySem.W.takesIn K (.ref (He.ma K (He.ga K "Scheme") "accounts"))) (some true),
  DL.isRec (PySem.W.recIn K (He.ma K (He.ga K "Scheme") "accounts") "property") (DL.rcA K (He.ma K (He.ga K "Scheme") "accounts") "property"),
  PySem.W.keepIn K (.ref (DL.rcA K (He.ma K (He.ga K "Scheme") "accounts") "property")),
  DL.eqO (PySem.W.findIn K (.ref (He.ga K "Scheme")) "length") (some (some (.ref (He.ma K (He.ga K "Scheme") "length")))),
  DL.eqO (PySem.W.specialIn K (.ref (He.ma K (He.ga K "Scheme") "length")) "__get__") (some (some (.builtin "property.__get__"))),
  DL.eqB (PySem.W.takesIn K (.ref (He.ma K (He.ga K "Scheme") "length"))) (some true),
  DL.isRec (PySem.W.recIn K (He.ma K (He.ga K "Scheme") "length") "property") (DL.rcA K (He.ma K (He.ga K "Scheme") "length") "property"),
  PySem.W.keepIn K (.ref (DL.rcA K (He.ma K (He.ga K "Scheme") "length") "property")),
  DL.eqO (PySem.W.findIn K (.ref (He.ga K "Scheme")) "largest_amount") (some (some (.ref (He.ma K (He.ga K "Scheme") "largest_amount")))),
  DL.eqO (PySem.W.specialIn K (.ref (He.ma K (He.ga K "Scheme") "largest_amount")) "__get__") (some (some (.builtin "property.__get__"))),
  DL.eqB (PySem.W.takesIn K (.ref (He.ma K (He.ga K "Scheme") "largest_amount"))) (some true),
  DL.isRec (PySem.W.recIn K (He.ma K (He.ga K "Scheme") "largest_amount") "property") (DL.rcA K (He.ma K (He.ga K "Scheme") "largest_amount") "property"),
  PySem.W.keepIn K (.ref (DL.rcA K (He.ma K (He.ga K "Scheme") "largest_amount") "property")),
  DL.eqO (PySem.W.nsIn K mainGlobals "_law_numbers") (some (some (.ref (He.ga K "_law_numbers")))),
  PySem.W.keepIn K (.ref (He.ga K "_law_numbers")),
  DL.eqO (PySem.W.nsIn K mainGlobals "_law_created_correct") (some (some (.ref (He.ga K "_law_created_correct")))),
  PySem.W.keepIn K (.ref (He.ga K "_law_created_correct")),
  DL.eqO (PySem.W.nsIn K mainGlobals "_law_correct") (some (some (.ref (He.ga K "_law_correct")))),
  PySem.W.keepIn K (.ref (He.ga K "_law_correct")),
  DL.eqO (PySem.W.nsIn K mainGlobals "law") (some (some (.ref (He.ga K "law")))),
  PySem.W.keepIn K (.ref (He.ga K "law")),
  DL.eqO (PySem.W.nsIn K mainGlobals "BadScheme") (some (some (.ref (He.ga K "BadScheme")))),
  DL.eqO (PySem.W.nsIn K mainGlobals "NoInverse") (some (some (.ref (He.ga K "NoInverse")))),
  DL.eqO (PySem.W.nsIn K mainGlobals "UnknownAccount") (some (some (.ref (He.ga K "UnknownAccount")))),
  DL.eqO (PySem.W.nsIn K mainGlobals "BadText") (some (some (.ref (He.ga K "BadText")))),
  DL.eqO (PySem.W.nsIn K mainGlobals "BadAmount") (some (some (.ref (He.ga K "BadAmount")))),
  DL.eqO (PySem.W.nsIn K mainGlobals "CrossError") (some (some (.ref (He.ga K "CrossError")))),
  DL.eqO (PySem.W.findIn K (.ref (He.ga K "BadScheme")) "__init__") (some (some (.ref (He.ma K (He.ga K "BadScheme") "__init__")))),
  PySem.W.keepIn K (.ref (He.ma K (He.ga K "BadScheme") "__init__")),
  DL.isExcX K (He.ga K "BadScheme") [.ref (He.ga K "CrossError"), .type "ValueError", .type "Exception", .type "BaseException", .type "object"] "ValueError.__new__",
  DL.eqO (PySem.W.findIn K (.ref (He.ga K "BadScheme")) "__setattr__") (some (some (.builtin "object.__setattr__"))),
  DL.eqB (PySem.W.subIn K (.ref (He.ga K "BadScheme")) (.type "BaseException")) (some true),
  DL.eqV (PySem.W.typeIn K (.ref (He.ga K "BadScheme"))) (some (.type "type")),
  PySem.W.keepIn K (.ref (He.ga K "BadScheme")),
  DL.eqV (PySem.W.typeIn K (.ref (He.ma K (He.ga K "BadScheme") "__init__"))) (some (.type "function")),
  DL.eqO (PySem.W.findIn K (.ref (He.ga K "BadScheme")) "value") (some none),
  PySem.W.readsIn K (He.ga K "CrossError") (.type "type"),
  DL.eqO (PySem.W.specialIn K (.ref (He.ga K "CrossError")) "__getattribute__") (some (some (.builtin "type.__getattribute__"))),
  DL.isVBi (PySem.W.findCls K (.ref (He.ga K "CrossError")) (.type "type") "__init__") "ValueError.__init__",
  DL.eqO (PySem.W.findIn K (.ref (He.ga K "BadScheme")) "__getattribute__") (some (some (.builtin "BaseException.__getattribute__"))),
  DL.eqO (PySem.W.findIn K (.ref (He.ga K "BadScheme")) "__getattr__") (some none),
  PySem.W.hasDictIn K (He.ga K "BadScheme"),
  DL.eqO (PySem.W.findIn K (.ref (He.ga K "BadScheme")) "__class__") (some (some (.builtin "object.__class__"))),
  DL.eqO (PySem.W.specialIn K (.builtin "object.__class__") "__get__") (some (some (.builtin "getset_descriptor.__get__"))),
  DL.eqB (PySem.W.takesIn K (.builtin "object.__class__")) (some true),
  DL.eqB (PySem.W.mroIn K (He.ga K "BadScheme") (.type "object")) (some true),
  DL.eqB (PySem.W.subIn K (.ref (He.ga K "BadScheme")) (.ref (He.ga K "BadScheme"))) (some true),
  DL.eqB (PySem.W.subIn K (.ref (He.ga K "BadScheme")) (.type "BaseException")) (some true),
  PySem.W.hasDictIn K (He.ga K "BadScheme"),
  DL.eqV (PySem.W.typeIn K (.ref (He.ga K "BadScheme"))) (some (.type "type")),
  DL.eqB (PySem.W.subIn K (.ref (He.ga K "NoInverse")) (.type "BaseException")) (some true),
  PySem.W.hasDictIn K (He.ga K "NoInverse"),
  DL.eqV (PySem.W.typeIn K (.ref (He.ga K "NoInverse"))) (some (.type "type")),
  DL.eqB (PySem.W.subIn K (.ref (He.ga K "BadScheme")) (.ref (He.ga K "NoInverse"))) (some false),
  DL.eqB (PySem.W.subIn K (.ref (He.ga K "NoInverse")) (.ref (He.ga K "NoInverse"))) (some true),
  DL.eqB (PySem.W.subIn K (.ref (He.ga K "UnknownAccount")) (.type "BaseException")) (some true),
  PySem.W.hasDictIn K (He.ga K "UnknownAccount"),
  DL.eqV (PySem.W.typeIn K (.ref (He.ga K "UnknownAccount"))) (some (.type "type")),
  DL.eqB (PySem.W.subIn K (.ref (He.ga K "BadScheme")) (.ref (He.ga K "UnknownAccount"))) (some false),
  DL.eqB (PySem.W.subIn K (.ref (He.ga K "UnknownAccount")) (.ref (He.ga K "UnknownAccount"))) (some true),
  DL.eqB (PySem.W.subIn K (.ref (He.ga K "BadText")) (.type "BaseException")) (some true),
  PySem.W.hasDictIn K (He.ga K "BadText"),
  DL.eqV (PySem.W.typeIn K (.ref (He.ga K "BadText"))) (some (.type "type")),
  DL.eqB (PySem.W.subIn K (.ref (He.ga K "BadScheme")) (.ref (He.ga K "BadText"))) (some false),
  DL.eqB (PySem.W.subIn K (.ref (He.ga K "BadText")) (.ref (He.ga K "BadText"))) (some true),
  DL.eqB (PySem.W.subIn K (.ref (He.ga K "BadAmount")) (.type "BaseException")) (some true),
  PySem.W.hasDictIn K (He.ga K "BadAmount"),
  DL.eqV (PySem.W.typeIn K (.ref (He.ga K "BadAmount"))) (some (.type "type")),
  DL.eqB (PySem.W.subIn K (.ref (He.ga K "BadScheme")) (.ref (He.ga K "BadAmount"))) (some false),
  DL.eqB (PySem.W.subIn K (.ref (He.ga K "BadAmount")) (.ref (He.ga K "BadAmount"))) (some true),
  DL.eqB (PySem.W.subIn K (.ref (He.ga K "CrossError")) (.type "BaseException")) (some true),
  PySem.W.hasDictIn K (He.ga K "CrossError"),
  DL.eqV (PySem.W.typeIn K (.ref (He.ga K "CrossError"))) (some (.type "type")),
  DL.eqB (PySem.W.subIn K (.ref (He.ga K "BadScheme")) (.ref (He.ga K "CrossError"))) (some true),
  DL.eqB (PySem.W.subIn K (.ref (He.ga K "CrossError")) (.ref (He.ga K "CrossError"))) (some true),
  PySem.W.plainGet K (He.ga K "Scheme") Str.empty,
  PySem.W.hasDictIn K (He.ga K "Scheme"),
  PySem.W.plainOver K (He.ga K "Scheme"),
  DL.eqO (PySem.W.findIn K (.ref (He.ga K "Scheme")) "__setattr__") (some (some (.builtin "object.__setattr__"))),
  PySem.W.makesIn K (He.ga K "Scheme"),
  PySem.W.keepIn K (.ref (He.ga K "Scheme")),
  DL.eqO (PySem.W.findIn K (.ref (He.ga K "Scheme")) "__class__") (some (some (.builtin "object.__class__"))),
  DL.eqO (PySem.W.specialIn K (.builtin "object.__class__") "__get__") (some (some (.builtin "getset_descriptor.__get__"))),
  DL.eqB (PySem.W.takesIn K (.builtin "object.__class__")) (some true),
  DL.eqB (PySem.W.mroIn K (He.ga K "Scheme") (.type "object")) (some true),
  DL.eqV (PySem.W.typeIn K (.ref (He.ga K "Scheme"))) (some (.type "type")),
  PySem.W.readsIn K (He.ga K "Scheme") (.type "type"),
  DL.eqO (PySem.W.specialIn K (.ref (He.ga K "Scheme")) "__getattribute__") (some (some (.builtin "type.__getattribute__"))),
  DL.eqO (PySem.W.nsIn K mainGlobals "all") (some none),
  DL.eqO (PySem.W.nsIn K mainGlobals "bool") (some none),
  DL.eqO (PySem.W.nsIn K mainGlobals "int") (some none),
  DL.eqO (PySem.W.nsIn K mainGlobals "isinstance") (some none),
  DL.eqO (PySem.W.nsIn K mainGlobals "len") (some none),
  DL.eqO (PySem.W.nsIn K mainGlobals "list") (some none),
  DL.eqO (PySem.W.nsIn K mainGlobals "range") (some none),
  DL.eqO (PySem.W.nsIn K mainGlobals "repr") (some none),
  DL.eqO (PySem.W.nsIn K mainGlobals "BASES") (some (some (.ref (He.ga K "BASES")))),
  DL.isTupX K (He.ga K "BASES") [.int 2, .int 3, .int 5, .int 7],
  DL.isInt (PySem.W.nsIn K mainGlobals "LEAST_ACCOUNTS") 2,
  DL.isVInt (PySem.W.findCls K (.ref (He.ga K "Scheme")) (.type "type") "LARGEST_PRIME") 1000000000,
  DL.isVInt (PySem.W.findCls K (.ref (He.ga K "Scheme")) (.type "type") "MOST_ACCOUNTS") 24,
  DL.isVInt (PySem.W.findCls K (.ref (He.ga K "Scheme")) (.type "type") "MOST_NUMBERS") 24,
  DL.isInt (PySem.W.findIn K (.ref (He.ga K "Scheme")) "LARGEST_PRIME") 1000000000,
  DL.isInt (PySem.W.findIn K (.ref (He.ga K "Scheme")) "MOST_ACCOUNTS") 24,
  DL.isInt (PySem.W.findIn K (.ref (He.ga K "Scheme")) "MOST_NUMBERS") 24,
  DL.eqO (PySem.W.findIn K (.ref (He.ga K "Scheme")) "accounts_used") (some none),
  DL.eqO (PySem.W.findIn K (.ref (He.ga K "Scheme")) "length_used") (some none),
  DL.eqO (PySem.W.findIn K (.ref (He.ga K "Scheme")) "prime_used") (some none)]
theorem hrun (w : World) : HandSHeadRun.RunEq hR (PySem.W.view hR.prog [32]) (DL.hookX fcts fns) (DL.obsX fcts fns) 40000 names w := by
  intro os
  kernel_rfl
end K02
namespace DL
open PySem PySem.Spec PyProof.Rows L2
inductive D where
  | non | bl (b : Bool) | int (i : Int) | str (x : Str)
  | tup (ds : List D) | lst (ds : List D)
  | dK (kvs : List (Key × D)) | dT (kvs : List (List Key × D))
  | obj (c : Nat) (fs : List D)
  | ref (n : Nat)
  | scr (ds : List D)
  | wtp (ds : List D)
  | con (a : Addr) | ty (n : String)
  | err (c : Nat) (d : D)
inductive Cell where
  | lst (ds : List D) | dK (kvs : List (Key × D)) | dT (kvs : List (List Key × D)) | ins (c : Nat) (fs : List D)
abbrev Sto := List (Option Cell)
abbrev Env := List (Option D)
inductive Res (α : Type) where
  | ok (a : α) (S : Sto)
  | ex (c : Nat) (d : D) (S : Sto)
  | stuck
def Res.bind {α β : Type} (r : Res α) (k : α → Sto → Res β) : Res β :=
  match r with
  | .ok a S => k a S
  | .ex c d S => .ex c d S
  | .stuck => .stuck
@[simp] theorem Res.bind_ok {α β : Type} (a : α) (S : Sto) (k : α → Sto → Res β) : (Res.ok a S).bind k = k a S := rfl
@[simp] theorem Res.bind_ex {α β : Type} (c : Nat) (d : D) (S : Sto) (k : α → Sto → Res β) : (Res.ex c d S).bind k = .ex c d S := rfl
@[simp] theorem Res.bind_stuck {α β : Type} (k : α → Sto → Res β) : (Res.stuck : Res α).bind k = .stuck := rfl
structure Gx where
  P : Program
  w : World
  K : PySem.W.Frag
  mg : Str → Option Value
  base : Heap
  cls : Nat → Addr
  fns : Nat → List Str
  exc : Nat → Addr
  exf : Nat → Str
  cur : Option (Addr × Addr × Addr)
def WrL (K : PySem.W.Frag) (a : Addr) (xs : List V) : Prop :=
  ∃ (o : Obj) (its : Array Value) (n : Nat), K.lookup a = some o ∧ o.cls = .type "list" ∧ o.dict = none ∧ o.data = .seq its n ∧ its.size ≤ sizeLine ∧ Vals xs its.toList
def WrT (K : PySem.W.Frag) (a : Addr) (xs : List V) : Prop :=
  ∃ (o : Obj) (its : Array Value) (n : Nat), K.lookup a = some o ∧ o.cls = .type "tuple" ∧ o.data = .seq its n ∧ its.size ≤ sizeLine ∧ Vals xs its.toList
structure Ix where
  l : List Addr
  z : Addr → Prop
section
variable (G : Gx) (ι : Ix) (L : Addr → Prop) (H : Hp)
mutual
inductive Rep : V → D → Prop
  | non : Rep .non .non
  | bl (b : Bool) : Rep (.bl b) (.bl b)
  | int (i : Int) : Rep (.int i) (.int i)
  | str (x : Str) : Rep (.str x) (.str x)
  | tup {a : Addr} {vs : List V} {ds : List D} : H a = some (.tup vs) → ¬ L a → Reps vs ds → Rep (.ref a) (.tup ds)
  | wtp {a : Addr} {vs : List V} {ds : List D} : WrT G.K a vs → Reps vs ds → Rep (.ref a) (.wtp ds)
  | lst {a : Addr} {vs : List V} {ds : List D} : H a = some (.lst vs) → ¬ L a → Reps vs ds → Rep (.ref a) (.lst ds)
  | scr {a : Addr} {vs : List V} {ds : List D} : (Rd H a (.lst vs) ∧ ¬ L a) ∨ WrL G.K a vs → Reps vs ds → Rep (.ref a) (.scr ds)
  | dK {a : Addr} {kvs : List (Key × V)} {kds : List (Key × D)} : H a = some (.dK kvs) → ¬ L a → kvs.map (·.1) = kds.map (·.1) → Reps (kvs.map (·.2)) (kds.map (·.2)) → Rep (.ref a) (.dK kds)
  | dT {a : Addr} {kvs : List (List Key × V)} {kds : List (List Key × D)} : H a = some (.dT kvs) → ¬ L a → kvs.map (·.1) = kds.map (·.1) → Reps (kvs.map (·.2)) (kds.map (·.2)) → Rep (.ref a) (.dT kds)
  | obj {a dx : Addr} {c : Nat} {nfs : List (Str × V)} {fs : List D} : H a = some (.ins (G.cls c) dx nfs) → ¬ L a → nfs.map (·.1) = (G.fns c).take fs.length → Reps (nfs.map (·.2)) fs → Rep (.ref a) (.obj c fs)
  | ref {a : Addr} {n : Nat} : ι.l[n]? = some a → Rep (.ref a) (.ref n)
  | con (a : Addr) : Rep (.ref a) (.con a)
  | ty (n : String) : Rep (.ty n) (.ty n)
  | err {a dx : Addr} {c : Nat} {v : V} {d : D} : G.cur = some (a, dx, G.exc c) → H dx = some (.xd [(G.exf c, v)]) → ¬ L dx → Rep v d → Rep (.ref a) (.err c d)
inductive Reps : List V → List D → Prop
  | nil : Reps [] []
  | cons {v : V} {d : D} {vs : List V} {ds : List D} : Rep v d → Reps vs ds → Reps (v :: vs) (d :: ds)
end
end
def Liv (ι : Ix) (S : Sto) (a : Addr) : Prop := ∃ (n : Nat) (c : Cell), ι.l[n]? = some a ∧ S[n]? = some (some c)
def Lv (ι : Ix) (S : Sto) (a : Addr) : Prop := Liv ι S a ∨ ι.z a
def CellIs (G : Gx) (ι : Ix) (L : Addr → Prop) (H : Hp) (a : Addr) : Cell → Prop
  | .lst ds => ∃ vs, H a = some (.lst vs) ∧ Reps G ι L H vs ds
  | .dK kds => ∃ kvs, H a = some (.dK kvs) ∧ kvs.map (·.1) = kds.map (·.1) ∧ Reps G ι L H (kvs.map (·.2)) (kds.map (·.2))
  | .dT kds => ∃ kvs, H a = some (.dT kvs) ∧ kvs.map (·.1) = kds.map (·.1) ∧ Reps G ι L H (kvs.map (·.2)) (kds.map (·.2))
  | .ins c fs => ∃ dx nfs, H a = some (.ins (G.cls c) dx nfs) ∧ nfs.map (·.1) = (G.fns c).take fs.length ∧ Reps G ι L H (nfs.map (·.2)) fs
structure Rel (G : Gx) (ι : Ix) (S : Sto) (H : Hp) : Prop where
  len : ι.l.length = S.length
  nd : ι.l.Nodup
  cell : ∀ (n : Nat) (c : Cell), S[n]? = some (some c) → ∃ a, ι.l[n]? = some a ∧ CellIs G ι (Lv ι S) H a c
  trk : ∀ a ∈ ι.l, ∃ o, H a = some o
  ztr : ∀ a, ι.z a → (∃ o, H a = some o ∧ ∀ xs, o ≠ .tup xs) ∧ a ∉ ι.l
structure Ext (ι : Ix) (S : Sto) (H : Hp) (ι' : Ix) (S' : Sto) (H' : Hp) : Prop where
  pre : ∃ t, ι'.l = ι.l ++ t
  zs : ∀ a, ι.z a → ι'.z a
  zn : ∀ a, ι'.z a → ι.z a ∨ H a = none
  trk : ∀ a o, H a = some o → ∃ o', H' a = some o'
  liv : ∀ a, Liv ι' S' a → Liv ι S a ∨ H a = none
  keep : ∀ a o, H a = some o → ¬ Liv ι S a → H' a = some o
theorem Ext.refl {ι : Ix} {S : Sto} {H : Hp} : Ext ι S H ι S H := ⟨⟨[], by simp⟩, fun _ h => h, fun _ h => .inl h, fun _ o h => ⟨o, h⟩, fun _ h => .inl h, fun _ _ h _ => h⟩
theorem Ext.trans {ι ι1 ι2 : Ix} {S S1 S2 : Sto} {H H1 H2 : Hp} (a : Ext ι S H ι1 S1 H1) (b : Ext ι1 S1 H1 ι2 S2 H2) : Ext ι S H ι2 S2 H2 := by
  have back : ∀ x, H1 x = none → H x = none := fun x h => by
    cases e : H x with
    | none => rfl
    | some o =>
      obtain ⟨o', q⟩ := a.trk x o e
      rw [h] at q
      cases q
  refine ⟨?_, fun x h => b.zs x (a.zs x h), fun x h => ?_, fun x o h => ?_, fun x h => ?_, fun x o h hl => ?_⟩
  · obtain ⟨t, e⟩ := a.pre
    obtain ⟨u, e2⟩ := b.pre
    exact ⟨t ++ u, by rw [e2, e]; simp⟩
  · rcases b.zn x h with h | h
    · exact a.zn x h
    · exact .inr (back x h)
  · obtain ⟨o1, h1⟩ := a.trk x o h
    exact b.trk x o1 h1
  · rcases b.liv x h with h | h
    · exact a.liv x h
    · exact .inr (back x h)
  · refine b.keep x o (a.keep x o h hl) fun z => ?_
    rcases a.liv x z with z | z
    · exact hl z
    · rw [z] at h
      cases h
section
variable {G : Gx} {ι ι' : Ix} {S S' : Sto} {H H' : Hp}
theorem Ext.idx (e : Ext ι S H ι' S' H') {n : Nat} {a : Addr} (h : ι.l[n]? = some a) : ι'.l[n]? = some a := by
  obtain ⟨t, q⟩ := e.pre
  rw [q, List.getElem?_append_left]
  · exact h
  · exact (List.getElem?_eq_some_iff.mp h).1
theorem Ext.notLv (e : Ext ι S H ι' S' H') {a : Addr} {o : HO} (h : H a = some o) (hl : ¬ Lv ι S a) : ¬ Lv ι' S' a := fun z => by
  rcases z with z | z
  · rcases e.liv a z with z | z
    · exact hl (.inl z)
    · rw [z] at h
      cases h
  · rcases e.zn a z with z | z
    · exact hl (.inr z)
    · rw [z] at h
      cases h
theorem Ext.kp (e : Ext ι S H ι' S' H') {a : Addr} {o : HO} (h : H a = some o) (hl : ¬ Lv ι S a) : H' a = some o := e.keep a o h fun z => hl (.inl z)
theorem Ext.rd (e : Ext ι S H ι' S' H') {a : Addr} {u : HO} (h : Rd H a u) (hl : ¬ Lv ι S a) : Rd H' a u ∧ ¬ Lv ι' S' a := by
  rcases h with h | ⟨o, h⟩
  · exact ⟨.inl (e.kp h hl), e.notLv h hl⟩
  · exact ⟨.inr ⟨o, e.kp h hl⟩, e.notLv h hl⟩
mutual
theorem Rep.mono (e : Ext ι S H ι' S' H') : ∀ {v : V} {d : D}, Rep G ι (Lv ι S) H v d → Rep G ι' (Lv ι' S') H' v d
  | _, _, .non => .non
  | _, _, .bl b => .bl b
  | _, _, .int i => .int i
  | _, _, .str x => .str x
  | _, _, .con a => .con a
  | _, _, .ty n => .ty n
  | _, _, .tup h hl r => .tup (e.kp h hl) (e.notLv h hl) (r.mono e)
  | _, _, .wtp h r => .wtp h (r.mono e)
  | _, _, .lst h hl r => .lst (e.kp h hl) (e.notLv h hl) (r.mono e)
  | _, _, .scr (.inl h) r => .scr (.inl (e.rd h.1 h.2)) (r.mono e)
  | _, _, .scr (.inr h) r => .scr (.inr h) (r.mono e)
  | _, _, .dK h hl k r => .dK (e.kp h hl) (e.notLv h hl) k (r.mono e)
  | _, _, .dT h hl k r => .dT (e.kp h hl) (e.notLv h hl) k (r.mono e)
  | _, _, .obj h hl k r => .obj (e.kp h hl) (e.notLv h hl) k (r.mono e)
  | _, _, .ref h => .ref (e.idx h)
  | _, _, .err h1 h2 hl r => .err h1 (e.kp h2 hl) (e.notLv h2 hl) (r.mono e)
theorem Reps.mono (e : Ext ι S H ι' S' H') : ∀ {vs : List V} {ds : List D}, Reps G ι (Lv ι S) H vs ds → Reps G ι' (Lv ι' S') H' vs ds
  | _, _, .nil => .nil
  | _, _, .cons h r => .cons (h.mono e) (r.mono e)
end
theorem Reps.length {L : Addr → Prop} : ∀ {vs : List V} {ds : List D}, Reps G ι L H vs ds → vs.length = ds.length
  | _, _, .nil => rfl
  | _, _, .cons _ r => congrArg Nat.succ r.length
theorem Reps.get {L : Addr → Prop} : ∀ {vs : List V} {ds : List D} {i : Nat} {d : D}, Reps G ι L H vs ds → ds[i]? = some d → ∃ v, vs[i]? = some v ∧ Rep G ι L H v d
  | _, _, _, _, .nil, e => by simp at e
  | _, _, 0, _, .cons h _, e => by
    simp at e
    subst e
    exact ⟨_, rfl, h⟩
  | _, _, i + 1, _, .cons _ r, e => by
    obtain ⟨v, h1, h2⟩ := Reps.get (i := i) r (by simpa using e)
    exact ⟨v, by simpa using h1, h2⟩
theorem Reps.app {L : Addr → Prop} : ∀ {vs ws : List V} {ds es : List D}, Reps G ι L H vs ds → Reps G ι L H ws es → Reps G ι L H (vs ++ ws) (ds ++ es)
  | _, _, _, _, .nil, s => s
  | _, _, _, _, .cons h r, s => .cons h (r.app s)
theorem Reps.take {L : Addr → Prop} : ∀ {vs : List V} {ds : List D} (n : Nat), Reps G ι L H vs ds → Reps G ι L H (vs.take n) (ds.take n)
  | _, _, 0, _ => by simp; exact .nil
  | _, _, _ + 1, .nil => by simp; exact .nil
  | _, _, n + 1, .cons h r => .cons h (r.take n)
theorem Reps.drop {L : Addr → Prop} : ∀ {vs : List V} {ds : List D} (n : Nat), Reps G ι L H vs ds → Reps G ι L H (vs.drop n) (ds.drop n)
  | _, _, 0, r => r
  | _, _, _ + 1, .nil => by simp; exact .nil
  | _, _, n + 1, .cons _ r => r.drop n
theorem Reps.set {L : Addr → Prop} {v : V} {d : D} (h : Rep G ι L H v d) : ∀ {vs : List V} {ds : List D} (n : Nat), Reps G ι L H vs ds → Reps G ι L H (vs.set n v) (ds.set n d)
  | _, _, _, .nil => .nil
  | _, _, 0, .cons _ r => .cons h r
  | _, _, n + 1, .cons q r => .cons q (Reps.set h n r)
theorem Reps.rev {L : Addr → Prop} : ∀ {vs : List V} {ds : List D}, Reps G ι L H vs ds → Reps G ι L H vs.reverse ds.reverse
  | _, _, .nil => .nil
  | _, _, .cons h r => by
    rw [List.reverse_cons, List.reverse_cons]
    exact r.rev.app (.cons h .nil)
theorem Reps.repl {L : Addr → Prop} {vs : List V} {ds : List D} (r : Reps G ι L H vs ds) : ∀ n : Nat, Reps G ι L H (List.replicate n vs).flatten (List.replicate n ds).flatten
  | 0 => .nil
  | n + 1 => by
    rw [List.replicate_succ, List.replicate_succ, List.flatten_cons, List.flatten_cons]
    exact r.app (r.repl n)
theorem Reps.len_le {L : Addr → Prop} {vs : List V} {ds : List D} (r : Reps G ι L H vs ds) {n : Nat} (h : ds.length ≤ n) : vs.length ≤ n := by
  rw [r.length]
  exact h
theorem Rel.live_trk (R : Rel G ι S H) {a : Addr} (h : Liv ι S a) : ∃ o, H a = some o := by
  obtain ⟨n, c, h1, _⟩ := h
  exact R.trk a (List.mem_of_getElem? h1)
theorem Rel.freshL (R : Rel G ι S H) {a : Addr} (h : H a = none) : ¬ Lv ι S a := fun z => by
  rcases z with z | z
  · obtain ⟨o, e⟩ := R.live_trk z
    rw [h] at e
    cases e
  · obtain ⟨⟨o, e, _⟩, _⟩ := R.ztr a z
    rw [h] at e
    cases e
theorem CellIs.mono (e : Ext ι S H ι' S' H') {a : Addr} {c : Cell} (h : CellIs G ι (Lv ι S) H a c) (k : H' a = H a) : CellIs G ι' (Lv ι' S') H' a c := by
  cases c with
  | lst ds =>
    obtain ⟨vs, h1, h2⟩ := h
    exact ⟨vs, k.trans h1, h2.mono e⟩
  | dK ds =>
    obtain ⟨vs, h1, h3, h2⟩ := h
    exact ⟨vs, k.trans h1, h3, h2.mono e⟩
  | dT ds =>
    obtain ⟨vs, h1, h3, h2⟩ := h
    exact ⟨vs, k.trans h1, h3, h2.mono e⟩
  | ins c fs =>
    obtain ⟨dx, nfs, h1, h3, h2⟩ := h
    exact ⟨dx, nfs, k.trans h1, h3, h2.mono e⟩
theorem Ext.same (k : ∀ a o, H a = some o → H' a = some o) : Ext ι S H ι S H' := ⟨⟨[], by simp⟩, fun _ h => h, fun _ h => .inl h, fun a o h => ⟨o, k a o h⟩, fun _ h => .inl h, fun a o h _ => k a o h⟩
theorem Rel.same (R : Rel G ι S H) (k : ∀ a o, H a = some o → H' a = some o) : Rel G ι S H' := by
  refine ⟨R.len, R.nd, fun n c h => ?_, fun a h => ?_, fun a h => ?_⟩
  · obtain ⟨a, h1, h2⟩ := R.cell n c h
    refine ⟨a, h1, h2.mono (Ext.same k) ?_⟩
    obtain ⟨o, e⟩ := R.trk a (List.mem_of_getElem? h1)
    rw [e, k a o e]
  · obtain ⟨o, e⟩ := R.trk a h
    exact ⟨o, k a o e⟩
  · obtain ⟨⟨o, e, n⟩, q⟩ := R.ztr a h
    exact ⟨⟨o, k a _ e, n⟩, q⟩
theorem keepNew {p : Addr} {o : HO} (h : H p = none) : ∀ a u, H a = some u → upd H p o a = some u := fun a u e => by
  rw [upd_ne (ne_of_none e h)]
  exact e
abbrev Ix.snoc (ι : Ix) (p : Addr) : Ix := ⟨ι.l ++ [p], ι.z⟩
theorem Ext.new (R : Rel G ι S H) {p : Addr} {o : HO} {c : Cell} (hp : H p = none) : Ext ι S H (ι.snoc p) (S ++ [some c]) (upd H p o) := by
  refine ⟨⟨[p], rfl⟩, fun _ h => h, fun _ h => .inl h, fun a u e => ⟨u, keepNew hp a u e⟩, fun a z => ?_, fun a u e _ => keepNew hp a u e⟩
  obtain ⟨n, c', h1, h2⟩ := z
  have h1 : (ι.l ++ [p])[n]? = some a := h1
  by_cases hlt : n < S.length
  · rw [List.getElem?_append_left hlt] at h2
    rw [List.getElem?_append_left (by rw [R.len]; exact hlt)] at h1
    exact .inl ⟨n, c', h1, h2⟩
  · have hn : n < (S ++ [some c]).length := (List.getElem?_eq_some_iff.mp h2).1
    have e : n = ι.l.length := by
      rw [R.len]
      simp at hn
      omega
    subst e
    simp at h1
    exact .inr (h1 ▸ hp)
theorem Rel.new (R : Rel G ι S H) {p : Addr} {o : HO} {c : Cell} (hp : H p = none) (hc : CellIs G (ι.snoc p) (Lv (ι.snoc p) (S ++ [some c])) (upd H p o) p c) : Rel G (ι.snoc p) (S ++ [some c]) (upd H p o) := by
  have x : Ext ι S H (ι.snoc p) (S ++ [some c]) (upd H p o) := Ext.new R hp
  have hn : p ∉ ι.l := fun z => by
    obtain ⟨o, e⟩ := R.trk p z
    rw [hp] at e
    cases e
  refine ⟨by simp [R.len], ?_, fun n c' h => ?_, fun a ha => ?_, fun a z => ?_⟩
  · show (ι.l ++ [p]).Nodup
    rw [List.nodup_append]
    refine ⟨R.nd, by simp, ?_⟩
    intro a ha b hb z
    simp at hb
    exact hn (by rw [← hb, ← z]; exact ha)
  · by_cases hlt : n < S.length
    · rw [List.getElem?_append_left hlt] at h
      obtain ⟨a, h1, h2⟩ := R.cell n c' h
      refine ⟨a, x.idx h1, h2.mono x ?_⟩
      exact upd_ne fun e => hn (e ▸ List.mem_of_getElem? h1)
    · have hl : n < (S ++ [some c]).length := (List.getElem?_eq_some_iff.mp h).1
      have e : n = S.length := by
        simp at hl
        omega
      subst e
      simp at h
      subst h
      refine ⟨p, ?_, hc⟩
      show (ι.l ++ [p])[S.length]? = some p
      rw [← R.len]
      simp
  · rcases List.mem_append.mp ha with ha | ha
    · obtain ⟨u, e⟩ := R.trk a ha
      exact ⟨u, keepNew hp a u e⟩
    · simp at ha
      rw [ha]
      exact ⟨o, upd_same⟩
  · obtain ⟨⟨u, e, n⟩, q⟩ := R.ztr a z
    refine ⟨⟨u, keepNew hp a _ e, n⟩, fun hm => ?_⟩
    rcases List.mem_append.mp hm with hm | hm
    · exact q hm
    · simp at hm
      rw [hm, hp] at e
      cases e
theorem nodup_eq {α : Type} : ∀ {l : List α} {i j : Nat} {a : α}, l.Nodup → l[i]? = some a → l[j]? = some a → i = j
  | [], _, _, _, _, h, _ => by simp at h
  | x :: l, 0, 0, _, _, _, _ => rfl
  | x :: l, 0, j + 1, a, nd, h, h' => by
    simp at h h'
    exact absurd (h ▸ List.mem_of_getElem? h') (List.nodup_cons.mp nd).1
  | x :: l, i + 1, 0, a, nd, h, h' => by
    simp at h h'
    exact absurd (h' ▸ List.mem_of_getElem? h) (List.nodup_cons.mp nd).1
  | x :: l, i + 1, j + 1, a, nd, h, h' => congrArg Nat.succ (nodup_eq (List.nodup_cons.mp nd).2 (by simpa using h) (by simpa using h'))
theorem liv_set {n : Nat} {c0 c : Cell} (hs : S[n]? = some (some c0)) (a : Addr) : Liv ι (S.set n (some c)) a ↔ Liv ι S a := by
  constructor
  · rintro ⟨m, c', h1, h2⟩
    by_cases e : n = m
    · subst e
      exact ⟨n, c0, h1, hs⟩
    · rw [List.getElem?_set_ne e] at h2
      exact ⟨m, c', h1, h2⟩
  · rintro ⟨m, c', h1, h2⟩
    by_cases e : n = m
    · subst e
      exact ⟨n, c, h1, by rw [List.getElem?_set_self (List.getElem?_eq_some_iff.mp hs).1]⟩
    · exact ⟨m, c', h1, by rw [List.getElem?_set_ne e]; exact h2⟩
theorem Ext.write {n : Nat} {a : Addr} {c0 c : Cell} {o : HO} (hn : ι.l[n]? = some a) (hs : S[n]? = some (some c0)) : Ext ι S H ι (S.set n (some c)) (upd H a o) := by
  refine ⟨⟨[], by simp⟩, fun _ h => h, fun _ h => .inl h, fun b u e => ?_, fun b z => .inl ((liv_set hs b).mp z), fun b u e hl => ?_⟩
  · by_cases q : b = a
    · exact ⟨o, by rw [q]; exact upd_same⟩
    · exact ⟨u, by rw [upd_ne q]; exact e⟩
  rw [upd_ne]
  · exact e
  · rintro rfl
    exact hl ⟨n, c0, hn, hs⟩
theorem Rel.write (R : Rel G ι S H) {n : Nat} {a : Addr} {c0 c : Cell} {o : HO} (hn : ι.l[n]? = some a) (hs : S[n]? = some (some c0)) (hc : CellIs G ι (Lv ι (S.set n (some c))) (upd H a o) a c) : Rel G ι (S.set n (some c)) (upd H a o) := by
  have x : Ext ι S H ι (S.set n (some c)) (upd H a o) := Ext.write hn hs
  refine ⟨by simp [R.len], R.nd, fun m c' h => ?_, fun b hb => ?_, fun b z => ?_⟩
  · by_cases e : n = m
    · subst e
      rw [List.getElem?_set_self (List.getElem?_eq_some_iff.mp hs).1] at h
      cases h
      exact ⟨a, hn, hc⟩
    · rw [List.getElem?_set_ne e] at h
      obtain ⟨b, h1, h2⟩ := R.cell m c' h
      refine ⟨b, h1, h2.mono x (upd_ne fun z => e ?_)⟩
      subst z
      exact nodup_eq R.nd hn h1
  · by_cases e : b = a
    · subst e
      exact ⟨o, upd_same⟩
    · obtain ⟨u, q⟩ := R.trk b hb
      exact ⟨u, by rw [upd_ne e]; exact q⟩
  · obtain ⟨⟨u, q, n⟩, r⟩ := R.ztr b z
    refine ⟨⟨u, ?_, n⟩, r⟩
    rw [upd_ne]
    · exact q
    · rintro rfl
      exact r (List.mem_of_getElem? hn)
theorem liv_kill {n : Nat} {a : Addr} (h : Liv ι (S.set n none) a) : Liv ι S a := by
  obtain ⟨m, c', h1, h2⟩ := h
  by_cases e : n = m
  · subst e
    rw [List.getElem?_set] at h2
    simp at h2
  · rw [List.getElem?_set_ne e] at h2
    exact ⟨m, c', h1, h2⟩
theorem Ext.kill {n : Nat} : Ext ι S H ι (S.set n none) H := ⟨⟨[], by simp⟩, fun _ h => h, fun _ h => .inl h, fun _ o h => ⟨o, h⟩, fun _ z => .inl (liv_kill z), fun _ _ e _ => e⟩
theorem Rel.kill (R : Rel G ι S H) {n : Nat} : Rel G ι (S.set n none) H := by
  have x : Ext ι S H ι (S.set n none) H := Ext.kill
  refine ⟨by simp [R.len], R.nd, fun m c' h => ?_, R.trk, R.ztr⟩
  by_cases e : n = m
  · subst e
    rw [List.getElem?_set] at h
    simp at h
  · rw [List.getElem?_set_ne e] at h
    obtain ⟨b, h1, h2⟩ := R.cell m c' h
    exact ⟨b, h1, h2.mono x rfl⟩
theorem Rel.killed (R : Rel G ι S H) {n : Nat} {a : Addr} (hn : ι.l[n]? = some a) : ¬ Lv ι (S.set n none) a := by
  rintro (z | z)
  · obtain ⟨m, c', h1, h2⟩ := z
    have e : n = m := nodup_eq R.nd hn h1
    subst e
    rw [List.getElem?_set] at h2
    simp at h2
  · exact (R.ztr a z).2 (List.mem_of_getElem? hn)
abbrev Ix.hide (ι : Ix) (p : Addr) : Ix := ⟨ι.l, fun a => ι.z a ∨ a = p⟩
mutual
theorem Rep.weak {L L' : Addr → Prop} (h : ∀ a, L' a → L a) (hl : ι'.l = ι.l) : ∀ {v : V} {d : D}, Rep G ι L H v d → Rep G ι' L' H v d
  | _, _, .non => .non
  | _, _, .bl b => .bl b
  | _, _, .int i => .int i
  | _, _, .str x => .str x
  | _, _, .con a => .con a
  | _, _, .ty n => .ty n
  | _, _, .tup q k r => .tup q (fun z => k (h _ z)) (r.weak h hl)
  | _, _, .wtp q r => .wtp q (r.weak h hl)
  | _, _, .lst q k r => .lst q (fun z => k (h _ z)) (r.weak h hl)
  | _, _, .scr (.inl q) r => .scr (.inl ⟨q.1, fun z => q.2 (h _ z)⟩) (r.weak h hl)
  | _, _, .scr (.inr q) r => .scr (.inr q) (r.weak h hl)
  | _, _, .dK q k e r => .dK q (fun z => k (h _ z)) e (r.weak h hl)
  | _, _, .dT q k e r => .dT q (fun z => k (h _ z)) e (r.weak h hl)
  | _, _, .obj q k e r => .obj q (fun z => k (h _ z)) e (r.weak h hl)
  | _, _, .ref q => .ref (by rw [hl]; exact q)
  | _, _, .err q1 q2 k r => .err q1 q2 (fun z => k (h _ z)) (r.weak h hl)
theorem Reps.weak {L L' : Addr → Prop} (h : ∀ a, L' a → L a) (hl : ι'.l = ι.l) : ∀ {vs : List V} {ds : List D}, Reps G ι L H vs ds → Reps G ι' L' H vs ds
  | _, _, .nil => .nil
  | _, _, .cons q r => .cons (q.weak h hl) (r.weak h hl)
end
end
abbrev ECode := Env → Sto → Res D
abbrev TCode := Env → Sto → Res Bool
abbrev ACode := Env → Sto → Res (List D)
inductive Flo where
  | nx (ρ : Env) | rt (d : D) | bk (ρ : Env) | ct (ρ : Env)
abbrev SCode := Env → Sto → Res Flo
section
variable (G : Gx) (E : XK) (ι : Ix) (S : Sto) (H : Hp)
def Post {α : Type} (P : α → Ix → Sto → Hp → Prop) : Res α → Prop
  | .ok a S' => ∀ ι' H', Ext ι S H ι' S' H' → Rel G ι' S' H' → P a ι' S' H'
  | .ex c d S' => ∀ ι' H' dd v, Ext ι S H ι' S' H' → Rel G ι' S' H' → H' dd = some (.xd [(G.exf c, v)]) → ¬ Lv ι' S' dd → Rep G ι' (Lv ι' S') H' v d → E (.ref (G.exc c)) (some dd) H'
  | .stuck => False
structure REnv (σ : L2.St) (ρ : Env) : Prop where
  len : σ.length = ρ.length
  at_ : ∀ (i : Nat) (d : D), ρ[i]? = some (some d) → ∃ v, σ[i]? = some (some v) ∧ Rep G ι (Lv ι S) H v d
end
def PV (G : Gx) (Q : VK) : D → Ix → Sto → Hp → Prop := fun d ι S H => ∀ v, Rep G ι (Lv ι S) H v d → Q v H
def PVs (G : Gx) (Q : List V → Hp → Prop) : List D → Ix → Sto → Hp → Prop := fun ds ι S H => ∀ vs, Reps G ι (Lv ι S) H vs ds → Q vs H
def PB (Q : Bool → Hp → Prop) : Bool → Ix → Sto → Hp → Prop := fun b _ _ H => Q b H
def PF (G : Gx) (Dn : Ends) : Flo → Ix → Sto → Hp → Prop
  | .nx ρ, ι, S, H => ∀ σ, REnv G ι S H σ ρ → Dn.nx σ H
  | .rt d, ι, S, H => ∀ v, Rep G ι (Lv ι S) H v d → Dn.rt v H
  | .bk ρ, ι, S, H => ∀ σ, REnv G ι S H σ ρ → Dn.bk σ H
  | .ct ρ, ι, S, H => ∀ σ, REnv G ι S H σ ρ → Dn.ct σ H
section
variable {G : Gx} {E : XK} {ι ι' ι1 : Ix} {S S' S1 : Sto} {H H' H1 : Hp} {σ : L2.St} {ρ : Env}
theorem REnv.mono (e : Ext ι S H ι' S' H') (h : REnv G ι S H σ ρ) : REnv G ι' S' H' σ ρ := ⟨h.len, fun i d q => by
  obtain ⟨v, h1, h2⟩ := h.at_ i d q
  exact ⟨v, h1, h2.mono e⟩⟩
theorem REnv.set {v : V} {d : D} (h : REnv G ι S H σ ρ) (r : Rep G ι (Lv ι S) H v d) (i : Nat) : REnv G ι S H (σ.set i (some v)) (ρ.set i (some d)) := by
  refine ⟨by simp [h.len], fun j e q => ?_⟩
  rw [List.getElem?_set] at q ⊢
  by_cases hi : i = j
  · subst hi
    rw [if_pos rfl] at q ⊢
    by_cases hl : i < ρ.length
    · rw [if_pos hl] at q
      cases q
      rw [if_pos (by rw [h.len]; exact hl)]
      exact ⟨v, rfl, r⟩
    · rw [if_neg hl] at q
      cases q
  · rw [if_neg hi] at q ⊢
    exact h.at_ j e q
theorem Post.back {α : Type} {P : α → Ix → Sto → Hp → Prop} (x : Ext ι S H ι1 S1 H1) {r : Res α} (p : Post G E ι S H P r) : Post G E ι1 S1 H1 P r := by
  cases r with
  | ok a S2 => exact fun ι2 H2 y R => p ι2 H2 (x.trans y) R
  | ex c d S2 => exact fun ι2 H2 dd v y R => p ι2 H2 dd v (x.trans y) R
  | stuck => exact p
theorem Post.imp {α : Type} {P P' : α → Ix → Sto → Hp → Prop} {r : Res α} (p : Post G E ι S H P r) (h : ∀ a S' ι' H', Ext ι S H ι' S' H' → Rel G ι' S' H' → P a ι' S' H' → P' a ι' S' H') : Post G E ι S H P' r := by
  cases r with
  | ok a S2 => exact fun ι2 H2 y R => h a S2 ι2 H2 y R (p ι2 H2 y R)
  | ex c d S2 => exact p
  | stuck => exact p
theorem Post.bind {α β : Type} {P : α → Ix → Sto → Hp → Prop} {P' : β → Ix → Sto → Hp → Prop} {r : Res α} {k : α → Sto → Res β} (p : Post G E ι S H P' (r.bind k))
    (hk : ∀ a S1 ι1 H1, Ext ι S H ι1 S1 H1 → Rel G ι1 S1 H1 → Post G E ι1 S1 H1 P' (k a S1) → P a ι1 S1 H1) : Post G E ι S H P r := by
  cases r with
  | ok a S2 => exact fun ι2 H2 y R => hk a S2 ι2 H2 y R (Post.back y p)
  | ex c d S2 => exact p
  | stuck => exact p
theorem Post.here {α : Type} {P : α → Ix → Sto → Hp → Prop} {a : α} (R : Rel G ι S H) (p : Post G E ι S H P (.ok a S)) : P a ι S H := p ι H Ext.refl R
end
abbrev WK := L2.St → XK
def Snd (G : Gx) (E : WK) (t : TE) (c : ECode) : Prop := ∀ ι S H σ ρ Q, Rel G ι S H → REnv G ι S H σ ρ → Post G (E σ) ι S H (PV G Q) (c ρ S) → t σ H Q
def SndT (G : Gx) (E : WK) (t : TT) (c : TCode) : Prop := ∀ ι S H σ ρ Q, Rel G ι S H → REnv G ι S H σ ρ → Post G (E σ) ι S H (PB Q) (c ρ S) → t σ H Q
def SndA (G : Gx) (E : WK) (t : TA) (c : ACode) : Prop := ∀ ι S H σ ρ Q, Rel G ι S H → REnv G ι S H σ ρ → Post G (E σ) ι S H (PVs G Q) (c ρ S) → t σ H Q
def SndS (G : Gx) (E : WK) (t : TS) (c : SCode) : Prop := ∀ ι S H σ ρ Dn, Rel G ι S H → REnv G ι S H σ ρ → Post G (E σ) ι S H (PF G Dn) (c ρ S) → t Dn σ H
section
variable {G : Gx} {E : WK} {ι : Ix} {S : Sto} {H : Hp} {σ : L2.St} {ρ : Env}
theorem Snd.go {t : TE} {c : ECode} (h : Snd G E t c) (R : Rel G ι S H) (e : REnv G ι S H σ ρ) {β : Type} {k : D → Sto → Res β} {P : β → Ix → Sto → Hp → Prop} {Q : VK} (p : Post G (E σ) ι S H P ((c ρ S).bind k))
    (hk : ∀ d S1 ι1 H1 v, Ext ι S H ι1 S1 H1 → Rel G ι1 S1 H1 → REnv G ι1 S1 H1 σ ρ → Rep G ι1 (Lv ι1 S1) H1 v d → Post G (E σ) ι1 S1 H1 P (k d S1) → Q v H1) : t σ H Q :=
  h ι S H σ ρ Q R e (Post.bind p fun d S1 ι1 H1 x R1 q v r => hk d S1 ι1 H1 v x R1 (e.mono x) r q)
theorem SndT.go {t : TT} {c : TCode} (h : SndT G E t c) (R : Rel G ι S H) (e : REnv G ι S H σ ρ) {β : Type} {k : Bool → Sto → Res β} {P : β → Ix → Sto → Hp → Prop} {Q : Bool → Hp → Prop} (p : Post G (E σ) ι S H P ((c ρ S).bind k))
    (hk : ∀ b S1 ι1 H1, Ext ι S H ι1 S1 H1 → Rel G ι1 S1 H1 → REnv G ι1 S1 H1 σ ρ → Post G (E σ) ι1 S1 H1 P (k b S1) → Q b H1) : t σ H Q :=
  h ι S H σ ρ Q R e (Post.bind p fun b S1 ι1 H1 x R1 q => hk b S1 ι1 H1 x R1 (e.mono x) q)
theorem SndA.go {t : TA} {c : ACode} (h : SndA G E t c) (R : Rel G ι S H) (e : REnv G ι S H σ ρ) {β : Type} {k : List D → Sto → Res β} {P : β → Ix → Sto → Hp → Prop} {Q : List V → Hp → Prop} (p : Post G (E σ) ι S H P ((c ρ S).bind k))
    (hk : ∀ ds S1 ι1 H1 vs, Ext ι S H ι1 S1 H1 → Rel G ι1 S1 H1 → REnv G ι1 S1 H1 σ ρ → Reps G ι1 (Lv ι1 S1) H1 vs ds → Post G (E σ) ι1 S1 H1 P (k ds S1) → Q vs H1) : t σ H Q :=
  h ι S H σ ρ Q R e (Post.bind p fun ds S1 ι1 H1 x R1 q vs r => hk ds S1 ι1 H1 vs x R1 (e.mono x) r q)
end
structure FamH {I : Type} (Xs : I → Cx) (G : Gx) (E : WK) : Prop where
  P : ∀ i, (Xs i).prog = G.P
  w : ∀ i, (Xs i).w = G.w
  K : ∀ i, (Xs i).K = G.K
  mg : ∀ i, (Xs i).mg = G.mg
  base : ∀ i, (Xs i).base = G.base
  nd : ∀ i, (Xs i).N.Nodup
  gd : ∀ i, (Xs i).A.guards = some []
  u64 : ∀ i, (Xs i).A.units + 64 < cLine
  take : ∀ i, Takes (Xs i) fun cls d σ H => E σ cls d H
structure Fam {I : Type} (Xs : I → Cx) (G : Gx) (E : WK) (kk : Nat) : Prop extends FamH Xs G E where
  calm : ∀ i, (Xs i).calm = true
  room : ∀ i, Room kk (Xs i).A
instance {I : Type} {Xs : I → Cx} {G : Gx} {E : WK} {kk : Nat} : CoeOut (Fam Xs G E kk) (FamH Xs G E) := ⟨Fam.toFamH⟩
theorem FamH.hu {I : Type} {Xs : I → Cx} {G : Gx} {E : WK} (F : FamH Xs G E) (j : I) : (Xs j).A.units + 1 < cLine := by have := F.u64 j; omega
theorem FamH.hu64 {I : Type} {Xs : I → Cx} {G : Gx} {E : WK} (F : FamH Xs G E) (j : I) : (Xs j).A.units + 64 < cLine := F.u64 j
theorem Fam.pass {I : Type} {Xs : I → Cx} {G : Gx} {E : WK} {kk : Nat} (F : Fam Xs G E kk) : ∀ i pins σ H s e s', Inv (Xs i) pins σ H s → L2.CX (Xs i).prog (Xs i).w (Xs i).stack H s (E σ) e s' → (Xs i).xe e s' :=
  fun i pins σ H s e s' I c => F.take i e s' (XE.of_call I (fun cls d H' h => h) c)
section
variable {I : Type} (Xs : I → Cx) (G : Gx) (E : WK)
def DE (e : Expr) (c : ECode) : Prop := ∃ t, (∀ i, PE (Xs i) e t) ∧ Snd G E t c
def DT (e : Expr) (c : TCode) : Prop := ∃ t, (∀ i, PT (Xs i) e t) ∧ SndT G E t c
def DW (e : Expr) (c : TCode) : Prop := ∃ t, (∀ i, PW (Xs i) e t) ∧ SndT G E t c
def DA (es : List Expr) (c : ACode) : Prop := ∃ t, (∀ i, PA (Xs i) es t) ∧ SndA G E t c
def DKw (ks : List Keyword) (c : ACode) : Prop := ∃ t, (∀ i, PK (Xs i) ks t) ∧ SndA G E t c
def DS (st : Stmt) (c : SCode) : Prop := ∃ t, (∀ i, PS (Xs i) st t) ∧ SndS G E t c
def DSs (st : List Stmt) (c : SCode) : Prop := ∃ t, (∀ i, PSs (Xs i) st t) ∧ SndS G E t c
end
def c_var (i : Nat) : ECode := fun ρ S => match ρ[i]? with
  | some (some d) => .ok d S
  | _ => .stuck
def c_d (d : D) : ECode := fun _ S => .ok d S
section
variable {I : Type} {Xs : I → Cx} {G : Gx} {E : WK}
theorem de_var {i : Nat} {x : Str} {pos : Pos} (hN : ∀ j, (Xs j).N[i]? = some x) (hv : ∀ j, Vis (Xs j).env.scope x) (hd : (x == ("__debug__" : Str)) = false) (hcd : (x == ("__classdict__" : Str)) = false) : DE Xs G E (.Name x pos) (c_var i) := by
  refine ⟨tVar i, fun j => pe_var (hN j) (hv j) hd hcd, fun ι S H σ ρ Q R e p => ?_⟩
  unfold c_var at p
  split at p
  · rename_i d hd
    obtain ⟨v, h1, h2⟩ := e.at_ i d hd
    exact ⟨v, h1, Post.here R p v h2⟩
  · exact p.elim
theorem snd_c {v : V} {d : D} (h : ∀ ι L H, Rep G ι L H v d) : Snd G E (tC v) (c_d d) := fun ι S H σ ρ Q R e p => Post.here R p v (h _ _ _)
theorem de_int {i j pos} : DE Xs G E (.Constant (.int i) j pos) (c_d (.int i)) := ⟨_, fun _ => pe_int, snd_c fun _ _ _ => .int i⟩
theorem de_bl {b j pos} : DE Xs G E (.Constant (.bool b) j pos) (c_d (.bl b)) := ⟨_, fun _ => pe_bl, snd_c fun _ _ _ => .bl b⟩
theorem de_non {j pos} : DE Xs G E (.Constant .none j pos) (c_d .non) := ⟨_, fun _ => pe_non, snd_c fun _ _ _ => .non⟩
theorem de_str {x j pos} : DE Xs G E (.Constant (.str x) j pos) (c_d (.str x)) := ⟨_, fun _ => pe_str, snd_c fun _ _ _ => .str x⟩
theorem de_glob (F : FamH Xs G E) {x : Str} {v : V} {u : Value} {d : D} {pos : Pos} (hg : ∀ j, Gl (Xs j) x) (hm : G.mg x = some u) (r : RelV v u) (h : ∀ ι L H, Rep G ι L H v d) (hd : (x == ("__debug__" : Str)) = false) : DE Xs G E (.Name x pos) (c_d d) :=
  ⟨_, fun j => pe_glob (hg j) (by rw [F.mg j]; exact hm) r hd, snd_c h⟩
def SndR (G : Gx) (r : R2) (p : D → D → Sto → Res D) : Prop := ∀ E ι S H x y dx dy Q, Rel G ι S H → Rep G ι (Lv ι S) H x dx → Rep G ι (Lv ι S) H y dy → Post G E ι S H (PV G Q) (p dx dy S) → r x y H Q
def SndU (G : Gx) (r : V → Hp → VK → Prop) (p : D → Sto → Res D) : Prop := ∀ E ι S H x dx Q, Rel G ι S H → Rep G ι (Lv ι S) H x dx → Post G E ι S H (PV G Q) (p dx S) → r x H Q
def SndC (G : Gx) (r : List V → Hp → VK → Prop) (p : List D → Sto → Res D) : Prop := ∀ E ι S H xs ds Q, Rel G ι S H → Reps G ι (Lv ι S) H xs ds → Post G E ι S H (PV G Q) (p ds S) → r xs H Q
def SndM (G : Gx) (r : V → List V → Hp → VK → Prop) (p : D → List D → Sto → Res D) : Prop := ∀ E ι S H x xs dx ds Q, Rel G ι S H → Rep G ι (Lv ι S) H x dx → Reps G ι (Lv ι S) H xs ds → Post G E ι S H (PV G Q) (p dx ds S) → r x xs H Q
def c_op (p : D → D → Sto → Res D) (a b : ECode) : ECode := fun ρ S => (a ρ S).bind fun x S1 => (b ρ S1).bind fun y S2 => p x y S2
def c_un (p : D → Sto → Res D) (a : ECode) : ECode := fun ρ S => (a ρ S).bind fun x S1 => p x S1
theorem snd_op {r : R2} {p : D → D → Sto → Res D} {ta tb : TE} {a b : ECode} (hr : SndR G r p) (ha : Snd G E ta a) (hb : Snd G E tb b) : Snd G E (tOp r ta tb) (c_op p a b) := fun ι S H σ ρ Q R e q => by
  refine ha.go R e q fun d S1 ι1 H1 v x1 R1 e1 r1 q1 => ?_
  refine hb.go R1 e1 q1 fun d2 S2 ι2 H2 v2 x2 R2 e2 r2 q2 => ?_
  exact hr (E σ) ι2 S2 H2 v v2 d d2 Q R2 (r1.mono x2) r2 q2
theorem snd_un {r : V → Hp → VK → Prop} {p : D → Sto → Res D} {ta : TE} {a : ECode} (hr : SndU G r p) (ha : Snd G E ta a) : Snd G E (tUn r ta) (c_un p a) := fun ι S H σ ρ Q R e q => by
  refine ha.go R e q fun d S1 ι1 H1 v x1 R1 e1 r1 q1 => ?_
  exact hr (E σ) ι1 S1 H1 v d Q R1 r1 q1
theorem de_op {op : Operator} {r : R2} {p : D → D → Sto → Res D} {x y : Expr} {pos : Pos} {a b : ECode} (ho : ∀ j, OpR (Xs j) (binaryOp op) r) (hr : SndR G r p) (ha : DE Xs G E x a) (hb : DE Xs G E y b) : DE Xs G E (.BinOp x op y pos) (c_op p a b) := by
  obtain ⟨ta, pa, sa⟩ := ha
  obtain ⟨tb, pb, sb⟩ := hb
  exact ⟨_, fun j => pe_op (ho j) (pa j) (pb j), snd_op hr sa sb⟩
theorem de_un {op : UnaryOp} {r : V → Hp → VK → Prop} {p : D → Sto → Res D} {x : Expr} {pos : Pos} {a : ECode} (ho : ∀ j, UnR (Xs j) (unaryOp op) r) (hr : SndU G r p) (ha : DE Xs G E x a) : DE Xs G E (.UnaryOp op x pos) (c_un p a) := by
  obtain ⟨ta, pa, sa⟩ := ha
  exact ⟨_, fun j => pe_un (ho j) (pa j), snd_un hr sa⟩
theorem de_cmp {op : CmpOp} {r : R2} {p : D → D → Sto → Res D} {x y : Expr} {pos : Pos} {a b : ECode} (ho : ∀ j, OpR (Xs j) (compareOp op) r) (hr : SndR G r p) (ha : DE Xs G E x a) (hb : DE Xs G E y b) (hm : behindInMarks op y = false) :
    DE Xs G E (.Compare x [op] [y] pos) (c_op p a b) := by
  obtain ⟨ta, pa, sa⟩ := ha
  obtain ⟨tb, pb, sb⟩ := hb
  exact ⟨_, fun j => pe_cmpR (ho j) (pa j) (pb j) hm, snd_op hr sa sb⟩
def asB : D → Sto → Res Bool
  | .bl b, S => .ok b S
  | _, _ => .stuck
def c_test (a : ECode) : TCode := fun ρ S => (a ρ S).bind asB
theorem Rep.bl_of {ι : Ix} {L : Addr → Prop} {H : Hp} {v : V} {b : Bool} (r : Rep G ι L H v (.bl b)) : v = .bl b := by
  cases r
  rfl
theorem Rep.int_of {ι : Ix} {L : Addr → Prop} {H : Hp} {v : V} {b : Int} (r : Rep G ι L H v (.int b)) : v = .int b := by
  cases r
  rfl
theorem Rep.str_of {ι : Ix} {L : Addr → Prop} {H : Hp} {v : V} {b : Str} (r : Rep G ι L H v (.str b)) : v = .str b := by
  cases r
  rfl
theorem Rep.non_of {ι : Ix} {L : Addr → Prop} {H : Hp} {v : V} (r : Rep G ι L H v .non) : v = .non := by
  cases r
  rfl
theorem snd_test {t : TE} {a : ECode} (ha : Snd G E t a) : SndT G E (fun σ H Q => t σ H fun x H1 => ∃ k, x = .bl k ∧ Q k H1) (c_test a) := fun ι S H σ ρ Q R e q => by
  refine ha.go R e q fun d S1 ι1 H1 v x1 R1 e1 r1 q1 => ?_
  cases d with
  | bl b => exact ⟨b, r1.bl_of, Post.here R1 q1⟩
  | _ => exact q1.elim
theorem dt_cmp {op : CmpOp} {r : R2} {p : D → D → Sto → Res D} {x y : Expr} {pos : Pos} {a b : ECode} (ho : ∀ j, OpR (Xs j) (compareOp op) r) (hr : SndR G r p) (ha : DE Xs G E x a) (hb : DE Xs G E y b) (hm : behindInMarks op y = false) :
    DT Xs G E (.Compare x [op] [y] pos) (c_test (c_op p a b)) := by
  obtain ⟨ta, pa, sa⟩ := ha
  obtain ⟨tb, pb, sb⟩ := hb
  exact ⟨_, fun j => pt_cmpR (ho j) (pa j) (pb j) hm, snd_test (snd_op hr sa sb)⟩
theorem dt_val {x : Expr} {a : ECode} (ha : DE Xs G E x a) (he : ∀ j whole, isTrue x (Xs j).env whole = (do let v ← whole; standAt x.pos; holding [v] (truthy v))) : DT Xs G E x (c_test a) := by
  obtain ⟨ta, pa, sa⟩ := ha
  exact ⟨_, fun j => pt_val (pa j) (he j), snd_test sa⟩
def c_and (a b : TCode) : TCode := fun ρ S => (a ρ S).bind fun c S1 => if c = true then b ρ S1 else .ok false S1
def c_or (a b : TCode) : TCode := fun ρ S => (a ρ S).bind fun c S1 => if c = true then .ok true S1 else b ρ S1
def c_not (a : TCode) : TCode := fun ρ S => (a ρ S).bind fun c S1 => .ok (!c) S1
def c_if (c : TCode) (a b : ECode) : ECode := fun ρ S => (c ρ S).bind fun k S1 => if k = true then a ρ S1 else b ρ S1
def c_andV (a b : ECode) : ECode := fun ρ S => (a ρ S).bind fun x S1 => (asB x S1).bind fun c S2 => if c = true then b ρ S2 else .ok (.bl false) S2
def c_orV (a b : ECode) : ECode := fun ρ S => (a ρ S).bind fun x S1 => (asB x S1).bind fun c S2 => if c = true then .ok (.bl true) S2 else b ρ S2
def c_notV (a : ECode) : ECode := fun ρ S => (a ρ S).bind fun x S1 => (asB x S1).bind fun c S2 => .ok (.bl (!c)) S2
theorem dw_and1 {op} {x : Expr} {pos : Pos} {a : TCode} (ha : DT Xs G E x a) (ho : op = BoolOp.And) : DW Xs G E (.BoolOp op [x] pos) a := by
  subst ho
  obtain ⟨ta, pa, sa⟩ := ha
  exact ⟨_, fun j => pw_and1 (pa j), sa⟩
theorem dw_or1 {op} {x : Expr} {pos : Pos} {a : TCode} (ha : DT Xs G E x a) (ho : op = BoolOp.Or) : DW Xs G E (.BoolOp op [x] pos) a := by
  subst ho
  obtain ⟨ta, pa, sa⟩ := ha
  exact ⟨_, fun j => pw_or1 (pa j), sa⟩
theorem dw_and {x y : Expr} {rest : List Expr} {pos : Pos} {a b : TCode} (ha : DT Xs G E x a) (hb : DW Xs G E (.BoolOp .And (y :: rest) pos) b) : DW Xs G E (.BoolOp .And (x :: y :: rest) pos) (c_and a b) := by
  obtain ⟨ta, pa, sa⟩ := ha
  obtain ⟨tb, pb, sb⟩ := hb
  refine ⟨_, fun j => pw_and (pa j) (pb j), fun ι S H σ ρ Q R e q => ?_⟩
  refine sa.go R e q fun c S1 ι1 H1 x1 R1 e1 q1 => ?_
  cases c with
  | true =>
    rw [if_pos rfl] at q1 ⊢
    exact sb ι1 S1 H1 σ ρ Q R1 e1 q1
  | false =>
    rw [if_neg Bool.false_ne_true] at q1 ⊢
    exact Post.here R1 q1
theorem dw_or {x y : Expr} {rest : List Expr} {pos : Pos} {a b : TCode} (ha : DT Xs G E x a) (hb : DW Xs G E (.BoolOp .Or (y :: rest) pos) b) : DW Xs G E (.BoolOp .Or (x :: y :: rest) pos) (c_or a b) := by
  obtain ⟨ta, pa, sa⟩ := ha
  obtain ⟨tb, pb, sb⟩ := hb
  refine ⟨_, fun j => pw_or (pa j) (pb j), fun ι S H σ ρ Q R e q => ?_⟩
  refine sa.go R e q fun c S1 ι1 H1 x1 R1 e1 q1 => ?_
  cases c with
  | true =>
    rw [if_pos rfl] at q1 ⊢
    exact Post.here R1 q1
  | false =>
    rw [if_neg Bool.false_ne_true] at q1 ⊢
    exact sb ι1 S1 H1 σ ρ Q R1 e1 q1
theorem dt_w {x : Expr} {a : TCode} (h : DW Xs G E x a) : DT Xs G E x a := by
  obtain ⟨t, p, s⟩ := h
  exact ⟨t, fun j => (p j).pt, s⟩
theorem dt_not {x : Expr} {pos : Pos} {a : TCode} (ha : DT Xs G E x a) : DT Xs G E (.UnaryOp .Not x pos) (c_not a) := by
  obtain ⟨ta, pa, sa⟩ := ha
  refine ⟨_, fun j => pt_not (pa j), fun ι S H σ ρ Q R e q => ?_⟩
  exact sa.go R e q fun c S1 ι1 H1 x1 R1 e1 q1 => Post.here R1 q1
theorem de_if {c x y : Expr} {pos : Pos} {k : TCode} {a b : ECode} (hc : DT Xs G E c k) (ha : DE Xs G E x a) (hb : DE Xs G E y b) : DE Xs G E (.IfExp c x y pos) (c_if k a b) := by
  obtain ⟨tc, pc, sc⟩ := hc
  obtain ⟨ta, pa, sa⟩ := ha
  obtain ⟨tb, pb, sb⟩ := hb
  refine ⟨_, fun j => pe_ifExp (pc j) (pa j) (pb j), fun ι S H σ ρ Q R e q => ?_⟩
  refine sc.go R e q fun c S1 ι1 H1 x1 R1 e1 q1 => ?_
  cases c with
  | true =>
    rw [if_pos rfl] at q1 ⊢
    exact sa ι1 S1 H1 σ ρ Q R1 e1 q1
  | false =>
    rw [if_neg Bool.false_ne_true] at q1 ⊢
    exact sb ι1 S1 H1 σ ρ Q R1 e1 q1
theorem de_one {op} {x : Expr} {pos : Pos} {a : ECode} (ha : DE Xs G E x a) : DE Xs G E (.BoolOp op [x] pos) a := by
  obtain ⟨ta, pa, sa⟩ := ha
  exact ⟨_, fun j => pe_one (pa j), sa⟩
theorem de_and {x y : Expr} {rest : List Expr} {pos : Pos} {a b : ECode} (ha : DE Xs G E x a) (hb : DE Xs G E (.BoolOp .And (y :: rest) pos) b) : DE Xs G E (.BoolOp .And (x :: y :: rest) pos) (c_andV a b) := by
  obtain ⟨ta, pa, sa⟩ := ha
  obtain ⟨tb, pb, sb⟩ := hb
  refine ⟨_, fun j => pe_and (pa j) (pb j), fun ι S H σ ρ Q R e q => ?_⟩
  refine sa.go R e q fun d S1 ι1 H1 v x1 R1 e1 r1 q1 => ?_
  cases d with
  | bl c =>
    refine ⟨c, r1.bl_of, ?_⟩
    have q2 : Post G (E σ) ι1 S1 H1 (PV G Q) (if c = true then b ρ S1 else .ok (.bl false) S1) := q1
    cases c with
    | true =>
      rw [if_pos rfl] at q2 ⊢
      exact sb ι1 S1 H1 σ ρ Q R1 e1 q2
    | false =>
      rw [if_neg Bool.false_ne_true] at q2 ⊢
      exact Post.here R1 q2 _ (.bl false)
  | _ => exact q1.elim
theorem de_not {x : Expr} {pos : Pos} {a : ECode} (ha : DE Xs G E x a) : DE Xs G E (.UnaryOp .Not x pos) (c_notV a) := by
  obtain ⟨ta, pa, sa⟩ := ha
  refine ⟨_, fun j => pe_not (pa j), fun ι S H σ ρ Q R e q => ?_⟩
  refine sa.go R e q fun d S1 ι1 H1 v x1 R1 e1 r1 q1 => ?_
  cases d with
  | bl c => exact ⟨c, r1.bl_of, Post.here R1 q1 _ (.bl _)⟩
  | _ => exact q1.elim
def c_chain (p p' : D → D → Sto → Res D) (a b c : ECode) : ECode := fun ρ S => (a ρ S).bind fun x S1 => (b ρ S1).bind fun y S2 => (p x y S2).bind fun z S3 => (asB z S3).bind fun k S4 =>
  if k = true then (c ρ S4).bind fun w S5 => p' y w S5 else .ok (.bl false) S4
theorem SndR.go {r : R2} {p : D → D → Sto → Res D} (h : SndR G r p) {E : XK} {ι : Ix} {S : Sto} {H : Hp} {x y : V} {dx dy : D} (R : Rel G ι S H) (rx : Rep G ι (Lv ι S) H x dx) (ry : Rep G ι (Lv ι S) H y dy)
    {β : Type} {k : D → Sto → Res β} {P : β → Ix → Sto → Hp → Prop} {Q : VK} (q : Post G E ι S H P ((p dx dy S).bind k))
    (hk : ∀ d S1 ι1 H1 v, Ext ι S H ι1 S1 H1 → Rel G ι1 S1 H1 → Rep G ι1 (Lv ι1 S1) H1 v d → Post G E ι1 S1 H1 P (k d S1) → Q v H1) : r x y H Q :=
  h E ι S H x y dx dy Q R rx ry (Post.bind q fun d S1 ι1 H1 x R1 q v r => hk d S1 ι1 H1 v x R1 r q)
theorem de_chain {op op' : CmpOp} {r r' : R2} {p p' : D → D → Sto → Res D} {x y z : Expr} {pos : Pos} {a b c : ECode} (ho : ∀ j, OpR (Xs j) (compareOp op) r) (hr : SndR G r p) (ho' : ∀ j, OpR (Xs j) (compareOp op') r') (hr' : SndR G r' p')
    (ha : DE Xs G E x a) (hb : DE Xs G E y b) (hc : DE Xs G E z c) (hm : lastMarks [op, op'] [y, z] = false) : DE Xs G E (.Compare x [op, op'] [y, z] pos) (c_chain p p' a b c) := by
  obtain ⟨ta, pa, sa⟩ := ha
  obtain ⟨tb, pb, sb⟩ := hb
  obtain ⟨tc, pc, sc⟩ := hc
  refine ⟨tChain r r' ta tb tc, fun j => pe_chain (ho j) (ho' j) (pa j) (pb j) (pc j) hm, fun ι S H σ ρ Q R e q => ?_⟩
  refine sa.go R e q fun d S1 ι1 H1 v x1 R1 e1 r1 q1 => ?_
  refine sb.go R1 e1 q1 fun d2 S2 ι2 H2 v2 x2 R2 e2 r2 q2 => ?_
  refine hr.go R2 (r1.mono x2) r2 q2 fun d3 S3 ι3 H3 v3 x3 R3 r3 q3 => ?_
  cases d3 with
  | bl k =>
    refine ⟨k, r3.bl_of, ?_⟩
    have q4 : Post G (E σ) ι3 S3 H3 (PV G Q) (if k = true then (c ρ S3).bind fun w S5 => p' d2 w S5 else .ok (.bl false) S3) := q3
    cases k with
    | true =>
      rw [if_pos rfl] at q4 ⊢
      refine sc.go R3 (e2.mono x3) q4 fun d5 S5 ι5 H5 v5 x5 R5 e5 r5 q5 => ?_
      exact hr' (E σ) ι5 S5 H5 v2 v5 d2 d5 Q R5 ((r2.mono x3).mono x5) r5 q5
    | false =>
      rw [if_neg Bool.false_ne_true] at q4 ⊢
      exact Post.here R3 q4 _ (.bl false)
  | _ => exact q3.elim
def c_nil : ACode := fun _ S => .ok [] S
def c_cons (a : ECode) (r : ACode) : ACode := fun ρ S => (a ρ S).bind fun x S1 => (r ρ S1).bind fun xs S2 => .ok (x :: xs) S2
theorem snd_nil : SndA G E tNil c_nil := fun ι S H σ ρ Q R e q => Post.here R q _ .nil
theorem snd_cons {te : TE} {t : TA} {a : ECode} {r : ACode} (ha : Snd G E te a) (hr : SndA G E t r) : SndA G E (tCons te t) (c_cons a r) := fun ι S H σ ρ Q R e q => by
  refine ha.go R e q fun d S1 ι1 H1 v x1 R1 e1 r1 q1 => ?_
  refine hr.go R1 e1 q1 fun ds S2 ι2 H2 vs x2 R2 e2 r2 q2 => ?_
  exact Post.here R2 q2 _ (.cons (r1.mono x2) r2)
theorem da_nil : DA Xs G E [] c_nil := ⟨_, fun _ => pa_nil, snd_nil⟩
theorem da_cons {e : Expr} {es : List Expr} {a : ECode} {r : ACode} (ha : DE Xs G E e a) (hr : DA Xs G E es r) (hs : ∀ j, starEach (e :: es) (Xs j).env = (false, eval e (Xs j).env) :: starEach es (Xs j).env) : DA Xs G E (e :: es) (c_cons a r) := by
  obtain ⟨ta, pa, sa⟩ := ha
  obtain ⟨tr, pr, sr⟩ := hr
  exact ⟨_, fun j => pa_cons (pa j) (pr j) (hs j), snd_cons sa sr⟩
theorem dk_nil : DKw Xs G E [] c_nil := ⟨_, fun _ => pk_nil, snd_nil⟩
theorem dk_cons {e : Expr} {nm : Option Str} {kpos : Pos} {ks : List Keyword} {a : ECode} {r : ACode} (ha : DE Xs G E e a) (hr : DKw Xs G E ks r) : DKw Xs G E (⟨nm, e, kpos⟩ :: ks) (c_cons a r) := by
  obtain ⟨ta, pa, sa⟩ := ha
  obtain ⟨tr, pr, sr⟩ := hr
  exact ⟨_, fun j => pk_cons (pa j) (pr j), snd_cons sa sr⟩
def itemsOf : D → Sto → Option (List D)
  | .tup ds, _ => some ds
  | .lst ds, _ => some ds
  | .scr ds, _ => some ds
  | .wtp ds, _ => some ds
  | .ref n, S => match S[n]? with
    | some (some (.lst ds)) => some ds
    | _ => none
  | _, _ => none
def fits (n : Nat) : Bool := decide (n ≤ 1000000)
theorem fits_le {n : Nat} (h : fits n = true) : n ≤ sizeLine := by
  have h := of_decide_eq_true h
  rw [sizeLine_eq]
  omega
theorem fits_lt {n : Nat} (h : fits n = true) : n < sizeLine := by
  have h := of_decide_eq_true h
  rw [sizeLine_eq]
  omega
def p_tup (ds : List D) (S : Sto) : Res D := if fits ds.length = true then .ok (.tup ds) S else .stuck
def p_lst (b : Bool) (ds : List D) (S : Sto) : Res D := if fits ds.length = true then (match b with
  | false => .ok (.lst ds) S
  | true => .ok (.ref S.length) (S ++ [some (.lst ds)])) else .stuck
theorem new_tup {ι : Ix} {S : Sto} {H : Hp} {vs : List V} {ds : List D} {p : Addr} (R : Rel G ι S H) (hp : H p = none) (r : Reps G ι (Lv ι S) H vs ds) :
    Ext ι S H ι S (upd H p (.tup vs)) ∧ Rel G ι S (upd H p (.tup vs)) ∧ Rep G ι (Lv ι S) (upd H p (.tup vs)) (.ref p) (.tup ds) := by
  have x : Ext ι S H ι S (upd H p (.tup vs)) := Ext.same (keepNew hp)
  exact ⟨x, R.same (keepNew hp), .tup upd_same (R.freshL hp) (r.mono x)⟩
theorem new_lst {ι : Ix} {S : Sto} {H : Hp} {vs : List V} {ds : List D} {p : Addr} (R : Rel G ι S H) (hp : H p = none) (r : Reps G ι (Lv ι S) H vs ds) :
    Ext ι S H ι S (upd H p (.lst vs)) ∧ Rel G ι S (upd H p (.lst vs)) ∧ Rep G ι (Lv ι S) (upd H p (.lst vs)) (.ref p) (.lst ds) := by
  have x : Ext ι S H ι S (upd H p (.lst vs)) := Ext.same (keepNew hp)
  exact ⟨x, R.same (keepNew hp), .lst upd_same (R.freshL hp) (r.mono x)⟩
theorem p_tup_ok {E0 : XK} {ι : Ix} {S : Sto} {H : Hp} {vs : List V} {ds : List D} {Q : VK} (R : Rel G ι S H) (r : Reps G ι (Lv ι S) H vs ds) (q : Post G E0 ι S H (PV G Q) (p_tup ds S)) :
    vs.length ≤ sizeLine ∧ ∀ p, H p = none → Q (.ref p) (upd H p (.tup vs)) := by
  unfold p_tup at q
  split at q
  · rename_i hf
    refine ⟨r.len_le (fits_le hf), fun p hp => ?_⟩
    obtain ⟨x, R', r'⟩ := new_tup R hp r
    exact q _ _ x R' _ r'
  · exact q.elim
theorem p_lst_ok {E0 : XK} {b : Bool} {ι : Ix} {S : Sto} {H : Hp} {vs : List V} {ds : List D} {Q : VK} (R : Rel G ι S H) (r : Reps G ι (Lv ι S) H vs ds) (q : Post G E0 ι S H (PV G Q) (p_lst b ds S)) :
    vs.length ≤ sizeLine ∧ ∀ p, H p = none → Q (.ref p) (upd H p (.lst vs)) := by
  unfold p_lst at q
  split at q
  · rename_i hf
    refine ⟨r.len_le (fits_le hf), fun p hp => ?_⟩
    cases b with
    | false =>
      obtain ⟨x, R', r'⟩ := new_lst R hp r
      exact q _ _ x R' _ r'
    | true =>
      have x : Ext ι S H (ι.snoc p) (S ++ [some (.lst ds)]) (upd H p (.lst vs)) := Ext.new R hp
      refine q _ _ x (R.new hp ⟨vs, upd_same, r.mono x⟩) _ (.ref ?_)
      show (ι.l ++ [p])[S.length]? = some p
      rw [← R.len]
      simp
  · exact q.elim
def c_tup (a : ACode) : ECode := fun ρ S => (a ρ S).bind p_tup
def c_lst (b : Bool) (a : ACode) : ECode := fun ρ S => (a ρ S).bind (p_lst b)
theorem de_tup {es : List Expr} {x1} {pos : Pos} {a : ACode} (ha : DA Xs G E es a) : DE Xs G E (.Tuple es x1 pos) (c_tup a) := by
  obtain ⟨ta, pa, sa⟩ := ha
  refine ⟨_, fun j => pe_tup (pa j), fun ι S H σ ρ Q R e q => ?_⟩
  exact sa.go R e q fun ds S1 ι1 H1 vs x1 R1 e1 r1 q1 => p_tup_ok R1 r1 q1
theorem de_lst {es : List Expr} {pos : Pos} {a : ACode} (b : Bool) (ha : DA Xs G E es a) : DE Xs G E (.List es pos) (c_lst b a) := by
  obtain ⟨ta, pa, sa⟩ := ha
  refine ⟨_, fun j => pe_lst (pa j), fun ι S H σ ρ Q R e q => ?_⟩
  exact sa.go R e q fun ds S1 ι1 H1 vs x1 R1 e1 r1 q1 => p_lst_ok R1 r1 q1
end
def SndG (G : Gx) (sl : List Nat) (g : TG) (c : D → Env → Sto → Res Env) : Prop := ∀ E ι S H σ ρ v d Q, Rel G ι S H → REnv G ι S H σ ρ → Rep G ι (Lv ι S) H v d →
  Post G E ι S H (fun ρ' ι' S' H' => ∀ σ', REnv G ι' S' H' σ' ρ' → (∀ vs, (∀ i ∈ sl, i ∈ vs) → wipe σ' vs = wipe σ vs) → Q σ' H') (c d ρ S) → g v σ H Q
def SndGs (G : Gx) (sl : List Nat) (g : TGs) (c : List D → Env → Sto → Res Env) : Prop := ∀ E ι S H σ ρ v d Q, Rel G ι S H → REnv G ι S H σ ρ → Reps G ι (Lv ι S) H v d →
  Post G E ι S H (fun ρ' ι' S' H' => ∀ σ', REnv G ι' S' H' σ' ρ' → (∀ vs, (∀ i ∈ sl, i ∈ vs) → wipe σ' vs = wipe σ vs) → Q σ' H') (c d ρ S) → g v σ H Q
section
variable {I : Type} (Xs : I → Cx) (G : Gx)
def DG (tg : Expr) (sl : List Nat) (c : D → Env → Sto → Res Env) : Prop := ∃ g, (∀ i, PG (Xs i) tg g) ∧ SndG G sl g c
def DGs (tg : List Expr) (sl : List Nat) (c : List D → Env → Sto → Res Env) : Prop := ∃ g, (∀ i, PGs (Xs i) tg g) ∧ SndGs G sl g c
end
theorem wipe_set {σ : L2.St} {x : Option V} : ∀ {vs : List Nat} {i : Nat}, i ∈ vs → wipe (σ.set i x) vs = wipe σ vs
  | v :: vs, i, h => by
    unfold wipe
    by_cases e : i = v
    · subst e
      by_cases hm : i ∈ vs
      · rw [wipe_set hm]
      · have : ∀ (us : List Nat), i ∉ us → (wipe (σ.set i x) us).set i none = (wipe σ us).set i none := by
          intro us
          induction us with
          | nil => intro _; unfold wipe; simp
          | cons u us ih =>
            intro hu
            unfold wipe
            have hne : u ≠ i := fun e => hu (by simp [e])
            rw [List.set_comm _ _ hne, ih fun z => hu (by simp [z]), List.set_comm _ _ hne]
        exact this vs hm
    · rw [wipe_set (List.mem_of_ne_of_mem e h)]
def g_name (i : Nat) : D → Env → Sto → Res Env := fun d ρ S => .ok (ρ.set i (some d)) S
def g_nil : List D → Env → Sto → Res Env := fun ds ρ S => match ds with
  | [] => .ok ρ S
  | _ => .stuck
def g_cons (a : D → Env → Sto → Res Env) (r : List D → Env → Sto → Res Env) : List D → Env → Sto → Res Env := fun ds ρ S => match ds with
  | d :: ds => (a d ρ S).bind fun ρ1 S1 => r ds ρ1 S1
  | [] => .stuck
def g_tup (n : Nat) (r : List D → Env → Sto → Res Env) : D → Env → Sto → Res Env := fun d ρ S => match d with
  | .tup ds => if ds.length = n then r ds ρ S else .stuck
  | d => match itemsOf d S with
    | some ds => if ds.length = n then r ds ρ S else .stuck
    | none => .stuck
section
variable {I : Type} {Xs : I → Cx} {G : Gx} {E : WK} {kk : Nat}
theorem snd_name {i : Nat} : SndG G [i] (gName i) (g_name i) := fun E ι S H σ ρ v d Q R e r q =>
  Post.here R q _ (e.set r i) fun vs h => wipe_set (h i (by simp))
theorem dg_name (F : FamH Xs G E) {i : Nat} {x : Str} {pos : Pos} (hi : ∀ j, (Xs j).N[i]? = some x) (hx : ∀ j, Loc (Xs j).env.scope x) (hf : ∀ j, (Xs j).fn x = true ∨ (Xs j).env.scope.names.lookup x = some .local) : DG Xs G (.Name x pos) [i] (g_name i) :=
  ⟨_, fun j => pg_name (F.nd j) (hi j) (hx j) (hf j), snd_name⟩
theorem dgs_nil : DGs Xs G [] [] g_nil := ⟨_, fun _ => pgs_nil, fun E ι S H σ ρ v d Q R e r q => by
  cases r with
  | nil => exact ⟨rfl, Post.here R q _ e fun _ _ => rfl⟩
  | cons _ _ => exact q.elim⟩
theorem dgs_cons {t : Expr} {ts : List Expr} {s1 s2 : List Nat} {a : D → Env → Sto → Res Env} {r : List D → Env → Sto → Res Env} (ha : DG Xs G t s1 a) (hr : DGs Xs G ts s2 r) (hs : ∀ j, List.map (fun x => x.snd) (assignEach (t :: ts) (Xs j).env) = assign t (Xs j).env :: List.map (fun x => x.snd) (assignEach ts (Xs j).env)) : DGs Xs G (t :: ts) (s1 ++ s2) (g_cons a r) := by
  obtain ⟨ga, pa, sa⟩ := ha
  obtain ⟨gr, pr, sr⟩ := hr
  refine ⟨_, fun j => pgs_cons (pa j) (pr j) (hs j), fun E ι S H σ ρ v d Q R e r q => ?_⟩
  cases r with
  | nil => exact q.elim
  | cons r0 rs =>
    refine ⟨_, _, rfl, sa E ι S H σ ρ _ _ _ R e r0 (Post.bind q fun ρ1 S1 ι1 H1 x1 R1 q1 σ1 e1 w1 => ?_)⟩
    refine sr E ι1 S1 H1 σ1 ρ1 _ _ Q R1 e1 (rs.mono x1) (q1.imp fun ρ2 S2 ι2 H2 x2 R2 q2 σ2 e2 w2 => q2 σ2 e2 fun vs hv => ?_)
    rw [w2 vs fun i hi => hv i (by simp [hi]), w1 vs fun i hi => hv i (by simp [hi])]
theorem pg_or {X : Cx} {tg : Expr} {a b : TG} (h : PG X tg a) (h' : PG X tg b) : PG X tg (fun v σ H Q => a v σ H Q ∨ b v σ H Q) :=
  ⟨fun pins s σ H v u Q I r hw => hw.elim (fun z => h.run pins s σ H v u Q I r z) fun z => h'.run pins s σ H v u Q I r z⟩
theorem sqtl_at {ι : Ix} {S : Sto} {H : Hp} {v : V} {d : D} {ds : List D} (R : Rel G ι S H) (r : Rep G ι (Lv ι S) H v d) (h : itemsOf d S = some ds) : ∃ a vs, v = .ref a ∧ (SqT G.K H a vs ∨ SqL G.K H a vs) ∧ Reps G ι (Lv ι S) H vs ds := by
  cases r with
  | tup q k r => cases h; exact ⟨_, _, rfl, .inl (SqT.of q), r⟩
  | wtp q r => cases h; exact ⟨_, _, rfl, .inl (.inr q), r⟩
  | lst q k r => cases h; exact ⟨_, _, rfl, .inr (SqL.of q), r⟩
  | scr q r =>
    cases h
    refine ⟨_, _, rfl, .inr ?_, r⟩
    rcases q with q | q
    · exact .inl q.1
    · exact .inr q
  | ref q =>
    rename_i a n
    unfold itemsOf at h
    cases hs : S[n]? with
    | none => simp only [hs] at h; cases h
    | some o =>
      simp only [hs] at h
      cases o with
      | none => cases h
      | some cl =>
        cases cl with
        | lst es =>
          cases h
          obtain ⟨a', h1, vs, h2, h3⟩ := R.cell n _ hs
          rw [q] at h1
          cases h1
          exact ⟨a, vs, rfl, .inr (SqL.of h2), h3⟩
        | _ => cases h
  | _ => cases h
theorem dg_tup (F : FamH Xs G E) {es : List Expr} {k : Nat} {pos : Pos} {n : Nat} {sl : List Nat} {r : List D → Env → Sto → Res Env} (hr : DGs Xs G es sl r) (hn : es.length = n) (hp : ∀ j (t : TGs), PGs (Xs j) es t → PG (Xs j) (.Tuple es k pos) (fun v σ H Q => gTup (Xs j).K n t v σ H Q ∨ gLst (Xs j).K n t v σ H Q)) :
    DG Xs G (.Tuple es k pos) sl (g_tup n r) := by
  obtain ⟨gr, pr, sr⟩ := hr
  refine ⟨fun v σ H Q => gTup G.K n gr v σ H Q ∨ gLst G.K n gr v σ H Q, fun j => by have z := hp j gr (pr j); rw [F.K j] at z; exact z, fun E ι S H σ ρ v d Q R e rr q => ?_⟩
  have main : ∀ ds, itemsOf d S = some ds → Post G E ι S H (fun ρ' ι' S' H' => ∀ σ', REnv G ι' S' H' σ' ρ' → (∀ vs, (∀ i ∈ sl, i ∈ vs) → wipe σ' vs = wipe σ vs) → Q σ' H') (if ds.length = n then r ds ρ S else .stuck) → gTup G.K n gr v σ H Q ∨ gLst G.K n gr v σ H Q := fun ds hd q => by
    obtain ⟨a, vs, rfl, hs, rs⟩ := sqtl_at R rr hd
    by_cases hl : ds.length = n
    · rw [if_pos hl] at q
      have z := sr E ι S H σ ρ _ _ Q R e rs q
      rcases hs with hs | hs
      · exact .inl ⟨a, vs, rfl, hs, rs.length.trans hl, z⟩
      · exact .inr ⟨a, vs, rfl, hs, rs.length.trans hl, z⟩
    · rw [if_neg hl] at q
      exact q.elim
  have gen : (Post G E ι S H (fun ρ' ι' S' H' => ∀ σ', REnv G ι' S' H' σ' ρ' → (∀ vs, (∀ i ∈ sl, i ∈ vs) → wipe σ' vs = wipe σ vs) → Q σ' H') (match itemsOf d S with
    | some ds => if ds.length = n then r ds ρ S else .stuck
    | none => .stuck)) → gTup G.K n gr v σ H Q ∨ gLst G.K n gr v σ H Q := fun q => by
    cases hd : itemsOf d S with
    | none => rw [hd] at q; exact q.elim
    | some ds => rw [hd] at q; exact main ds hd q
  cases d with
  | tup ds => exact main ds rfl q
  | _ => exact gen q
def c_set (i : Nat) (a : ECode) : SCode := fun ρ S => (a ρ S).bind fun d S1 => .ok (.nx (ρ.set i (some d))) S1
def c_asg (g : D → Env → Sto → Res Env) (a : ECode) : SCode := fun ρ S => (a ρ S).bind fun d S1 => (g d ρ S1).bind fun ρ1 S2 => .ok (.nx ρ1) S2
def c_nx : SCode := fun ρ S => .ok (.nx ρ) S
def c_seq (a b : SCode) : SCode := fun ρ S => (a ρ S).bind fun f S1 => match f with
  | .nx ρ1 => b ρ1 S1
  | o => .ok o S1
def c_expr (a : ECode) : SCode := fun ρ S => (a ρ S).bind fun _ S1 => .ok (.nx ρ) S1
def c_ret (a : ECode) : SCode := fun ρ S => (a ρ S).bind fun d S1 => .ok (.rt d) S1
def c_retN : SCode := fun _ S => .ok (.rt .non) S
def c_brk : SCode := fun ρ S => .ok (.bk ρ) S
def c_cont : SCode := fun ρ S => .ok (.ct ρ) S
def c_ifS (c : TCode) (a b : SCode) : SCode := fun ρ S => (c ρ S).bind fun k S1 => if k = true then a ρ S1 else b ρ S1
def c_stuck : SCode := fun _ _ => .stuck
theorem snd_asg {te : TE} {g : TG} {sl : List Nat} {a : ECode} {c : D → Env → Sto → Res Env} (ha : Snd G E te a) (hg : SndG G sl g c) : SndS G E (tAsg te g) (c_asg c a) := fun ι S H σ ρ Dn R e q => by
  refine ha.go R e q fun d S1 ι1 H1 v x1 R1 e1 r1 q1 => ?_
  refine hg (E σ) ι1 S1 H1 σ ρ v d _ R1 e1 r1 (Post.bind q1 fun ρ2 S2 ι2 H2 x2 R2 q2 σ2 e2 w2 => ?_)
  exact Post.here R2 q2 σ2 e2
theorem ds_asg {tg e : Expr} {pos : Pos} {sl : List Nat} {a : ECode} {c : D → Env → Sto → Res Env} (ha : DE Xs G E e a) (hg : DG Xs G tg sl c) (hs : ∀ j, swapsWithSole [tg] e pos.line (Xs j).env = pure false) (hw : ∀ j, swappedStores [tg] e (Xs j).env = pure none) (h1 : ∀ j, List.map (fun x => x.snd) (assignEach [tg] (Xs j).env) = [assign tg (Xs j).env]) :
    DS Xs G E (.Assign [tg] e pos) (c_asg c a) := by
  obtain ⟨ta, pa, sa⟩ := ha
  obtain ⟨g, pg, sg⟩ := hg
  exact ⟨_, fun j => ps_asg (pa j) (pg j) (hs j) (hw j) (h1 j), snd_asg sa sg⟩
theorem ds_set (F : FamH Xs G E) {i : Nat} {x : Str} {e : Expr} {pos pos' : Pos} {a : ECode} (hi : ∀ j, (Xs j).N[i]? = some x) (hx : ∀ j, Loc (Xs j).env.scope x) (hf : ∀ j, (Xs j).fn x = true ∨ (Xs j).env.scope.names.lookup x = some .local) (ha : DE Xs G E e a)
    (hs : ∀ j, swapsWith e (some (.Name x pos')) pos.line (Xs j).env = pure false) : DS Xs G E (.Assign [.Name x pos'] e pos) (c_set i a) := by
  obtain ⟨ta, pa, sa⟩ := ha
  refine ⟨tAsg ta (gName i), fun j => ps_set (F.nd j) (hi j) (hx j) (pa j) (hs j) (hf j), fun ι S H σ ρ Dn R e q => ?_⟩
  refine sa.go R e q fun d S1 ι1 H1 v x1 R1 e1 r1 q1 => ?_
  exact Post.here R1 q1 _ (e1.set r1 i)
theorem dss_nil : DSs Xs G E [] c_nx := ⟨_, fun _ => pss_nil, fun ι S H σ ρ Dn R e q => Post.here R q σ e⟩
theorem snd_seq {E : XK} {t u : TS} {a b : SCode} (ha : SndS G (fun _ => E) t a) (hb : SndS G (fun _ => E) u b) : SndS G (fun _ => E) (tSeq t u) (c_seq a b) := fun ι S H σ ρ Dn R e q => by
  refine ha ι S H σ ρ _ R e (Post.bind q fun f S1 ι1 H1 x1 R1 q1 => ?_)
  cases f with
  | nx ρ1 => exact fun σ1 e1 => hb ι1 S1 H1 σ1 ρ1 Dn R1 e1 q1
  | rt d => exact fun v r => Post.here R1 q1 v r
  | bk ρ1 => exact fun σ1 e1 => Post.here R1 q1 σ1 e1
  | ct ρ1 => exact fun σ1 e1 => Post.here R1 q1 σ1 e1
theorem dss_cons {st : Stmt} {sts : List Stmt} {a b : SCode} (ha : DS Xs G E st a) (hb : DSs Xs G E sts b) (hE : ∀ σ σ', E σ = E σ' := by exact fun _ _ => rfl) : DSs Xs G E (st :: sts) (c_seq a b) := by
  obtain ⟨E0, rfl⟩ : ∃ E0, E = fun _ => E0 := ⟨E [], funext fun σ => hE σ []⟩
  obtain ⟨ta, pa, sa⟩ := ha
  obtain ⟨tb, pb, sb⟩ := hb
  exact ⟨_, fun j => pss_cons (pa j) (pb j), snd_seq sa sb⟩
theorem dss_one {st : Stmt} {a : SCode} (ha : DS Xs G E st a) : DSs Xs G E [st] a := by
  obtain ⟨ta, pa, sa⟩ := ha
  exact ⟨_, fun j => pss_one (pa j), sa⟩
theorem ds_expr {e : Expr} {pos : Pos} {a : ECode} (ha : DE Xs G E e a) (hs : ∀ j, swapsWith e none pos.line (Xs j).env = pure false) : DS Xs G E (.Expr e pos) (c_expr a) := by
  obtain ⟨ta, pa, sa⟩ := ha
  refine ⟨_, fun j => ps_expr (pa j) (hs j), fun ι S H σ ρ Dn R e q => ?_⟩
  exact sa.go R e q fun d S1 ι1 H1 v x1 R1 e1 r1 q1 => Post.here R1 q1 σ e1
theorem ds_ret {e : Expr} {pos : Pos} {a : ECode} (ha : DE Xs G E e a) : DS Xs G E (.Return (some e) pos) (c_ret a) := by
  obtain ⟨ta, pa, sa⟩ := ha
  refine ⟨_, fun j => ps_ret (pa j), fun ι S H σ ρ Dn R e q => ?_⟩
  exact sa.go R e q fun d S1 ι1 H1 v x1 R1 e1 r1 q1 => Post.here R1 q1 v r1
theorem ds_if {c : Expr} {x y : List Stmt} {pos : Pos} {k : TCode} {a b : SCode} (hc : DT Xs G E c k) (ha : DSs Xs G E x a) (hb : DSs Xs G E y b) : DS Xs G E (.If c x y pos) (c_ifS k a b) := by
  obtain ⟨tc, pc, sc⟩ := hc
  obtain ⟨ta, pa, sa⟩ := ha
  obtain ⟨tb, pb, sb⟩ := hb
  refine ⟨_, fun j => ps_if (pc j) (pa j) (pb j), fun ι S H σ ρ Dn R e q => ?_⟩
  refine sc.go R e q fun c S1 ι1 H1 x1 R1 e1 q1 => ?_
  cases c with
  | true =>
    rw [if_pos rfl] at q1 ⊢
    exact sa ι1 S1 H1 σ ρ Dn R1 e1 q1
  | false =>
    rw [if_neg Bool.false_ne_true] at q1 ⊢
    exact sb ι1 S1 H1 σ ρ Dn R1 e1 q1
def SndI2 (G : Gx) (r : TIp) (p : D → D → Sto → Res D) : Prop := ∀ E ι S H x y dx dy Q, Rel G ι S H → Rep G ι (Lv ι S) H x dx → Rep G ι (Lv ι S) H y dy → Post G E ι S H (PV G Q) (p dx dy S) → r x y H Q
def c_aug (i : Nat) (p : D → D → Sto → Res D) (a : ECode) : SCode := fun ρ S => (c_var i ρ S).bind fun x S0 => (a ρ S0).bind fun y S1 => (p x y S1).bind fun z S2 => .ok (.nx (ρ.set i (some z))) S2
theorem ds_aug (F : FamH Xs G E) {i : Nat} {x : Str} {e : Expr} {op : Operator} {pos pos' : Pos} {a : ECode} {ti : TIp} {p : D → D → Sto → Res D} (hi : ∀ j, (Xs j).N[i]? = some x) (hx : ∀ j, Loc (Xs j).env.scope x) (hf : ∀ j, (Xs j).fn x = true ∨ (Xs j).env.scope.names.lookup x = some .local)
    (ho : ∀ j, PIp (Xs j) op ti) (hr : SndI2 G ti p) (ha : DE Xs G E e a)
    (hw : ∀ j (te : TE), PE (Xs j) e te → PS (Xs j) (.AugAssign (.Name x pos') op e pos) (tAug i te ti)) : DS Xs G E (.AugAssign (.Name x pos') op e pos) (c_aug i p a) := by
  obtain ⟨ta, pa, sa⟩ := ha
  refine ⟨_, fun j => hw j ta (pa j), fun ι S H σ ρ Dn R e q => ?_⟩
  unfold c_aug c_var at q
  split at q
  · rename_i d hd
    obtain ⟨v, h1, h2⟩ := e.at_ i d hd
    refine ⟨v, h1, ?_⟩
    have q : Post G (E σ) ι S H (PF G Dn) ((a ρ S).bind fun y S1 => (p d y S1).bind fun z S2 => .ok (.nx (ρ.set i (some z))) S2) := q
    refine sa.go R e q fun y S1 ι1 H1 w x1 R1 e1 r1 q1 => ?_
    refine hr (E σ) ι1 S1 H1 v w d y _ R1 (h2.mono x1) r1 (Post.bind q1 fun z S2 ι2 H2 x2 R2 q2 u r2 => ?_)
    exact Post.here R2 q2 _ ((e1.mono x2).set r2 i)
  · exact q.elim
structure Wk where
  items : List D
  src : List (D × List D)
def Wk.ok (w : Wk) (S : Sto) : Prop := ∀ p ∈ w.src, itemsOf p.1 S = some p.2
def Walks (G : Gx) (wk : Wk) (ι1 : Ix) (S1 : Sto) (H1 : Hp) (J : It) : Prop := ∀ ι2 S2 H2, Ext ι1 S1 H1 ι2 S2 H2 → Rel G ι2 S2 H2 → wk.ok S2 →
  J.stop wk.items.length H2 ∧ ∀ i d, wk.items[i]? = some d → J.go i H2 ∧ ∀ x H3, J.yld i H2 x H3 → Ext ι2 S2 H2 ι2 S2 H3 ∧ Rel G ι2 S2 H3 ∧ Rep G ι2 (Lv ι2 S2) H3 x d ∧ ∀ a o, H2 a = some o → H3 a = some o
def SndIt (G : Gx) (E : WK) (wi : TI) (c : Env → Sto → Res Wk) : Prop := ∀ ι S H σ ρ Q, Rel G ι S H → REnv G ι S H σ ρ → Post G (E σ) ι S H (fun wk ι1 S1 H1 => ∀ J, Walks G wk ι1 S1 H1 J → Q J H1) (c ρ S) → wi σ H Q
def DI {I : Type} (Xs : I → Cx) (G : Gx) (E : WK) (tg iter : Expr) (c : Env → Sto → Res Wk) : Prop := ∃ wi, (∀ i, PI (Xs i) tg iter wi) ∧ SndIt G E wi c
open Classical in
noncomputable def forL (ok : Sto → Prop) (body : D → SCode) : List D → SCode
  | [], ρ, S => if ok S then .ok (.nx ρ) S else .stuck
  | d :: ds, ρ, S => if ok S then (body d ρ S).bind fun f S1 => match f with
      | .nx ρ1 => forL ok body ds ρ1 S1
      | .ct ρ1 => forL ok body ds ρ1 S1
      | .bk ρ1 => .ok (.nx ρ1) S1
      | .rt d => .ok (.rt d) S1 else .stuck
noncomputable def c_for (ci : Env → Sto → Res Wk) (g : D → Env → Sto → Res Env) (body : SCode) : SCode := fun ρ S => (ci ρ S).bind fun wk S1 => forL wk.ok (fun d ρ S => (g d ρ S).bind fun ρ1 S1 => body ρ1 S1) wk.items ρ S1
theorem ds_for (F : Fam Xs G E kk) {tg iter : Expr} {body : List Stmt} {pos : Pos} {sl : List Nat} {ci : Env → Sto → Res Wk} {g : D → Env → Sto → Res Env} {b : SCode} (hi : DI Xs G E tg iter ci) (hg : DG Xs G tg sl g) (hb : DSs Xs G E body b)
    (hp : ∀ j, PassesOwn (model (Xs j).prog (Xs j).w) (Xs j).A (Xs j).env (Xs j).xe) (hs : ∀ j x, foldedSetIterable iter (Xs j).env x = pure x) (hE : ∀ σ σ', E σ = E σ' := by exact fun _ _ => rfl) : DS Xs G E (.For tg iter body [] pos) (c_for ci g b) := by
  obtain ⟨E0, rfl⟩ : ∃ E0, E = fun _ => E0 := ⟨E [], funext fun σ => hE σ []⟩
  obtain ⟨wi, pi, si⟩ := hi
  obtain ⟨gg, pg, sg⟩ := hg
  obtain ⟨tb, pb, sb⟩ := hb
  refine ⟨tFor wi gg tb, fun j => ps_for (hp j) (F.calm j) (pi j) (pg j) (pb j) (hs j), fun ι S H σ ρ Dn R e q => ?_⟩
  refine si ι S H σ ρ _ R e (Post.bind q fun wk S1 ι1 H1 x1 R1 q1 J hJ => ?_)
  refine ⟨fun i m σ H => m = wk.items.length - i ∧ i ≤ wk.items.length ∧ ∃ ι2 S2 ρ2, Ext ι1 S1 H1 ι2 S2 H ∧ Rel G ι2 S2 H ∧ REnv G ι2 S2 H σ ρ2 ∧ Post G E0 ι2 S2 H (PF G Dn) (forL wk.ok (fun d ρ S => (g d ρ S).bind fun ρ1 S1 => b ρ1 S1) (wk.items.drop i) ρ2 S2),
    ⟨_, rfl, Nat.zero_le _, ι1, S1, ρ, Ext.refl, R1, e.mono x1, q1⟩, ?_⟩
  rintro i m σ2 H2 ⟨rfl, hi, ι2, S2, ρ2, x2, R2, e2, q2⟩
  by_cases hlt : i < wk.items.length
  · rw [List.drop_eq_getElem_cons hlt] at q2
    unfold forL at q2
    split at q2
    · rename_i hok
      obtain ⟨_, hw⟩ := hJ ι2 S2 H2 x2 R2 hok
      obtain ⟨hgo, hy⟩ := hw i wk.items[i] (by simp [hlt])
      refine .inr ⟨hgo, fun σ' H' => i + 1 ≤ wk.items.length ∧ ∃ ι3 S3 ρ3, Ext ι1 S1 H1 ι3 S3 H' ∧ Rel G ι3 S3 H' ∧ REnv G ι3 S3 H' σ' ρ3 ∧ Post G E0 ι3 S3 H' (PF G Dn) (forL wk.ok (fun d ρ S => (g d ρ S).bind fun ρ1 S1 => b ρ1 S1) (wk.items.drop (i + 1)) ρ3 S3),
        fun σ' H' h => ⟨wk.items.length - (i + 1), by omega, rfl, h.1, h.2⟩, fun x H3 hx => ?_⟩
      obtain ⟨x3, R3, r3, _⟩ := hy x H3 hx
      have q3 := Post.back x3 q2
      have q4 : Post G E0 ι2 S2 H3 (PF G Dn) ((g wk.items[i] ρ2 S2).bind fun ρ1 S1 => (b ρ1 S1).bind fun f S1 => match f with
        | .nx ρ1 => forL wk.ok (fun d ρ S => (g d ρ S).bind fun ρ1 S1 => b ρ1 S1) (wk.items.drop (i + 1)) ρ1 S1
        | .ct ρ1 => forL wk.ok (fun d ρ S => (g d ρ S).bind fun ρ1 S1 => b ρ1 S1) (wk.items.drop (i + 1)) ρ1 S1
        | .bk ρ1 => .ok (.nx ρ1) S1
        | .rt d => .ok (.rt d) S1) := by
        cases hgc : g wk.items[i] ρ2 S2 with
        | ok a S => rw [hgc] at q3; exact q3
        | ex c d S => rw [hgc] at q3; exact q3
        | stuck => rw [hgc] at q3; exact q3
      refine sg E0 ι2 S2 H3 σ2 ρ2 x _ _ R3 (e2.mono x3) r3 (Post.bind q4 fun ρ4 S4 ι4 H4 x4 R4 q5 σ4 e4 _ => ?_)
      refine sb ι4 S4 H4 σ4 ρ4 _ R4 e4 (Post.bind q5 fun f S5 ι5 H5 x5 R5 q6 => ?_)
      have xx : Ext ι1 S1 H1 ι5 S5 H5 := ((x2.trans x3).trans x4).trans x5
      cases f with
      | nx ρ5 => exact fun σ5 e5 => ⟨hlt, ι5, S5, ρ5, xx, R5, e5, q6⟩
      | ct ρ5 => exact fun σ5 e5 => ⟨hlt, ι5, S5, ρ5, xx, R5, e5, q6⟩
      | bk ρ5 => exact fun σ5 e5 => Post.here R5 q6 σ5 e5
      | rt d => exact fun v r => Post.here R5 q6 v r
    · exact q2.elim
  · have ei : i = wk.items.length := by omega
    subst ei
    rw [List.drop_length] at q2
    unfold forL at q2
    split at q2
    · rename_i hok
      exact .inl ⟨(hJ ι2 S2 H2 x2 R2 hok).1, Post.here R2 q2 σ2 e2⟩
    · exact q2.elim
def whileL (c : TCode) (b : SCode) : Nat → SCode
  | 0, _, _ => .stuck
  | n + 1, ρ, S => (c ρ S).bind fun k S1 => if k = true then (b ρ S1).bind fun f S2 => match f with
      | .nx ρ1 => whileL c b n ρ1 S2
      | .ct ρ1 => whileL c b n ρ1 S2
      | .bk ρ1 => .ok (.nx ρ1) S2
      | .rt d => .ok (.rt d) S2 else .ok (.nx ρ) S1
def FUEL : Nat := 1000000000000
def c_while (c : TCode) (b : SCode) : SCode := fun ρ S => whileL c b FUEL ρ S
theorem ds_while {c : Expr} {body : List Stmt} {pos : Pos} {k : TCode} {b : SCode} (hc : DT Xs G E c k) (hb : DSs Xs G E body b)
    (hp : ∀ j, PassesOwn (model (Xs j).prog (Xs j).w) (Xs j).A (Xs j).env (Xs j).xe) (hE : ∀ σ σ', E σ = E σ' := by exact fun _ _ => rfl) : DS Xs G E (.While c body [] pos) (c_while k b) := by
  obtain ⟨E0, rfl⟩ : ∃ E0, E = fun _ => E0 := ⟨E [], funext fun σ => hE σ []⟩
  obtain ⟨tc, pc, sc⟩ := hc
  obtain ⟨tb, pb, sb⟩ := hb
  refine ⟨tWhile tc tb, fun j => ps_while (hp j) (pc j) (pb j), fun ι S H σ ρ Dn R e q => ?_⟩
  refine ⟨fun m σ H => ∃ ι2 S2 ρ2, Rel G ι2 S2 H ∧ REnv G ι2 S2 H σ ρ2 ∧ Post G E0 ι2 S2 H (PF G Dn) (whileL k b m ρ2 S2), ⟨FUEL, ι, S, ρ, R, e, q⟩, ?_⟩
  rintro m σ2 H2 ⟨ι2, S2, ρ2, R2, e2, q2⟩
  cases m with
  | zero => exact q2.elim
  | succ m =>
    have q2 : Post G E0 ι2 S2 H2 (PF G Dn) ((k ρ2 S2).bind fun c S1 => if c = true then (b ρ2 S1).bind fun f S2 => match f with
      | .nx ρ1 => whileL k b m ρ1 S2
      | .ct ρ1 => whileL k b m ρ1 S2
      | .bk ρ1 => .ok (.nx ρ1) S2
      | .rt d => .ok (.rt d) S2 else .ok (.nx ρ2) S1) := q2
    refine sc.go R2 e2 q2 fun t S3 ι3 H3 x3 R3 e3 q3 => ?_
    cases t with
    | true =>
      rw [if_pos rfl] at q3 ⊢
      refine ⟨fun σ' H' => ∃ ι2 S2 ρ2, Rel G ι2 S2 H' ∧ REnv G ι2 S2 H' σ' ρ2 ∧ Post G E0 ι2 S2 H' (PF G Dn) (whileL k b m ρ2 S2), fun σ' H' h => ⟨m, Nat.lt_succ_self _, h⟩, ?_⟩
      refine sb ι3 S3 H3 σ2 ρ2 _ R3 e3 (Post.bind q3 fun f S4 ι4 H4 x4 R4 q4 => ?_)
      cases f with
      | nx ρ5 => exact fun σ5 e5 => ⟨ι4, S4, ρ5, R4, e5, q4⟩
      | ct ρ5 => exact fun σ5 e5 => ⟨ι4, S4, ρ5, R4, e5, q4⟩
      | bk ρ5 => exact fun σ5 e5 => Post.here R4 q4 σ5 e5
      | rt d => exact fun v r => Post.here R4 q4 v r
    | false =>
      rw [if_neg Bool.false_ne_true] at q3 ⊢
      exact Post.here R3 q3 σ2 e3
end
def Res.bindN {α β : Type} (r : Res α) (k : α → Sto → Res β) : Res β :=
  match r with
  | .ok a S => k a S
  | _ => .stuck
@[simp] theorem Res.bindN_ok {α β : Type} (a : α) (S : Sto) (k : α → Sto → Res β) : (Res.ok a S).bindN k = k a S := rfl
theorem Post.bindN {G : Gx} {E E' : XK} {ι : Ix} {S : Sto} {H : Hp} {α β : Type} {P : α → Ix → Sto → Hp → Prop} {P' : β → Ix → Sto → Hp → Prop} {r : Res α} {k : α → Sto → Res β} (p : Post G E ι S H P' (r.bindN k))
    (hk : ∀ a S1 ι1 H1, Ext ι S H ι1 S1 H1 → Rel G ι1 S1 H1 → Post G E ι1 S1 H1 P' (k a S1) → P a ι1 S1 H1) : Post G E' ι S H P r := by
  cases r with
  | ok a S2 => exact fun ι2 H2 y R => hk a S2 ι2 H2 y R (Post.back y p)
  | ex c d S2 => exact p.elim
  | stuck => exact p
def wipeE (ρ : Env) : List Nat → Env
  | [] => ρ
  | v :: vs => (wipeE ρ vs).set v none
theorem REnv.wipe {G : Gx} {ι : Ix} {S : Sto} {H : Hp} {σ : L2.St} {ρ : Env} (e : REnv G ι S H σ ρ) : ∀ vs : List Nat, REnv G ι S H (L2.wipe σ vs) (wipeE ρ vs)
  | [] => e
  | v :: vs => by
    have ih := e.wipe vs
    unfold L2.wipe wipeE
    refine ⟨by simp [ih.len], fun j d q => ?_⟩
    rw [List.getElem?_set] at q ⊢
    by_cases hi : v = j
    · subst hi
      rw [if_pos rfl] at q
      split at q <;> cases q
    · rw [if_neg hi] at q ⊢
      exact ih.at_ j d q
open Classical in
noncomputable def lcL (ok : Sto → Prop) (g : D → Env → Sto → Res Env) (t : TCode) (a : ECode) (ρ : Env) : List D → Sto → Res (List D)
  | [], S => if ok S then .ok [] S else .stuck
  | d :: ds, S => if ok S then (g d ρ S).bindN fun ρ1 S1 => (t ρ1 S1).bindN fun b S2 => if b = true then (a ρ1 S2).bindN fun y S3 => (lcL ok g t a ρ ds S3).bind fun ys S4 => .ok (y :: ys) S4 else lcL ok g t a ρ ds S2 else .stuck
noncomputable def c_lc (ci : Env → Sto → Res Wk) (g : D → Env → Sto → Res Env) (t : TCode) (a : ECode) (own : List Nat) : ECode := fun ρ S => (ci ρ S).bind fun wk S1 =>
  if fits wk.items.length = true then (lcL wk.ok g t a (wipeE ρ own) wk.items S1).bind fun ds S2 => .ok (.lst ds) S2 else .stuck
def c_yes : TCode := fun _ S => .ok true S
def DTs {I : Type} (Xs : I → Cx) (G : Gx) (E : WK) (ifs : List Expr) (c : TCode) : Prop := ∃ t, (∀ i, PTs (Xs i) ifs t) ∧ SndT G E t c
section
variable {I : Type} {Xs : I → Cx} {G : Gx} {E : WK} {kk : Nat}
theorem dts_nil : DTs Xs G E [] c_yes := ⟨_, fun _ => pts_nil, fun ι S H σ ρ Q R e q => Post.here R q⟩
theorem dts_one {c : Expr} {t : TCode} (h : DT Xs G E c t) : DTs Xs G E [c] t := by
  obtain ⟨tt, p, s⟩ := h
  exact ⟨tt, fun j => pts_one (p j), s⟩
theorem Rel.unhide {ι : Ix} {S : Sto} {H : Hp} {p : Addr} (R : Rel G ι S H) : Rel G ⟨ι.l, fun a => ι.z a ∧ a ≠ p⟩ S H := by
  have hw : ∀ a, Lv ⟨ι.l, fun a => ι.z a ∧ a ≠ p⟩ S a → Lv ι S a := fun a z => by
    rcases z with z | z
    · exact .inl z
    · exact .inr z.1
  refine ⟨R.len, R.nd, fun n c h => ?_, R.trk, fun a z => R.ztr a z.1⟩
  obtain ⟨a, h1, h2⟩ := R.cell n c h
  refine ⟨a, h1, ?_⟩
  cases c with
  | lst ds =>
    obtain ⟨vs, a1, a2⟩ := h2
    exact ⟨vs, a1, a2.weak (ι := ι) (ι' := ⟨ι.l, fun a => ι.z a ∧ a ≠ p⟩) hw rfl⟩
  | dK ds =>
    obtain ⟨vs, a1, a3, a2⟩ := h2
    exact ⟨vs, a1, a3, a2.weak (ι := ι) (ι' := ⟨ι.l, fun a => ι.z a ∧ a ≠ p⟩) hw rfl⟩
  | dT ds =>
    obtain ⟨vs, a1, a3, a2⟩ := h2
    exact ⟨vs, a1, a3, a2.weak (ι := ι) (ι' := ⟨ι.l, fun a => ι.z a ∧ a ≠ p⟩) hw rfl⟩
  | ins c fs =>
    obtain ⟨dx, vs, a1, a3, a2⟩ := h2
    exact ⟨dx, vs, a1, a3, a2.weak (ι := ι) (ι' := ⟨ι.l, fun a => ι.z a ∧ a ≠ p⟩) hw rfl⟩
theorem Ext.hid {ι : Ix} {S : Sto} {H H0 : Hp} {ι0 : Ix} {S0 : Sto} {p : Addr} {o : HO} (x : Ext ι0 S0 H0 ι S H) (hp : H0 p = none) : Ext ι0 S0 H0 ι S (upd H p o) := by
  refine ⟨x.pre, x.zs, x.zn, fun a u e => ?_, x.liv, fun a u e hl => ?_⟩
  · rw [upd_ne (ne_of_none e hp)]
    exact x.trk a u e
  · rw [upd_ne (ne_of_none e hp)]
    exact x.keep a u e hl
theorem Rel.hid {ι : Ix} {S : Sto} {H : Hp} {p : Addr} {o : HO} (R : Rel G ι S H) (hz : ι.z p) (hnt : ∀ xs, o ≠ .tup xs) : (∀ v d, Rep G ι (Lv ι S) H v d → Rep G ι (Lv ι S) (upd H p o) v d) ∧ (∀ vs ds, Reps G ι (Lv ι S) H vs ds → Reps G ι (Lv ι S) (upd H p o) vs ds) ∧ Rel G ι S (upd H p o) := by
  have ne : ∀ a, ¬ Lv ι S a → a ≠ p := fun a h e => h (e ▸ .inr hz)
  have go : ∀ a u, H a = some u → ¬ Lv ι S a → upd H p o a = some u := fun a u e h => by
    rw [upd_ne (ne a h)]
    exact e
  have rdgo : ∀ a u, Rd H a u → ¬ Lv ι S a → Rd (upd H p o) a u := fun a u e h => by
    rcases e with e | ⟨w, e⟩
    · exact .inl (go a _ e h)
    · exact .inr ⟨w, go a _ e h⟩
  have both : ∀ (n : Nat), (∀ v d, sizeOf d ≤ n → Rep G ι (Lv ι S) H v d → Rep G ι (Lv ι S) (upd H p o) v d) ∧ ∀ vs ds, sizeOf ds ≤ n → Reps G ι (Lv ι S) H vs ds → Reps G ι (Lv ι S) (upd H p o) vs ds := by
    intro n
    induction n with
    | zero =>
      refine ⟨fun v d h r => ?_, fun vs ds h r => ?_⟩
      · cases d <;> simp at h
      · cases ds with
        | nil => cases r; exact .nil
        | cons d ds => simp at h
    | succ n ih =>
      obtain ⟨i1, i2⟩ := ih
      have hK : ∀ {κ : Type} [SizeOf κ] (kds : List (κ × D)), sizeOf (kds.map (·.2)) ≤ sizeOf kds := fun kds => by
        induction kds with
        | nil => simp
        | cons k ks ih =>
          obtain ⟨k1, k2⟩ := k
          simp only [List.map_cons, List.cons.sizeOf_spec, Prod.mk.sizeOf_spec]
          omega
      refine ⟨fun v d h r => ?_, fun vs ds h r => ?_⟩
      · cases r with
        | non => exact .non
        | bl b => exact .bl b
        | int i => exact .int i
        | str s => exact .str s
        | con a => exact .con a
        | ty n => exact .ty n
        | tup q k r => exact .tup (go _ _ q k) k (i2 _ _ (by simp at h; omega) r)
        | wtp q r => exact .wtp q (i2 _ _ (by simp at h; omega) r)
        | lst q k r => exact .lst (go _ _ q k) k (i2 _ _ (by simp at h; omega) r)
        | scr q r =>
          refine .scr ?_ (i2 _ _ (by simp at h; omega) r)
          rcases q with q | q
          · exact .inl ⟨rdgo _ _ q.1 q.2, q.2⟩
          · exact .inr q
        | @dK _ _ kds q k e r => exact .dK (go _ _ q k) k e (i2 _ _ (by simp only [D.dK.sizeOf_spec] at h; exact Nat.le_trans (hK kds) (by omega)) r)
        | @dT _ _ kds q k e r => exact .dT (go _ _ q k) k e (i2 _ _ (by simp only [D.dT.sizeOf_spec] at h; exact Nat.le_trans (hK kds) (by omega)) r)
        | obj q k e r => exact .obj (go _ _ q k) k e (i2 _ _ (by simp at h; omega) r)
        | ref q => exact .ref q
        | err q1 q2 k r => exact .err q1 (go _ _ q2 k) k (i1 _ _ (by simp at h; omega) r)
      · cases r with
        | nil => exact .nil
        | cons r0 rs => exact .cons (i1 _ _ (by simp at h; omega) r0) (i2 _ _ (by simp at h; omega) rs)
  have b1 : ∀ v d, Rep G ι (Lv ι S) H v d → Rep G ι (Lv ι S) (upd H p o) v d := fun v d r => (both (sizeOf d)).1 v d (Nat.le_refl _) r
  have b2 : ∀ vs ds, Reps G ι (Lv ι S) H vs ds → Reps G ι (Lv ι S) (upd H p o) vs ds := fun vs ds r => (both (sizeOf ds)).2 vs ds (Nat.le_refl _) r
  have np : p ∉ ι.l := (R.ztr p hz).2
  refine ⟨b1, b2, R.len, R.nd, fun n c h => ?_, fun a h => ?_, fun a h => ?_⟩
  · obtain ⟨a, h1, h2⟩ := R.cell n c h
    have na : a ≠ p := fun e => np (e ▸ List.mem_of_getElem? h1)
    refine ⟨a, h1, ?_⟩
    cases c with
    | lst ds =>
      obtain ⟨vs, a1, a2⟩ := h2
      exact ⟨vs, (upd_ne na).trans a1, b2 _ _ a2⟩
    | dK ds =>
      obtain ⟨vs, a1, a3, a2⟩ := h2
      exact ⟨vs, (upd_ne na).trans a1, a3, b2 _ _ a2⟩
    | dT ds =>
      obtain ⟨vs, a1, a3, a2⟩ := h2
      exact ⟨vs, (upd_ne na).trans a1, a3, b2 _ _ a2⟩
    | ins c fs =>
      obtain ⟨dx, vs, a1, a3, a2⟩ := h2
      exact ⟨dx, vs, (upd_ne na).trans a1, a3, b2 _ _ a2⟩
  · obtain ⟨u, e⟩ := R.trk a h
    have na : a ≠ p := fun z => np (z ▸ h)
    exact ⟨u, by rw [upd_ne na]; exact e⟩
  · obtain ⟨⟨u, e, n⟩, q⟩ := R.ztr a h
    refine ⟨?_, q⟩
    by_cases z : a = p
    · exact ⟨o, by rw [z]; exact upd_same, hnt⟩
    · exact ⟨u, by rw [upd_ne z]; exact e, n⟩
theorem Post.stepN {Ea : XK} {E' : XK} {ιb ι : Ix} {Sb S : Sto} {Hb H : Hp} {α β : Type} {P : α → Ix → Sto → Hp → Prop} {P' : β → Ix → Sto → Hp → Prop} {r : Res α} {k : α → Sto → Res β} (p : Post G Ea ιb Sb Hb P' (r.bindN k))
    (hk : ∀ a S1 ι1 H1, Ext ι S H ι1 S1 H1 → Rel G ι1 S1 H1 → Post G Ea ιb Sb Hb P' (k a S1) → P a ι1 S1 H1) : Post G E' ι S H P r := by
  cases r with
  | ok a S2 => exact fun ι2 H2 y R => hk a S2 ι2 H2 y R p
  | ex c d S2 => exact p.elim
  | stuck => exact p
theorem wipe_wipe {own : List Nat} : ∀ (us : List Nat) (τ : L2.St), (∀ u ∈ us, u ∈ own) → wipe (wipe τ us) own = wipe τ own
  | [], τ, _ => rfl
  | u :: us, τ, hu => by
    show wipe ((wipe τ us).set u none) own = _
    rw [wipe_set (hu u (by simp)), wipe_wipe us τ fun w hw => hu w (by simp [hw])]
theorem snd_lc {wi : TI} {g : TG} {tt : TT} {te : TE} {sl own : List Nat} {ci : Env → Sto → Res Wk} {cg : D → Env → Sto → Res Env} {ct : TCode} {ca : ECode} (si : SndIt G E wi ci) (sg : SndG G sl g cg) (st : SndT G (fun _ => E0) tt ct) (sa : Snd G (fun _ => E0) te ca) (hsl : ∀ i ∈ sl, i ∈ own) :
    Snd G E (tLc wi g tt te own) (c_lc ci cg ct ca own) := fun ι S H σ ρ Q R e q => by
  refine si ι S H σ ρ _ R e (Post.bind q fun wk S1 ι1 H1 x1 R1 q1 J hJ => ?_)
  intro Dl hD
  by_cases hf : fits wk.items.length = true
  · rw [if_pos hf] at q1
    have hfl := fits_lt hf
    have np : Dl ∉ ι1.l := fun z => by
      obtain ⟨u, h⟩ := R1.trk Dl z
      rw [hD] at h
      cases h
    have w1 : REnv G ι1 S1 H1 (wipe σ own) (wipeE ρ own) := (e.mono x1).wipe own
    -- the state while the list is built
    refine ⟨fun i m H' => m = wk.items.length - i ∧ i ≤ wk.items.length ∧ ∃ (ι2 : Ix) (S2 : Sto) (av : List V) (ad : List D), Ext ι1 S1 H1 ι2 S2 H' ∧ Rel G ι2 S2 H' ∧ ι2.z Dl ∧ H' Dl = some (.lst av) ∧ Reps G ι2 (Lv ι2 S2) H' av ad ∧ ad.length ≤ i ∧
      Post G (E σ) ι1 S1 H1 (fun ys ι' S' H'' => ∀ v, Rep G ι' (Lv ι' S') H'' v (.lst (ad ++ ys)) → Q v H'') (lcL wk.ok cg ct ca (wipeE ρ own) (wk.items.drop i) S2), ⟨_, rfl, Nat.zero_le _, ?_⟩, ?_⟩
    · have R2 : Rel G ι1 S1 (upd H1 Dl (.lst [])) := R1.same (keepNew hD)
      have x0 : Ext ι1 S1 H1 ι1 S1 (upd H1 Dl (.lst [])) := Ext.same (keepNew hD)
      have xh : Ext ι1 S1 H1 (ι1.hide Dl) S1 (upd H1 Dl (.lst [])) := by
        refine ⟨⟨[], by simp⟩, fun a z => .inl z, fun a z => ?_, x0.trk, x0.liv, x0.keep⟩
        rcases z with z | z
        · exact .inl z
        · exact .inr (by rw [z]; exact hD)
      refine ⟨ι1.hide Dl, S1, [], [], xh, ⟨R2.len, R2.nd, fun n c h => ?_, R2.trk, fun a z => ?_⟩, .inr rfl, upd_same, .nil, Nat.zero_le _, ?_⟩
      · obtain ⟨a, h1, h2⟩ := R1.cell n c h
        exact ⟨a, h1, h2.mono xh (upd_ne fun z => np (z ▸ List.mem_of_getElem? h1))⟩
      · rcases z with z | z
        · exact R2.ztr a z
        · rw [z]
          exact ⟨⟨_, upd_same, fun _ h => nomatch h⟩, np⟩
      · rw [List.drop_zero]
        exact Post.bind q1 fun ys S3 ι3 H3 x3 R3 q3 v r => Post.here R3 q3 v r
    · rintro i m H2 ⟨rfl, hi, ι2, S2, av, ad, x2, R2, z2, d2, r2, l2, q2⟩
      by_cases hlt : i < wk.items.length
      · rw [List.drop_eq_getElem_cons hlt] at q2
        unfold lcL at q2
        split at q2
        · rename_i hok
          obtain ⟨_, hw⟩ := hJ ι2 S2 H2 x2 R2 hok
          obtain ⟨hgo, hy⟩ := hw i wk.items[i] (by simp [hlt])
          refine .inr ⟨hgo, fun H' => i + 1 ≤ wk.items.length ∧ ∃ (ι2 : Ix) (S2 : Sto) (av : List V) (ad : List D), Ext ι1 S1 H1 ι2 S2 H' ∧ Rel G ι2 S2 H' ∧ ι2.z Dl ∧ H' Dl = some (.lst av) ∧ Reps G ι2 (Lv ι2 S2) H' av ad ∧ ad.length ≤ i + 1 ∧
            Post G (E σ) ι1 S1 H1 (fun ys ι' S' H'' => ∀ v, Rep G ι' (Lv ι' S') H'' v (.lst (ad ++ ys)) → Q v H'') (lcL wk.ok cg ct ca (wipeE ρ own) (wk.items.drop (i + 1)) S2), fun H' h => ⟨wk.items.length - (i + 1), by omega, rfl, h.1, h.2⟩, fun x H3 hx => ?_⟩
          obtain ⟨x3, R3, r3, k3⟩ := hy x H3 hx
          have e3 : REnv G ι2 S2 H3 (wipe σ own) (wipeE ρ own) := w1.mono (x2.trans x3)
          refine sg E0 ι2 S2 H3 (wipe σ own) (wipeE ρ own) x _ _ R3 e3 r3 (Post.stepN q2 fun ρ4 S4 ι4 H4 x4 R4 q4 σ4 e4 hw4 => ⟨?_, ?_⟩)
          · rw [hw4 own hsl]
            exact wipe_wipe own σ fun _ h => h
          · refine st ι4 S4 H4 σ4 ρ4 _ R4 e4 (Post.stepN q4 fun b S5 ι5 H5 x5 R5 q5 => ?_)
            have x35 : Ext ι2 S2 H3 ι5 S5 H5 := x4.trans x5
            have nl : ∀ {ι' : Ix} {S' : Sto} {H' : Hp}, Rel G ι' S' H' → ι'.z Dl → ¬ Liv ι' S' Dl := fun R' z' h => by
              obtain ⟨n, c, h1, _⟩ := h
              exact (R'.ztr Dl z').2 (List.mem_of_getElem? h1)
            have d3 : H3 Dl = some (.lst av) := k3 Dl _ d2
            have d5 : H5 Dl = some (.lst av) := x35.keep Dl _ d3 (nl R3 z2)
            have z5 : ι5.z Dl := x35.zs Dl z2
            have r5 : Reps G ι5 (Lv ι5 S5) H5 av ad := (r2.mono x3).mono x35
            show (if b = true then _ else _)
            cases b with
            | true =>
              rw [if_pos rfl] at q5 ⊢
              refine sa ι5 S5 H5 σ4 ρ4 _ R5 (e4.mono x5) (Post.stepN q5 fun y S6 ι6 H6 x6 R6 q6 v r6 => ?_)
              have d6 : H6 Dl = some (.lst av) := x6.keep Dl _ d5 (nl R5 z5)
              have z6 : ι6.z Dl := x6.zs Dl z5
              obtain ⟨hr1, hr2, R7⟩ := R6.hid (o := .lst (av ++ [v])) z6 (fun _ h => nomatch h)
              have xx : Ext ι1 S1 H1 ι6 S6 H6 := (((x2.trans x3).trans x35).trans x6)
              refine ⟨av, d6, ?_, hlt, ι6, S6, av ++ [v], ad ++ [y], xx.hid hD, R7, z6, upd_same, hr2 _ _ ((r5.mono x6).app (.cons r6 .nil)), ?_, ?_⟩
              · rw [r5.length]
                omega
              · simp
                omega
              · cases hc : lcL wk.ok cg ct ca (wipeE ρ own) (wk.items.drop (i + 1)) S6 with
                | ok ys S8 =>
                  rw [hc] at q6
                  intro ι8 H8 x8 R8 v rv
                  rw [List.append_assoc, List.singleton_append] at rv
                  exact q6 ι8 H8 x8 R8 v rv
                | ex c d S8 =>
                  rw [hc] at q6
                  exact q6
                | stuck =>
                  rw [hc] at q6
                  exact q6
            | false =>
              rw [if_neg Bool.false_ne_true] at q5 ⊢
              exact ⟨hlt, ι5, S5, av, ad, (x2.trans x3).trans x35, R5, z5, d5, r5, by omega, q5⟩
        · exact q2.elim
      · have ei : i = wk.items.length := by omega
        subst ei
        rw [List.drop_length] at q2
        unfold lcL at q2
        split at q2
        · rename_i hok
          refine .inl ⟨(hJ ι2 S2 H2 x2 R2 hok).1, ?_⟩
          have nz : ∀ a, ι1.z a → a ≠ Dl := fun a z e' => by
            obtain ⟨⟨u, h, _⟩, _⟩ := R1.ztr a z
            rw [e', hD] at h
            cases h
          have hw : ∀ a, Lv ⟨ι2.l, fun a => ι2.z a ∧ a ≠ Dl⟩ S2 a → Lv ι2 S2 a := fun a z => by
            rcases z with z | z
            · exact .inl z
            · exact .inr z.1
          have xu : Ext ι1 S1 H1 ⟨ι2.l, fun a => ι2.z a ∧ a ≠ Dl⟩ S2 H2 := ⟨x2.pre, fun a z => ⟨x2.zs a z, nz a z⟩, fun a z => x2.zn a z.1, x2.trk, x2.liv, x2.keep⟩
          have fin := q2 _ H2 xu R2.unhide (.ref Dl) (.lst d2 (fun z => ?_) (by rw [List.append_nil]; exact r2.weak (ι := ι2) (ι' := ⟨ι2.l, fun a => ι2.z a ∧ a ≠ Dl⟩) hw rfl))
          · exact fin
          · rcases z with ⟨n, c, h1, _⟩ | z
            · exact (R2.ztr Dl z2).2 (List.mem_of_getElem? h1)
            · exact z.2 rfl
        · exact q2.elim
  · rw [if_neg hf] at q1
    exact q1.elim
abbrev Blk {I : Type} (Xs : I → Cx) (scope : Scope) : I × Shared × Hp × Addr × List (Str × Addr) × List Addr → Cx :=
  fun p => (Xs p.1).blk p.2.1 p.2.2.1 scope (compEnvC scope p.2.2.2.2.1 p.2.2.2.1 (Xs p.1).env) p.2.2.2.2.2
theorem Fam.blk (F : Fam Xs G E kk) (scope : Scope) : Fam (Blk Xs scope) G (fun _ => E0) kk := ⟨⟨fun p => F.P p.1, fun p => F.w p.1, fun p => F.K p.1, fun p => F.mg p.1, fun p => F.base p.1, fun p => F.nd p.1, fun p => F.gd p.1, fun p => F.u64 p.1, fun p => takes0⟩, fun p => F.calm p.1, fun p => F.room p.1⟩
theorem de_lc (F : Fam Xs G E kk) {elt tg iter : Expr} {ifs : List Expr} {scope : Scope} {own : List (Str × Nat)} {pos : Pos} {sl : List Nat} {ci : Env → Sto → Res Wk} {cg : D → Env → Sto → Res Env} {ct : TCode} {ca : ECode} (hi : DI Xs G E tg iter ci)
    (ok : ∀ j, BlkOk (Xs j).N (Xs j).env.scope scope own) (hg : DG (Blk Xs scope) G tg sl cg) (ht : DTs (Blk Xs scope) G (fun _ => E0) ifs ct) (he : DE (Blk Xs scope) G (fun _ => E0) elt ca) (hsl : ∀ i ∈ sl, i ∈ own.map (·.2)) (hs : ∀ j x, foldedSetIterable iter (Xs j).env x = pure x) :
    DE Xs G E (.ListComp elt [⟨tg, iter, ifs, 0⟩] scope pos) (c_lc ci cg ct ca (own.map (·.2))) := by
  obtain ⟨wi, pi, si⟩ := hi
  obtain ⟨gg, pg, sg⟩ := hg
  obtain ⟨tt, pt, st⟩ := ht
  obtain ⟨te, pe, se⟩ := he
  exact ⟨_, fun j => pe_lc (F.calm j) (F.nd j) (pi j) (ok j) (fun s H C cl fp => pg (j, s, H, C, cl, fp)) (fun s H C cl fp => pt (j, s, H, C, cl, fp)) (fun s H C cl fp => pe (j, s, H, C, cl, fp)) (hs j), snd_lc si sg st se hsl⟩
end
mutual
def refsLt (n : Nat) : D → Bool
  | .tup ds => refsLtL n ds
  | .lst ds => refsLtL n ds
  | .scr ds => refsLtL n ds
  | .wtp ds => refsLtL n ds
  | .dK kvs => refsLtK n kvs
  | .dT kvs => refsLtT n kvs
  | .obj _ fs => refsLtL n fs
  | .ref m => decide (m < n)
  | .non => true
  | .bl _ => true
  | .int _ => true
  | .str _ => true
  | .con _ => true
  | .err _ d => refsLt n d
  | .ty _ => true
def refsLtL (n : Nat) : List D → Bool
  | [] => true
  | d :: ds => refsLt n d && refsLtL n ds
def refsLtK (n : Nat) : List (Key × D) → Bool
  | [] => true
  | (_, d) :: ds => refsLt n d && refsLtK n ds
def refsLtT (n : Nat) : List (List Key × D) → Bool
  | [] => true
  | (_, d) :: ds => refsLt n d && refsLtT n ds
end
def cellLt (n : Nat) : Option Cell → Bool
  | none => true
  | some (.lst ds) => refsLtL n ds
  | some (.dK kvs) => refsLtK n kvs
  | some (.dT kvs) => refsLtT n kvs
  | some (.ins _ fs) => refsLtL n fs
theorem refsLtK_map {n : Nat} : ∀ {kvs : List (Key × D)}, refsLtK n kvs = true → refsLtL n (kvs.map (·.2)) = true
  | [], _ => rfl
  | (k, d) :: r, h => by
    simp only [refsLtK, Bool.and_eq_true] at h
    simp only [List.map_cons, refsLtL, Bool.and_eq_true]
    exact ⟨h.1, refsLtK_map h.2⟩
theorem refsLtT_map {n : Nat} : ∀ {kvs : List (List Key × D)}, refsLtT n kvs = true → refsLtL n (kvs.map (·.2)) = true
  | [], _ => rfl
  | (k, d) :: r, h => by
    simp only [refsLtT, Bool.and_eq_true] at h
    simp only [List.map_cons, refsLtL, Bool.and_eq_true]
    exact ⟨h.1, refsLtT_map h.2⟩
theorem refsLtK_of {n : Nat} : ∀ {kvs : List (Key × D)}, refsLtL n (kvs.map (·.2)) = true → refsLtK n kvs = true
  | [], _ => rfl
  | (k, d) :: r, h => by
    simp only [List.map_cons, refsLtL, Bool.and_eq_true] at h
    simp only [refsLtK, Bool.and_eq_true]
    exact ⟨h.1, refsLtK_of h.2⟩
theorem refsLtT_of {n : Nat} : ∀ {kvs : List (List Key × D)}, refsLtL n (kvs.map (·.2)) = true → refsLtT n kvs = true
  | [], _ => rfl
  | (k, d) :: r, h => by
    simp only [List.map_cons, refsLtL, Bool.and_eq_true] at h
    simp only [refsLtT, Bool.and_eq_true]
    exact ⟨h.1, refsLtT_of h.2⟩
section
variable {G : Gx} {E : XK} {ι ι' : Ix} {S S' : Sto} {H H' : Hp}
mutual
theorem Rep.cut {L L' : Addr → Prop} {n : Nat} (h : ∀ a, L' a → L a) (hl : ∀ m, m < n → ι'.l[m]? = ι.l[m]?) : ∀ {v : V} {d : D}, refsLt n d = true → Rep G ι L H v d → Rep G ι' L' H v d
  | _, _, _, .non => .non
  | _, _, _, .bl b => .bl b
  | _, _, _, .int i => .int i
  | _, _, _, .str x => .str x
  | _, _, _, .con a => .con a
  | _, _, _, .ty n => .ty n
  | _, _, c, .tup q k r => .tup q (fun z => k (h _ z)) (Reps.cut h hl c r)
  | _, _, c, .wtp q r => .wtp q (Reps.cut h hl c r)
  | _, _, c, .lst q k r => .lst q (fun z => k (h _ z)) (Reps.cut h hl c r)
  | _, _, c, .scr (.inl q) r => .scr (.inl ⟨q.1, fun z => q.2 (h _ z)⟩) (Reps.cut h hl c r)
  | _, _, c, .scr (.inr q) r => .scr (.inr q) (Reps.cut h hl c r)
  | _, _, c, .dK q k e r => .dK q (fun z => k (h _ z)) e (Reps.cut h hl (refsLtK_map c) r)
  | _, _, c, .dT q k e r => .dT q (fun z => k (h _ z)) e (Reps.cut h hl (refsLtT_map c) r)
  | _, _, c, .obj q k e r => .obj q (fun z => k (h _ z)) e (Reps.cut h hl c r)
  | _, _, c, .ref q => .ref (by rw [hl _ (of_decide_eq_true c)]; exact q)
  | _, _, c, .err q1 q2 k r => .err q1 q2 (fun z => k (h _ z)) (Rep.cut h hl c r)
theorem Reps.cut {L L' : Addr → Prop} {n : Nat} (h : ∀ a, L' a → L a) (hl : ∀ m, m < n → ι'.l[m]? = ι.l[m]?) : ∀ {vs : List V} {ds : List D}, refsLtL n ds = true → Reps G ι L H vs ds → Reps G ι' L' H vs ds
  | _, _, _, .nil => .nil
  | _, _, c, .cons q r => by
    simp only [refsLtL, Bool.and_eq_true] at c
    exact .cons (Rep.cut h hl c.1 q) (Reps.cut h hl c.2 r)
end
mutual
theorem Rep.lt {L : Addr → Prop} : ∀ {v : V} {d : D}, Rep G ι L H v d → refsLt ι.l.length d = true
  | _, _, .non => rfl
  | _, _, .bl b => rfl
  | _, _, .int i => rfl
  | _, _, .str x => rfl
  | _, _, .con a => rfl
  | _, _, .ty n => rfl
  | _, _, .tup _ _ r => r.lt
  | _, _, .wtp _ r => r.lt
  | _, _, .lst _ _ r => r.lt
  | _, _, .scr _ r => r.lt
  | _, _, .dK _ _ _ r => refsLtK_of r.lt
  | _, _, .dT _ _ _ r => refsLtT_of r.lt
  | _, _, .obj _ _ _ r => r.lt
  | _, _, .ref q => decide_eq_true (List.getElem?_eq_some_iff.mp q).1
  | _, _, .err _ _ _ r => r.lt
theorem Reps.lt {L : Addr → Prop} : ∀ {vs : List V} {ds : List D}, Reps G ι L H vs ds → refsLtL ι.l.length ds = true
  | _, _, .nil => rfl
  | _, _, .cons q r => by
    simp only [refsLtL, Bool.and_eq_true]
    exact ⟨q.lt, r.lt⟩
end
theorem Rel.cellLt (R : Rel G ι S H) {n : Nat} {c : Option Cell} (h : S[n]? = some c) : DL.cellLt S.length c = true := by
  cases c with
  | none => rfl
  | some c =>
    obtain ⟨a, h1, h2⟩ := R.cell n c h
    rw [← R.len]
    cases c with
    | lst ds =>
      obtain ⟨vs, _, r⟩ := h2
      exact r.lt
    | dK ds =>
      obtain ⟨vs, _, _, r⟩ := h2
      exact refsLtK_of r.lt
    | dT ds =>
      obtain ⟨vs, _, _, r⟩ := h2
      exact refsLtT_of r.lt
    | ins c fs =>
      obtain ⟨dx, vs, _, _, r⟩ := h2
      exact r.lt
def cutOk (S S' : Sto) : Prop := ∀ (n : Nat) (c : Option Cell), n < S.length → S'[n]? = some c → S[n]? = some c ∨ cellLt S.length c = true
theorem cut_ok (x : Ext ι S H ι' S' H') (R : Rel G ι S H) (R' : Rel G ι' S' H') (hc : cutOk S S') :
    Ext ι S H ⟨ι.l, ι'.z⟩ (S'.take S.length) H' ∧ Rel G ⟨ι.l, ι'.z⟩ (S'.take S.length) H' ∧ ∀ v d, refsLt S.length d = true → Rep G ι' (Lv ι' S') H' v d → Rep G ⟨ι.l, ι'.z⟩ (Lv ⟨ι.l, ι'.z⟩ (S'.take S.length)) H' v d := by
  obtain ⟨t, ht⟩ := x.pre
  have hlen : S.length ≤ S'.length := by
    rw [← R.len, ← R'.len, ht]
    simp
  have hix : ∀ m, m < S.length → ι.l[m]? = ι'.l[m]? := fun m hm => by
    rw [ht, List.getElem?_append_left (by rw [R.len]; exact hm)]
  have hst : ∀ m c, (S'.take S.length)[m]? = some c → m < S.length ∧ S'[m]? = some c := fun m c h => by
    rw [List.getElem?_take] at h
    split at h
    · rename_i hm
      exact ⟨hm, h⟩
    · cases h
  have hw : ∀ a, Lv ⟨ι.l, ι'.z⟩ (S'.take S.length) a → Lv ι' S' a := fun a z => by
    rcases z with ⟨m, c, h1, h2⟩ | z
    · obtain ⟨hm, h2⟩ := hst m _ h2
      have h1 : ι.l[m]? = some a := h1
      rw [hix m hm] at h1
      exact .inl ⟨m, c, h1, h2⟩
    · exact .inr z
  refine ⟨⟨⟨[], by simp⟩, x.zs, x.zn, x.trk, fun a z => ?_, x.keep⟩, ⟨?_, R.nd, fun m c h => ?_, fun a h => ?_, fun a z => ?_⟩, fun v d hd r => ?_⟩
  · obtain ⟨m, c, h1, h2⟩ := z
    obtain ⟨hm, h2⟩ := hst m _ h2
    have h1 : ι.l[m]? = some a := h1
    rw [hix m hm] at h1
    exact x.liv a ⟨m, c, h1, h2⟩
  · show ι.l.length = _
    rw [List.length_take, Nat.min_eq_left hlen]
    exact R.len
  · obtain ⟨hm, h2⟩ := hst m _ h
    obtain ⟨a, h1, h3⟩ := R'.cell m c h2
    have hlt : cellLt S.length (some c) = true := by
      rcases hc m (some c) hm h2 with q | q
      · exact R.cellLt q
      · exact q
    refine ⟨a, by rw [← hix m hm] at h1; exact h1, ?_⟩
    have hl : ∀ k, k < S.length → (⟨ι.l, ι'.z⟩ : Ix).l[k]? = ι'.l[k]? := hix
    cases c with
    | lst ds =>
      obtain ⟨vs, a1, a2⟩ := h3
      exact ⟨vs, a1, Reps.cut hw hl hlt a2⟩
    | dK ds =>
      obtain ⟨vs, a1, a3, a2⟩ := h3
      exact ⟨vs, a1, a3, Reps.cut hw hl (refsLtK_map hlt) a2⟩
    | dT ds =>
      obtain ⟨vs, a1, a3, a2⟩ := h3
      exact ⟨vs, a1, a3, Reps.cut hw hl (refsLtT_map hlt) a2⟩
    | ins c fs =>
      obtain ⟨dx, vs, a1, a3, a2⟩ := h3
      exact ⟨dx, vs, a1, a3, Reps.cut hw hl hlt a2⟩
  · obtain ⟨o, e⟩ := R.trk a h
    exact x.trk a o e
  · obtain ⟨q1, q2⟩ := R'.ztr a z
    exact ⟨q1, fun hm => q2 (by rw [ht]; exact List.mem_append_left _ hm)⟩
  · exact Rep.cut (ι := ι') (ι' := ⟨ι.l, ι'.z⟩) hw hix hd r
end
theorem cut_lv (x : Ext ι S H ι' S' H') (R : Rel G ι S H) {a : Addr} (z : Lv ⟨ι.l, ι'.z⟩ (S'.take S.length) a) : Lv ι' S' a := by
  obtain ⟨t, ht⟩ := x.pre
  rcases z with ⟨m, c, h1, h2⟩ | z
  · rw [List.getElem?_take] at h2
    split at h2
    · rename_i hm
      refine .inl ⟨m, c, ?_, h2⟩
      have h1 : ι.l[m]? = some a := h1
      rw [ht, List.getElem?_append_left (by rw [R.len]; exact hm)]
      exact h1
    · cases h2
  · exact .inr z
open Classical in
noncomputable def fin (S : Sto) (d : D) (S' : Sto) : Res D := if S'.length = S.length then .ok d S' else if cutOk S S' ∧ refsLt S.length d = true then .ok d (S'.take S.length) else .ok d S'
open Classical in
noncomputable def finX (S : Sto) (c : Nat) (d : D) (S' : Sto) : Res D := if S'.length = S.length then .ex c d S' else if cutOk S S' ∧ refsLt S.length d = true then .ex c d (S'.take S.length) else .ex c d S'
noncomputable def fnR (n : Nat) (c : SCode) (ds : List D) (S : Sto) : Res D := match c (ds.map some ++ List.replicate (n - ds.length) none) S with
  | .ok (.rt d) S' => fin S d S'
  | .ok (.nx _) S' => fin S .non S'
  | .ex k d S' => finX S k d S'
  | _ => .stuck
section
variable {G : Gx} {E : XK} {ι : Ix} {S S' : Sto} {H : Hp}
theorem fin_ok {d : D} {Q : VK} (R : Rel G ι S H) (p : Post G E ι S H (PV G Q) (fin S d S')) : ∀ ι' H', Ext ι S H ι' S' H' → Rel G ι' S' H' → ∀ v, Rep G ι' (Lv ι' S') H' v d → Q v H' := fun ι' H' x R' v r => by
  unfold fin at p
  split at p
  · exact p ι' H' x R' v r
  · split at p
    · rename_i h
      obtain ⟨x2, R2, k⟩ := cut_ok x R R' h.1
      exact p _ H' x2 R2 v (k v d h.2 r)
    · exact p ι' H' x R' v r
theorem finX_ok {c : Nat} {d : D} {Q : VK} (R : Rel G ι S H) (p : Post G E ι S H (PV G Q) (finX S c d S')) : ∀ ι' H' dd v, Ext ι S H ι' S' H' → Rel G ι' S' H' → H' dd = some (.xd [(G.exf c, v)]) → ¬ Lv ι' S' dd → Rep G ι' (Lv ι' S') H' v d → E (.ref (G.exc c)) (some dd) H' := fun ι' H' dd v x R' hd nl r => by
  unfold finX at p
  split at p
  · exact p ι' H' dd v x R' hd nl r
  · split at p
    · rename_i h
      obtain ⟨x2, R2, k⟩ := cut_ok x R R' h.1
      exact p _ H' dd v x2 R2 hd (fun z => nl (cut_lv x R z)) (k v d h.2 r)
    · exact p ι' H' dd v x R' hd nl r
end
def FnB (G : Gx) (k : Nat) (f : Addr) (fd : FuncData) (ps : List Str) (m : List D → Sto → Res D) : Prop :=
  ∀ (A : Around) (outer : List PySem.Env) (s : Shared) (H : Hp) (args : Args) (us : List Value) (vs : List V) (Q : VK) (E : XK) (ι : Ix) (S : Sto) (ds : List D), A.guards = some [] → Room k A → Env0 G.P G.w G.K G.mg G.base A outer s H →
    BindsTo s fd args (ps.zip us) → Vals vs us → Rel G ι S H → Reps G ι (Lv ι S) H vs ds → ds.length = ps.length → Post G E ι S H (PV G Q) (m ds S) → codeAny (model G.P G.w) A (.call (.ref f) args) (CR (L2.CX G.P G.w) outer G.P G.w H s Q E) s
theorem FnB.mono {G : Gx} {j k : Nat} {f : Addr} {fd : FuncData} {ps : List Str} {m : List D → Sto → Res D} (h : FnB G j f fd ps m) (hk : j ≤ k) : FnB G k f fd ps m :=
  fun A outer s H args us vs Q E ι S ds hg hr => h A outer s H args us vs Q E ι S ds hg (hr.mono hk)
structure FIdx (k : Nat) (qual : Str) (scope : Scope) (f : Addr) where
  cdv : Value
  A : Around
  outer : List PySem.Env
  s : Shared
  H : Hp
  room : Room k (A.deeper (envOfC qual scope s.heap.objs.size f cdv))
  gd : A.guards = some []
abbrev FnX (G : Gx) (k : Nat) (N : List Str) (qual : Str) (scope : Scope) (f : Addr) (E : XK) : FIdx k qual scope f → Cx :=
  fun i => cxOf (L2.CX G.P G.w) G.P G.w G.K G.mg G.base N qual scope f i.cdv i.A i.outer i.s i.H E
theorem fnX_fam {G : Gx} {k : Nat} {N ps : List Str} {qual : Str} {scope : Scope} {f : Addr} (S : FnScope N ps scope) (E : XK) : Fam (FnX G k N qual scope f E) G (fun _ => E) k :=
  ⟨⟨fun _ => rfl, fun _ => rfl, fun _ => rfl, fun _ => rfl, fun _ => rfl, fun _ => S.nd, fun i => i.gd, fun i => i.room.units, fun i => takes_of rfl rfl rfl rfl⟩, fun _ => rfl, fun i => i.room⟩
theorem start_env {G : Gx} {ι : Ix} {S : Sto} {H : Hp} {vs : List V} {ds : List D} (r : Reps G ι (Lv ι S) H vs ds) (N : List Str) : REnv G ι S H (L2.start N vs) (ds.map some ++ List.replicate (N.length - ds.length) none) := by
  unfold L2.start
  rw [r.length]
  refine ⟨by simp [r.length], fun i d h => ?_⟩
  by_cases hi : i < ds.length
  · rw [List.getElem?_append_left (by simpa using hi), List.getElem?_map] at h
    cases e : ds[i]? with
    | none =>
      rw [e] at h
      cases h
    | some d' =>
      rw [e] at h
      cases h
      obtain ⟨v, h1, h2⟩ := r.get e
      refine ⟨v, ?_, h2⟩
      rw [List.getElem?_append_left (by rw [List.length_map, r.length]; exact hi), List.getElem?_map, h1]
      rfl
  · rw [List.getElem?_append_right (by simpa using hi), List.getElem?_replicate] at h
    split at h <;> cases h
theorem FnB.of {G : Gx} {x qual : Str} {st : Stmt} {f : Addr} {fd : FuncData} {N ps : List Str} {k : Nat} {c : SCode} (F : Fun G.K x qual st f fd) (Sc : FnScope N ps (defScope st))
    (hb : ∀ E, DSs (FnX G k N qual (defScope st) f E) G (fun _ => E) (defBody st) c) : FnB G (k + 1) f fd ps (fnR N.length c) := by
  obtain ⟨oc, od, kV, doc, pm, an, cdv, ct, osl, rfl, lk, hcd⟩ := F.ex
  intro A outer s H args us vs Q E ι S ds hgd hr e0 hbi hv R r hl hp
  have hlv : vs.length = ps.length := r.length.trans hl
  -- the promise of the body, at this entry alone
  have KX : G.K.In s.heap := e0.mod.kin.keeps fun b o e => (e0.bs b o e).1
  have lim : s.heap.NoLimit := e0.mod.nolimit.keeps fun b o e => (e0.bs b o e).1
  have hkind : ∀ y ∈ ps.zip us, (defScope st).names.lookup y.1 = some .local ∨ ((defScope st).names.lookup y.1 = some .cell ∧ ((cellsFrom (s.heap.objs.size + 1) (defScope st).names []).lookup y.1).isSome = true) := by
    rintro ⟨n, v⟩ hy
    rcases Sc.par n (List.of_mem_zip hy).1 with q | q
    · exact .inl q
    · exact .inr ⟨q, PySem.W.cellsFrom_some _ _ _ (.inl q)⟩
  refine codeAny_call_function hr.depth (KX _ _ lk) rfl Sc.co Sc.gen rfl (PySem.W.codeRec_of KX hcd) (hbi _ _ _ _ ?_)
  refine wpAny_newFunctionEnv_cells Sc.kind hkind fun env he s1 z => ?_
  subst he
  refine ⟨lim.keeps z.toInCall.keep, codeAny_func ?_⟩
  obtain ⟨t, ht, sd⟩ := hb E
  have ht := ht ⟨cdv, A, outer, s, H, hr.deeper _, hgd⟩
  have I0 := inv_start (CX := L2.CX G.P G.w) (E := E) Sc hr.hd e0 hlv hv z
  have hq : t { nx := fun _ H' => Q .non H', rt := Q } (L2.start N vs) H := by
    refine sd ι S H _ _ _ R (start_env r N) ?_
    have hlN : N.length - ds.length = N.length - ds.length := rfl
    unfold fnR at hp
    cases hc : c (ds.map some ++ List.replicate (N.length - ds.length) none) S with
    | ok fl S' =>
      rw [hc] at hp
      cases fl with
      | nx ρ' => exact fun ι' H' y R' σ' _ => fin_ok R hp ι' H' y R' .non .non
      | rt d => exact fun ι' H' y R' v rv => fin_ok R hp ι' H' y R' v rv
      | bk ρ' => exact hp.elim
      | ct ρ' => exact hp.elim
    | ex k d S' =>
      rw [hc] at hp
      exact fun ι' H' dd v y R' hd nl rv => finX_ok R hp ι' H' dd v y R' hd nl rv
    | stuck =>
      rw [hc] at hp
      exact hp
  refine wpAny_mono (ht.run [] s1 (L2.start N vs) H _ I0 hq) (fun fl s' hs => ?_) fun e s' hs => hs
  cases fl with
  | ret u =>
    obtain ⟨v, σ', H', J, rv, q⟩ := hs
    exact ⟨v, H', J.os, J.bare, J.base, J.hok, rv, q⟩
  | next =>
    obtain ⟨σ', H', J, q⟩ := hs
    exact ⟨.non, H', J.os, J.bare, J.base, J.hok, rfl, q⟩
  | brk => exact hs.elim fun _ h => h.elim fun _ h => h.2.elim
  | cont => exact hs.elim fun _ h => h.elim fun _ h => h.2.elim
def spM (G : Gx) (n : Nat) (m : List D → Sto → Res D) (vs : List V) (H : Hp) (Q : VK) (E : XK) : Prop :=
  ∃ (ι : Ix) (S : Sto) (ds : List D), Rel G ι S H ∧ Reps G ι (Lv ι S) H vs ds ∧ ds.length = n ∧ Post G E ι S H (PV G Q) (m ds S)
section
variable {I : Type} {Xs : I → Cx} {G : Gx} {E : WK} {kk k : Nat} {f : Addr} {fd : FuncData} {ps : List Str} {m : List D → Sto → Res D}
theorem run_at (F : Fam Xs G E kk) (j : I) (Fn : FnB G k f fd ps m) {A : Around} {E : XK} {H : Hp} {s : Shared} {Q : VK} {args : Args} {us : List Value} {vs : List V} (hg : A.guards = some []) (hr : Room k A)
    (e0 : Env0 (Xs j).prog (Xs j).w (Xs j).K (Xs j).mg (Xs j).base A (Xs j).stack s H) (hb : BindsTo s fd args (ps.zip us)) (r : Vals vs us) (h : spM G ps.length m vs H Q E) :
    codeAny (model (Xs j).prog (Xs j).w) A (.call (.ref f) args) (CR (L2.CX (Xs j).prog (Xs j).w) (Xs j).stack (Xs j).prog (Xs j).w H s Q E) s := by
  obtain ⟨ι, S, ds, R, rs, hl, q⟩ := h
  rw [F.P j, F.w j] at e0 ⊢
  rw [F.K j, F.mg j, F.base j] at e0
  exact Fn A _ s H args us vs Q E ι S ds hg hr e0 hb r R rs hl q
theorem run_B (F : Fam Xs G E kk) (j : I) (Fn : FnB G k f fd ps m) (hk : k ≤ kk) {pins : List (Addr × Obj)} {σ : L2.St} {H : Hp} {s : Shared} {Q : VK} {us : List Value} {kw : List (Str × Value)} {ws : List Value} {vs : List V} (Iv : Inv (Xs j) pins σ H s)
    (hb : BindsTo s fd ⟨us, kw⟩ (ps.zip ws)) (r : Vals vs ws) (h : spM G ps.length m vs H Q (E σ)) : wpAny (model (Xs j).prog (Xs j).w) (Xs j).A (call (.ref f) us kw) (EP (Xs j) pins σ Q) (Xs j).xe s := by
  refine wpAny_call (codeAny_mono (run_at F j Fn (F.gd j) ((F.room j).mono hk) Iv.env0 hb r h) fun r s' hq => ?_)
  cases r with
  | error e => exact F.pass j pins σ H s e s' Iv hq
  | ok fl =>
    cases fl with
    | ret u => exact Iv.after hq
    | next => exact hq.elim
    | brk => exact hq.elim
    | cont => exact hq.elim
def c_callK (n m' : Nat) (g : List D → List D → List D) (m : List D → Sto → Res D) (a b : ACode) : ECode := fun ρ S => (a ρ S).bind fun ds S1 => (b ρ S1).bind fun es S2 => if ds.length = n ∧ es.length = m' then m (g ds es) S2 else .stuck
def clsOf : D → Sto → Option Nat
  | .obj c _, _ => some c
  | .ref n, S => match S[n]? with
    | some (some (.ins c _)) => some c
    | _ => none
  | _, _ => none
def fldsOf : D → Sto → Option (List D)
  | .obj _ fs, _ => some fs
  | .ref n, S => match S[n]? with
    | some (some (.ins _ fs)) => some fs
    | _ => none
  | _, _ => none
theorem cls_at {ι : Ix} {S : Sto} {H : Hp} {v : V} {d : D} {c : Nat} (R : Rel G ι S H) (r : Rep G ι (Lv ι S) H v d) (h : clsOf d S = some c) :
    ∃ a dx nfs fs, v = .ref a ∧ H a = some (.ins (G.cls c) dx nfs) ∧ nfs.map (·.1) = (G.fns c).take fs.length ∧ Reps G ι (Lv ι S) H (nfs.map (·.2)) fs ∧ fldsOf d S = some fs := by
  cases r with
  | obj q k e r =>
    cases h
    exact ⟨_, _, _, _, rfl, q, e, r, rfl⟩
  | ref q =>
    rename_i a n
    unfold clsOf at h
    cases hs : S[n]? with
    | none =>
      simp only [hs] at h
      cases h
    | some o =>
      simp only [hs] at h
      cases o with
      | none => cases h
      | some cl =>
        cases cl with
        | ins c' fs =>
          cases h
          obtain ⟨a', h1, dx, nfs, h2, h3, h4⟩ := R.cell n _ hs
          rw [q] at h1
          cases h1
          refine ⟨a, dx, nfs, fs, rfl, h2, h3, h4, ?_⟩
          unfold fldsOf
          simp only [hs]
        | _ => cases h
  | _ => cases h
def c_prop (c : Nat) (m : List D → Sto → Res D) (a : ECode) : ECode := fun ρ S => (a ρ S).bind fun d S1 => if clsOf d S1 = some c then (m [d] S1).bindN .ok else .stuck
theorem de_prop (F : Fam Xs G E kk) (Fn : FnB G k f fd ps m) (hk : k + 1 ≤ kk) {c : Nat} {pr : Addr} {nm : Str} {o : Expr} {pos : Pos} {a : ECode} (hc : Cls G.K (G.cls c)) (hp : PropOf G.K (G.cls c) nm pr f) (hb : Binds G.K fd ps []) (hps : ps.length = 1)
    (hab : ∀ j, attributeBase o nm (Xs j).env (eval o (Xs j).env) = eval o (Xs j).env) (ho : DE Xs G E o a) : DE Xs G E (.Attribute o nm pos) (c_prop c m a) := by
  obtain ⟨t, pa, sa⟩ := ho
  refine ⟨fun σ H Q => t σ H fun x H1 => ∃ a dx fs, x = .ref a ∧ H1 a = some (.ins (G.cls c) dx fs) ∧ spM G ps.length m [.ref a] H1 Q E0, fun j => ⟨fun pins s σ H Q Iv h => ?_⟩, fun ι S H σ ρ Q R e q => ?_⟩
  · refine attr_of (hab j) (thn ((pa j).run pins s σ H _ Iv h) fun u s1 ⟨x, H1, I1, rx, a, dx, fs, ex, ea, q⟩ => ?_)
    subst ex
    obtain rfl : u = Value.ref a := rx
    have hc' : Cls (Xs j).K (G.cls c) := by rw [F.K j]; exact hc
    have hp' : PropOf (Xs j).K (G.cls c) nm pr f := by rw [F.K j]; exact hp
    obtain ⟨mA, O, _, _, _, _⟩ := ins_get I1.hok ea
    obtain ⟨od, J, _⟩ := O.look
    obtain ⟨rest, hrec⟩ := hp'.rec_
    have I2 := I1.tok (s1.toks + 1)
    have hcl : (PySem.W.clsIn (Xs j).K (G.cls c)).isSome = true := by
      obtain ⟨cd, h1, _⟩ := PySem.W.any_some hc'.hd
      rw [h1]
      rfl
    refine PySem.W.get_bind I1.kIn J (PySem.W.plainGet_of (hc'.get nm)).1 (PySem.W.findObj_data hcl hp'.at_ hp'.get hp'.tak) (PySem.W.plainGet_of (hc'.get nm)).2 (wpAny_call (PySem.W.prop_get (s := { s1 with toks := s1.toks + 1 }) I1.kIn hrec ?_))
    have hbi := hb { s1 with toks := s1.toks + 1 } [.ref a] (by rw [← F.K j]; exact I2.kIn) (by rw [hps]; rfl)
    refine codeAny_mono (run_at F j Fn (F.gd j) (((F.room j).mono hk).in1) I2.env0.in1 hbi (vs := [.ref a]) (.cons (show L2.RelV (.ref a) (Value.ref a) from rfl) .nil) q) fun r s' hq => ?_
    cases r with
    | error er =>
      obtain ⟨_, _, _, _, _, _, _, _, _, _, _, _, z⟩ := hq
      exact z.elim
    | ok fl =>
      cases fl with
      | ret u =>
        obtain ⟨v, H', I3, rv, q3⟩ := I2.after hq
        show wpAny _ _ (handedOut u) _ _ _
        rw [PySem.W.handedOut_of (handed_of rv)]
        exact wpAny_pure ⟨v, H', I3, rv, q3⟩
      | next => exact hq.elim
      | brk => exact hq.elim
      | cont => exact hq.elim
  · refine sa.go R e q fun d S1 ι1 H1 v x1 R1 e1 r1 q1 => ?_
    by_cases h : clsOf d S1 = some c
    · rw [if_pos h] at q1
      obtain ⟨a, dx, nfs, fs, rfl, h2, _⟩ := cls_at R1 r1 h
      exact ⟨a, dx, nfs, rfl, h2, ι1, S1, [d], R1, .cons r1 .nil, hps.symm, Post.bindN q1 fun y S2 ι2 H2 x2 R2 q2 => Post.here R2 q2⟩
    · rw [if_neg h] at q1
      exact q1.elim
theorem lookup_ix : ∀ {nfs : List (Str × V)} {ns : List Str} {i : Nat} {nm : Str} {v : V}, nfs.map (·.1) = ns → ns.Nodup → ns[i]? = some nm → (nfs.map (·.2))[i]? = some v → nfs.lookup nm = some v
  | [], _, _, _, _, _, _, _, h => by simp at h
  | (n, w) :: r, ns, 0, nm, v, e, nd, h1, h2 => by
    subst e
    simp at h1 h2
    subst h1
    subst h2
    simp
  | (n, w) :: r, ns, i + 1, nm, v, e, nd, h1, h2 => by
    subst e
    simp only [List.map_cons, List.getElem?_cons_succ] at h1 h2
    rw [List.map_cons, List.nodup_cons] at nd
    have hne : (nm == n) = false := by
      have : nm ∈ r.map (·.1) := List.mem_of_getElem? h1
      rw [beq_eq_false_iff_ne]
      rintro rfl
      exact nd.1 this
    rw [List.lookup_cons, hne]
    exact lookup_ix rfl nd.2 h1 h2
def c_fld (c i : Nat) (a : ECode) : ECode := fun ρ S => (a ρ S).bind fun d S1 => if clsOf d S1 = some c then match fldsOf d S1 with
  | some fs => match fs[i]? with
    | some x => .ok x S1
    | none => .stuck
  | none => .stuck else .stuck
theorem de_fld (F : FamH Xs G E) {c i : Nat} {nm : Str} {o : Expr} {pos : Pos} {a : ECode} (hc : Cls G.K (G.cls c)) (hn : NoAttr G.K (G.cls c) nm) (hi : (G.fns c)[i]? = some nm) (hnd : (G.fns c).Nodup)
    (hab : ∀ j, attributeBase o nm (Xs j).env (eval o (Xs j).env) = eval o (Xs j).env) (ho : DE Xs G E o a) : DE Xs G E (.Attribute o nm pos) (c_fld c i a) := by
  obtain ⟨t, pa, sa⟩ := ho
  refine ⟨tFld G.K t nm, fun j => by have z := pe_fld (pos := pos) (pa j) (hab j); rw [F.K j] at z; exact z, fun ι S H σ ρ Q R e q => ?_⟩
  refine sa.go R e q fun d S1 ι1 H1 v x1 R1 e1 r1 q1 => ?_
  by_cases h : clsOf d S1 = some c
  · rw [if_pos h] at q1
    obtain ⟨a, dx, nfs, fs, rfl, h2, h3, h4, h5⟩ := cls_at R1 r1 h
    rw [h5] at q1
    cases hx : fs[i]? with
    | none =>
      simp only [hx] at q1
      exact q1.elim
    | some y =>
      simp only [hx] at q1
      obtain ⟨w, hw, rw'⟩ := h4.get hx
      have hlt : i < fs.length := (List.getElem?_eq_some_iff.mp hx).1
      refine ⟨a, _, dx, nfs, w, rfl, h2, hc, hn, ?_, Post.here R1 q1 w rw'⟩
      refine lookup_ix h3 (hnd.sublist (List.take_sublist _ _)) (i := i) ?_ hw
      rw [List.getElem?_take_of_lt hlt]
      exact hi
  · rw [if_neg h] at q1
    exact q1.elim
end
theorem tuple_mul1 (l : Addr) (items : Array Value) (n : Nat) (dd : Option Addr) (sl : Array (Option Value)) (u : Tok) :
    Meets (Builtin.«tuple.__mul__» ⟨[.ref l, .int 1 u], []⟩) (fun _ R s => s.heap.get? l = some { cls := .type "tuple", dict := dd, data := .seq items n, slots := sl } ∧
      R (.ok (.ret (Value.ref l))) s) :=
  .of_wp fun prog w A R s h => by
    obtain ⟨hp, g, d, tk, os⟩ := s
    obtain ⟨hl, h⟩ := h
    have f1 := AutoSeq1.idx_int
    wp_walk using wpAny_loadPart' hl
    repeat (first
      | (refine wpAny_ite_false (decide_eq_false (by simp)) ?_; wp_walk using wpAny_loadPart' hl)
      | (refine wpAny_ite_true (decide_eq_true (by simp)) ?_; wp_walk using wpAny_loadPart' hl))
    all_goals first | exact ⟨_, rfl, h⟩ | skip
def rRepT1 (K : PySem.W.Frag) : R2 := fun x y H Q => ∃ l xs, x = .ref l ∧ y = .int 1 ∧ SqT K H l xs ∧ xs ≠ [] ∧ Q (.ref l) H
theorem op_repT1 {X : Cx} : OpR X (binaryOp .Mult) (rRepT1 X.K) := by
  intro pins s σ H x y v u Q I rx ry h
  obtain ⟨l, xs, rfl, rfl, hT, hne, q⟩ := h
  cases rx
  obtain ⟨t, rfl⟩ := ry
  obtain ⟨its, r, ⟨⟨cls, dd, data, sl⟩, ho, hc, n, hd⟩, hs⟩ := I.tuple hT
  simp only at hc hd
  subst hc hd
  refine wpAny_binaryOp_repeat_ref (T := "tuple") (U := "int") (by decide) ⟨_, ho, rfl⟩ (fun s' => typeIs_int s' 1 t) noFill_tuple_mul F.fills_int_mul F.slot_int_rmul repeat_tuple F.slot_int_index.lookup
    (call_meets F.slot_int_rmul (typeIs_int s 1 t) F.entry_int_rmul (F.args_int_rmul_2 _ _) (int_rmul_tuple 1 t l its.toArray n dd sl)
      ⟨ho, rfl, ⟨_, ho, rfl⟩, call_meets F.slot_tuple_mul ⟨_, ho, rfl⟩ F.entry_tuple_mul (F.args_tuple_mul_2 _ _) (tuple_mul1 l its.toArray n dd sl t) ⟨ho, ?_⟩⟩)
  exact ⟨.ref l, H, I, rfl, q⟩
section
variable {G : Gx}
theorem Rep.sqT {ι : Ix} {S : Sto} {H : Hp} {v : V} {ds : List D} (r : Rep G ι (Lv ι S) H v (.tup ds)) : ∃ a vs, v = .ref a ∧ SqT G.K H a vs ∧ Reps G ι (Lv ι S) H vs ds := by
  cases r with
  | tup h _ r => exact ⟨_, _, rfl, SqT.of h, r⟩
theorem items_at {ι : Ix} {S : Sto} {H : Hp} {v : V} {d : D} {ds : List D} (R : Rel G ι S H) (r : Rep G ι (Lv ι S) H v d) (h : itemsOf d S = some ds) :
    ∃ a vs, v = .ref a ∧ (SqL G.K H a vs ∨ SqT G.K H a vs) ∧ Reps G ι (Lv ι S) H vs ds := by
  cases r with
  | tup q _ r =>
    cases h
    exact ⟨_, _, rfl, .inr (SqT.of q), r⟩
  | wtp q r =>
    cases h
    exact ⟨_, _, rfl, .inr (.inr q), r⟩
  | lst q k r =>
    cases h
    exact ⟨_, _, rfl, .inl (SqL.of q), r⟩
  | scr q r =>
    cases h
    rename_i a vs
    have hs : SqL G.K H a vs := by
      rcases q with q | q
      · exact .inl q.1
      · exact .inr q
    exact ⟨a, vs, rfl, .inl hs, r⟩
  | ref q =>
    rename_i a n
    unfold itemsOf at h
    cases hs : S[n]? with
    | none =>
      simp only [hs] at h
      cases h
    | some o =>
      simp only [hs] at h
      cases o with
      | none => cases h
      | some cl =>
        cases cl with
        | lst es =>
          cases h
          obtain ⟨a', h1, vs, h2, h3⟩ := R.cell n _ hs
          rw [q] at h1
          cases h1
          exact ⟨a, vs, rfl, .inl (SqL.of h2), h3⟩
        | _ => cases h
  | _ => cases h
def lstOf : D → Sto → Option (List D)
  | .lst ds, _ => some ds
  | .ref n, S => match S[n]? with
    | some (some (.lst ds)) => some ds
    | _ => none
  | _, _ => none
theorem lst_at {ι : Ix} {S : Sto} {H : Hp} {v : V} {d : D} {ds : List D} (R : Rel G ι S H) (r : Rep G ι (Lv ι S) H v d) (h : lstOf d S = some ds) :
    ∃ a vs, v = .ref a ∧ H a = some (.lst vs) ∧ Reps G ι (Lv ι S) H vs ds := by
  cases r with
  | lst q k r =>
    cases h
    exact ⟨_, _, rfl, q, r⟩
  | ref q =>
    rename_i a n
    unfold lstOf at h
    cases hs : S[n]? with
    | none =>
      simp only [hs] at h
      cases h
    | some o =>
      simp only [hs] at h
      cases o with
      | none => cases h
      | some cl =>
        cases cl with
        | lst es =>
          cases h
          obtain ⟨a', h1, vs, h2, h3⟩ := R.cell n _ hs
          rw [q] at h1
          cases h1
          exact ⟨a, vs, rfl, h2, h3⟩
        | _ => cases h
  | _ => cases h
instance {i j : Int} : Decidable (CMulW i j) := by unfold CMulW; infer_instance
instance {i j : Int} : Decidable (CDivW i j) := by unfold CDivW; infer_instance
instance {i j : Int} : Decidable (CPow i j) := by unfold CPow; infer_instance
def p_addL (b : Bool) (x y : D) (S : Sto) : Res D := match lstOf x S, lstOf y S with
  | some xs, some ys => p_lst b (xs ++ ys) S
  | _, _ => .stuck
def p_add (b : Bool) (x y : D) (S : Sto) : Res D := match x, y with
  | .int i, .int j => .ok (.int (i + j)) S
  | .str x, .str y => if x.length + y.length ≤ 1000000 then .ok (.str (x ++ y)) S else .stuck
  | .tup xs, .tup ys => p_tup (xs ++ ys) S
  | x, y => p_addL b x y S
theorem Reps.ne {ι : Ix} {S : Sto} {H : Hp} {vs : List V} {ds : List D} (r : Reps G ι (Lv ι S) H vs ds) (h : ds ≠ []) : vs ≠ [] := by
  rintro rfl
  cases r
  exact h rfl
def rAddU (K : PySem.W.Frag) : R2 := fun x y H Q => (∃ i j, x = .int i ∧ y = .int j ∧ Q (.int (i + j)) H) ∨ (∃ i j, x = .str i ∧ y = .str j ∧ i.length + j.length ≤ sizeLine ∧ Q (.str (i ++ j)) H) ∨ rCatA K x y H Q ∨ rCat x y H Q
theorem op_addU {X : Cx} : OpR X (binaryOp .Add) (rAddU X.K) := op_add.or (op_add_str.or (op_catA.or op_cat))
theorem snd_add (b : Bool) : SndR G (rAddU G.K) (p_add b) := fun E ι S H x y dx dy Q R rx ry q => by
  have lists : Post G E ι S H (PV G Q) (p_addL b dx dy S) → rAddU G.K x y H Q := fun q => by
    unfold p_addL at q
    cases h1 : lstOf dx S with
    | none => simp only [h1] at q; exact q.elim
    | some xs =>
      cases h2 : lstOf dy S with
      | none => simp only [h1, h2] at q; exact q.elim
      | some ys =>
        simp only [h1, h2] at q
        obtain ⟨a, vs, rfl, ha, ra⟩ := lst_at R rx h1
        obtain ⟨b, ws, rfl, hb, rb⟩ := lst_at R ry h2
        obtain ⟨hl, hq⟩ := p_lst_ok R (ra.app rb) q
        exact .inr (.inr (.inr ⟨a, b, vs, ws, rfl, rfl, ha, hb, by rw [List.length_append] at hl; exact hl, hq⟩))
  cases dx with
  | int i =>
    cases dy with
    | int j => exact .inl ⟨i, j, rx.int_of, ry.int_of, Post.here R q _ (.int _)⟩
    | _ => exact lists q
  | str i =>
    cases dy with
    | str j =>
      have q : Post G E ι S H (PV G Q) (if i.length + j.length ≤ 1000000 then .ok (.str (i ++ j)) S else .stuck) := q
      split at q
      · rename_i h
        exact .inr (.inl ⟨i, j, rx.str_of, ry.str_of, Nat.le_trans h (by rw [sizeLine_eq]; decide), Post.here R q _ (.str _)⟩)
      · exact q.elim
    | _ => exact lists q
  | tup xs =>
    cases dy with
    | tup ys =>
      have q : Post G E ι S H (PV G Q) (p_tup (xs ++ ys) S) := q
      obtain ⟨a, vs, rfl, ha, ra⟩ := rx.sqT
      obtain ⟨b, ws, rfl, hb, rb⟩ := ry.sqT
      obtain ⟨hl, hq⟩ := p_tup_ok R (ra.app rb) q
      have hok : Post G E ι S H (PV G Q) (.ok (.tup (xs ++ ys)) S) := by
        unfold p_tup at q
        split at q
        · exact q
        · exact q.elim
      refine .inr (.inr (.inl ⟨a, b, vs, ws, rfl, rfl, ha, hb, by rw [List.length_append] at hl; exact hl, fun e => ?_, fun _ e => ?_, fun _ _ => hq⟩))
      · subst e
        cases ra
        exact Post.here R hok _ ry
      · subst e
        cases rb
        rw [List.append_nil] at hok
        exact Post.here R hok _ rx
    | _ => exact lists q
  | _ => exact lists q
def p_sub : D → D → Sto → Res D
  | .int i, .int j, S => .ok (.int (i - j)) S
  | _, _, _ => .stuck
theorem snd_sub : SndR G (rI0 fun i j => .int (i - j)) p_sub := fun E ι S H x y dx dy Q R rx ry q => by
  cases dx with
  | int i =>
    cases dy with
    | int j => exact ⟨i, j, rx.int_of, ry.int_of, Post.here R q _ (.int _)⟩
    | _ => exact q.elim
  | _ => exact q.elim
def p_fdiv : D → D → Sto → Res D
  | .int i, .int j, S => if CDivW i j then .ok (.int (i / j)) S else .stuck
  | _, _, _ => .stuck
theorem snd_fdiv : SndR G (rI CDivW fun i j => .int (i / j)) p_fdiv := fun E ι S H x y dx dy Q R rx ry q => by
  cases dx with
  | int i =>
    cases dy with
    | int j =>
      have q : Post G E ι S H (PV G Q) (if CDivW i j then .ok (.int (i / j)) S else .stuck) := q
      split at q
      · rename_i h
        exact ⟨i, j, rx.int_of, ry.int_of, h, Post.here R q _ (.int _)⟩
      · exact q.elim
    | _ => exact q.elim
  | _ => exact q.elim
def p_mod : D → D → Sto → Res D
  | .int i, .int j, S => if 0 < j then .ok (.int (i % j)) S else .stuck
  | _, _, _ => .stuck
theorem snd_mod : SndR G (rI (fun _ j => 0 < j) fun i j => .int (i % j)) p_mod := fun E ι S H x y dx dy Q R rx ry q => by
  cases dx with
  | int i =>
    cases dy with
    | int j =>
      have q : Post G E ι S H (PV G Q) (if 0 < j then .ok (.int (i % j)) S else .stuck) := q
      split at q
      · rename_i h
        exact ⟨i, j, rx.int_of, ry.int_of, h, Post.here R q _ (.int _)⟩
      · exact q.elim
    | _ => exact q.elim
  | _ => exact q.elim
def p_pow : D → D → Sto → Res D
  | .int i, .int j, S => if CPow i j then .ok (.int (i ^ j.toNat)) S else .stuck
  | _, _, _ => .stuck
theorem snd_pow : SndR G (rI CPow fun i j => .int (i ^ j.toNat)) p_pow := fun E ι S H x y dx dy Q R rx ry q => by
  cases dx with
  | int i =>
    cases dy with
    | int j =>
      have q : Post G E ι S H (PV G Q) (if CPow i j then .ok (.int (i ^ j.toNat)) S else .stuck) := q
      split at q
      · rename_i h
        exact ⟨i, j, rx.int_of, ry.int_of, h, Post.here R q _ (.int _)⟩
      · exact q.elim
    | _ => exact q.elim
  | _ => exact q.elim
def p_mulL (b : Bool) (x : D) (k : Int) (S : Sto) : Res D := match lstOf x S with
  | some xs => if -1000 ≤ k ∧ k ≤ 1000 ∧ xs.length ≤ 1000 then p_lst b (List.replicate k.toNat xs).flatten S else .stuck
  | none => .stuck
def p_mul (b : Bool) (x y : D) (S : Sto) : Res D := match y with
  | .int k => match x with
    | .int i => if CMulW i k then .ok (.int (i * k)) S else .stuck
    | .tup xs => if xs ≠ [] ∧ 1 ≤ k ∧ k ≤ 1000 ∧ xs.length ≤ 1000 then .ok (.tup (List.replicate k.toNat xs).flatten) S else .stuck
    | x => p_mulL b x k S
  | _ => .stuck
def rMulU (K : PySem.W.Frag) : R2 := fun x y H Q => (rI CMulW fun i j => .int (i * j)) x y H Q ∨ rRepT K x y H Q ∨ rRepT1 K x y H Q ∨ rRep x y H Q
theorem op_mulU {X : Cx} : OpR X (binaryOp .Mult) (rMulU X.K) := op_mulW.or (op_repT.or (op_repT1.or op_rep))
theorem snd_mul (b : Bool) : SndR G (rMulU G.K) (p_mul b) := fun E ι S H x y dx dy Q R rx ry q => by
  cases dy with
  | int k =>
    have lists : Post G E ι S H (PV G Q) (p_mulL b dx k S) → rMulU G.K x y H Q := fun q => by
      unfold p_mulL at q
      cases h1 : lstOf dx S with
      | none =>
        rw [h1] at q
        exact q.elim
      | some xs =>
        rw [h1] at q
        have q : Post G E ι S H (PV G Q) (if -1000 ≤ k ∧ k ≤ 1000 ∧ xs.length ≤ 1000 then p_lst b (List.replicate k.toNat xs).flatten S else .stuck) := q
        obtain ⟨a, vs, rfl, ha, ra⟩ := lst_at R rx h1
        by_cases hf : -1000 ≤ k ∧ k ≤ 1000 ∧ xs.length ≤ 1000
        · rw [if_pos hf] at q
          obtain ⟨hl, hq⟩ := p_lst_ok R (ra.repl k.toNat) q
          refine .inr (.inr (.inr ⟨a, k, vs, rfl, ry.int_of, ha, by omega, by omega, ?_, hq⟩))
          rw [ra.length, sizeLine_eq]
          have h1 : k.toNat ≤ 1000 := by omega
          exact Nat.le_trans (Nat.mul_le_mul hf.2.2 h1) (by decide)
        · rw [if_neg hf] at q
          exact q.elim
    cases dx with
    | int i =>
      have q : Post G E ι S H (PV G Q) (if CMulW i k then .ok (.int (i * k)) S else .stuck) := q
      split at q
      · rename_i h
        exact .inl ⟨i, k, rx.int_of, ry.int_of, h, Post.here R q _ (.int _)⟩
      · exact q.elim
    | tup xs =>
      have q : Post G E ι S H (PV G Q) (if xs ≠ [] ∧ 1 ≤ k ∧ k ≤ 1000 ∧ xs.length ≤ 1000 then .ok (.tup (List.replicate k.toNat xs).flatten) S else .stuck) := q
      by_cases hf : xs ≠ [] ∧ 1 ≤ k ∧ k ≤ 1000 ∧ xs.length ≤ 1000
      · rw [if_pos hf] at q
        obtain ⟨a, vs, rfl, ha, ra⟩ := rx.sqT
        by_cases h1 : k = 1
        · subst h1
          refine .inr (.inr (.inl ⟨a, vs, rfl, ry.int_of, ha, ra.ne hf.1, ?_⟩))
          have e : (List.replicate (1 : Int).toNat xs).flatten = xs := by simp
          rw [e] at q
          exact Post.here R q _ rx
        · refine .inr (.inl ⟨a, k, vs, rfl, ry.int_of, ha, ra.ne hf.1, by omega, hf.2.2.1, by rw [ra.length]; exact hf.2.2.2, fun p hp => ?_⟩)
          obtain ⟨x', R', r'⟩ := new_tup R hp (ra.repl k.toNat)
          exact q _ _ x' R' _ r'
      · rw [if_neg hf] at q
        exact q.elim
    | _ => exact lists q
  | _ => exact q.elim
def p_neg : D → Sto → Res D
  | .int i, S => .ok (.int (-i)) S
  | _, _ => .stuck
theorem snd_neg : SndU G (rU fun i => .int (-i)) p_neg := fun E ι S H x dx Q R rx q => by
  cases dx with
  | int i => exact ⟨i, rx.int_of, Post.here R q _ (.int _)⟩
  | _ => exact q.elim
def p_cmp (c : Int → Int → Bool) : D → D → Sto → Res D
  | .int i, .int j, S => .ok (.bl (c i j)) S
  | _, _, _ => .stuck
theorem snd_cmp (c : Int → Int → Bool) : SndR G (rI0 fun i j => .bl (c i j)) (p_cmp c) := fun E ι S H x y dx dy Q R rx ry q => by
  cases dx with
  | int i =>
    cases dy with
    | int j => exact ⟨i, j, rx.int_of, ry.int_of, Post.here R q _ (.bl _)⟩
    | _ => exact q.elim
  | _ => exact q.elim
def p_lt := p_cmp fun i j => decide (i < j)
def p_le := p_cmp fun i j => decide (i ≤ j)
def p_gt := p_cmp fun i j => decide (j < i)
def p_ge := p_cmp fun i j => decide (j ≤ i)
-- data for == and repr: no dicts, no instances
mutual
def pyOf (S : Sto) : D → Option PyData
  | .non => some .none
  | .bl b => some (.bool b)
  | .int i => some (.int i)
  | .str x => some (.str x)
  | .tup ds => (pyOfL S ds).map .tuple
  | .lst ds => (pyOfL S ds).map .list
  | .scr ds => (pyOfL S ds).map .list
  | .wtp ds => (pyOfL S ds).map .tuple
  | .ref n => match S[n]? with
    | some (some (.lst ds)) => (flatL ds).map .list
    | _ => none
  | _ => none
def pyOfL (S : Sto) : List D → Option (List PyData)
  | [] => some []
  | d :: ds => (pyOf S d).bind fun p => (pyOfL S ds).map fun ps => p :: ps
def flat : D → Option PyData
  | .non => some .none
  | .bl b => some (.bool b)
  | .int i => some (.int i)
  | .str x => some (.str x)
  | .tup ds => (flatL ds).map .tuple
  | .lst ds => (flatL ds).map .list
  | _ => none
def flatL : List D → Option (List PyData)
  | [] => some []
  | d :: ds => (flat d).bind fun p => (flatL ds).map fun ps => p :: ps
end
theorem pair_flat {ι : Ix} {S : Sto} {H : Hp} : ∀ n : Nat, (∀ (v : V) (d : D) (p : PyData), sizeOf d ≤ n → DL.flat d = some p → Rep G ι (Lv ι S) H v d → Dp G.K H v p) ∧
    (∀ (vs : List V) (ds : List D) (ps : List PyData), sizeOf ds ≤ n → flatL ds = some ps → Reps G ι (Lv ι S) H vs ds → DpAll G.K H vs ps)
  | 0 => by
    refine ⟨fun v d p h => ?_, fun vs ds ps h => ?_⟩
    · cases d <;> simp at h
    · cases ds <;> simp at h
  | n + 1 => by
    obtain ⟨i1, i2⟩ := pair_flat (ι := ι) (S := S) (H := H) n
    refine ⟨fun v d p h e r => ?_, fun vs ds ps h e r => ?_⟩
    · cases d with
      | non => cases r; cases e; exact .non
      | bl b => cases r; cases e; exact .bl b
      | int i => cases r; cases e; exact .int i
      | str x => cases r; cases e; exact .str x
      | tup ds =>
        simp only [DL.flat] at e
        obtain ⟨a, vs, rfl, hs, r⟩ := r.sqT
        cases e2 : flatL ds with
        | none => rw [e2] at e; cases e
        | some ps =>
          rw [e2] at e
          cases e
          exact .tup hs (i2 vs ds ps (by simp at h; omega) e2 r)
      | lst ds =>
        simp only [DL.flat] at e
        cases r with
        | lst q k r =>
          cases e2 : flatL ds with
          | none => rw [e2] at e; cases e
          | some ps =>
            rw [e2] at e
            cases e
            exact .lst (SqL.of q) (i2 _ ds ps (by simp at h; omega) e2 r)
      | scr ds => cases e
      | wtp ds => cases e
      | dK _ => cases e
      | dT _ => cases e
      | obj _ _ => cases e
      | ref _ => cases e
      | con _ => cases e
      | ty _ => cases e
      | err _ _ => cases e
    · cases ds with
      | nil =>
        cases r
        cases e
        exact .nil
      | cons d ds =>
        cases r with
        | cons q r =>
          simp only [flatL] at e
          cases e1 : DL.flat d with
          | none => rw [e1] at e; cases e
          | some p =>
            rw [e1] at e
            cases e2 : flatL ds with
            | none => rw [e2] at e; cases e
            | some ps =>
              rw [e2] at e
              cases e
              exact .cons (i1 _ d p (by simp at h; omega) e1 q) (i2 _ ds ps (by simp at h; omega) e2 r)
theorem pair_py {ι : Ix} {S : Sto} {H : Hp} (R : Rel G ι S H) : ∀ n : Nat, (∀ (v : V) (d : D) (p : PyData), sizeOf d ≤ n → pyOf S d = some p → Rep G ι (Lv ι S) H v d → Dp G.K H v p) ∧
    (∀ (vs : List V) (ds : List D) (ps : List PyData), sizeOf ds ≤ n → pyOfL S ds = some ps → Reps G ι (Lv ι S) H vs ds → DpAll G.K H vs ps)
  | 0 => by
    refine ⟨fun v d p h => ?_, fun vs ds ps h => ?_⟩
    · cases d <;> simp at h
    · cases ds <;> simp at h
  | n + 1 => by
    obtain ⟨i1, i2⟩ := pair_py R n
    refine ⟨fun v d p h e r => ?_, fun vs ds ps h e r => ?_⟩
    · cases d with
      | non => cases r; cases e; exact .non
      | bl b => cases r; cases e; exact .bl b
      | int i => cases r; cases e; exact .int i
      | str x => cases r; cases e; exact .str x
      | tup ds =>
        simp only [pyOf] at e
        obtain ⟨a, vs, rfl, hs, r⟩ := r.sqT
        cases e2 : pyOfL S ds with
        | none => rw [e2] at e; cases e
        | some ps =>
          rw [e2] at e
          cases e
          exact .tup hs (i2 vs ds ps (by simp at h; omega) e2 r)
      | lst ds =>
        simp only [pyOf] at e
        cases r with
        | lst q k r =>
          cases e2 : pyOfL S ds with
          | none => rw [e2] at e; cases e
          | some ps =>
            rw [e2] at e
            cases e
            exact .lst (SqL.of q) (i2 _ ds ps (by simp at h; omega) e2 r)
      | scr ds =>
        simp only [pyOf] at e
        cases r with
        | scr q r =>
          cases e2 : pyOfL S ds with
          | none => rw [e2] at e; cases e
          | some ps =>
            rw [e2] at e
            cases e
            refine .lst ?_ (i2 _ ds ps (by simp at h; omega) e2 r)
            rcases q with q | q
            · exact .inl q.1
            · exact .inr q
      | wtp ds =>
        simp only [pyOf] at e
        cases r with
        | wtp q r =>
          cases e2 : pyOfL S ds with
          | none => rw [e2] at e; cases e
          | some ps =>
            rw [e2] at e
            cases e
            exact .tup (.inr q) (i2 _ ds ps (by simp at h; omega) e2 r)
      | dK _ => cases e
      | dT _ => cases e
      | obj _ _ => cases e
      | con _ => cases e
      | ty _ => cases e
      | err _ _ => cases e
      | ref m =>
        simp only [pyOf] at e
        cases hs : S[m]? with
        | none => rw [hs] at e; cases e
        | some o =>
          rw [hs] at e
          cases o with
          | none => cases e
          | some cl =>
            cases cl with
            | lst es =>
              have e : (flatL es).map PyData.list = some p := e
              cases e2 : flatL es with
              | none => rw [e2] at e; cases e
              | some ps =>
                rw [e2] at e
                cases e
                obtain ⟨a', h1, vs, h2, h3⟩ := R.cell m _ hs
                cases r with
                | ref q =>
                  rw [q] at h1
                  cases h1
                  exact .lst (SqL.of h2) ((pair_flat (sizeOf es)).2 _ es ps (Nat.le_refl _) e2 h3)
            | _ => cases e
    · cases ds with
      | nil =>
        cases r
        cases e
        exact .nil
      | cons d ds =>
        cases r with
        | cons q r =>
          simp only [pyOfL] at e
          cases e1 : pyOf S d with
          | none => rw [e1] at e; cases e
          | some p =>
            rw [e1] at e
            cases e2 : pyOfL S ds with
            | none => rw [e2] at e; cases e
            | some ps =>
              rw [e2] at e
              cases e
              exact .cons (i1 _ d p (by simp at h; omega) e1 q) (i2 _ ds ps (by simp at h; omega) e2 r)
theorem Rep.py {ι : Ix} {S : Sto} {H : Hp} (R : Rel G ι S H) {v : V} {d : D} {p : PyData} (e : pyOf S d = some p) (r : Rep G ι (Lv ι S) H v d) : Dp G.K H v p := (pair_py R (sizeOf d)).1 v d p (Nat.le_refl _) e r
def p_eq (neg : Bool) : D → D → Sto → Res D := fun x y S => match pyOf S x, pyOf S y with
  | some d, some e => if SeqAt.shaped d = true ∧ SeqAt.shaped e = true then .ok (.bl (if neg = true then !PyData.eqv d e else PyData.eqv d e)) S else .stuck
  | _, _ => .stuck
theorem snd_eq : SndR G (rEqD G.K) (p_eq false) := fun E ι S H x y dx dy Q R rx ry q => by
  unfold p_eq at q
  cases h1 : pyOf S dx with
  | none => simp only [h1] at q; exact q.elim
  | some d =>
    cases h2 : pyOf S dy with
    | none => simp only [h1, h2] at q; exact q.elim
    | some e =>
      simp only [h1, h2] at q
      by_cases h : SeqAt.shaped d = true ∧ SeqAt.shaped e = true
      · rw [if_pos h] at q
        exact ⟨d, e, rx.py R h1, ry.py R h2, h.1, h.2, Post.here R q _ (.bl _)⟩
      · rw [if_neg h] at q
        exact q.elim
theorem snd_ne : SndR G (rNeD G.K) (p_eq true) := fun E ι S H x y dx dy Q R rx ry q => by
  unfold p_eq at q
  cases h1 : pyOf S dx with
  | none => simp only [h1] at q; exact q.elim
  | some d =>
    cases h2 : pyOf S dy with
    | none => simp only [h1, h2] at q; exact q.elim
    | some e =>
      simp only [h1, h2] at q
      by_cases h : SeqAt.shaped d = true ∧ SeqAt.shaped e = true
      · rw [if_pos h] at q
        exact ⟨d, e, rx.py R h1, ry.py R h2, h.1, h.2, Post.here R q _ (.bl _)⟩
      · rw [if_neg h] at q
        exact q.elim
def isNon : D → Bool
  | .non => true
  | _ => false
def p_isN (neg : Bool) : D → D → Sto → Res D
  | x, .non, S => .ok (.bl (if neg = true then !isNon x else isNon x)) S
  | _, _, _ => .stuck
theorem Rep.isNon {ι : Ix} {L : Addr → Prop} {H : Hp} {v : V} {d : D} (r : Rep G ι L H v d) : decide (v = .non) = isNon d := by
  cases r <;> first | rfl | exact decide_eq_false (fun h => nomatch h)
theorem snd_isN : SndR G (fun x y H Q => y = .non ∧ Q (.bl (decide (x = .non))) H) (p_isN false) := fun E ι S H x y dx dy Q R rx ry q => by
  cases dy with
  | non => exact ⟨ry.non_of, by rw [rx.isNon]; exact Post.here R q _ (.bl _)⟩
  | _ => exact q.elim
theorem snd_notN : SndR G (fun x y H Q => y = .non ∧ Q (.bl (!decide (x = .non))) H) (p_isN true) := fun E ι S H x y dx dy Q R rx ry q => by
  cases dy with
  | non => exact ⟨ry.non_of, by rw [rx.isNon]; exact Post.here R q _ (.bl _)⟩
  | _ => exact q.elim
def flatD : D → Bool
  | .non => true
  | .bl _ => true
  | .int _ => true
  | .str _ => true
  | _ => false
def eqD : D → D → Bool
  | .non, .non => true
  | .bl a, .bl b => a == b
  | .bl a, .int b => (if a then 1 else 0) == b
  | .int a, .bl b => a == (if b then 1 else 0)
  | .int a, .int b => a == b
  | .str a, .str b => a == b
  | _, _ => false
theorem Rep.flatV {ι : Ix} {L : Addr → Prop} {H : Hp} {v : V} {d : D} (r : Rep G ι L H v d) (h : flatD d = true) : L2.flatV v = true := by
  cases r <;> first | rfl | cases h
theorem Rep.eqV {ι : Ix} {L : Addr → Prop} {H : Hp} {v w : V} {d e : D} (r : Rep G ι L H v d) (s : Rep G ι L H w e) (h : flatD d = true) (h' : flatD e = true) : L2.eqV v w = eqD d e := by
  cases r <;> cases h <;> cases s <;> first | rfl | cases h'
theorem Reps.flatV {ι : Ix} {L : Addr → Prop} {H : Hp} : ∀ {vs : List V} {ds : List D}, Reps G ι L H vs ds → ds.all flatD = true → vs.all L2.flatV = true
  | _, _, .nil, _ => rfl
  | _, _, .cons q r, h => by
    simp only [List.all_cons, Bool.and_eq_true] at h ⊢
    exact ⟨q.flatV h.1, r.flatV h.2⟩
theorem Reps.inV {ι : Ix} {L : Addr → Prop} {H : Hp} {x : V} {d : D} (r : Rep G ι L H x d) (h : flatD d = true) : ∀ {vs : List V} {ds : List D}, Reps G ι L H vs ds → ds.all flatD = true → L2.inV x vs = ds.any fun y => eqD y d
  | _, _, .nil, _ => rfl
  | _, _, .cons q rs, hh => by
    simp only [List.all_cons, Bool.and_eq_true] at hh
    have ih := Reps.inV r h rs hh.2
    unfold L2.inV at ih ⊢
    rw [List.any_cons, List.any_cons, ih, q.eqV r hh.1 h]
def p_in (neg : Bool) : D → D → Sto → Res D := fun x y S => match itemsOf y S with
  | some ds => if flatD x = true ∧ ds.all flatD = true then .ok (.bl (if neg = true then !ds.any (fun y => eqD y x) else ds.any fun y => eqD y x)) S else .stuck
  | none => .stuck
theorem snd_in (neg : Bool) : SndR G (rIn G.K neg) (p_in neg) := fun E ι S H x y dx dy Q R rx ry q => by
  unfold p_in at q
  cases h1 : itemsOf dy S with
  | none => simp only [h1] at q; exact q.elim
  | some ds =>
    simp only [h1] at q
    by_cases h : flatD dx = true ∧ ds.all flatD = true
    · rw [if_pos h] at q
      obtain ⟨a, vs, rfl, ha, ra⟩ := items_at R ry h1
      refine ⟨a, vs, rfl, ha, rx.flatV h.1, ra.flatV h.2, ?_⟩
      rw [Reps.inV rx h.1 ra h.2]
      exact Post.here R q _ (.bl _)
    · rw [if_neg h] at q
      exact q.elim
end
section
variable {prog : Program} {w : World} {A : Around} {E : Value → Shared → Prop} {s : Shared}
theorem sliceApplied_rv {sl : Addr} {vl vu vs : Value} {n : Nat} {Q : Int × Int × Nat → Shared → Prop} (hs : s.heap.IsSliceOf sl vl vu vs) (pl : IsPart vl none) (pu : IsPart vu none) (ps : IsPart vs (some (-1)))
    (h : Q ((n : Int) - 1, -1, n) s) : wpAny (model prog w) A (Builtin.Slice.sliceApplied (.ref sl) (pure (n : Int))) Q E s := by
  obtain ⟨os, hos, hcs, hds⟩ := id hs
  unfold Builtin.Slice.sliceApplied Builtin.Slice.sliceFields
  refine wpAny_bind (wpAny_bind (wpAny_field hos hds (x := vl) rfl (wpAny_bind (wpAny_field hos hds (x := vu) rfl (wpAny_bind (wpAny_field hos hds (x := vs) rfl (wpAny_pure ?_)))))))
  refine wpAny_bind (HT.slicePart_ ps ?_)
  show wpAny _ _ (if ((-1 : Int) == 0) = true then _ else _) _ _ s
  rw [if_neg (by decide)]
  refine wpAny_bind (HT.slicePart_ pl (wpAny_bind (HT.slicePart_ pu (wpAny_bind (wpAny_pure ?_)))))
  show wpAny _ _ (pure ((n : Int) - 1, (-1 : Int), Builtin.Slice.slicePlaces ((n : Int) - 1) (-1) (-1))) _ _ s
  have e : Builtin.Slice.slicePlaces ((n : Int) - 1) (-1) (-1) = n := by
    unfold Builtin.Slice.slicePlaces
    have h1 : ¬ ((-1 : Int) > 0) := by decide
    simp only [h1, if_false]
    by_cases hn : (n : Int) - 1 > -1
    · rw [if_pos hn, show (-(-1 : Int)) = 1 from rfl, Int.ediv_one]
      omega
    · rw [if_neg hn]
      omega
  rw [e]
  exact wpAny_pure h
theorem pick_rv (xs : Array Value) : ((List.range xs.size).filterMap fun (m : Nat) => xs[(((xs.size : Int) - 1) + (m : Int) * (-1)).toNat]?).toArray = xs.toList.reverse.toArray := by
  congr 1
  have fc : ∀ {f g : Nat → Option Value} (l : List Nat), (∀ x ∈ l, f x = g x) → l.filterMap f = l.filterMap g := by
    intro f g l
    induction l with
    | nil => intro _; rfl
    | cons x l ih =>
      intro h
      rw [List.filterMap_cons, List.filterMap_cons, h x (List.mem_cons_self ..), ih fun y hy => h y (List.mem_cons_of_mem _ hy)]
  have e : (List.range xs.size).filterMap (fun (m : Nat) => xs[(((xs.size : Int) - 1) + (m : Int) * (-1)).toNat]?) = (List.range xs.size).filterMap fun m => xs.toList.reverse[m]? := by
    refine fc _ fun m hm => ?_
    have hm := List.mem_range.mp hm
    rw [List.getElem?_reverse (by rw [Array.length_toList]; exact hm), Array.length_toList, Array.getElem?_toList]
    congr 1
    omega
  rw [e]
  have key : ∀ l : List Value, (List.range l.length).filterMap (fun m => l[m]?) = l := by
    intro l
    induction l with
    | nil => rfl
    | cons x l ih =>
      rw [List.length_cons, List.range_succ_eq_map, List.filterMap_cons]
      show x :: _ = _
      rw [List.filterMap_map]
      congr 1
  have := key xs.toList.reverse
  rw [List.length_reverse, Array.length_toList] at this
  exact this
theorem getItem_tuple_rv {t sl : Addr} {items : Array Value} {vl vu vs : Value} {Q : Value → Shared → Prop} (ht : IsTup s.heap t items) (hs : s.heap.IsSliceOf sl vl vu vs) (pl : IsPart vl none) (pu : IsPart vu none) (ps : IsPart vs (some (-1)))
    (h : Q (.ref s.heap.objs.size) { s with heap := s.heap.push { cls := .type "tuple", data := .seq items.toList.reverse.toArray } }) (hsz : items.size ≤ sizeLine) : wpAny (model prog w) A (getItem (.ref t) (.ref sl)) Q E s := by
  have htake : sizeOk (.seq items.toList.reverse.toArray) := by
    show items.toList.reverse.toArray.size ≤ sizeLine
    rw [List.size_toArray, List.length_reverse, Array.length_toList]
    exact hsz
  obtain ⟨os, hos, hcs, hds⟩ := id hs
  have hTs : s.TypeIs (.ref sl) "slice" := ⟨os, hos, hcs⟩
  unfold getItem
  try with_reducible refine wpAny_holding ?_
  first | refine wpAny_bind (wpAny_pure ?_) | skip
  refine wpAny_bind (wpAny_sequenceKey ht.typeIs (by decide) ?_)
  refine wpAny_bind (wpAny_callSpecial?_slot (name := Str.ofString "__getitem__") ht.typeIs PyProof.Rows.slot_tuple_getitem
    (wpAny_call_entry PyProof.Rows.slot_tuple_getitem ht.typeIs entry_tuple_getitem ?_ (args_tuple_getitem _ _)))
  show wpAny _ _ (Builtin.Tuple.tupleItemsOf (.ref t) >>= _) _ _ s
  refine wpAny_bind (tupleItemsOf_ ht ?_)
  refine wpAny_bind (wpAny_typeOf hTs ?_)
  rw [if_pos (by decide)]
  refine wpAny_bind (sliceApplied_rv hs pl pu ps ?_)
  have hno : ¬ ((((items.size : Int) - 1) == 0 && (-1 : Int) == 1 && items.size == items.size) = true) := by
    intro q
    rw [Bool.and_eq_true, Bool.and_eq_true] at q
    exact absurd q.1.2 (by decide)
  show wpAny _ _ (if (((items.size : Int) - 1) == 0 && (-1 : Int) == 1 && items.size == items.size) = true then _ else _) _ _ s
  rw [if_neg hno, pick_rv]
  first
    | exact wpAny_bind (m := Builtin.Tuple.tupleExact _) (wpAny_newObj_type (wpAny_pure ⟨_, rfl, wpAny_pure h⟩) htake)
    | exact wpAny_bind (m := Builtin.Tuple.tupleExact _) (wpAny_newObj_type (wpAny_bind (wpAny_pure (wpAny_pure ⟨_, rfl, wpAny_pure h⟩))) htake)
    | exact wpAny_bind (wpAny_bind (m := Builtin.Tuple.tupleExact _) (wpAny_newObj_type (wpAny_pure (wpAny_pure ⟨_, rfl, wpAny_pure h⟩)) htake))
    | exact wpAny_bind (wpAny_bind (m := Builtin.Tuple.tupleExact _) (wpAny_newObj_type (wpAny_pure ⟨_, rfl, wpAny_pure h⟩) htake))
end
section
variable {X : Cx}
def tRevU (K : PySem.W.Frag) (te : TE) : TE := fun σ H Q => te σ H fun x H1 => (∃ a xs, x = .ref a ∧ SqL K H1 a xs ∧ ∀ p, H1 p = none → Q (.ref p) (upd H1 p (.lst xs.reverse))) ∨ (∃ a xs, x = .ref a ∧ SqT K H1 a xs ∧ ∀ p, H1 p = none → Q (.ref p) (upd H1 p (.tup xs.reverse)))
theorem pe_revU {e : Expr} {te : TE} {k : Nat} {p1 p2 p3 pos : Pos} (he : PE X e te) : PE X (.Subscript e (.Slice none none (some (.UnaryOp .USub (.Constant (.int 1) k p1) p2)) p3) pos) (tRevU X.K te) := by
  refine ⟨fun pins s σ H Q I h => ?_⟩
  refine Subscript_ (thn (he.run pins s σ H _ I h) fun v s1 ⟨x, H1, I1, r1, q1⟩ => ?_)
  have hst : PO X (some (.UnaryOp .USub (.Constant (.int 1) k p1) p2)) (tPart (tUn (rU fun i => .int (-i)) (tC (.int 1)))) := po_some (pe_un un_neg pe_int)
  refine wpAny_Slice (thn (po_none.run pins s1 σ H1 (fun o H2 => o = none ∧ H2 = H1) I1 ⟨rfl, rfl⟩) fun vl s2 ⟨l, H2, I2, pl, el, e2⟩ => ?_)
  subst el e2
  refine thn (po_none.run pins s2 σ H2 (fun o H3 => o = none ∧ H3 = H2) I2 ⟨rfl, rfl⟩) fun vu s3 ⟨u, H3, I3, pu, eu, e3⟩ => ?_
  subst eu e3
  refine thn (hst.run pins s3 σ H3 (fun o H4 => o = some (-1) ∧ H4 = H3) I3 ⟨1, rfl, -1, rfl, rfl, rfl⟩) fun vs s4 ⟨o, H4, I4, ps, eo, e4⟩ => ?_
  subst eo e4
  have I5 : Inv X pins σ H4 { s4 with heap := s4.heap.push { cls := .type "slice", data := .fields #[vl, vu, vs] } } := I4.kept (t' := s4.toks) fun b ob q => Heap.get?_push_of_some _ q
  rcases q1 with ⟨a, xs, ex, hx, q⟩ | ⟨a, xs, ex, hx, q⟩
  · subst ex
    cases r1
    obtain ⟨its, r, ht, hz⟩ := I5.list hx
    have hlen := r.length
    show wpAny (model X.prog X.w) X.A (subscriptTail e (.Slice none none (some (.UnaryOp .USub (.Constant (.int 1) k p1) p2)) p3) (.ref a) (.ref s4.heap.objs.size)) (EP X pins σ Q) X.xe { s4 with heap := s4.heap.push { cls := .type "slice", data := .fields #[vl, vu, vs] } }
    refine tail_any (ops := [.ref a, .ref s4.heap.objs.size]) ht.isList.typeIs (PySem.slot_list_getitem.lookup) ?_ (by with_unfolding_all rfl)
    refine wpAny_getItem_list_slice ht.isList (Heap.IsSliceOf.new _ vl vu vs) pl pu ps (by decide) ?_ (by rw [List.size_toArray]; omega)
    rw [PySem.W.krv_pick]
    refine ⟨.ref _, _, I5.laid (t' := s4.toks) (o := .lst xs.reverse) (fun b ob q => Heap.get?_push_of_some _ q) (Nat.le_refl _) ?_, rfl, q _ (I5.hok.fresh (Nat.le_refl _))⟩
    exact ⟨by rw [List.length_reverse]; exact hz, _, 0, r.reverse, Heap.get?_push_size _ rfl⟩
  · subst ex
    cases r1
    obtain ⟨its, r, ht, hz⟩ := I5.tuple hx
    have hlen := r.length
    show wpAny (model X.prog X.w) X.A (subscriptTail e (.Slice none none (some (.UnaryOp .USub (.Constant (.int 1) k p1) p2)) p3) (.ref a) (.ref s4.heap.objs.size)) (EP X pins σ Q) X.xe { s4 with heap := s4.heap.push { cls := .type "slice", data := .fields #[vl, vu, vs] } }
    refine tail_any (ops := [.ref a, .ref s4.heap.objs.size]) ht.typeIs (PyProof.Rows.slot_tuple_getitem.lookup) ?_ (by with_unfolding_all rfl)
    refine getItem_tuple_rv ht (Heap.IsSliceOf.new _ vl vu vs) pl pu ps ?_ (by rw [List.size_toArray]; omega)
    refine ⟨.ref _, _, I5.laid (t' := s4.toks) (o := .tup xs.reverse) (fun b ob q => Heap.get?_push_of_some _ q) (Nat.le_refl _) ?_, rfl, q _ (I5.hok.fresh (Nat.le_refl _))⟩
    refine ⟨by rw [List.length_reverse]; exact hz, _, r.reverse, ?_⟩
    exact IsTup.new _ _
end
section
variable {I : Type} {Xs : I → Cx} {G : Gx} {E : WK} {kk : Nat}
def keyOf : D → Option Key
  | .int i => some (.inl i)
  | .str x => some (.inr x)
  | _ => none
def keysOf : D → Option (List Key)
  | .tup ds => ds.mapM keyOf
  | _ => none
section
variable {κ : Type} [DecidableEq κ]
def valD (kvs : List (κ × D)) (k : κ) : Option D := (kvs.find? fun kv => decide (kv.1 = k)).map (·.2)
def putD (kvs : List (κ × D)) (k : κ) (v : D) : List (κ × D) :=
  if (kvs.any fun kv => decide (kv.1 = k)) = true then kvs.map (fun kv => if kv.1 = k then (kv.1, v) else kv) else kvs ++ [(k, v)]
theorem valD_rep {ι : Ix} {L : Addr → Prop} {H : Hp} : ∀ {kvs : List (κ × V)} {kds : List (κ × D)} (k : κ), kvs.map (·.1) = kds.map (·.1) → Reps G ι L H (kvs.map (·.2)) (kds.map (·.2)) →
    (valD kds k = none → valV kvs k = none) ∧ ∀ d, valD kds k = some d → ∃ v, valV kvs k = some v ∧ Rep G ι L H v d
  | [], [], k, _, _ => ⟨fun _ => rfl, fun d h => by cases h⟩
  | [], _ :: _, _, e, _ => by cases e
  | _ :: _, [], _, e, _ => by cases e
  | (k1, v) :: kvs, (k2, d) :: kds, k, e, r => by
    simp only [List.map_cons, List.cons.injEq] at e
    obtain ⟨e1, e2⟩ := e
    subst e1
    cases r with
    | cons q r =>
      have ih := valD_rep k e2 r
      by_cases h : k1 = k
      · subst h
        unfold valD
        simp only [List.find?_cons, decide_true, Option.map_some]
        exact ⟨fun z => (nomatch z), fun d' z => ⟨v, valV_pos rfl, by cases z; exact q⟩⟩
      · have e3 : valD ((k1, d) :: kds) k = valD kds k := by
          unfold valD
          simp [List.find?_cons, h]
        have e4 : valV ((k1, v) :: kvs) k = valV kvs k := valV_neg h
        rw [e3, e4]
        exact ih
theorem any_fst : ∀ {kvs : List (κ × V)} {kds : List (κ × D)} (k : κ), kvs.map (·.1) = kds.map (·.1) → (kvs.any fun kv => decide (kv.1 = k)) = (kds.any fun kv => decide (kv.1 = k))
  | [], [], k, _ => rfl
  | [], _ :: _, _, e => by cases e
  | _ :: _, [], _, e => by cases e
  | (k1, v) :: kvs, (k2, d) :: kds, k, e => by
    simp only [List.map_cons, List.cons.injEq] at e
    obtain ⟨e1, e2⟩ := e
    subst e1
    simp only [List.any_cons]
    rw [any_fst k e2]
theorem putD_rep {ι : Ix} {L : Addr → Prop} {H : Hp} {kvs : List (κ × V)} {kds : List (κ × D)} (k : κ) {v : V} {d : D} (e : kvs.map (·.1) = kds.map (·.1)) (r : Reps G ι L H (kvs.map (·.2)) (kds.map (·.2))) (q : Rep G ι L H v d) :
    (putK kvs k v).map (·.1) = (putD kds k d).map (·.1) ∧ Reps G ι L H ((putK kvs k v).map (·.2)) ((putD kds k d).map (·.2)) := by
  unfold putK putD
  rw [any_fst k e]
  split
  · have go : ∀ {kvs : List (κ × V)} {kds : List (κ × D)}, kvs.map (·.1) = kds.map (·.1) → Reps G ι L H (kvs.map (·.2)) (kds.map (·.2)) →
        (kvs.map (fun kv => if kv.1 = k then (kv.1, v) else kv)).map (·.1) = (kds.map (fun kv => if kv.1 = k then (kv.1, d) else kv)).map (·.1) ∧
        Reps G ι L H ((kvs.map (fun kv => if kv.1 = k then (kv.1, v) else kv)).map (·.2)) ((kds.map (fun kv => if kv.1 = k then (kv.1, d) else kv)).map (·.2)) := by
      intro kvs
      induction kvs with
      | nil =>
        intro kds e r
        cases kds with
        | nil => exact ⟨rfl, .nil⟩
        | cons _ _ => cases e
      | cons p kvs ih =>
        intro kds e r
        cases kds with
        | nil => cases e
        | cons p2 kds =>
          obtain ⟨k1, v1⟩ := p
          obtain ⟨k2, d2⟩ := p2
          simp only [List.map_cons, List.cons.injEq] at e
          obtain ⟨e1, e2⟩ := e
          subst e1
          cases r with
          | cons q0 r =>
            obtain ⟨a1, a2⟩ := ih e2 r
            by_cases h : k1 = k
            · simp only [List.map_cons, if_pos h]
              exact ⟨by rw [a1], .cons q a2⟩
            · simp only [List.map_cons, if_neg h]
              exact ⟨by rw [a1], .cons q0 a2⟩
    exact go e r
  · rw [List.map_append, List.map_append, List.map_append, List.map_append, e]
    exact ⟨rfl, r.app (.cons q .nil)⟩
theorem len_fst {kvs : List (κ × V)} {kds : List (κ × D)} (e : kvs.map (·.1) = kds.map (·.1)) : kvs.length = kds.length := by
  have := congrArg List.length e
  simpa using this
end
theorem keyOf_rep {ι : Ix} {L : Addr → Prop} {H : Hp} {v : V} {d : D} {k : Key} (r : Rep G ι L H v d) (h : keyOf d = some k) : v = kV k := by
  cases r <;> cases h <;> rfl
theorem keysOf_rep {ι : Ix} {L : Addr → Prop} {H : Hp} : ∀ {vs : List V} {ds : List D} {ks : List Key}, Reps G ι L H vs ds → ds.mapM keyOf = some ks → vs = ks.map kV
  | _, _, ks, .nil, h => by
    simp at h
    subst h
    rfl
  | _, d :: ds, ks, .cons q r, h => by
    rw [List.mapM_cons] at h
    cases e1 : keyOf d with
    | none => rw [e1] at h; cases h
    | some k =>
      rw [e1] at h
      cases e2 : ds.mapM keyOf with
      | none => rw [e2] at h; cases h
      | some ks' =>
        rw [e2] at h
        cases h
        rw [List.map_cons, keyOf_rep q e1, keysOf_rep r e2]
def dKOf : D → Sto → Option (List (Key × D))
  | .dK kvs, _ => some kvs
  | .ref n, S => match S[n]? with
    | some (some (.dK kvs)) => some kvs
    | _ => none
  | _, _ => none
def dTOf : D → Sto → Option (List (List Key × D))
  | .dT kvs, _ => some kvs
  | .ref n, S => match S[n]? with
    | some (some (.dT kvs)) => some kvs
    | _ => none
  | _, _ => none
theorem dK_at {ι : Ix} {S : Sto} {H : Hp} {v : V} {d : D} {kds : List (Key × D)} (R : Rel G ι S H) (r : Rep G ι (Lv ι S) H v d) (h : dKOf d S = some kds) :
    ∃ a kvs, v = .ref a ∧ H a = some (.dK kvs) ∧ kvs.map (·.1) = kds.map (·.1) ∧ Reps G ι (Lv ι S) H (kvs.map (·.2)) (kds.map (·.2)) := by
  cases r with
  | dK q k e r =>
    cases h
    exact ⟨_, _, rfl, q, e, r⟩
  | ref q =>
    rename_i a n
    unfold dKOf at h
    cases hs : S[n]? with
    | none =>
      simp only [hs] at h
      cases h
    | some o =>
      simp only [hs] at h
      cases o with
      | none => cases h
      | some cl =>
        cases cl with
        | dK es =>
          cases h
          obtain ⟨a', h1, vs, h2, h3⟩ := R.cell n _ hs
          rw [q] at h1
          cases h1
          exact ⟨a, vs, rfl, h2, h3⟩
        | _ => cases h
  | _ => cases h
theorem dT_at {ι : Ix} {S : Sto} {H : Hp} {v : V} {d : D} {kds : List (List Key × D)} (R : Rel G ι S H) (r : Rep G ι (Lv ι S) H v d) (h : dTOf d S = some kds) :
    ∃ a kvs, v = .ref a ∧ H a = some (.dT kvs) ∧ kvs.map (·.1) = kds.map (·.1) ∧ Reps G ι (Lv ι S) H (kvs.map (·.2)) (kds.map (·.2)) := by
  cases r with
  | dT q k e r =>
    cases h
    exact ⟨_, _, rfl, q, e, r⟩
  | ref q =>
    rename_i a n
    unfold dTOf at h
    cases hs : S[n]? with
    | none =>
      simp only [hs] at h
      cases h
    | some o =>
      simp only [hs] at h
      cases o with
      | none => cases h
      | some cl =>
        cases cl with
        | dT es =>
          cases h
          obtain ⟨a', h1, vs, h2, h3⟩ := R.cell n _ hs
          rw [q] at h1
          cases h1
          exact ⟨a, vs, rfl, h2, h3⟩
        | _ => cases h
  | _ => cases h
def dGet (x y : D) (S : Sto) : Option (Option D) := match dKOf x S with
  | some kds => (keyOf y).map (valD kds)
  | none => match dTOf x S with
    | some kds => (keysOf y).map (valD kds)
    | none => none
theorem dGet_at {ι : Ix} {S : Sto} {H : Hp} {v w : V} {d e : D} {o : Option D} (R : Rel G ι S H) (r : Rep G ι (Lv ι S) H v d) (s : Rep G ι (Lv ι S) H w e) (h : dGet d e S = some o) :
    ∃ a u, v = .ref a ∧ DGet H a w u ∧ (o = none → u = none) ∧ ∀ d', o = some d' → ∃ v', u = some v' ∧ Rep G ι (Lv ι S) H v' d' := by
  unfold dGet at h
  cases h1 : dKOf d S with
  | some kds =>
    simp only [h1] at h
    cases h2 : keyOf e with
    | none => rw [h2] at h; cases h
    | some k =>
      rw [h2] at h
      cases h
      obtain ⟨a, kvs, rfl, ha, he, hr⟩ := dK_at R r h1
      obtain ⟨a1, a2⟩ := valD_rep k he hr
      refine ⟨a, valV kvs k, rfl, ?_, a1, a2⟩
      rw [keyOf_rep s h2]
      exact DGet.k ha
  | none =>
    simp only [h1] at h
    cases h3 : dTOf d S with
    | none => simp only [h3] at h; cases h
    | some kds =>
      simp only [h3] at h
      cases h2 : keysOf e with
      | none => rw [h2] at h; cases h
      | some k =>
        rw [h2] at h
        cases h
        obtain ⟨a, kvs, rfl, ha, he, hr⟩ := dT_at R r h3
        obtain ⟨a1, a2⟩ := valD_rep k he hr
        cases e with
        | tup ds =>
          cases s with
          | tup q hl rs =>
            rw [keysOf_rep rs h2] at q
            exact ⟨a, valV kvs k, rfl, DGet.t ha q, a1, a2⟩
        | _ => cases h2
theorem ix_dict {X : Cx} (hu : X.A.units + 1 < cLine) : IxR X (fun x y H Q => ∃ a v, x = .ref a ∧ DGet H a y (some v) ∧ Q v H) := by
  intro value slice pins s σ H x y v u Q Iv rx ry h hs
  obtain ⟨a, z, rfl, g, q⟩ := h
  obtain rfl : v = Value.ref a := rx
  exact tail_any (dict_typeIs Iv g) PySem.F.slot_dict_getitem.lookup (d_getItem hu Iv g ry fun w' s3 I3 rw' => ⟨z, H, I3, rw', q⟩) hs
def rIxU (K : PySem.W.Frag) : R2 := fun x y H Q => rIx K x y H Q ∨ ∃ a v, x = .ref a ∧ DGet H a y (some v) ∧ Q v H
theorem ix_any (F : FamH Xs G E) (j : I) : IxR (Xs j) (rIxU G.K) := by
  have z := (ix_seq (X := Xs j)).or (ix_dict (F.hu j))
  rw [F.K j] at z
  exact z
def atD (ds : List D) (i : Int) : Option D := (ixN ds.length i).bind fun j => ds[j]?
theorem atD_rep {ι : Ix} {L : Addr → Prop} {H : Hp} {vs : List V} {ds : List D} {i : Int} {d : D} (r : Reps G ι L H vs ds) (h : atD ds i = some d) : ∃ v, atI vs i = some v ∧ Rep G ι L H v d := by
  unfold atD at h
  unfold atI
  rw [r.length]
  cases e : ixN ds.length i with
  | none => rw [e] at h; cases h
  | some j =>
    rw [e] at h
    exact r.get h
def p_ixD (x y : D) (S : Sto) : Res D := match dGet x y S with
  | some (some d) => .ok d S
  | _ => .stuck
def p_ixS (x y : D) (S : Sto) : Res D := match x, y with
  | .str z, .int i => if z.length ≤ 1000000 then match atI z.cps.toList i with
      | some c => .ok (.str ⟨#[c]⟩) S
      | none => .stuck else .stuck
  | x, y => p_ixD x y S
def p_ixL (ds : List D) (i : Int) (S : Sto) : Res D := match atD ds i with
  | some d => .ok d S
  | none => .stuck
def p_ix (x y : D) (S : Sto) : Res D := match y with
  | .int i => match itemsOf x S with
    | some ds => p_ixL ds i S
    | none => p_ixS x (.int i) S
  | y => p_ixD x y S
theorem snd_ix : SndR G (rIxU G.K) p_ix := fun E ι S H x y dx dy Q R rx ry q => by
  have dicts : Post G E ι S H (PV G Q) (p_ixD dx dy S) → rIxU G.K x y H Q := fun q0 => by
    unfold p_ixD at q0
    cases h1 : dGet dx dy S with
    | none => rw [h1] at q0; exact q0.elim
    | some o =>
      rw [h1] at q0
      cases o with
      | none => exact q0.elim
      | some d =>
        have q0 : Post G E ι S H (PV G Q) (.ok d S) := q0
        obtain ⟨a, u, rfl, g, _, hs⟩ := dGet_at R rx ry h1
        obtain ⟨v', rfl, rv⟩ := hs d rfl
        exact .inr ⟨a, v', rfl, g, Post.here R q0 v' rv⟩
  cases dy with
  | int i =>
    have q : Post G E ι S H (PV G Q) (match itemsOf dx S with
      | some ds => p_ixL ds i S
      | none => p_ixS dx (.int i) S) := q
    cases h1 : itemsOf dx S with
    | none =>
      rw [h1] at q
      have q : Post G E ι S H (PV G Q) (p_ixS dx (.int i) S) := q
      cases dx with
      | str z =>
        have q0 : Post G E ι S H (PV G Q) (if z.length ≤ 1000000 then match atI z.cps.toList i with
          | some c => .ok (.str ⟨#[c]⟩) S
          | none => .stuck else .stuck) := q
        split at q0
        · rename_i hz
          cases h1 : atI z.cps.toList i with
          | none => rw [h1] at q0; exact q0.elim
          | some c =>
            rw [h1] at q0
            have q0 : Post G E ι S H (PV G Q) (.ok (.str ⟨#[c]⟩) S) := q0
            exact .inl (.inr (.inr ⟨z, i, c, rx.str_of, ry.int_of, Nat.le_trans hz (by rw [sizeLine_eq]; decide), h1, Post.here R q0 _ (.str _)⟩))
        · exact q0.elim
      | _ => exact dicts q
    | some ds =>
      rw [h1] at q
      have q : Post G E ι S H (PV G Q) (match atD ds i with
        | some d => .ok d S
        | none => .stuck) := q
      cases h2 : atD ds i with
      | none => rw [h2] at q; exact q.elim
      | some d =>
        rw [h2] at q
        have q : Post G E ι S H (PV G Q) (.ok d S) := q
        obtain ⟨a, vs, rfl, ha, ra⟩ := items_at R rx h1
        obtain ⟨v, hv, rv⟩ := atD_rep ra h2
        have q1 := Post.here R q v rv
        rcases ha with ha | ha
        · exact .inl (.inl ⟨a, vs, i, v, rfl, ry.int_of, ha, hv, q1⟩)
        · exact .inl (.inr (.inl ⟨a, vs, i, v, rfl, ry.int_of, ha, hv, q1⟩))
  | _ => exact dicts q
theorem de_ix (F : FamH Xs G E) {x y : Expr} {pos : Pos} {a b : ECode} (ha : DE Xs G E x a) (hb : DE Xs G E y b) (hs : PlainIx y) : DE Xs G E (.Subscript x y pos) (c_op p_ix a b) := by
  obtain ⟨ta, pa, sa⟩ := ha
  obtain ⟨tb, pb, sb⟩ := hb
  exact ⟨_, fun j => pe_ix (ix_any F j) (pa j) (pb j) hs, snd_op snd_ix sa sb⟩
def DP (Xs : I → Cx) (G : Gx) (E : WK) (e : Option Expr) (c : Env → Sto → Res (Option Int)) : Prop := ∃ t : TO, (∀ j, PO (Xs j) e t) ∧ ∀ ι S H σ ρ Q, Rel G ι S H → REnv G ι S H σ ρ → Post G (E σ) ι S H (fun o _ _ H' => Q o H') (c ρ S) → t σ H Q
def c_no : Env → Sto → Res (Option Int) := fun _ S => .ok none S
def c_part (a : ECode) : Env → Sto → Res (Option Int) := fun ρ S => (a ρ S).bind fun d S1 => match d with
  | .int i => .ok (some i) S1
  | _ => .stuck
theorem dp_none : DP Xs G E none c_no := ⟨_, fun _ => po_none, fun ι S H σ ρ Q R e q => Post.here R q⟩
theorem dp_some {e : Expr} {a : ECode} (ha : DE Xs G E e a) : DP Xs G E (some e) (c_part a) := by
  obtain ⟨ta, pa, sa⟩ := ha
  refine ⟨_, fun j => po_some (pa j), fun ι S H σ ρ Q R e q => ?_⟩
  refine sa.go R e q fun d S1 ι1 H1 v x1 R1 e1 r1 q1 => ?_
  cases d with
  | int i => exact ⟨i, r1.int_of, Post.here R1 q1⟩
  | _ => exact q1.elim
def cutD (ds : List D) (lo hi : Option Int) : List D := (ds.drop (HT.sIx ds.length 0 lo)).take (HT.sIx ds.length ds.length hi - HT.sIx ds.length 0 lo)
theorem cutD_rep {ι : Ix} {L : Addr → Prop} {H : Hp} {vs : List V} {ds : List D} (r : Reps G ι L H vs ds) (lo hi : Option Int) : Reps G ι L H (cutV vs lo hi) (cutD ds lo hi) := by
  unfold cutV cutD
  rw [r.length]
  exact (r.drop _).take _
def whole (ds : List D) (lo hi : Option Int) : Bool := decide (HT.sIx ds.length 0 lo = 0 ∧ HT.sIx ds.length ds.length hi = ds.length)
theorem cutD_whole {ds : List D} {lo hi : Option Int} (h : whole ds lo hi = true) : cutD ds lo hi = ds := by
  obtain ⟨h1, h2⟩ := of_decide_eq_true h
  unfold cutD
  rw [h1, h2]
  simp
def p_slL (b : Bool) (x : D) (lo hi : Option Int) (S : Sto) : Res D := match x with
  | .lst ds => p_lst b (cutD ds lo hi) S
  | .scr ds => p_lst b (cutD ds lo hi) S
  | x => match lstOf x S with
    | some ds => p_lst b (cutD ds lo hi) S
    | none => .stuck
def p_sl (b : Bool) (x : D) (lo hi : Option Int) (S : Sto) : Res D := match x with
  | .tup ds => .ok (.tup (cutD ds lo hi)) S
  | .wtp ds => if whole ds lo hi = true then .ok (.wtp ds) S else .ok (.tup (cutD ds lo hi)) S
  | .str z => if z.length ≤ 1000000 then .ok (.str (cutS z lo hi)) S else .stuck
  | x => p_slL b x lo hi S
def rSlU (K : PySem.W.Frag) : V → Option Int → Option Int → Hp → VK → Prop := fun x lo hi H Q => rSlL K x lo hi H Q ∨ rSlA K x lo hi H Q ∨ rSlS x lo hi H Q
theorem sl_any {X : Cx} : SlR X (rSlU X.K) := sl_list.or (sl_tupA.or sl_str)
theorem snd_sl {E0 : XK} (b : Bool) {ι : Ix} {S : Sto} {H : Hp} {x : V} {dx : D} {lo hi : Option Int} {Q : VK} (R : Rel G ι S H) (rx : Rep G ι (Lv ι S) H x dx) (q : Post G E0 ι S H (PV G Q) (p_sl b dx lo hi S)) : rSlU G.K x lo hi H Q := by
  have lists : ∀ ds, (lstOf dx S = some ds ∨ dx = .scr ds) → Post G E0 ι S H (PV G Q) (p_lst b (cutD ds lo hi) S) → rSlU G.K x lo hi H Q := fun ds hd q => by
    have hi' : itemsOf dx S = some ds ∧ ∀ e, dx ≠ .tup e := by
      rcases hd with hd | hd
      · cases dx <;> first | (cases hd; exact ⟨rfl, fun _ h => nomatch h⟩) | exact ⟨hd, fun _ h => nomatch h⟩ | cases hd
      · subst hd
        exact ⟨rfl, fun _ h => nomatch h⟩
    obtain ⟨hi', ht⟩ := hi'
    have hl : ∃ a vs, x = .ref a ∧ SqL G.K H a vs ∧ Reps G ι (Lv ι S) H vs ds := by
      rcases hd with hd | hd
      · obtain ⟨a, vs, h1, h2, h3⟩ := lst_at R rx hd
        exact ⟨a, vs, h1, SqL.of h2, h3⟩
      · subst hd
        cases rx with
        | scr q r =>
          rename_i a vs
          refine ⟨a, vs, rfl, ?_, r⟩
          rcases q with q | q
          · exact .inl q.1
          · exact .inr q
    obtain ⟨a, vs, rfl, ha, ra⟩ := hl
    exact .inl ⟨a, vs, rfl, ha, (p_lst_ok R (cutD_rep ra lo hi) q).2⟩
  have tups : ∀ a vs ds, x = .ref a → SqT G.K H a vs → Reps G ι (Lv ι S) H vs ds → (whole ds lo hi = true → Q (.ref a) H) → (¬ whole ds lo hi = true → Post G E0 ι S H (PV G Q) (.ok (.tup (cutD ds lo hi)) S)) → rSlU G.K x lo hi H Q := fun a vs ds ex hs rs q1 q2 => by
    refine .inr (.inl ⟨a, vs, ex, hs, fun h => q1 ?_, fun h p hp => ?_⟩)
    · rw [rs.length] at h
      exact decide_eq_true h
    · rw [rs.length] at h
      have q3 := q2 fun z => h (of_decide_eq_true z)
      obtain ⟨x', R', r'⟩ := new_tup R hp (cutD_rep rs lo hi)
      exact q3 _ _ x' R' _ r'
  cases dx with
  | tup ds =>
    have q : Post G E0 ι S H (PV G Q) (.ok (.tup (cutD ds lo hi)) S) := q
    obtain ⟨a, vs, rfl, hs, rs⟩ := rx.sqT
    refine tups a vs ds rfl hs rs (fun h => ?_) fun _ => q
    rw [cutD_whole h] at q
    exact Post.here R q _ rx
  | wtp ds =>
    have q : Post G E0 ι S H (PV G Q) (if whole ds lo hi = true then .ok (.wtp ds) S else .ok (.tup (cutD ds lo hi)) S) := q
    cases rx with
    | wtp hw r =>
      rename_i a vs
      refine tups a vs ds rfl (.inr hw) r (fun h => ?_) fun h => ?_
      · rw [if_pos h] at q
        exact Post.here R q _ (.wtp hw r)
      · rw [if_neg h] at q
        exact q
  | str z =>
    have q : Post G E0 ι S H (PV G Q) (if z.length ≤ 1000000 then .ok (.str (cutS z lo hi)) S else .stuck) := q
    split at q
    · rename_i hz
      exact .inr (.inr ⟨z, rx.str_of, Nat.le_trans hz (by rw [sizeLine_eq]; decide), Post.here R q _ (.str _)⟩)
    · exact q.elim
  | lst ds => exact lists ds (.inl rfl) q
  | scr ds => exact lists ds (.inr rfl) q
  | ref n =>
    have q : Post G E0 ι S H (PV G Q) (match lstOf (.ref n) S with
      | some ds => p_lst b (cutD ds lo hi) S
      | none => .stuck) := q
    cases h1 : lstOf (.ref n) S with
    | none => rw [h1] at q; exact q.elim
    | some ds =>
      rw [h1] at q
      exact lists ds (.inl h1) q
  | _ => exact q.elim
def c_sl (b : Bool) (a : ECode) (l h : Env → Sto → Res (Option Int)) : ECode := fun ρ S => (a ρ S).bind fun x S1 => (l ρ S1).bind fun lo S2 => (h ρ S2).bind fun hi S3 => p_sl b x lo hi S3
theorem de_sl (b : Bool) {e : Expr} {lo hi : Option Expr} {p2 pos : Pos} {a : ECode} {l h : Env → Sto → Res (Option Int)} (ha : DE Xs G E e a) (hl : DP Xs G E lo l) (hh : DP Xs G E hi h) (F : Fam Xs G E kk) : DE Xs G E (.Subscript e (.Slice lo hi none p2) pos) (c_sl b a l h) := by
  obtain ⟨ta, pa, sa⟩ := ha
  obtain ⟨tl, pl, sl⟩ := hl
  obtain ⟨th, ph, sh⟩ := hh
  refine ⟨tSl (rSlU G.K) ta tl th, fun j => by have z := pe_slice (X := Xs j) (p2 := p2) (pos := pos) sl_any (pa j) (pl j) (ph j); rw [F.K j] at z; exact z, fun ι S H σ ρ Q R e q => ?_⟩
  refine sa.go R e q fun d S1 ι1 H1 v x1 R1 e1 r1 q1 => ?_
  refine sl ι1 S1 H1 σ ρ _ R1 e1 (Post.bind q1 fun lo S2 ι2 H2 x2 R2 q2 => ?_)
  refine sh ι2 S2 H2 σ ρ _ R2 (e1.mono x2) (Post.bind q2 fun hi S3 ι3 H3 x3 R3 q3 => ?_)
  exact snd_sl b R3 ((r1.mono x2).mono x3) q3
def c_rev (b : Bool) (a : ECode) : ECode := fun ρ S => (a ρ S).bind fun x S1 => match x with
  | .tup ds => p_tup ds.reverse S1
  | .wtp ds => p_tup ds.reverse S1
  | x => match itemsOf x S1 with
    | some ds => p_lst b ds.reverse S1
    | none => .stuck
theorem lists_at {ι : Ix} {S : Sto} {H : Hp} {v : V} {d : D} {ds : List D} (R : Rel G ι S H) (r : Rep G ι (Lv ι S) H v d) (h : itemsOf d S = some ds) (h1 : ∀ e, d ≠ .tup e) (h2 : ∀ e, d ≠ .wtp e) : ∃ a vs, v = .ref a ∧ SqL G.K H a vs ∧ Reps G ι (Lv ι S) H vs ds := by
  cases d with
  | tup _ => exact absurd rfl (h1 _)
  | wtp _ => exact absurd rfl (h2 _)
  | scr es =>
    cases h
    cases r with
    | scr q r =>
      rename_i a vs
      refine ⟨a, vs, rfl, ?_, r⟩
      rcases q with q | q
      · exact .inl q.1
      · exact .inr q
  | lst es =>
    obtain ⟨a, vs, h1, h2, h3⟩ := lst_at R r (show lstOf (.lst es) S = some ds from h)
    exact ⟨a, vs, h1, SqL.of h2, h3⟩
  | ref n =>
    obtain ⟨a, vs, h1, h2, h3⟩ := lst_at R r (show lstOf (.ref n) S = some ds from h)
    exact ⟨a, vs, h1, SqL.of h2, h3⟩
  | _ => cases h
theorem de_rev (b : Bool) (F : Fam Xs G E kk) {e : Expr} {k : Nat} {p1 p2 p3 pos : Pos} {a : ECode} (ha : DE Xs G E e a) : DE Xs G E (.Subscript e (.Slice none none (some (.UnaryOp .USub (.Constant (.int 1) k p1) p2)) p3) pos) (c_rev b a) := by
  obtain ⟨ta, pa, sa⟩ := ha
  refine ⟨tRevU G.K ta, fun j => by have z := pe_revU (X := Xs j) (k := k) (p1 := p1) (p2 := p2) (p3 := p3) (pos := pos) (pa j); rw [F.K j] at z; exact z, fun ι S H σ ρ Q R e q => ?_⟩
  refine sa.go R e q fun d S1 ι1 H1 v x1 R1 e1 r1 q1 => ?_
  have main : ∀ ds, itemsOf d S1 = some ds → (∀ e, d ≠ .tup e) → (∀ e, d ≠ .wtp e) → Post G (E σ) ι1 S1 H1 (PV G Q) (p_lst b ds.reverse S1) → (∃ a xs, v = .ref a ∧ SqL G.K H1 a xs ∧ ∀ p, H1 p = none → Q (.ref p) (upd H1 p (.lst xs.reverse))) ∨ (∃ a xs, v = .ref a ∧ SqT G.K H1 a xs ∧ ∀ p, H1 p = none → Q (.ref p) (upd H1 p (.tup xs.reverse))) := fun ds h h1 h2 q => by
    obtain ⟨a, vs, rfl, hs, rs⟩ := lists_at R1 r1 h h1 h2
    exact .inl ⟨a, vs, rfl, hs, (p_lst_ok R1 rs.rev q).2⟩
  have gen : (∀ e, d ≠ .tup e) → (∀ e, d ≠ .wtp e) → Post G (E σ) ι1 S1 H1 (PV G Q) (match itemsOf d S1 with
    | some ds => p_lst b ds.reverse S1
    | none => .stuck) → (∃ a xs, v = .ref a ∧ SqL G.K H1 a xs ∧ ∀ p, H1 p = none → Q (.ref p) (upd H1 p (.lst xs.reverse))) ∨ (∃ a xs, v = .ref a ∧ SqT G.K H1 a xs ∧ ∀ p, H1 p = none → Q (.ref p) (upd H1 p (.tup xs.reverse))) := fun h1 h2 q => by
    cases h : itemsOf d S1 with
    | none => rw [h] at q; exact q.elim
    | some ds =>
      rw [h] at q
      exact main ds h h1 h2 q
  cases d with
  | tup ds =>
    cases r1 with
    | tup h hl rs => exact .inr ⟨_, _, rfl, SqT.of h, (p_tup_ok R1 rs.rev q1).2⟩
  | wtp ds =>
    cases r1 with
    | wtp h rs => exact .inr ⟨_, _, rfl, .inr h, (p_tup_ok R1 rs.rev q1).2⟩
  | _ => exact gen (fun _ h => nomatch h) (fun _ h => nomatch h) q1
end
section
variable {I : Type} {Xs : I → Cx} {G : Gx} {E : WK} {kk : Nat}
def c_cb (p : List D → Sto → Res D) (a : ACode) : ECode := fun ρ S => (a ρ S).bind p
theorem snd_cb {r : List V → Hp → VK → Prop} {p : List D → Sto → Res D} {t : TA} {a : ACode} (hr : SndC G r p) (sa : SndA G E t a) : Snd G E (tCB r t) (c_cb p a) := fun ι S H σ ρ Q R e q =>
  sa.go R e q fun ds S1 ι1 H1 vs x1 R1 e1 r1 q1 => hr (E σ) ι1 S1 H1 vs ds Q R1 r1 q1
theorem de_callB (F : FamH Xs G E) {id : String} {x : Str} {p pos : Pos} {e : Expr} {es : List Expr} {r : List V → Hp → VK → Prop} {m : List D → Sto → Res D} {a : ACode} (hc : ∀ j, CallR (Xs j) (.builtin id) r) (hr : SndC G r m) (ha : DA Xs G E (e :: es) a)
    (hg : ∀ j, Gl (Xs j) x) (hm : G.mg x = none) (hv : bootBuiltins x = some (.builtin id)) (hn : x ≠ "__name__") (hdb : (x == ("__debug__" : Str)) = false)
    (he : ∀ j, starEach (e :: es) (Xs j).env = (false, eval e (Xs j).env) :: starEach es (Xs j).env) (hpl : ∀ j, (backTo pos (starEach es (Xs j).env)).any (·.1) = false) : DE Xs G E (.Call (.Name x p) (e :: es) [] pos) (c_cb m a) := by
  obtain ⟨t, pa, sa⟩ := ha
  exact ⟨_, fun j => pe_callB (hc j) (hg j) (by rw [F.mg j]; exact hm) hv (pa j) hn hdb (he j) (hpl j), snd_cb hr sa⟩
theorem de_callTy (F : FamH Xs G E) {T : String} {x : Str} {p pos : Pos} {e : Expr} {es : List Expr} {r : List V → Hp → VK → Prop} {m : List D → Sto → Res D} {a : ACode} (hc : ∀ j, CallR (Xs j) (.type T) r) (hr : SndC G r m) (ha : DA Xs G E (e :: es) a)
    (hg : ∀ j, Gl (Xs j) x) (hm : G.mg x = none) (hv : bootBuiltins x = some (.type T)) (hn : x ≠ "__name__") (hdb : (x == ("__debug__" : Str)) = false)
    (he : ∀ j, starEach (e :: es) (Xs j).env = (false, eval e (Xs j).env) :: starEach es (Xs j).env) (hpl : ∀ j, (backTo pos (starEach es (Xs j).env)).any (·.1) = false) : DE Xs G E (.Call (.Name x p) (e :: es) [] pos) (c_cb m a) := by
  obtain ⟨t, pa, sa⟩ := ha
  exact ⟨_, fun j => pe_callTy (hc j) (hg j) (by rw [F.mg j]; exact hm) hv (pa j) hn hdb (he j) (hpl j), snd_cb hr sa⟩
def lenOf (d : D) (S : Sto) : Option Nat := match itemsOf d S with
  | some ds => some ds.length
  | none => match dKOf d S with
    | some kds => some kds.length
    | none => match dTOf d S with
      | some kds => some kds.length
      | none => none
def p_len (ds : List D) (S : Sto) : Res D := match ds with
  | [.str z] => if z.length ≤ 1000000 then .ok (.int z.length) S else .stuck
  | [d] => match lenOf d S with
    | some n => .ok (.int n) S
    | none => .stuck
  | _ => .stuck
def rLenU (K : PySem.W.Frag) : List V → Hp → VK → Prop := fun xs H Q => (∃ p ys, xs = [.ref p] ∧ (SqL K H p ys ∨ SqT K H p ys) ∧ Q (.int ys.length) H) ∨ (∃ z, xs = [.str z] ∧ z.length ≤ sizeLine ∧ Q (.int z.length) H) ∨ (∃ a kvs, xs = [V.ref a] ∧ H a = some (.dK kvs) ∧ Q (.int kvs.length) H) ∨ rLenT xs H Q
theorem call_lenU {X : Cx} : CallR X (.builtin "len") (rLenU X.K) := call_len_seq.or (call_len_str.or (call_lenD.or call_len_dT))
theorem Reps.one {ι : Ix} {L : Addr → Prop} {H : Hp} {vs : List V} {d : D} (r : Reps G ι L H vs [d]) : ∃ v, vs = [v] ∧ Rep G ι L H v d := by
  cases r with
  | cons q r =>
    cases r
    exact ⟨_, rfl, q⟩
theorem Reps.two {ι : Ix} {L : Addr → Prop} {H : Hp} {vs : List V} {d e : D} (r : Reps G ι L H vs [d, e]) : ∃ v w, vs = [v, w] ∧ Rep G ι L H v d ∧ Rep G ι L H w e := by
  cases r with
  | cons q r =>
    obtain ⟨w, rfl, s⟩ := r.one
    exact ⟨_, _, rfl, q, s⟩
theorem snd_len : SndC G (rLenU G.K) p_len := fun E ι S H xs ds Q R r q => by
  have main : ∀ d, ds = [d] → Post G E ι S H (PV G Q) (match lenOf d S with
    | some n => .ok (.int n) S
    | none => .stuck) → rLenU G.K xs H Q := fun d e q0 => by
    clear q
    have q := q0
    clear q0
    subst e
    obtain ⟨v, rfl, rv⟩ := r.one
    unfold lenOf at q
    cases h1 : itemsOf d S with
    | some es =>
      rw [h1] at q
      have q : Post G E ι S H (PV G Q) (.ok (.int es.length) S) := q
      obtain ⟨a, vs, rfl, ha, ra⟩ := items_at R rv h1
      refine .inl ⟨a, vs, rfl, ha, ?_⟩
      rw [ra.length]
      exact Post.here R q _ (.int _)
    | none =>
      rw [h1] at q
      cases h2 : dKOf d S with
      | some kds =>
        rw [h2] at q
        have q : Post G E ι S H (PV G Q) (.ok (.int kds.length) S) := q
        obtain ⟨a, kvs, rfl, ha, he, _⟩ := dK_at R rv h2
        refine .inr (.inr (.inl ⟨a, kvs, rfl, ha, ?_⟩))
        rw [len_fst he]
        exact Post.here R q _ (.int _)
      | none =>
        rw [h2] at q
        cases h3 : dTOf d S with
        | some kds =>
          rw [h3] at q
          have q : Post G E ι S H (PV G Q) (.ok (.int kds.length) S) := q
          obtain ⟨a, kvs, rfl, ha, he, _⟩ := dT_at R rv h3
          refine .inr (.inr (.inr ⟨a, kvs, rfl, ha, ?_⟩))
          rw [len_fst he]
          exact Post.here R q _ (.int _)
        | none =>
          rw [h3] at q
          exact q.elim
  cases ds with
  | nil => exact q.elim
  | cons d es =>
    cases es with
    | nil =>
      cases d with
      | str z =>
        have q : Post G E ι S H (PV G Q) (if z.length ≤ 1000000 then .ok (.int z.length) S else .stuck) := q
        split at q
        · rename_i hz
          obtain ⟨v, rfl, rv⟩ := r.one
          refine .inr (.inl ⟨z, by rw [rv.str_of], Nat.le_trans hz (by rw [sizeLine_eq]; decide), Post.here R q _ (.int _)⟩)
        · exact q.elim
      | _ => exact main _ rfl q
    | cons e es => cases d <;> exact q.elim
def p_list (b : Bool) (ds : List D) (S : Sto) : Res D := match ds with
  | [d] => match itemsOf d S with
    | some es => p_lst b es S
    | none => .stuck
  | _ => .stuck
def rListU (K : PySem.W.Frag) : List V → Hp → VK → Prop := fun xs H Q => ∃ p ys, xs = [.ref p] ∧ (SqL K H p ys ∨ SqT K H p ys) ∧ ∀ l, H l = none → Q (.ref l) (upd H l (.lst ys))
theorem snd_list (b : Bool) : SndC G (rListU G.K) (p_list b) := fun E ι S H xs ds Q R r q => by
  cases ds with
  | nil => exact q.elim
  | cons d es =>
    cases es with
    | nil =>
      obtain ⟨v, rfl, rv⟩ := r.one
      have q : Post G E ι S H (PV G Q) (match itemsOf d S with
        | some es => p_lst b es S
        | none => .stuck) := q
      cases h1 : itemsOf d S with
      | none => rw [h1] at q; exact q.elim
      | some es =>
        rw [h1] at q
        obtain ⟨a, vs, rfl, ha, ra⟩ := items_at R rv h1
        exact ⟨a, vs, rfl, ha, (p_lst_ok R ra q).2⟩
    | cons e es => exact q.elim
def p_tuple (ds : List D) (S : Sto) : Res D := match ds with
  | [.tup es] => .ok (.tup es) S
  | [.wtp es] => .ok (.wtp es) S
  | [d] => match itemsOf d S with
    | some es => p_tup es S
    | none => .stuck
  | _ => .stuck
def p_i2 (f : Int → Int → D) (ds : List D) (S : Sto) : Res D := match ds with
  | [.int i, .int j] => .ok (f i j) S
  | _ => .stuck
def p_min2 := p_i2 fun i j => .int (if j < i then j else i)
def p_max2 := p_i2 fun i j => .int (if j > i then j else i)
def blOf : D → Option Bool
  | .bl b => some b
  | _ => none
theorem Reps.bls {ι : Ix} {L : Addr → Prop} {H : Hp} : ∀ {vs : List V} {ds : List D} {ns : List Bool}, Reps G ι L H vs ds → ds.mapM blOf = some ns → vs = ns.map V.bl
  | _, _, ns, .nil, h => by
    simp at h
    subst h
    rfl
  | _, d :: ds, ns, .cons q r, h => by
    rw [List.mapM_cons] at h
    cases d with
    | bl i =>
      cases e2 : ds.mapM blOf with
      | none => rw [e2] at h; cases h
      | some ks' =>
        rw [e2] at h
        cases h
        rw [List.map_cons, q.bl_of, Reps.bls r e2]
    | _ => cases h
def listOf : D → Sto → Option (List D)
  | .tup _, _ => none
  | .wtp _, _ => none
  | d, S => itemsOf d S
theorem list_at {ι : Ix} {S : Sto} {H : Hp} {v : V} {d : D} {ds : List D} (R : Rel G ι S H) (r : Rep G ι (Lv ι S) H v d) (h : listOf d S = some ds) : ∃ a vs, v = .ref a ∧ SqL G.K H a vs ∧ Reps G ι (Lv ι S) H vs ds := by
  cases d with
  | tup _ => cases h
  | wtp _ => cases h
  | _ => exact lists_at R r h (fun _ h => nomatch h) (fun _ h => nomatch h)
def p_bls (f : List Bool → D) (ds : List D) (S : Sto) : Res D := match ds with
  | [d] => match (listOf d S).bind (·.mapM blOf) with
    | some ns => .ok (f ns) S
    | none => .stuck
  | _ => .stuck
theorem snd_bls {f : List Bool → V} {g : List Bool → D} (h : ∀ i ι L H, Rep G ι L H (f i) (g i)) : SndC G (fun vs H Q => ∃ (a : Addr) (ns : List Bool), vs = [V.ref a] ∧ SqL G.K H a (ns.map V.bl) ∧ Q (f ns) H) (p_bls g) := fun E ι S H xs ds Q R r q => by
  unfold p_bls at q
  split at q
  · rename_i d
    obtain ⟨v, rfl, rv⟩ := r.one
    cases h1 : listOf d S with
    | none => rw [h1] at q; exact q.elim
    | some es =>
      rw [h1] at q
      cases h2 : es.mapM blOf with
      | none => simp only [Option.bind_some, h2] at q; exact q.elim
      | some ns =>
        simp only [Option.bind_some, h2] at q
        obtain ⟨a, vs, rfl, ha, ra⟩ := list_at R rv h1
        rw [ra.bls h2] at ha
        exact ⟨a, ns, rfl, ha, Post.here R q _ (h _ _ _ _)⟩
  · exact q.elim
def p_all := p_bls fun ns => .bl (ns.all id)
theorem snd_all : SndC G (rAll G.K) p_all := snd_bls fun _ _ _ _ => .bl _
def c_meth (g : D → Sto → Bool) (p : D → List D → Sto → Res D) (o : ECode) (a : ACode) : ECode := fun ρ S => (o ρ S).bind fun x S1 => if g x S1 = true then (a ρ S1).bind fun ds S2 => p x ds S2 else .stuck
theorem snd_meth {T : String} {r : V → List V → Hp → VK → Prop} {g : D → Sto → Bool} {p : D → List D → Sto → Res D} {to : TE} {t : TA} {o : ECode} {a : ACode} (hr : SndM G r p) (hg : ∀ ι S H x d, Rel G ι S H → Rep G ι (Lv ι S) H x d → g d S = true → tyV G.K T x H)
    (so : Snd G E to o) (sa : SndA G E t a) : Snd G E (tBM G.K T r to t) (c_meth g p o a) := fun ι S H σ ρ Q R e q => by
  refine so.go R e q fun d S1 ι1 H1 v x1 R1 e1 r1 q1 => ?_
  by_cases hd : g d S1 = true
  · rw [if_pos hd] at q1
    refine ⟨hg ι1 S1 H1 v d R1 r1 hd, ?_⟩
    refine sa.go R1 e1 q1 fun ds S2 ι2 H2 vs x2 R2 e2 r2 q2 => ?_
    exact hr (E σ) ι2 S2 H2 v vs d ds Q R2 (r1.mono x2) r2 q2
  · rw [if_neg hd] at q1
    exact q1.elim
theorem de_meth (F : FamH Xs G E) {T id : String} {name : Str} {apos cpos : Pos} {o e : Expr} {es : List Expr} {r : V → List V → Hp → VK → Prop} {g : D → Sto → Bool} {p : D → List D → Sto → Res D} {co : ECode} {a : ACode} (pa : PlainAttrs T) (slot : Slot T name id) (hty : typeOf (.builtin id) = pure (.type "method_descriptor"))
    (hm : ∀ j, MtR (Xs j) id r) (hr : SndM G r p) (hg : ∀ ι S H x d, Rel G ι S H → Rep G ι (Lv ι S) H x d → g d S = true → tyV G.K T x H) (ho : DE Xs G E o co) (ha : DA Xs G E (e :: es) a)
    (hbase : ∀ j, attributeBase o name (Xs j).env (eval o (Xs j).env) = eval o (Xs j).env)
    (hfew : ∀ j, ((backTo cpos (starEach (e :: es) (Xs j).env)).all (fun x => !x.1) && (backToKw cpos (keywordEach [] (Xs j).env)).all (fun x => x.1.isSome)
      && decide ((e :: es).length + ([] : List Keyword).length + (if ([] : List Keyword).isEmpty then 0 else 1) < 30)) = true)
    (hline : (apos.endLine == cpos.line) = true) (hs : ∀ j, starEach (e :: es) (Xs j).env = (false, eval e (Xs j).env) :: starEach es (Xs j).env) (hplain : ∀ j, (backTo cpos (starEach es (Xs j).env)).any (·.1) = false) :
    DE Xs G E (.Call (.Attribute o name apos) (e :: es) [] cpos) (c_meth g p co a) := by
  obtain ⟨to, po, so⟩ := ho
  obtain ⟨t, pa', sa⟩ := ha
  exact ⟨tBM G.K T r to t, fun j => by have z := pe_bm (X := Xs j) pa slot hty (hm j) (po j) (pa' j) (hbase j) (hfew j) hline (hs j) (hplain j); rw [F.K j] at z; exact z, snd_meth hr hg so sa⟩
theorem de_meth0 (F : FamH Xs G E) {T id : String} {name : Str} {apos cpos : Pos} {o : Expr} {r : V → List V → Hp → VK → Prop} {g : D → Sto → Bool} {p : D → List D → Sto → Res D} {co : ECode} (pa : PlainAttrs T) (slot : Slot T name id) (hty : typeOf (.builtin id) = pure (.type "method_descriptor"))
    (hm : ∀ j, MtR (Xs j) id r) (hr : SndM G r p) (hg : ∀ ι S H x d, Rel G ι S H → Rep G ι (Lv ι S) H x d → g d S = true → tyV G.K T x H) (ho : DE Xs G E o co)
    (hbase : ∀ j, attributeBase o name (Xs j).env (eval o (Xs j).env) = eval o (Xs j).env) (hline : (apos.endLine == cpos.line) = true) :
    DE Xs G E (.Call (.Attribute o name apos) [] [] cpos) (c_meth g p co c_nil) := by
  obtain ⟨to, po, so⟩ := ho
  refine ⟨tBM0 G.K T r to, fun j => by have z := pe_bm0 (X := Xs j) pa slot hty (hm j) (po j) (hbase j) hline; rw [F.K j] at z; exact z, fun ι S H σ ρ Q R e q => ?_⟩
  refine so.go R e q fun d S1 ι1 H1 v x1 R1 e1 r1 q1 => ?_
  by_cases hd : g d S1 = true
  · rw [if_pos hd] at q1
    exact ⟨hg ι1 S1 H1 v d R1 r1 hd, hr (E σ) ι1 S1 H1 v [] d [] Q R1 r1 .nil q1⟩
  · rw [if_neg hd] at q1
    exact q1.elim
def isL (d : D) (S : Sto) : Bool := (lstOf d S).isSome
theorem isL_ty {ι : Ix} {S : Sto} {H : Hp} {x : V} {d : D} (R : Rel G ι S H) (r : Rep G ι (Lv ι S) H x d) (h : isL d S = true) : tyV G.K "list" x H := by
  unfold isL at h
  cases e : lstOf d S with
  | none => rw [e] at h; cases h
  | some ds =>
    obtain ⟨a, vs, rfl, ha, _⟩ := lst_at R r e
    exact .inl ⟨rfl, vs, SqL.of ha⟩
end
section
variable {I : Type} {Xs : I → Cx} {G : Gx} {E : WK} {kk : Nat}
def cellOf (S : Sto) (n : Nat) : Option Cell := match S[n]? with
  | some (some c) => some c
  | _ => none
theorem cellOf_eq {S : Sto} {n : Nat} {c : Cell} (h : cellOf S n = some c) : S[n]? = some (some c) := by
  unfold cellOf at h
  split at h
  · rename_i e
    rw [e]
    cases h
    rfl
  · cases h
theorem wr_cell {ι : Ix} {S : Sto} {H : Hp} {a : Addr} {n : Nat} {c0 c : Cell} {o : HO} (R : Rel G ι S H) (hn : ι.l[n]? = some a) (hs : cellOf S n = some c0)
    (hc : Ext ι S H ι (S.set n (some c)) (upd H a o) → CellIs G ι (Lv ι (S.set n (some c))) (upd H a o) a c) : Ext ι S H ι (S.set n (some c)) (upd H a o) ∧ Rel G ι (S.set n (some c)) (upd H a o) := by
  have x : Ext ι S H ι (S.set n (some c)) (upd H a o) := Ext.write hn (cellOf_eq hs)
  exact ⟨x, R.write hn (cellOf_eq hs) (hc x)⟩
theorem wr_lst {ι : Ix} {S : Sto} {H : Hp} {a : Addr} {n : Nat} {c0 : Cell} {vs : List V} {ds : List D} (R : Rel G ι S H) (hn : ι.l[n]? = some a) (hs : cellOf S n = some c0) (r : Reps G ι (Lv ι S) H vs ds) :
    Ext ι S H ι (S.set n (some (.lst ds))) (upd H a (.lst vs)) ∧ Rel G ι (S.set n (some (.lst ds))) (upd H a (.lst vs)) := wr_cell R hn hs fun x => ⟨vs, upd_same, r.mono x⟩
theorem ref_cell {ι : Ix} {S : Sto} {H : Hp} {v : V} {n : Nat} {c : Cell} (R : Rel G ι S H) (r : Rep G ι (Lv ι S) H v (.ref n)) (hs : cellOf S n = some c) : ∃ a, v = .ref a ∧ ι.l[n]? = some a ∧ CellIs G ι (Lv ι S) H a c := by
  cases r with
  | ref q =>
    obtain ⟨a, h1, h2⟩ := R.cell n c (cellOf_eq hs)
    rw [q] at h1
    cases h1
    exact ⟨_, rfl, q, h2⟩
def p_append (x : D) (ds : List D) (S : Sto) : Res D := match x, ds with
  | .ref n, [d] => match cellOf S n with
    | some (.lst es) => if fits (es.length + 1) = true then .ok .non (S.set n (some (.lst (es ++ [d])))) else .stuck
    | _ => .stuck
  | _, _ => .stuck
theorem snd_append : SndM G rAppend p_append := fun E ι S H x xs dx ds Q R rx rs q => by
  unfold p_append at q
  split at q
  · rename_i n d
    split at q
    · rename_i es hs
      split at q
      · rename_i hf
        obtain ⟨a, rfl, hn, vs, ha, ra⟩ := ref_cell R rx hs
        obtain ⟨w, rfl, rw'⟩ := rs.one
        obtain ⟨x1, R1⟩ := wr_lst R hn hs (ra.app (.cons rw' .nil))
        refine ⟨a, vs, w, rfl, rfl, ha, ?_, q _ _ x1 R1 _ .non⟩
        rw [ra.length]
        have := fits_le hf
        omega
      · exact q.elim
    · exact q.elim
  · exact q.elim
def p_pop (x : D) (ds : List D) (S : Sto) : Res D := match x, ds with
  | .ref n, [] => match cellOf S n with
    | some (.lst es) => match es[es.length - 1]? with
      | some y => .ok y (S.set n (some (.lst es.dropLast)))
      | none => .stuck
    | _ => .stuck
  | _, _ => .stuck
theorem Reps.dropLast {ι : Ix} {L : Addr → Prop} {H : Hp} {vs : List V} {ds : List D} (r : Reps G ι L H vs ds) : Reps G ι L H vs.dropLast ds.dropLast := by
  rw [List.dropLast_eq_take, List.dropLast_eq_take, r.length]
  exact r.take _
theorem snd_pop : SndM G rPop p_pop := fun E ι S H x xs dx ds Q R rx rs q => by
  unfold p_pop at q
  split at q
  · rename_i n
    split at q
    · rename_i es hs
      split at q
      · rename_i y hy
        obtain ⟨a, rfl, hn, vs, ha, ra⟩ := ref_cell R rx hs
        cases rs
        obtain ⟨w, hw, rw'⟩ := ra.get hy
        obtain ⟨x1, R1⟩ := wr_lst R hn hs ra.dropLast
        exact ⟨a, vs, w, rfl, rfl, ha, by rw [ra.length]; exact hw, q _ _ x1 R1 _ (rw'.mono x1)⟩
      · exact q.elim
    · exact q.elim
  · exact q.elim
def p_setI (x y v : D) (S : Sto) : Res Unit := match x with
  | .ref n => match cellOf S n with
    | some (.lst es) => match y with
      | .int i => match ixN es.length i with
        | some j => .ok () (S.set n (some (.lst (es.set j v))))
        | none => .stuck
      | _ => .stuck
    | some (.dK kds) => match keyOf y with
      | some k => if fits kds.length = true then .ok () (S.set n (some (.dK (putD kds k v)))) else .stuck
      | none => .stuck
    | some (.dT kds) => match keysOf y with
      | some k => if fits kds.length = true then .ok () (S.set n (some (.dT (putD kds k v)))) else .stuck
      | none => .stuck
    | _ => .stuck
  | _ => .stuck
def rSetU : TSet := fun o i v H Q => rSetL o i v H Q ∨ rSetD o i v H Q
theorem set_any {X : Cx} (hu : X.A.units + 1 < cLine) : PSet X rSetU := by
  intro pins s σ H o i v ov iv u Q I ro ri rv h
  rcases h with h | h
  · exact set_list pins s σ H o i v ov iv u Q I ro ri rv h
  · exact set_dict hu pins s σ H o i v ov iv u Q I ro ri rv h
theorem keysOf_tup {d : D} {ks : List Key} (h : keysOf d = some ks) : ∃ ds, d = .tup ds ∧ ds.mapM keyOf = some ks := by
  cases d with
  | tup ds => exact ⟨ds, rfl, h⟩
  | _ => cases h
theorem keysOf_at {ι : Ix} {L : Addr → Prop} {H : Hp} {v : V} {d : D} {ks : List Key} (r : Rep G ι L H v d) (h : keysOf d = some ks) : ∃ b, v = .ref b ∧ H b = some (.tup (ks.map kV)) := by
  obtain ⟨ds, rfl, h⟩ := keysOf_tup h
  cases r with
  | tup q hl rs =>
    rw [keysOf_rep rs h] at q
    exact ⟨_, rfl, q⟩
theorem snd_setI {E : XK} {ι : Ix} {S : Sto} {H : Hp} {x y v : V} {dx dy dv : D} {Q : Hp → Prop} (R : Rel G ι S H) (rx : Rep G ι (Lv ι S) H x dx) (ry : Rep G ι (Lv ι S) H y dy) (rv : Rep G ι (Lv ι S) H v dv)
    (q : Post G E ι S H (fun _ ι' S' H' => Q H') (p_setI dx dy dv S)) : rSetU x y v H Q := by
  unfold p_setI at q
  split at q
  · rename_i n
    split at q
    · rename_i es hs
      obtain ⟨a, rfl, hn, vs, ha, ra⟩ := ref_cell R rx hs
      split at q
      · rename_i i
        split at q
        · rename_i j hj
          obtain ⟨x1, R1⟩ := wr_lst R hn hs (Reps.set rv j ra)
          exact .inl ⟨a, vs, i, j, rfl, ry.int_of, ha, by rw [ra.length]; exact hj, q _ _ x1 R1⟩
        · exact q.elim
      · exact q.elim
    · rename_i kds hs
      obtain ⟨a, rfl, hn, kvs, ha, he, ra⟩ := ref_cell R rx hs
      split at q
      · rename_i k hk
        split at q
        · rename_i hf
          obtain ⟨e1, e2⟩ := putD_rep k he ra rv
          obtain ⟨x1, R1⟩ := wr_cell (c := .dK (putD kds k dv)) (o := .dK (putK kvs k v)) R hn hs fun x => ⟨_, upd_same, e1, e2.mono x⟩
          refine .inr ⟨a, _, rfl, ?_, q _ _ x1 R1⟩
          rw [keyOf_rep ry hk]
          exact DPut.k ha (by rw [len_fst he]; exact fits_lt hf)
        · exact q.elim
      · exact q.elim
    · rename_i kds hs
      obtain ⟨a, rfl, hn, kvs, ha, he, ra⟩ := ref_cell R rx hs
      split at q
      · rename_i k hk
        split at q
        · rename_i hf
          obtain ⟨e1, e2⟩ := putD_rep k he ra rv
          obtain ⟨b, rfl, hb⟩ := keysOf_at ry hk
          obtain ⟨x1, R1⟩ := wr_cell (c := .dT (putD kds k dv)) (o := .dT (putK kvs k v)) R hn hs fun x => ⟨_, upd_same, e1, e2.mono x⟩
          exact .inr ⟨a, _, rfl, DPut.t ha hb (by rw [len_fst he]; exact fits_lt hf), q _ _ x1 R1⟩
        · exact q.elim
      · exact q.elim
    · exact q.elim
  · exact q.elim
def c_setI (o i v : ECode) : SCode := fun ρ S => (v ρ S).bind fun z S0 => (o ρ S0).bind fun x S1 => (i ρ S1).bind fun y S2 => (p_setI x y z S2).bind fun _ S3 => .ok (.nx ρ) S3
theorem ds_setI (F : FamH Xs G E) {o i e : Expr} {pos pos' : Pos} {co ci cv : ECode} (hv : DE Xs G E e cv) (ho : DE Xs G E o co) (hi : DE Xs G E i ci) (hs : ∀ j, swapsWithSole [.Subscript o i pos'] e pos.line (Xs j).env = pure false)
    (hw : ∀ j, swappedStores [.Subscript o i pos'] e (Xs j).env = pure none) (h1 : ∀ j, List.map (fun x => x.snd) (assignEach [.Subscript o i pos'] (Xs j).env) = [assign (.Subscript o i pos') (Xs j).env])
    (ha : ∀ j v, assign (.Subscript o i pos') (Xs j).env v = (do
      let ov ← holding [v] (eval o (Xs j).env)
      let iv ← holding [v, ov] (eval i (Xs j).env)
      standAt pos'
      holding [v, ov, iv] (setItem ov iv v)
      release [v, ov, iv] [])) : DS Xs G E (.Assign [.Subscript o i pos'] e pos) (c_setI co ci cv) := by
  obtain ⟨tv, pv, sv⟩ := hv
  obtain ⟨to, po, so⟩ := ho
  obtain ⟨ti, pi, si⟩ := hi
  refine ⟨_, fun j => ps_asg (pv j) (pg_sub (po j) (pi j) (set_any (F.hu j)) (ha j)) (hs j) (hw j) (h1 j), fun ι S H σ ρ Dn R e q => ?_⟩
  refine sv.go R e q fun dv S1 ι1 H1 v x1 R1 e1 r1 q1 => ?_
  refine so.go R1 e1 q1 fun dx S2 ι2 H2 x x2 R2 e2 r2 q2 => ?_
  refine si.go R2 e2 q2 fun dy S3 ι3 H3 y x3 R3 e3 r3 q3 => ?_
  refine snd_setI (Q := fun H' => Dn.nx σ H') R3 (r2.mono x3) r3 ((r1.mono x2).mono x3) (Post.bind q3 fun _ S4 ι4 H4 x4 R4 q4 => ?_)
  exact Post.here R4 q4 σ (e3.mono x4)
def p_setF (c i : Nat) (x v : D) (S : Sto) : Res Unit := match x with
  | .ref n => match cellOf S n with
    | some (.ins c' fs) => if c' = c ∧ i ≤ fs.length ∧ fs.length < 1000 then .ok () (S.set n (some (.ins c (if i < fs.length then fs.set i v else fs ++ [v])))) else .stuck
    | _ => .stuck
  | _ => .stuck
theorem putF_ix : ∀ {nfs : List (Str × V)} {ns : List Str} {i : Nat} {nm : Str} {v : V}, nfs.map (·.1) = ns.take nfs.length → ns.Nodup → ns[i]? = some nm → i ≤ nfs.length →
    (putF nm v nfs).map (·.1) = ns.take (putF nm v nfs).length ∧ (putF nm v nfs).map (·.2) = if i < nfs.length then (nfs.map (·.2)).set i v else nfs.map (·.2) ++ [v]
  | [], ns, i, nm, v, e, nd, h1, hi => by
    have hi : i = 0 := by simpa using hi
    subst hi
    cases ns with
    | nil => simp at h1
    | cons a ns =>
      simp at h1
      subst h1
      simp [putF]
  | (g, x) :: r, ns, i, nm, v, e, nd, h1, hi => by
    cases ns with
    | nil => simp at h1
    | cons a ns =>
      simp only [List.map_cons, List.length_cons, List.take_succ_cons, List.cons.injEq] at e
      obtain ⟨e1, e2⟩ := e
      subst e1
      rw [List.nodup_cons] at nd
      cases i with
      | zero =>
        simp at h1
        subst h1
        rw [show putF g v ((g, x) :: r) = (g, v) :: r from by simp [putF]]
        simp [e2]
      | succ i =>
        simp only [List.getElem?_cons_succ] at h1
        have hne : g ≠ nm := fun z => nd.1 (z ▸ List.mem_of_getElem? h1)
        rw [show putF nm v ((g, x) :: r) = (g, x) :: putF nm v r from by simp [putF, hne]]
        obtain ⟨a1, a2⟩ := putF_ix (v := v) e2 nd.2 h1 (by simpa using hi)
        refine ⟨by simp [a1], ?_⟩
        rw [List.map_cons, a2]
        by_cases hl : i < r.length
        · simp [hl]
        · simp [hl]
theorem ds_fld (F : FamH Xs G E) {c i : Nat} {nm : Str} {o e : Expr} {pos pos' : Pos} {co cv : ECode} (hc : Cls G.K (G.cls c)) (hn : NoAttr G.K (G.cls c) nm) (hi : (G.fns c)[i]? = some nm) (hnd : (G.fns c).Nodup)
    (hv : DE Xs G E e cv) (ho : DE Xs G E o co) (hs : ∀ j, swapsWith e (some (.Attribute o nm pos')) pos.line (Xs j).env = pure false) :
    DS Xs G E (.Assign [.Attribute o nm pos'] e pos) (fun ρ S => (cv ρ S).bind fun z S0 => (co ρ S0).bind fun x S1 => (p_setF c i x z S1).bind fun _ S2 => .ok (.nx ρ) S2) := by
  obtain ⟨tv, pv, sv⟩ := hv
  obtain ⟨to, po, so⟩ := ho
  refine ⟨sFld G.K to tv nm, fun j => by have z := ps_fld (X := Xs j) (po j) (pv j) (hs j); rw [F.K j] at z; exact z, fun ι S H σ ρ Dn R e q => ?_⟩
  refine sv.go R e q fun dv S1 ι1 H1 v x1 R1 e1 r1 q1 => ?_
  refine so.go R1 e1 q1 fun dx S2 ι2 H2 x x2 R2 e2 r2 q2 => ?_
  unfold p_setF at q2
  split at q2
  · rename_i n
    split at q2
    · rename_i c' fs hs
      split at q2
      · rename_i h
        obtain ⟨rfl, hle, hlt⟩ := h
        obtain ⟨a, rfl, hn', dx, nfs, ha, hnm, ra⟩ := ref_cell R2 r2 hs
        have hl : nfs.length = fs.length := by
          have := ra.length
          simpa using this
        rw [← hl] at hnm hle
        obtain ⟨p1, p2⟩ := putF_ix (v := v) hnm hnd hi hle
        have rr : Reps G ι2 (Lv ι2 S2) H2 ((putF nm v nfs).map (·.2)) (if i < fs.length then fs.set i dv else fs ++ [dv]) := by
          rw [p2, hl]
          by_cases hlt : i < fs.length
          · rw [if_pos hlt, if_pos hlt]
            exact Reps.set (r1.mono x2) i ra
          · rw [if_neg hlt, if_neg hlt]
            exact ra.app (.cons (r1.mono x2) .nil)
        obtain ⟨x3, R3⟩ := wr_cell (c := .ins c' (if i < fs.length then fs.set i dv else fs ++ [dv])) (o := .ins (G.cls c') dx (putF nm v nfs)) R2 hn' hs fun x => ⟨dx, _, upd_same, by
          have hle := rr.length
          rw [List.length_map] at hle
          rw [← hle]
          exact p1, rr.mono x⟩
        have q3 : Post G (E σ) ι2 S2 H2 (PF G Dn) (.ok (.nx ρ) (S2.set n (some (.ins c' (if i < fs.length then fs.set i dv else fs ++ [dv]))))) := q2
        exact ⟨a, _, dx, nfs, rfl, ha, hc, hn, by omega, q3 _ _ x3 R3 σ (e2.mono x3)⟩
      · exact q2.elim
    · exact q2.elim
  · exact q2.elim
def c_par (i j : Nat) (a b : ECode) : SCode := fun ρ S => (a ρ S).bind fun x S1 => (b ρ S1).bind fun y S2 => .ok (.nx ((ρ.set i (some x)).set j (some y))) S2
theorem ds_par (F : Fam Xs G E kk) {i j : Nat} {x y : Str} {a b : Expr} {px py pt pos : Pos} {kt k2 pt2} {ca cb : ECode} (hi : ∀ q, (Xs q).N[i]? = some x) (hj : ∀ q, (Xs q).N[j]? = some y) (hij : i ≠ j)
    (hx : ∀ q, (Xs q).env.scope.names.lookup x = some .local) (hy : ∀ q, (Xs q).env.scope.names.lookup y = some .local) (ha : DE Xs G E a ca) (hb : DE Xs G E b cb)
    (hst : ∀ q, starEach [a, b] (Xs q).env = (false, eval a (Xs q).env) :: starEach [b] (Xs q).env) (hst2 : ∀ q, starEach [b] (Xs q).env = (false, eval b (Xs q).env) :: starEach [] (Xs q).env)
    (hw : ∀ q, swappedStores [.Tuple [.Name x px, .Name y py] kt pt] (.Tuple [a, b] k2 pt2) (Xs q).env = pure (some [x, y]))
    (hs : ∀ q, swapsWithSole [.Tuple [.Name x px, .Name y py] kt pt] (.Tuple [a, b] k2 pt2) pos.line (Xs q).env = pure false) :
    DS Xs G E (.Assign [.Tuple [.Name x px, .Name y py] kt pt] (.Tuple [a, b] k2 pt2) pos) (c_par i j ca cb) := by
  obtain ⟨ta, pa, sa⟩ := ha
  obtain ⟨tb, pb, sb⟩ := hb
  refine ⟨_, fun q => ps_par (F.calm q) (F.nd q) (hi q) (hj q) hij (hx q) (hy q) (pa_cons (pa q) (pa_cons (pb q) pa_nil (hst2 q)) (hst q)) (hw q) (hs q), fun ι S H σ ρ Dn R e q => ?_⟩
  refine sa.go R e q fun d S1 ι1 H1 v x1 R1 e1 r1 q1 => ?_
  refine sb.go R1 e1 q1 fun d2 S2 ι2 H2 w x2 R2 e2 r2 q2 => ?_
  exact ⟨v, w, rfl, Post.here R2 q2 _ ((e2.set (r1.mono x2) i).set r2 j)⟩
end
def FnP (G : Gx) (k : Nat) (f : Addr) (m : List D → Sto → Res D) : Prop :=
  ∀ (A : Around) (outer : List PySem.Env) (s : Shared) (H : Hp) (us : List Value) (vs : List V) (Q : VK) (E : XK) (ι : Ix) (S : Sto) (ds : List D), A.guards = some [] → Room k A → Env0 G.P G.w G.K G.mg G.base A outer s H →
    Vals vs us → Rel G ι S H → Reps G ι (Lv ι S) H vs ds → Post G E ι S H (PV G Q) (m ds S) → codeAny (model G.P G.w) A (.call (.ref f) ⟨us, []⟩) (CR (L2.CX G.P G.w) outer G.P G.w H s Q E) s
def argsN (n : Nat) (m : List D → Sto → Res D) : List D → Sto → Res D := fun ds S => if ds.length = n then m ds S else .stuck
section
variable {G : Gx} {k : Nat} {f : Addr} {fd : FuncData} {ps : List Str} {m : List D → Sto → Res D}
theorem FnP.mono {j : Nat} (h : FnP G j f m) (hk : j ≤ k) : FnP G k f m := fun A outer s H us vs Q E ι S ds hg hr => h A outer s H us vs Q E ι S ds hg (hr.mono hk)
theorem FnB.pos (Fn : FnB G k f fd ps m) (hb : Binds G.K fd ps []) : FnP G k f (argsN ps.length m) := fun A outer s H us vs Q E ι S ds hg hr e0 rv R rs p => by
  unfold argsN at p
  split at p
  · rename_i hl
    have KX : G.K.In s.heap := e0.mod.kin.keeps fun b o e => (e0.bs b o e).1
    have hlu : us.length = ps.length := by rw [← rv.length, rs.length, hl]
    have hbi := hb s us KX (by rw [List.append_nil]; exact hlu)
    rw [List.append_nil] at hbi
    exact Fn A outer s H _ us vs Q E ι S ds hg hr e0 hbi rv R rs hl p
  · exact p.elim
end
def spP (G : Gx) (m : List D → Sto → Res D) (vs : List V) (H : Hp) (Q : VK) (E : XK) : Prop := ∃ (ι : Ix) (S : Sto) (ds : List D), Rel G ι S H ∧ Reps G ι (Lv ι S) H vs ds ∧ Post G E ι S H (PV G Q) (m ds S)
section
variable {I : Type} {Xs : I → Cx} {G : Gx} {E : WK} {kk k : Nat} {f : Addr} {m : List D → Sto → Res D}
theorem runP_at (F : Fam Xs G E kk) (j : I) (Fn : FnP G k f m) {A : Around} {E : XK} {H : Hp} {s : Shared} {Q : VK} {us : List Value} {vs : List V} (hg : A.guards = some []) (hr : Room k A)
    (e0 : Env0 (Xs j).prog (Xs j).w (Xs j).K (Xs j).mg (Xs j).base A (Xs j).stack s H) (r : Vals vs us) (h : spP G m vs H Q E) :
    codeAny (model (Xs j).prog (Xs j).w) A (.call (.ref f) ⟨us, []⟩) (CR (L2.CX (Xs j).prog (Xs j).w) (Xs j).stack (Xs j).prog (Xs j).w H s Q E) s := by
  obtain ⟨ι, S, ds, R, rs, q⟩ := h
  rw [F.P j, F.w j] at e0 ⊢
  rw [F.K j, F.mg j, F.base j] at e0
  exact Fn A _ s H us vs Q E ι S ds hg hr e0 r R rs q
theorem run_P (F : Fam Xs G E kk) (j : I) (Fn : FnP G k f m) (hk : k ≤ kk) {pins : List (Addr × Obj)} {σ : L2.St} {H : Hp} {s : Shared} {Q : VK} {us : List Value} {vs : List V} (Iv : Inv (Xs j) pins σ H s)
    (r : Vals vs us) (h : spP G m vs H Q (E σ)) : wpAny (model (Xs j).prog (Xs j).w) (Xs j).A (call (.ref f) us) (EP (Xs j) pins σ Q) (Xs j).xe s := by
  refine wpAny_call (codeAny_mono (runP_at F j Fn (F.gd j) ((F.room j).mono hk) Iv.env0 r h) fun r s' hq => ?_)
  cases r with
  | error e => exact F.pass j pins σ H s e s' Iv hq
  | ok fl =>
    cases fl with
    | ret u => exact Iv.after hq
    | next => exact hq.elim
    | brk => exact hq.elim
    | cont => exact hq.elim
theorem snd_P {t : TA} {a : ACode} (sa : SndA G E t a) : Snd G E (fun σ H Q => t σ H fun vs H1 => spP G m vs H1 Q (E σ)) (c_cb m a) := fun ι S H σ ρ Q R e q =>
  sa.go R e q fun ds S1 ι1 H1 vs x1 R1 e1 r1 q1 => ⟨ι1, S1, ds, R1, r1, q1⟩
theorem de_callP (F : Fam Xs G E kk) (Fn : FnP G k f m) (hk : k ≤ kk) {x : Str} {p pos : Pos} {e : Expr} {es : List Expr} {a : ACode} (ha : DA Xs G E (e :: es) a) (hg : ∀ j, Gl (Xs j) x) (hm : G.mg x = some (.ref f)) (hkp : PySem.W.keepIn G.K (.ref f) = true)
    (hdb : (x == ("__debug__" : Str)) = false) (he : ∀ j, starEach (e :: es) (Xs j).env = (false, eval e (Xs j).env) :: starEach es (Xs j).env) (hpl : ∀ j, (backTo pos (starEach es (Xs j).env)).any (·.1) = false) :
    DE Xs G E (.Call (.Name x p) (e :: es) [] pos) (c_cb m a) := by
  obtain ⟨t, pa, sa⟩ := ha
  refine ⟨_, fun j => ⟨fun pins s σ H Q Iv h => ?_⟩, snd_P sa⟩
  refine wpAny_Call_Name_kw (ld_glob Iv (hg j) (by rw [F.mg j]; exact hm) ?_ hdb)
  exact PySem.W.callWith_K (h₀ := (Xs j).base) Iv.ok.mod.kin (by rw [F.K j]; exact hkp) (thn ((pa j).run pos pins s σ H _ Iv h) fun us s1 ⟨vs, H1, I1, r, q⟩ => ⟨I1.kIn, run_P F j Fn hk I1 r q⟩) (he j) (hpl j)
def c_star (a : ECode) (r : ACode) : ACode := fun ρ S => (a ρ S).bind fun x S1 => match itemsOf x S1 with
  | some ds => (r ρ S1).bind fun es S2 => .ok (ds ++ es) S2
  | none => .stuck
theorem lookup_out : ∀ {nfs : List (Str × V)} {ns : List Str} {n : Nat} {nm : Str}, nfs.map (·.1) = ns.take n → ns.contains nm = false → nfs.lookup nm = none
  | [], _, _, _, _, _ => rfl
  | (g, v) :: r, [], n, nm, e, h => by simp at e
  | (g, v) :: r, a :: ns, 0, nm, e, h => by simp at e
  | (g, v) :: r, a :: ns, n + 1, nm, e, h => by
    simp only [List.map_cons, List.take_succ_cons, List.cons.injEq] at e
    obtain ⟨e1, e2⟩ := e
    subst e1
    simp only [List.contains_cons, Bool.or_eq_false_iff] at h
    rw [List.lookup_cons, h.1]
    exact lookup_out e2 h.2
def c_methP (c : Nat) (m : List D → Sto → Res D) (o : ECode) (a : ACode) : ECode := fun ρ S => (o ρ S).bind fun x S1 => if clsOf x S1 = some c then (a ρ S1).bind fun ds S2 => m (x :: ds) S2 else .stuck
theorem de_methP (F : Fam Xs G E kk) (Fn : FnP G k f m) (hk : k ≤ kk) {c : Nat} {nm : Str} {o e : Expr} {es : List Expr} {apos pos : Pos} {pl : I → Sem Bool} {co : ECode} {a : ACode} (hc : Cls G.K (G.cls c)) (hm : Meth G.K (G.cls c) nm f) (hn : (G.fns c).contains nm = false)
    (ho : DE Xs G E o co) (ha : DA Xs G E (e :: es) a) (hst : ∀ j, starEach (e :: es) (Xs j).env = (false, eval e (Xs j).env) :: starEach es (Xs j).env) (hpl : ∀ j, (backTo pos (starEach es (Xs j).env)).any (·.1) = false)
    (ht : ∀ j, eval (.Call (.Attribute o nm apos) (e :: es) [] pos) (Xs j).env = (do
      let ov ← eval o (Xs j).env
      standAt apos.atName
      let (f, first) ← holding [ov] (getMethod ov nm (pl j))
      callWith pos f first (backTo pos (starEach (e :: es) (Xs j).env)) (backToKw pos (keywordEach [] (Xs j).env)))) :
    DE Xs G E (.Call (.Attribute o nm apos) (e :: es) [] pos) (c_methP c m co a) := by
  obtain ⟨to, po, so⟩ := ho
  obtain ⟨t, pa, sa⟩ := ha
  refine ⟨fun σ H Q => to σ H fun x H1 => ∃ b dx fs, x = .ref b ∧ H1 b = some (.ins (G.cls c) dx fs) ∧ fs.lookup nm = none ∧ t σ H1 fun vs H2 => spP G m (x :: vs) H2 Q (E σ), fun j => ⟨fun pins s σ H Q Iv h => ?_⟩, fun ι S H σ ρ Q R e q => ?_⟩
  · refine PySem.W.methodCall_KW (pl := pl j) (thn ((po j).run pins s σ H _ Iv h) fun u s1 ⟨x, H1, I1, rx, a, dx, fs, ex, ea, l, q⟩ => ?_) (ht j)
    subst ex
    obtain rfl : u = Value.ref a := rx
    refine getmeth_ok I1 ea (by rw [F.K j]; exact hc) (by rw [F.K j]; exact hm) l ?_
    exact PySem.W.callWith_K (first := [.ref a]) (h₀ := (Xs j).base) Iv.ok.mod.kin (by rw [F.K j]; exact hm.kp) (thn ((pa j).run pos pins s1 σ H1 _ I1 q) fun us s2 ⟨vs, H2, I2, r, q2⟩ => ⟨I2.kIn, run_P (us := .ref a :: us) (vs := .ref a :: vs) F j Fn hk I2 (.cons rfl r) q2⟩) (hst j) (hpl j)
  · refine so.go R e q fun d S1 ι1 H1 v x1 R1 e1 r1 q1 => ?_
    by_cases h : clsOf d S1 = some c
    · rw [if_pos h] at q1
      obtain ⟨b, dx, nfs, fs, rfl, h2, h3, h4, h5⟩ := cls_at R1 r1 h
      refine ⟨b, dx, nfs, rfl, h2, lookup_out h3 hn, ?_⟩
      refine sa.go R1 e1 q1 fun ds S2 ι2 H2 vs x2 R2 e2 r2 q2 => ?_
      exact ⟨ι2, S2, d :: ds, R2, .cons (r1.mono x2) r2, q2⟩
    · rw [if_neg h] at q1
      exact q1.elim
theorem de_con (F : FamH Xs G E) {x : Str} {a : Addr} {pos : Pos} (hg : ∀ j, Gl (Xs j) x) (hm : G.mg x = some (.ref a)) (hd : (x == ("__debug__" : Str)) = false) : DE Xs G E (.Name x pos) (c_d (.con a)) :=
  de_glob F hg hm (show RelV (.ref a) (.ref a) from rfl) (fun _ _ _ => .con a) hd
theorem Rep.con_of {ι : Ix} {L : Addr → Prop} {H : Hp} {v : V} {a : Addr} (r : Rep G ι L H v (.con a)) : v = .ref a := by
  cases r
  rfl
def isCon (a : Addr) : D → Bool
  | .con b => decide (b = a)
  | _ => false
theorem isCon_eq {a : Addr} {d : D} (h : isCon a d = true) : d = .con a := by
  cases d with
  | con b =>
    obtain rfl : b = a := of_decide_eq_true h
    rfl
  | _ => cases h
def c_cval (C : Addr) (d : D) (o : ECode) : ECode := fun ρ S => (o ρ S).bind fun x S1 => if isCon C x = true then .ok d S1 else .stuck
theorem de_cval (F : FamH Xs G E) {C : Addr} {mc : Value} {nm : Str} {v : V} {u : Value} {d : D} {o : Expr} {pos : Pos} {co : ECode} (hr : ClX.CRead G.K C mc) (hv : ClX.CVal G.K C mc nm v u) (hd : ∀ ι L H, Rep G ι L H v d) (ho : DE Xs G E o co)
    (hb : ∀ j, attributeBase o nm (Xs j).env (eval o (Xs j).env) = eval o (Xs j).env) : DE Xs G E (.Attribute o nm pos) (c_cval C d co) := by
  obtain ⟨to, po, so⟩ := ho
  refine ⟨ClX.tCVal G.K to nm, fun j => by have z := ClX.pe_cval (X := Xs j) (pos := pos) (po j) (hb j); rw [F.K j] at z; exact z, fun ι S H σ ρ Q R e q => ?_⟩
  refine so.go R e q fun x S1 ι1 H1 w x1 R1 e1 r1 q1 => ?_
  by_cases h : isCon C x = true
  · rw [if_pos h] at q1
    rw [isCon_eq h] at r1
    exact ⟨C, mc, v, u, r1.con_of, hr, hv, Post.here R1 q1 _ (hd _ _ _)⟩
  · rw [if_neg h] at q1
    exact q1.elim
structure SMet (K : PySem.W.Frag) (C : Addr) (mc : Value) (m : Str) (p g : Addr) : Prop where
  at_ : PySem.W.findCls K (.ref C) mc m = some (.get (.builtin "staticmethod.__get__") (.ref p) .none (.ref C))
  rc : ∃ rest, PySem.W.recIn K p "staticmethod" = some (.ref g :: rest)
  kp : PySem.W.keepIn K (.ref g) = true
def c_smeth (C : Addr) (m : List D → Sto → Res D) (o : ECode) (a : ACode) : ECode := fun ρ S => (o ρ S).bind fun x S1 => if isCon C x = true then (a ρ S1).bind m else .stuck
theorem de_smeth (F : Fam Xs G E kk) (Fn : FnP G k f m) (hk : k ≤ kk) {C p : Addr} {mc : Value} {nm : Str} {o e : Expr} {es : List Expr} {apos pos : Pos} {pl : I → Sem Bool} {co : ECode} {a : ACode} (hr : ClX.CRead G.K C mc) (hm : SMet G.K C mc nm p f)
    (ho : DE Xs G E o co) (ha : DA Xs G E (e :: es) a) (hst : ∀ j, starEach (e :: es) (Xs j).env = (false, eval e (Xs j).env) :: starEach es (Xs j).env) (hpl : ∀ j, (backTo pos (starEach es (Xs j).env)).any (·.1) = false)
    (ht : ∀ j, eval (.Call (.Attribute o nm apos) (e :: es) [] pos) (Xs j).env = (do
      let ov ← eval o (Xs j).env
      standAt apos.atName
      let (f, first) ← holding [ov] (getMethod ov nm (pl j))
      callWith pos f first (backTo pos (starEach (e :: es) (Xs j).env)) (backToKw pos (keywordEach [] (Xs j).env)))) :
    DE Xs G E (.Call (.Attribute o nm apos) (e :: es) [] pos) (c_smeth C m co a) := by
  obtain ⟨to, po, so⟩ := ho
  obtain ⟨t, pa, sa⟩ := ha
  refine ⟨fun σ H Q => to σ H fun x H1 => x = .ref C ∧ t σ H1 fun vs H2 => spP G m vs H2 Q (E σ), fun j => ⟨fun pins s σ H Q Iv h => ?_⟩, fun ι S H σ ρ Q R e q => ?_⟩
  · refine PySem.W.methodCall_KW (pl := pl j) (thn ((po j).run pins s σ H _ Iv h) fun u s1 ⟨x, H1, I1, rx, ex, q⟩ => ?_) (ht j)
    subst ex
    obtain rfl : u = Value.ref C := rx
    obtain ⟨rest, hp⟩ := hm.rc
    have KX := I1.kIn
    rw [F.K j] at KX
    refine PySem.W.method_cls KX hr.ga (PySem.W.cls_bind KX hr.rd hm.at_ (wpAny_call (PySem.W.sm_get (s := { s1 with toks := s1.toks + 1 }) KX hp (PySem.W.handed_on rfl ?_))))
    have I2 := I1.tok (s1.toks + 1)
    exact PySem.W.callWith_K (first := []) (h₀ := (Xs j).base) Iv.ok.mod.kin (by rw [F.K j]; exact hm.kp) (thn ((pa j).run pos pins { s1 with toks := s1.toks + 1 } σ H1 _ I2 q) fun us s2 ⟨vs, H2, I3, r, q2⟩ => ⟨I3.kIn, run_P F j Fn hk I3 r q2⟩) (hst j) (hpl j)
  · refine so.go R e q fun d S1 ι1 H1 v x1 R1 e1 r1 q1 => ?_
    by_cases h : isCon C d = true
    · rw [if_pos h] at q1
      rw [isCon_eq h] at r1
      refine ⟨r1.con_of, sa.go R1 e1 q1 fun ds S2 ι2 H2 vs x2 R2 e2 r2 q2 => ?_⟩
      exact ⟨ι2, S2, ds, R2, r2, q2⟩
    · rw [if_neg h] at q1
      exact q1.elim
noncomputable def p_make (b : Bool) (c : Nat) (m : List D → Sto → Res D) (ds : List D) (S : Sto) : Res D := (m (.ref S.length :: ds) (S ++ [some (.ins c [])])).bind fun r S' => match r with
  | .non => if b = true then .ok (.ref S.length) S' else match cellOf S' S.length with
    | some (.ins c' fs) => if c' = c then fin S (.obj c fs) (S'.set S.length none) else .stuck
    | _ => .stuck
  | _ => .stuck
theorem made_rel {ι : Ix} {S : Sto} {H : Hp} {c : Nat} {x dx : Addr} (R : Rel G ι S H) (hx : H x = none) (hdx : H dx = none) (hne : dx ≠ x) :
    Ext ι S H (ι.snoc x) (S ++ [some (.ins c [])]) (upd (upd H dx (.own x)) x (.ins (G.cls c) dx [])) ∧ Rel G (ι.snoc x) (S ++ [some (.ins c [])]) (upd (upd H dx (.own x)) x (.ins (G.cls c) dx [])) := by
  have x1 : Ext ι S H ι S (upd H dx (.own x)) := Ext.same (keepNew hdx)
  have R1 : Rel G ι S (upd H dx (.own x)) := R.same (keepNew hdx)
  have hx1 : upd H dx (.own x) x = none := by rw [upd_ne (Ne.symm hne)]; exact hx
  have x2 : Ext ι S (upd H dx (.own x)) (ι.snoc x) (S ++ [some (.ins c [])]) (upd (upd H dx (.own x)) x (.ins (G.cls c) dx [])) := Ext.new R1 hx1
  exact ⟨x1.trans x2, R1.new hx1 ⟨dx, [], upd_same, by simp, .nil⟩⟩
theorem spP_make (b : Bool) {ι : Ix} {S : Sto} {H : Hp} {c : Nat} {vs : List V} {ds : List D} {Q : VK} {E : XK} (R : Rel G ι S H) (r : Reps G ι (Lv ι S) H vs ds) (q : Post G E ι S H (PV G Q) (p_make b c m ds S)) (x dx : Addr) (hx : H x = none) (hdx : H dx = none) (hne : dx ≠ x) :
    spP G m (.ref x :: vs) (upd (upd H dx (.own x)) x (.ins (G.cls c) dx [])) (fun v H2 => v = .non ∧ Q (.ref x) H2) E := by
  obtain ⟨x1, R1⟩ := made_rel (c := c) R hx hdx hne
  have hself : (ι.snoc x).l[S.length]? = some x := by
    show (ι.l ++ [x])[S.length]? = some x
    rw [← R.len]
    simp
  refine ⟨ι.snoc x, S ++ [some (.ins c [])], .ref S.length :: ds, R1, .cons (.ref hself) (r.mono x1), ?_⟩
  unfold p_make at q
  cases hm : m (.ref S.length :: ds) (S ++ [some (.ins c [])]) with
  | ex k d S2 =>
    rw [hm] at q
    exact fun ι2 H2 dd v y R2 => q ι2 H2 dd v (x1.trans y) R2
  | stuck => rw [hm] at q; exact q
  | ok d S2 =>
    rw [hm] at q
    intro ι2 H2 y R2 v rv
    cases d with
    | non =>
      refine ⟨rv.non_of, ?_⟩
      have hix := y.idx hself
      cases b with
      | true => exact q ι2 H2 (x1.trans y) R2 _ (.ref hix)
      | false =>
        have q : Post G E ι S H (PV G Q) (match cellOf S2 S.length with
          | some (.ins c' fs) => if c' = c then fin S (.obj c fs) (S2.set S.length none) else .stuck
          | _ => .stuck) := q
        split at q
        · rename_i c' fs hc
          split at q
          · rename_i ec
            subst ec
            obtain ⟨a, h1, h2⟩ := R2.cell _ _ (cellOf_eq hc)
            rw [hix] at h1
            cases h1
            obtain ⟨dx', nfs, h3, h4, h5⟩ := h2
            have x3 : Ext ι2 S2 H2 ι2 (S2.set S.length none) H2 := Ext.kill
            have R3 : Rel G ι2 (S2.set S.length none) H2 := R2.kill
            exact fin_ok R q ι2 H2 ((x1.trans y).trans x3) R3 _ (.obj h3 (R2.killed hix) h4 (h5.mono x3))
          · exact q.elim
        · exact q.elim
    | _ => exact q.elim
theorem de_make (b : Bool) (F : Fam Xs G E kk) (Fn : FnP G k f m) (hk : k + 1 ≤ kk) {c : Nat} {x : Str} {p pos : Pos} {e : Expr} {es : List Expr} {a : ACode} (M : Mk G.K (G.cls c) f) (ha : DA Xs G E (e :: es) a) (hg : ∀ j, Gl (Xs j) x) (hm : G.mg x = some (.ref (G.cls c)))
    (hdb : (x == ("__debug__" : Str)) = false) (he : ∀ j, starEach (e :: es) (Xs j).env = (false, eval e (Xs j).env) :: starEach es (Xs j).env) (hpl : ∀ j, (backTo pos (starEach es (Xs j).env)).any (·.1) = false) :
    DE Xs G E (.Call (.Name x p) (e :: es) [] pos) (c_cb (p_make b c m) a) := by
  obtain ⟨t, pa, sa⟩ := ha
  refine ⟨fun σ H Q => t σ H fun vs H1 => ∀ x dx, H1 x = Option.none → H1 dx = Option.none → dx ≠ x → spP G m (V.ref x :: vs) (upd (upd H1 dx (.own x)) x (.ins (G.cls c) dx [])) (fun v H2 => v = .non ∧ Q (.ref x) H2) (E σ), fun j => ⟨fun pins s σ H Q Iv h => ?_⟩, fun ι S H σ ρ Q R e q => ?_⟩
  · refine wpAny_Call_Name_kw (ld_glob Iv (hg j) (by rw [F.mg j]; exact hm) ?_ hdb)
    refine PySem.W.callWith_K (h₀ := (Xs j).base) Iv.ok.mod.kin (by rw [F.K j]; exact M.kp) (thn ((pa j).run pos pins s σ H _ Iv h) fun us s1 ⟨vs, H1, I1, r, q⟩ => ⟨I1.kIn, ?_⟩) (he j) (hpl j)
    have hq := q (s1.heap.objs.size + 1) s1.heap.objs.size (I1.hok.fresh (Nat.le_succ _)) (I1.hok.fresh (Nat.le_refl _)) (Nat.ne_of_lt (Nat.lt_succ_self _))
    have I2 := Inv.made (C := G.cls c) I1
    have r2 : Vals (V.ref (s1.heap.objs.size + 1) :: vs) (Value.ref (s1.heap.objs.size + 1) :: us) := .cons rfl r
    have M' : Mk (Xs j).K (G.cls c) f := by rw [F.K j]; exact M
    refine wpAny_call (make_map (f := f) I1.kIn M'.makes M'.init (beq_iff_eq.mp M'.fn) (codeAny_mono (runP_at F j Fn (show ((Xs j).A.under _).guards = some [] from F.gd j) (((F.room j).mono hk).make (G.cls c) us []) (I2.env0.make (G.cls c) us []) r2 hq) fun r s' hq' => ?_))
    cases r with
    | error e => exact F.pass j pins σ _ _ e s' I2 hq'
    | ok fl =>
      cases fl with
      | ret u =>
        obtain ⟨v, H', I3, rv, ev, q3⟩ := I2.after hq'
        subst ev
        exact ⟨rv, ⟨V.ref (s1.heap.objs.size + 1), H', I3, rfl, q3⟩⟩
      | next => exact False.elim hq'
      | brk => exact False.elim hq'
      | cont => exact False.elim hq'
  · exact sa.go R e q fun ds S1 ι1 H1 vs x1 R1 e1 r1 q1 => spP_make b R1 r1 q1
end
def ItAt : Bool → Heap → Addr → Addr → Nat → Prop
  | true, h, it, l, k => h.IsTupleIter it l k
  | false, h, it, l, k => h.IsListIter it l k
def SqAt : Bool → Heap → Addr → Array Value → Prop
  | true, h, l, xs => h.IsTuple l xs
  | false, h, l, xs => h.IsList l xs
theorem ItAt.at {t : Bool} {h h' : Heap} {it l : Addr} {k : Nat} (i : ItAt t h it l k) (e : ∀ o, h.get? it = some o → h'.get? it = some o) : ItAt t h' it l k := by
  cases t with
  | true => exact Heap.IsTupleIter.at i e
  | false => exact Heap.IsListIter.at i e
theorem SqAt.at {t : Bool} {h h' : Heap} {l : Addr} {xs : Array Value} (i : SqAt t h l xs) (e : ∀ o, h.get? l = some o → h'.get? l = some o) : SqAt t h' l xs := by
  cases t with
  | true => exact Heap.IsTuple.at i e
  | false => exact Heap.IsList.at i e
theorem ItAt.obj {t : Bool} {h : Heap} {it l : Addr} {k : Nat} (i : ItAt t h it l k) : ∃ o, h.get? it = some o ∧ o.data = .fields #[.ref l, rawInt k] := by
  cases t with
  | true => obtain ⟨o, a, b, c⟩ := i; exact ⟨o, a, c⟩
  | false => obtain ⟨o, a, b, c⟩ := i; exact ⟨o, a, c⟩
theorem ItAt.lt {t : Bool} {h : Heap} {it l : Addr} {k : Nat} (i : ItAt t h it l k) : it < h.objs.size := by
  obtain ⟨o, e, _⟩ := i.obj
  exact Heap.lt_size e
theorem SqAt.obj {t : Bool} {h : Heap} {l : Addr} {xs : Array Value} (i : SqAt t h l xs) : ∃ o, h.get? l = some o := by
  cases t with
  | true => obtain ⟨o, a, b, c⟩ := i; exact ⟨o, a⟩
  | false => obtain ⟨o, a, b, c⟩ := i; exact ⟨o, a⟩
theorem SqAt.lt {t : Bool} {h : Heap} {l : Addr} {xs : Array Value} (i : SqAt t h l xs) : l < h.objs.size := by
  obtain ⟨o, e⟩ := i.obj
  exact Heap.lt_size e
def SqV (t : Bool) (K : PySem.W.Frag) (H : Hp) (a : Addr) (xs : List V) : Prop := match t with
  | true => SqT K H a xs
  | false => SqL K H a xs
open PySem PySem.Spec PyProof.Rows L2 PySem.W
section
variable {I : Type} {Xs : I → Cx} {G : Gx} {E : WK} {kk : Nat}
theorem notLv {ι : Ix} {S : Sto} {H : Hp} {a : Addr} {vs : List V} (R : Rel G ι S H) (h : H a = some (.tup vs)) : ¬ Lv ι S a := by
  rintro (⟨n, c, h1, h2⟩ | z)
  · obtain ⟨b, h3, h4⟩ := R.cell n c h2
    rw [h1] at h3
    cases h3
    cases c with
    | lst ds => obtain ⟨ws, e, _⟩ := h4; rw [h] at e; cases e
    | dK ds => obtain ⟨ws, e, _⟩ := h4; rw [h] at e; cases e
    | dT ds => obtain ⟨ws, e, _⟩ := h4; rw [h] at e; cases e
    | ins c fs => obtain ⟨dx, ws, e, _⟩ := h4; rw [h] at e; cases e
  · obtain ⟨⟨xs, e, n⟩, _⟩ := R.ztr a z
    rw [h] at e
    cases e
    exact n _ rfl
theorem Reps.py {ι : Ix} {S : Sto} {H : Hp} (R : Rel G ι S H) {vs : List V} {ds : List D} {ps : List PyData} (e : pyOfL S ds = some ps) (r : Reps G ι (Lv ι S) H vs ds) : DpAll G.K H vs ps := (pair_py R (sizeOf ds)).2 vs ds ps (Nat.le_refl _) e r
def tyD (d : D) (S : Sto) : Option String := match d with
  | .non => some "NoneType"
  | .bl _ => some "bool"
  | .int _ => some "int"
  | .str _ => some "str"
  | .tup _ => some "tuple"
  | .wtp _ => some "tuple"
  | .lst _ => some "list"
  | .scr _ => some "list"
  | .dK _ => some "dict"
  | .dT _ => some "dict"
  | .ref n => match cellOf S n with
    | some (.lst _) => some "list"
    | some (.dK _) => some "dict"
    | some (.dT _) => some "dict"
    | _ => none
  | _ => none
theorem tyD_at {ι : Ix} {S : Sto} {H : Hp} {v : V} {d : D} {t : String} (R : Rel G ι S H) (r : Rep G ι (Lv ι S) H v d) (h : tyD d S = some t) : TyX G.K H v (.type t) := by
  cases r with
  | non => cases h; exact .base .non
  | bl b => cases h; exact .base (.bl b)
  | int i => cases h; exact .base (.int i)
  | str x => cases h; exact .base (.str x)
  | tup q _ _ => cases h; exact .base (.tup q)
  | wtp q _ =>
    cases h
    obtain ⟨o, its, n, h1, h2, _⟩ := q
    exact .kTuple h1 h2
  | lst q _ _ => cases h; exact .base (.lst q)
  | scr q _ =>
    cases h
    rcases q with ⟨q | ⟨o, q⟩, _⟩ | ⟨o, its, n, h1, h2, _⟩
    · exact .base (.lst q)
    · exact .base (.frz q)
    · exact .kList h1 h2
  | dK q _ _ _ => cases h; exact .base (.dK q)
  | dT q _ _ _ => cases h; exact .base (.dT q)
  | ref q =>
    rename_i a n
    have h : (match cellOf S n with
      | some (.lst _) => some "list"
      | some (.dK _) => some "dict"
      | some (.dT _) => some "dict"
      | _ => none) = some t := h
    split at h
    · rename_i hs
      obtain ⟨b, e, _, vs, hb, _⟩ := ref_cell R (.ref q) hs
      cases e
      cases h
      exact .base (.lst hb)
    · rename_i hs
      obtain ⟨b, e, _, vs, hb, _⟩ := ref_cell R (.ref q) hs
      cases e
      cases h
      exact .base (.dK hb)
    · rename_i hs
      obtain ⟨b, e, _, vs, hb, _⟩ := ref_cell R (.ref q) hs
      cases e
      cases h
      exact .base (.dT hb)
    · cases h
  | _ => cases h
def tys : List String := ["NoneType", "bool", "int", "str", "tuple", "list", "dict"]
def isiB (a b : String) : Bool := a == b || (a == "bool" && b == "int")
theorem isi_tab : ∀ a ∈ tys, ∀ b ∈ tys, kitB a b = some (isiB a b) := by decide +kernel
theorem tyD_mem {d : D} {S : Sto} {t : String} (h : tyD d S = some t) : t ∈ tys := by
  unfold tyD at h
  split at h
  all_goals first | (cases h; decide) | (cases h; done) | skip
  split at h
  all_goals first | (cases h; decide) | (cases h; done)
def p_isi (ds : List D) (S : Sto) : Res D := match ds with
  | [d, .ty t] => match tyD d S with
    | some u => if t ∈ tys then .ok (.bl (isiB u t)) S else .stuck
    | none => .stuck
  | _ => .stuck
theorem Rep.ty_of {ι : Ix} {L : Addr → Prop} {H : Hp} {v : V} {t : String} (r : Rep G ι L H v (.ty t)) : v = .ty t := by
  cases r
  rfl
theorem snd_isi : SndC G (rIsi G.K) p_isi := fun E ι S H xs ds Q R r q => by
  unfold p_isi at q
  split at q
  · rename_i d t
    obtain ⟨v, w, rfl, rv, rw'⟩ := r.two
    split at q
    · rename_i u hu
      split at q
      · rename_i ht
        rw [rw'.ty_of]
        exact ⟨v, .ty t, _, .type t, isiB u t, rfl, .ty t, tyD_at R rv hu, kit_ty (isi_tab u (tyD_mem hu) t ht), Post.here R q _ (.bl _)⟩
      · exact q.elim
    · exact q.elim
  · exact q.elim
theorem de_ty (F : FamH Xs G E) {x : Str} {T : String} {pos : Pos} (hg : ∀ j, Gl (Xs j) x) (hm : G.mg x = none) (hv : bootBuiltins x = some (.type T)) (hn : x ≠ "__name__") (hdb : (x == ("__debug__" : Str)) = false) : DE Xs G E (.Name x pos) (c_d (.ty T)) :=
  ⟨_, fun j => ⟨fun pins s σ H Q I h => ld_blt I (hg j) (by rw [F.mg j]; exact hm) hv ⟨.ty T, H, I, rfl, h⟩ hn hdb⟩, snd_c fun _ _ _ => .ty T⟩
def textOf (p : PyData) : Option Str := match p with
  | .int i => if i.natAbs.log2 < 1920 then some (toString i : String) else none
  | .list xs => if (PyData.list xs).showable = true ∧ (PyData.list xs).hasDict = false ∧ (PyData.list xs).depth ≤ 60 ∧ (PyData.list xs).shown.length ≤ 1000000 then some (PyData.list xs).shown else none
  | .tuple xs => if (PyData.tuple xs).showable = true ∧ (PyData.tuple xs).hasDict = false ∧ (PyData.tuple xs).depth ≤ 60 ∧ (PyData.tuple xs).shown.length ≤ 1000000 then some (PyData.tuple xs).shown else none
  | _ => none
def p_repr (ds : List D) (S : Sto) : Res D := match ds with
  | [d] => match (pyOf S d).bind textOf with
    | some x => .ok (.str x) S
    | none => .stuck
  | _ => .stuck
def rRepr (K : PySem.W.Frag) : List V → Hp → VK → Prop := fun xs H Q => (∃ i, xs = [.int i] ∧ i.natAbs.log2 < 1920 ∧ Q (.str (toString i)) H) ∨ ∃ v p, xs = [v] ∧ Dp K H v p ∧ ((∃ ys, p = .list ys) ∨ ∃ ys, p = .tuple ys) ∧ p.showable = true ∧ p.hasDict = false ∧ p.depth ≤ 60 ∧ p.shown.length ≤ 1000000 ∧ Q (.str p.shown) H
theorem call_repr {X : Cx} (hg : X.A.guards = some []) (hu : X.A.units + 64 < cLine) : CallR X (.builtin "repr") (rRepr X.K) := by
  intro pins s σ H xs us Q I r h
  rcases h with h | ⟨v, p, rfl, hd, hk, h1, h2, h3, h4, q⟩
  · exact SkE.call_repr_int pins s σ H xs us Q I r h
  · obtain ⟨u, rfl, ru⟩ := r.one
    obtain ⟨as, rd⟩ := Dp.reads I p v u hd ru
    obtain ⟨a, rfl⟩ : ∃ a, u = .ref a := by
      rcases hk with ⟨ys, rfl⟩ | ⟨ys, rfl⟩ <;> (cases rd; exact ⟨_, rfl⟩)
    refine PySem.repr_of_reads' rd h1 (PyData.noDict_hsm h2) hg (by omega) (fun _ _ e => e) (fun h' t tk hk => ?_) (Nat.le_trans h4 (by rw [sizeLine_eq]; decide))
    exact ⟨.str p.shown, H, I.kept (t' := tk) hk, ⟨t, rfl⟩, q⟩
theorem snd_repr : SndC G (rRepr G.K) p_repr := fun E ι S H xs ds Q R r q => by
  unfold p_repr at q
  split at q
  · rename_i d
    obtain ⟨v, rfl, rv⟩ := r.one
    cases h1 : pyOf S d with
    | none => rw [h1] at q; exact q.elim
    | some p =>
      rw [h1] at q
      have hd := rv.py R h1
      have q : Post G E ι S H (PV G Q) (match textOf p with
        | some x => .ok (.str x) S
        | none => .stuck) := q
      cases p with
      | int i =>
        unfold textOf at q
        by_cases hi : i.natAbs.log2 < 1920
        · simp only [if_pos hi] at q
          have e : v = .int i := by cases hd; rfl
          exact .inl ⟨i, by rw [e], hi, Post.here R q _ (.str _)⟩
        · simp only [if_neg hi] at q
          exact q.elim
      | list ys =>
        unfold textOf at q
        by_cases hc : (PyData.list ys).showable = true ∧ (PyData.list ys).hasDict = false ∧ (PyData.list ys).depth ≤ 60 ∧ (PyData.list ys).shown.length ≤ 1000000
        · simp only [if_pos hc] at q
          exact .inr ⟨v, _, rfl, hd, .inl ⟨ys, rfl⟩, hc.1, hc.2.1, hc.2.2.1, hc.2.2.2, Post.here R q _ (.str _)⟩
        · simp only [if_neg hc] at q
          exact q.elim
      | tuple ys =>
        unfold textOf at q
        by_cases hc : (PyData.tuple ys).showable = true ∧ (PyData.tuple ys).hasDict = false ∧ (PyData.tuple ys).depth ≤ 60 ∧ (PyData.tuple ys).shown.length ≤ 1000000
        · simp only [if_pos hc] at q
          exact .inr ⟨v, _, rfl, hd, .inr ⟨ys, rfl⟩, hc.1, hc.2.1, hc.2.2.1, hc.2.2.2, Post.here R q _ (.str _)⟩
        · simp only [if_neg hc] at q
          exact q.elim
      | _ => exact q.elim
  · exact q.elim
end
section
variable {I : Type} {Xs : I → Cx} {G : Gx} {E : WK} {kk : Nat}
def isT : D → Bool
  | .tup _ => true
  | .wtp _ => true
  | _ => false
theorem seq_at {ι : Ix} {S : Sto} {H : Hp} {v : V} {d : D} {ds : List D} (R : Rel G ι S H) (r : Rep G ι (Lv ι S) H v d) (h : itemsOf d S = some ds) : ∃ a vs, v = .ref a ∧ SqV (isT d) G.K H a vs ∧ Reps G ι (Lv ι S) H vs ds := by
  cases d with
  | tup es =>
    cases h
    obtain ⟨a, vs, e, hs, rs⟩ := r.sqT
    exact ⟨a, vs, e, hs, rs⟩
  | wtp es =>
    cases h
    cases r with
    | wtp hw rs => exact ⟨_, _, rfl, .inr hw, rs⟩
  | lst es => exact lists_at R r h (fun _ h => nomatch h) fun _ h => nomatch h
  | scr es => exact lists_at R r h (fun _ h => nomatch h) fun _ h => nomatch h
  | ref n => exact lists_at R r h (fun _ h => nomatch h) fun _ h => nomatch h
  | _ => cases h
def c_it (a : ECode) : Env → Sto → Res Wk := fun ρ S => (a ρ S).bind fun x S1 => match itemsOf x S1 with
  | some ds => .ok ⟨ds, [(x, ds)]⟩ S1
  | none => .stuck
def ItV (t : Bool) (K : PySem.W.Frag) (a : Addr) : It := match t with
  | true => Itt K a
  | false => Itl K a
def iSeq (K : PySem.W.Frag) (te : TE) : TI := fun σ H R => te σ H fun x H1 => ∃ t a, x = .ref a ∧ (∃ xs, SqV t K H1 a xs) ∧ R (ItV t K a) H1
theorem pi_seq {X : Cx} {tg l : Expr} {tl : TE} (hl : PE X l tl) : PI X tg l (iSeq X.K tl) := by
  refine ⟨fun pins s σ H R I h => ?_⟩
  refine thn (hl.run pins s σ H _ I h) fun v s1 ⟨x, H1, I1, r1, q1⟩ => ?_
  obtain ⟨t, a, e, ⟨xs, hq⟩, q⟩ := q1
  subst e
  cases r1
  cases t with
  | true =>
    obtain ⟨its, rv, p, hz⟩ := I1.tuple hq
    refine wpAny_pyIter_tuple (show s1.heap.IsTuple a its.toArray from p) ?_
    refine ⟨s1.heap.objs.size, [s1.heap.objs.size], _, _, H1, rfl, I1.kept (t' := s1.toks) fun b o e => Heap.get?_push_of_some _ e, turn_tuple a _, ⟨_, Heap.get?_push_size _ rfl, rfl, rfl⟩, fun b hb => ?_, q⟩
    have e : b = s1.heap.objs.size := by simpa using hb
    subst e
    exact I1.fpOk (Nat.le_refl _) (I1.hok.fresh (Nat.le_refl _))
  | false =>
    obtain ⟨its, rv, p, hz⟩ := I1.list hq
    refine wpAny_pyIter_list p.isList ?_
    refine ⟨s1.heap.objs.size, [s1.heap.objs.size], _, _, H1, rfl, I1.kept (t' := s1.toks) fun b o e => Heap.get?_push_of_some _ e, turn_list a _, ⟨_, Heap.get?_push_size _ rfl, rfl, rfl⟩, fun b hb => ?_, q⟩
    have e : b = s1.heap.objs.size := by simpa using hb
    subst e
    exact I1.fpOk (Nat.le_refl _) (I1.hok.fresh (Nat.le_refl _))
theorem walks_seq {ι : Ix} {S : Sto} {H : Hp} {a : Addr} {d : D} {ds : List D} (r : Rep G ι (Lv ι S) H (.ref a) d) : Walks G ⟨ds, [(d, ds)]⟩ ι S H (ItV (isT d) G.K a) := fun ι2 S2 H2 x2 R2 hok => by
  have hi : itemsOf d S2 = some ds := hok (d, ds) (by simp)
  obtain ⟨a', vs, e, hs, rs⟩ := seq_at R2 (r.mono x2) hi
  cases e
  have fin : ∀ (i : Nat) (y : D), ds[i]? = some y → ∃ v, vs[i]? = some v ∧ Rep G ι2 (Lv ι2 S2) H2 v y := fun i y h => rs.get h
  cases ht : isT d with
  | true =>
    rw [ht] at hs
    refine ⟨⟨vs, hs, by rw [rs.length]; exact Nat.le_refl _⟩, fun i y hy => ?_⟩
    obtain ⟨v, hv, rv⟩ := fin i y hy
    refine ⟨⟨vs, v, hs, hv⟩, fun x H3 hx => ?_⟩
    obtain ⟨rfl, hx⟩ := hx
    have e := (hx vs hs).symm.trans hv
    cases e
    exact ⟨Ext.refl, R2, rv, fun _ _ h => h⟩
  | false =>
    rw [ht] at hs
    refine ⟨⟨vs, hs, by rw [rs.length]; exact Nat.le_refl _⟩, fun i y hy => ?_⟩
    obtain ⟨v, hv, rv⟩ := fin i y hy
    refine ⟨⟨vs, v, hs, hv⟩, fun x H3 hx => ?_⟩
    obtain ⟨rfl, hx⟩ := hx
    have e := (hx vs hs).symm.trans hv
    cases e
    exact ⟨Ext.refl, R2, rv, fun _ _ h => h⟩
theorem di_seq (F : FamH Xs G E) {tg l : Expr} {a : ECode} (ha : DE Xs G E l a) : DI Xs G E tg l (c_it a) := by
  obtain ⟨t, p, s⟩ := ha
  refine ⟨iSeq G.K t, fun j => by have z := pi_seq (X := Xs j) (tg := tg) (p j); rw [F.K j] at z; exact z, fun ι S H σ ρ Q R e q => ?_⟩
  refine s.go R e q fun d S1 ι1 H1 v x1 R1 e1 r1 q1 => ?_
  cases h : itemsOf d S1 with
  | none => rw [h] at q1; exact q1.elim
  | some ds =>
    rw [h] at q1
    obtain ⟨a, vs, rfl, hs, rs⟩ := seq_at R1 r1 h
    exact ⟨isT d, a, rfl, ⟨vs, hs⟩, Post.here R1 q1 _ (walks_seq r1)⟩
def rngD (lo : Int) (n : Nat) : List D := (List.range n).map fun (k : Nat) => .int (lo + (k : Int))
theorem rngD_length (lo : Int) (n : Nat) : (rngD lo n).length = n := by simp [rngD]
def smallI (i : Int) : Bool := decide (-(2 ^ 62) ≤ i ∧ i < 2 ^ 62)
theorem walks_rng {ι : Ix} {S : Sto} {H : Hp} {lo : Int} {n : Nat} : Walks G ⟨rngD lo n, []⟩ ι S H (Itr lo n) := fun ι2 S2 H2 x2 R2 hok => by
  refine ⟨by show n ≤ (rngD lo n).length; rw [rngD_length]; exact Nat.le_refl _, fun i y hy => ?_⟩
  have hy : (rngD lo n)[i]? = some y := hy
  have hi : i < n := by
    have := (List.getElem?_eq_some_iff.mp hy).1
    rwa [rngD_length] at this
  refine ⟨hi, fun x H3 hx => ?_⟩
  obtain ⟨rfl, rfl⟩ := hx
  have e : y = .int (lo + i) := by
    unfold rngD at hy
    rw [List.getElem?_map, List.getElem?_range hi] at hy
    cases hy
    rfl
  subst e
  exact ⟨Ext.refl, R2, .int _, fun _ _ h => h⟩
def c_rng1 (a : ACode) : Env → Sto → Res Wk := fun ρ S => (a ρ S).bind fun ds S1 => match ds with
  | [.int j] => if smallI j = true then .ok ⟨rngD 0 j.toNat, []⟩ S1 else .stuck
  | _ => .stuck
theorem di_rng1 (F : FamH Xs G E) {tg e : Expr} {p pos : Pos} {a : ACode} (ha : DA Xs G E [e] a) (hg : ∀ j, Gl (Xs j) "range") (hm : G.mg "range" = none) (hs : ∀ j, starEach [e] (Xs j).env = [(false, eval e (Xs j).env)]) : DI Xs G E tg (.Call (.Name "range" p) [e] [] pos) (c_rng1 a) := by
  obtain ⟨t, pa, sa⟩ := ha
  refine ⟨_, fun j => pi_range1 (hg j) (by rw [F.mg j]; exact hm) (pa j) (hs j), fun ι S H σ ρ Q R e q => ?_⟩
  refine sa.go R e q fun ds S1 ι1 H1 vs x1 R1 e1 r1 q1 => ?_
  split at q1
  · rename_i j
    split at q1
    · rename_i hj
      obtain ⟨v, rfl, rv⟩ := r1.one
      have hj := of_decide_eq_true hj
      exact ⟨j, by rw [rv.int_of], hj.1, hj.2, Post.here R1 q1 _ walks_rng⟩
    · exact q1.elim
  · exact q1.elim
def p_dK (b : Bool) (kds : List (Key × D)) (S : Sto) : Res D := match b with
  | false => .ok (.dK kds) S
  | true => .ok (.ref S.length) (S ++ [some (.dK kds)])
def p_dT (b : Bool) (kds : List (List Key × D)) (S : Sto) : Res D := match b with
  | false => .ok (.dT kds) S
  | true => .ok (.ref S.length) (S ++ [some (.dT kds)])
theorem snoc_get {ι : Ix} {S : Sto} {H : Hp} (R : Rel G ι S H) (p : Addr) : (ι.snoc p).l[S.length]? = some p := by
  show (ι.l ++ [p])[S.length]? = some p
  rw [← R.len]
  simp
theorem p_dK_ok {E0 : XK} {b : Bool} {ι : Ix} {S : Sto} {H : Hp} {kvs : List (Key × V)} {kds : List (Key × D)} {Q : VK} (R : Rel G ι S H) (e : kvs.map (·.1) = kds.map (·.1)) (r : Reps G ι (Lv ι S) H (kvs.map (·.2)) (kds.map (·.2))) (q : Post G E0 ι S H (PV G Q) (p_dK b kds S)) :
    ∀ p, H p = none → Q (.ref p) (upd H p (.dK kvs)) := fun p hp => by
  cases b with
  | false =>
    have x : Ext ι S H ι S (upd H p (.dK kvs)) := Ext.same (keepNew hp)
    exact q _ _ x (R.same (keepNew hp)) _ (.dK upd_same (R.freshL hp) e (r.mono x))
  | true =>
    have x : Ext ι S H (ι.snoc p) (S ++ [some (.dK kds)]) (upd H p (.dK kvs)) := Ext.new R hp
    exact q _ _ x (R.new hp ⟨kvs, upd_same, e, r.mono x⟩) _ (.ref (snoc_get R p))
def c_dK0 (b : Bool) : ECode := fun _ S => p_dK b [] S
def c_dT0 (b : Bool) : ECode := fun _ S => p_dT b [] S
theorem de_dK0 (b : Bool) {pos : Pos} : DE Xs G E (.Dict [] [] pos) (c_dK0 b) := ⟨_, fun _ => pe_dnewK, fun ι S H σ ρ Q R e q => p_dK_ok R (kvs := []) rfl .nil q⟩
def frz (d : D) (S : Sto) : Res D := match d with
  | .ref n => match cellOf S n with
    | some (.lst ds) => .ok (.lst ds) (S.set n none)
    | some (.dK kds) => .ok (.dK kds) (S.set n none)
    | some (.dT kds) => .ok (.dT kds) (S.set n none)
    | some (.ins c fs) => .ok (.obj c fs) (S.set n none)
    | none => .ok d S
  | d => .ok d S
def c_frz (a : ECode) : ECode := fun ρ S => (a ρ S).bind frz
end
section
variable {X : Cx} {pins : List (Addr × Obj)} {σ : L2.St} {H : Hp} {s : Shared} {a : Addr} {y v : V} {u r : Value} {A : Around} {E : Value → Shared → Prop}
theorem d_dictSet {H' : Hp} {Q : Unit → Shared → Prop} (hu : A.units + 1 < cLine) (I : Inv X pins σ H s) (g : DPut H a y v H') (ry : RelV y u) (rv : RelV v r) (h : ∀ s', Inv X pins σ H' s' → Q () s') :
    wpAny (model X.prog X.w) A (dictSet a u r) Q E s := by
  rcases g with ⟨kvs, k, e, ey, l, eH⟩ | ⟨kvs, k, b, e, ey, eb, l, eH⟩
  · subst ey eH
    obtain ⟨z, hd, vs, rel, dd⟩ := dk_of I.hok e
    have hz : vs.length ≤ sizeLine := by rw [← rel.length]; exact z
    have hl : (putK kvs k v).length ≤ sizeLine := by have := length_putK kvs k v; omega
    refine wpAny_dictSet_pairs (hsz := hz) (kV_is ry) dd fun h' dd' hs => h _ ?_
    have he : ∃ q, h'.get? a = some q := let ⟨q, _, _, hq, _⟩ := dd'; ⟨q, hq⟩
    exact d_write I (by rw [e]; exact True.intro) hs he (dk_new hl hd (rel.put k rv) dd')
  · subst ey eH
    cases (show u = Value.ref b from ry)
    obtain ⟨z, hd, xs, rel, dd⟩ := dt_of I.hok e
    have hz : xs.length ≤ sizeLine := by rw [← Paired.length rel]; exact z
    have hl : (putK kvs k v).length ≤ sizeLine := by have := length_putK kvs k v; omega
    refine wpAny_dictSet_heap (hsz := hz) (show A.units < cLine by omega) (key_of I.hok eb) dd fun h' dd' hs => h _ ?_
    obtain ⟨q, es, ep, hq, h2, h3, h4, _, h5⟩ := dd'
    refine d_write I (by rw [e]; exact True.intro) hs ⟨q, hq⟩ ⟨hl, hd, _, (rel.put k eb rv).keeps fun c ys ec => ?_, q, es, ep, hq, h2, h3, h4, h5⟩
    rw [upd_ne (ne_of ec e (fun z => nomatch z))]
    exact ec
end
def emptyD : Bool → HO
  | false => .dK []
  | true => .dT []
def Puts (p : Addr) : List (V × V) → Hp → Hp → Prop
  | [], H, H' => H' = H
  | (x, y) :: r, H, H' => ∃ H1, DPut H p x y H1 ∧ Puts p r H1 H'
def tDispU (kT : Bool) (trs : List (TE × TE)) : TE := fun σ H Q => ∀ p, H p = none → tPairs trs σ (upd H p (emptyD kT)) fun ps H2 => ∃ H3, Puts p ps H2 H3 ∧ Q (.ref p) H3
theorem store_all {X : Cx} {pins : List (Addr × Obj)} {σ : L2.St} {A : Around} {E : Value → Shared → Prop} {a : Addr} (hu : A.units + 1 < cLine) : ∀ (ps : List (V × V)) (ws : List (Value × Value)) (H H' : Hp) (s : Shared) (Q : PUnit → Shared → Prop), Inv X pins σ H s → VV ps ws → Puts a ps H H' →
    (∀ s', Inv X pins σ H' s' → Q PUnit.unit s') →
    wpAny (model X.prog X.w) A (forIn ws PUnit.unit fun (x : Value × Value) (_ : PUnit) => (do dictSet a x.1 x.2; pure (ForInStep.yield PUnit.unit) : Sem (ForInStep PUnit))) Q E s
  | [], _, H, H', s, Q, I, .nil, g, h => by
    rw [List.forIn_nil]
    obtain rfl : H' = H := g
    exact wpAny_pure (h s I)
  | (x, y) :: ps, _, H, H', s, Q, I, .cons r rs, ⟨H1, g1, g2⟩, h => by
    rw [List.forIn_cons]
    refine wpAny_bind (wpAny_bind (d_dictSet hu I g1 r.1 r.2 fun s1 I1 => wpAny_pure ?_))
    exact store_all hu ps _ H1 H' s1 Q I1 rs g2 h
theorem pe_dispU (kT : Bool) {X : Cx} {pos : Pos} {keys : List (Option Expr)} {values : List Expr} {trs : List (TE × TE)} (hu : X.A.units + 1 < cLine) (h : PPs X pos keys values trs) (hall : keys.all (·.isSome) = true) (hl : keys.length = values.length) (h0 : keys ≠ [])
    (h15 : keys.length ≤ 15) : PE X (.Dict keys values pos) (tDispU kT trs) := by
  refine ⟨fun pins s σ H Q I q => ?_⟩
  have hn := I.hok.fresh (Nat.le_refl s.heap.objs.size)
  have I1 : Inv X pins σ (upd H s.heap.objs.size (emptyD kT)) { s with heap := s.heap.push { cls := .type "dict", data := .dict #[] } } := by
    cases kT with
    | false => exact I.laid (a := s.heap.objs.size) (o := .dK []) (h' := s.heap.push { cls := .type "dict", data := .dict #[] }) (t' := s.toks) (fun _ _ q => Heap.get?_push_of_some _ q) (Nat.le_refl _) (dk_empty s.heap I.big)
    | true => exact I.laid (a := s.heap.objs.size) (o := .dT []) (h' := s.heap.push { cls := .type "dict", data := .dict #[] }) (t' := s.toks) (fun _ _ q => Heap.get?_push_of_some _ q) (Nat.le_refl _) (dt_empty s.heap I.big)
  have hpl := pairTrees_length keys values X.env pos hall hl
  have hne : pairTrees keys values X.env pos ≠ [] := fun he => by
    rw [he] at hpl
    exact h0 (List.length_eq_zero_iff.mp hpl.symm)
  rw [arm_eval_Dict, zip_pairTrees keys values X.env pos hall hl, dictDisplay_pairs _ hne (by omega)]
  refine wpAny_bind (wpAny_standAt (wpAny_bind ?_))
  unfold subDict
  refine wpAny_bind (wpAny_alloc ?_)
  refine wpAny_bind (wpAny_holding ?_)
  rw [if_pos (by omega)]
  refine wpAny_bind (thn (h.run pins _ σ _ _ I1 (q _ hn)) fun ws s2 ⟨ps, H2, I2, rel, H3, g, q2⟩ => ?_)
  refine wpAny_holding ?_
  refine wpAny_bind (store_all hu ps ws H2 H3 s2 _ I2 rel g fun s3 I3 => wpAny_pure (wpAny_pure (wpAny_pure ?_)))
  exact ⟨.ref s.heap.objs.size, H3, I3, rfl, q2⟩
def SndPs (G : Gx) (E : WK) (trs : List (TE × TE)) (c : Env → Sto → Res (List (D × D))) : Prop := ∀ ι S H σ ρ (Q : List (V × V) → Hp → Prop), Rel G ι S H → REnv G ι S H σ ρ →
  Post G (E σ) ι S H (fun ps ι' S' H' => ∀ vs : List (V × V), Reps G ι' (Lv ι' S') H' (vs.map (·.1)) (ps.map (·.1)) → Reps G ι' (Lv ι' S') H' (vs.map (·.2)) (ps.map (·.2)) → Q vs H') (c ρ S) → tPairs trs σ H Q
def DPs {I : Type} (Xs : I → Cx) (G : Gx) (E : WK) (pos : Pos) (keys : List (Option Expr)) (values : List Expr) (c : Env → Sto → Res (List (D × D))) : Prop := ∃ trs, (∀ j, PPs (Xs j) pos keys values trs) ∧ SndPs G E trs c
def c_ps0 : Env → Sto → Res (List (D × D)) := fun _ S => .ok [] S
def c_ps (k v : ECode) (r : Env → Sto → Res (List (D × D))) : Env → Sto → Res (List (D × D)) := fun ρ S => (k ρ S).bind fun x S1 => (v ρ S1).bind fun y S2 => (r ρ S2).bind fun ps S3 => .ok ((x, y) :: ps) S3
section
variable {I : Type} {Xs : I → Cx} {G : Gx} {E : WK} {kk : Nat}
theorem dps_nil {pos : Pos} : DPs Xs G E pos [] [] c_ps0 := ⟨[], fun _ => pps_nil, fun ι S H σ ρ Q R e q => Post.here R q [] .nil .nil⟩
theorem dps_cons {pos : Pos} {k v : Expr} {ks : List (Option Expr)} {vs : List Expr} {ck cv : ECode} {r : Env → Sto → Res (List (D × D))} (hk : DE Xs G E k ck) (hv : DE Xs G E v cv) (hr : DPs Xs G E pos ks vs r) : DPs Xs G E pos (some k :: ks) (v :: vs) (c_ps ck cv r) := by
  obtain ⟨tk, pk, sk⟩ := hk
  obtain ⟨tv, pv, sv⟩ := hv
  obtain ⟨tr, pr, sr⟩ := hr
  refine ⟨(tk, tv) :: tr, fun j => pps_cons (pk j) (pv j) (pr j), fun ι S H σ ρ Q R e q => ?_⟩
  refine sk.go R e q fun d S1 ι1 H1 x x1 R1 e1 r1 q1 => ?_
  refine sv.go R1 e1 q1 fun d2 S2 ι2 H2 y x2 R2 e2 r2 q2 => ?_
  refine sr ι2 S2 H2 σ ρ _ R2 e2 (Post.bind q2 fun ps S3 ι3 H3 x3 R3 q3 vs h1 h2 => ?_)
  exact Post.here R3 q3 ((x, y) :: vs) (.cons ((r1.mono x2).mono x3) h1) (.cons (r2.mono x3) h2)
def mergeD {κ : Type} [DecidableEq κ] (kds : List (κ × D)) : List (κ × D) → List (κ × D)
  | [] => kds
  | p :: r => mergeD (putD kds p.1 p.2) r
def keyedK (ps : List (D × D)) : Option (List (Key × D)) := ps.mapM fun p => (keyOf p.1).map fun k => (k, p.2)
def keyedT (ps : List (D × D)) : Option (List (List Key × D)) := ps.mapM fun p => (keysOf p.1).map fun k => (k, p.2)
def p_dispK (b : Bool) (ps : List (D × D)) (S : Sto) : Res D := match keyedK ps with
  | some kds => if kds.length ≤ 1000 then p_dK b (mergeD [] kds) S else .stuck
  | none => .stuck
def p_dispT (b : Bool) (ps : List (D × D)) (S : Sto) : Res D := match keyedT ps with
  | some kds => if kds.length ≤ 1000 then p_dT b (mergeD [] kds) S else .stuck
  | none => .stuck
theorem putD_length {κ : Type} [DecidableEq κ] (kds : List (κ × D)) (k : κ) (d : D) : (putD kds k d).length ≤ kds.length + 1 := by
  unfold putD
  split <;> simp
theorem hide_rel {ι : Ix} {S : Sto} {H : Hp} {p : Addr} {o : HO} (R : Rel G ι S H) (hp : H p = none) (hnt : ∀ xs, o ≠ .tup xs) : Ext ι S H (ι.hide p) S (upd H p o) ∧ Rel G (ι.hide p) S (upd H p o) := by
  have np : p ∉ ι.l := fun z => by
    obtain ⟨u, h⟩ := R.trk p z
    rw [hp] at h
    cases h
  have R2 : Rel G ι S (upd H p o) := R.same (keepNew hp)
  have x0 : Ext ι S H ι S (upd H p o) := Ext.same (keepNew hp)
  have xh : Ext ι S H (ι.hide p) S (upd H p o) := by
    refine ⟨⟨[], by simp⟩, fun a z => .inl z, fun a z => ?_, x0.trk, x0.liv, x0.keep⟩
    rcases z with z | z
    · exact .inl z
    · exact .inr (by rw [z]; exact hp)
  refine ⟨xh, R2.len, R2.nd, fun n c h => ?_, R2.trk, fun a z => ?_⟩
  · obtain ⟨a, h1, h2⟩ := R.cell n c h
    exact ⟨a, h1, h2.mono xh (upd_ne fun z => np (z ▸ List.mem_of_getElem? h1))⟩
  · rcases z with z | z
    · exact R2.ztr a z
    · rw [z]
      exact ⟨⟨_, upd_same, hnt⟩, np⟩
theorem puts_K {ι0 : Ix} {S0 : Sto} {H0 : Hp} {p : Addr} (hp0 : H0 p = none) {ι : Ix} {S : Sto} (hz : ι.z p) : ∀ (vs : List (V × V)) (kds acc : List (Key × D)) (kvs : List (Key × V)) (H : Hp), Ext ι0 S0 H0 ι S H → Rel G ι S H → H p = some (.dK kvs) → kvs.map (·.1) = acc.map (·.1) →
    Reps G ι (Lv ι S) H (kvs.map (·.2)) (acc.map (·.2)) → vs.map (·.1) = kds.map (fun kd => kV kd.1) → Reps G ι (Lv ι S) H (vs.map (·.2)) (kds.map (·.2)) → acc.length + kds.length ≤ 1000 →
    ∃ H' kvs', Puts p vs H H' ∧ Ext ι0 S0 H0 ι S H' ∧ Rel G ι S H' ∧ H' p = some (.dK kvs') ∧ kvs'.map (·.1) = (mergeD acc kds).map (·.1) ∧ Reps G ι (Lv ι S) H' (kvs'.map (·.2)) ((mergeD acc kds).map (·.2))
  | [], [], acc, kvs, H, x, R, hH, he, hr, _, _, _ => ⟨H, kvs, rfl, x, R, hH, he, hr⟩
  | [], _ :: _, _, _, _, _, _, _, _, _, e, _, _ => by cases e
  | _ :: _, [], _, _, _, _, _, _, _, _, e, _, _ => by cases e
  | (a, w) :: vs, (k, d) :: kds, acc, kvs, H, x, R, hH, he, hr, e, .cons r rs, hl => by
    simp only [List.map_cons, List.cons.injEq] at e
    obtain ⟨rfl, e⟩ := e
    obtain ⟨e1, e2⟩ := putD_rep k he hr r
    obtain ⟨m1, m2, R1⟩ := R.hid (o := .dK (putK kvs k w)) hz (fun _ h => nomatch h)
    have hln := len_fst he
    simp only [List.length_cons] at hl
    obtain ⟨H', kvs', g, x', R', hH', he', hr'⟩ := puts_K hp0 hz vs kds (putD acc k d) (putK kvs k w) (upd H p (.dK (putK kvs k w))) (x.hid hp0) R1 upd_same e1 (m2 _ _ e2) e (m2 _ _ rs) (by have := putD_length acc k d; omega)
    exact ⟨H', kvs', ⟨_, DPut.k hH (by rw [hln, sizeLine_eq]; omega), g⟩, x', R', hH', he', hr'⟩
theorem keyedK_rep {ι : Ix} {L : Addr → Prop} {H : Hp} : ∀ {vs : List (V × V)} {ps : List (D × D)} {kds : List (Key × D)}, Reps G ι L H (vs.map (·.1)) (ps.map (·.1)) → keyedK ps = some kds → vs.map (·.1) = kds.map (fun kd => kV kd.1) ∧ ps.map (·.2) = kds.map (·.2)
  | [], [], kds, _, h => by
    cases h
    exact ⟨rfl, rfl⟩
  | (v, w) :: vs, (x, y) :: ps, kds, .cons q qs, h => by
    unfold keyedK at h
    rw [List.mapM_cons] at h
    cases hk : keyOf x with
    | none => simp only [hk, Option.map_none] at h; cases h
    | some k =>
      simp only [hk, Option.map_some] at h
      cases ht : keyedK ps with
      | none =>
        unfold keyedK at ht
        rw [ht] at h
        cases h
      | some kds' =>
        have ih := keyedK_rep qs ht
        unfold keyedK at ht
        rw [ht] at h
        cases h
        have e0 : v = kV k := keyOf_rep q hk
        exact ⟨by rw [List.map_cons, List.map_cons, ih.1, e0], by rw [List.map_cons, List.map_cons, ih.2]⟩
theorem shown {ι0 ι : Ix} {S0 S : Sto} {H0 H : Hp} {p : Addr} (R0 : Rel G ι0 S0 H0) (hp : H0 p = none) (x : Ext ι0 S0 H0 ι S H) (R : Rel G ι S H) (hz : ι.z p) :
    Ext ι0 S0 H0 ⟨ι.l, fun a => ι.z a ∧ a ≠ p⟩ S H ∧ Rel G ⟨ι.l, fun a => ι.z a ∧ a ≠ p⟩ S H ∧ (∀ vs ds, Reps G ι (Lv ι S) H vs ds → Reps G ⟨ι.l, fun a => ι.z a ∧ a ≠ p⟩ (Lv ⟨ι.l, fun a => ι.z a ∧ a ≠ p⟩ S) H vs ds) ∧ ¬ Lv ⟨ι.l, fun a => ι.z a ∧ a ≠ p⟩ S p := by
  have nz : ∀ a, ι0.z a → a ≠ p := fun a z e' => by
    obtain ⟨⟨u, h, _⟩, _⟩ := R0.ztr a z
    rw [e', hp] at h
    cases h
  have hw : ∀ a, Lv ⟨ι.l, fun a => ι.z a ∧ a ≠ p⟩ S a → Lv ι S a := fun a z => by
    rcases z with z | z
    · exact .inl z
    · exact .inr z.1
  have np : p ∉ ι.l := (R.ztr p hz).2
  refine ⟨⟨x.pre, fun a z => ⟨x.zs a z, nz a z⟩, fun a z => x.zn a z.1, x.trk, x.liv, x.keep⟩, R.unhide, fun vs ds r => r.weak (ι := ι) (ι' := ⟨ι.l, fun a => ι.z a ∧ a ≠ p⟩) hw rfl, fun z => ?_⟩
  rcases z with ⟨n, c, h1, _⟩ | z
  · exact np (List.mem_of_getElem? h1)
  · exact z.2 rfl
theorem adopt {ι0 ι : Ix} {S0 S : Sto} {H0 H : Hp} {p : Addr} {c : Cell} (R0 : Rel G ι0 S0 H0) (hp : H0 p = none) (x : Ext ι0 S0 H0 ι S H) (R : Rel G ι S H) (hz : ι.z p) (hc : CellIs G ι (Lv ι S) H p c) :
    Ext ι0 S0 H0 ⟨ι.l ++ [p], fun a => ι.z a ∧ a ≠ p⟩ (S ++ [some c]) H ∧ Rel G ⟨ι.l ++ [p], fun a => ι.z a ∧ a ≠ p⟩ (S ++ [some c]) H := by
  have nz : ∀ a, ι0.z a → a ≠ p := fun a z e' => by
    obtain ⟨⟨u, h, _⟩, _⟩ := R0.ztr a z
    rw [e', hp] at h
    cases h
  have np : p ∉ ι.l := (R.ztr p hz).2
  have old : ∀ n a c', (ι.l ++ [p])[n]? = some a → (S ++ [some c])[n]? = some (some c') → (ι.l[n]? = some a ∧ S[n]? = some (some c')) ∨ (a = p ∧ c' = c ∧ n = S.length) := fun n a c' h1 h2 => by
    by_cases hlt : n < S.length
    · rw [List.getElem?_append_left hlt] at h2
      rw [List.getElem?_append_left (by rw [R.len]; exact hlt)] at h1
      exact .inl ⟨h1, h2⟩
    · have hl : n < (S ++ [some c]).length := (List.getElem?_eq_some_iff.mp h2).1
      have e : n = S.length := by
        simp at hl
        omega
      subst e
      rw [← R.len] at h1
      simp at h1 h2
      exact .inr ⟨h1.symm, h2.symm, rfl⟩
  have hw : ∀ a, Lv ⟨ι.l ++ [p], fun a => ι.z a ∧ a ≠ p⟩ (S ++ [some c]) a → Lv ι S a := fun a z => by
    rcases z with ⟨n, c', h1, h2⟩ | z
    · rcases old n a c' h1 h2 with ⟨h1, h2⟩ | ⟨rfl, _, _⟩
      · exact .inl ⟨n, c', h1, h2⟩
      · exact .inr hz
    · exact .inr z.1
  have hl : ∀ m, m < ι.l.length → (⟨ι.l ++ [p], fun a => ι.z a ∧ a ≠ p⟩ : Ix).l[m]? = ι.l[m]? := fun m hm => List.getElem?_append_left hm
  have up : ∀ a c', CellIs G ι (Lv ι S) H a c' → CellIs G ⟨ι.l ++ [p], fun a => ι.z a ∧ a ≠ p⟩ (Lv ⟨ι.l ++ [p], fun a => ι.z a ∧ a ≠ p⟩ (S ++ [some c])) H a c' := fun a c' h => by
    cases c' with
    | lst ds =>
      obtain ⟨vs, a1, a2⟩ := h
      exact ⟨vs, a1, Reps.cut hw hl a2.lt a2⟩
    | dK ds =>
      obtain ⟨vs, a1, a3, a2⟩ := h
      exact ⟨vs, a1, a3, Reps.cut hw hl a2.lt a2⟩
    | dT ds =>
      obtain ⟨vs, a1, a3, a2⟩ := h
      exact ⟨vs, a1, a3, Reps.cut hw hl a2.lt a2⟩
    | ins c fs =>
      obtain ⟨dx, vs, a1, a3, a2⟩ := h
      exact ⟨dx, vs, a1, a3, Reps.cut hw hl a2.lt a2⟩
  obtain ⟨t, ht⟩ := x.pre
  refine ⟨⟨⟨t ++ [p], by rw [ht, List.append_assoc]⟩, fun a z => ⟨x.zs a z, nz a z⟩, fun a z => x.zn a z.1, x.trk, fun a z => ?_, x.keep⟩, ⟨by simp [R.len], ?_, fun n c' h => ?_, fun a ha => ?_, fun a z => ?_⟩⟩
  · obtain ⟨n, c', h1, h2⟩ := z
    rcases old n a c' h1 h2 with ⟨h1, h2⟩ | ⟨rfl, _, _⟩
    · exact x.liv a ⟨n, c', h1, h2⟩
    · exact .inr hp
  · show (ι.l ++ [p]).Nodup
    rw [List.nodup_append]
    refine ⟨R.nd, by simp, fun a ha b hb z => ?_⟩
    simp at hb
    exact np (by rw [← hb, ← z]; exact ha)
  · by_cases hlt : n < S.length
    · rw [List.getElem?_append_left hlt] at h
      obtain ⟨a, h1, h2⟩ := R.cell n c' h
      exact ⟨a, by show (ι.l ++ [p])[n]? = some a; rw [List.getElem?_append_left (by rw [R.len]; exact hlt)]; exact h1, up a c' h2⟩
    · have hln : n < (S ++ [some c]).length := (List.getElem?_eq_some_iff.mp h).1
      have e : n = S.length := by
        simp at hln
        omega
      subst e
      simp at h
      subst h
      refine ⟨p, ?_, up p _ hc⟩
      show (ι.l ++ [p])[S.length]? = some p
      rw [← R.len]
      simp
  · rcases List.mem_append.mp ha with ha | ha
    · exact R.trk a ha
    · simp at ha
      subst ha
      obtain ⟨⟨o, h, _⟩, _⟩ := R.ztr a hz
      exact ⟨o, h⟩
  · obtain ⟨q, n⟩ := R.ztr a z.1
    refine ⟨q, fun hm => ?_⟩
    rcases List.mem_append.mp hm with hm | hm
    · exact n hm
    · simp at hm
      exact z.2 hm
theorem show_K {b : Bool} {ι0 ι : Ix} {S0 S : Sto} {H0 H : Hp} {p : Addr} {kvs : List (Key × V)} {kds : List (Key × D)} {Q : VK} (R0 : Rel G ι0 S0 H0) (hp : H0 p = none) (x : Ext ι0 S0 H0 ι S H) (R : Rel G ι S H) (hz : ι.z p) (hH : H p = some (.dK kvs)) (he : kvs.map (·.1) = kds.map (·.1))
    (hr : Reps G ι (Lv ι S) H (kvs.map (·.2)) (kds.map (·.2))) (q : Post G (E σ) ι0 S0 H0 (PV G Q) (p_dK b kds S)) : Q (.ref p) H := by
  cases b with
  | false =>
    obtain ⟨xu, Ru, hu, nl⟩ := shown R0 hp x R hz
    exact q _ _ xu Ru _ (.dK hH nl he (hu _ _ hr))
  | true =>
    obtain ⟨xu, Ru⟩ := adopt (c := .dK kds) R0 hp x R hz ⟨kvs, hH, he, hr⟩
    refine q _ _ xu Ru _ (.ref ?_)
    show (ι.l ++ [p])[S.length]? = some p
    rw [← R.len]
    simp
def c_dispK (b : Bool) (r : Env → Sto → Res (List (D × D))) : ECode := fun ρ S => (r ρ S).bind (p_dispK b)
def c_dispT (b : Bool) (r : Env → Sto → Res (List (D × D))) : ECode := fun ρ S => (r ρ S).bind (p_dispT b)
theorem Post.step {E0 : XK} {ιb ι : Ix} {Sb S : Sto} {Hb H : Hp} {α β : Type} {P : α → Ix → Sto → Hp → Prop} {P' : β → Ix → Sto → Hp → Prop} {r : Res α} {k : α → Sto → Res β} (x0 : Ext ιb Sb Hb ι S H) (p : Post G E0 ιb Sb Hb P' (r.bind k))
    (hk : ∀ a S1 ι1 H1, Ext ι S H ι1 S1 H1 → Rel G ι1 S1 H1 → Post G E0 ιb Sb Hb P' (k a S1) → P a ι1 S1 H1) : Post G E0 ι S H P r := by
  cases r with
  | ok a S2 => exact fun ι2 H2 y R => hk a S2 ι2 H2 y R p
  | ex c d S2 => exact fun ι2 H2 dd v y R => p ι2 H2 dd v (x0.trans y) R
  | stuck => exact p
theorem de_dispK (b : Bool) (F : Fam Xs G E kk) {pos : Pos} {keys : List (Option Expr)} {values : List Expr} {r : Env → Sto → Res (List (D × D))} (h : DPs Xs G E pos keys values r) (hall : keys.all (·.isSome) = true) (hl : keys.length = values.length) (h0 : keys ≠ []) (h15 : keys.length ≤ 15) :
    DE Xs G E (.Dict keys values pos) (c_dispK b r) := by
  obtain ⟨trs, pr, sr⟩ := h
  refine ⟨_, fun j => pe_dispU false (F.hu j) (pr j) hall hl h0 h15, fun ι S H σ ρ Q R e q p hp => ?_⟩
  obtain ⟨x0, R1⟩ := hide_rel (o := .dK []) R hp (fun _ h => nomatch h)
  refine sr (ι.hide p) S _ σ ρ _ R1 (e.mono x0) (Post.step x0 q fun ps S2 ι2 H2 x2 R2 q2 vs h1 h2 => ?_)
  have nl : ¬ Liv (ι.hide p) S p := fun z => by
    obtain ⟨n, c, h1, _⟩ := z
    exact (R1.ztr p (.inr rfl)).2 (List.mem_of_getElem? h1)
  have hH : H2 p = some (.dK []) := x2.keep p _ upd_same nl
  unfold p_dispK at q2
  cases hk : keyedK ps with
  | none => rw [hk] at q2; exact q2.elim
  | some kds =>
    rw [hk] at q2
    have q2 : Post G (E σ) ι S H (PV G Q) (if kds.length ≤ 1000 then p_dK b (mergeD [] kds) S2 else .stuck) := q2
    by_cases hlen : kds.length ≤ 1000
    · rw [if_pos hlen] at q2
      obtain ⟨e1, e2⟩ := keyedK_rep h1 hk
      rw [e2] at h2
      have xx : Ext ι S H ι2 S2 H2 := x0.trans x2
      obtain ⟨H3, kvs, g, x3, R3, hH3, he3, hr3⟩ := puts_K hp (x2.zs p (.inr rfl)) vs kds [] [] H2 xx R2 hH rfl .nil e1 h2 (by simpa using hlen)
      exact ⟨H3, g, show_K R hp x3 R3 (x2.zs p (.inr rfl)) hH3 he3 hr3 q2⟩
    · rw [if_neg hlen] at q2
      exact q2.elim
end
def Tells (n : Nat) (m : List D → Sto → Res D) : Prop := ∀ ns : List Int, ns.length ≤ n → (∀ z ∈ ns, Builtin.Int.intBits z ≤ 1048576) → ∃ S, m [.scr (ns.map D.int)] [] = .ok (.bl true) S
theorem scr_reps {G : Gx} {ι : Ix} {L : Addr → Prop} {H : Hp} : ∀ ns : List Int, Reps G ι L H (ns.map V.int) (ns.map D.int)
  | [] => .nil
  | n :: ns => .cons (.int n) (scr_reps ns)
theorem law_callD {G0 : Heap → Gx} {P : Program} {w : World} {K : PySem.W.Frag} {mg mb : Str → Option Value} {k : Nat} {fa a : Addr} {fd : FuncData} {x : Str} {m : Gx → List D → Sto → Res D} {s₁ : Shared} {vs : List Value} {ns : List Int}
    (hG : ∀ base, (G0 base).P = P ∧ (G0 base).w = w ∧ (G0 base).K = K ∧ (G0 base).mg = mg ∧ (G0 base).base = base)
    (KX : K.In s₁.heap) (hns : s₁.heap.Ns mainGlobals mg) (hb : s₁.heap.Ns builtinsNs mb) (hbb : ∀ x : Str, x ≠ "__name__" → mb x = bootBuiltins x) (hlim : s₁.heap.NoLimit) (hg : s₁.gens = #[])
    (ha : s₁.heap.get? a = some { cls := .type "list", data := .seq vs.toArray }) (hi : IntsAre vs ns) (hl : ns.length ≤ sizeLine) (hr : Room k callerA)
    (F : ∀ base : Heap, K.In base → base.Ns mainGlobals mg → FnB (G0 base) k fa fd [x] (m (G0 base))) (hbind : ∀ (s : Shared) (u : Value), BindsTo s fd ⟨[u], []⟩ [(x, u)])
    (hm : ∀ base, ∃ S, m (G0 base) [.scr (ns.map D.int)] [] = .ok (.bl true) S) :
    codeAny (model P w) callerA (.call (.ref fa) ⟨[.ref a], []⟩) (fun r s' => r = .ok (.ret (.bool true)) ∧ OldK s₁.heap s'.heap ∧ s'.os = s₁.os ∧ AllBare s'.gens) s₁ := by
  have rv := vals_ints hi
  have lenV := hi.length
  have core : ∀ H : Hp, Only H → SqL K H a (ns.map V.int) → HOk P w H s₁.heap → (∀ b, H b ≠ none → b = a) → (H a ≠ none → K.lookup a = none) →
      codeAny (model P w) callerA (.call (.ref fa) ⟨[.ref a], []⟩) (fun r s' => r = .ok (.ret (.bool true)) ∧ OldK s₁.heap s'.heap ∧ s'.os = s₁.os ∧ AllBare s'.gens) s₁ := by
    intro H hO hS hok hA hK
    have base_of : ∀ {b : Addr} {o : Obj}, s₁.heap.get? b = some o → H b = none → (hidT s₁.heap H).get? b = some o := fun e n => hidT_get e n
    have noA : ∀ {b : Addr} {o : Obj} {es : Array DictEntry} {ep : Nat}, s₁.heap.get? b = some o → o.data = .dict es ep → H b = none := fun {b o es ep} e d => by
      cases q : H b with
      | none => rfl
      | some u =>
        have e' : b = a := hA b (by rw [q]; simp)
        subst e'
        rw [ha] at e; cases e
        have d' : Data.seq vs.toArray _ = Data.dict es ep := d
        cases d'
    have nsK : ∀ {b : Addr} {m : Str → Option Value}, s₁.heap.Ns b m → (hidT s₁.heap H).Ns b m := fun {b m} ⟨o, es, ep, e, d, r⟩ => ⟨o, es, ep, base_of e (noA e d), d, r⟩
    have hKb : K.In (hidT s₁.heap H) := fun b o e => base_of (KX b o e) (by
      cases q : H b with
      | none => rfl
      | some u =>
        have e' : b = a := hA b (by rw [q]; simp)
        subst e'
        rw [hK (by rw [q]; simp)] at e; cases e)
    have hM : Mod K mg (hidT s₁.heap H) := ⟨hKb, nsK hns, ⟨mb, nsK hb, hbb⟩, let ⟨mc, h1, h2⟩ := hlim; ⟨mc, nsK h1, h2⟩⟩
    have e0 : Env0 P w K mg (hidT s₁.heap H) callerA [] s₁ H := ⟨rfl, hM, fun b o e => of_hidT e, Nat.le_of_eq (hidT_size _ _), trivial, fun b hb => absurd (show b ∈ ([] : List Addr) from hb) (by simp), hok, .of_eq hg⟩
    obtain ⟨g1, g2, g3, g4, g5⟩ := hG (hidT s₁.heap H)
    obtain ⟨S', hS'⟩ := hm (hidT s₁.heap H)
    have R : Rel (G0 (hidT s₁.heap H)) ⟨[], fun _ => False⟩ [] H := ⟨rfl, List.nodup_nil, fun n c h => by simp at h, fun a h => by simp at h, fun a h => h.elim⟩
    have nl : ¬ Lv ⟨[], fun _ => False⟩ [] a := fun z => by
      rcases z with ⟨n, c, h1, _⟩ | z
      · simp at h1
      · exact z
    have rs : Rep (G0 (hidT s₁.heap H)) ⟨[], fun _ => False⟩ (Lv ⟨[], fun _ => False⟩ []) H (.ref a) (.scr (ns.map D.int)) := by
      refine .scr ?_ (scr_reps ns)
      rcases hS with q | q
      · exact .inl ⟨q, nl⟩
      · exact .inr (by rw [g3]; exact q)
    have e1 : Env0 (G0 (hidT s₁.heap H)).P (G0 (hidT s₁.heap H)).w (G0 (hidT s₁.heap H)).K (G0 (hidT s₁.heap H)).mg (G0 (hidT s₁.heap H)).base callerA [] s₁ H := by
      rw [g1, g2, g3, g4, g5]
      exact e0
    have key := F _ hKb (nsK hns) callerA [] s₁ H ⟨[.ref a], []⟩ [.ref a] [.ref a] (fun v _ => v = .bl true) (fun _ _ _ => False) ⟨[], fun _ => False⟩ [] [.scr (ns.map D.int)] rfl hr e1 (hbind s₁ (.ref a)) (.cons rfl .nil) R (.cons rs .nil) rfl
      (by rw [hS']; exact fun ι' H' x R' v r => r.bl_of)
    rw [g1, g2] at key
    refine codeAny_mono key fun r s' h => ?_
    cases r with
    | error e =>
      obtain ⟨_, _, _, _, _, _, _, _, _, _, _, _, z⟩ := h
      exact z.elim
    | ok fl =>
      cases fl with
      | next => exact False.elim h
      | brk => exact False.elim h
      | cont => exact False.elim h
      | ret u =>
        obtain ⟨v, H', os, bare, un, hok', r', q⟩ := h
        have q' : v = .bl true := q
        subst q'
        obtain rfl : u = Value.bool true := r'
        refine ⟨rfl, OldK.of_keep fun b o e => ?_, os, bare⟩
        cases q : H b with
        | none => exact un.keep b o e q (by intro z; exact absurd (show b ∈ ([] : List Addr) from z) (by simp)) (by simp)
        | some u =>
          rcases hO b with z | ⟨ob, xs, z⟩
          · rw [q] at z; cases z
          · have z2 := un.frzs b ob _ z
            obtain ⟨e1, _⟩ := hok b _ z
            obtain ⟨e2, _⟩ := hok' b _ z2
            rw [e] at e1; cases e1
            exact e2
  cases hk : K.lookup a with
  | some o =>
    have e := KX a o hk
    rw [ha] at e
    cases e
    refine core (fun _ => none) (fun _ => .inl rfl) (.inr ⟨_, vs.toArray, _, hk, rfl, rfl, rfl, by rw [List.size_toArray, lenV]; exact hl, by simpa using rv⟩) (fun b u z => by have z' : (none : Option HO) = some u := z; cases z') (fun b z => absurd rfl z) fun z => absurd rfl z
  | none =>
    refine core (fun b => if b = a then some (.frz { cls := .type "list", data := .seq vs.toArray } (.lst (ns.map V.int))) else none) (fun b => ?_) (.inl (.inr ⟨{ cls := .type "list", data := .seq vs.toArray }, if_pos rfl⟩)) (fun b u z => ?_) (fun b z => ?_) fun _ => hk
    · by_cases hb : b = a
      · exact .inr ⟨_, _, if_pos hb⟩
      · exact .inl (if_neg hb)
    · by_cases hb : b = a
      · have z' := (if_pos hb).symm.trans z
        cases z'
        subst hb
        exact ⟨ha, by rw [List.length_map]; exact hl, vs, _, rv, ha⟩
      · have z' := (if_neg hb).symm.trans z
        cases z'
    · by_cases hb : b = a
      · exact hb
      · exact absurd (if_neg hb) z
def gP {α : Type} (z : α) (perm : List Nat) (us ws : List α) : List α := perm.map fun i => (us ++ ws).getD i z
theorem gP_vals : ∀ {perm : List Nat} {vs zs : List V} {us ws : List Value}, Vals vs us → Vals zs ws → Vals (gP V.non perm vs zs) (gP Value.none perm us ws)
  | [], _, _, _, _, _, _ => .nil
  | i :: perm, vs, zs, us, ws, r, q => by
    refine .cons ?_ (gP_vals (perm := perm) r q)
    have rq := r.append q
    show RelV ((vs ++ zs).getD i V.non) ((us ++ ws).getD i Value.none)
    rw [List.getD_eq_getElem?_getD, List.getD_eq_getElem?_getD]
    cases e : (vs ++ zs)[i]? with
    | none =>
      have hl : (us ++ ws)[i]? = none := by
        rw [List.getElem?_eq_none_iff] at e ⊢
        rw [← rq.length]
        exact e
      rw [hl]
      exact rfl
    | some v =>
      obtain ⟨u, h1, h2⟩ := rq.get e
      rw [h1]
      exact h2
theorem gP_reps {G : Gx} {L : Addr → Prop} {ι : Ix} {H : Hp} : ∀ {perm : List Nat} {vs zs : List V} {ds es : List D}, Reps G ι L H vs ds → Reps G ι L H zs es → Reps G ι L H (gP V.non perm vs zs) (gP D.non perm ds es)
  | [], _, _, _, _, _, _ => .nil
  | i :: perm, vs, zs, ds, es, r, q => by
    refine .cons ?_ (gP_reps (perm := perm) r q)
    have rq := r.app q
    show Rep G ι L H ((vs ++ zs).getD i V.non) ((ds ++ es).getD i D.non)
    rw [List.getD_eq_getElem?_getD, List.getD_eq_getElem?_getD]
    cases e : (ds ++ es)[i]? with
    | none =>
      have hl : (vs ++ zs)[i]? = none := by
        rw [List.getElem?_eq_none_iff] at e ⊢
        rw [rq.length]
        exact e
      rw [hl]
      exact .non
    | some d =>
      obtain ⟨v, h1, h2⟩ := rq.get e
      rw [h1]
      exact h2
theorem fun_kbn {K : PySem.W.Frag} {x qual : Str} {st : Stmt} {f : Addr} {fd : FuncData} {ps ks : List Str} {n : Nat} {perm : List Nat} (F : Fun K x qual st f fd)
    (h : ∀ (kV doc pm : Value) (an : Option Addr) (cdv ct : Value) (us ws : List Value), us.length = n → ws.length = ks.length → bindArgs (PySem.W.fnOf x qual (defArgs st) (defBody st) (defScope st) .none kV doc pm an cdv ct) ⟨us, ks.zip ws⟩ = pure (ps.zip (gP Value.none perm us ws))) :
    KBn K fd ps n ks (gP Value.none perm) (gP V.non perm) := by
  obtain ⟨oc, od, kV, doc, pm, an, cdv, ct, osl, rfl, lk, hcd⟩ := F.ex
  exact ⟨fun s us ws _ h1 h2 => .of_eq (h _ _ _ _ _ _ us ws h1 h2), fun r q => gP_vals r q⟩
theorem gP_ok {G : Gx} {perm : List Nat} {n m' l : Nat} (hl : perm.length = l) : ∀ (L : Addr → Prop) (ι : Ix) (H : Hp) (vs : List V) (ds : List D) (zs : List V) (es : List D), Reps G ι L H vs ds → Reps G ι L H zs es → ds.length = n → es.length = m' → Reps G ι L H (gP V.non perm vs zs) (gP D.non perm ds es) ∧ (gP D.non perm ds es).length = l :=
  fun L ι H vs ds zs es r q _ _ => ⟨gP_reps r q, by unfold gP; rw [List.length_map]; exact hl⟩
section
variable {I : Type} {Xs : I → Cx} {G : Gx} {E : WK} {kk : Nat}
theorem eqD_at (F : FamH Xs G E) (j : I) : OpR (Xs j) (compareOp .Eq) (rEqD G.K) := by
  have z := op_eqD (X := Xs j) (F.hu64 j)
  rw [F.K j] at z
  exact z
theorem neD_at (F : FamH Xs G E) (j : I) : OpR (Xs j) (compareOp .NotEq) (rNeD G.K) := by
  have z := op_neD (X := Xs j) (F.hu64 j)
  rw [F.K j] at z
  exact z
theorem cr_allC (F : Fam Xs G E kk) (j : I) : CallR (Xs j) (.builtin "all") (rAll G.K) := by
  have z := cr_all (X := Xs j) (F.calm j)
  rw [F.K j] at z
  exact z
theorem call_reprC (F : FamH Xs G E) (j : I) : CallR (Xs j) (.builtin "repr") (rRepr G.K) := by
  have z := call_repr (X := Xs j) (F.gd j) (F.hu64 j)
  rw [F.K j] at z
  exact z
def p_addI : D → D → Sto → Res D
  | .int i, .int j, S => .ok (.int (i + j)) S
  | _, _, _ => .stuck
def c_fldS (c i : Nat) (o v : ECode) : SCode := fun ρ S => (v ρ S).bind fun z S0 => (o ρ S0).bind fun x S1 => (p_setF c i x z S1).bind fun _ S2 => .ok (.nx ρ) S2
end
theorem owns_fn {G : Gx} {k : Nat} {N : List Str} {qual : Str} {scope : Scope} {f : Addr} {E : XK} (j : FIdx k qual scope f) : PassesOwn (model (FnX G k N qual scope f E j).prog (FnX G k N qual scope f E j).w) (FnX G k N qual scope f E j).A (FnX G k N qual scope f E j).env (FnX G k N qual scope f E j).xe := passes_of rfl
def c_par3 (i j l : Nat) (a b c : ECode) : SCode := fun ρ S => (a ρ S).bind fun x S1 => (b ρ S1).bind fun y S2 => (c ρ S2).bind fun z S3 => .ok (.nx (((ρ.set i (some x)).set j (some y)).set l (some z))) S3
section
variable {I : Type} {Xs : I → Cx} {G : Gx} {E : WK} {kk : Nat}
theorem ds_par3 (F : Fam Xs G E kk) {i j l : Nat} {x y z : Str} {a b c : Expr} {px py pz pt pos : Pos} {kt k2 pt2} {ca cb cc : ECode} (hi : ∀ q, (Xs q).N[i]? = some x) (hj : ∀ q, (Xs q).N[j]? = some y) (hl : ∀ q, (Xs q).N[l]? = some z) (hij : i ≠ j) (hil : i ≠ l) (hjl : j ≠ l)
    (hx : ∀ q, (Xs q).env.scope.names.lookup x = some .local) (hy : ∀ q, (Xs q).env.scope.names.lookup y = some .local) (hz : ∀ q, (Xs q).env.scope.names.lookup z = some .local) (ha : DE Xs G E a ca) (hb : DE Xs G E b cb) (hc : DE Xs G E c cc)
    (h1 : ∀ q, starEach [a, b, c] (Xs q).env = (false, eval a (Xs q).env) :: starEach [b, c] (Xs q).env) (h2 : ∀ q, starEach [b, c] (Xs q).env = (false, eval b (Xs q).env) :: starEach [c] (Xs q).env) (h3 : ∀ q, starEach [c] (Xs q).env = (false, eval c (Xs q).env) :: starEach [] (Xs q).env)
    (hw : ∀ q, swappedStores [.Tuple [.Name x px, .Name y py, .Name z pz] kt pt] (.Tuple [a, b, c] k2 pt2) (Xs q).env = pure (some [x, y, z]))
    (hs : ∀ q, swapsWithSole [.Tuple [.Name x px, .Name y py, .Name z pz] kt pt] (.Tuple [a, b, c] k2 pt2) pos.line (Xs q).env = pure false) :
    DS Xs G E (.Assign [.Tuple [.Name x px, .Name y py, .Name z pz] kt pt] (.Tuple [a, b, c] k2 pt2) pos) (c_par3 i j l ca cb cc) := by
  obtain ⟨ta, pa, sa⟩ := ha
  obtain ⟨tb, pb, sb⟩ := hb
  obtain ⟨tc, pc, sc⟩ := hc
  refine ⟨_, fun q => ps_par3 (F.calm q) (F.nd q) (hi q) (hj q) (hl q) hij hil hjl (hx q) (hy q) (hz q) (pa_cons (pa q) (pa_cons (pb q) (pa_cons (pc q) pa_nil (h3 q)) (h2 q)) (h1 q)) (hw q) (hs q), fun ι S H σ ρ Dn R e q => ?_⟩
  refine sa.go R e q fun d S1 ι1 H1 v x1 R1 e1 r1 q1 => ?_
  refine sb.go R1 e1 q1 fun d2 S2 ι2 H2 w x2 R2 e2 r2 q2 => ?_
  refine sc.go R2 e2 q2 fun d3 S3 ι3 H3 u x3 R3 e3 r3 q3 => ?_
  exact ⟨v, w, u, rfl, Post.here R3 q3 _ (((e3.set ((r1.mono x2).mono x3) i).set (r2.mono x3) j).set r3 l)⟩
end
section
variable {I : Type} {Xs : I → Cx} {G : Gx} {E : WK} {kk k : Nat} {f : Addr} {fd : FuncData} {ps : List Str} {m : List D → Sto → Res D}
def p_ixA (x y : D) (S : Sto) : Res D := match y with
  | .int i => match listOf x S with
    | some ds => p_ixL ds i S
    | none => .stuck
  | _ => .stuck
def c_augS (p : D → D → Sto → Res D) (o i a : ECode) : SCode := fun ρ S => (o ρ S).bind fun x S1 => (i ρ S1).bind fun y S2 => (p_ixA x y S2).bind fun z S3 => (a ρ S3).bind fun w S4 => (p z w S4).bind fun r S5 => (p_setI x y r S5).bind fun _ S6 => .ok (.nx ρ) S6
def c_methK (c n m' : Nat) (g : List D → List D → List D) (m : List D → Sto → Res D) (o : ECode) (a b : ACode) : ECode := fun ρ S => (o ρ S).bind fun x S1 => if clsOf x S1 = some c then (a ρ S1).bind fun ds S2 => (b ρ S2).bind fun es S3 => if ds.length = n ∧ es.length = m' then m (g (x :: ds) es) S3 else .stuck else .stuck
theorem de_methK0 (F : Fam Xs G E kk) (Fn : FnB G k f fd ps m) (hk : k ≤ kk) {c : Nat} {nm : Str} {o : Expr} {kws : List Keyword} {ks : List Str} {g : List Value → List Value → List Value} {gV : List V → List V → List V} {gD : List D → List D → List D} {apos pos : Pos} {pl : I → Sem Bool} {co : ECode} {b : ACode}
    (hc : Cls G.K (G.cls c)) (hm : Meth G.K (G.cls c) nm f) (hn : (G.fns c).contains nm = false) (hb : KBn G.K fd ps 1 ks g gV)
    (hgD : ∀ (L : Addr → Prop) ι H vs ds zs es, Reps G ι L H vs ds → Reps G ι L H zs es → ds.length = 1 → es.length = ks.length → Reps G ι L H (gV vs zs) (gD ds es) ∧ (gD ds es).length = ps.length)
    (ho : DE Xs G E o co) (hkw : DKw Xs G E kws b) (hall : ∀ j, (backToKw pos (keywordEach kws (Xs j).env)).all (·.1.isSome) = true) (hks : ∀ j, (backToKw pos (keywordEach kws (Xs j).env)).filterMap (·.1) = ks)
    (hpl : ∀ j, ((backTo pos (starEach [] (Xs j).env)).any (·.1) || (backToKw pos (keywordEach kws (Xs j).env)).any (·.1.isNone)) = false)
    (ht : ∀ j, eval (.Call (.Attribute o nm apos) [] kws pos) (Xs j).env = (do
      let ov ← eval o (Xs j).env
      standAt apos.atName
      let (f, first) ← holding [ov] (getMethod ov nm (pl j))
      callWith pos f first (backTo pos (starEach [] (Xs j).env)) (backToKw pos (keywordEach kws (Xs j).env)))) :
    DE Xs G E (.Call (.Attribute o nm apos) [] kws pos) (c_methK c 0 ks.length gD m co c_nil b) := by
  obtain ⟨to, po, so⟩ := ho
  obtain ⟨tk, pk, sk⟩ := hkw
  refine ⟨fun σ H Q => to σ H fun x H1 => ∃ b dx fs, x = .ref b ∧ H1 b = some (.ins (G.cls c) dx fs) ∧ fs.lookup nm = none ∧ tk σ H1 fun zs H2 => zs.length = ks.length ∧ spM G ps.length m (gV [x] zs) H2 Q (E σ), fun j => ⟨fun pins s σ H Q Iv h => ?_⟩, fun ι S H σ ρ Q R e q => ?_⟩
  · refine PySem.W.methodCall_KW (pl := pl j) (thn ((po j).run pins s σ H _ Iv h) fun u s1 ⟨x, H1, I1, rx, a, dx, fs, ex, ea, l, q⟩ => ?_) (ht j)
    subst ex
    obtain rfl : u = Value.ref a := rx
    refine getmeth_ok I1 ea (by rw [F.K j]; exact hc) (by rw [F.K j]; exact hm) l ?_
    refine PySem.W.callWith_KW0 (first := [.ref a]) (h₀ := (Xs j).base) Iv.ok.mod.kin (by rw [F.K j]; exact hm.kp) (hall j) ?_ (hpl j)
    refine thn ((pk j).run pos pins s1 σ H1 _ I1 q) fun ws s2 ⟨zs, H2, I2, rz, l2, q2⟩ => ⟨I2.kIn, ?_⟩
    rw [hks j]
    have r1 : Vals [V.ref a] [Value.ref a] := .cons rfl .nil
    exact run_B F j Fn hk I2 (hb.to s2 [.ref a] ws (by rw [← F.K j]; exact I2.kIn) rfl (rz.length.symm.trans l2)) (hb.rel r1 rz) q2
  · refine so.go R e q fun d S1 ι1 H1 v x1 R1 e1 r1 q1 => ?_
    by_cases h : clsOf d S1 = some c
    · rw [if_pos h] at q1
      obtain ⟨b, dx, nfs, fs, rfl, h2, h3, h4, h5⟩ := cls_at R1 r1 h
      refine ⟨b, dx, nfs, rfl, h2, lookup_out h3 hn, ?_⟩
      have q1 : Post G (E σ) ι1 S1 H1 (PV G Q) ((_ : Res (List D)).bind fun es S3 => if ([] : List D).length = 0 ∧ es.length = ks.length then m (gD [d] es) S3 else .stuck) := q1
      refine sk.go R1 e1 q1 fun es S2 ι2 H2 zs x2 R2 e2 r2 q2 => ?_
      by_cases h : ([] : List D).length = 0 ∧ es.length = ks.length
      · rw [if_pos h] at q2
        obtain ⟨a1, a2⟩ := hgD _ _ _ _ _ _ _ (.cons (r1.mono x2) .nil) r2 rfl h.2
        exact ⟨r2.length.trans h.2, ι2, S2, _, R2, a1, a2, q2⟩
      · rw [if_neg h] at q2
        exact q2.elim
    · rw [if_neg h] at q1
      exact q1.elim
noncomputable def c_makeK (b : Bool) (c m' : Nat) (g : List D → List D → List D) (m : List D → Sto → Res D) (a : ACode) : ECode := fun ρ S => (a ρ S).bind fun es S1 => if es.length = m' then p_make b c (fun ds => m (g (ds.take 1) (ds.drop 1))) es S1 else .stuck
theorem spM_of {ks : List Str} {gV : List V → List V → List V} {gD : List D → List D → List D} {v : V} {zs : List V} {H : Hp} {Q : VK} {E : XK} (hgD : ∀ (L : Addr → Prop) ι H vs ds zs es, Reps G ι L H vs ds → Reps G ι L H zs es → ds.length = 1 → es.length = ks.length → Reps G ι L H (gV vs zs) (gD ds es) ∧ (gD ds es).length = ps.length)
    (hl : zs.length = ks.length) (h : spP G (fun ds => m (gD (ds.take 1) (ds.drop 1))) (v :: zs) H Q E) : spM G ps.length m (gV [v] zs) H Q E := by
  obtain ⟨ι, S, ds, R, r, q⟩ := h
  cases r with
  | cons r1 r2 =>
    obtain ⟨a1, a2⟩ := hgD _ _ _ _ _ _ _ (.cons r1 .nil) r2 rfl (r2.length.symm.trans hl)
    exact ⟨ι, S, _, R, a1, a2, q⟩
theorem de_makeK0 (b : Bool) (F : Fam Xs G E kk) (Fn : FnB G k f fd ps m) (hk : k + 1 ≤ kk) {c : Nat} {x : Str} {p pos : Pos} {kws : List Keyword} {ks : List Str} {g : List Value → List Value → List Value} {gV : List V → List V → List V} {gD : List D → List D → List D} {a : ACode} (M : Mk G.K (G.cls c) f)
    (hb : KBn G.K fd ps 1 ks g gV) (hgD : ∀ (L : Addr → Prop) ι H vs ds zs es, Reps G ι L H vs ds → Reps G ι L H zs es → ds.length = 1 → es.length = ks.length → Reps G ι L H (gV vs zs) (gD ds es) ∧ (gD ds es).length = ps.length)
    (hkw : DKw Xs G E kws a) (hall : ∀ j, (backToKw pos (keywordEach kws (Xs j).env)).all (·.1.isSome) = true) (hks : ∀ j, (backToKw pos (keywordEach kws (Xs j).env)).filterMap (·.1) = ks) (hg : ∀ j, Gl (Xs j) x) (hm : G.mg x = some (.ref (G.cls c)))
    (hdb : (x == ("__debug__" : Str)) = false) (hpl : ∀ j, ((backTo pos (starEach [] (Xs j).env)).any (·.1) || (backToKw pos (keywordEach kws (Xs j).env)).any (·.1.isNone)) = false) :
    DE Xs G E (.Call (.Name x p) [] kws pos) (c_makeK b c ks.length gD m a) := by
  obtain ⟨tk, pk, sk⟩ := hkw
  refine ⟨fun σ H Q => tk σ H fun zs H1 => zs.length = ks.length ∧ ∀ x dx, H1 x = Option.none → H1 dx = Option.none → dx ≠ x → spM G ps.length m (gV [V.ref x] zs) (upd (upd H1 dx (.own x)) x (.ins (G.cls c) dx [])) (fun v H2 => v = .non ∧ Q (.ref x) H2) (E σ), fun j => ⟨fun pins s σ H Q Iv h => ?_⟩, fun ι S H σ ρ Q R e q => ?_⟩
  · refine wpAny_Call_Name_kw (ld_glob Iv (hg j) (by rw [F.mg j]; exact hm) ?_ hdb)
    refine PySem.W.callWith_KW0 (h₀ := (Xs j).base) Iv.ok.mod.kin (by rw [F.K j]; exact M.kp) (hall j) ?_ (hpl j)
    refine thn ((pk j).run pos pins s σ H _ Iv h) fun ws s1 ⟨zs, H1, I1, rz, l2, q⟩ => ⟨I1.kIn, ?_⟩
    rw [hks j]
    have hq := q (s1.heap.objs.size + 1) s1.heap.objs.size (I1.hok.fresh (Nat.le_succ _)) (I1.hok.fresh (Nat.le_refl _)) (Nat.ne_of_lt (Nat.lt_succ_self _))
    have I2 := Inv.made (C := G.cls c) I1
    have r1 : Vals [V.ref (s1.heap.objs.size + 1)] [Value.ref (s1.heap.objs.size + 1)] := .cons rfl .nil
    have r2 := hb.rel r1 rz
    have M' : Mk (Xs j).K (G.cls c) f := by rw [F.K j]; exact M
    refine wpAny_call (make_map (f := f) I1.kIn M'.makes M'.init (beq_iff_eq.mp M'.fn) (codeAny_mono (run_at F j Fn (show ((Xs j).A.under _).guards = some [] from F.gd j) (((F.room j).mono hk).make (G.cls c) [] (ks.zip ws)) (I2.env0.make (G.cls c) [] (ks.zip ws)) (hb.to _ [.ref (s1.heap.objs.size + 1)] ws (by rw [← F.K j]; exact I2.kIn) rfl (rz.length.symm.trans l2)) r2 hq) fun r s' hq' => ?_))
    cases r with
    | error e => exact F.pass j pins σ _ _ e s' I2 hq'
    | ok fl =>
      cases fl with
      | ret u =>
        obtain ⟨v, H', I3, rv, ev, q3⟩ := I2.after hq'
        subst ev
        exact ⟨rv, ⟨V.ref (s1.heap.objs.size + 1), H', I3, rfl, q3⟩⟩
      | next => exact False.elim hq'
      | brk => exact False.elim hq'
      | cont => exact False.elim hq'
  · refine sk.go R e q fun es S1 ι1 H1 zs x1 R1 e1 r1 q1 => ?_
    by_cases h : es.length = ks.length
    · rw [if_pos h] at q1
      have hz : zs.length = ks.length := r1.length.trans h
      exact ⟨hz, fun x dx hx hdx hne => spM_of hgD hz (spP_make b R1 r1 q1 x dx hx hdx hne)⟩
    · rw [if_neg h] at q1
      exact q1.elim
def p_isiO (c : Nat) (C : Addr) (ds : List D) (S : Sto) : Res D := match ds with
  | [d, .con a] => if isCon C (.con a) = true then (if clsOf d S = some c then .ok (.bl true) S else .stuck) else .stuck
  | _ => .stuck
theorem kit_self {K : PySem.W.Frag} {C : Addr} : PySem.W.kitOne K (.ref C) (.ref C) = some true := by
  unfold PySem.W.kitOne
  rw [if_pos (by simp)]
structure IsiC (K : PySem.W.Frag) (C : Addr) : Prop where
  ha : PySem.W.findIn K (.ref C) "__class__" = some (some (.builtin "object.__class__"))
  hn : PySem.W.specialIn K (.builtin "object.__class__") "__get__" = some (some (.builtin "getset_descriptor.__get__"))
  ht : PySem.W.takesIn K (.builtin "object.__class__") = some true
  hm : PySem.W.mroIn K C (.type "object") = some true
end
section
variable {G : Gx}
def p_isB (neg : Bool) : D → D → Sto → Res D
  | .bl a, .bl b, S => .ok (.bl (if neg = true then !decide (a = b) else decide (a = b))) S
  | _, _, _ => .stuck
theorem snd_notB : SndR G (fun x y H Q => ∃ a b, x = .bl a ∧ y = .bl b ∧ Q (.bl (!decide (a = b))) H) (p_isB true) := fun E ι S H x y dx dy Q R rx ry q => by
  cases dx with
  | bl a =>
    cases dy with
    | bl b => cases rx; cases ry; exact ⟨a, b, rfl, rfl, Post.here R q _ (.bl _)⟩
    | _ => exact q.elim
  | _ => exact q.elim
@[simp] theorem v_isB {n : Bool} {a b : Bool} {S : Sto} : p_isB n (.bl a) (.bl b) S = .ok (.bl (if n = true then !decide (a = b) else decide (a = b))) S := rfl
end
section
variable {X : Cx} {o e : Expr} {es : List Expr} {to te : TE} {ta : TA} {f : Str} {p p' p1 p2 pos : Pos}
theorem pe_baseinit {pl : Sem Bool} {b : Str} {CE : Addr} {mc : Value} (hg : Gl X b) (hm : X.mg b = some (.ref CE)) (hdb : (b == ("__debug__" : Str)) = false) (hr : ClX.CRead X.K CE mc) (vV : PySem.W.findCls X.K (.ref CE) mc "__init__" = some (.val (.builtin "ValueError.__init__"))) (ha : PA X (e :: es) ta)
    (hc : eval (.Call (.Attribute (.Name b p1) "__init__" p2) (e :: es) [] pos) X.env = (do
      let ov ← eval (.Name b p1) X.env
      standAt p2.atName
      let (f, first) ← holding [ov] (getMethod ov "__init__" pl)
      callWith pos f first (backTo pos (starEach (e :: es) X.env)) (backToKw pos (keywordEach [] X.env))) := by rfl)
    (he : starEach (e :: es) X.env = (false, eval e X.env) :: starEach es X.env := by rfl) (hpl : (backTo pos (starEach es X.env)).any (·.1) = false := by rfl) :
    PE X (.Call (.Attribute (.Name b p1) "__init__" p2) (e :: es) [] pos) (tVeI X.K ta) := by
  refine ⟨fun pins s σ H Q I h => ?_⟩
  refine PySem.W.methodCall_KW (ld_glob I hg hm ?_ hdb) hc
  refine PySem.W.method_cls I.kIn hr.ga (PySem.W.cls_value I.kIn hr.rd vV (by decide +kernel) ?_)
  show wpAny _ _ (callWith pos (Value.builtin "ValueError.__init__") [] (backTo pos (starEach (e :: es) X.env)) []) _ _ _
  refine PyProof.Rows.callWith_method1 (thn (ha.run pos pins _ σ H _ (I.tok _) h) fun us s1 ⟨vs, H1, I1, r1, a, C, ws, ev, hl, T, ea, q⟩ => ?_) he hpl
  subst ev
  cases r1 with
  | @cons _ u0 _ ur ra rw' =>
    obtain rfl : u0 = Value.ref a := ra
    have hlen : ur.length ≤ sizeLine := by
      rw [← Paired.length rw', sizeLine_eq]
      omega
    exact oinit_ok T I1 ea hlen fun s' J => ⟨.non, H1, J, rfl, q⟩
end
def spErr (K : PySem.W.Frag) (f : Str) : Sp := fun vs H Q _ => ∃ (a C : Addr) (y : V), vs = [.ref a, y] ∧ OexC K C ∧ PySem.W.findIn K (.ref C) f = some none ∧ H a = some (exo a C none) ∧
  ∀ dx, H dx = none → dx ≠ a → Q .non (upd (upd H dx (exd dx [(f, y)])) a (exo a C (some dx)))
theorem spErr_len {K : PySem.W.Frag} {f : Str} : ∀ vs H Q E, spErr K f vs H Q E → vs.length = 2 := fun vs H Q E ⟨a, C, y, e, _⟩ => by rw [e]; rfl
theorem err_body {K : PySem.W.Frag} {f : Str} {x : Str} {vs : List V} {H : Hp} {Q : VK} {E : XK} {N : List Str} (h : spErr K f vs H Q E) (hN : N.length = 2) :
    tSeq (tDrop (tVeI K (tCons (tVar 0) (tCons (fun σ H Q => Q (.str x) H) tNil)))) (tOst K f (tVar 0) (tVar 1)) { nx := fun _ H' => Q .non H', rt := Q } (L2.start N vs) H := by
  obtain ⟨a, C, y, rfl, T, no, ha, q⟩ := h
  have e0 : L2.start N [V.ref a, y] = [some (.ref a), some y] := by
    unfold L2.start
    rw [hN]
    rfl
  rw [e0]
  refine ⟨_, rfl, a, C, [.str x], rfl, (show (1 : Nat) ≤ 1000 by decide), T, ha, ?_⟩
  exact ⟨_, rfl, _, rfl, a, C, rfl, T, no, .inl ⟨ha, q⟩⟩
section
variable {I : Type} {Xs : I → Cx} {G : Gx} {E : WK} {kk : Nat}
def c_raise (c : Nat) (a : ECode) : SCode := fun ρ S => (a ρ S).bind fun d S1 => .ex c d S1
structure ErrT (G : Gx) (c : Nat) (fI : Addr) (fd : FuncData) (ps : List Str) : Prop where
  T : OexC G.K (G.exc c)
  iC : PySem.W.findIn G.K (.ref (G.exc c)) "__init__" = some (some (.ref fI))
  tI : PySem.W.typeIn G.K (.ref fI) = some (.type "function")
  no : PySem.W.findIn G.K (.ref (G.exc c)) (G.exf c) = some none
  F1 : FnOk G.P G.w G.K G.mg G.base CX0 1 fI fd ps (spErr G.K (G.exf c))
  hb : Binds G.K fd ps []
theorem ds_raise (F : Fam Xs G E kk) (hk : 2 ≤ kk) {c : Nat} {fI : Addr} {fd : FuncData} {ps : List Str} {x : Str} {e : Expr} {p pos pos' : Pos} {a : ECode} (t : ErrT G c fI fd ps) (hg : ∀ j, Gl (Xs j) x) (hm : G.mg x = some (.ref (G.exc c))) (ha : DE Xs G E e a)
    (hdb : (x == ("__debug__" : Str)) = false) (he : ∀ j, starEach [e] (Xs j).env = (false, eval e (Xs j).env) :: starEach [] (Xs j).env) (hpl : ∀ j, (backTo pos (starEach [] (Xs j).env)).any (·.1) = false) :
    DS Xs G E (.Raise (some (.Call (.Name x p) [e] [] pos)) none pos') (c_raise c a) := by
  obtain ⟨ta, pa, sa⟩ := ha
  refine ⟨fun _ σ H => tMkO (G.exc c) (spErr G.K (G.exf c)) [] (tCons ta tNil) σ H fun cls d H' => E σ cls d H', fun j => ?_, fun ι S H σ ρ Dn R e q => ?_⟩
  · have F1 : FnOk (Xs j).prog (Xs j).w (Xs j).K (Xs j).mg (Xs j).base CX0 1 fI fd ps (spErr G.K (G.exf c)) := by
      rw [F.P j, F.w j, F.K j, F.mg j, F.base j]
      exact t.F1
    have z := pmk_oex (X := Xs j) (CX := CX0) (p := p) (pos := pos) (x := x) (C := G.exc c) (fI := fI) (k := 1) (dvs := []) (ds := []) (by rw [F.K j]; exact t.T) (by rw [F.K j]; exact t.iC) (by rw [F.K j]; exact t.tI) F1 ((F.room j).mono hk) (by rw [F.K j]; exact t.hb) .nil pass0 (hg j) (by rw [F.mg j]; exact hm) (pa_cons (pa j) pa_nil (he j)) hdb (he j) (hpl j)
    exact ps_raise (F.calm j) (F.take j) z
  · refine sa.go R e q fun d S1 ι1 H1 y x1 R1 e1 r1 q1 => ?_
    refine ⟨(show (1 : Nat) ≤ 1000 by decide), fun a0 ha0 => ⟨a0, G.exc c, y, rfl, t.T, t.no, upd_same, fun dx hdx hne => ⟨rfl, dx, [(G.exf c, y)], upd_same, ?_, ?_, ?_⟩⟩⟩
    · rw [upd_ne hne]
      exact upd_same
    · rw [upd_ne hne] at hdx
      exact hdx
    · rw [upd_ne hne] at hdx
      have eH : upd (del (upd (upd (upd H1 a0 (exo a0 (G.exc c) none)) dx (exd dx [(G.exf c, y)])) a0 (exo a0 (G.exc c) (some dx))) a0) dx (.xd [(G.exf c, y)]) = upd H1 dx (.xd [(G.exf c, y)]) := by
        funext b
        by_cases h1 : b = dx
        · rw [h1, upd_same, upd_same]
        · rw [upd_ne h1, upd_ne h1]
          by_cases h2 : b = a0
          · rw [h2, del_same, ha0]
          · rw [del_ne h2, upd_ne h2, upd_ne h1, upd_ne h2]
      rw [eH]
      have x2 : Ext ι1 S1 H1 ι1 S1 (upd H1 dx (.xd [(G.exf c, y)])) := Ext.same (keepNew hdx)
      exact q1 ι1 _ dx y x2 (R1.same (keepNew hdx)) upd_same (R1.freshL hdx) (r1.mono x2)
end
mutual
def noErr : D → Bool
  | .tup ds => noErrL ds
  | .lst ds => noErrL ds
  | .scr ds => noErrL ds
  | .wtp ds => noErrL ds
  | .dK kvs => noErrK kvs
  | .dT kvs => noErrT kvs
  | .obj _ fs => noErrL fs
  | .err _ _ => false
  | .ref _ => true
  | .non => true
  | .bl _ => true
  | .int _ => true
  | .str _ => true
  | .con _ => true
  | .ty _ => true
def noErrL : List D → Bool
  | [] => true
  | d :: ds => noErr d && noErrL ds
def noErrK : List (Key × D) → Bool
  | [] => true
  | (_, d) :: ds => noErr d && noErrK ds
def noErrT : List (List Key × D) → Bool
  | [] => true
  | (_, d) :: ds => noErr d && noErrT ds
end
theorem noErrK_map : ∀ {kvs : List (Key × D)}, noErrK kvs = noErrL (kvs.map (·.2))
  | [] => rfl
  | (k, d) :: r => by rw [noErrK, List.map_cons, noErrL, noErrK_map]
theorem noErrT_map : ∀ {kvs : List (List Key × D)}, noErrT kvs = noErrL (kvs.map (·.2))
  | [] => rfl
  | (k, d) :: r => by rw [noErrT, List.map_cons, noErrL, noErrT_map]
def noErrC : Cell → Bool
  | .lst ds => noErrL ds
  | .dK kvs => noErrK kvs
  | .dT kvs => noErrT kvs
  | .ins _ fs => noErrL fs
def Gx.hot (G : Gx) (a dx C : Addr) : Gx := { G with cur := some (a, dx, C) }
section
variable {G : Gx} {ι : Ix} {L : Addr → Prop} {H : Hp} {a dx C : Addr}
mutual
theorem Rep.noErr (h : G.cur = none) : ∀ {v : V} {d : D}, Rep G ι L H v d → DL.noErr d = true
  | _, _, .non => rfl
  | _, _, .bl b => rfl
  | _, _, .int i => rfl
  | _, _, .str x => rfl
  | _, _, .con a => rfl
  | _, _, .ty n => rfl
  | _, _, .tup q k r => Reps.noErr h r
  | _, _, .wtp q r => Reps.noErr h r
  | _, _, .lst q k r => Reps.noErr h r
  | _, _, .scr q r => Reps.noErr h r
  | _, _, .dK q k e r => noErrK_map.trans (Reps.noErr h r)
  | _, _, .dT q k e r => noErrT_map.trans (Reps.noErr h r)
  | _, _, .obj q k e r => Reps.noErr h r
  | _, _, .ref q => rfl
  | _, _, .err q1 q2 k r => by rw [h] at q1; cases q1
theorem Reps.noErr (h : G.cur = none) : ∀ {vs : List V} {ds : List D}, Reps G ι L H vs ds → noErrL ds = true
  | _, _, .nil => rfl
  | _, _, .cons q r => by rw [noErrL, Rep.noErr h q, Reps.noErr h r]; rfl
end
mutual
theorem Rep.hot (h : G.cur = none) : ∀ {v : V} {d : D}, Rep G ι L H v d → Rep (G.hot a dx C) ι L H v d
  | _, _, .non => .non
  | _, _, .bl b => .bl b
  | _, _, .int i => .int i
  | _, _, .str x => .str x
  | _, _, .con a => .con a
  | _, _, .ty n => .ty n
  | _, _, .tup q k r => .tup q k (Reps.hot h r)
  | _, _, .wtp q r => .wtp q (Reps.hot h r)
  | _, _, .lst q k r => .lst q k (Reps.hot h r)
  | _, _, .scr q r => .scr q (Reps.hot h r)
  | _, _, .dK q k e r => .dK q k e (Reps.hot h r)
  | _, _, .dT q k e r => .dT q k e (Reps.hot h r)
  | _, _, .obj q k e r => .obj q k e (Reps.hot h r)
  | _, _, .ref q => .ref q
  | _, _, .err q1 q2 k r => by rw [h] at q1; cases q1
theorem Reps.hot (h : G.cur = none) : ∀ {vs : List V} {ds : List D}, Reps G ι L H vs ds → Reps (G.hot a dx C) ι L H vs ds
  | _, _, .nil => .nil
  | _, _, .cons q r => .cons (Rep.hot h q) (Reps.hot h r)
end
mutual
theorem Rep.cold : ∀ {v : V} {d : D}, DL.noErr d = true → Rep (G.hot a dx C) ι L H v d → Rep G ι L H v d
  | _, _, _, .non => .non
  | _, _, _, .bl b => .bl b
  | _, _, _, .int i => .int i
  | _, _, _, .str x => .str x
  | _, _, _, .con a => .con a
  | _, _, _, .ty n => .ty n
  | _, _, n, .tup q k r => .tup q k (Reps.cold n r)
  | _, _, n, .wtp q r => .wtp q (Reps.cold n r)
  | _, _, n, .lst q k r => .lst q k (Reps.cold n r)
  | _, _, n, .scr q r => .scr q (Reps.cold n r)
  | _, _, n, .dK q k e r => .dK q k e (Reps.cold (noErrK_map.symm.trans n) r)
  | _, _, n, .dT q k e r => .dT q k e (Reps.cold (noErrT_map.symm.trans n) r)
  | _, _, n, .obj q k e r => .obj q k e (Reps.cold n r)
  | _, _, _, .ref q => .ref q
  | _, _, n, .err q1 q2 k r => by cases n
theorem Reps.cold : ∀ {vs : List V} {ds : List D}, noErrL ds = true → Reps (G.hot a dx C) ι L H vs ds → Reps G ι L H vs ds
  | _, _, _, .nil => .nil
  | _, _, n, .cons q r => by
    rw [noErrL, Bool.and_eq_true] at n
    exact .cons (Rep.cold n.1 q) (Reps.cold n.2 r)
end
theorem CellIs.noErr (h : G.cur = none) {x : Addr} {c : Cell} (k : CellIs G ι L H x c) : noErrC c = true := by
  cases c with
  | lst ds => obtain ⟨vs, _, r⟩ := k; exact r.noErr h
  | dK ds => obtain ⟨vs, _, _, r⟩ := k; exact noErrK_map.trans (r.noErr h)
  | dT ds => obtain ⟨vs, _, _, r⟩ := k; exact noErrT_map.trans (r.noErr h)
  | ins c fs => obtain ⟨_, vs, _, _, r⟩ := k; exact r.noErr h
theorem CellIs.hot (h : G.cur = none) {x : Addr} {c : Cell} (k : CellIs G ι L H x c) : CellIs (G.hot a dx C) ι L H x c := by
  cases c with
  | lst ds => obtain ⟨vs, h1, r⟩ := k; exact ⟨vs, h1, r.hot h⟩
  | dK ds => obtain ⟨vs, h1, h2, r⟩ := k; exact ⟨vs, h1, h2, r.hot h⟩
  | dT ds => obtain ⟨vs, h1, h2, r⟩ := k; exact ⟨vs, h1, h2, r.hot h⟩
  | ins c fs => obtain ⟨d0, vs, h1, h2, r⟩ := k; exact ⟨d0, vs, h1, h2, r.hot h⟩
theorem CellIs.cold {x : Addr} {c : Cell} (n : noErrC c = true) (k : CellIs (G.hot a dx C) ι L H x c) : CellIs G ι L H x c := by
  cases c with
  | lst ds => obtain ⟨vs, h1, r⟩ := k; exact ⟨vs, h1, r.cold n⟩
  | dK ds => obtain ⟨vs, h1, h2, r⟩ := k; exact ⟨vs, h1, h2, r.cold (noErrK_map.symm.trans n)⟩
  | dT ds => obtain ⟨vs, h1, h2, r⟩ := k; exact ⟨vs, h1, h2, r.cold (noErrT_map.symm.trans n)⟩
  | ins c fs => obtain ⟨d0, vs, h1, h2, r⟩ := k; exact ⟨d0, vs, h1, h2, r.cold n⟩
theorem Rel.hot {S : Sto} (h : G.cur = none) (R : Rel G ι S H) : Rel (G.hot a dx C) ι S H := by
  refine ⟨R.len, R.nd, fun n c e => ?_, R.trk, R.ztr⟩
  obtain ⟨x, h1, h2⟩ := R.cell n c e
  exact ⟨x, h1, h2.hot h⟩
theorem Rel.cold {S : Sto} (n : ∀ (m : Nat) (c : Cell), S[m]? = some (some c) → noErrC c = true) (R : Rel (G.hot a dx C) ι S H) : Rel G ι S H := by
  refine ⟨R.len, R.nd, fun m c e => ?_, R.trk, R.ztr⟩
  obtain ⟨x, h1, h2⟩ := R.cell m c e
  exact ⟨x, h1, h2.cold (n m c e)⟩
end
structure TrIdx {I : Type} (Xs : I → Cx) (E : WK) where
  j : I
  pn : List (Addr × Obj)
  xe : Value → Shared → Prop
  tk : Takes ((Xs j).tr pn xe) fun cls d σ H => E σ cls d H
abbrev TrX {I : Type} (Xs : I → Cx) (E : WK) : TrIdx Xs E → Cx := fun p => (Xs p.j).tr p.pn p.xe
structure SuIdx (I : Type) (dx C : Addr) where
  j : I
  oe : Obj
  pn : List (Addr × Obj)
  hz : Zc (.ref C) (some dx) oe
  hf : ∃ vs, oe.data = .fields vs
abbrev SuX {I : Type} (Xs : I → Cx) (a dx C : Addr) : SuIdx I dx C → Cx := fun p => (Xs p.j).suite a ((a, p.oe) :: p.pn)
section
variable {I : Type} {Xs : I → Cx} {G : Gx} {E : WK} {kk : Nat}
theorem Fam.tr (F : Fam Xs G E kk) (E' : WK) : Fam (TrX Xs E') G E' kk :=
  ⟨⟨fun p => F.P p.j, fun p => F.w p.j, fun p => F.K p.j, fun p => F.mg p.j, fun p => F.base p.j, fun p => F.nd p.j, fun p => F.gd p.j, fun p => F.u64 p.j, fun p => p.tk⟩, fun p => F.calm p.j, fun p => F.room p.j⟩
theorem FamH.su (F : FamH Xs G E) (a dx C : Addr) : FamH (SuX Xs a dx C) (G.hot a dx C) (fun _ => E0) :=
  ⟨fun p => F.P p.j, fun p => F.w p.j, fun p => F.K p.j, fun p => F.mg p.j, fun p => F.base p.j, fun p => F.nd p.j, fun p => F.gd p.j, fun p => F.u64 p.j, fun p => takes0⟩
def envOk (ρ ρ2 : Env) : Prop := ∀ (j : Nat) (d : D), ρ2[j]? = some (some d) → ρ[j]? = some (some d) ∨ noErr d = true
def floEnd (i : Nat) : Flo → Flo
  | .nx ρ => .nx (ρ.set i none)
  | .bk ρ => .bk (ρ.set i none)
  | .ct ρ => .ct (ρ.set i none)
  | .rt d => .rt d
def floOk (ρ : Env) (i : Nat) : Flo → Prop
  | .nx ρ2 => envOk ρ (ρ2.set i none)
  | .bk ρ2 => envOk ρ (ρ2.set i none)
  | .ct ρ2 => envOk ρ (ρ2.set i none)
  | .rt d => noErr d = true
open Classical in
noncomputable def c_try (m : Nat → Option Bool) (i : Nat) (cb cs : SCode) : SCode := fun ρ S => match cb ρ S with
  | .ex c d S1 => match m c with
    | some true => match cs (ρ.set i (some (.err c d))) S1 with
      | .ok f S2 => if S2 = S1 ∧ floOk ρ i f then .ok (floEnd i f) S2 else .stuck
      | _ => .stuck
    | some false => .ex c d S1
    | none => .stuck
  | r => r
theorem REnv.cold {ι : Ix} {S : Sto} {H : Hp} {a dx C : Addr} {σ : L2.St} {ρ : Env} {i : Nat} (n : ∀ (j : Nat) (d : D), (ρ.set i none)[j]? = some (some d) → noErr d = true) (e : REnv (G.hot a dx C) ι S H σ ρ) : REnv G ι S H (σ.set i none) (ρ.set i none) := by
  refine ⟨by rw [List.length_set, List.length_set]; exact e.len, fun j d q => ?_⟩
  have hn := n j d q
  rw [List.getElem?_set] at q ⊢
  by_cases hi : i = j
  · rw [if_pos hi] at q
    split at q <;> cases q
  · rw [if_neg hi] at q ⊢
    obtain ⟨v, h1, h2⟩ := e.at_ j d q
    exact ⟨v, h1, h2.cold hn⟩
theorem ds_try (F : Fam Xs G E kk) (hG : G.cur = none) {x n : Str} {cv : Value} {i : Nat} {body suite : List Stmt} {b₀ : Stmt} {np pos pos' : Pos} {m : Nat → Option Bool} {cb cs : SCode}
    (hi : ∀ j, (Xs j).N[i]? = some n) (hln : ∀ j, (Xs j).env.kindOf n = some .local) (hs : ∀ j, (Xs j).stack = (Xs j).env :: (Xs j).outer) (hf : ∀ j, (Xs j).env.frame = some (Xs j).env.locals) (hc : ∀ j, Names (Xs j) x cv)
    (hm : ∀ c b, m c = some b → PySem.W.exmOne G.K (.ref (G.exc c)) cv = some b)
    (hb : ∀ (E' : WK), Fam (TrX Xs E') G E' kk → DSs (TrX Xs E') G E' body cb)
    (hsu : ∀ a dx C, FamH (SuX Xs a dx C) (G.hot a dx C) (fun _ => E0) → DSs (SuX Xs a dx C) (G.hot a dx C) (fun _ => E0) (b₀ :: suite) cs) :
    DS Xs G E (.Try body [.ExceptHandler (some (.Name x np)) (some n) (b₀ :: suite) pos'] [] [] pos) (c_try m i cb cs) := by
  have hb' : ∀ W : WX, DSs (TrX Xs fun σ cls d H => W cls d σ H) G (fun σ cls d H => W cls d σ H) body cb := fun W => hb _ (F.tr _)
  have hsu' : ∀ a dx C, DSs (SuX Xs a dx C) (G.hot a dx C) (fun _ => E0) (b₀ :: suite) cs := fun a dx C => hsu a dx C (F.toFamH.su a dx C)
  let tb : WX → TS := fun W => Classical.choose (hb' W)
  let ts : Addr → Value → Option Addr → TS := fun a cls d => match cls, d with
    | .ref C, some dx => Classical.choose (hsu' a dx C)
    | _, _ => fun _ _ _ => False
  refine ⟨fun D σ H => tb (wAs G.K cv i ts (fun cls d σ H => E σ cls d H) D) D σ H, fun j => ?_, fun ι S H σ ρ Dn R e q => ?_⟩
  · have z := ps_try_as (X := Xs j) (np := np) (pos := pos) (pos' := pos') (tb := tb) (ts := ts) (hs j) (hf j) (F.nd j) (hi j) (hln j) (hc j) (F.take j) (fun W pn xe tk _ => (Classical.choose_spec (hb' W)).1 ⟨j, pn, xe, tk⟩) (body := body) (b₀ := b₀) (suite := suite) (fun a oe cls d pn hz hfl => ?_)
    · rw [F.K j] at z
      exact z
    · cases cls with
      | ref C =>
        cases d with
        | some dx => exact (Classical.choose_spec (hsu' a dx C)).1 ⟨j, oe, pn, hz, hfl⟩
        | none => exact ⟨fun _ _ _ _ _ _ h => h.elim⟩
      | _ => exact ⟨fun _ _ _ _ _ _ h => h.elim⟩
  · have sp := (Classical.choose_spec (hb' (wAs G.K cv i ts (fun cls d σ H => E σ cls d H) Dn))).2
    refine sp ι S H σ ρ Dn R e ?_
    unfold c_try at q
    cases hcb : cb ρ S with
    | ok f S1 =>
      rw [hcb] at q
      exact q
    | stuck =>
      rw [hcb] at q
      exact q
    | ex c d S1 =>
      rw [hcb] at q
      intro ι' H' dd v x' R' hdd nl rv
      cases hmc : m c with
      | none => simp only [hmc] at q; exact q.elim
      | some b =>
        simp only [hmc] at q
        refine ⟨b, hm c b hmc, fun hbt a ha => ?_, fun hbf => ?_⟩
        · subst hbt
          show Classical.choose (hsu' a dd (G.exc c)) _ _ _
          have sps := (Classical.choose_spec (hsu' a dd (G.exc c))).2
          have Rh : Rel (G.hot a dd (G.exc c)) ι' S1 H' := R'.hot hG
          have rerr : Rep (G.hot a dd (G.exc c)) ι' (Lv ι' S1) H' (.ref a) (.err c d) := .err rfl hdd nl (rv.hot hG)
          have eh : REnv (G.hot a dd (G.exc c)) ι' S1 H' σ ρ := by
            have e1 := e.mono x'
            exact ⟨e1.len, fun j d q => by
              obtain ⟨w, h1, h2⟩ := e1.at_ j d q
              exact ⟨w, h1, h2.hot hG⟩⟩
          refine sps ι' S1 H' (σ.set i (some (.ref a))) (ρ.set i (some (.err c d))) _ Rh (eh.set rerr i) ?_
          cases hcs : cs (ρ.set i (some (.err c d))) S1 with
          | ex _ _ _ => simp only [hcs] at q; exact q.elim
          | stuck => simp only [hcs] at q; exact q.elim
          | ok f S2 =>
            simp only [hcs] at q
            by_cases hk : S2 = S1 ∧ floOk ρ i f
            · rw [if_pos hk] at q
              obtain ⟨rfl, hfo⟩ := hk
              intro ι2 H2 y R2
              have cells : ∀ (m : Nat) (c : Cell), S2[m]? = some (some c) → noErrC c = true := fun m c hmc => by
                obtain ⟨_, _, k⟩ := R'.cell m c hmc
                exact k.noErr hG
              have Rc : Rel G ι2 S2 H2 := R2.cold cells
              have q2 := q ι2 H2 (x'.trans y) Rc
              have slots : ∀ {ρ2 : Env}, envOk ρ (ρ2.set i none) → ∀ (j : Nat) (d : D), (ρ2.set i none)[j]? = some (some d) → noErr d = true := fun ho j d hj => by
                rcases ho j d hj with h | h
                · obtain ⟨w, _, h2⟩ := e.at_ j d h
                  exact h2.noErr hG
                · exact h
              cases f with
              | nx ρ2 => exact fun σ2 e2 => q2 _ (e2.cold (slots hfo))
              | bk ρ2 => exact fun σ2 e2 => q2 _ (e2.cold (slots hfo))
              | ct ρ2 => exact fun σ2 e2 => q2 _ (e2.cold (slots hfo))
              | rt d2 => exact fun w rw' => q2 w (rw'.cold hfo)
            · rw [if_neg hk] at q
              exact q.elim
        · subst hbf
          exact q ι' H' dd v x' R' hdd nl rv
end
end DL
namespace DLE1
open PySem PySem.W PySem.Spec PySem.Calls PyProof.Rows
section
variable {prog : Program} {w : World} {A : Around} {E : Value → Shared → Prop} {s : Shared} {K : Frag} {x D : Addr} {ox : Obj}
theorem findObj_dataD {od : Option Obj} {C : Addr} {name : Str} {a g : Value} (hc : (clsIn K C).isSome = true) (ha : findIn K (.ref C) name = some (some a)) (hg : specialIn K a "__get__" = some (some g)) (ht : takesIn K a = some true) : findObj K C od name = some (.bind g a) := by
  obtain ⟨cd, hc⟩ := Option.isSome_iff_exists.mp hc
  unfold findObj
  rw [hc, Option.bind_some, ha, Option.bind_some]
  simp [hg, ht]
theorem kin_classD {od : Option Obj} {Q : Option Value → Shared → Prop} (hga : findIn K (.ref D) "__getattribute__" = some (some (.builtin "BaseException.__getattribute__"))) (hgt : findIn K (.ref D) "__getattr__" = some none) (hsub : subIn K (.ref D) (.type "BaseException") = some true)
    (hdct : hasDictIn K D = true) (ha : findIn K (.ref D) "__class__" = some (some (.builtin "object.__class__")))
    (hn : specialIn K (.builtin "object.__class__") "__get__" = some (some (.builtin "getset_descriptor.__get__"))) (htk : takesIn K (.builtin "object.__class__") = some true) (hm : mroIn K D (.type "object") = some true)
    (X : K.In s.heap) (I : InstAt s.heap x ox D od) (h : Q (some (.ref D)) { s with toks := s.toks + 1 }) : wpAny (model prog w) A (getAttr? (.ref x) "__class__") Q E s := by
  have hf : findObj K D od "__class__" = some (.bind (.builtin "getset_descriptor.__get__") (.builtin "object.__class__")) := findObj_dataD (by obtain ⟨cd, hc, _⟩ := any_some hdct; rw [hc]; rfl) ha hn htk
  obtain ⟨hp, g, d, t, os⟩ := s
  have L0 := I.type (M := model prog w)
  have L1 := looks_findIn (M := model prog w) X hga
  have L2 := looks_findIn (M := model prog w) X hgt
  have L3 := looks_find (M := model prog w) X I hf
  have sub : Looks (model prog w) hp (isInstance (.ref x) (.type "BaseException")) true := L0.andThen (looks_subIn X hsub)
  have hx0 : (false && onTheHeap (Value.builtin "BaseException.__getattribute__")) = false := rfl
  have hx2 : (Value.builtin "BaseException.__getattribute__" == Value.builtin "object.__getattribute__") = false := by decide +kernel
  have hx1 : (onTheHeap (Value.ref D) && Value.builtin "BaseException.__getattribute__" == Value.builtin "object.__getattribute__") = false := by rw [hx2]; rfl
  unfold getAttr? getAttrBy? getAttrBy
  refine wpAny_bind (wpAny_mkText (wpAny_bind (wpAny_attempt (wpAny_holding (wpAny_bind (L0.at (wpAny_bind (L1.at ?_))))))))
  show wpAny _ _ (if (onTheHeap (Value.ref D) && Value.builtin "BaseException.__getattribute__" == Value.builtin "object.__getattribute__") = true then _ else _) _ _ _
  rw [hx1, if_neg Bool.false_ne_true]
  unfold getAttrByItsOwn hookBefore
  refine wpAny_bind ?_
  rw [if_pos (show onTheHeap (Value.ref D) = true from rfl)]
  refine L2.at ?_
  refine wpAny_bind (wpAny_attempt (wpAny_holding ?_))
  unfold callGetattribute
  rw [hx0, if_neg Bool.false_ne_true]
  unfold boundAndCalled
  rw [PySem.F.excAttr_ValueError.ga.bind (.ref x)]
  refine wpAny_bind (wpAny_pure ?_)
  show wpAny _ _ (call (.builtin "BaseException.__getattribute__") [.ref x, .str "__class__" t]) _ _ _
  refine wpAny_call (codeAny_call_builtin PySem.F.excAttr_ValueError.ga.plain PySem.F.entry_bexc_ga ?_)
  refine @check_slot (model prog w) _ _ ⟨hp, g, d, t + 1, os⟩ "BaseException.__getattribute__" "BaseException" "__getattribute__" (.ref x) [.str "__class__" t] [] _ (by decide +kernel) (by decide +kernel) sub (PySem.F.args_bexc_ga (.ref x) (.str "__class__" t)) ?_
  unfold Builtin.«object.__getattribute__»
  refine wpAny_bind (wpAny_of_eq (a := ((Value.ref x : Value), [Value.str "__class__" t])) (by first | rfl | (simp only [slotArgs]; rfl)) ?_)
  refine wpAny_bind (wpAny_pure (wpAny_bind (L0.at (wpAny_bind (L3.at ?_)))))
  show wpAny _ _ (holding [Value.builtin "object.__class__"] (call (.builtin "getset_descriptor.__get__") [.builtin "object.__class__", .ref x, .ref D]) >>= ret) _ _ _
  refine wpAny_bind (wpAny_holding (wpAny_call (class_get (s := ⟨hp, g, d, t + 1, os⟩) (ox := ox) (od := od) X I hm ?_)))
  refine wpAny_pure ?_
  show wpAny _ _ (handedOut (.ref D)) _ _ _
  rw [handedOut_of (v := .ref D) rfl]
  first
    | exact wpAny_pure (wpAny_pure h)
    | exact wpAny_pure h
    | exact wpAny_pure (wpAny_bind (wpAny_pure (wpAny_pure h)))
theorem kitx_excD {od : Option Obj} (hga : findIn K (.ref D) "__getattribute__" = some (some (.builtin "BaseException.__getattribute__"))) (hgt : findIn K (.ref D) "__getattr__" = some none) (hsub : subIn K (.ref D) (.type "BaseException") = some true) (hdct : hasDictIn K D = true) (ha : findIn K (.ref D) "__class__" = some (some (.builtin "object.__class__")))
    (hn : specialIn K (.builtin "object.__class__") "__get__" = some (some (.builtin "getset_descriptor.__get__"))) (htk : takesIn K (.builtin "object.__class__") = some true) (hm : mroIn K D (.type "object") = some true) :
    KitX K (.ref x) (.ref D) (fun h => InstAt h x ox D od) where
  ty := fun _ _ _ I => I.type
  it := fun _ _ X _ => by
    obtain ⟨cdD, hcD, _⟩ := any_some hdct
    unfold clsIn at hcD
    split at hcD
    · rename_i c' d' cd' sl' ho
      intro A' Q' E' s' k q
      unfold isType loadHead
      exact wpAny_bind (wpAny_loadPart (k _ _ (X _ _ ho)) (wpAny_pure q))
    · cases hcD
  ne := fun h tp dd its n sl X htp => by
    obtain ⟨cdD, hcD, _⟩ := any_some hdct
    refine Bool.eq_false_iff.mpr fun q => ?_
    have e : D = tp := Value.ref.inj (beq_iff_eq.mp q)
    subst e
    unfold clsIn at hcD
    split at hcD
    · rename_i c' d' cd' sl' ho
      have z := (X _ _ ho).symm.trans htp
      cases z
    · cases hcD
  ca := fun X I k => kin_classD hga hgt hsub hdct ha hn htk hm X I k
end
end DLE1
namespace DL
open PySem PySem.Spec PyProof.Rows L2
def rIsD (K : PySem.W.Frag) (C a : Addr) : List V → Hp → VK → Prop := fun xs H Q => ExcC K C ∧ ((∃ (c : V) (cv : Value) (b : Bool), xs = [.ref a, c] ∧ (∀ u, RelV c u → u = cv) ∧ PySem.W.kitOne K (.ref C) cv = some b ∧ Q (.bl b) H) ∨
  ∃ (t : Addr) (cs : List V) (cvs : List Value) (b : Bool), xs = [.ref a, .ref t] ∧ SqT K H t cs ∧ (∀ us, Vals cs us → us = cvs) ∧ PySem.W.kitAny K (.ref C) cvs = some b ∧ Q (.bl b) H)
theorem call_isD {X : Cx} {a C dx : Addr} {oe : Obj} {pn : List (Addr × Obj)} {fs : List (Str × V)} (hz : Zc (.ref C) (some dx) oe) (hf : ∃ vs, oe.data = .fields vs) :
    CallR (X.suite a ((a, oe) :: pn)) (.builtin "isinstance") (fun xs H Q => (∃ fs, H dx = some (.xd fs)) ∧ rIsD X.K C a xs H Q) := by
  intro pins s σ H xs us Q I r h
  obtain ⟨⟨fs, hx⟩, E, h⟩ := h
  obtain ⟨hget, _⟩ := I.pin (a, oe) (List.mem_append.mpr (.inl List.mem_cons_self))
  obtain ⟨vs, hv⟩ := hf
  have hx : ObjOk X.prog X.w H s.heap dx (.xd fs) := I.hok dx _ hx
  obtain ⟨mA, hns, hr⟩ := hx
  obtain ⟨od, ho, hl⟩ := lookIn_ns hns
  have J : PySem.W.InstAt s.heap a oe C (some od) := ⟨hget, hz.1, by unfold PySem.W.notCls; rw [hv] <;> rfl, by rw [hz.2]; exact ho⟩
  have Z := DLE1.kitx_excD (K := X.K) (x := a) (D := C) (ox := oe) (od := some od) E.hg E.hk E.hs E.hd E.ha E.hn E.ht E.hm
  rcases h with ⟨c, cv, b, rfl, hcv, e, q⟩ | ⟨t, cs, cvs, b, rfl, ht, hcv, e, q⟩
  · cases r with
    | cons rx rr =>
      cases rr with
      | cons rt rr =>
        cases rr
        cases rx
        have ec := hcv _ rt
        subst ec
        exact PySem.W.kia_one Z I.kIn J e (fun z => nomatch z) fun tk => ⟨.bl b, H, I.kept (t' := tk) fun _ _ z => z, rfl, q⟩
  · cases r with
    | cons rx rr =>
      cases rr with
      | cons rt rr =>
        cases rr
        cases rx
        cases rt
        obtain ⟨its, rv, ⟨o, ho2, hc2, n2, hd2⟩, _⟩ := I.tuple ht
        obtain rfl := hcv _ rv
        obtain ⟨c, d, dt, sl⟩ := o
        simp only at hc2 hd2
        subst hc2 hd2
        exact PySem.W.kia_tup Z I.kIn J ho2 e (fun z => nomatch z) fun tk => ⟨.bl b, H, I.kept (t' := tk) fun _ _ z => z, rfl, q⟩
section
variable {I : Type} {Xs : I → Cx} {G : Gx} {E : WK}
theorem snd_chain {E : WK} {r r' : R2} {p p' : D → D → Sto → Res D} {ta tb tc : TE} {a b c : ECode} (hr : SndR G r p) (hr' : SndR G r' p') (sa : Snd G E ta a) (sb : Snd G E tb b) (sc : Snd G E tc c) : Snd G E (tChain r r' ta tb tc) (c_chain p p' a b c) := fun ι S H σ ρ Q R e q => by
  refine sa.go R e q fun d S1 ι1 H1 v x1 R1 e1 r1 q1 => ?_
  refine sb.go R1 e1 q1 fun d2 S2 ι2 H2 v2 x2 R2 e2 r2 q2 => ?_
  refine hr.go R2 (r1.mono x2) r2 q2 fun d3 S3 ι3 H3 v3 x3 R3 r3 q3 => ?_
  cases d3 with
  | bl k =>
    refine ⟨k, r3.bl_of, ?_⟩
    have q4 : Post G (E σ) ι3 S3 H3 (PV G Q) (if k = true then (c ρ S3).bind fun w S5 => p' d2 w S5 else .ok (.bl false) S3) := q3
    cases k with
    | true =>
      rw [if_pos rfl] at q4 ⊢
      refine sc.go R3 (e2.mono x3) q4 fun d5 S5 ι5 H5 v5 x5 R5 e5 r5 q5 => ?_
      exact hr' (E σ) ι5 S5 H5 v2 v5 d2 d5 Q R5 ((r2.mono x3).mono x5) r5 q5
    | false =>
      rw [if_neg Bool.false_ne_true] at q4 ⊢
      exact Post.here R3 q4 _ (.bl false)
  | _ => exact q3.elim
theorem dt_chain {op op' : CmpOp} {r r' : R2} {p p' : D → D → Sto → Res D} {x y z : Expr} {pos : Pos} {a b c : ECode} (ho : ∀ j, OpR (Xs j) (compareOp op) r) (hr : SndR G r p) (ho' : ∀ j, OpR (Xs j) (compareOp op') r') (hr' : SndR G r' p')
    (ha : DE Xs G E x a) (hb : DE Xs G E y b) (hc : DE Xs G E z c) (hm : lastMarks [op, op'] [y, z] = false) : DT Xs G E (.Compare x [op, op'] [y, z] pos) (c_test (c_chain p p' a b c)) := by
  obtain ⟨ta, pa, sa⟩ := ha
  obtain ⟨tb, pb, sb⟩ := hb
  obtain ⟨tc, pc, sc⟩ := hc
  exact ⟨_, fun j => pt_chain (ho j) (ho' j) (pa j) (pb j) (pc j) hm, snd_test (snd_chain hr hr' sa sb sc)⟩
end
theorem kit_own {K : PySem.W.Frag} {C X : Addr} {b : Bool} (hd : PySem.W.hasDictIn K X = true) (ht : PySem.W.typeIn K (.ref X) = some (.type "type")) (hs : PySem.W.subIn K (.ref C) (.ref X) = some b) (hx : PySem.W.subIn K (.ref X) (.ref X) = some true) : PySem.W.kitOne K (.ref C) (.ref X) = some b := by
  obtain ⟨cd, hc, _⟩ := PySem.W.any_some hd
  have e2 : ((PySem.W.clsIn K X).isSome && PySem.W.typeIn K (.ref X) == some (.type "type")) = true := by rw [hc, ht] <;> rfl
  unfold PySem.W.kitOne
  by_cases q : ((Value.ref C) == (Value.ref X)) = true
  · rw [if_pos q]
    have e : C = X := Value.ref.inj (beq_iff_eq.mp q)
    subst e
    rw [hx] at hs
    exact hs
  · rw [if_neg q]
    show (if ((PySem.W.clsIn K X).isSome && PySem.W.typeIn K (.ref X) == some (.type "type")) = true then PySem.W.subIn K (.ref C) (.ref X) else none) = some b
    rw [if_pos e2]
    exact hs
theorem kit_any_f {K : PySem.W.Frag} {t c : Value} {cs : List Value} {r : Bool} (h : PySem.W.kitOne K t c = some false) (hr : PySem.W.kitAny K t cs = some r) : PySem.W.kitAny K t (c :: cs) = some r := kitAny_cons h (fun _ => hr) (fun z => nomatch z)
def conV : D → Option Value
  | .con a => some (.ref a)
  | .ty n => some (.type n)
  | _ => none
def sameC : D → D → Bool
  | .con a, .con b => decide (a = b)
  | .ty m, .ty n => decide (m = n)
  | _, _ => false
def sameCs : List D → List D → Bool
  | [], [] => true
  | a :: as, b :: bs => sameC a b && sameCs as bs
  | _, _ => false
def p_isE (Y : D) (tab : Nat → Option Bool) : List D → Sto → Res D := fun ds S => match ds with
  | [.err c _, y] => if sameC y Y = true then (match tab c with
    | some b => .ok (.bl b) S
    | none => .stuck) else .stuck
  | _ => .stuck
def p_isEs (Ys : List D) (tab : Nat → Option Bool) : List D → Sto → Res D := fun ds S => match ds with
  | [.err c _, .tup ys] => if sameCs ys Ys = true then (match tab c with
    | some b => .ok (.bl b) S
    | none => .stuck) else .stuck
  | _ => .stuck
theorem con_rel {G : Gx} {ι : Ix} {L : Addr → Prop} {H : Hp} {v : V} {y Y : D} {cv : Value} (r : Rep G ι L H v y) (h : sameC y Y = true) (hY : conV Y = some cv) : ∀ u, RelV v u → u = cv := by
  cases y with
  | con a =>
    cases Y with
    | con b =>
      obtain rfl := of_decide_eq_true h
      cases hY
      cases r
      intro u ru
      exact ru
    | _ => cases h
  | ty m =>
    cases Y with
    | ty n =>
      obtain rfl := of_decide_eq_true h
      cases hY
      cases r
      intro u ru
      exact ru
    | _ => cases h
  | _ => cases h
theorem cons_rel {G : Gx} {ι : Ix} {L : Addr → Prop} {H : Hp} : ∀ {vs : List V} {ys Ys : List D} {cvs : List Value}, Reps G ι L H vs ys → sameCs ys Ys = true → Ys.mapM conV = some cvs → ∀ us, Vals vs us → us = cvs
  | _, _, [], cvs, .nil, h, hY, us, ru => by
    simp at hY
    subst hY
    cases ru
    rfl
  | _, _, _ :: _, _, .nil, h, _, _, _ => by cases h
  | _, _, [], _, .cons _ _, h, _, _, _ => by cases h
  | _, _, Y :: Ys, cvs, .cons q r, h, hY, us, ru => by
    rw [sameCs, Bool.and_eq_true] at h
    rw [List.mapM_cons] at hY
    cases e1 : conV Y with
    | none => rw [e1] at hY; cases hY
    | some cv =>
      rw [e1] at hY
      cases e2 : Ys.mapM conV with
      | none => rw [e2] at hY; cases hY
      | some cvs' =>
        rw [e2] at hY
        cases hY
        cases ru with
        | cons ru1 ru2 => rw [con_rel q h.1 e1 _ ru1, cons_rel r h.2 e2 _ ru2]
section
variable {I : Type} {Xs : I → Cx} {G : Gx} {E : WK} {kk : Nat} {a dx C : Addr}
theorem err_at {ι : Ix} {L : Addr → Prop} {H : Hp} {v : V} {c : Nat} {d : D} (r : Rep (G.hot a dx C) ι L H v (.err c d)) : v = .ref a ∧ C = G.exc c ∧ ∃ w, H dx = some (.xd [(G.exf c, w)]) ∧ Rep (G.hot a dx C) ι L H w d := by
  cases r with
  | err q1 q2 k r =>
    have e := Option.some.inj q1
    have e1 := congrArg (fun z => z.1) e
    have e2 := congrArg (fun z => z.2.1) e
    have e3 := congrArg (fun z => z.2.2) e
    dsimp only at e1 e2 e3
    subst e1 e2
    exact ⟨rfl, e3, _, q2, r⟩
theorem call_isF (F : FamH Xs G E) (p : SuIdx I dx C) : CallR (SuX Xs a dx C p) (.builtin "isinstance") (fun xs H Q => (∃ fs, H dx = some (.xd fs)) ∧ rIsD G.K C a xs H Q) := by
  have z := call_isD (X := Xs p.j) (a := a) (C := C) (dx := dx) (oe := p.oe) (pn := p.pn) (fs := []) p.hz p.hf
  rw [F.K p.j] at z
  exact z
theorem snd_isE {Y : D} {cv : Value} {tab : Nat → Option Bool} (hY : conV Y = some cv) (hC : ∀ c b, tab c = some b → ExcC G.K (G.exc c)) (ht : ∀ c b, tab c = some b → PySem.W.kitOne G.K (.ref (G.exc c)) cv = some b) :
    SndC (G.hot a dx C) (fun xs H Q => (∃ fs, H dx = some (.xd fs)) ∧ rIsD G.K C a xs H Q) (p_isE Y tab) := fun E0 ι S H xs ds Q R rs q => by
  unfold p_isE at q
  split at q
  · rename_i c d y
    split at q
    · rename_i hs
      split at q
      · rename_i b hb
        cases rs with
        | cons r1 rs =>
          cases rs with
          | cons r2 rs =>
            cases rs
            obtain ⟨rfl, rfl, w, hw, _⟩ := err_at r1
            exact ⟨⟨_, hw⟩, hC c b hb, .inl ⟨_, cv, b, rfl, con_rel r2 hs hY, ht c b hb, Post.here R q _ (.bl b)⟩⟩
      · exact q.elim
    · exact q.elim
  · exact q.elim
theorem snd_isEs {Ys : List D} {cvs : List Value} {tab : Nat → Option Bool} (hY : Ys.mapM conV = some cvs) (hC : ∀ c b, tab c = some b → ExcC G.K (G.exc c)) (ht : ∀ c b, tab c = some b → PySem.W.kitAny G.K (.ref (G.exc c)) cvs = some b) :
    SndC (G.hot a dx C) (fun xs H Q => (∃ fs, H dx = some (.xd fs)) ∧ rIsD G.K C a xs H Q) (p_isEs Ys tab) := fun E0 ι S H xs ds Q R rs q => by
  unfold p_isEs at q
  split at q
  · rename_i c d ys
    split at q
    · rename_i hs
      split at q
      · rename_i b hb
        cases rs with
        | cons r1 rs =>
          cases rs with
          | cons r2 rs =>
            cases rs
            obtain ⟨rfl, rfl, w, hw, _⟩ := err_at r1
            cases r2 with
            | tup h hl r2 => exact ⟨⟨_, hw⟩, hC c b hb, .inr ⟨_, _, cvs, b, rfl, SqT.of h, cons_rel r2 hs hY, ht c b hb, Post.here R q _ (.bl b)⟩⟩
      · exact q.elim
    · exact q.elim
  · exact q.elim
def c_xf (c : Nat) (o : ECode) : ECode := fun ρ S => (o ρ S).bind fun x S1 => match x with
  | .err c' d => if c' = c then .ok d S1 else .stuck
  | _ => .stuck
theorem de_xf (F : FamH Xs G E) {E' : WK} {c : Nat} {e : Expr} {pos : Pos} {o : ECode} (T : XfC G.K (G.exc c)) (hno : PySem.W.findIn G.K (.ref (G.exc c)) (G.exf c) = some none) (ho : DE (SuX Xs a dx C) (G.hot a dx C) E' e o)
    {n : Str} (hn : G.exf c = n) (hb : ∀ p, attributeBase e n (SuX Xs a dx C p).env (eval e (SuX Xs a dx C p).env) = eval e (SuX Xs a dx C p).env) : DE (SuX Xs a dx C) (G.hot a dx C) E' (.Attribute e n pos) (c_xf c o) := by
  subst hn
  obtain ⟨to, po, so⟩ := ho
  refine ⟨tXf a (.ref C) (some dx) (G.exc c) (G.exf c) to, fun p => pe_xf (X := Xs p.j) (pn := p.pn) (by rw [F.K p.j]; exact T) (by rw [F.K p.j]; exact hno) p.hz p.hf (po p) (hb p), fun ι S H σ ρ Q R e q => ?_⟩
  refine so.go R e q fun d S1 ι1 H1 v x1 R1 e1 r1 q1 => ?_
  cases d with
  | err c' d =>
    have q1 : Post (G.hot a dx C) (E' σ) ι1 S1 H1 (PV (G.hot a dx C) Q) (if c' = c then .ok d S1 else .stuck) := q1
    by_cases hc : c' = c
    · subst hc
      rw [if_pos rfl] at q1
      obtain ⟨rfl, hC, w, hw, rw'⟩ := err_at r1
      refine ⟨rfl, by rw [hC], dx, _, w, rfl, hw, ?_, Post.here R1 q1 _ rw'⟩
      simp [List.lookup]
    · rw [if_neg hc] at q1
      exact q1.elim
  | _ => exact q1.elim
end
abbrev ErX (G : Gx) (N : List Str) (qual : Str) (scope : Scope) (f : Addr) (E : XK) : Value × Around × List PySem.Env × Shared × Hp → Cx :=
  fun p => cxOf CX0 G.P G.w G.K G.mg G.base N qual scope f p.1 p.2.1 p.2.2.1 p.2.2.2.1 p.2.2.2.2 E
theorem err_fn {G : Gx} {x qual : Str} {st : Stmt} {f : Addr} {fd : FuncData} {N ps : List Str} {fE msg : Str} (F : Fun G.K x qual st f fd) (Sc : FnScope N ps (defScope st)) (hN : N.length = 2) (hps : ps.length = 2)
    (hb : ∀ E p, PSs (ErX G N qual (defScope st) f E p) (defBody st) (tSeq (tDrop (tVeI G.K (tCons (tVar 0) (tCons (tC (.str msg)) tNil)))) (tOst G.K fE (tVar 0) (tVar 1)))) :
    FnOk G.P G.w G.K G.mg G.base CX0 1 f fd ps (spErr G.K fE) := by
  obtain ⟨oc, od, kV, doc, pm, an, cdv, ct, osl, rfl, lk, hcd⟩ := F.ex
  exact fn_of lk hcd Sc (fun vs H Q E h => (spErr_len vs H Q E h).trans hps.symm) fun A outer s H vs Q E hr hsp => ⟨_, hb E (cdv, A, outer, s, H), err_body hsp hN⟩
structure IniFacts (B initId : String) : Prop where
  init : Slot B "__init__" initId
  initEntry : entryFor table initId = some Builtin.«BaseException.__init__»
  initSplit : splitId initId = some (B, "__init__")
  initKind : builtinKind initId = some .slot
  initRow : Manifest.signature? initId = some ⟨.positional, "*", B, .self, [⟨"args", .varPos, false⟩]⟩
  noStar : (B != "*") = true
theorem IniFacts.of {B n i : String} {bm : List Value} (F : ExcBaseFacts B n i bm) : IniFacts B i := ⟨F.init, F.initEntry, F.initSplit, F.initKind, F.initRow, F.noStar⟩
inductive Bas where
  | ve | ke | ie | ze
def Bas.nB : Bas → String
  | .ve => "ValueError" | .ke => "LookupError" | .ie => "IndexError" | .ze => "ZeroDivisionError"
def Bas.nw : Bas → String
  | .ve => "ValueError.__new__" | .ke => "LookupError.__new__" | .ie => "IndexError.__new__" | .ze => "ZeroDivisionError.__new__"
def Bas.nini : Bas → String
  | .ve => "ValueError.__init__" | .ke => "LookupError.__init__" | .ie => "IndexError.__init__" | .ze => "ZeroDivisionError.__init__"
def Bas.tl : Bas → List Value
  | .ve => [.type "ValueError", .type "Exception", .type "BaseException", .type "object"]
  | .ke => [.type "KeyError", .type "LookupError", .type "Exception", .type "BaseException", .type "object"]
  | .ie => [.type "IndexError", .type "LookupError", .type "Exception", .type "BaseException", .type "object"]
  | .ze => [.type "ZeroDivisionError", .type "ArithmeticError", .type "Exception", .type "BaseException", .type "object"]
def Bas.ntl : Bas → List Value
  | .ke => [.type "LookupError", .type "Exception", .type "BaseException", .type "object"]
  | β => β.tl
theorem Bas.N : ∀ β : Bas, ExcBaseFacts β.nB β.nw β.nini β.ntl
  | .ve => PySem.F.excBase_ValueError
  | .ke => PySem.F.excBase_LookupError
  | .ie => PySem.F.excBase_IndexError
  | .ze => PySem.F.excBase_ZeroDivisionError
theorem Bas.pass : ∀ (β : Bas) (self : Value), refuseLoop self "__setattr__" β.tl = pure ()
  | .ve, self => PySem.F.store_ValueError.passes self
  | .ke, self => by kernel_rfl
  | .ie, self => by kernel_rfl
  | .ze, self => by kernel_rfl
theorem Bas.obj : ∀ β : Bas, β.tl.contains (.type "object") = true
  | .ve => by decide +kernel
  | .ke => by decide +kernel
  | .ie => by decide +kernel
  | .ze => by decide +kernel
theorem eqO_ok {a b : Option (Option Value)} (h : eqO a b = true) : a = b := of_decide_eq_true h
theorem eqV_ok {a b : Option Value} (h : eqV a b = true) : a = b := of_decide_eq_true h
theorem eqB_ok {a b : Option Bool} (h : eqB a b = true) : a = b := of_decide_eq_true h
theorem isInt_ok {o : Option (Option Value)} {i : Int} (h : isInt o i = true) : ∃ t, o = some (some (.int i t)) := by
  unfold isInt at h
  split at h
  · rename_i j t
    have e : j = i := of_decide_eq_true h
    exact ⟨t, by rw [e]⟩
  · cases h
theorem isRec_ok {o : Option (List Value)} {f : Addr} (h : isRec o f = true) : ∃ r, o = some (.ref f :: r) := by
  unfold isRec at h
  split at h
  · rename_i a r
    have e : a = f := of_decide_eq_true h
    exact ⟨r, by rw [e]⟩
  · cases h
theorem isGet_ok {o : Option PySem.W.CFound} {b : String} {p C : Addr} (h : isGet o b p C = true) : o = some (.get (.builtin b) (.ref p) .none (.ref C)) := by
  unfold isGet at h
  split at h
  · simp only [Bool.and_eq_true, decide_eq_true_eq] at h
    obtain ⟨rfl, rfl, rfl⟩ := h
    rfl
  · cases h
theorem isVInt_ok {o : Option PySem.W.CFound} {i : Int} (h : isVInt o i = true) : ∃ t, o = some (.val (.int i t)) := by
  unfold isVInt at h
  split at h
  · rename_i j t
    have e : j = i := of_decide_eq_true h
    exact ⟨t, by rw [e]⟩
  · cases h
theorem isVBi_ok {o : Option PySem.W.CFound} {b : String} (h : isVBi o b = true) : o = some (.val (.builtin b)) := by
  unfold isVBi at h
  split at h
  · have e := of_decide_eq_true h
    rw [e]
  · cases h
theorem relX_ok {v : V} {u : Value} (h : relX v u = true) : RelV v u := by
  unfold relX at h
  split at h
  · rename_i i j t
    have e : i = j := of_decide_eq_true h
    exact ⟨t, by rw [e]⟩
  · rename_i x y t
    have e : x = y := of_decide_eq_true h
    exact ⟨t, by rw [e]⟩
  · cases h
theorem relsX_ok : ∀ {vs : List V} {us : List Value}, relsX vs us = true → Vals vs us
  | [], [], _ => .nil
  | [], _ :: _, h => by cases h
  | _ :: _, [], h => by cases h
  | v :: vs, u :: us, h => by
    have h : (relX v u && relsX vs us) = true := h
    rw [Bool.and_eq_true] at h
    exact .cons (relX_ok h.1) (relsX_ok h.2)
theorem isTupX_ok {K : PySem.W.Frag} {a : Addr} {xs : List V} (h : isTupX K a xs = true) : WrT K a xs := by
  unfold isTupX at h
  split at h
  · rename_i T od its n sl e
    simp only [Bool.and_eq_true, decide_eq_true_eq] at h
    obtain ⟨rfl, h2, h3⟩ := h
    exact ⟨_, its, n, e, rfl, rfl, Nat.le_trans (Nat.le_of_ble_eq_true h2) (by rw [sizeLine_eq]; decide), relsX_ok h3⟩
  · cases h
theorem isExcX_ok {K : PySem.W.Frag} {C : Addr} {mro : List Value} {nw : String} (h : isExcX K C mro nw = true) :
    ∃ nm q N bs sn sub ab col dd k0 k1 k2 k3 k5, K.lookup C = some (excClassObj nm q C N bs mro true sn sub ab col dd k0 k1 k2 k3 k5 nw) := by
  unfold isExcX at h
  split at h
  · rename_i T dd cd sl e
    simp only [Bool.and_eq_true, decide_eq_true_eq, Bool.not_eq_true'] at h
    obtain ⟨rfl, h2, h3, h4, h5⟩ := h
    split at h5
    · rename_i k0 k1 k2 k3 b k5 es
      have eb := of_decide_eq_true h5
      obtain ⟨nm, bs, m2, N, q, hd, sn, sub, ab, col, dl⟩ := cd
      simp only at h2 h3 h4
      subst h2 h3 h4 eb
      refine ⟨nm, q, N, bs, sn, sub, ab, col, dd, k0, k1, k2, k3, k5, ?_⟩
      rw [e]
      have e2 : sl = #[k0, k1, k2, k3, some (.builtin b), k5] := by
        apply Array.ext'
        rw [es]
      rw [e2]
    · cases h5
  · cases h
theorem fnX_ok {K : PySem.W.Frag} {d : HdF} (e : fnOb K (d.at_ K) = d.val) (c : codeX K (d.at_ K) d.qual = true) :
    ∃ oc od osl kV doc pm an cdv ct, K.lookup (d.at_ K) = some ⟨oc, od, .func (PySem.W.fnOf d.name d.qual d.params d.body d.scope .none kV doc pm an cdv ct), osl⟩ ∧ PySem.W.codeIn K cdv d.qual = true := by
  unfold codeX at c
  unfold fnOb at e
  cases q : K.lookup (d.at_ K) with
  | none =>
    rw [q] at c
    cases c
  | some o =>
    obtain ⟨oc, od, dt, osl⟩ := o
    rw [q] at c e
    cases dt with
    | func fd =>
      obtain ⟨n1, n2, n3, n4, n5, n6, n7, n8, n9, n10, n11, n12, n13, n14, n15⟩ := fd
      have e2 : (some (n1, n2, n3, n4, n5, n6, n7, n8, n15) : He.FnV) = some (d.name, d.qual, d.params, .stmts d.body, d.scope, mainGlobals, [], .none, builtinsNs) := e
      simp only [Option.some.injEq, Prod.mk.injEq] at e2
      obtain ⟨h1, h2, h3, h4, h5, h6, h7, h8, h9⟩ := e2
      subst h1 h2 h3 h4 h5 h6 h7 h8 h9
      exact ⟨oc, od, osl, n9, n10, n11, n12, n13, n14, rfl, c⟩
    | _ => cases c
theorem obsX_eq {fa : PySem.W.Frag → List Bool} {fn : List HdF} (s : PySem.W.SharedT) : obsX fa fn s = (hookX fa fn).obs s.abs := by
  have e : HandSHeadRun.getT s = s.abs.heap.get? := funext fun a => HandSHeadRun.getT_eq s a
  unfold obsX
  rw [e]
  rfl
section
variable {fa : PySem.W.Frag → List Bool} {fn : List HdF} {K : PySem.W.Frag}
theorem SaysX.fact (c : SaysX fa fn K) (i : Nat) {b : Bool} (h : (fa K)[i]? = some b) : b = true := by
  have c1 : ((fa K).all id && fn.all fun d => codeX K (d.at_ K) d.qual) = true := congrArg (fun z : AlX => z.1) c
  rw [Bool.and_eq_true] at c1
  exact List.all_eq_true.mp c1.1 b (List.mem_of_getElem? h)
theorem SaysX.def_ (c : SaysX fa fn K) (i : Nat) {d : HdF} (h : fn[i]? = some d) :
    ∃ oc od osl kV doc pm an cdv ct, K.lookup (d.at_ K) = some ⟨oc, od, .func (PySem.W.fnOf d.name d.qual d.params d.body d.scope .none kV doc pm an cdv ct), osl⟩ ∧ PySem.W.codeIn K cdv d.qual = true := by
  have c1 : ((fa K).all id && fn.all fun d => codeX K (d.at_ K) d.qual) = true := congrArg (fun z : AlX => z.1) c
  rw [Bool.and_eq_true] at c1
  have e : fn.map (fun d => fnOb K (d.at_ K)) = fn.map HdF.val := congrArg (fun z : AlX => z.2) c
  have e2 : (fn.map fun d => fnOb K (d.at_ K))[i]? = (fn.map HdF.val)[i]? := by rw [e]
  rw [List.getElem?_map, List.getElem?_map, h] at e2
  exact fnX_ok (Option.some.inj e2) (List.all_eq_true.mp c1.2 d (List.mem_of_getElem? h))
end
theorem walk_dlX {l : PySem.W.OpenLaw} {n k : Nat} {q : Program} {loose : List Str} {XP : (Str → Option Value) → Heap → Prop} {fa : PySem.W.Frag → List Bool} {fn : List HdF} {d : DefRec} {x : Str} {m : Gx → List D → Sto → Res D}
    (hn : l.most = some n) (hn2 : n ≤ sizeLine) (hdf : d.params.defaults = []) (hr : Room k callerA) (ht : ∀ G, Tells n (m G))
    (F : ∀ (w : World) (mg : Str → Option Value) (fad : Addr) (h : Heap) (K : PySem.W.Frag), K.In h → SaysX fa fn K → h.Ns mainGlobals mg → mg d.name = some (.ref fad) →
      ∃ (fd : FuncData) (G0 : Heap → Gx), (∀ base, (G0 base).P = l.prog ∧ (G0 base).w = w ∧ (G0 base).K = K ∧ (G0 base).mg = mg ∧ (G0 base).base = base) ∧ (∀ (s : Shared) (u : Value), BindsTo s fd ⟨[u], []⟩ [(x, u)]) ∧
        ∀ base : Heap, K.In base → base.Ns mainGlobals mg → FnB (G0 base) k fad fd [x] (m (G0 base))) :
    PySem.W.WalkO q loose XP (hookX fa fn).says l.row.toRowW d [] (fun f vs => PySem.call f vs) := by
  refine Att.attach_callB hn hdf fun w s₀ s₁ mg mb fa o pm cd doc a vs ns G Y ho hd hcd hmg hobj hints hlen hbits hg => ?_
  obtain ⟨K, KX, c⟩ := Y
  obtain ⟨fd, G0, hG, hb, hF⟩ := F w mg fa _ K KX c G.T.g hmg
  exact law_callD hG KX G.T.g G.T.b G.T.builtins G.T.nolimit hg hobj hints (Nat.le_trans hlen hn2) hr hF hb fun base => ht (G0 base) ns hlen hbits
structure Hd where
  x : Str
  n : Str
  np : Pos
  pos : Pos
  b₀ : Stmt
  suite : List Stmt
  c : Value
  i : Nat
  ts : Addr → Value → Option Addr → TS
structure HdD where
  x : Str
  n : Str
  np : Pos
  pos : Pos
  b₀ : Stmt
  suite : List Stmt
  cv : Value
  i : Nat
  m : Nat → Option Bool
  cs : SCode
section
variable {I : Type} {Xs : I → Cx} {G : Gx} {E : WK} {kk : Nat}
open Classical in
noncomputable def tsD (Xs : I → Cx) (G : Gx) (h : HdD) (a : Addr) (cls : Value) (d : Option Addr) : TS := match cls, d with
  | .ref C, some dx => if p : DSs (SuX Xs a dx C) (G.hot a dx C) (fun _ => E0) (h.b₀ :: h.suite) h.cs then Classical.choose p else fun _ _ _ => False
  | _, _ => fun _ _ _ => False
noncomputable def HdD.hd (Xs : I → Cx) (G : Gx) (h : HdD) : Hd := ⟨h.x, h.n, h.np, h.pos, h.b₀, h.suite, h.cv, h.i, tsD Xs G h⟩
end
def keyPy : Key → PyData
  | .inl i => .int i
  | .inr x => .str x
inductive Ds : V → PyData → Prop
  | non : Ds .non .none
  | bl (b : Bool) : Ds (.bl b) (.bool b)
  | int (i : Int) : Ds (.int i) (.int i)
  | str (x : Str) : Ds (.str x) (.str x)
inductive DsAll : List V → List PyData → Prop
  | nil : DsAll [] []
  | cons {v : V} {vs : List V} {d : PyData} {ds : List PyData} : Ds v d → DsAll vs ds → DsAll (v :: vs) (d :: ds)
mutual
inductive Dq (K : PySem.W.Frag) (H : Hp) : V → PyData → Prop
  | sc {v : V} {p : PyData} : Ds v p → Dq K H v p
  | tup {a : Addr} {xs : List V} {ds : List PyData} : SqT K H a xs → DqAll K H xs ds → Dq K H (.ref a) (.tuple ds)
  | lst {a : Addr} {xs : List V} {ds : List PyData} : SqL K H a xs → DqAll K H xs ds → Dq K H (.ref a) (.list ds)
  | dk {a : Addr} {kvs : List (Key × V)} {ps : List PyData} : H a = some (.dK kvs) → DsAll (kvs.map (·.2)) ps → Dq K H (.ref a) (.dict ((kvs.map fun q => keyPy q.1).zip ps))
inductive DqAll (K : PySem.W.Frag) (H : Hp) : List V → List PyData → Prop
  | nil : DqAll K H [] []
  | cons {v : V} {vs : List V} {d : PyData} {ds : List PyData} : Dq K H v d → DqAll K H vs ds → DqAll K H (v :: vs) (d :: ds)
end
theorem Ds.reads {h : Heap} {v : V} {u : Value} {p : PyData} (q : Ds v p) (r : RelV v u) : Reads h u p [] := by
  cases q with
  | non => cases r; exact Reads.none
  | bl b => cases r; exact Reads.bool b
  | int i => obtain ⟨t, rfl⟩ := r; exact Reads.int i t
  | str x => obtain ⟨t, rfl⟩ := r; exact Reads.str x t
theorem DsAll.length {vs : List V} {ps : List PyData} (q : DsAll vs ps) : vs.length = ps.length := by
  induction q with
  | nil => rfl
  | cons _ _ ih => rw [List.length_cons, List.length_cons, ih]
theorem pairs_keys {P : Program} {w : World} {h : Heap} : ∀ {es : List DictEntry} {vs : List (Key × Value)} {kvs : List (Key × V)}, Pairs (mixKind P w) es vs → KV kvs vs → ReadsAll h (es.map (·.key)) (kvs.map fun q => keyPy q.1) []
  | _, _, _, .nil, .nil => ReadsAll.nil
  | _, _, _, .cons hk hv hp, .cons hq hr => by
    have ih := pairs_keys (h := h) hp hr
    rw [List.map_cons, List.map_cons, hq.1]
    have hk : keyIs _ _ = true := hk
    rcases keyIs_shape hk with ⟨i, t, e1, e2⟩ | ⟨x, t, e1, e2⟩
    · rw [e1, e2]
      exact ReadsAll.cons (Reads.int i t) ih
    · rw [e1, e2]
      exact ReadsAll.cons (Reads.str x t) ih
theorem pairs_vals {P : Program} {w : World} {h : Heap} : ∀ {es : List DictEntry} {vs : List (Key × Value)} {kvs : List (Key × V)} {ps : List PyData}, Pairs (mixKind P w) es vs → KV kvs vs → DsAll (kvs.map (·.2)) ps → ReadsAll h (es.map (·.val)) ps []
  | _, _, _, _, .nil, .nil, d => by
    cases d
    exact ReadsAll.nil
  | _, _, _, _, .cons hk hv hp, .cons hq hr, d => by
    cases d with
    | cons d1 d2 =>
      have ih := pairs_vals (h := h) hp hr d2
      rw [List.map_cons, hv]
      exact ReadsAll.cons (d1.reads hq.2) ih
section
variable {X : Cx} {pins : List (Addr × Obj)} {σ : L2.St} {H : Hp} {s : Shared}
mutual
theorem Dq.reads (I : Inv X pins σ H s) : ∀ (d : PyData) (v : V) (u : Value), Dq X.K H v d → RelV v u → ∃ as, Reads s.heap u d as
  | .tuple ds, _, _, h, r => by
    cases h with
    | sc h => cases h
    | tup hs ha =>
      cases r
      obtain ⟨its, rv, ⟨o, ho, hc, n, hd⟩, _⟩ := I.tuple hs
      obtain ⟨as, hr⟩ := Dq.readsAll I ds _ its ha rv
      exact ⟨_, Reads.tuple ho hc hd hr⟩
  | .dict kds, _, _, h, r => by
    cases h with
    | sc h => cases h
    | dk hk hd =>
      cases r
      obtain ⟨hz, hsm, vs, kv, o, es, ep, ho, hx, hdt, hko, hp, hnd⟩ := dk_of I.hok hk
      have h1 := pairs_keys (h := s.heap) hp kv
      have h2 := pairs_vals (h := s.heap) hp kv hd
      have hl := hd.length
      rw [List.length_map] at hl
      exact ⟨_, Reads.dict ho hx.1 hdt (by rw [List.map_fst_zip (by rw [List.length_map]; omega)]; exact h1) (by rw [List.map_snd_zip (by rw [List.length_map]; omega)]; exact h2)⟩
  | .none, _, _, h, r => by cases h with | sc h => exact ⟨_, h.reads r⟩
  | .bool b, _, _, h, r => by cases h with | sc h => exact ⟨_, h.reads r⟩
  | .int i, _, _, h, r => by cases h with | sc h => exact ⟨_, h.reads r⟩
  | .str x, _, _, h, r => by cases h with | sc h => exact ⟨_, h.reads r⟩
  | .list ds, _, _, h, r => by
    cases h with
    | sc h => cases h
    | lst hs ha =>
      cases r
      obtain ⟨its, rv, ⟨o, n, ho, hc, _, hd⟩, _⟩ := I.list hs
      obtain ⟨as, hr⟩ := Dq.readsAll I ds _ its ha rv
      exact ⟨_, Reads.list ho hc hd hr⟩
theorem Dq.readsAll (I : Inv X pins σ H s) : ∀ (ds : List PyData) (vs : List V) (us : List Value), DqAll X.K H vs ds → Vals vs us → ∃ as, ReadsAll s.heap us ds as
  | [], _, _, h, r => by
    cases h
    cases r
    exact ⟨_, ReadsAll.nil⟩
  | d :: ds, _, _, h, r => by
    cases h with
    | cons h1 h2 =>
      cases r with
      | cons r1 r2 =>
        obtain ⟨as, q1⟩ := Dq.reads I d _ _ h1 r1
        obtain ⟨bs, q2⟩ := Dq.readsAll I ds _ _ h2 r2
        exact ⟨_, ReadsAll.cons q1 q2⟩
end
theorem Ds.rk {P : Program} {w : World} {h : Heap} {v : V} {u : Value} {p : PyData} (q : Ds v p) (r : RelV v u) (hs : p.showable = true) (hz : p.shown.length ≤ sizeLine) : ∃ bs, ReadAtMost h p.depth bs ∧ ReprK P w bs h p.depth u p.shown :=
  ReprK.of_reads (q.reads r) hs (fun _ => by simp) hz
mutual
theorem Dq.rk (I : Inv X pins σ H s) : ∀ (d : PyData) (v : V) (u : Value), Dq X.K H v d → RelV v u → d.showable = true → d.shown.length ≤ sizeLine → ∃ bs, ReadAtMost s.heap d.depth bs ∧ ReprK X.prog X.w bs s.heap d.depth u d.shown
  | .tuple ds, _, _, h, r, hs, hz => by
    cases h with
    | sc h => cases h
    | tup hq ha =>
      cases r
      obtain ⟨its, rv, ⟨o, ho, hc, n, hd⟩, _⟩ := I.tuple hq
      obtain ⟨as, hr⟩ := Dq.readsAll I ds _ its ha rv
      have hz' : (tupleText (PyData.shownAll ds)).length ≤ sizeLine := by simpa only [PyData.shown] using hz
      obtain ⟨bs, hb, hk⟩ := Dq.rkAll I ds _ its ha rv (by simpa [PyData.showable] using hs) (fun t ht => Nat.le_trans (tupleText_mem_le ht) hz')
      have rd := Reads.tuple ho hc hd hr
      have hna := not_mem_of_deeper rd (by simp only [PyData.depth]; omega) hb
      refine ⟨_ :: bs, ReadAtMost.cons rd (by simp only [PyData.depth]; omega) hb, ?_⟩
      simp only [PyData.depth, PyData.shown]
      exact ReprK.tuple ho hc hd hna hk
  | .list ds, _, _, h, r, hs, hz => by
    cases h with
    | sc h => cases h
    | lst hq ha =>
      cases r
      obtain ⟨its, rv, ⟨o, n, ho, hc, _, hd⟩, _⟩ := I.list hq
      obtain ⟨as, hr⟩ := Dq.readsAll I ds _ its ha rv
      have hz' : (listText (PyData.shownAll ds)).length ≤ sizeLine := by simpa only [PyData.shown] using hz
      obtain ⟨bs, hb, hk⟩ := Dq.rkAll I ds _ its ha rv (by simpa [PyData.showable] using hs) (fun t ht => Nat.le_trans (listText_mem_le ht) hz')
      have rd := Reads.list ho hc hd hr
      have hna := not_mem_of_deeper rd (by simp only [PyData.depth]; omega) hb
      refine ⟨_ :: bs, ReadAtMost.cons rd (by simp only [PyData.depth]; omega) hb, ?_⟩
      simp only [PyData.depth, PyData.shown]
      cases its with
      | nil =>
        cases hr
        simp only [PyData.shownAll, listText_nil]
        exact ReprK.listEmpty ho hc hd
      | cons x l => exact ReprK.list ho hc hd hna (by simpa using hk.length_eq) (fun i y e => hk.item i y (by simpa using e))
  | .dict kds, _, _, h, r, hs, hz => by
    cases h with
    | sc h => cases h
    | dk hk hd =>
      cases r
      rename_i a kvs ps
      obtain ⟨hzl, hsm, vs, kv, o, es, ep, ho, hx, hdt, hko, hp, hnd⟩ := dk_of I.hok hk
      have hl := hd.length
      rw [List.length_map] at hl
      have h1 : ReadsAll s.heap (es.toList.map (·.key)) (((kvs.map fun q => keyPy q.1).zip ps).map (·.1)) [] := by
        rw [List.map_fst_zip (by rw [List.length_map]; omega)]
        exact pairs_keys hp kv
      have h2 : ReadsAll s.heap (es.toList.map (·.val)) (((kvs.map fun q => keyPy q.1).zip ps).map (·.2)) [] := by
        rw [List.map_snd_zip (by rw [List.length_map]; omega)]
        exact pairs_vals hp kv hd
      generalize ((kvs.map fun q => keyPy q.1).zip ps) = kds at h1 h2 hs hz ⊢
      have hz' : (dictText (PyData.shownKv kds)).length ≤ sizeLine := by simpa only [PyData.shown] using hz
      obtain ⟨hs1, hs2⟩ := PyData.showableKv_split kds (by simpa [PyData.showable] using hs)
      obtain ⟨b1, hb1, k1⟩ := ReprAllK.of_readsAll (prog := X.prog) (w := X.w) h1 hs1 (fun _ => by simp) (fun t ht => let ⟨p, hp, hl⟩ := PyData.shownKv_key_le kds t ht; Nat.le_trans hl (Nat.le_trans (dictText_mem_le hp) hz'))
      obtain ⟨b2, hb2, k2⟩ := ReprAllK.of_readsAll (prog := X.prog) (w := X.w) h2 hs2 (fun _ => by simp) (fun t ht => let ⟨p, hp, hl⟩ := PyData.shownKv_val_le kds t ht; Nat.le_trans hl (Nat.le_trans (dictText_mem_le hp) hz'))
      have rd := Reads.dict ho hx.1 hdt h1 h2
      have hb : ReadAtMost s.heap (PyData.depthKv kds) (b1 ++ b2) := (hb1.mono (PyData.depthAll_keys_le kds)).append (hb2.mono (PyData.depthAll_vals_le kds))
      have hna : a ∉ b1 ++ b2 := not_mem_of_deeper rd (by simp only [PyData.depth]; omega) hb
      refine ⟨a :: (b1 ++ b2), ReadAtMost.cons rd (by simp only [PyData.depth]; omega) hb, ?_⟩
      simp only [PyData.depth, PyData.shown, PyData.shownKv_eq]
      exact ReprK.dict ho hx.1 hdt hsm hna (ReprEntriesK.of_two es.toList _ _
        (k1.more_le (fun b hb => List.mem_append_left _ hb) (PyData.depthAll_keys_le kds)) (k2.more_le (fun b hb => List.mem_append_right _ hb) (PyData.depthAll_vals_le kds)))
  | .none, _, _, h, r, hs, hz => by cases h with | sc h => exact h.rk r hs hz
  | .bool b, _, _, h, r, hs, hz => by cases h with | sc h => exact h.rk r hs hz
  | .int i, _, _, h, r, hs, hz => by cases h with | sc h => exact h.rk r hs hz
  | .str x, _, _, h, r, hs, hz => by cases h with | sc h => exact h.rk r hs hz
theorem Dq.rkAll (I : Inv X pins σ H s) : ∀ (ds : List PyData) (vs : List V) (us : List Value), DqAll X.K H vs ds → Vals vs us → PyData.showableAll ds = true → (∀ t ∈ PyData.shownAll ds, t.length ≤ sizeLine) →
    ∃ bs, ReadAtMost s.heap (PyData.depthAll ds) bs ∧ ReprAllK X.prog X.w bs s.heap (PyData.depthAll ds) us (PyData.shownAll ds)
  | [], _, _, h, r, _, _ => by
    cases h
    cases r
    exact ⟨[], (fun _ h => nomatch h), by simp only [PyData.shownAll]; exact .nil⟩
  | d :: ds, _, _, h, r, hs, hz => by
    cases h with
    | cons h1 h2 =>
      cases r with
      | cons r1 r2 =>
        have hs' : d.showable = true ∧ PyData.showableAll ds = true := by simpa [PyData.showableAll] using hs
        obtain ⟨b1, hb1, k1⟩ := Dq.rk I d _ _ h1 r1 hs'.1 (hz _ (by simp only [PyData.shownAll]; exact List.mem_cons_self ..))
        obtain ⟨b2, hb2, k2⟩ := Dq.rkAll I ds _ _ h2 r2 hs'.2 (fun t ht => hz t (by simp only [PyData.shownAll]; exact List.mem_cons_of_mem _ ht))
        refine ⟨b1 ++ b2, ?_, ?_⟩
        · intro b hm
          simp only [PyData.depthAll]
          rcases List.mem_append.mp hm with hm | hm
          · obtain ⟨d', as', r', hd'⟩ := hb1 b hm
            exact ⟨d', as', r', Nat.le_trans hd' (Nat.le_max_left _ _)⟩
          · obtain ⟨d', as', r', hd'⟩ := hb2 b hm
            exact ⟨d', as', r', Nat.le_trans hd' (Nat.le_max_right _ _)⟩
        · simp only [PyData.depthAll, PyData.shownAll]
          exact .cons ((k1.more fun b hb => List.mem_append_left _ hb).level_le (Nat.le_max_left _ _)) (k2.more_le (fun b hb => List.mem_append_right _ hb) (Nat.le_max_right _ _))
end
theorem Dq.shows (I : Inv X pins σ H s) {d : PyData} {a : Addr} (h : Dq X.K H (.ref a) d) (hs : d.showable = true) (hz : d.shown.length ≤ sizeLine) (hk : (∃ ys, d = .tuple ys) ∨ ∃ ys, d = .list ys) : ∃ T idr, ShowsBy X.prog X.w s.heap a d T idr := by
  rcases hk with ⟨ds, rfl⟩ | ⟨ds, rfl⟩
  · cases h with
    | sc h => cases h
    | tup hq ha =>
      obtain ⟨its, rv, ⟨o, ho, hc, n, hd⟩, _⟩ := I.tuple hq
      obtain ⟨as, hr⟩ := Dq.readsAll I ds _ its ha rv
      have hz' : (tupleText (PyData.shownAll ds)).length ≤ sizeLine := by simpa only [PyData.shown] using hz
      obtain ⟨bs, hb, hk⟩ := Dq.rkAll I ds _ its ha rv (by simpa [PyData.showable] using hs) (fun t ht => Nat.le_trans (tupleText_mem_le ht) hz')
      have hna : a ∉ bs := not_mem_of_deeper (Reads.tuple ho hc hd hr) (by simp only [PyData.depth]; omega) hb
      refine ⟨"tuple", "tuple.__repr__", F.slot_tuple_repr, F.slot_tuple_str, F.slot_tuple_format, fun s hk0 => ⟨o, hk0 _ _ ho, hc⟩, fun A E s Q hg hu hk0 hQ => ?_⟩
      simp only [PyData.depth] at hu
      simp only [PyData.shown] at hQ
      exact call_tuple_reprK ho hc hd hna hk hg (fun b _ => Clear.nil b) hu hk0 hQ hz'
  · cases h with
    | sc h => cases h
    | lst hq ha =>
      obtain ⟨its, rv, ⟨o, n, ho, hc, _, hd⟩, _⟩ := I.list hq
      obtain ⟨as, hr⟩ := Dq.readsAll I ds _ its ha rv
      have hz' : (listText (PyData.shownAll ds)).length ≤ sizeLine := by simpa only [PyData.shown] using hz
      obtain ⟨bs, hb, hk⟩ := Dq.rkAll I ds _ its ha rv (by simpa [PyData.showable] using hs) (fun t ht => Nat.le_trans (listText_mem_le ht) hz')
      have hna : a ∉ bs := not_mem_of_deeper (Reads.list ho hc hd hr) (by simp only [PyData.depth]; omega) hb
      refine ⟨"list", "list.__repr__", F.slot_list_repr.toG, F.slot_list_str, F.slot_list_format, fun s hk0 => ⟨o, hk0 _ _ ho, hc⟩, fun A E s Q hg hu hk0 hQ => ?_⟩
      simp only [PyData.depth] at hu
      simp only [PyData.shown] at hQ
      cases its with
      | nil =>
        cases hr
        simp only [PyData.shownAll, listText_nil] at hQ
        exact call_list_repr_empty ⟨o, hk0 _ _ ho, hc⟩ (hk0 _ _ ho) hd (hQ _ _ _ fun _ _ e => e)
      | cons x l => exact call_list_reprK ho hc hd hna (by simpa using hk.length_eq) (fun i y e => hk.item i y (by simpa using e)) hg (fun b _ => Clear.nil b) hu hk0 hQ hz'
end
def pySc : D → Option PyData
  | .non => some .none
  | .bl b => some (.bool b)
  | .int i => some (.int i)
  | .str x => some (.str x)
  | _ => none
def pyScL : List D → Option (List PyData)
  | [] => some []
  | d :: ds => (pySc d).bind fun p => (pyScL ds).map fun ps => p :: ps
mutual
def pyX : D → Option PyData
  | .tup ds => (pyXL ds).map .tuple
  | .lst ds => (pyXL ds).map .list
  | .dK kds => (pyScL (kds.map (·.2))).map fun ps => .dict ((kds.map fun q => keyPy q.1).zip ps)
  | d => pySc d
def pyXL : List D → Option (List PyData)
  | [] => some []
  | d :: ds => (pyX d).bind fun p => (pyXL ds).map fun ps => p :: ps
end
section
variable {G : Gx} {ι : Ix} {L : Addr → Prop} {H : Hp}
theorem Rep.sc {v : V} {d : D} {p : PyData} (r : Rep G ι L H v d) (e : pySc d = some p) : Ds v p := by
  cases d <;> first | (cases e; done) | skip
  · cases r; cases e; exact .non
  · cases r; cases e; exact .bl _
  · cases r; cases e; exact .int _
  · cases r; cases e; exact .str _
theorem Reps.sc : ∀ {vs : List V} {ds : List D} {ps : List PyData}, Reps G ι L H vs ds → pyScL ds = some ps → DsAll vs ps
  | _, _, _, .nil, e => by
    cases e
    exact .nil
  | _, _, _, .cons r rs, e => by
    rw [pyScL] at e
    obtain ⟨p, e1, e⟩ := Option.bind_eq_some_iff.mp e
    obtain ⟨ps, e2, rfl⟩ := Option.map_eq_some_iff.mp e
    exact .cons (r.sc e1) (rs.sc e2)
mutual
theorem Rep.pyX : ∀ {v : V} {d : D} {p : PyData}, Rep G ι L H v d → DL.pyX d = some p → Dq G.K H v p
  | _, .tup ds, _, .tup q k r, e => by
    rw [DL.pyX] at e
    obtain ⟨ps, e1, rfl⟩ := Option.map_eq_some_iff.mp e
    exact .tup (SqT.of q) (Reps.pyX r e1)
  | _, .lst ds, _, .lst q k r, e => by
    rw [DL.pyX] at e
    obtain ⟨ps, e1, rfl⟩ := Option.map_eq_some_iff.mp e
    exact .lst (SqL.of q) (Reps.pyX r e1)
  | _, .dK kds, _, .dK (kvs := kvs) q k e0 r, e => by
    rw [DL.pyX] at e
    obtain ⟨ps, e1, rfl⟩ := Option.map_eq_some_iff.mp e
    have e2 : (kds.map fun q => keyPy q.1) = kvs.map fun q => keyPy q.1 := by
      have z := congrArg (List.map keyPy) e0
      rw [List.map_map, List.map_map] at z
      exact z.symm
    rw [e2]
    exact .dk q (Reps.sc r e1)
  | _, .non, _, r, e => .sc (r.sc e)
  | _, .bl b, _, r, e => .sc (r.sc e)
  | _, .int i, _, r, e => .sc (r.sc e)
  | _, .str x, _, r, e => .sc (r.sc e)
  | _, .scr _, _, _, e => by cases e
  | _, .wtp _, _, _, e => by cases e
  | _, .dT _, _, _, e => by cases e
  | _, .obj _ _, _, _, e => by cases e
  | _, .err _ _, _, _, e => by cases e
  | _, .ref _, _, _, e => by cases e
  | _, .con _, _, _, e => by cases e
  | _, .ty _, _, _, e => by cases e
theorem Reps.pyX : ∀ {vs : List V} {ds : List D} {ps : List PyData}, Reps G ι L H vs ds → pyXL ds = some ps → DqAll G.K H vs ps
  | _, [], _, .nil, e => by
    cases e
    exact .nil
  | _, _ :: _, _, .cons r rs, e => by
    rw [pyXL] at e
    obtain ⟨p, e1, e⟩ := Option.bind_eq_some_iff.mp e
    obtain ⟨ps, e2, rfl⟩ := Option.map_eq_some_iff.mp e
    exact .cons (Rep.pyX r e1) (Reps.pyX rs e2)
end
end
def textX (p : PyData) : Option Str := match p with
  | .tuple xs => if (PyData.tuple xs).showable = true ∧ (PyData.tuple xs).depth ≤ 60 ∧ (PyData.tuple xs).shown.length ≤ 1000000 then some (PyData.tuple xs).shown else none
  | .list xs => if (PyData.list xs).showable = true ∧ (PyData.list xs).depth ≤ 60 ∧ (PyData.list xs).shown.length ≤ 1000000 then some (PyData.list xs).shown else none
  | _ => none
def p_reprX (ds : List D) (S : Sto) : Res D := match ds with
  | [d] => match (pyOf S d).bind textOf with
    | some x => .ok (.str x) S
    | none => match (pyX d).bind textX with
      | some x => .ok (.str x) S
      | none => .stuck
  | _ => .stuck
theorem reprX_of {d : D} {S : Sto} {x : Str} (h : p_repr [d] S = .ok (.str x) S) : p_reprX [d] S = .ok (.str x) S := by
  have e1 : p_repr [d] S = (match (pyOf S d).bind textOf with
    | some x => .ok (.str x) S
    | none => .stuck) := rfl
  have e2 : p_reprX [d] S = (match (pyOf S d).bind textOf with
    | some x => .ok (.str x) S
    | none => match (pyX d).bind textX with
      | some x => .ok (.str x) S
      | none => .stuck) := rfl
  rw [e1] at h
  rw [e2]
  cases hh : (pyOf S d).bind textOf with
  | some y =>
    rw [hh] at h
    exact h
  | none =>
    rw [hh] at h
    cases h
def rReprX (K : PySem.W.Frag) : List V → Hp → VK → Prop := fun xs H Q => rRepr K xs H Q ∨ ∃ v p, xs = [v] ∧ Dq K H v p ∧ ((∃ ys, p = .tuple ys) ∨ ∃ ys, p = .list ys) ∧ p.showable = true ∧ p.depth ≤ 60 ∧ p.shown.length ≤ 1000000 ∧ Q (.str p.shown) H
theorem call_reprX {X : Cx} (hg : X.A.guards = some []) (hu : X.A.units + 64 < cLine) : CallR X (.builtin "repr") (rReprX X.K) := by
  intro pins s σ H xs us Q I r h
  rcases h with h | ⟨v, p, rfl, hd, hk, h1, h3, h4, q⟩
  · exact call_repr hg hu pins s σ H xs us Q I r h
  · obtain ⟨u, rfl, ru⟩ := r.one
    obtain ⟨as, rd⟩ := Dq.reads I _ v u hd ru
    obtain ⟨a, rfl⟩ : ∃ a, u = .ref a := by
      rcases hk with ⟨ys, rfl⟩ | ⟨ys, rfl⟩ <;> (cases rd; exact ⟨_, rfl⟩)
    have ev : v = .ref a := by
      cases v with
      | ref b => exact congrArg V.ref (Value.ref.inj ru).symm
      | int i => obtain ⟨t, e⟩ := ru; cases e
      | str x => obtain ⟨t, e⟩ := ru; cases e
      | byt x => obtain ⟨t, e⟩ := ru; cases e
      | flt x => obtain ⟨t, e⟩ := ru; cases e
      | _ => cases ru
    subst ev
    obtain ⟨T, idr, S⟩ := Dq.shows I hd h1 (Nat.le_trans h4 (by rw [sizeLine_eq]; decide)) hk
    refine call_repr_slot (by omega) (S.typeIs s fun _ _ e => e) S.slotRepr (S.call X.A.in1 X.xe s _ hg (by show X.A.units + 1 + p.depth < cLine; omega) (fun _ _ e => e) fun h' t tk hk => ⟨_, _, rfl, ?_⟩)
    exact ⟨.str _, H, I.kept (t' := tk) hk, ⟨t, rfl⟩, q⟩
theorem snd_reprX {G : Gx} : SndC G (rReprX G.K) p_reprX := fun E ι S H xs ds Q R r q => by
  have one : ∃ d, ds = [d] := by
    rcases ds with _ | ⟨d, _ | ⟨d2, ds⟩⟩
    · exact q.elim
    · exact ⟨d, rfl⟩
    · exact q.elim
  obtain ⟨d, rfl⟩ := one
  have e1 : p_repr [d] S = (match (pyOf S d).bind textOf with
    | some x => .ok (.str x) S
    | none => .stuck) := rfl
  have q : Post G E ι S H (PV G Q) (match (pyOf S d).bind textOf with
    | some x => .ok (.str x) S
    | none => match (pyX d).bind textX with
      | some x => .ok (.str x) S
      | none => .stuck) := q
  cases hh : (pyOf S d).bind textOf with
  | some x =>
    rw [hh] at q
    refine .inl (snd_repr E ι S H xs [d] Q R r ?_)
    rw [e1, hh]
    exact q
  | none =>
    rw [hh] at q
    have q : Post G E ι S H (PV G Q) (match (pyX d).bind textX with
      | some x => .ok (.str x) S
      | none => .stuck) := q
    cases hx : (pyX d).bind textX with
    | none =>
      rw [hx] at q
      exact q.elim
    | some x =>
      rw [hx] at q
      obtain ⟨v, rfl, rv⟩ := r.one
      obtain ⟨p, h1, h2⟩ := Option.bind_eq_some_iff.mp hx
      have hd := rv.pyX h1
      cases p with
      | tuple xs =>
        have h2 : (if (PyData.tuple xs).showable = true ∧ (PyData.tuple xs).depth ≤ 60 ∧ (PyData.tuple xs).shown.length ≤ 1000000 then some (PyData.tuple xs).shown else none) = some x := h2
        by_cases hc : (PyData.tuple xs).showable = true ∧ (PyData.tuple xs).depth ≤ 60 ∧ (PyData.tuple xs).shown.length ≤ 1000000
        · rw [if_pos hc] at h2
          cases h2
          exact .inr ⟨v, _, rfl, hd, .inl ⟨xs, rfl⟩, hc.1, hc.2.1, hc.2.2, Post.here R q _ (.str _)⟩
        · rw [if_neg hc] at h2
          cases h2
      | list xs =>
        have h2 : (if (PyData.list xs).showable = true ∧ (PyData.list xs).depth ≤ 60 ∧ (PyData.list xs).shown.length ≤ 1000000 then some (PyData.list xs).shown else none) = some x := h2
        by_cases hc : (PyData.list xs).showable = true ∧ (PyData.list xs).depth ≤ 60 ∧ (PyData.list xs).shown.length ≤ 1000000
        · rw [if_pos hc] at h2
          cases h2
          exact .inr ⟨v, _, rfl, hd, .inr ⟨xs, rfl⟩, hc.1, hc.2.1, hc.2.2, Post.here R q _ (.str _)⟩
        · rw [if_neg hc] at h2
          cases h2
      | _ => cases h2
section
variable {I : Type} {Xs : I → Cx} {G : Gx} {E : WK} {kk : Nat}
theorem Reps.isEmpty {ι : Ix} {L : Addr → Prop} {H : Hp} {vs : List V} {ds : List D} (r : Reps G ι L H vs ds) : vs.isEmpty = ds.isEmpty := by
  cases r <;> rfl
end
theorem FnP.none {G : Gx} {k : Nat} {f : Addr} : FnP G k f (fun _ _ => .stuck) := fun _ _ _ _ _ _ _ _ _ _ _ _ _ _ _ _ _ p => p.elim
def keysPy (ks : List Key) : PyData := .tuple (ks.map keyPy)
inductive Dz (K : PySem.W.Frag) (H : Hp) : V → PyData → Prop
  | q {v : V} {p : PyData} : Dq K H v p → Dz K H v p
  | dt {a : Addr} {kvs : List (List Key × V)} {ps : List PyData} : H a = some (.dT kvs) → DsAll (kvs.map (·.2)) ps → Dz K H (.ref a) (.dict ((kvs.map fun q => keysPy q.1).zip ps))
theorem key_ds : ∀ k : Key, Ds (kV k) (keyPy k)
  | .inl i => .int i
  | .inr x => .str x
theorem keys_ds : ∀ ks : List Key, DsAll (ks.map kV) (ks.map keyPy)
  | [] => .nil
  | k :: ks => .cons (key_ds k) (keys_ds ks)
theorem DsAll.reads {h : Heap} : ∀ {vs : List V} {us : List Value} {ps : List PyData}, DsAll vs ps → Vals vs us → ReadsAll h us ps []
  | _, _, _, .nil, .nil => ReadsAll.nil
  | _, _, _, .cons a b, .cons r q => ReadsAll.cons (a.reads r) (b.reads q)
theorem noDict_keys : ∀ ks : List Key, PyData.hasDictAll (ks.map keyPy) = false
  | [] => rfl
  | .inl i :: ks => by rw [List.map_cons, PyData.hasDictAll, noDict_keys ks]; rfl
  | .inr x :: ks => by rw [List.map_cons, PyData.hasDictAll, noDict_keys ks]; rfl
theorem noDict_keysT {α : Type} : ∀ kvs : List (List Key × α), PyData.hasDictAll (kvs.map fun q => keysPy q.1) = false
  | [] => rfl
  | q :: kvs => by
    rw [List.map_cons, PyData.hasDictAll, noDict_keysT kvs]
    unfold keysPy
    rw [PyData.hasDict, noDict_keys]
    rfl
section
variable {X : Cx} {pins : List (Addr × Obj)} {σ : L2.St} {H : Hp} {s : Shared}
theorem pairsT (I : Inv X pins σ H s) : ∀ {kvs : List (List Key × V)} {xs : List (List Key × Addr × Value)} {ps : List PyData}, KT H kvs xs → DsAll (kvs.map (·.2)) ps →
    (∃ as, ReadsAll s.heap (xs.map fun x => Value.ref x.2.1) (kvs.map fun q => keysPy q.1) as) ∧ ReadsAll s.heap (xs.map fun x => x.2.2) ps []
  | _, _, _, .nil, d => by
    cases d
    exact ⟨⟨_, ReadsAll.nil⟩, ReadsAll.nil⟩
  | _, _, _, .cons hq t, d => by
    cases d with
    | cons d1 d2 =>
      obtain ⟨⟨as, r1⟩, r2⟩ := pairsT I t d2
      obtain ⟨its, rv, ⟨o, ho, hc, n, hd⟩, _⟩ := I.tuple (SqT.of hq.2.1)
      refine ⟨⟨_, ReadsAll.cons (Reads.tuple ho hc hd ((keys_ds _).reads rv)) r1⟩, ReadsAll.cons (d1.reads hq.2.2) r2⟩
theorem dict_shows (I : Inv X pins σ H s) {kds : List (PyData × PyData)} {v : V} (h : Dz X.K H v (.dict kds)) (hs : (PyData.dict kds).showable = true) (hz : (PyData.dict kds).shown.length ≤ sizeLine) :
    ∃ (a : Addr) (o : Obj) (es : Array DictEntry) (n : Nat) (bs : List Addr), v = .ref a ∧ s.heap.get? a = some o ∧ o.cls = .type "dict" ∧ o.data = .dict es n ∧ (a == sysModules) = false ∧ a ∉ bs ∧
      ReprEntriesK X.prog X.w bs s.heap (PyData.depthKv kds) es.toList (PyData.shownKv kds) := by
  have hz' : (dictText (PyData.shownKv kds)).length ≤ sizeLine := by simpa only [PyData.shown] using hz
  have fin : ∀ (a : Addr) (o : Obj) (es : Array DictEntry) (n : Nat) (as : List Addr), s.heap.get? a = some o → o.cls = .type "dict" → o.data = .dict es n → (a == sysModules) = false →
      ReadsAll s.heap (es.toList.map (·.key)) (kds.map (·.1)) as → PyData.hasDictAll (kds.map (·.1)) = false → ReadsAll s.heap (es.toList.map (·.val)) (kds.map (·.2)) [] →
      ∃ bs : List Addr, a ∉ bs ∧ ReprEntriesK X.prog X.w bs s.heap (PyData.depthKv kds) es.toList (PyData.shownKv kds) := by
    intro a o es n as ho hc hdt hsm h1 hn h2
    obtain ⟨hs1, hs2⟩ := PyData.showableKv_split kds (by simpa [PyData.showable] using hs)
    obtain ⟨b1, hb1, k1⟩ := ReprAllK.of_readsAll (prog := X.prog) (w := X.w) h1 hs1 (fun z => by rw [hn] at z; cases z) (fun t ht => let ⟨p, hp, hl⟩ := PyData.shownKv_key_le kds t ht; Nat.le_trans hl (Nat.le_trans (dictText_mem_le hp) hz'))
    obtain ⟨b2, hb2, k2⟩ := ReprAllK.of_readsAll (prog := X.prog) (w := X.w) h2 hs2 (fun _ => by simp) (fun t ht => let ⟨p, hp, hl⟩ := PyData.shownKv_val_le kds t ht; Nat.le_trans hl (Nat.le_trans (dictText_mem_le hp) hz'))
    have rd := Reads.dict ho hc hdt h1 h2
    have hb : ReadAtMost s.heap (PyData.depthKv kds) (b1 ++ b2) := (hb1.mono (PyData.depthAll_keys_le kds)).append (hb2.mono (PyData.depthAll_vals_le kds))
    refine ⟨b1 ++ b2, not_mem_of_deeper rd (by simp only [PyData.depth]; omega) hb, ?_⟩
    rw [PyData.shownKv_eq]
    exact ReprEntriesK.of_two es.toList _ _ (k1.more_le (fun b hb => List.mem_append_left _ hb) (PyData.depthAll_keys_le kds)) (k2.more_le (fun b hb => List.mem_append_right _ hb) (PyData.depthAll_vals_le kds))
  cases h with
  | q h =>
    cases h with
    | sc h => cases h
    | @dk a kvs ps hk hd =>
      obtain ⟨hzl, hsm, vs, kv, o, es, ep, ho, hx, hdt, hko, hp, hnd⟩ := dk_of I.hok hk
      have hl := hd.length
      rw [List.length_map] at hl
      obtain ⟨bs, h1, h2⟩ := fin a o es _ [] ho hx.1 hdt hsm (by rw [List.map_fst_zip (by rw [List.length_map]; omega)]; exact pairs_keys hp kv) (by
        rw [List.map_fst_zip (by rw [List.length_map]; omega)]
        have := noDict_keys (kvs.map (·.1))
        rw [List.map_map] at this
        exact this) (by rw [List.map_snd_zip (by rw [List.length_map]; omega)]; exact pairs_vals hp kv hd)
      exact ⟨a, o, es, _, bs, rfl, ho, hx.1, hdt, hsm, h1, h2⟩
  | @dt a kvs ps hk hd =>
    obtain ⟨hzl, hsm, xs, kt, o, es, ep, ho, hx, hdt, hes, hks, hnd⟩ := dt_of I.hok hk
    have hl := hd.length
    rw [List.length_map] at hl
    obtain ⟨⟨as, r1⟩, r2⟩ := pairsT I kt hd
    obtain ⟨bs, h1, h2⟩ := fin a o es _ as ho hx.1 hdt hsm (by
      rw [List.map_fst_zip (by rw [List.length_map]; omega), hes, List.map_map]
      exact r1) (by rw [List.map_fst_zip (by rw [List.length_map]; omega)]; exact noDict_keysT kvs) (by
      rw [List.map_snd_zip (by rw [List.length_map]; omega), hes, List.map_map]
      exact r2)
    exact ⟨a, o, es, _, bs, rfl, ho, hx.1, hdt, hsm, h1, h2⟩
end
def pyT : D → Option PyData
  | .dT kds => (pyScL (kds.map (·.2))).map fun ps => .dict ((kds.map fun q => keysPy q.1).zip ps)
  | d => pyX d
section
variable {G : Gx} {ι : Ix} {L : Addr → Prop} {H : Hp}
theorem Rep.pyT {v : V} {d : D} {p : PyData} (r : Rep G ι L H v d) (e : DL.pyT d = some p) : Dz G.K H v p := by
  cases d with
  | dT kds =>
    cases r with
    | dT q k e0 r =>
      rename_i a kvs
      obtain ⟨ps, e1, rfl⟩ := Option.map_eq_some_iff.mp e
      have e2 : (kds.map fun q => keysPy q.1) = kvs.map fun q => keysPy q.1 := by
        have z := congrArg (List.map keysPy) e0
        rw [List.map_map, List.map_map] at z
        exact z.symm
      rw [e2]
      exact .dt q (Reps.sc r e1)
  | _ => exact .q (Rep.pyX r e)
end
def textY (p : PyData) : Option Str := match p with
  | .none => some "None"
  | .bool b => some (if b then "True" else "False" : String)
  | .str x => if (reprText x).length ≤ 1000000 then some (reprText x) else none
  | .dict kvs => if (PyData.dict kvs).showable = true ∧ (PyData.dict kvs).depth ≤ 60 ∧ (PyData.dict kvs).shown.length ≤ 1000000 then some (PyData.dict kvs).shown else none
  | _ => none
def p_reprY (ds : List D) (S : Sto) : Res D := match ds with
  | [d] => match (pyT d).bind textY with
    | some x => .ok (.str x) S
    | none => p_reprX [d] S
  | _ => .stuck
def rReprY (K : PySem.W.Frag) : List V → Hp → VK → Prop := fun xs H Q => rReprX K xs H Q ∨ ∃ v p x, xs = [v] ∧ Dz K H v p ∧ textY p = some x ∧ Q (.str x) H
theorem call_reprY {X : Cx} (hg : X.A.guards = some []) (hu : X.A.units + 64 < cLine) : CallR X (.builtin "repr") (rReprY X.K) := by
  intro pins s σ H xs us Q I r h
  rcases h with h | ⟨v, p, x, rfl, hd, ht, q⟩
  · exact call_reprX hg hu pins s σ H xs us Q I r h
  · obtain ⟨u, rfl, ru⟩ := r.one
    cases p with
    | none =>
      cases hd with
      | q hd =>
        cases hd with
        | sc hd =>
          cases hd
          cases ru
          cases ht
          exact PySem.P.repr_of_none ⟨.str _, H, I.tok _, ⟨_, rfl⟩, q⟩
    | bool b =>
      cases hd with
      | q hd =>
        cases hd with
        | sc hd =>
          cases hd
          cases ru
          cases ht
          refine PySem.P.repr_of_bool ⟨.str _, H, I.tok _, ⟨s.toks, ?_⟩, q⟩
          cases b <;> rfl
    | str y =>
      cases hd with
      | q hd =>
        cases hd with
        | sc hd =>
          cases hd
          obtain ⟨t, rfl⟩ := ru
          unfold textY at ht
          dsimp only at ht
          split at ht
          · rename_i hz
            cases ht
            exact PySem.P.repr_of_str ⟨.str _, H, I.tok _, ⟨_, rfl⟩, q⟩ (Nat.le_trans hz (by rw [sizeLine_eq]; decide))
          · cases ht
    | dict kds =>
      unfold textY at ht
      dsimp only at ht
      split at ht
      · rename_i hc
        cases ht
        obtain ⟨h1, h2, h3⟩ := hc
        have hz := Nat.le_trans h3 (show 1000000 ≤ sizeLine by rw [sizeLine_eq]; decide)
        obtain ⟨a, o, es, n, bs, rfl, ho, hcl, hdt, hsm, hna, hE⟩ := dict_shows I hd h1 hz
        cases ru
        have hsz : (dictText (PyData.shownKv kds)).length ≤ sizeLine := by simpa only [PyData.shown] using hz
        have hdep : (PyData.dict kds).depth = PyData.depthKv kds + 1 := by simp only [PyData.depth]
        refine call_repr_slot (by omega) ⟨o, ho, hcl⟩ F.slot_dict_repr (call_dict_reprK ho hcl hdt hsm hna hE hg (fun b _ => Clear.nil b) (by show X.A.units + 1 + (PyData.depthKv kds + 1) < cLine; omega) (fun _ _ e => e) (fun h' t tk hk => ⟨_, _, rfl, ?_⟩) hsz)
        refine ⟨.str _, H, I.kept (t' := tk) hk, ⟨t, ?_⟩, q⟩
        simp only [PyData.shown]
      · cases ht
    | _ => cases ht
theorem snd_reprY {G : Gx} : SndC G (rReprY G.K) p_reprY := fun E ι S H xs ds Q R r q => by
  have one : ∃ d, ds = [d] := by
    rcases ds with _ | ⟨d, _ | ⟨d2, ds⟩⟩
    · exact q.elim
    · exact ⟨d, rfl⟩
    · exact q.elim
  obtain ⟨d, rfl⟩ := one
  have q : Post G E ι S H (PV G Q) (match (pyT d).bind textY with
    | some x => .ok (.str x) S
    | none => p_reprX [d] S) := q
  cases hx : (pyT d).bind textY with
  | none =>
    rw [hx] at q
    exact .inl (snd_reprX E ι S H xs [d] Q R r q)
  | some x =>
    rw [hx] at q
    obtain ⟨v, rfl, rv⟩ := r.one
    obtain ⟨p, h1, h2⟩ := Option.bind_eq_some_iff.mp hx
    exact .inr ⟨v, p, x, rfl, rv.pyT h1, h2, Post.here R q _ (.str _)⟩
section
variable {I : Type} {Xs : I → Cx} {G : Gx} {E : WK}
theorem call_reprYC (F : FamH Xs G E) : ∀ j, CallR (Xs j) (.builtin "repr") (rReprY G.K) := fun j => by
  have z := call_reprY (X := Xs j) (F.gd j) (F.u64 j)
  rw [F.K j] at z
  exact z
end
section
variable {G : Gx}
def p_eqS (neg : Bool) (x y : D) (S : Sto) : Res D := match x, y with
  | .str a, .str b => .ok (.bl (if neg = true then !decide (a = b) else decide (a = b))) S
  | x, y => p_eq neg x y S
theorem snd_eqS : SndR G (fun x y H Q => rEq x y H Q ∨ rEqD G.K x y H Q) (p_eqS false) := fun E ι S H x y dx dy Q R rx ry q => by
  unfold p_eqS at q
  split at q
  · rename_i a b
    rw [rx.str_of, ry.str_of]
    have e : decide (V.str a = V.str b) = decide (a = b) := by
      by_cases h : a = b
      · subst h; simp
      · rw [decide_eq_false h, decide_eq_false fun z => h (V.str.inj z)]
    exact .inl ⟨rfl, by rw [e]; exact Post.here R q _ (.bl _)⟩
  · exact .inr (snd_eq E ι S H x y _ _ Q R rx ry q)
theorem snd_neS : SndR G (fun x y H Q => rNe x y H Q ∨ rNeD G.K x y H Q) (p_eqS true) := fun E ι S H x y dx dy Q R rx ry q => by
  unfold p_eqS at q
  split at q
  · rename_i a b
    rw [rx.str_of, ry.str_of]
    have e : decide (V.str a = V.str b) = decide (a = b) := by
      by_cases h : a = b
      · subst h; simp
      · rw [decide_eq_false h, decide_eq_false fun z => h (V.str.inj z)]
    exact .inl ⟨rfl, by rw [e]; exact Post.here R q _ (.bl _)⟩
  · exact .inr (snd_ne E ι S H x y _ _ Q R rx ry q)
theorem eqS_at {I : Type} {Xs : I → Cx} {E : WK} (F : FamH Xs G E) (j : I) : OpR (Xs j) (compareOp .Eq) (fun x y H Q => rEq x y H Q ∨ rEqD G.K x y H Q) := by
  have z := op_eqD (X := Xs j) (F.u64 j)
  rw [F.K j] at z
  exact op_eq.or z
theorem neS_at {I : Type} {Xs : I → Cx} {E : WK} (F : FamH Xs G E) (j : I) : OpR (Xs j) (compareOp .NotEq) (fun x y H Q => rNe x y H Q ∨ rNeD G.K x y H Q) := by
  have z := op_neD (X := Xs j) (F.u64 j)
  rw [F.K j] at z
  exact op_ne.or z
end
section
variable {prog : Program} {w : World} {A : Around} {E : Value → Shared → Prop}
abbrev tk (prog : Program) (w : World) := tupleKind (mixKind prog w)
end
end DL
namespace DG
open PySem
open Sem (wp)
def dead : GenState → GenState
  | .suspended _ l c p fs cl => .suspended (fun _ => .unsupported "asleep") l c p fs cl
  | st => st
theorem dead_seen : ∀ st : GenState, (dead st).seen = st.seen
  | .suspended .. => rfl
  | .fresh _ => rfl
  | .running => rfl
  | .finished => rfl
theorem dead_bare : ∀ st : GenState, (dead st).bare = st.bare
  | .suspended .. => rfl
  | .fresh _ => rfl
  | .running => rfl
  | .finished => rfl
def isSus : GenState → Bool
  | .suspended .. => true
  | _ => false
theorem dead_sus : ∀ {st : GenState}, isSus st = true → isSus (dead st) = true
  | .suspended .., _ => rfl
  | .fresh _, h => by cases h
  | .running, h => by cases h
  | .finished, h => by cases h
theorem not_dead {a st : GenState} (ha : isSus a = false) (h : isSus st = true) (e : some a = some (dead st)) : False := by
  have := congrArg isSus (Option.some.inj e)
  rw [ha, dead_sus h] at this
  cases this
def okS : GenState → Prop
  | .suspended _ _ _ _ fs _ => splitAtGen fs = none
  | _ => True
def okE : End → Prop
  | .susp _ _ _ _ _ _ fs => splitAtGen fs = none
  | .ret _ => True
theorem okS_of : ∀ {e : End}, okE e → okS e.genState
  | .ret _, _ => trivial
  | .susp .., h => h
structure Rl (G1 G2 : Array GenState) : Prop where
  size : G1.size = G2.size
  at_ : ∀ (i : Nat) (st1 st2 : GenState), G1[i]? = some st1 → G2[i]? = some st2 → (st1 = st2 ∧ okS st1) ∨ (isSus st2 = true ∧ st1 = dead st2)
def Kp (G1 G2 G1' G2' : Array GenState) : Prop := ∀ (i : Nat) (st : GenState), isSus st = true → G2[i]? = some st → G1[i]? = some (dead st) → G2'[i]? = some st ∧ G1'[i]? = some (dead st)
theorem Kp.refl {G1 G2 : Array GenState} : Kp G1 G2 G1 G2 := fun _ _ _ h1 h2 => ⟨h1, h2⟩
theorem Kp.trans {A B A' B' A2 B2 : Array GenState} (x : Kp A B A' B') (y : Kp A' B' A2 B2) : Kp A B A2 B2 := fun i st h h1 h2 => by
  obtain ⟨a, b⟩ := x i st h h1 h2
  exact y i st h a b
theorem Rl.get {G1 G2 : Array GenState} (h : Rl G1 G2) {i : Nat} {st1 : GenState} (e : G1[i]? = some st1) : ∃ st2, G2[i]? = some st2 ∧ ((st1 = st2 ∧ okS st1) ∨ (isSus st2 = true ∧ st1 = dead st2)) := by
  have hi : i < G2.size := by
    rw [← h.size]
    exact (Array.getElem?_eq_some_iff.mp e).1
  exact ⟨G2[i], Array.getElem?_eq_getElem hi, h.at_ i _ _ e (Array.getElem?_eq_getElem hi)⟩
theorem Rl.same {G1 G2 : Array GenState} (h : Rl G1 G2) {i : Nat} {st : GenState} (e : G1[i]? = some st) (n : isSus st = false) : G2[i]? = some st := by
  obtain ⟨st2, e2, q⟩ := h.get e
  rcases q with ⟨rfl, _⟩ | ⟨a, rfl⟩
  · exact e2
  · rw [dead_sus a] at n
    cases n
theorem Rl.set {G1 G2 : Array GenState} (h : Rl G1 G2) (g : Nat) {x : GenState} (hx : okS x) : Rl (G1.setIfInBounds g x) (G2.setIfInBounds g x) := by
  refine ⟨by simp [h.size], fun i st1 st2 e1 e2 => ?_⟩
  rw [Array.getElem?_setIfInBounds] at e1 e2
  by_cases hi : g = i
  · rw [if_pos hi] at e1 e2
    split at e1
    · split at e2
      · cases e1
        cases e2
        exact .inl ⟨rfl, hx⟩
      · cases e2
    · cases e1
  · rw [if_neg hi] at e1 e2
    exact h.at_ i st1 st2 e1 e2
theorem Rl.push {G1 G2 : Array GenState} (h : Rl G1 G2) (c : Code) : Rl (G1.push (.fresh c)) (G2.push (.fresh c)) := by
  refine ⟨by simp [h.size], fun i st1 st2 e1 e2 => ?_⟩
  rw [Array.getElem?_push] at e1 e2
  rw [h.size] at e1
  split at e1
  · rename_i q
    rw [if_pos q] at e2
    cases e1
    cases e2
    exact .inl ⟨rfl, trivial⟩
  · rename_i q
    rw [if_neg q] at e2
    exact h.at_ i st1 st2 e1 e2
theorem Kp.set {G1 G2 : Array GenState} (g : Nat) {x y : GenState} (hg : ∀ st, isSus st = true → G2[g]? = some st → G1[g]? ≠ some (dead st)) : Kp G1 G2 (G1.setIfInBounds g x) (G2.setIfInBounds g y) := fun i st h h1 h2 => by
  have hi : g ≠ i := fun e => hg st h (by rw [e]; exact h1) (by rw [e]; exact h2)
  rw [Array.getElem?_setIfInBounds, Array.getElem?_setIfInBounds, if_neg hi, if_neg hi]
  exact ⟨h1, h2⟩
theorem Kp.push {G1 G2 : Array GenState} (c : Code) : Kp G1 G2 (G1.push (.fresh c)) (G2.push (.fresh c)) := fun i st h h1 h2 => by
  have i1 : i < G2.size := (Array.getElem?_eq_some_iff.mp h1).1
  have i2 : i < G1.size := (Array.getElem?_eq_some_iff.mp h2).1
  rw [Array.getElem?_push, Array.getElem?_push, if_neg (by omega), if_neg (by omega)]
  exact ⟨h1, h2⟩
theorem split_cons {F : Frame} {fs : List Frame} (h : splitAtGen (F :: fs) = none) : splitAtGen fs = none ∧ ∃ k a b c d e f, F = .ret k a b c d e f := by
  cases F with
  | ret k a b c d e f =>
    refine ⟨?_, k, a, b, c, d, e, f, rfl⟩
    show splitAtGen fs = none
    have h : (splitAtGen fs).map _ = none := h
    cases hs : splitAtGen fs with
    | none => rfl
    | some q => rw [hs] at h; cases h
  | gen g k a b c => cases h
theorem split_ret {k h g l c p kp} {fs : List Frame} (q : splitAtGen fs = none) : splitAtGen (.ret k h g l c p kp :: fs) = none := by
  show (splitAtGen fs).map _ = none
  rw [q]
  rfl
theorem split_app : ∀ {fs gs : List Frame}, splitAtGen fs = none → splitAtGen gs = none → splitAtGen (fs ++ gs) = none
  | [], _, _, h => h
  | F :: fs, gs, h, h2 => by
    obtain ⟨h1, k, a, b, c, d, e, f, rfl⟩ := split_cons h
    exact split_ret (split_app h1 h2)
section
variable {M : Model}
theorem no_unsup {w : String} {Γ : Ctx} {p : Pos} {t : Sem Fin} {fs : List Frame} {s : Shared} {e : End} {s' : Shared} (h : Runs M Γ p t fs s e s') : t ≠ .unsupported w := by
  induction h with
  | segRet h1 h2 i1 i2 => exact i1
  | segGen h1 h2 i1 i2 => exact i1
  | segSuspOut h0 h1 i1 => exact i1
  | segSuspGen h0 h1 h2 h3 i1 i2 => exact i1
  | _ => exact fun z => nomatch z
abbrev wg (s : Shared) (G : Array GenState) : Shared := { s with gens := G }
theorem runs_rl {Γ : Ctx} {p : Pos} {t : Sem Fin} {fs : List Frame} {s : Shared} {e : End} {s' : Shared} (h : Runs M Γ p t fs s e s') : splitAtGen fs = none → ∀ G2, Rl s.gens G2 → ∃ G2', Rl s'.gens G2' ∧ okE e ∧ Runs M Γ p t fs (wg s G2) e (wg s' G2') ∧ Kp s.gens G2 s'.gens G2' := by
  induction h with
  | done => exact fun _ G2 r => ⟨G2, r, trivial, .done, .refl⟩
  | raise => exact fun _ G2 r => ⟨G2, r, trivial, .raise, .refl⟩
  | again q h ih =>
    intro hf G2 r
    obtain ⟨G3, a, b, c, d⟩ := ih rfl G2 r
    exact ⟨G3, a, b, .again q c, d⟩
  | rule h ih => intro hf G2 r; obtain ⟨G3, a, b, c, d⟩ := ih rfl G2 r; exact ⟨G3, a, b, .rule c, d⟩
  | «at» h ih => intro hf G2 r; obtain ⟨G3, a, b, c, d⟩ := ih rfl G2 r; exact ⟨G3, a, b, .at c, d⟩
  | load ho h ih => intro hf G2 r; obtain ⟨G3, a, b, c, d⟩ := ih rfl G2 r; exact ⟨G3, a, b, .load ho c, d⟩
  | update ho h ih => intro hf G2 r; obtain ⟨G3, a, b, c, d⟩ := ih rfl G2 r; exact ⟨G3, a, b, .update ho c, d⟩
  | loadIfAlive h ih => intro hf G2 r; obtain ⟨G3, a, b, c, d⟩ := ih rfl G2 r; exact ⟨G3, a, b, .loadIfAlive c, d⟩
  | point h ih => intro hf G2 r; obtain ⟨G3, a, b, c, d⟩ := ih rfl G2 r; exact ⟨G3, a, b, .point c, d⟩
  | alloc h ih => intro hf G2 r; obtain ⟨G3, a, b, c, d⟩ := ih rfl G2 r; exact ⟨G3, a, b, .alloc c, d⟩
  | fresh h ih => intro hf G2 r; obtain ⟨G3, a, b, c, d⟩ := ih rfl G2 r; exact ⟨G3, a, b, .fresh c, d⟩
  | ask h ih => intro hf G2 r; obtain ⟨G3, a, b, c, d⟩ := ih rfl G2 r; exact ⟨G3, a, b, .ask c, d⟩
  | choose hn h ih => intro hf G2 r; obtain ⟨G3, a, b, c, d⟩ := ih rfl G2 r; exact ⟨G3, a, b, .choose hn c, d⟩
  | os h ih => intro hf G2 r; obtain ⟨G3, a, b, c, d⟩ := ih rfl G2 r; exact ⟨G3, a, b, .os c, d⟩
  | handled h ih => intro hf G2 r; obtain ⟨G3, a, b, c, d⟩ := ih rfl G2 r; exact ⟨G3, a, b, .handled c, d⟩
  | stack h ih => intro hf G2 r; obtain ⟨G3, a, b, c, d⟩ := ih rfl G2 r; exact ⟨G3, a, b, .stack c, d⟩
  | thread h ih => intro hf G2 r; obtain ⟨G3, a, b, c, d⟩ := ih rfl G2 r; exact ⟨G3, a, b, .thread c, d⟩
  | genState hg h ih =>
    intro hf G2 r
    obtain ⟨st2, e2, q⟩ := r.get hg
    obtain ⟨G3, a, b, c, d⟩ := ih rfl G2 r
    rcases q with ⟨rfl, _⟩ | ⟨_, rfl⟩
    · exact ⟨G3, a, b, .genState e2 c, d⟩
    · rw [dead_seen] at c
      exact ⟨G3, a, b, .genState e2 c, d⟩
  | newGen h ih =>
    intro hf G2 r
    obtain ⟨G3, a, b, c, d⟩ := ih rfl _ (r.push _)
    rw [r.size] at c
    exact ⟨G3, a, b, .newGen c, (Kp.push _).trans d⟩
  | call h1 h2 i1 i2 =>
    intro hf G2 r
    obtain ⟨G3, a, b, c, d⟩ := i1 rfl G2 r
    obtain ⟨G4, a2, b2, c2, d2⟩ := i2 rfl G3 a
    exact ⟨G4, a2, b2, .call c c2, d.trans d2⟩
  | callSusp h1 i1 =>
    intro hf G2 r
    obtain ⟨G3, a, b, c, d⟩ := i1 rfl G2 r
    exact ⟨G3, a, split_app b (split_ret rfl), .callSusp c, d⟩
  | yield => exact fun _ G2 r => ⟨G2, r, rfl, .yield, .refl⟩
  | @resumeFresh Γ p g l k s cc e1 s1 e s' hg h1 hq h2 i1 i2 =>
    intro hf G2 r
    obtain ⟨G3, a, b, c, d⟩ := i1 rfl (G2.setIfInBounds g .running) (r.set g trivial)
    obtain ⟨G4, a2, b2, c2, d2⟩ := i2 rfl (G3.setIfInBounds g e1.genState) (a.set g (okS_of b))
    have n0 : ∀ st, isSus st = true → G2[g]? = some st → s.gens[g]? ≠ some (dead st) := fun st h _ z => by
      rw [hg] at z
      exact not_dead rfl h z
    have hgl : g < s.gens.size := (Array.getElem?_eq_some_iff.mp hg).1
    refine ⟨G4, a2, b2, .resumeFresh (r.same hg rfl) c hq c2, fun i st hs e1' e2' => ?_⟩
    have hi : g ≠ i := fun z => n0 st hs (by rw [z]; exact e1') (by rw [z]; exact e2')
    obtain ⟨q1, q2⟩ := ((Kp.set (x := GenState.running) (y := GenState.running) g n0).trans d) i st hs e1' e2'
    refine d2 i st hs ?_ ?_
    · rw [Array.getElem?_setIfInBounds, if_neg hi]; exact q1
    · show (s1.gens.setIfInBounds g e1.genState)[i]? = _
      rw [Array.getElem?_setIfInBounds, if_neg hi]; exact q2
  | @resumeSuspended Γ p g r0 l k s k0 l0 c0 p0 fs cl e1 s1 e s' hg h1 hq h2 i1 i2 =>
    intro hf G2 r
    obtain ⟨st2, e2, q⟩ := r.get hg
    have n0 : ∀ st, isSus st = true → G2[g]? = some st → s.gens[g]? ≠ some (dead st) := fun st h _ z => by
      rw [hg] at z
      cases st <;> first | cases h | skip
      have := Option.some.inj z
      unfold dead at this
      injection this with hk
      rw [hk] at h1
      exact no_unsup h1 rfl
    rcases q with ⟨rfl, hok⟩ | ⟨hs, hd⟩
    · obtain ⟨G3, a, b, c, d⟩ := i1 hok (G2.setIfInBounds g .running) (r.set g trivial)
      obtain ⟨G4, a2, b2, c2, d2⟩ := i2 rfl (G3.setIfInBounds g e1.genState) (a.set g (okS_of b))
      refine ⟨G4, a2, b2, .resumeSuspended e2 c hq c2, fun i st hs e1' e2' => ?_⟩
      have hi : g ≠ i := fun z => n0 st hs (by rw [z]; exact e1') (by rw [z]; exact e2')
      obtain ⟨q1, q2⟩ := ((Kp.set (x := GenState.running) (y := GenState.running) g n0).trans d) i st hs e1' e2'
      refine d2 i st hs ?_ ?_
      · rw [Array.getElem?_setIfInBounds, if_neg hi]; exact q1
      · show (s1.gens.setIfInBounds g e1.genState)[i]? = _
        rw [Array.getElem?_setIfInBounds, if_neg hi]; exact q2
    · exact absurd (by rw [hg, hd]) (n0 st2 hs e2)
  | resumeJustStarted hg hv h ih =>
    intro hf G2 r
    obtain ⟨G3, a, b, c, d⟩ := ih rfl G2 r
    exact ⟨G3, a, b, .resumeJustStarted (r.same hg rfl) hv c, d⟩
  | resumeThrowFresh hg h ih =>
    intro hf G2 r
    obtain ⟨G3, a, b, c, d⟩ := ih rfl _ (r.set _ trivial)
    refine ⟨G3, a, b, .resumeThrowFresh (r.same hg rfl) c, (Kp.set _ fun st h _ z => ?_).trans d⟩
    rw [hg] at z
    exact not_dead rfl h z
  | resumeRunning hg h ih =>
    intro hf G2 r
    obtain ⟨G3, a, b, c, d⟩ := ih rfl G2 r
    exact ⟨G3, a, b, .resumeRunning (r.same hg rfl) c, d⟩
  | resumeFinished hg h ih =>
    intro hf G2 r
    obtain ⟨G3, a, b, c, d⟩ := ih rfl G2 r
    exact ⟨G3, a, b, .resumeFinished (r.same hg rfl) c, d⟩
  | segRet h1 h2 i1 i2 =>
    intro hf G2 r
    obtain ⟨G3, a, b, c, d⟩ := i1 rfl G2 r
    obtain ⟨G4, a2, b2, c2, d2⟩ := i2 (split_cons hf).1 G3 a
    exact ⟨G4, a2, b2, .segRet c c2, d.trans d2⟩
  | segGen h1 h2 i1 i2 => exact fun hf => nomatch hf
  | segSuspOut h0 h1 i1 =>
    intro hf G2 r
    obtain ⟨G3, a, b, c, d⟩ := i1 rfl G2 r
    exact ⟨G3, a, split_app b hf, .segSuspOut h0 c, d⟩
  | segSuspGen h0 h1 h2 h3 i1 i2 =>
    intro hf
    rw [hf] at h0
    cases h0
theorem wakes_rl {Γ : Ctx} {p : Pos} {g : Nat} {r : Resume} {s : Shared} {res : GenResult} {s' : Shared} (h : Wakes M Γ p g r s res s') {G2 : Array GenState} (hr : Rl s.gens G2) : ∃ G2', Rl s'.gens G2' ∧ Wakes M Γ p g r (wg s G2) res (wg s' G2') ∧ Kp s.gens G2 s'.gens G2' := by
  unfold Wakes at h
  split at h
  · exact h.elim
  · rename_i c hg
    have h2 := hr.same hg rfl
    have n0 : ∀ st, isSus st = true → G2[g]? = some st → s.gens[g]? ≠ some (dead st) := fun st h _ z => by
      rw [hg] at z
      exact not_dead rfl h z
    split at h
    · obtain ⟨e1, s1, h1, hq, rfl, rfl⟩ := h
      obtain ⟨G3, a, b, c', d⟩ := runs_rl h1 rfl (G2.setIfInBounds g .running) (hr.set g trivial)
      refine ⟨G3.setIfInBounds g e1.genState, a.set g (okS_of b), ?_, fun i st hs e1' e2' => ?_⟩
      · unfold Wakes
        rw [h2]
        exact ⟨e1, _, c', hq, rfl, rfl⟩
      · have hi : g ≠ i := fun z => n0 st hs (by rw [z]; exact e1') (by rw [z]; exact e2')
        obtain ⟨q1, q2⟩ := ((Kp.set (x := GenState.running) (y := GenState.running) g n0).trans d) i st hs e1' e2'
        refine ⟨?_, ?_⟩
        · rw [Array.getElem?_setIfInBounds, if_neg hi]; exact q1
        · show (s1.gens.setIfInBounds g e1.genState)[i]? = _
          rw [Array.getElem?_setIfInBounds, if_neg hi]; exact q2
    · obtain ⟨rfl, rfl⟩ := h
      refine ⟨G2, hr, ?_, .refl⟩
      unfold Wakes
      rw [h2]
      rename_i v hv
      cases v <;> first | exact ⟨rfl, rfl⟩ | exact absurd rfl hv | exact (hv rfl).elim
    · obtain ⟨rfl, rfl⟩ := h
      refine ⟨G2.setIfInBounds g .finished, hr.set g trivial, ?_, Kp.set g n0⟩
      unfold Wakes
      rw [h2]
      exact ⟨rfl, rfl⟩
  · rename_i k0 l0 c0 p0 fs cl hg
    obtain ⟨e1, s1, h1, hq, rfl, rfl⟩ := h
    obtain ⟨st2, e2, q⟩ := hr.get hg
    have n0 : ∀ st, isSus st = true → G2[g]? = some st → s.gens[g]? ≠ some (dead st) := fun st h _ z => by
      rw [hg] at z
      cases st <;> first | cases h | skip
      have := Option.some.inj z
      unfold dead at this
      injection this with hk
      rw [hk] at h1
      exact no_unsup h1 rfl
    rcases q with ⟨rfl, hok⟩ | ⟨hs, hd⟩
    · obtain ⟨G3, a, b, c', d⟩ := runs_rl h1 hok (G2.setIfInBounds g .running) (hr.set g trivial)
      refine ⟨G3.setIfInBounds g e1.genState, a.set g (okS_of b), ?_, fun i st hs e1' e2' => ?_⟩
      · unfold Wakes
        rw [e2]
        exact ⟨e1, _, c', hq, rfl, rfl⟩
      · have hi : g ≠ i := fun z => n0 st hs (by rw [z]; exact e1') (by rw [z]; exact e2')
        obtain ⟨q1, q2⟩ := ((Kp.set (x := GenState.running) (y := GenState.running) g n0).trans d) i st hs e1' e2'
        refine ⟨?_, ?_⟩
        · rw [Array.getElem?_setIfInBounds, if_neg hi]; exact q1
        · show (s1.gens.setIfInBounds g e1.genState)[i]? = _
          rw [Array.getElem?_setIfInBounds, if_neg hi]; exact q2
    · exact absurd (by rw [hg, hd]) (n0 st2 hs e2)
  · rename_i hg
    obtain ⟨rfl, rfl⟩ := h
    refine ⟨G2, hr, ?_, .refl⟩
    unfold Wakes
    rw [hr.same hg rfl]
    exact ⟨rfl, rfl⟩
  · rename_i hg
    obtain ⟨rfl, rfl⟩ := h
    refine ⟨G2, hr, ?_, .refl⟩
    unfold Wakes
    rw [hr.same hg rfl]
    exact ⟨rfl, rfl⟩
def Bk {α : Type} (Q : α → Pos → Shared → Prop) (G1 G2 : Array GenState) (a : α) (p : Pos) (s2 : Shared) : Prop := ∃ (s1 : Shared) (G2' : Array GenState), s2 = wg s1 G2' ∧ Rl s1.gens G2' ∧ Kp G1 G2 s1.gens G2' ∧ Q a p s1
theorem wp_rl {α : Type} {Γ : Ctx} (t : Sem α) : ∀ {Q : α → Pos → Shared → Prop} {E : Value → Pos → Shared → Prop} {p : Pos} {s : Shared} {G2 A1 A2 : Array GenState}, wp M Γ t Q E p s → Rl s.gens G2 → Kp A1 A2 s.gens G2 →
    wp M Γ t (Bk Q A1 A2) (Bk E A1 A2) p (wg s G2) := by
  induction t with
  | pure a => intro Q E p s G2 A1 A2 h r k; exact ⟨s, G2, rfl, r, k, h⟩
  | raise e => intro Q E p s G2 A1 A2 h r k; exact ⟨s, G2, rfl, r, k, h⟩
  | unsupported _ => intro Q E p s G2 A1 A2 h; exact h.elim
  | finish _ => intro Q E p s G2 A1 A2 h; exact h.elim
  | register _ _ => intro Q E p s G2 A1 A2 h; exact h.elim
  | yield _ _ _ _ => intro Q E p s G2 A1 A2 h; exact h.elim
  | fork _ _ => intro Q E p s G2 A1 A2 h; exact h.elim
  | await _ _ _ _ _ => intro Q E p s G2 A1 A2 h; exact h.elim
  | rule _ k ih => intro Q E p s G2 A1 A2 h r kp; exact ih () h r kp
  | «at» p' k ih => intro Q E p s G2 A1 A2 h r kp; exact ih () h r kp
  | load a _ k ih => intro Q E p s G2 A1 A2 h r kp; obtain ⟨o, ho, h⟩ := h; exact ⟨o, ho, ih o h r kp⟩
  | update a _ f k ih => intro Q E p s G2 A1 A2 h r kp; exact ⟨h.1, ih () (s := { s with heap := s.heap.update a f }) h.2 r kp⟩
  | loadIfAlive a k ih => intro Q E p s G2 A1 A2 h r kp; exact ih _ h r kp
  | point _ k ih => intro Q E p s G2 A1 A2 h r kp; exact ih () h r kp
  | alloc o k ih => intro Q E p s G2 A1 A2 h r kp; exact ih _ (s := { s with heap := s.heap.push o }) h r kp
  | fresh k ih => intro Q E p s G2 A1 A2 h r kp; exact ih _ (s := { s with toks := s.toks + 1 }) h r kp
  | ask k ih => intro Q E p s G2 A1 A2 h r kp; exact ih _ h r kp
  | choose src m k ih => intro Q E p s G2 A1 A2 h r kp; exact ⟨h.1, ih _ (s := { s with drawn := s.drawn.bump src }) h.2 r kp⟩
  | os q _ k ih => intro Q E p s G2 A1 A2 h r kp; exact ih _ (s := { s with os := (Os.step s.os q).1 }) h r kp
  | handled own k ih => intro Q E p s G2 A1 A2 h r kp; exact ih _ h r kp
  | stack k ih => intro Q E p s G2 A1 A2 h r kp; exact ih _ h r kp
  | thread k ih => intro Q E p s G2 A1 A2 h r kp; exact ih _ h r kp
  | genState g k ih =>
    intro Q E p s G2 A1 A2 h r kp
    obtain ⟨st, hs, h⟩ := h
    obtain ⟨st2, e2, q⟩ := r.get hs
    have es : st2.seen = st.seen := by
      rcases q with ⟨rfl, _⟩ | ⟨_, rfl⟩
      · rfl
      · exact (dead_seen st2).symm
    exact ⟨st2, e2, by rw [es]; exact ih _ h r kp⟩
  | newGen c k ih =>
    intro Q E p s G2 A1 A2 h r kp
    have h' : wp M Γ (k s.gens.size) Q E p { s with gens := s.gens.push (.fresh c) } := h
    show wp M Γ (k G2.size) _ _ p (wg s (G2.push (.fresh c)))
    rw [r.size] at h'
    exact ih _ (s := { s with gens := s.gens.push (.fresh c) }) h' (r.push c) (kp.trans (Kp.push c))
  | call c hd _ _ k ih =>
    intro Q E p s G2 A1 A2 h r kp
    obtain ⟨rr, s', hr, h⟩ := h
    obtain ⟨G3, a, b, c', d⟩ := runs_rl hr rfl G2 r
    exact ⟨rr, wg s' G3, c', ih rr h a (kp.trans d)⟩
  | resume g rr _ k ih =>
    intro Q E p s G2 A1 A2 h r kp
    obtain ⟨res, s', hw, h⟩ := h
    obtain ⟨G3, a, b, d⟩ := wakes_rl hw r
    exact ⟨res, wg s' G3, b, ih res h a (kp.trans d)⟩
def allDead (G : Array GenState) : Array GenState := G.map dead
theorem rl_dead (G : Array GenState) : Rl (allDead G) G := by
  refine ⟨by simp [allDead], fun i st1 st2 e1 e2 => ?_⟩
  unfold allDead at e1
  rw [Array.getElem?_map, e2] at e1
  cases e1
  cases h : isSus st2 with
  | true => exact .inr ⟨rfl, rfl⟩
  | false =>
    cases st2 with
    | suspended => cases h
    | _ => exact .inl ⟨rfl, trivial⟩
def AllB (gens : Array GenState) : Prop := ∀ y ∈ gens, y.bare = true
theorem allB_dead {G : Array GenState} (h : AllB G) : AllB (allDead G) := fun y hy => by
  unfold allDead at hy
  obtain ⟨z, hz, rfl⟩ := Array.mem_map.mp hy
  rw [dead_bare]
  exact h z hz
theorem allB_rl {G1 G2 : Array GenState} (r : Rl G1 G2) (h : AllB G1) : AllB G2 := fun y hy => by
  obtain ⟨i, hi, rfl⟩ := Array.mem_iff_getElem.mp hy
  have h1 : i < G1.size := by rw [r.size]; exact hi
  have hb := h G1[i] (Array.getElem_mem h1)
  rcases r.at_ i _ _ (Array.getElem?_eq_getElem h1) (Array.getElem?_eq_getElem hi) with ⟨e, _⟩ | ⟨_, e⟩
  · rw [← e]; exact hb
  · rw [e, dead_bare] at hb; exact hb
theorem wpAny_asleep {α : Type} {A : Around} {t : Sem α} {Q : α → Shared → Prop} {E : Value → Shared → Prop} {s : Shared} (h : wpAny M A t Q E (wg s (allDead s.gens))) :
    wpAny M A t (fun a s2 => ∃ (s1 : Shared) (G : Array GenState), s2 = wg s1 G ∧ Rl s1.gens G ∧ (∀ (i : Nat) (st : GenState), isSus st = true → s.gens[i]? = some st → G[i]? = some st) ∧ Q a s1)
      (fun a s2 => ∃ (s1 : Shared) (G : Array GenState), s2 = wg s1 G ∧ Rl s1.gens G ∧ (∀ (i : Nat) (st : GenState), isSus st = true → s.gens[i]? = some st → G[i]? = some st) ∧ E a s1) s := by
  intro Γ p hΓ
  have z := wp_rl t (h Γ p hΓ) (G2 := s.gens) (rl_dead s.gens) (Kp.refl)
  have kd : ∀ {G1 G : Array GenState}, Kp (allDead s.gens) s.gens G1 G → ∀ (i : Nat) (st : GenState), isSus st = true → s.gens[i]? = some st → G[i]? = some st := fun k i st hs e => (k i st hs e (by unfold allDead; rw [Array.getElem?_map, e]; rfl)).1
  refine Sem.wp_mono _ _ t ?_ ?_ _ _ z
  · rintro a p' s2 ⟨s1, G, e, r, k, q⟩
    exact ⟨s1, G, e, r, kd k, q⟩
  · rintro a p' s2 ⟨s1, G, e, r, k, q⟩
    exact ⟨s1, G, e, r, kd k, q⟩
end
open PySem PySem.Spec PyProof.Rows
abbrev RX := Result → Shared → Prop
abbrev YX := Value → Shared → Code → (Resume → Sem Fin) → List Frame → Prop
def SegX (M : Model) (A : Around) (R : RX) (Y : YX) (c : Code) (t : Sem Fin) (fs : List Frame) (s : Shared) : Prop :=
  ∀ Γ p, Γ.code = c → Γ.Woken A → ∃ e s', Runs M Γ p t fs s e s' ∧ match e with
    | .ret r => R r s'
    | .susp v g l k c' p' fs' => (End.susp v g l k c' p' fs').quiet = true ∧ okE (End.susp v g l k c' p' fs') ∧ Y v s' c' k fs'
section
variable {M : Model} {A : Around} {R : RX} {Y : YX} {c : Code} {fs : List Frame} {s : Shared}
theorem segx_wrap {α : Type} {m : Sem α} {K : α → Sem Fin} {H : Value → Sem Fin} {gd lv}
    (h : wpAny M (A.over c fs) m (fun a s' => SegX M A R Y c (K a) fs s') (fun x s' => SegX M A R Y c (H x) fs s') s) :
    SegX M A R Y c (m.wrap K H gd lv) fs s := by
  rintro Γ p rfl hΓ
  exact runs_wrap_of_wp K H gd lv m (h (Γ.over fs) p (hΓ.over fs)) (fun a p' s' h' => h' Γ p' rfl hΓ) (fun x p' s' h' => h' Γ p' rfl hΓ)
theorem segx_point {l : List Value} {k : Unit → Sem Fin} (h : SegX M A R Y c (k ()) fs s) : SegX M A R Y c (.point l k) fs s :=
  segx_wrap (m := point) (K := k) (H := .raise) (gd := id) (lv := fun _ => l) (wpAny_point h)
theorem segx_end (r : Result) (h : R r s) : SegX M A R Y c (leafOf r) [] s := by
  rintro Γ p rfl _
  exact ⟨.ret r, s, Runs.leaf r, h⟩
end
section
variable {prog : Program} {w : World} {A : Around} {R : RX} {Y : YX} {fs : List Frame} {s : Shared} {env : Env}
theorem segx_func {body : List Stmt}
    (h : SegX (model prog w) A R Y (.func body env) ((execs body env).wrap (fun f => .pure (.done (.ret (match f with | .ret v => v | _ => .none))))
      (fun e => (leaving env e).wrap (fun _ => .raise e) .raise id id) id id) fs s) :
    SegX (model prog w) A R Y (.func body env) ((model prog w).den (.func body env)) fs s := by
  show SegX _ A R Y _ (.point [] fun _ => ((execs body env).onRaise (leaving env)) >>= _) fs s
  refine segx_point ?_
  rw [Sem.onRaise_eq_wrap, Sem.bind_eq_wrap', Sem.wrap_wrap]
  rw [Sem.wrap_congr (execs body env) _ _ (K' := fun f => .pure (.done (.ret (match f with | .ret v => v | _ => .none))))
    (H' := fun e => (leaving env e).wrap (fun _ => .raise e) .raise id id) (fun f => by cases f <;> rfl)
    (fun e => by rw [Sem.bind_eq_wrap, Sem.wrap_wrap]; rfl)]
  exact h
end
open DL
open PySem PySem.Spec PyProof.Rows L2
def cutH (h : Heap) (L : Nat) : Heap := ⟨h.objs.extract 0 L, h.life⟩
theorem cutH_size {h : Heap} {L : Nat} (hl : L ≤ h.objs.size) : (cutH h L).objs.size = L := by
  unfold cutH
  simp [Array.size_extract]
  omega
def young (h : Heap) (H : Hp) (L : Nat) (own : List Addr) (b : Addr) : Prop := L ≤ b ∧ H b = none ∧ (∃ o, h.get? b = some o) ∧ b ∉ own
open Classical in
noncomputable def frzH (h : Heap) (H : Hp) (L : Nat) (own : List Addr) : Hp := fun b => if young h H L own b then (h.get? b).map (fun o => .frz o (.own 0)) else H b
theorem REnv.app {G : Gx} {ι : Ix} {S : Sto} {H : Hp} {σ τ : L2.St} {ρ θ : DL.Env} (a : REnv G ι S H σ ρ) (b : REnv G ι S H τ θ) : REnv G ι S H (σ ++ τ) (ρ ++ θ) := by
  refine ⟨by rw [List.length_append, List.length_append, a.len, b.len], fun i d q => ?_⟩
  by_cases hi : i < ρ.length
  · rw [List.getElem?_append_left hi] at q
    obtain ⟨v, h1, h2⟩ := a.at_ i d q
    exact ⟨v, by rw [List.getElem?_append_left (by rw [a.len]; exact hi)]; exact h1, h2⟩
  · rw [List.getElem?_append_right (by omega)] at q
    obtain ⟨v, h1, h2⟩ := b.at_ _ d q
    exact ⟨v, by rw [List.getElem?_append_right (by rw [a.len]; omega), a.len]; exact h1, h2⟩
structure GnScope (N ps : List Str) (sc : Scope) : Prop where
  kind : sc.kind = .function
  co : sc.isCoroutine = false
  gen : sc.isGenerator = true
  nd : N.Nodup
  pre : N.take ps.length = ps
  par : ∀ x ∈ ps, sc.names.lookup x = some .local
  nocell : ∀ x, sc.names.lookup x ≠ some .cell ∧ sc.names.lookup x ≠ some .free
  cells : ∀ n, cellsFrom n sc.names [] = []
abbrev GnX (G : Gx) (k : Nat) (N : List Str) (qual : Str) (scope : Scope) (f : Addr) : FIdx k qual scope f → Cx :=
  fun i => { FnX G k N qual scope f (fun _ _ _ => False) i with xe := fun _ _ => False }
structure Wk (G : Gx) (k : Nat) (qual : Str) (scope : Scope) (f : Addr) (L : Nat) (cdv : Value) (A : Around) (outer : List PySem.Env) (s : Shared) (H : Hp) : Prop where
  e0 : Env0 G.P G.w G.K G.mg G.base A outer s H
  bsz : G.base.objs.size ≤ L
  old : ∀ b ∈ frs outer, @LT.lt Nat _ b L
  room : Room k (A.deeper (envOfC qual scope L f cdv))
  gd : A.guards = some []
  le : L ≤ s.heap.objs.size
section
variable {G : Gx} {k : Nat} {N ps : List Str} {qual : Str} {scope : Scope} {f : Addr} {L : Nat} {cdv : Value} {A : Around} {outer : List PySem.Env} {s s1 : Shared} {H H1 : Hp}
abbrev cutS (s : Shared) (L : Nat) : Shared := { s with heap := cutH s.heap L }
noncomputable def Wk.ix (w : Wk G k qual scope f L cdv A outer s H) (own : List Addr) : FIdx k qual scope f :=
  ⟨cdv, A, outer, cutS s L, frzH s.heap H L own, by
    have e : (cutS s L).heap.objs.size = L := cutH_size w.le
    rw [e]
    exact w.room, w.gd⟩
theorem Wk.env (w : Wk G k qual scope f L cdv A outer s H) (own : List Addr) : (GnX G k N qual scope f (w.ix own)).env = envOfC qual scope L f cdv := by
  show envOfC qual scope (cutS s L).heap.objs.size f cdv = _
  have e : (cutS s L).heap.objs.size = L := cutH_size w.le
  rw [e]
def Locs (N : List Str) (qual : Str) (scope : Scope) (f : Addr) (cdv : Value) (L : Nat) (σ : L2.St) (h : Heap) : Prop :=
  ∃ m, h.Ns L m ∧ ∀ (i : Nat) (x : Str) (v : V), N[i]? = some x → σ[i]? = some (some v) → Vis scope x → ∃ u, RelV v u ∧ Look (envOfC qual scope L f cdv) h m x u
theorem Locs.keep {σ : L2.St} {h h' : Heap} (S : GnScope N ps scope) (x : Locs N qual scope f cdv L σ h) (e : ∀ o, h.get? L = some o → h'.get? L = some o) : Locs N qual scope f cdv L σ h' := by
  obtain ⟨m, ⟨o, es, ep, ho, r⟩, hm⟩ := x
  refine ⟨m, ⟨o, es, ep, e o ho, r⟩, fun i x v h1 h2 h3 => ?_⟩
  obtain ⟨u, ru, hl⟩ := hm i x v h1 h2 h3
  refine ⟨u, ru, ?_⟩
  rcases hl with hl | ⟨_, c, hc, _⟩
  · exact .inl hl
  · exfalso
    have : (cellsFrom (L + 1) scope.names []).lookup x = some c := hc
    rw [S.cells] at this
    cases this
end
open PySem PySem.Spec PyProof.Rows L2 GenW
theorem wpAny_rl {M : Model} {α : Type} {A : Around} {t : Sem α} {Q : α → Shared → Prop} {E : Value → Shared → Prop} {s : Shared} {G2 : Array GenState} (h : wpAny M A t Q E s) (r : Rl s.gens G2) :
    wpAny M A t (fun a s2 => ∃ (s1 : Shared) (G : Array GenState), s2 = wg s1 G ∧ Rl s1.gens G ∧ Kp s.gens G2 s1.gens G ∧ Q a s1) (fun a s2 => ∃ (s1 : Shared) (G : Array GenState), s2 = wg s1 G ∧ Rl s1.gens G ∧ Kp s.gens G2 s1.gens G ∧ E a s1) (wg s G2) := by
  intro Γ p hΓ
  have z := wp_rl t (h Γ p hΓ) r (Kp.refl (G1 := s.gens) (G2 := G2))
  refine Sem.wp_mono _ _ t ?_ ?_ _ _ z
  · rintro a p' s2 ⟨s1, G, e, r, k, q⟩
    exact ⟨s1, G, e, r, k, q⟩
  · rintro a p' s2 ⟨s1, G, e, r, k, q⟩
    exact ⟨s1, G, e, r, k, q⟩
theorem Inv.gens {X : Cx} {pins : List (Addr × Obj)} {σ : L2.St} {H : Hp} {s : Shared} {G2 : Array GenState} (I : Inv X pins σ H s) (h : AllBare G2) : Inv X pins σ H (wg s G2) :=
  ⟨I.ok, I.os, h, I.base, I.loc, I.cell, I.free, I.freeC, I.pin, I.hok, I.len⟩
def Zz (g : Nat) (gp : List (Nat × GenState)) (s : Shared) : Prop := ∀ p ∈ gp, s.gens[p.1]? = some p.2 ∧ isSus p.2 = true ∧ g < p.1
structure Gp where
  l : List (Nat × GenState)
  τ : L2.St
  ρ : DL.Env
abbrev noE : WK := fun _ _ _ _ => False
section
variable (G : Gx) (k : Nat) (N : List Str) (qual : Str) (scope : Scope) (f : Addr) (L : Nat) (cdv : Value)
structure At where
  A : Around
  outer : List PySem.Env
  s : Shared
  H : Hp
  w : Wk G k qual scope f L cdv A outer s H
  own : List Addr
  ι : Ix
  T : Sto
end
section
variable {G : Gx} {k : Nat} {N ps : List Str} {qual : Str} {scope : Scope} {f : Addr} {L : Nat} {cdv : Value}
noncomputable abbrev At.X (N : List Str) (a : At G k qual scope f L cdv) : Cx := GnX G k N qual scope f (a.w.ix a.own)
def Core (N : List Str) (a : At G k qual scope f L cdv) (gp : Gp) (ip : List (Addr × Obj)) (ρ : DL.Env) (P : Ix → Hp → Prop) (s1 : Shared) : Prop :=
  ∃ σ H1 ι1, Inv (a.X N) ip σ H1 s1 ∧ Ext a.ι a.T (frzH a.s.heap a.H L a.own) ι1 a.T H1 ∧ Rel G ι1 a.T H1 ∧ REnv G ι1 a.T H1 σ ρ ∧ REnv G ι1 a.T H1 gp.τ gp.ρ ∧ P ι1 H1
abbrev noP : Ix → Hp → Prop := fun _ _ => True
structure Mid (N : List Str) (a : At G k qual scope f L cdv) (g : Nat) (gp : Gp) (ip : List (Addr × Obj)) (ρ : DL.Env) (P : Ix → Hp → Prop) (s1 : Shared) : Prop where
  core : Core N a gp ip ρ P s1
  sz : g < s1.gens.size
  zz : Zz g gp.l s1
  ipl : ∀ p ∈ ip, @LE.le Nat _ L p.1
theorem Core.bare {a : At G k qual scope f L cdv} {gp : Gp} {ip : List (Addr × Obj)} {ρ : DL.Env} {P : Ix → Hp → Prop} {s1 : Shared} (h : Core N a gp ip ρ P s1) : AllBare s1.gens := by
  obtain ⟨_, _, _, I, _⟩ := h
  exact I.bare
theorem Core.gens {a : At G k qual scope f L cdv} {gp : Gp} {ip : List (Addr × Obj)} {ρ : DL.Env} {P : Ix → Hp → Prop} {s1 : Shared} {G2 : Array GenState} (h : Core N a gp ip ρ P s1) (hb : AllBare G2) : Core N a gp ip ρ P (wg s1 G2) := by
  obtain ⟨σ, H1, ι1, I, r⟩ := h
  exact ⟨σ, H1, ι1, Inv.gens I hb, r⟩
theorem Core.imp {a : At G k qual scope f L cdv} {gp : Gp} {ip : List (Addr × Obj)} {ρ : DL.Env} {P P' : Ix → Hp → Prop} {s1 : Shared} (h : Core N a gp ip ρ P s1) (hp : ∀ ι H, P ι H → P' ι H) : Core N a gp ip ρ P' s1 := by
  obtain ⟨σ, H1, ι1, I, x, R, e, eg, p⟩ := h
  exact ⟨σ, H1, ι1, I, x, R, e, eg, hp _ _ p⟩
theorem Mid.imp {a : At G k qual scope f L cdv} {g : Nat} {gp : Gp} {ip : List (Addr × Obj)} {ρ : DL.Env} {P P' : Ix → Hp → Prop} {s1 : Shared} (h : Mid N a g gp ip ρ P s1) (hp : ∀ ι H, P ι H → P' ι H) : Mid N a g gp ip ρ P' s1 := ⟨h.core.imp hp, h.sz, h.zz, h.ipl⟩
theorem sleeping {α : Type} {M : Model} {B : Around} {t : Sem α} {Q : α → Shared → Prop} {E : Value → Shared → Prop} {s1 : Shared} {g : Nat} {gp : List (Nat × GenState)} (sz : g < s1.gens.size) (zz : Zz g gp s1)
    (h : wpAny M B t Q (fun _ _ => False) (wg s1 (allDead s1.gens))) (hb : ∀ v s2, Q v s2 → AllBare s2.gens) :
    wpAny M B t (fun v s2 => ∃ s3, s2 = wg s3 s2.gens ∧ Q v s3 ∧ AllBare s2.gens ∧ g < s2.gens.size ∧ Zz g gp s2) E s1 := by
  refine wpAny_gsz (n := g + 1) sz (wpAny_mono (wpAny_asleep h) (fun v s2 q => ?_) fun e s2 q => ?_)
  · obtain ⟨s3, G2, rfl, r, ks, q⟩ := q
    exact fun hsz => ⟨s3, rfl, q, allB_rl r (hb v s3 q), hsz, fun p hp => ⟨ks p.1 p.2 (zz p hp).2.1 (zz p hp).1, (zz p hp).2⟩⟩
  · obtain ⟨_, _, _, _, _, q⟩ := q
    exact q.elim
theorem Mid.run {α : Type} {B : Around} {M : Model} {t : Sem α} {a : At G k qual scope f L cdv} {g : Nat} {gp : Gp} {ip : List (Addr × Obj)} {ρ ρ' : DL.Env} {P : Ix → Hp → Prop} {P' : α → Ix → Hp → Prop} {E : Value → Shared → Prop} {s1 : Shared} (m : Mid N a g gp ip ρ P s1)
    (h : ∀ s', Core N a gp ip ρ P s' → wpAny M B t (fun v s2 => Core N a gp ip ρ' (P' v) s2) (fun _ _ => False) s') : wpAny M B t (fun v s2 => Mid N a g gp ip ρ' (P' v) s2) E s1 := by
  refine wpAny_mono (sleeping m.sz m.zz (h _ (m.core.gens (allB_dead m.core.bare))) fun v s2 q => q.bare) (fun v s2 q => ?_) fun _ _ q => q
  obtain ⟨s3, e, q, hb, sz, zz⟩ := q
  exact ⟨by rw [e]; exact q.gens hb, sz, zz, m.ipl⟩
section
variable {a : At G k qual scope f L cdv} {g : Nat} {gp : Gp} {ip : List (Addr × Obj)} {ρ : DL.Env} {P : Ix → Hp → Prop} {E : Value → Shared → Prop} {s1 : Shared}
abbrev gEnv (qual : Str) (scope : Scope) (f : Addr) (L : Nat) (cdv : Value) : PySem.Env := envOfC qual scope L f cdv
theorem at_env (a : At G k qual scope f L cdv) : (a.X N).env = gEnv qual scope f L cdv := a.w.env a.own
theorem Core.pe {e : Expr} {c : ECode} {d : D} (he : DE (GnX G k N qual scope f) G noE e c) (hc : ∀ S, c ρ S = .ok d S) (m : Core N a gp ip ρ P s1) :
    wpAny (model G.P G.w) (a.A.deeper (gEnv qual scope f L cdv)) (eval e (gEnv qual scope f L cdv)) (fun v s2 => Core N a gp ip ρ (fun ι1 H1 => ∃ x, RelV x v ∧ Rep G ι1 (Lv ι1 a.T) H1 x d) s2) (fun _ _ => False) s1 := by
  obtain ⟨t, pe, sn⟩ := he
  obtain ⟨σ, H1, ι1, I, x, R, e1, eg, p⟩ := m
  have z := (pe (a.w.ix a.own)).run ip s1 σ H1 (fun v H2 => ∃ ι2, Ext a.ι a.T (frzH a.s.heap a.H L a.own) ι2 a.T H2 ∧ Rel G ι2 a.T H2 ∧ REnv G ι2 a.T H2 σ ρ ∧ REnv G ι2 a.T H2 gp.τ gp.ρ ∧ Rep G ι2 (Lv ι2 a.T) H2 v d) I
    (sn ι1 a.T H1 σ ρ _ R e1 (by rw [hc]; exact fun ι2 H2 x2 R2 v r => ⟨ι2, x.trans x2, R2, e1.mono x2, eg.mono x2, r⟩))
  rw [← at_env (N := N) a]
  refine wpAny_mono z (fun v s2 ⟨y, H2, I2, rv, ι2, x2, R2, e2, g2, r2⟩ => ?_) fun _ _ q => q
  exact ⟨σ, H2, ι2, I2, x2, R2, e2, g2, y, rv, r2⟩
theorem Mid.pe {e : Expr} {c : ECode} {d : D} (he : DE (GnX G k N qual scope f) G noE e c) (hc : ∀ S, c ρ S = .ok d S) (m : Mid N a g gp ip ρ P s1) :
    wpAny (model G.P G.w) (a.A.deeper (gEnv qual scope f L cdv)) (eval e (gEnv qual scope f L cdv)) (fun v s2 => Mid N a g gp ip ρ (fun ι1 H1 => ∃ x, RelV x v ∧ Rep G ι1 (Lv ι1 a.T) H1 x d) s2) E s1 :=
  m.run fun s' m' => m'.pe he hc
theorem Mid.pt {e : Expr} {c : TCode} {b : Bool} (he : DT (GnX G k N qual scope f) G noE e c) (hc : ∀ S, c ρ S = .ok b S) (m : Mid N a g gp ip ρ P s1) :
    wpAny (model G.P G.w) (a.A.deeper (gEnv qual scope f L cdv)) (isTrue e (gEnv qual scope f L cdv) (eval e (gEnv qual scope f L cdv))) (fun v s2 => Mid N a g gp ip ρ (fun _ _ => v = b) s2) E s1 := by
  refine m.run fun s' m' => ?_
  obtain ⟨t, pe, sn⟩ := he
  obtain ⟨σ, H1, ι1, I, x, R, e1, eg, p⟩ := m'
  have z := (pe (a.w.ix a.own)).run ip s' σ H1 (fun v H2 => ∃ ι2, Ext a.ι a.T (frzH a.s.heap a.H L a.own) ι2 a.T H2 ∧ Rel G ι2 a.T H2 ∧ REnv G ι2 a.T H2 σ ρ ∧ REnv G ι2 a.T H2 gp.τ gp.ρ ∧ v = b) I
    (sn ι1 a.T H1 σ ρ _ R e1 (by rw [hc]; exact fun ι2 H2 x2 R2 => ⟨ι2, x.trans x2, R2, e1.mono x2, eg.mono x2, rfl⟩))
  rw [← at_env (N := N) a]
  refine wpAny_mono z (fun v s2 ⟨H2, I2, ι2, x2, R2, e2, g2, r2⟩ => ?_) fun _ _ q => q
  exact ⟨σ, H2, ι2, I2, x2, R2, e2, g2, r2⟩
end
section
variable (G k N qual scope f L cdv)
def CEnd (g : Nat) (outs : List D) (a : At G k qual scope f L cdv) : RX := fun r s2 => outs = [] ∧ (r = .ok (.ret .none) ∨ r = .ok .next) ∧ ∃ ip2 gp2 ρ2, Mid N a g gp2 ip2 ρ2 noP s2
def Cont (g : Nat) : List D → Sem PySem.Fin → Code → List Frame → List (Addr × Obj) → Gp → DL.Env → Prop
  | [], t, c, fs, ip, gp, ρ => ∀ (a : At G k qual scope f L cdv) s1, Mid N a g gp ip ρ noP s1 → SegX (model G.P G.w) a.A (CEnd G k N qual scope f L cdv g [] a) (fun _ _ _ _ _ => False) c t fs s1
  | d :: ds, t, c, fs, ip, gp, ρ => ∀ (a : At G k qual scope f L cdv) s1, Mid N a g gp ip ρ noP s1 → SegX (model G.P G.w) a.A (fun _ _ => False)
      (fun v s2 c' kk fs' => ∃ ip2 gp2 ρ2, Mid N a g gp2 ip2 ρ2 (fun ι1 H1 => ∃ x, RelV x v ∧ Rep G ι1 (Lv ι1 a.T) H1 x d) s2 ∧ Cont g ds (kk (.send .none)) c' fs' ip2 gp2 ρ2) c t fs s1
end
section
variable {g : Nat} {outs rest : List D} {t t' : Sem PySem.Fin} {c c' : Code} {fs fs' : List Frame} {ip ip' : List (Addr × Obj)} {gp gp' : Gp} {ρ ρ' : DL.Env}
theorem Cont.intro (h : ∀ (a : At G k qual scope f L cdv) s1 (R : RX) (Y : YX), Mid N a g gp ip ρ noP s1 →
      (∀ c' t' fs' ip' gp' ρ' s2, Cont G k N qual scope f L cdv g outs t' c' fs' ip' gp' ρ' → Mid N a g gp' ip' ρ' noP s2 → SegX (model G.P G.w) a.A R Y c' t' fs' s2) → SegX (model G.P G.w) a.A R Y c t fs s1) :
    Cont G k N qual scope f L cdv g outs t c fs ip gp ρ := by
  cases outs with
  | nil => exact fun a s1 m => h a s1 _ _ m fun c' t' fs' ip' gp' ρ' s2 hc m2 => hc a s2 m2
  | cons d ds => exact fun a s1 m => h a s1 _ _ m fun c' t' fs' ip' gp' ρ' s2 hc m2 => hc a s2 m2
theorem Cont.conv (h : ∀ (a : At G k qual scope f L cdv) s1 (R : RX) (Y : YX), SegX (model G.P G.w) a.A R Y c' t' fs' s1 → SegX (model G.P G.w) a.A R Y c t fs s1) (hc : Cont G k N qual scope f L cdv g outs t' c' fs' ip gp ρ) :
    Cont G k N qual scope f L cdv g outs t c fs ip gp ρ := Cont.intro fun a s1 R Y m k => h a s1 R Y (k _ _ _ _ _ _ _ hc m)
structure Side (qual : Str) (scope : Scope) (f : Addr) (L : Nat) (cdv : Value) (c : Code) (fs : List Frame) (gd : Bool → Bool) : Prop where
  over : ∀ A : Around, A.over c fs = A.deeper (gEnv qual scope f L cdv)
  split : splitAtGen fs = none
  fg : fs.any Frame.guarded = false
  gd : gd false = false
abbrev GRel := DL.Env → List D → DL.Env → Prop
abbrev ZP := Gp → Prop
variable (G k N qual scope f L cdv) in
def GSts (Z : ZP) (sts : List Stmt) (R : GRel) : Prop := ∀ outs ρ ρ', R ρ outs ρ' → ∀ (g : Nat) (rest : List D) (c : Code) (fs : List Frame) (K : Flow → Sem PySem.Fin) (H : Value → Sem PySem.Fin) (gd : Bool → Bool) (lv : List Value → List Value) (ip : List (Addr × Obj)) (gp : Gp), Z gp → Side qual scope f L cdv c fs gd →
  Cont G k N qual scope f L cdv g rest (K .next) c fs ip gp ρ' → Cont G k N qual scope f L cdv g (outs ++ rest) ((execs sts (gEnv qual scope f L cdv)).wrap K H gd lv) c fs ip gp ρ
end
end
structure Pr (n : Nat) (gp : List (Nat × GenState)) (s3 s2 : Shared) : Prop where
  eq : s2 = wg s3 s2.gens
  rl : Rl s3.gens s2.gens
  sz : n ≤ s2.gens.size
  zz : ∀ p ∈ gp, s2.gens[p.1]? = some p.2 ∧ isSus p.2 = true ∧ n ≤ p.1 ∧ s3.gens[p.1]? = some (dead p.2)
def Zn (n : Nat) (gp : List (Nat × GenState)) (s : Shared) : Prop := ∀ p ∈ gp, s.gens[p.1]? = some p.2 ∧ isSus p.2 = true ∧ n ≤ p.1
section
variable {n : Nat} {gp : List (Nat × GenState)} {s1 s2 s3 : Shared}
theorem Pr.runE {α : Type} {M : Model} {B : Around} {t : Sem α} {Q : α → Shared → Prop} {E : Value → Shared → Prop} (r : Pr n gp s3 s2) (h : wpAny M B t Q E s3) : wpAny M B t (fun v s5 => ∃ s4, Pr n gp s4 s5 ∧ Q v s4) (fun v s5 => ∃ s4, Pr n gp s4 s5 ∧ E v s4) s2 := by
  have z := wpAny_rl h r.rl
  rw [← r.eq] at z
  have fin : ∀ {G2 : Array GenState} {s4 : Shared}, Rl s4.gens G2 → Kp s3.gens s2.gens s4.gens G2 → n ≤ G2.size → Pr n gp s4 (wg s4 G2) := fun {G2 s4} rl ks hsz => ⟨rfl, rl, hsz, fun p hp => by
    obtain ⟨z1, z2, z3, z4⟩ := r.zz p hp
    obtain ⟨k1, k2⟩ := ks p.1 p.2 z2 z1 z4
    exact ⟨k1, z2, z3, k2⟩⟩
  refine wpAny_gsz (n := n) r.sz (wpAny_mono z (fun v s5 q => ?_) fun e s5 q => ?_)
  · obtain ⟨s4, G2, rfl, rl, ks, q⟩ := q
    exact fun hsz => ⟨s4, fin rl ks hsz, q⟩
  · obtain ⟨s4, G2, rfl, rl, ks, q⟩ := q
    exact fun hsz => ⟨s4, fin rl ks hsz, q⟩
theorem Pr.run {α : Type} {M : Model} {B : Around} {t : Sem α} {Q : α → Shared → Prop} {E : Value → Shared → Prop} (r : Pr n gp s3 s2) (h : wpAny M B t Q (fun _ _ => False) s3) : wpAny M B t (fun v s5 => ∃ s4, Pr n gp s4 s5 ∧ Q v s4) E s2 :=
  wpAny_mono (r.runE h) (fun _ _ q => q) fun _ _ q => by
    obtain ⟨_, _, q⟩ := q
    exact q.elim
theorem Pr.heap (r : Pr n gp s3 s2) : s2.heap = s3.heap := by rw [r.eq]
theorem Pr.fin (r : Pr n gp s3 s2) (hb : AllBare s3.gens) : AllBare s2.gens ∧ n ≤ s2.gens.size ∧ Zn n gp s2 := ⟨allB_rl r.rl hb, r.sz, fun p hp => ⟨(r.zz p hp).1, (r.zz p hp).2.1, (r.zz p hp).2.2.1⟩⟩
end
def ContS (G : Gx) (k : Nat) (N : List Str) (qual : Str) (scope : Scope) (f : Addr) (L : Nat) (cdv : Value) (g : Nat) (outs : List D) (gs : GenState) (ip : List (Addr × Obj)) (gp : Gp) (ρ : DL.Env) : Prop :=
  match gs with
  | .fresh c => Cont G k N qual scope f L cdv g outs ((model G.P G.w).den c) c [] ip gp ρ
  | .suspended kf _ c _ fs _ => Cont G k N qual scope f L cdv g outs (kf (.send .none)) c fs ip gp ρ
  | _ => False
structure SlpX (G : Gx) (k : Nat) (OL : Nat → Prop) (outs : List D) (a : Addr) (g : Nat) (fp : List (Addr × Obj)) (gk : List (Nat × GenState))
    (N ps : List Str) (qual : Str) (scope : Scope) (f : Addr) (L : Nat) (cdv : Value) (gs : GenState) (ip : List (Addr × Obj)) (gp : Gp) (ρ : DL.Env) (τ : L2.St) (oL go : Obj) : Prop where
  sc : GnScope N ps scope
  efp : fp = (a, go) :: (L, oL) :: ip
  egk : gk = (g, gs) :: gp.l
  isg : ∀ h : Heap, h.get? a = some go → h.IsGen a g
  loc : ∀ h : Heap, h.get? L = some oL → Locs N qual scope f cdv L τ h
  len : τ.length = N.length
  cont : ContS G k N qual scope f L cdv g outs gs ip gp ρ
  ips : ∀ p ∈ ip, @LE.le Nat _ L p.1 ∧ p.1 ≠ L ∧ p.1 ≠ a
  aL : a ≠ L
  cel : ∀ p ∈ fp, ∀ v, p.2.data ≠ .cell v
  bs : G.base.objs.size ≤ L
  old : OL L
  gps : ∀ p ∈ gp.l, isSus p.2 = true ∧ g < p.1
def Slp (G : Gx) (k : Nat) (OL : Nat → Prop) (outs : List D) (a : Addr) (g : Nat) (fp : List (Addr × Obj)) (gk : List (Nat × GenState)) (ι : Ix) (T : Sto) (H : Hp) : Prop :=
  ∃ N ps qual scope f L cdv gs ip gp ρ τ oL go, SlpX G k OL outs a g fp gk N ps qual scope f L cdv gs ip gp ρ τ oL go ∧ REnv G ι T H τ ρ ∧ REnv G ι T H gp.τ gp.ρ
structure Held (X : Cx) (pins : List (Addr × Obj)) (H : Hp) (s : Shared) (fp : List (Addr × Obj)) (gk : List (Nat × GenState)) : Prop where
  at_ : ∀ p ∈ fp, s.heap.get? p.1 = some p.2 ∧ FpOk X pins H p.1
  gs : ∀ p ∈ gk, s.gens[p.1]? = some p.2
theorem Slp.mono {G : Gx} {k : Nat} {OL : Nat → Prop} {outs : List D} {a : Addr} {g : Nat} {fp : List (Addr × Obj)} {gk : List (Nat × GenState)} {ι ι1 : Ix} {T T1 : Sto} {H H1 : Hp} (h : Slp G k OL outs a g fp gk ι T H) (x : Ext ι T H ι1 T1 H1) : Slp G k OL outs a g fp gk ι1 T1 H1 := by
  obtain ⟨N, ps, qual, scope, f, L, cdv, gs, ip, gp, ρ, τ, oL, go, h, e1, e2⟩ := h
  exact ⟨N, ps, qual, scope, f, L, cdv, gs, ip, gp, ρ, τ, oL, go, h, e1.mono x, e2.mono x⟩
abbrev gp0 : Gp := ⟨[], [], []⟩
def Made (G : Gx) (k : Nat) (outs : List D) (u : Value) (ι : Ix) (T : Sto) (H : Hp) (s s' : Shared) : Prop :=
  ∃ a g fp gk, u = .ref a ∧ (∀ OL : Nat → Prop, OL s.heap.objs.size → Slp G k OL outs a g fp gk ι T H) ∧ (∀ p ∈ fp, s'.heap.get? p.1 = some p.2 ∧ s.heap.objs.size ≤ p.1) ∧ (∀ p ∈ gk, s'.gens[p.1]? = some p.2) ∧ s'.os = s.os ∧ AllBare s'.gens ∧
    (∀ b o, s.heap.get? b = some o → s'.heap.get? b = some o) ∧ s.gens.size ≤ g ∧ s'.heap.IsGen a g
def GnB (G : Gx) (k : Nat) (f : Addr) (fd : FuncData) (ps : List Str) (sp : List D → Option (List D)) : Prop :=
  ∀ (A : Around) (outer : List PySem.Env) (s : Shared) (H : Hp) (args : Args) (us : List Value) (vs : List V) (ι : Ix) (T : Sto) (ds outs : List D), Room k A → Env0 G.P G.w G.K G.mg G.base A outer s H →
    BindsTo s fd args (ps.zip us) → Vals vs us → Rel G ι T H → Reps G ι (Lv ι T) H vs ds → ds.length = ps.length → sp ds = some outs → codeAny (model G.P G.w) A (.call (.ref f) args) (fun r s' => match r with | .ok (.ret u) => Made G k outs u ι T H s s' | _ => False) s
theorem locs_start {G : Gx} {N ps : List Str} {qual : Str} {scope : Scope} {f : Addr} {cdv : Value} {s s1 : Shared} {us : List Value} {vs : List V} (S : GnScope N ps scope) (r : Vals vs us) (hl : vs.length = ps.length)
    (x : InCallC s s.heap.objs.size (bindL (envOfC qual scope s.heap.objs.size f cdv).kindOf (ps.zip us) fun _ => none) (cellsFrom (s.heap.objs.size + 1) scope.names []) (bindC (envOfC qual scope s.heap.objs.size f cdv).kindOf (ps.zip us) fun _ => none) s1) :
    Locs N qual scope f cdv s.heap.objs.size (L2.start N vs) s1.heap ∧ (L2.start N vs).length = N.length := by
  have hpl : ps.length ≤ N.length := by have := congrArg List.length S.pre; rw [List.length_take] at this; omega
  refine ⟨⟨_, x.toInCall.ns, fun i y v h1 h2 h3 => ?_⟩, ?_⟩
  · have hi : i < vs.length := by
      unfold L2.start at h2
      by_cases hi : i < vs.length
      · exact hi
      · rw [List.getElem?_append_right (by simpa using hi)] at h2
        rw [List.getElem?_replicate] at h2
        split at h2 <;> cases h2
    have ha : vs[i]? = some v := by
      unfold L2.start at h2
      rw [List.getElem?_append_left (by simpa using hi), List.getElem?_map] at h2
      cases e : vs[i]? with
      | none => rw [e] at h2; cases h2
      | some a => rw [e] at h2; cases h2; rfl
    obtain ⟨u, hu, rv⟩ := r.get ha
    have hp : ps[i]? = some y := by
      rw [← S.pre, List.getElem?_take_of_lt (by omega)]; exact h1
    have ndP : ps.Nodup := by rw [← S.pre]; exact S.nd.sublist (List.take_sublist _ _)
    have k := S.par y (List.mem_of_getElem? hp)
    exact ⟨u, rv, .inl ⟨k, bindL_get ndP hp hu k⟩⟩
  · unfold L2.start
    rw [List.length_append, List.length_map, List.length_replicate]
    omega
theorem GnB.of {G : Gx} {x qual : Str} {st : Stmt} {f : Addr} {fd : FuncData} {N ps : List Str} {k : Nat} {R : GRel} {sp : List D → Option (List D)} (F : Fun G.K x qual st f fd) (Sc : GnScope N ps (defScope st))
    (hb : ∀ L cdv, GSts G k N qual (defScope st) f L cdv (fun gp => gp = gp0) (defBody st) R) (hs : ∀ ds outs, sp ds = some outs → ∃ ρ', R (ds.map some ++ List.replicate (N.length - ds.length) none) outs ρ') : GnB G k f fd ps sp := by
  obtain ⟨oc, od, kV, doc, pm, an, cdv, ct, osl, rfl, lk, hcd⟩ := F.ex
  intro A outer s H args us vs ι T ds outs hr e0 hbi r R0 rs hl hsp
  have hlv : vs.length = ps.length := rs.length.trans hl
  have KX : G.K.In s.heap := e0.mod.kin.keeps fun b o e => (e0.bs b o e).1
  have lim : s.heap.NoLimit := e0.mod.nolimit.keeps fun b o e => (e0.bs b o e).1
  have hkind : ∀ y ∈ ps.zip us, (defScope st).names.lookup y.1 = some .local ∨ ((defScope st).names.lookup y.1 = some .cell ∧ ((cellsFrom (s.heap.objs.size + 1) (defScope st).names []).lookup y.1).isSome = true) := by
    rintro ⟨n, v⟩ hy
    exact .inl (Sc.par n (List.of_mem_zip hy).1)
  refine codeAny_call_generator hr.depth (KX _ _ lk) rfl Sc.co Sc.gen rfl (PySem.W.codeRec_of KX hcd) (hbi _ _ _ _ ?_)
  refine wpAny_newFunctionEnv_cells Sc.kind hkind fun env he s1 z => ?_
  subst he
  have lim1 : s1.heap.NoLimit := lim.keeps z.toInCall.keep
  refine ⟨lim1, ?_⟩
  obtain ⟨h1, tk, es1, hk1⟩ := z.done
  have os1 : s1.os = s.os := by rw [es1]
  have gen1 : s1.gens = s.gens := by rw [es1]
  have lt1 : s.heap.objs.size < s1.heap.objs.size := z.toInCall.ns.lt
  have kp1 : ∀ b o, s.heap.get? b = some o → s1.heap.get? b = some o := z.toInCall.keep
  obtain ⟨lo, hlen⟩ := locs_start (G := G) Sc r hlv z
  obtain ⟨ρ', hR⟩ := hs ds outs hsp
  have main : ∀ (go : Obj) (nm qn : Value) (tk2 : Nat), go.cls = .type "generator" → go.data = .fields #[.int s1.gens.size 0, nm, qn] → go.slots = #[] → (∀ h : Heap, (h.push go).get? h.objs.size = some go) →
      Made G k outs (.ref s1.heap.objs.size) ι T H s { s1 with gens := s1.gens.push (.fresh (.func (defBody st) (envOfC qual (defScope st) s.heap.objs.size f cdv))), toks := tk2, heap := s1.heap.push go } := by
    intro go nm qn tk2 hgc hgd0 hgs hgp
    have hgen : ∀ h : Heap, h.get? s1.heap.objs.size = some go → h.IsGen s1.heap.objs.size s1.gens.size := fun h e => ⟨go, nm, qn, e, hgc, hgd0, hgs⟩
    have hpushed : (s1.heap.push go).get? s1.heap.objs.size = some go := hgp _
    obtain ⟨mL, ⟨oL, les, lep, hoL, hdL, hrL⟩, hmL⟩ := id lo
    refine ⟨s1.heap.objs.size, s1.gens.size, [(s1.heap.objs.size, go), (s.heap.objs.size, oL)], [(s1.gens.size, .fresh (.func (defBody st) (envOfC qual (defScope st) s.heap.objs.size f cdv)))], rfl, fun OL hOL => ⟨N, ps, qual, defScope st, f, s.heap.objs.size, cdv, _, [], gp0, _, L2.start N vs, oL, go,
      ⟨Sc, rfl, rfl, hgen, fun h e => DG.Locs.keep Sc lo fun o e2 => ?_, hlen, ?_, fun p hp => (by simp at hp), ?_, fun p hp v e => ?_, e0.bsz, hOL, fun p hp => (by simp at hp)⟩, start_env rs N, ⟨rfl, fun i d q => by simp at q⟩⟩, fun p hp => ?_, fun p hp => ?_, os1, ?_,
      fun b o e => Heap.get?_push_of_some _ (kp1 b o e), by rw [gen1]; exact Nat.le_refl _, hgen _ hpushed⟩
    · rw [hoL] at e2
      cases e2
      exact e
    · -- the body
      refine Cont.conv (fun a s2 RR Y h => segx_func h) ?_
      have zz := hb s.heap.objs.size cdv outs _ ρ' hR s1.gens.size [] (.func (defBody st) (envOfC qual (defScope st) s.heap.objs.size f cdv)) [] (fun fl => .pure (.done (.ret (match fl with | .ret v => v | _ => .none))))
        (fun e => (leaving (envOfC qual (defScope st) s.heap.objs.size f cdv) e).wrap (fun _ => .raise e) .raise id id) id id [] gp0 rfl ⟨fun A => over_func, rfl, rfl, rfl⟩ ?_
      · rw [List.append_nil] at zz
        exact zz
      · intro a s2 m
        exact segx_end (.ok (.ret .none)) ⟨rfl, .inl rfl, [], gp0, ρ', m⟩
    · exact Nat.ne_of_gt lt1
    · rcases List.mem_cons.mp hp with rfl | hp
      · rw [hgd0] at e
        cases e
      · rw [List.mem_singleton.mp hp] at e
        have e : oL.data = _ := e
        rw [hdL] at e
        cases e
    · rcases List.mem_cons.mp hp with rfl | hp
      · exact ⟨hpushed, Nat.le_of_lt lt1⟩
      · rw [List.mem_singleton.mp hp]
        exact ⟨Heap.get?_push_of_some _ hoL, Nat.le_refl _⟩
    · rw [List.mem_singleton.mp hp]
      exact Array.getElem?_push_size ..
    · exact AllBare.push (by rw [gen1]; exact e0.bare) rfl
  exact main _ _ _ _ rfl rfl rfl fun h => Heap.get?_push_size _ rfl
section
variable {G : Gx} {k : Nat} {X : Cx} {pins : List (Addr × Obj)} {σ : L2.St} {H : Hp} {s : Shared} {ι : Ix} {T : Sto} {outs : List D} {a : Addr} {g : Nat} {fp : List (Addr × Obj)} {gk : List (Nat × GenState)} {OL : Nat → Prop}
theorem Slp.cel (h : Slp G k OL outs a g fp gk ι T H) : ∀ p ∈ fp, ∀ v, p.2.data ≠ .cell v := by
  obtain ⟨N, ps, qual, scope, f, L, cdv, gs, ip, gp, ρ, τ, oL, go, h, _⟩ := h
  exact h.cel
theorem Slp.isg (h : Slp G k OL outs a g fp gk ι T H) (hd : Held X pins H s fp gk) : s.heap.IsGen a g := by
  obtain ⟨N, ps, qual, scope, f, L, cdv, gs, ip, gp, ρ, τ, oL, go, h, _⟩ := h
  exact h.isg _ (hd.at_ (a, go) (by rw [h.efp]; exact List.mem_cons_self ..)).1
end
section
variable {G : Gx} {k k' : Nat} {N ps : List Str} {qual : Str} {scope : Scope} {f : Addr} {L : Nat} {cdv : Value}
theorem Slp.weak {OL OL' : Nat → Prop} {outs : List D} {a : Addr} {g : Nat} {fp : List (Addr × Obj)} {gk : List (Nat × GenState)} {ι : Ix} {T : Sto} {H : Hp} (h : Slp G k OL outs a g fp gk ι T H) (w : ∀ L, OL L → OL' L) : Slp G k OL' outs a g fp gk ι T H := by
  obtain ⟨N, ps, qual, scope, f, L, cdv, gs, ip, gp, ρ, τ, oL, go, h, e1, e2⟩ := h
  exact ⟨N, ps, qual, scope, f, L, cdv, gs, ip, gp, ρ, τ, oL, go, ⟨h.sc, h.efp, h.egk, h.isg, h.loc, h.len, h.cont, h.ips, h.aL, h.cel, h.bs, w _ h.old, h.gps⟩, e1, e2⟩
end
theorem Slp.map {G : Gx} {k : Nat} {OL : Nat → Prop} {outs : List D} {a : Addr} {g : Nat} {fp : List (Addr × Obj)} {gk : List (Nat × GenState)} {ι ι1 : Ix} {T T1 : Sto} {H H1 : Hp} (h : Slp G k OL outs a g fp gk ι T H) (x : ∀ v d, Rep G ι (Lv ι T) H v d → Rep G ι1 (Lv ι1 T1) H1 v d) : Slp G k OL outs a g fp gk ι1 T1 H1 := by
  have mp : ∀ {τ : L2.St} {ρ : DL.Env}, REnv G ι T H τ ρ → REnv G ι1 T1 H1 τ ρ := fun {τ ρ} e => ⟨e.len, fun i d q => by
    obtain ⟨v, h1, h2⟩ := e.at_ i d q
    exact ⟨v, h1, x _ _ h2⟩⟩
  obtain ⟨N, ps, qual, scope, f, L, cdv, gs, ip, gp, ρ, τ, oL, go, h, e1, e2⟩ := h
  exact ⟨N, ps, qual, scope, f, L, cdv, gs, ip, gp, ρ, τ, oL, go, h, mp e1, mp e2⟩
end DG
namespace DL
open PySem PySem.Spec PyProof.Rows L2
def SqVs (K : PySem.W.Frag) (H : Hp) : List Addr → List (List V) → Prop
  | [], [] => True
  | a :: as, r :: vr => SqT K H a r ∧ SqVs K H as vr
  | _, _ => False
theorem SqVs.len {K : PySem.W.Frag} {H : Hp} : ∀ {as : List Addr} {vr : List (List V)}, SqVs K H as vr → as.length = vr.length
  | [], [], _ => rfl
  | a :: as, r :: vr, h => by rw [List.length_cons, List.length_cons, h.2.len]
  | [], _ :: _, h => h.elim
  | _ :: _, [], h => h.elim
def Col : List (List V) → Nat → List V → Prop
  | [], _, [] => True
  | r :: vr, i, x :: col => r[i]? = some x ∧ Col vr i col
  | _, _, _ => False
theorem Col.inj {i : Nat} : ∀ {vr : List (List V)} {c d : List V}, Col vr i c → Col vr i d → c = d
  | [], [], [], _, _ => rfl
  | r :: vr, x :: c, y :: d, h, h' => by
    have e := h.1.symm.trans h'.1
    cases e
    rw [Col.inj h.2 h'.2]
  | [], _ :: _, _, h, _ => h.elim
  | [], [], _ :: _, _, h => h.elim
  | _ :: _, [], _, h, _ => h.elim
  | _ :: _, _ :: _, [], _, h => h.elim
open PySem PySem.Spec PySem.Calls PyProof.Rows L2
theorem Reps.join {G : Gx} {ι : Ix} {L : Addr → Prop} {H : Hp} : ∀ {as bs : List V} {d1 d2 : List D}, Reps G ι L H as d1 → Reps G ι L H bs d2 → Reps G ι L H (as ++ bs) (d1 ++ d2)
  | _, _, _, _, .nil, r => r
  | _, _, _, _, .cons r0 rs, r => .cons r0 (Reps.join rs r)
abbrev Zk (sb : Bool) (h : Heap) (z TI TO : Addr) (f0 : Value) (f1 : Bool) : Prop :=
  h.get? z = some { cls := .type "zip", dict := none, data := .fields #[f0, .bool f1, .bool sb, .ref TI, .ref TO], slots := #[] }
section
variable {prog : Program} {w : World} {A : Around} {E : Value → Shared → Prop} {s : Shared}
def Zst (t1 t2 : Bool) (z TI TO i1 i2 l1 l2 : Addr) (xs ys : Array Value) (k : Nat) (h : Heap) : Prop :=
  ∃ f0 f1 a b, (f0 = Value.none ∨ ∃ T : Nat, f0 = rawInt T) ∧ Zk true h z TI TO f0 f1 ∧ IsPair h TI (.ref i1) (.ref i2) ∧ IsPair h TO a b ∧ ItAt t1 h i1 l1 k ∧ ItAt t2 h i2 l2 k ∧ SqAt t1 h l1 xs ∧ SqAt t2 h l2 ys
theorem Zst.frame {t1 t2 : Bool} {z TI TO i1 i2 l1 l2 : Addr} {xs ys : Array Value} {k : Nat} {h h' : Heap} (x : Zst t1 t2 z TI TO i1 i2 l1 l2 xs ys k h) (q : ∀ b ∈ [z, TI, TO, i1, i2, l1, l2], ∀ o, h.get? b = some o → h'.get? b = some o) : Zst t1 t2 z TI TO i1 i2 l1 l2 xs ys k h' := by
  obtain ⟨f0, f1, a, b, h0, hz, hTI, hTO, h1, h2, hl1, hl2⟩ := x
  exact ⟨f0, f1, a, b, h0, q z (by simp) _ hz, q TI (by simp) _ hTI, q TO (by simp) _ hTO, h1.at fun o e => q i1 (by simp) o e, h2.at fun o e => q i2 (by simp) o e, hl1.at fun o e => q l1 (by simp) o e, hl2.at fun o e => q l2 (by simp) o e⟩
structure Prs (B : Nat) (xs ys : Array Value) (Ts : List Addr) (h : Heap) : Prop where
  ge : ∀ T ∈ Ts, B ≤ T
  inc : Ts.Pairwise (· < ·)
  at_ : ∀ (j : Nat) (T : Addr), Ts[j]? = some T → ∃ x y, xs[j]? = some x ∧ ys[j]? = some y ∧ IsPair h T x y
theorem Prs.lt {B : Nat} {xs ys : Array Value} {Ts : List Addr} {h : Heap} (p : Prs B xs ys Ts h) : ∀ T ∈ Ts, T < h.objs.size := fun T hT => by
  obtain ⟨j, hj⟩ := List.mem_iff_getElem?.mp hT
  obtain ⟨x, y, _, _, e⟩ := p.at_ j T hj
  exact Heap.lt_size e
theorem Prs.frame {B : Nat} {xs ys : Array Value} {Ts : List Addr} {h h' : Heap} (p : Prs B xs ys Ts h) (q : ∀ b o, B ≤ b → h.get? b = some o → h'.get? b = some o) : Prs B xs ys Ts h' :=
  ⟨p.ge, p.inc, fun j T hj => by
    obtain ⟨x, y, e1, e2, e3⟩ := p.at_ j T hj
    exact ⟨x, y, e1, e2, q _ _ (p.ge T (List.mem_of_getElem? hj)) e3⟩⟩
theorem Prs.push {B : Nat} {xs ys : Array Value} {Ts : List Addr} {h : Heap} {T : Addr} {x y : Value} (p : Prs B xs ys Ts h) (hB : B ≤ T) (hT : ∀ U ∈ Ts, U < T) (e1 : xs[Ts.length]? = some x) (e2 : ys[Ts.length]? = some y) (e3 : IsPair h T x y) : Prs B xs ys (Ts ++ [T]) h := by
  refine ⟨fun U hU => ?_, List.pairwise_append.mpr ⟨p.inc, List.pairwise_singleton _ _, fun U hU V hV => ?_⟩, fun j U hj => ?_⟩
  · rcases List.mem_append.mp hU with hU | hU
    · exact p.ge U hU
    · rw [List.mem_singleton.mp hU]
      exact hB
  · rw [List.mem_singleton.mp hV]
    exact hT U hU
  · by_cases hl : j < Ts.length
    · rw [List.getElem?_append_left hl] at hj
      exact p.at_ j U hj
    · have hj2 := (List.getElem?_eq_some_iff.mp hj).1
      rw [List.length_append, List.length_singleton] at hj2
      have : j = Ts.length := by omega
      subst this
      rw [List.getElem?_append_right (Nat.le_refl _), Nat.sub_self] at hj
      cases hj
      exact ⟨x, y, e1, e2, e3⟩
end
inductive Lays : Hp → List (V × V) → Hp → List Addr → Prop
  | nil {H : Hp} : Lays H [] H []
  | cons {H H2 : Hp} {T : Addr} {x y : V} {ps : List (V × V)} {Ts : List Addr} : H T = none → Lays (upd H T (.tup [x, y])) ps H2 Ts → Lays H ((x, y) :: ps) H2 (T :: Ts)
theorem Lays.len {H H2 : Hp} {ps : List (V × V)} {Ts : List Addr} (l : Lays H ps H2 Ts) : Ts.length = ps.length := by
  induction l with
  | nil => rfl
  | cons _ _ ih => rw [List.length_cons, List.length_cons, ih]
theorem Lays.fresh {H H2 : Hp} {ps : List (V × V)} {Ts : List Addr} (l : Lays H ps H2 Ts) : ∀ T ∈ Ts, H T = none := by
  induction l with
  | nil => intro T h; cases h
  | @cons H _ T x y _ Ts h0 _ ih =>
    intro U hU
    rcases List.mem_cons.mp hU with rfl | hU
    · exact h0
    · have := ih U hU
      by_cases e : U = T
      · rw [e, upd_same] at this
        cases this
      · rw [upd_ne e] at this
        exact this
theorem Lays.old {H H2 : Hp} {ps : List (V × V)} {Ts : List Addr} (l : Lays H ps H2 Ts) : ∀ b, b ∉ Ts → H2 b = H b := by
  induction l with
  | nil => intro b _; rfl
  | cons h0 _ ih =>
    intro b hb
    rw [List.mem_cons, not_or] at hb
    rw [ih b hb.2, upd_ne hb.1]
theorem Lays.new {H H2 : Hp} {ps : List (V × V)} {Ts : List Addr} (l : Lays H ps H2 Ts) : ∀ (j : Nat) (T : Addr), Ts[j]? = some T → ∃ x y, ps[j]? = some (x, y) ∧ H2 T = some (.tup [x, y]) := by
  induction l with
  | nil => intro j T h; cases h
  | @cons H H2 T x y ps Ts h0 l ih =>
    intro j U hU
    cases j with
    | zero =>
      cases hU
      refine ⟨x, y, rfl, ?_⟩
      have hn : T ∉ Ts := fun z => by
        have := l.fresh T z
        rw [upd_same] at this
        cases this
      rw [l.old T hn, upd_same]
    | succ j => exact ih j U hU
theorem Lays.make {H : Hp} : ∀ (ps : List (V × V)) (Ts : List Addr), ps.length = Ts.length → Ts.Pairwise (· < ·) → (∀ T ∈ Ts, H T = none) → ∃ H2, Lays H ps H2 Ts
  | [], [], _, _, _ => ⟨H, .nil⟩
  | [], _ :: _, h, _, _ => by cases h
  | _ :: _, [], h, _, _ => by cases h
  | (x, y) :: ps, T :: Ts, h, hp, hf => by
    have hp2 := List.pairwise_cons.mp hp
    obtain ⟨H2, l⟩ := Lays.make (H := upd H T (.tup [x, y])) ps Ts (by simpa using h) hp2.2 fun U hU => by
      rw [upd_ne (Nat.ne_of_gt (hp2.1 U hU))]
      exact hf U (List.mem_cons_of_mem _ hU)
    exact ⟨H2, .cons (hf T List.mem_cons_self) l⟩
inductive CapPs : List Pattern → List Str → Prop
  | nil : CapPs [] []
  | cons {ps : List Pattern} {ns : List Str} {n : Str} {pos : Pos} : CapPs ps ns → CapPs (.MatchAs none (some n) pos :: ps) (n :: ns)
theorem CapPs.len {ps : List Pattern} {ns : List Str} (h : CapPs ps ns) : ps.length = ns.length := by
  induction h with
  | nil => rfl
  | cons _ ih => rw [List.length_cons, List.length_cons, ih]
structure PM (X : Cx) (cs : List MatchCase) (t : V → TS) : Prop where
  run : ∀ (pins : List (Addr × Obj)) (s : Shared) (σ : L2.St) (H : Hp) (v : V) (u : Value) (D : Ends) (first : Bool), Inv X pins σ H s → RelV v u → t v D σ H → wpAny (model X.prog X.w) X.A (matchCases cs X.env u first) (SP X pins D) X.xe s
end DL
namespace L2
open PySem PySem.Spec PyProof.Rows
end L2
namespace DL
open PySem PySem.Spec PyProof.Rows L2
section
variable {X : Cx} {pins : List (Addr × Obj)} {σ : L2.St} {H : Hp} {s : Shared}
theorem DqAll.length {K : PySem.W.Frag} : ∀ {vs : List V} {ps : List PyData}, DqAll K H vs ps → vs.length = ps.length
  | _, _, .nil => rfl
  | _, _, .cons _ t => by rw [List.length_cons, List.length_cons, DqAll.length t]
end
section
variable {I : Type} {Xs : I → Cx} {G : Gx} {E : WK} {kk k : Nat}
theorem dv (i : Nat) {x : Str} {pos : Pos} (hN : ∀ j, (Xs j).N[i]? = some x := by exact fun _ => rfl) (hv : ∀ j, Vis (Xs j).env.scope x := by first | exact fun _ => .inl rfl | exact fun _ => .inr (.inl rfl)) (hd : (x == ("__debug__" : Str)) = false := by decide) (hcd : (x == ("__classdict__" : Str)) = false := by decide) : DE Xs G E (.Name x pos) (c_var i) := de_var hN hv hd hcd
theorem dc {e : Expr} {es : List Expr} {a : ECode} {r : ACode} (ha : DE Xs G E e a) (hr : DA Xs G E es r) (hs : ∀ j, starEach (e :: es) (Xs j).env = (false, eval e (Xs j).env) :: starEach es (Xs j).env := by exact fun _ => rfl) : DA Xs G E (e :: es) (c_cons a r) := da_cons ha hr hs
theorem dcp (F : Fam Xs G E kk) {f : Addr} {m : List D → Sto → Res D} (Fn : FnP G k f m) {x : Str} {p pos : Pos} {e : Expr} {es : List Expr} {a : ACode} (ha : DA Xs G E (e :: es) a) (hm : G.mg x = some (.ref f)) (hkp : PySem.W.keepIn G.K (.ref f) = true) (hk : k ≤ kk := by decide) (hg : ∀ j, Gl (Xs j) x := by exact fun _ => rfl)
    (hdb : (x == ("__debug__" : Str)) = false := by decide) (he : ∀ j, starEach (e :: es) (Xs j).env = (false, eval e (Xs j).env) :: starEach es (Xs j).env := by exact fun _ => rfl) (hpl : ∀ j, (backTo pos (starEach es (Xs j).env)).any (·.1) = false := by exact fun _ => rfl) :
    DE Xs G E (.Call (.Name x p) (e :: es) [] pos) (c_cb m a) := de_callP F Fn hk ha hg hm hkp hdb he hpl
theorem dn (F : FamH Xs G E) (i : Nat) {x : Str} {pos : Pos} (hi : ∀ j, (Xs j).N[i]? = some x := by exact fun _ => rfl) (hx : ∀ j, Loc (Xs j).env.scope x := by first | exact fun _ => .inl rfl | exact fun _ => .inr rfl) (hf : ∀ j, (Xs j).fn x = true ∨ (Xs j).env.scope.names.lookup x = some .local := by first | exact fun _ => .inr rfl | exact fun _ => .inl rfl) : DG Xs G (.Name x pos) [i] (g_name i) := dg_name F hi hx hf
end
open PySem PySem.Spec PySem.Calls PyProof.Rows L2 PySem.W
section
variable {fa : PySem.W.Frag → List Bool} {fn : List HdF} {ts : List TabX} {w : World} {K : PySem.W.Frag}
theorem SaysY.x (c : SaysY fa fn ts w K) : SaysX fa fn K := congrArg (fun z : AlY => z.1) c
end
section
variable {G : Gx} {ι ι1 : Ix} {S S1 : Sto} {H H1 : Hp} {N : Nat} {a : Addr} {c : Cell} {u : HO} {od : Obj}
structure Back (G : Gx) (ι : Ix) (S : Sto) (H : Hp) (ι1 : Ix) (S1 : Sto) (H1 : Hp) (N : Nat) (a : Addr) (c : Cell) (u : HO) (od : Obj) : Prop where
  frz : H1 a = some (.frz od u)
  ext : Ext ι S H ι1 (S1.set N (some c)) (upd H1 a u)
  rel : Rel G ι1 (S1.set N (some c)) (upd H1 a u)
  rep : ∀ {v d}, Rep G ι1 (Lv ι1 S1) H1 v d → Rep G ι1 (Lv ι1 (S1.set N (some c))) (upd H1 a u) v d
theorem Back.env {σ : L2.St} {ρ : Env} (b : Back G ι S H ι1 S1 H1 N a c u od) (e : REnv G ι1 S1 H1 σ ρ) : REnv G ι1 (S1.set N (some c)) (upd H1 a u) σ ρ :=
  ⟨e.len, fun i d h => by obtain ⟨v, h1, h2⟩ := e.at_ i d h; exact ⟨v, h1, b.rep h2⟩⟩
end
section
variable {I : Type} {Xs : I → Cx} {G : Gx} {E : WK} {kk k : Nat}
def c_cvalI (c : Nat) (d : D) (o : ECode) : ECode := fun ρ S => (o ρ S).bind fun x S1 => if clsOf x S1 = some c then .ok d S1 else .stuck
theorem de_cvalI (F : FamH Xs G E) {c : Nat} {nm : Str} {v : V} {u : Value} {d : D} {o : Expr} {pos : Pos} {co : ECode} (hc : Cls G.K (G.cls c)) (hk : Con G.K (G.cls c) nm v u) (hn : (G.fns c).contains nm = false) (hd : ∀ ι L H, Rep G ι L H v d)
    (hab : ∀ j, attributeBase o nm (Xs j).env (eval o (Xs j).env) = eval o (Xs j).env) (ho : DE Xs G E o co) : DE Xs G E (.Attribute o nm pos) (c_cvalI c d co) := by
  obtain ⟨t, pa, sa⟩ := ho
  refine ⟨tCon G.K t nm, fun j => by have z := pe_con (pos := pos) (pa j) (hab j); rw [F.K j] at z; exact z, fun ι S H σ ρ Q R e q => ?_⟩
  refine sa.go R e q fun x S1 ι1 H1 w x1 R1 e1 r1 q1 => ?_
  by_cases h : clsOf x S1 = some c
  · rw [if_pos h] at q1
    obtain ⟨a, dx, nfs, fs, rfl, h2, h3, h4, h5⟩ := cls_at R1 r1 h
    exact ⟨a, _, dx, nfs, v, u, rfl, h2, hc, hk, lookup_out h3 hn, Post.here R1 q1 _ (hd _ _ _)⟩
  · rw [if_neg h] at q1
    exact q1.elim
theorem con_int {K : PySem.W.Frag} {C : Addr} {f : Str} {n : Int} {t : Tok} (h : PySem.W.findIn K (.ref C) f = some (some (.int n t))) (hg : PySem.W.specialIn K (.int n t) "__get__" = some none) (hc : PySem.W.copiedNames.contains f = false) : Con K C f (.int n) (.int n t) := ⟨h, ⟨t, rfl⟩, hg, hc⟩
theorem get_int {K : PySem.W.Frag} {n : Int} {t : Tok} : PySem.W.specialIn K (.int n t) "__get__" = some none := by
  first
    | rfl
    | (unfold PySem.W.specialIn; rfl)
    | (unfold PySem.W.specialIn PySem.W.typeIn; rfl)
end
section
variable {I : Type} {Xs : I → Cx} {G : Gx} {E : WK} {kk k : Nat}
structure IsiA (K : PySem.W.Frag) (C : Addr) : Prop where
  ic : IsiC K C
  ty : PySem.W.typeIn K (.ref C) = some (.type "type")
def isTyV : Value → Bool
  | .type _ => true
  | _ => false
theorem tys_mro : ∀ T ∈ tys, ((fastBuiltinMro T).elim false fun l => l.all isTyV) = true := by decide +kernel
theorem no_ref {l : List Value} (h : l.all isTyV = true) (C : Addr) : l.contains (.ref C) = false := by
  induction l with
  | nil => rfl
  | cons v l ih =>
    rw [List.all_cons, Bool.and_eq_true] at h
    rw [List.contains_cons, ih h.2, Bool.or_false]
    have hv : ((Value.ref C) == v) = false := Bool.eq_false_iff.mpr fun z => by
      have e : Value.ref C = v := beq_iff_eq.mp z
      rw [← e] at h
      exact absurd h.1 (by simp [isTyV])
    exact hv
theorem kit_tyC {K : PySem.W.Frag} {C : Addr} {T : String} (hd : PySem.W.hasDictIn K C = true) (ht : PySem.W.typeIn K (.ref C) = some (.type "type")) (hT : T ∈ tys) : PySem.W.kitOne K (.type T) (.ref C) = some false := by
  obtain ⟨cd, hc, _⟩ := PySem.W.any_some hd
  have e2 : ((PySem.W.clsIn K C).isSome && PySem.W.typeIn K (.ref C) == some (.type "type")) = true := by rw [hc, ht] <;> rfl
  unfold PySem.W.kitOne
  have hn : ((Value.type T) == (Value.ref C)) = false := Bool.eq_false_iff.mpr fun q => by
    have e : Value.type T = Value.ref C := beq_iff_eq.mp q
    cases e
  rw [hn, if_neg Bool.false_ne_true]
  show (if ((PySem.W.clsIn K C).isSome && PySem.W.typeIn K (.ref C) == some (.type "type")) = true then PySem.W.subIn K (.type T) (.ref C) else none) = some false
  rw [if_pos e2]
  have h := tys_mro T hT
  show (fastBuiltinMro T).map (·.contains (.ref C)) = some false
  cases hl : fastBuiltinMro T with
  | none => rw [hl] at h; cases h
  | some l =>
    rw [hl] at h
    show some (l.contains (.ref C)) = some false
    rw [no_ref h]
def p_isiA (c : Nat) (C : Addr) (ds : List D) (S : Sto) : Res D := match ds with
  | [d, .con a] => if isCon C (.con a) = true then (if clsOf d S = some c then .ok (.bl true) S else match tyD d S with
    | some _ => .ok (.bl false) S
    | none => .stuck) else .stuck
  | _ => .stuck
theorem snd_isiA {c : Nat} (hc : Cls G.K (G.cls c)) (ha : IsiA G.K (G.cls c)) : SndC G (rIsi G.K) (p_isiA c (G.cls c)) := fun E ι S H xs ds Q R r q => by
  unfold p_isiA at q
  split at q
  · rename_i d a
    by_cases h1 : isCon (G.cls c) (.con a) = true
    · rw [if_pos h1] at q
      have e : a = G.cls c := by
        have := isCon_eq h1
        injection this
      subst e
      obtain ⟨v, w, rfl, r1, r3⟩ := r.two
      by_cases h2 : clsOf d S = some c
      · rw [if_pos h2] at q
        obtain ⟨b, dx, nfs, fs, rfl, h2, h3, h4, h5⟩ := cls_at R r1 h2
        exact ⟨_, _, _, _, true, by rw [r3.con_of], .own _, .base (.ins h2 hc ha.ic.ha ha.ic.hn ha.ic.ht ha.ic.hm), kit_self, Post.here R q _ (.bl _)⟩
      · rw [if_neg h2] at q
        split at q
        · rename_i T hT
          exact ⟨_, _, _, _, false, by rw [r3.con_of], .own _, tyD_at R r1 hT, kit_tyC hc.hd ha.ty (tyD_mem hT), Post.here R q _ (.bl _)⟩
        · exact q.elim
    · rw [if_neg h1] at q; exact q.elim
  · exact q.elim
theorem isC {C : Addr} : isCon C (.con C) = true := by simp [isCon]
theorem isiA_obj {C : Addr} {c : Nat} {fs : List D} {S : Sto} : p_isiA c C [.obj c fs, .con C] S = .ok (.bl true) S := by
  show (if isCon C (.con C) = true then (if clsOf (.obj c fs) S = some c then _ else _) else _) = _
  rw [if_pos isC, if_pos (by rfl)]
theorem isiA_ty {C : Addr} {c : Nat} {d : D} {S : Sto} {T : String} (h : tyD d S = some T) (h2 : clsOf d S = none) : p_isiA c C [d, .con C] S = .ok (.bl false) S := by
  show (if isCon C (.con C) = true then (if clsOf d S = some c then _ else match tyD d S with
    | some _ => Res.ok (D.bl false) S
    | none => .stuck) else _) = _
  rw [if_pos isC, if_neg (by rw [h2]; exact fun z => by cases z), h]
end
end DL
namespace K02
open PySem PySem.Spec PyProof.Rows L2 DL
def tabm_BadScheme : Nat → Option Bool := fun n => ([some true] : List (Option Bool)).getD n none
def tabs_BadAmount_BadText_UnknownAccount_NoInverse : Nat → Option Bool := fun n => ([some false] : List (Option Bool)).getD n none
def tab_CrossError : Nat → Option Bool := fun n => ([some true] : List (Option Bool)).getD n none
def k_BASES : D := (.wtp [.int 2, .int 3, .int 5, .int 7])
def k_LEAST_ACCOUNTS : D := (.int 2)
noncomputable def c__law_deck (G : Gx) : SCode :=
  (c_seq (c_set 1 (c_cb (p_list false) (c_cons (c_sl false (c_var 0) c_no (c_part (c_d (.int 63)))) c_nil)))
  (c_seq (c_set 2 (c_op (p_add false) (c_d (.int 211)) (c_cb p_len (c_cons (c_var 1) c_nil))))
  (c_seq (c_for (c_it (c_var 1)) (g_name 3) (c_set 2 (c_op p_mod (c_op (p_add false) (c_op (p_add false) (c_op (p_mul false) (c_var 2) (c_d (.int 48271))) (c_op p_mod (c_var 3) (c_d (.int 2147483587)))) (c_d (.int 31))) (c_d (.int 2147483629)))))
  (c_ret (c_dispK true (c_ps (c_d (.str "items")) (c_rev true (c_var 1)) (c_ps (c_d (.str "seed")) (c_var 2) (c_ps (c_d (.str "draws")) (c_d (.int 0)) c_ps0))))))))
noncomputable def m__law_deck (G : Gx) : List D → Sto → Res D := fnR 4 (c__law_deck G)
noncomputable def mp__law_deck (G : Gx) : List D → Sto → Res D := argsN 1 (m__law_deck G)
noncomputable def c_is_between (G : Gx) : SCode :=
  (c_ret (c_andV (c_cb p_isi (c_cons (c_var 0) (c_cons (c_d (.ty "int")) c_nil))) (c_andV (c_notV (c_cb p_isi (c_cons (c_var 0) (c_cons (c_d (.ty "bool")) c_nil)))) (c_chain p_le p_le (c_var 1) (c_var 0) (c_var 2)))))
noncomputable def m_is_between (G : Gx) : List D → Sto → Res D := fnR 3 (c_is_between G)
noncomputable def mp_is_between (G : Gx) : List D → Sto → Res D := argsN 3 (m_is_between G)
noncomputable def c_reduced_modulo (G : Gx) : SCode :=
  (c_seq (c_set 2 (c_op p_mod (c_var 0) (c_var 1)))
  (c_ret (c_if (c_test (c_op p_gt (c_op (p_mul false) (c_d (.int 2)) (c_var 2)) (c_var 1))) (c_op p_sub (c_var 2) (c_var 1)) (c_var 2))))
noncomputable def m_reduced_modulo (G : Gx) : List D → Sto → Res D := fnR 3 (c_reduced_modulo G)
noncomputable def mp_reduced_modulo (G : Gx) : List D → Sto → Res D := argsN 2 (m_reduced_modulo G)
noncomputable def c_power_of (G : Gx) : SCode :=
  (c_seq (c_par3 3 4 5 (c_d (.int 1)) (c_op p_mod (c_var 0) (c_var 2)) (c_var 1))
  (c_seq (c_while (c_test (c_op p_gt (c_var 5) (c_d (.int 0)))) (c_seq (c_ifS (c_test (c_op (p_eq false) (c_op p_mod (c_var 5) (c_d (.int 2))) (c_d (.int 1)))) (c_set 3 (c_op p_mod (c_op (p_mul false) (c_var 3) (c_var 4)) (c_var 2))) c_nx)
  (c_seq (c_set 4 (c_op p_mod (c_op (p_mul false) (c_var 4) (c_var 4)) (c_var 2)))
  (c_aug 5 p_fdiv (c_d (.int 2))))))
  (c_ret (c_cb (mp_reduced_modulo G) (c_cons (c_var 3) (c_cons (c_var 2) c_nil))))))
noncomputable def m_power_of (G : Gx) : List D → Sto → Res D := fnR 6 (c_power_of G)
noncomputable def mp_power_of (G : Gx) : List D → Sto → Res D := argsN 3 (m_power_of G)
noncomputable def c_is_probable (G : Gx) : SCode :=
  (c_seq (c_par 2 3 (c_op p_sub (c_var 0) (c_d (.int 1))) (c_d (.int 0)))
  (c_seq (c_while (c_test (c_op (p_eq false) (c_op p_mod (c_var 2) (c_d (.int 2))) (c_d (.int 0)))) (c_par 2 3 (c_op p_fdiv (c_var 2) (c_d (.int 2))) (c_op (p_add false) (c_var 3) (c_d (.int 1)))))
  (c_seq (c_set 4 (c_cb (mp_power_of G) (c_cons (c_var 1) (c_cons (c_var 2) (c_cons (c_var 0) c_nil)))))
  (c_seq (c_ifS (c_test (c_op (p_in false) (c_var 4) (c_tup (c_cons (c_d (.int 1)) (c_cons (c_un p_neg (c_d (.int 1))) c_nil))))) (c_ret (c_d (.bl true))) c_nx)
  (c_seq (c_for (c_rng1 (c_cons (c_op p_sub (c_var 3) (c_d (.int 1))) c_nil)) (g_name 5) (c_seq (c_set 4 (c_cb (mp_reduced_modulo G) (c_cons (c_op (p_mul false) (c_var 4) (c_var 4)) (c_cons (c_var 0) c_nil))))
  (c_ifS (c_test (c_op (p_eq false) (c_var 4) (c_un p_neg (c_d (.int 1))))) (c_ret (c_d (.bl true))) c_nx)))
  (c_ret (c_d (.bl false))))))))
noncomputable def m_is_probable (G : Gx) : List D → Sto → Res D := fnR 6 (c_is_probable G)
noncomputable def mp_is_probable (G : Gx) : List D → Sto → Res D := argsN 2 (m_is_probable G)
noncomputable def c_is_odd_prime (G : Gx) : SCode :=
  (c_seq (c_for (c_it (c_d k_BASES)) (g_name 1) (c_ifS (c_test (c_op (p_eq false) (c_op p_mod (c_var 0) (c_var 1)) (c_d (.int 0)))) (c_ret (c_op (p_eq false) (c_var 0) (c_var 1))) c_nx))
  (c_ret (c_cb p_all (c_cons (c_lc (c_it (c_d k_BASES)) (g_name 1) c_yes (c_cb (mp_is_probable G) (c_cons (c_var 0) (c_cons (c_var 1) c_nil))) [1]) c_nil))))
noncomputable def m_is_odd_prime (G : Gx) : List D → Sto → Res D := fnR 2 (c_is_odd_prime G)
noncomputable def mp_is_odd_prime (G : Gx) : List D → Sto → Res D := argsN 1 (m_is_odd_prime G)
noncomputable def c_Scheme_is_prime (G : Gx) : SCode :=
  (c_ret (c_andV (c_cb (mp_is_between G) (c_cons (c_var 0) (c_cons (c_d (.int 3)) (c_cons (c_cval (G.cls 0) (.int 1000000000) (c_d (.con (G.cls 0)))) c_nil)))) (c_cb (mp_is_odd_prime G) (c_cons (c_var 0) c_nil))))
noncomputable def m_Scheme_is_prime (G : Gx) : List D → Sto → Res D := fnR 1 (c_Scheme_is_prime G)
noncomputable def mp_Scheme_is_prime (G : Gx) : List D → Sto → Res D := argsN 1 (m_Scheme_is_prime G)
noncomputable def c_Scheme__init_ (G : Gx) : SCode :=
  (c_seq (c_ifS (c_not (c_test (c_smeth (G.cls 0) (mp_Scheme_is_prime G) (c_d (.con (G.cls 0))) (c_cons (c_var 1) c_nil)))) (c_raise 0 (c_var 1)) c_nx)
  (c_seq (c_ifS (c_or (c_not (c_test (c_cb (mp_is_between G) (c_cons (c_var 2) (c_cons (c_d k_LEAST_ACCOUNTS) (c_cons (c_cval (G.cls 0) (.int 24) (c_d (.con (G.cls 0)))) c_nil)))))) (c_test (c_op p_ge (c_op (p_mul false) (c_var 2) (c_var 2)) (c_var 1)))) (c_raise 0 (c_var 2)) c_nx)
  (c_seq (c_ifS (c_not (c_test (c_cb (mp_is_between G) (c_cons (c_var 3) (c_cons (c_d (.int 1)) (c_cons (c_cval (G.cls 0) (.int 24) (c_d (.con (G.cls 0)))) c_nil)))))) (c_raise 0 (c_var 3)) c_nx)
  (c_seq (c_fldS 0 0 (c_var 0) (c_var 1))
  (c_seq (c_fldS 0 1 (c_var 0) (c_var 2))
  (c_fldS 0 2 (c_var 0) (c_var 3)))))))
noncomputable def m_Scheme__init_ (G : Gx) : List D → Sto → Res D := fnR 4 (c_Scheme__init_ G)
noncomputable def mp_Scheme__init_ (G : Gx) : List D → Sto → Res D := argsN 4 (m_Scheme__init_ G)
noncomputable def c__law_is_prime (G : Gx) : SCode :=
  (c_seq (c_ifS (c_or (c_not (c_test (c_cb p_isi (c_cons (c_var 0) (c_cons (c_d (.ty "int")) c_nil))))) (c_or (c_test (c_cb p_isi (c_cons (c_var 0) (c_cons (c_d (.ty "bool")) c_nil)))) (c_or (c_not (c_test (c_chain p_le p_le (c_d (.int 3)) (c_var 0) (c_op p_pow (c_d (.int 10)) (c_d (.int 9)))))) (c_test (c_op (p_eq false) (c_op p_mod (c_var 0) (c_d (.int 2))) (c_d (.int 0))))))) (c_ret (c_d (.bl false))) c_nx)
  (c_seq (c_set 1 (c_d (.int 3)))
  (c_seq (c_while (c_test (c_op p_le (c_op (p_mul false) (c_var 1) (c_var 1)) (c_var 0))) (c_seq (c_ifS (c_test (c_op (p_eq false) (c_op p_mod (c_var 0) (c_var 1)) (c_d (.int 0)))) (c_ret (c_d (.bl false))) c_nx)
  (c_set 1 (c_op (p_add false) (c_var 1) (c_d (.int 2))))))
  (c_ret (c_d (.bl true))))))
noncomputable def m__law_is_prime (G : Gx) : List D → Sto → Res D := fnR 2 (c__law_is_prime G)
noncomputable def mp__law_is_prime (G : Gx) : List D → Sto → Res D := argsN 1 (m__law_is_prime G)
noncomputable def c__law_prime_from (G : Gx) : SCode :=
  (c_seq (c_while (c_not (c_test (c_cb (mp__law_is_prime G) (c_cons (c_var 0) c_nil)))) (c_set 0 (c_op (p_add false) (c_var 0) (c_d (.int 1)))))
  (c_ret (c_var 0)))
noncomputable def m__law_prime_from (G : Gx) : List D → Sto → Res D := fnR 1 (c__law_prime_from G)
noncomputable def mp__law_prime_from (G : Gx) : List D → Sto → Res D := argsN 1 (m__law_prime_from G)
noncomputable def c__law_draw (G : Gx) : SCode :=
  (c_seq (c_setI (c_var 0) (c_d (.str "draws")) (c_op (p_add false) (c_op p_ix (c_var 0) (c_d (.str "draws"))) (c_d (.int 1))))
  (c_seq (c_par 2 3 (c_op p_ix (c_var 0) (c_d (.str "draws"))) (c_op p_ix (c_var 0) (c_d (.str "seed"))))
  (c_seq (c_ifS (c_test (c_op (p_eq true) (c_op p_ix (c_var 0) (c_d (.str "items"))) (c_lst false c_nil))) (c_seq (c_set 3 (c_meth isL p_pop (c_op p_ix (c_var 0) (c_d (.str "items"))) c_nil))
  (c_seq (c_ifS (c_test (c_op p_ge (c_var 3) (c_op p_pow (c_d (.int 10)) (c_d (.int 18))))) (c_seq (c_expr (c_meth isL p_append (c_op p_ix (c_var 0) (c_d (.str "items"))) (c_cons (c_op p_fdiv (c_var 3) (c_var 1)) c_nil)))
  (c_ret (c_op p_mod (c_var 3) (c_var 1)))) c_nx)
  (c_set 3 (c_op (p_add false) (c_var 3) (c_op p_ix (c_var 0) (c_d (.str "seed"))))))) c_nx)
  (c_seq (c_set 4 (c_op p_mod (c_op (p_mul false) (c_op (p_add false) (c_op (p_add false) (c_op p_mod (c_var 3) (c_d (.int 2147483579))) (c_op (p_mul false) (c_op (p_mul false) (c_d (.int 92821)) (c_var 2)) (c_var 2))) (c_d (.int 17))) (c_d (.int 69621))) (c_d (.int 2147483647))))
  (c_seq (c_set 4 (c_op p_mod (c_op (p_add false) (c_op (p_add false) (c_op (p_mul false) (c_var 4) (c_var 4)) (c_op (p_mul false) (c_d (.int 37)) (c_var 2))) (c_d (.int 5))) (c_d (.int 2147483587))))
  (c_ret (c_op p_mod (c_op p_fdiv (c_op p_mod (c_op (p_add false) (c_op (p_mul false) (c_var 4) (c_d (.int 40692))) (c_op p_fdiv (c_var 4) (c_d (.int 13)))) (c_d (.int 2147483563))) (c_d (.int 64))) (c_var 1))))))))
noncomputable def m__law_draw (G : Gx) : List D → Sto → Res D := fnR 5 (c__law_draw G)
noncomputable def mp__law_draw (G : Gx) : List D → Sto → Res D := argsN 2 (m__law_draw G)
noncomputable def c__law_pick (G : Gx) : SCode :=
  (c_ret (c_op p_ix (c_var 1) (c_cb (mp__law_draw G) (c_cons (c_var 0) (c_cons (c_cb p_len (c_cons (c_var 1) c_nil)) c_nil)))))
noncomputable def m__law_pick (G : Gx) : List D → Sto → Res D := fnR 2 (c__law_pick G)
noncomputable def mp__law_pick (G : Gx) : List D → Sto → Res D := argsN 2 (m__law_pick G)
noncomputable def c__law_parts (G : Gx) : SCode :=
  (c_seq (c_par3 1 2 3 (c_op (p_add false) (c_d (.int 2)) (c_cb (mp__law_draw G) (c_cons (c_var 0) (c_cons (c_d (.int 23)) c_nil)))) (c_op (p_add false) (c_d (.int 1)) (c_cb (mp__law_draw G) (c_cons (c_var 0) (c_cons (c_d (.int 24)) c_nil)))) (c_cb (mp__law_draw G) (c_cons (c_var 0) (c_cons (c_d (.int 6)) c_nil))))
  (c_seq (c_set 4 (c_op p_ix (c_lst false (c_cons (c_op (p_add false) (c_op (p_mul false) (c_var 1) (c_var 1)) (c_d (.int 1))) (c_cons (c_op (p_add false) (c_op (p_mul false) (c_var 1) (c_var 1)) (c_d (.int 1))) (c_cons (c_op (p_add false) (c_d (.int 3)) (c_cb (mp__law_draw G) (c_cons (c_var 0) (c_cons (c_d (.int 999)) c_nil)))) (c_cons (c_op (p_add false) (c_d (.int 999999000)) (c_cb (mp__law_draw G) (c_cons (c_var 0) (c_cons (c_d (.int 900)) c_nil)))) (c_cons (c_op (p_mul false) (c_var 1) (c_var 1)) (c_cons (c_op p_pow (c_d (.int 10)) (c_d (.int 6))) c_nil))))))) (c_var 3)))
  (c_seq (c_set 5 (c_cb (mp__law_prime_from G) (c_cons (c_var 4) c_nil)))
  (c_seq (c_set 6 (c_lst false (c_cons (c_d .non) (c_cons (c_d (.bl true)) (c_cons (c_d (.bl false)) (c_cons (c_d (.str "7")) (c_cons (c_d (.str "")) (c_cons (c_tup c_nil) (c_cons (c_tup (c_cons (c_d (.int 7)) c_nil)) (c_cons (c_lst false c_nil) (c_cons (c_lst false (c_cons (c_d (.int 7)) c_nil)) (c_cons (c_dK0 false) (c_cons (c_dispK false (c_ps (c_d (.int 7)) (c_d (.int 7)) c_ps0)) (c_cons (c_d (.int 0)) (c_cons (c_un p_neg (c_d (.int 1))) (c_cons (c_un p_neg (c_d (.int 7))) (c_cons (c_d (.int 1)) (c_cons (c_d (.int 2)) (c_cons (c_d (.int 25)) (c_cons (c_op p_pow (c_d (.int 10)) (c_d (.int 39))) (c_cons (c_op p_pow (c_d (.int 10)) (c_d (.int 9))) c_nil)))))))))))))))))))))
  (c_seq (c_set 6 (c_op (p_add false) (c_var 6) (c_lst false (c_cons (c_op (p_add false) (c_op p_pow (c_d (.int 10)) (c_d (.int 9))) (c_d (.int 7))) (c_cons (c_op (p_mul false) (c_var 1) (c_var 1)) (c_cons (c_op p_sub (c_op (p_mul false) (c_var 1) (c_var 1)) (c_d (.int 1))) (c_cons (c_op p_sub (c_var 5) (c_d (.int 1))) (c_cons (c_op (p_add false) (c_var 5) (c_d (.int 1))) (c_cons (c_op (p_mul false) (c_var 5) (c_var 5)) (c_cons (c_op p_sub (c_d (.int 0)) (c_var 5)) (c_cons (c_d (.int 3)) (c_cons (c_d (.int 4)) (c_cons (c_d (.int 9)) (c_cons (c_d (.int 24)) (c_cons (c_tup (c_cons (c_var 5) (c_cons (c_var 1) (c_cons (c_var 2) c_nil)))) (c_cons (c_op (p_add false) (c_d (.int 999999937)) (c_d (.int 2))) c_nil))))))))))))))))
  (c_seq (c_for (c_rng1 (c_cons (c_d (.int 2)) c_nil)) (g_name 7) (c_seq (c_par 8 9 (c_cb (mp__law_draw G) (c_cons (c_var 0) (c_cons (c_d (.int 6)) c_nil))) (c_cb (mp__law_pick G) (c_cons (c_var 0) (c_cons (c_var 6) c_nil))))
  (c_asg (g_tup 3 (g_cons (g_name 5) (g_cons (g_name 1) (g_cons (g_name 2) g_nil)))) (c_if (c_test (c_op p_gt (c_var 8) (c_d (.int 2)))) (c_op p_ix (c_lst false (c_cons (c_tup (c_cons (c_var 9) (c_cons (c_var 1) (c_cons (c_var 2) c_nil)))) (c_cons (c_tup (c_cons (c_var 5) (c_cons (c_var 9) (c_cons (c_var 2) c_nil)))) (c_cons (c_tup (c_cons (c_var 5) (c_cons (c_var 1) (c_cons (c_var 9) c_nil)))) c_nil)))) (c_op p_mod (c_var 8) (c_d (.int 3)))) (c_tup (c_cons (c_var 5) (c_cons (c_var 1) (c_cons (c_var 2) c_nil))))))))
  (c_ret (c_tup (c_cons (c_var 5) (c_cons (c_var 1) (c_cons (c_var 2) c_nil)))))))))))
noncomputable def m__law_parts (G : Gx) : List D → Sto → Res D := fnR 10 (c__law_parts G)
noncomputable def mp__law_parts (G : Gx) : List D → Sto → Res D := argsN 1 (m__law_parts G)
noncomputable def c__law_is_between (G : Gx) : SCode :=
  (c_ret (c_andV (c_cb p_isi (c_cons (c_var 0) (c_cons (c_d (.ty "int")) c_nil))) (c_andV (c_notV (c_cb p_isi (c_cons (c_var 0) (c_cons (c_d (.ty "bool")) c_nil)))) (c_chain p_le p_le (c_var 1) (c_var 0) (c_var 2)))))
noncomputable def m__law_is_between (G : Gx) : List D → Sto → Res D := fnR 3 (c__law_is_between G)
noncomputable def mp__law_is_between (G : Gx) : List D → Sto → Res D := argsN 3 (m__law_is_between G)
noncomputable def c__law_wrong (G : Gx) : SCode :=
  (c_seq (c_asg (g_tup 3 (g_cons (g_name 1) (g_cons (g_name 2) (g_cons (g_name 3) g_nil)))) (c_var 0))
  (c_seq (c_ifS (c_not (c_test (c_cb (mp__law_is_prime G) (c_cons (c_var 1) c_nil)))) (c_ret (c_d (.int 0))) c_nx)
  (c_seq (c_ifS (c_or (c_not (c_test (c_cb (mp__law_is_between G) (c_cons (c_var 2) (c_cons (c_d (.int 2)) (c_cons (c_d (.int 24)) c_nil)))))) (c_test (c_op p_ge (c_op (p_mul false) (c_var 2) (c_var 2)) (c_var 1)))) (c_ret (c_d (.int 1))) c_nx)
  (c_ret (c_if (c_test (c_cb (mp__law_is_between G) (c_cons (c_var 3) (c_cons (c_d (.int 1)) (c_cons (c_d (.int 24)) c_nil))))) (c_d .non) (c_d (.int 2)))))))
noncomputable def m__law_wrong (G : Gx) : List D → Sto → Res D := fnR 4 (c__law_wrong G)
noncomputable def mp__law_wrong (G : Gx) : List D → Sto → Res D := argsN 1 (m__law_wrong G)
noncomputable def c__law_outcome (G : Gx) : SCode :=
  (c_seq (c_set 2 (c_tup (c_cons (c_d .non) (c_cons (c_d (.str "unexpected")) c_nil))))
  (c_seq (c_try tabm_BadScheme 3 (c_ifS (c_test (c_var 1)) (c_set 2 (c_tup (c_cons (c_makeK false 0 3 (gP D.non [0, 2, 3, 1]) (m_Scheme__init_ G) (c_cons (c_op p_ix (c_var 0) (c_d (.int 2))) (c_cons (c_op p_ix (c_var 0) (c_d (.int 0))) (c_cons (c_op p_ix (c_var 0) (c_d (.int 1))) c_nil)))) (c_cons (c_d .non) c_nil)))) (c_set 2 (c_tup (c_cons (c_cb (p_make false 0 (mp_Scheme__init_ G)) (c_cons (c_op p_ix (c_var 0) (c_d (.int 0))) (c_cons (c_op p_ix (c_var 0) (c_d (.int 1))) (c_cons (c_op p_ix (c_var 0) (c_d (.int 2))) c_nil)))) (c_cons (c_d .non) c_nil))))) (c_ifS (c_and (c_test (c_cb (p_isE (.con (G.exc 5)) tab_CrossError) (c_cons (c_var 3) (c_cons (c_d (.con (G.exc 5))) c_nil)))) (c_not (c_test (c_cb (p_isEs [(.con (G.exc 4)), (.con (G.exc 3)), (.con (G.exc 2)), (.con (G.exc 1))] tabs_BadAmount_BadText_UnknownAccount_NoInverse) (c_cons (c_var 3) (c_cons (c_tup (c_cons (c_d (.con (G.exc 4))) (c_cons (c_d (.con (G.exc 3))) (c_cons (c_d (.con (G.exc 2))) (c_cons (c_d (.con (G.exc 1))) c_nil))))) c_nil)))))) (c_set 2 (c_tup (c_cons (c_d .non) (c_cons (c_cb p_reprY (c_cons (c_xf 0 (c_var 3)) c_nil)) c_nil)))) c_nx))
  (c_ret (c_var 2))))
noncomputable def m__law_outcome (G : Gx) : List D → Sto → Res D := fnR 4 (c__law_outcome G)
noncomputable def mp__law_outcome (G : Gx) : List D → Sto → Res D := argsN 2 (m__law_outcome G)
noncomputable def c_Scheme_shortened (G : Gx) : SCode :=
  (c_ret (c_cb (p_make false 0 (mp_Scheme__init_ G)) (c_cons (c_fld 0 0 (c_var 0)) (c_cons (c_fld 0 1 (c_var 0)) (c_cons (c_var 1) c_nil)))))
noncomputable def m_Scheme_shortened (G : Gx) : List D → Sto → Res D := fnR 2 (c_Scheme_shortened G)
noncomputable def mp_Scheme_shortened (G : Gx) : List D → Sto → Res D := argsN 2 (m_Scheme_shortened G)
noncomputable def c_Scheme_is_same (G : Gx) : SCode :=
  (c_seq (c_ifS (c_not (c_test (c_cb (p_isiA 0 (G.cls 0)) (c_cons (c_var 1) (c_cons (c_d (.con (G.cls 0))) c_nil))))) (c_ret (c_d (.bl false))) c_nx)
  (c_seq (c_set 2 (c_tup (c_cons (c_fld 0 0 (c_var 0)) (c_cons (c_fld 0 1 (c_var 0)) (c_cons (c_fld 0 2 (c_var 0)) c_nil)))))
  (c_ret (c_op (p_eq false) (c_var 2) (c_tup (c_cons (c_fld 0 0 (c_var 1)) (c_cons (c_fld 0 1 (c_var 1)) (c_cons (c_fld 0 2 (c_var 1)) c_nil))))))))
noncomputable def m_Scheme_is_same (G : Gx) : List D → Sto → Res D := fnR 3 (c_Scheme_is_same G)
noncomputable def mp_Scheme_is_same (G : Gx) : List D → Sto → Res D := argsN 2 (m_Scheme_is_same G)
noncomputable def c_Scheme_prime (G : Gx) : SCode :=
  (c_ret (c_fld 0 0 (c_var 0)))
noncomputable def m_Scheme_prime (G : Gx) : List D → Sto → Res D := fnR 1 (c_Scheme_prime G)
noncomputable def c_Scheme_accounts (G : Gx) : SCode :=
  (c_ret (c_fld 0 1 (c_var 0)))
noncomputable def m_Scheme_accounts (G : Gx) : List D → Sto → Res D := fnR 1 (c_Scheme_accounts G)
noncomputable def c_Scheme_length (G : Gx) : SCode :=
  (c_ret (c_fld 0 2 (c_var 0)))
noncomputable def m_Scheme_length (G : Gx) : List D → Sto → Res D := fnR 1 (c_Scheme_length G)
noncomputable def c_Scheme_largest_amount (G : Gx) : SCode :=
  (c_ret (c_op p_fdiv (c_op p_sub (c_fld 0 0 (c_var 0)) (c_d (.int 1))) (c_d (.int 2))))
noncomputable def m_Scheme_largest_amount (G : Gx) : List D → Sto → Res D := fnR 1 (c_Scheme_largest_amount G)
noncomputable def c__law_numbers (G : Gx) : SCode :=
  (c_ret (c_tup (c_cons (c_prop 0 (m_Scheme_prime G) (c_var 0)) (c_cons (c_prop 0 (m_Scheme_accounts G) (c_var 0)) (c_cons (c_prop 0 (m_Scheme_length G) (c_var 0)) (c_cons (c_prop 0 (m_Scheme_largest_amount G) (c_var 0)) c_nil))))))
noncomputable def m__law_numbers (G : Gx) : List D → Sto → Res D := fnR 1 (c__law_numbers G)
noncomputable def mp__law_numbers (G : Gx) : List D → Sto → Res D := argsN 1 (m__law_numbers G)
noncomputable def c__law_created_correct (G : Gx) : SCode :=
  (c_seq (c_asg (g_tup 3 (g_cons (g_name 2) (g_cons (g_name 3) (g_cons (g_name 4) g_nil)))) (c_var 1))
  (c_seq (c_set 5 (c_cb p_repr (c_cons (c_tup (c_cons (c_var 2) (c_cons (c_var 3) (c_cons (c_var 4) (c_cons (c_op p_fdiv (c_var 2) (c_d (.int 2))) c_nil))))) c_nil)))
  (c_seq (c_ifS (c_or (c_test (c_op (p_eq true) (c_cb p_repr (c_cons (c_cb (mp__law_numbers G) (c_cons (c_var 0) c_nil)) c_nil)) (c_var 5))) (c_not (c_test (c_methP 0 (mp_Scheme_is_same G) (c_var 0) (c_cons (c_cb (p_make false 0 (mp_Scheme__init_ G)) (c_cons (c_var 2) (c_cons (c_var 3) (c_cons (c_var 4) c_nil)))) c_nil))))) (c_ret (c_d (.bl false))) c_nx)
  (c_seq (c_for (c_it (c_lst false (c_cons (c_d (.int 1)) (c_cons (c_op p_fdiv (c_op (p_add false) (c_var 4) (c_d (.int 1))) (c_d (.int 2))) (c_cons (c_var 4) c_nil))))) (g_name 6) (c_seq (c_set 7 (c_methP 0 (mp_Scheme_shortened G) (c_var 0) (c_cons (c_var 6) c_nil)))
  (c_seq (c_ifS (c_or (c_test (c_op (p_eq true) (c_cb p_repr (c_cons (c_cb (mp__law_numbers G) (c_cons (c_var 7) c_nil)) c_nil)) (c_cb p_repr (c_cons (c_tup (c_cons (c_var 2) (c_cons (c_var 3) (c_cons (c_var 6) (c_cons (c_op p_fdiv (c_var 2) (c_d (.int 2))) c_nil))))) c_nil)))) (c_test (c_op (p_eq true) (c_methP 0 (mp_Scheme_is_same G) (c_var 7) (c_cons (c_var 0) c_nil)) (c_op (p_eq false) (c_var 6) (c_var 4))))) (c_ret (c_d (.bl false))) c_nx)
  (c_ifS (c_not (c_test (c_methK 0 0 1 (gP D.non [0, 1]) (m_Scheme_is_same G) (c_methK 0 0 1 (gP D.non [0, 1]) (m_Scheme_shortened G) (c_var 0) c_nil (c_cons (c_var 6) c_nil)) c_nil (c_cons (c_var 7) c_nil)))) (c_ret (c_d (.bl false))) c_nx))))
  (c_seq (c_set 8 (c_lst true (c_cons (c_cb (p_make false 0 (mp_Scheme__init_ G)) (c_cons (c_var 2) (c_cons (c_var 3) (c_cons (c_op p_sub (c_d (.int 25)) (c_var 4)) c_nil)))) (c_cons (c_cb (p_make false 0 (mp_Scheme__init_ G)) (c_cons (c_if (c_test (c_op p_gt (c_var 2) (c_op p_pow (c_d (.int 10)) (c_d (.int 6))))) (c_d (.int 577)) (c_cb (mp__law_prime_from G) (c_cons (c_op (p_add false) (c_var 2) (c_d (.int 1))) c_nil))) (c_cons (c_var 3) (c_cons (c_var 4) c_nil)))) c_nil))))
  (c_seq (c_ifS (c_or (c_test (c_op p_gt (c_var 3) (c_d (.int 2)))) (c_test (c_op p_gt (c_var 2) (c_d (.int 9))))) (c_expr (c_meth isL p_append (c_var 8) (c_cons (c_cb (p_make false 0 (mp_Scheme__init_ G)) (c_cons (c_var 2) (c_cons (c_if (c_test (c_op p_gt (c_var 3) (c_d (.int 2)))) (c_op p_sub (c_var 3) (c_d (.int 1))) (c_d (.int 3))) (c_cons (c_var 4) c_nil)))) c_nil))) c_nx)
  (c_seq (c_set 8 (c_op (p_add true) (c_var 8) (c_lst false (c_cons (c_d .non) (c_cons (c_var 1) (c_cons (c_tup c_nil) (c_cons (c_d (.int 0)) (c_cons (c_var 2) (c_cons (c_cb (p_list false) (c_cons (c_var 1) c_nil)) (c_cons (c_cb p_reprY (c_cons (c_var 1) c_nil)) c_nil))))))))))
  (c_seq (c_ifS (c_test (c_op (p_eq true) (c_lc (c_it (c_var 8)) (g_name 9) (c_test (c_op (p_isB true) (c_methP 0 (mp_Scheme_is_same G) (c_var 0) (c_cons (c_var 9) c_nil)) (c_d (.bl false)))) (c_var 9) [9]) (c_lst false c_nil))) (c_ret (c_d (.bl false))) c_nx)
  (c_ret (c_op (p_eq false) (c_cb p_repr (c_cons (c_cb (mp__law_numbers G) (c_cons (c_var 0) c_nil)) c_nil)) (c_var 5)))))))))))
noncomputable def m__law_created_correct (G : Gx) : List D → Sto → Res D := fnR 10 (c__law_created_correct G)
noncomputable def mp__law_created_correct (G : Gx) : List D → Sto → Res D := argsN 2 (m__law_created_correct G)
noncomputable def c__law_correct (G : Gx) : SCode :=
  (c_seq (c_par 1 2 (c_cb p_reprY (c_cons (c_var 0) c_nil)) (c_cb (mp__law_wrong G) (c_cons (c_var 0) c_nil)))
  (c_seq (c_for (c_it (c_tup (c_cons (c_d (.bl false)) (c_cons (c_d (.bl true)) c_nil)))) (g_name 3) (c_seq (c_asg (g_tup 2 (g_cons (g_name 4) (g_cons (g_name 5) g_nil))) (c_cb (mp__law_outcome G) (c_cons (c_var 0) (c_cons (c_var 3) c_nil))))
  (c_ifS (c_test (c_op (p_isN false) (c_var 2) (c_d .non))) (c_ifS (c_or (c_test (c_op (p_isN true) (c_var 5) (c_d .non))) (c_not (c_test (c_cb (mp__law_created_correct G) (c_cons (c_var 4) (c_cons (c_var 0) c_nil)))))) (c_ret (c_d (.bl false))) c_nx) (c_ifS (c_test (c_op (p_eqS true) (c_var 5) (c_cb p_reprY (c_cons (c_op p_ix (c_var 0) (c_var 2)) c_nil)))) (c_ret (c_d (.bl false))) c_nx))))
  (c_ret (c_op (p_eqS false) (c_cb p_reprY (c_cons (c_var 0) c_nil)) (c_var 1)))))
noncomputable def m__law_correct (G : Gx) : List D → Sto → Res D := fnR 6 (c__law_correct G)
noncomputable def mp__law_correct (G : Gx) : List D → Sto → Res D := argsN 1 (m__law_correct G)
noncomputable def c_law (G : Gx) : SCode :=
  (c_seq (c_set 1 (c_cb (mp__law_deck G) (c_cons (c_var 0) c_nil)))
  (c_seq (c_set 2 (c_lst false (c_cons (c_tup (c_cons (c_d (.int 5)) (c_cons (c_d (.int 2)) (c_cons (c_d (.int 1)) c_nil)))) (c_cons (c_tup (c_cons (c_d (.int 577)) (c_cons (c_d (.int 24)) (c_cons (c_d (.int 24)) c_nil)))) (c_cons (c_tup (c_cons (c_d (.int 576)) (c_cons (c_d (.int 24)) (c_cons (c_d (.int 24)) c_nil)))) (c_cons (c_tup (c_cons (c_d (.int 571)) (c_cons (c_d (.int 24)) (c_cons (c_d (.int 1)) c_nil)))) (c_cons (c_tup (c_cons (c_d (.int 101)) (c_cons (c_d (.int 10)) (c_cons (c_d (.int 24)) c_nil)))) (c_cons (c_tup (c_cons (c_d (.int 97)) (c_cons (c_d (.int 10)) (c_cons (c_d (.int 1)) c_nil)))) (c_cons (c_tup (c_cons (c_d (.int 3)) (c_cons (c_d (.int 2)) (c_cons (c_d (.int 1)) c_nil)))) (c_cons (c_tup (c_cons (c_d (.int 7)) (c_cons (c_d (.int 2)) (c_cons (c_d (.int 25)) c_nil)))) c_nil))))))))))
  (c_seq (c_set 2 (c_op (p_add false) (c_var 2) (c_lst false (c_cons (c_tup (c_cons (c_d (.int 999999937)) (c_cons (c_d (.int 24)) (c_cons (c_d (.int 24)) c_nil)))) (c_cons (c_tup (c_cons (c_d (.int 7)) (c_cons (c_d (.int 1)) (c_cons (c_d (.int 1)) c_nil)))) (c_cons (c_tup (c_cons (c_d (.int 7)) (c_cons (c_d (.int 2)) (c_cons (c_d (.int 0)) c_nil)))) (c_cons (c_tup (c_cons (c_d .non) (c_cons (c_d .non) (c_cons (c_d .non) c_nil)))) (c_cons (c_tup (c_cons (c_d (.int 7)) (c_cons (c_d .non) (c_cons (c_d .non) c_nil)))) (c_cons (c_tup (c_cons (c_d (.bl true)) (c_cons (c_d (.bl true)) (c_cons (c_d (.bl true)) c_nil)))) c_nil)))))))))
  (c_seq (c_for (c_it (c_op (p_add false) (c_var 2) (c_lc (c_rng1 (c_cons (c_d (.int 40)) c_nil)) (g_name 4) c_yes (c_cb (mp__law_parts G) (c_cons (c_var 1) c_nil)) [4]))) (g_name 3) (c_ifS (c_not (c_test (c_cb (mp__law_correct G) (c_cons (c_var 3) c_nil)))) (c_ret (c_d (.bl false))) c_nx))
  (c_seq (c_set 5 (c_cb (p_make false 0 (mp_Scheme__init_ G)) (c_cons (c_d (.int 101)) (c_cons (c_d (.int 4)) (c_cons (c_d (.int 4)) c_nil)))))
  (c_seq (c_set 6 (c_lst false (c_cons (c_cval (G.cls 0) (.int 1000000000) (c_d (.con (G.cls 0)))) (c_cons (c_cval (G.cls 0) (.int 24) (c_d (.con (G.cls 0)))) (c_cons (c_cval (G.cls 0) (.int 24) (c_d (.con (G.cls 0)))) c_nil)))))
  (c_seq (c_set 6 (c_op (p_add false) (c_var 6) (c_lst false (c_cons (c_cvalI 0 (.int 1000000000) (c_var 5)) (c_cons (c_cvalI 0 (.int 24) (c_var 5)) (c_cons (c_cvalI 0 (.int 24) (c_var 5)) c_nil))))))
  (c_ret (c_op (p_eq false) (c_cb p_repr (c_cons (c_var 6) c_nil)) (c_cb p_repr (c_cons (c_op (p_mul false) (c_lst false (c_cons (c_op p_pow (c_d (.int 10)) (c_d (.int 9))) (c_cons (c_d (.int 24)) (c_cons (c_d (.int 24)) c_nil)))) (c_d (.int 2))) c_nil)))))))))))
noncomputable def m_law (G : Gx) : List D → Sto → Res D := fnR 7 (c_law G)
structure Txt (G : Gx) : Type where
  f__law_deck : Addr
  d__law_deck : FuncData
  F__law_deck : Fun G.K "_law_deck" "_law_deck" s__law_deck f__law_deck d__law_deck
  g__law_deck : G.mg "_law_deck" = some (.ref f__law_deck)
  f_is_between : Addr
  d_is_between : FuncData
  F_is_between : Fun G.K "is_between" "is_between" s_is_between f_is_between d_is_between
  g_is_between : G.mg "is_between" = some (.ref f_is_between)
  f_reduced_modulo : Addr
  d_reduced_modulo : FuncData
  F_reduced_modulo : Fun G.K "reduced_modulo" "reduced_modulo" s_reduced_modulo f_reduced_modulo d_reduced_modulo
  g_reduced_modulo : G.mg "reduced_modulo" = some (.ref f_reduced_modulo)
  f_power_of : Addr
  d_power_of : FuncData
  F_power_of : Fun G.K "power_of" "power_of" s_power_of f_power_of d_power_of
  g_power_of : G.mg "power_of" = some (.ref f_power_of)
  f_is_probable : Addr
  d_is_probable : FuncData
  F_is_probable : Fun G.K "is_probable" "is_probable" s_is_probable f_is_probable d_is_probable
  g_is_probable : G.mg "is_probable" = some (.ref f_is_probable)
  f_is_odd_prime : Addr
  d_is_odd_prime : FuncData
  F_is_odd_prime : Fun G.K "is_odd_prime" "is_odd_prime" s_is_odd_prime f_is_odd_prime d_is_odd_prime
  g_is_odd_prime : G.mg "is_odd_prime" = some (.ref f_is_odd_prime)
  f_Scheme_is_prime : Addr
  d_Scheme_is_prime : FuncData
  F_Scheme_is_prime : Fun G.K "is_prime" "Scheme.is_prime" s_Scheme_is_prime f_Scheme_is_prime d_Scheme_is_prime
  f_Scheme__init_ : Addr
  d_Scheme__init_ : FuncData
  F_Scheme__init_ : Fun G.K "__init__" "Scheme.__init__" s_Scheme__init_ f_Scheme__init_ d_Scheme__init_
  f__law_is_prime : Addr
  d__law_is_prime : FuncData
  F__law_is_prime : Fun G.K "_law_is_prime" "_law_is_prime" s__law_is_prime f__law_is_prime d__law_is_prime
  g__law_is_prime : G.mg "_law_is_prime" = some (.ref f__law_is_prime)
  f__law_prime_from : Addr
  d__law_prime_from : FuncData
  F__law_prime_from : Fun G.K "_law_prime_from" "_law_prime_from" s__law_prime_from f__law_prime_from d__law_prime_from
  g__law_prime_from : G.mg "_law_prime_from" = some (.ref f__law_prime_from)
  f__law_draw : Addr
  d__law_draw : FuncData
  F__law_draw : Fun G.K "_law_draw" "_law_draw" s__law_draw f__law_draw d__law_draw
  g__law_draw : G.mg "_law_draw" = some (.ref f__law_draw)
  f__law_pick : Addr
  d__law_pick : FuncData
  F__law_pick : Fun G.K "_law_pick" "_law_pick" s__law_pick f__law_pick d__law_pick
  g__law_pick : G.mg "_law_pick" = some (.ref f__law_pick)
  f__law_parts : Addr
  d__law_parts : FuncData
  F__law_parts : Fun G.K "_law_parts" "_law_parts" s__law_parts f__law_parts d__law_parts
  g__law_parts : G.mg "_law_parts" = some (.ref f__law_parts)
  f__law_is_between : Addr
  d__law_is_between : FuncData
  F__law_is_between : Fun G.K "_law_is_between" "_law_is_between" s__law_is_between f__law_is_between d__law_is_between
  g__law_is_between : G.mg "_law_is_between" = some (.ref f__law_is_between)
  f__law_wrong : Addr
  d__law_wrong : FuncData
  F__law_wrong : Fun G.K "_law_wrong" "_law_wrong" s__law_wrong f__law_wrong d__law_wrong
  g__law_wrong : G.mg "_law_wrong" = some (.ref f__law_wrong)
  f__law_outcome : Addr
  d__law_outcome : FuncData
  F__law_outcome : Fun G.K "_law_outcome" "_law_outcome" s__law_outcome f__law_outcome d__law_outcome
  g__law_outcome : G.mg "_law_outcome" = some (.ref f__law_outcome)
  f_Scheme_shortened : Addr
  d_Scheme_shortened : FuncData
  F_Scheme_shortened : Fun G.K "shortened" "Scheme.shortened" s_Scheme_shortened f_Scheme_shortened d_Scheme_shortened
  f_Scheme_is_same : Addr
  d_Scheme_is_same : FuncData
  F_Scheme_is_same : Fun G.K "is_same" "Scheme.is_same" s_Scheme_is_same f_Scheme_is_same d_Scheme_is_same
  f_Scheme_prime : Addr
  d_Scheme_prime : FuncData
  F_Scheme_prime : Fun G.K "prime" "Scheme.prime" s_Scheme_prime f_Scheme_prime d_Scheme_prime
  f_Scheme_accounts : Addr
  d_Scheme_accounts : FuncData
  F_Scheme_accounts : Fun G.K "accounts" "Scheme.accounts" s_Scheme_accounts f_Scheme_accounts d_Scheme_accounts
  f_Scheme_length : Addr
  d_Scheme_length : FuncData
  F_Scheme_length : Fun G.K "length" "Scheme.length" s_Scheme_length f_Scheme_length d_Scheme_length
  f_Scheme_largest_amount : Addr
  d_Scheme_largest_amount : FuncData
  F_Scheme_largest_amount : Fun G.K "largest_amount" "Scheme.largest_amount" s_Scheme_largest_amount f_Scheme_largest_amount d_Scheme_largest_amount
  f__law_numbers : Addr
  d__law_numbers : FuncData
  F__law_numbers : Fun G.K "_law_numbers" "_law_numbers" s__law_numbers f__law_numbers d__law_numbers
  g__law_numbers : G.mg "_law_numbers" = some (.ref f__law_numbers)
  f__law_created_correct : Addr
  d__law_created_correct : FuncData
  F__law_created_correct : Fun G.K "_law_created_correct" "_law_created_correct" s__law_created_correct f__law_created_correct d__law_created_correct
  g__law_created_correct : G.mg "_law_created_correct" = some (.ref f__law_created_correct)
  f__law_correct : Addr
  d__law_correct : FuncData
  F__law_correct : Fun G.K "_law_correct" "_law_correct" s__law_correct f__law_correct d__law_correct
  g__law_correct : G.mg "_law_correct" = some (.ref f__law_correct)
  f_law : Addr
  d_law : FuncData
  F_law : Fun G.K "law" "law" s_law f_law d_law
  g_law : G.mg "law" = some (.ref f_law)
  cl_Scheme : Cls G.K (G.cls 0)
  g_Scheme : G.mg "Scheme" = some (.ref (G.cls 0))
  fn_Scheme : G.fns 0 = (["prime_used", "accounts_used", "length_used"] : List Str)
  mk_Scheme : Mk G.K (G.cls 0) f_Scheme__init_
  ic_Scheme : IsiC G.K (G.cls 0)
  ia_Scheme : IsiA G.K (G.cls 0)
  rd_Scheme : ClX.CRead G.K (G.cls 0) (.type "type")
  cu : G.cur = none
  ge_BadScheme : G.mg "BadScheme" = some (.ref (G.exc 0))
  ge_NoInverse : G.mg "NoInverse" = some (.ref (G.exc 1))
  ge_UnknownAccount : G.mg "UnknownAccount" = some (.ref (G.exc 2))
  ge_BadText : G.mg "BadText" = some (.ref (G.exc 3))
  ge_BadAmount : G.mg "BadAmount" = some (.ref (G.exc 4))
  ge_CrossError : G.mg "CrossError" = some (.ref (G.exc 5))
  f_BadScheme__init_ : Addr
  d_BadScheme__init_ : FuncData
  F_BadScheme__init_ : Fun G.K "__init__" "BadScheme.__init__" s_BadScheme__init_ f_BadScheme__init_ d_BadScheme__init_
  ox_BadScheme : OexC G.K (G.exc 0)
  xi_BadScheme : PySem.W.findIn G.K (.ref (G.exc 0)) "__init__" = some (some (.ref f_BadScheme__init_))
  xt_BadScheme : PySem.W.typeIn G.K (.ref f_BadScheme__init_) = some (.type "function")
  xf_BadScheme : G.exf 0 = "value"
  xn_BadScheme : PySem.W.findIn G.K (.ref (G.exc 0)) "value" = some none
  rdE_CrossError : ClX.CRead G.K (G.exc 5) (.type "type")
  xv_CrossError : PySem.W.findCls G.K (.ref (G.exc 5)) (.type "type") "__init__" = some (.val (.builtin "ValueError.__init__"))
  xfc_BadScheme : XfC G.K (G.exc 0)
  xec_BadScheme : ExcC G.K (G.exc 0)
  xm_BadScheme_BadScheme : PySem.W.exmOne G.K (.ref (G.exc 0)) (.ref (G.exc 0)) = some true
  xks_BadScheme_BadAmount_BadText_UnknownAccount_NoInverse : PySem.W.kitAny G.K (.ref (G.exc 0)) [(.ref (G.exc 4)), (.ref (G.exc 3)), (.ref (G.exc 2)), (.ref (G.exc 1))] = some false
  xk_BadScheme_CrossError : PySem.W.kitOne G.K (.ref (G.exc 0)) (.ref (G.exc 5)) = some true
  z_all : G.mg "all" = none
  z_bool : G.mg "bool" = none
  z_int : G.mg "int" = none
  z_isinstance : G.mg "isinstance" = none
  z_len : G.mg "len" = none
  z_list : G.mg "list" = none
  z_range : G.mg "range" = none
  z_repr : G.mg "repr" = none
  ka_BASES : Addr
  kv_BASES : List V
  kg_BASES : G.mg "BASES" = some (.ref ka_BASES)
  kw_BASES : WrT G.K ka_BASES kv_BASES
  kr_BASES : ∀ ι L H, Reps G ι L H kv_BASES [.int 2, .int 3, .int 5, .int 7]
  kt_LEAST_ACCOUNTS : Tok
  kg_LEAST_ACCOUNTS : G.mg "LEAST_ACCOUNTS" = some (.int 2 kt_LEAST_ACCOUNTS)
  t_Scheme_LARGEST_PRIME : Tok
  v_Scheme_LARGEST_PRIME : ClX.CVal G.K (G.cls 0) (.type "type") "LARGEST_PRIME" (.int 1000000000) (.int 1000000000 t_Scheme_LARGEST_PRIME)
  t_Scheme_MOST_ACCOUNTS : Tok
  v_Scheme_MOST_ACCOUNTS : ClX.CVal G.K (G.cls 0) (.type "type") "MOST_ACCOUNTS" (.int 24) (.int 24 t_Scheme_MOST_ACCOUNTS)
  t_Scheme_MOST_NUMBERS : Tok
  v_Scheme_MOST_NUMBERS : ClX.CVal G.K (G.cls 0) (.type "type") "MOST_NUMBERS" (.int 24) (.int 24 t_Scheme_MOST_NUMBERS)
  ti_Scheme_LARGEST_PRIME : Tok
  vi_Scheme_LARGEST_PRIME : Con G.K (G.cls 0) "LARGEST_PRIME" (.int 1000000000) (.int 1000000000 ti_Scheme_LARGEST_PRIME)
  ti_Scheme_MOST_ACCOUNTS : Tok
  vi_Scheme_MOST_ACCOUNTS : Con G.K (G.cls 0) "MOST_ACCOUNTS" (.int 24) (.int 24 ti_Scheme_MOST_ACCOUNTS)
  ti_Scheme_MOST_NUMBERS : Tok
  vi_Scheme_MOST_NUMBERS : Con G.K (G.cls 0) "MOST_NUMBERS" (.int 24) (.int 24 ti_Scheme_MOST_NUMBERS)
  n_Scheme_accounts_used : NoAttr G.K (G.cls 0) "accounts_used"
  n_Scheme_length_used : NoAttr G.K (G.cls 0) "length_used"
  n_Scheme_prime_used : NoAttr G.K (G.cls 0) "prime_used"
  mt_Scheme_is_same : Meth G.K (G.cls 0) "is_same" f_Scheme_is_same
  mt_Scheme_shortened : Meth G.K (G.cls 0) "shortened" f_Scheme_shortened
  pr_Scheme_accounts : Addr
  p_Scheme_accounts : PropOf G.K (G.cls 0) "accounts" pr_Scheme_accounts f_Scheme_accounts
  pr_Scheme_largest_amount : Addr
  p_Scheme_largest_amount : PropOf G.K (G.cls 0) "largest_amount" pr_Scheme_largest_amount f_Scheme_largest_amount
  pr_Scheme_length : Addr
  p_Scheme_length : PropOf G.K (G.cls 0) "length" pr_Scheme_length f_Scheme_length
  pr_Scheme_prime : Addr
  p_Scheme_prime : PropOf G.K (G.cls 0) "prime" pr_Scheme_prime f_Scheme_prime
  sp_Scheme_is_prime : Addr
  st_Scheme_is_prime : SMet G.K (G.cls 0) (.type "type") "is_prime" sp_Scheme_is_prime f_Scheme_is_prime
theorem sc__law_deck : FnScope ["_law_script", "_law_given", "_law_seed", "_law_item"] ["_law_script"] (defScope s__law_deck) := ⟨rfl, rfl, rfl, by decide +kernel, rfl, by decide +kernel, by decide +kernel⟩
theorem sc_is_between : FnScope ["value", "least", "most"] ["value", "least", "most"] (defScope s_is_between) := ⟨rfl, rfl, rfl, by decide +kernel, rfl, by decide +kernel, by decide +kernel⟩
theorem sc_reduced_modulo : FnScope ["number", "prime", "rest"] ["number", "prime"] (defScope s_reduced_modulo) := ⟨rfl, rfl, rfl, by decide +kernel, rfl, by decide +kernel, by decide +kernel⟩
theorem sc_power_of : FnScope ["base", "exponent", "prime", "result", "square", "left"] ["base", "exponent", "prime"] (defScope s_power_of) := ⟨rfl, rfl, rfl, by decide +kernel, rfl, by decide +kernel, by decide +kernel⟩
theorem sc_is_probable : FnScope ["number", "base", "odd", "twos", "power", "turn"] ["number", "base"] (defScope s_is_probable) := ⟨rfl, rfl, rfl, by decide +kernel, rfl, by decide +kernel, by decide +kernel⟩
theorem sc_is_odd_prime : FnScope ["number", "base"] ["number"] (defScope s_is_odd_prime) := ⟨rfl, rfl, rfl, by decide +kernel, rfl, by decide +kernel, by decide +kernel⟩
theorem sc_Scheme_is_prime : FnScope ["value"] ["value"] (defScope s_Scheme_is_prime) := ⟨rfl, rfl, rfl, by decide +kernel, rfl, by decide +kernel, by decide +kernel⟩
theorem sc_Scheme__init_ : FnScope ["self", "prime", "accounts", "length"] ["self", "prime", "accounts", "length"] (defScope s_Scheme__init_) := ⟨rfl, rfl, rfl, by decide +kernel, rfl, by decide +kernel, by decide +kernel⟩
theorem sc__law_is_prime : FnScope ["_law_item", "_law_k"] ["_law_item"] (defScope s__law_is_prime) := ⟨rfl, rfl, rfl, by decide +kernel, rfl, by decide +kernel, by decide +kernel⟩
theorem sc__law_prime_from : FnScope ["_law_item"] ["_law_item"] (defScope s__law_prime_from) := ⟨rfl, rfl, rfl, by decide +kernel, rfl, by decide +kernel, by decide +kernel⟩
theorem sc__law_draw : FnScope ["_law_deck_here", "_law_count", "_law_turn", "_law_item", "_law_mixed"] ["_law_deck_here", "_law_count"] (defScope s__law_draw) := ⟨rfl, rfl, rfl, by decide +kernel, rfl, by decide +kernel, by decide +kernel⟩
theorem sc__law_pick : FnScope ["_law_deck_here", "_law_options"] ["_law_deck_here", "_law_options"] (defScope s__law_pick) := ⟨rfl, rfl, rfl, by decide +kernel, rfl, by decide +kernel, by decide +kernel⟩
theorem sc__law_parts : FnScope ["_law_deck_here", "_law_n", "_law_size", "_law_style", "_law_near", "_law_p", "_law_odd", "_law_k", "_law_place", "_law_odd_one"] ["_law_deck_here"] (defScope s__law_parts) := ⟨rfl, rfl, rfl, by decide +kernel, rfl, by decide +kernel, by decide +kernel⟩
theorem sc__law_is_between : FnScope ["_law_item", "_law_least", "_law_most"] ["_law_item", "_law_least", "_law_most"] (defScope s__law_is_between) := ⟨rfl, rfl, rfl, by decide +kernel, rfl, by decide +kernel, by decide +kernel⟩
theorem sc__law_wrong : FnScope ["_law_parts_here", "_law_p", "_law_n", "_law_size"] ["_law_parts_here"] (defScope s__law_wrong) := ⟨rfl, rfl, rfl, by decide +kernel, rfl, by decide +kernel, by decide +kernel⟩
theorem sc__law_outcome : FnScope ["_law_parts_here", "_law_by_keyword", "_law_result", "e"] ["_law_parts_here", "_law_by_keyword"] (defScope s__law_outcome) := ⟨rfl, rfl, rfl, by decide +kernel, rfl, by decide +kernel, by decide +kernel⟩
theorem sc_Scheme_shortened : FnScope ["self", "length"] ["self", "length"] (defScope s_Scheme_shortened) := ⟨rfl, rfl, rfl, by decide +kernel, rfl, by decide +kernel, by decide +kernel⟩
theorem sc_Scheme_is_same : FnScope ["self", "other", "own"] ["self", "other"] (defScope s_Scheme_is_same) := ⟨rfl, rfl, rfl, by decide +kernel, rfl, by decide +kernel, by decide +kernel⟩
theorem sc_Scheme_prime : FnScope ["self"] ["self"] (defScope s_Scheme_prime) := ⟨rfl, rfl, rfl, by decide +kernel, rfl, by decide +kernel, by decide +kernel⟩
theorem sc_Scheme_accounts : FnScope ["self"] ["self"] (defScope s_Scheme_accounts) := ⟨rfl, rfl, rfl, by decide +kernel, rfl, by decide +kernel, by decide +kernel⟩
theorem sc_Scheme_length : FnScope ["self"] ["self"] (defScope s_Scheme_length) := ⟨rfl, rfl, rfl, by decide +kernel, rfl, by decide +kernel, by decide +kernel⟩
theorem sc_Scheme_largest_amount : FnScope ["self"] ["self"] (defScope s_Scheme_largest_amount) := ⟨rfl, rfl, rfl, by decide +kernel, rfl, by decide +kernel, by decide +kernel⟩
theorem sc__law_numbers : FnScope ["_law_found"] ["_law_found"] (defScope s__law_numbers) := ⟨rfl, rfl, rfl, by decide +kernel, rfl, by decide +kernel, by decide +kernel⟩
theorem sc__law_created_correct : FnScope ["_law_found", "_law_parts_here", "_law_p", "_law_n", "_law_size", "_law_expected", "_law_k", "_law_short", "_law_unlike", "_law_one"] ["_law_found", "_law_parts_here"] (defScope s__law_created_correct) := ⟨rfl, rfl, rfl, by decide +kernel, rfl, by decide +kernel, by decide +kernel⟩
theorem sc__law_correct : FnScope ["_law_parts_here", "_law_before", "_law_wrong_here", "_law_by_keyword", "_law_found", "_law_value_here"] ["_law_parts_here"] (defScope s__law_correct) := ⟨rfl, rfl, rfl, by decide +kernel, rfl, by decide +kernel, by decide +kernel⟩
theorem sc_law : FnScope ["_law_script", "_law_deck_here", "_law_fixed", "_law_parts_here", "_law_k", "_law_found", "_law_told"] ["_law_script"] (defScope s_law) := ⟨rfl, rfl, rfl, by decide +kernel, rfl, by decide +kernel, by decide +kernel⟩
theorem sc_BadScheme__init_ : FnScope ["self", "value"] ["self", "value"] (defScope s_BadScheme__init_) := ⟨rfl, rfl, rfl, by decide +kernel, rfl, by decide +kernel, by decide +kernel⟩
namespace Txt
variable {G : Gx} (T : Txt G)
include T
theorem b_BadScheme__init_ : Binds G.K T.d_BadScheme__init_ ["self", "value"] [] := T.F_BadScheme__init_.binds fun _ _ _ _ _ _ us hl => match us, hl with | [_, _], _ => rfl
theorem x_BadScheme : ErrT G 0 T.f_BadScheme__init_ T.d_BadScheme__init_ ["self", "value"] := ⟨T.ox_BadScheme, T.xi_BadScheme, T.xt_BadScheme, by rw [T.xf_BadScheme]; exact T.xn_BadScheme, by
  rw [T.xf_BadScheme]
  exact err_fn (msg := "no scheme can be made with this value") T.F_BadScheme__init_ sc_BadScheme__init_ rfl rfl (fun E p => pss_cons (ps_expr (pe_baseinit (CE := G.exc 5) (mc := .type "type") rfl T.ge_CrossError rfl T.rdE_CrossError T.xv_CrossError (pa_cons (pe_var (i := 0) rfl (.inl rfl)) (pa_cons pe_str pa_nil)))) (pss_one (ps_ost (pe_var (i := 0) rfl (.inl rfl)) (pe_var (i := 1) rfl (.inl rfl))))), T.b_BadScheme__init_⟩
theorem hm_BadScheme : ∀ c b, tabm_BadScheme c = some b → PySem.W.exmOne G.K (.ref (G.exc c)) (.ref (G.exc 0)) = some b
  | 0, _, h => by cases h; exact T.xm_BadScheme_BadScheme
  | _ + 1, _, h => by cases h
theorem hks_BadAmount_BadText_UnknownAccount_NoInverse : ∀ c b, tabs_BadAmount_BadText_UnknownAccount_NoInverse c = some b → PySem.W.kitAny G.K (.ref (G.exc c)) [(.ref (G.exc 4)), (.ref (G.exc 3)), (.ref (G.exc 2)), (.ref (G.exc 1))] = some b
  | 0, _, h => by cases h; exact T.xks_BadScheme_BadAmount_BadText_UnknownAccount_NoInverse
  | _ + 1, _, h => by cases h
theorem hes_BadAmount_BadText_UnknownAccount_NoInverse : ∀ c b, tabs_BadAmount_BadText_UnknownAccount_NoInverse c = some b → ExcC G.K (G.exc c)
  | 0, _, h => by cases h; exact T.xec_BadScheme
  | _ + 1, _, h => by cases h
theorem hk_CrossError : ∀ c b, tab_CrossError c = some b → PySem.W.kitOne G.K (.ref (G.exc c)) (.ref (G.exc 5)) = some b
  | 0, _, h => by cases h; exact T.xk_BadScheme_CrossError
  | _ + 1, _, h => by cases h
theorem he_CrossError : ∀ c b, tab_CrossError c = some b → ExcC G.K (G.exc c)
  | 0, _, h => by cases h; exact T.xec_BadScheme
  | _ + 1, _, h => by cases h
theorem c_BASES {I : Type} {Xs : I → Cx} {E : WK} {kk : Nat} {pos : Pos} (F : Fam Xs G E kk) (hg : ∀ j, Gl (Xs j) "BASES") : DE Xs G E (.Name "BASES" pos) (c_d k_BASES) :=
  de_glob F.toFamH hg T.kg_BASES (show RelV (.ref _) (.ref _) from rfl) (fun ι L H => .wtp T.kw_BASES (T.kr_BASES ι L H)) (by decide)
theorem c_LEAST_ACCOUNTS {I : Type} {Xs : I → Cx} {E : WK} {kk : Nat} {pos : Pos} (F : Fam Xs G E kk) (hg : ∀ j, Gl (Xs j) "LEAST_ACCOUNTS") : DE Xs G E (.Name "LEAST_ACCOUNTS" pos) (c_d k_LEAST_ACCOUNTS) :=
  de_glob F.toFamH hg T.kg_LEAST_ACCOUNTS (v := .int 2) ⟨_, rfl⟩ (fun _ _ _ => .int _) (by decide)
theorem k__law_deck : PySem.W.keepIn G.K (.ref T.f__law_deck) = true := T.F__law_deck.kp
theorem b__law_deck : Binds G.K T.d__law_deck ["_law_script"] [] := T.F__law_deck.binds fun _ _ _ _ _ _ us hl => match us, hl with | [_], _ => rfl
theorem e__law_deck : ∀ E, DSs (FnX G 0 ["_law_script", "_law_given", "_law_seed", "_law_item"] "_law_deck" (defScope s__law_deck) T.f__law_deck E) G (fun _ => E) (defBody s__law_deck) (c__law_deck G) := fun E => by
  have F := fnX_fam (G := G) (k := 0) (qual := "_law_deck") (f := T.f__law_deck) sc__law_deck E
  exact (dss_cons (ds_set F.toFamH (i := 1) (fun _ => rfl) (fun _ => .inl rfl) (fun _ => .inr rfl) (de_callTy F.toFamH (fun _ => call_list_of) (snd_list false) (dc (de_sl false (dv 0) dp_none (dp_some de_int) F) da_nil) (fun _ => rfl) T.z_list rfl (by decide) (by decide) (fun _ => rfl) (fun _ => rfl)) (fun _ => rfl))
  (dss_cons (ds_set F.toFamH (i := 2) (fun _ => rfl) (fun _ => .inl rfl) (fun _ => .inr rfl) (de_op (fun _ => op_addU) (snd_add false) de_int (de_callB F.toFamH (fun _ => call_lenU) snd_len (dc (dv 1) da_nil) (fun _ => rfl) T.z_len rfl (by decide) (by decide) (fun _ => rfl) (fun _ => rfl))) (fun _ => rfl))
  (dss_cons (ds_for F (di_seq F.toFamH (dv 1)) (dn F.toFamH 3) (dss_one (ds_set F.toFamH (i := 2) (fun _ => rfl) (fun _ => .inl rfl) (fun _ => .inr rfl) (de_op (fun _ => op_mod) snd_mod (de_op (fun _ => op_addU) (snd_add false) (de_op (fun _ => op_addU) (snd_add false) (de_op (fun _ => op_mulU) (snd_mul false) (dv 2) de_int) (de_op (fun _ => op_mod) snd_mod (dv 3) de_int)) de_int) de_int) (fun _ => rfl))) owns_fn (fun _ _ => rfl))
  (dss_one (ds_ret (de_dispK true F (dps_cons de_str (de_rev true F (dv 1)) (dps_cons de_str (dv 2) (dps_cons de_str de_int dps_nil))) rfl rfl (List.cons_ne_nil _ _) (by decide)))))))
theorem B__law_deck : FnB G 1 T.f__law_deck T.d__law_deck ["_law_script"] (m__law_deck G) := FnB.of T.F__law_deck sc__law_deck T.e__law_deck
theorem P__law_deck : FnP G 1 T.f__law_deck (mp__law_deck G) := T.B__law_deck.pos T.b__law_deck
theorem k_is_between : PySem.W.keepIn G.K (.ref T.f_is_between) = true := T.F_is_between.kp
theorem b_is_between : Binds G.K T.d_is_between ["value", "least", "most"] [] := T.F_is_between.binds fun _ _ _ _ _ _ us hl => match us, hl with | [_, _, _], _ => rfl
theorem e_is_between : ∀ E, DSs (FnX G 0 ["value", "least", "most"] "is_between" (defScope s_is_between) T.f_is_between E) G (fun _ => E) (defBody s_is_between) (c_is_between G) := fun E => by
  have F := fnX_fam (G := G) (k := 0) (qual := "is_between") (f := T.f_is_between) sc_is_between E
  exact (dss_one (ds_ret (de_and (de_callB F.toFamH (fun _ => call_isi) snd_isi (dc (dv 0) (dc (de_ty F.toFamH (fun _ => rfl) T.z_int rfl (by decide) (by decide)) da_nil)) (fun _ => rfl) T.z_isinstance rfl (by decide) (by decide) (fun _ => rfl) (fun _ => rfl)) (de_and (de_not (de_callB F.toFamH (fun _ => call_isi) snd_isi (dc (dv 0) (dc (de_ty F.toFamH (fun _ => rfl) T.z_bool rfl (by decide) (by decide)) da_nil)) (fun _ => rfl) T.z_isinstance rfl (by decide) (by decide) (fun _ => rfl) (fun _ => rfl))) (de_one (de_chain (fun _ => op_le) (snd_cmp _) (fun _ => op_le) (snd_cmp _) (dv 1) (dv 0) (dv 2) rfl))))))
theorem B_is_between : FnB G 1 T.f_is_between T.d_is_between ["value", "least", "most"] (m_is_between G) := FnB.of T.F_is_between sc_is_between T.e_is_between
theorem P_is_between : FnP G 1 T.f_is_between (mp_is_between G) := T.B_is_between.pos T.b_is_between
theorem k_reduced_modulo : PySem.W.keepIn G.K (.ref T.f_reduced_modulo) = true := T.F_reduced_modulo.kp
theorem b_reduced_modulo : Binds G.K T.d_reduced_modulo ["number", "prime"] [] := T.F_reduced_modulo.binds fun _ _ _ _ _ _ us hl => match us, hl with | [_, _], _ => rfl
theorem e_reduced_modulo : ∀ E, DSs (FnX G 0 ["number", "prime", "rest"] "reduced_modulo" (defScope s_reduced_modulo) T.f_reduced_modulo E) G (fun _ => E) (defBody s_reduced_modulo) (c_reduced_modulo G) := fun E => by
  have F := fnX_fam (G := G) (k := 0) (qual := "reduced_modulo") (f := T.f_reduced_modulo) sc_reduced_modulo E
  exact (dss_cons (ds_set F.toFamH (i := 2) (fun _ => rfl) (fun _ => .inl rfl) (fun _ => .inr rfl) (de_op (fun _ => op_mod) snd_mod (dv 0) (dv 1)) (fun _ => rfl))
  (dss_one (ds_ret (de_if (dt_cmp (fun _ => op_gt) (snd_cmp _) (de_op (fun _ => op_mulU) (snd_mul false) de_int (dv 2)) (dv 1) rfl) (de_op (fun _ => op_sub) snd_sub (dv 2) (dv 1)) (dv 2)))))
theorem B_reduced_modulo : FnB G 1 T.f_reduced_modulo T.d_reduced_modulo ["number", "prime"] (m_reduced_modulo G) := FnB.of T.F_reduced_modulo sc_reduced_modulo T.e_reduced_modulo
theorem P_reduced_modulo : FnP G 1 T.f_reduced_modulo (mp_reduced_modulo G) := T.B_reduced_modulo.pos T.b_reduced_modulo
theorem k_power_of : PySem.W.keepIn G.K (.ref T.f_power_of) = true := T.F_power_of.kp
theorem b_power_of : Binds G.K T.d_power_of ["base", "exponent", "prime"] [] := T.F_power_of.binds fun _ _ _ _ _ _ us hl => match us, hl with | [_, _, _], _ => rfl
theorem e_power_of : ∀ E, DSs (FnX G 1 ["base", "exponent", "prime", "result", "square", "left"] "power_of" (defScope s_power_of) T.f_power_of E) G (fun _ => E) (defBody s_power_of) (c_power_of G) := fun E => by
  have F := fnX_fam (G := G) (k := 1) (qual := "power_of") (f := T.f_power_of) sc_power_of E
  exact (dss_cons (ds_par3 F (i := 3) (j := 4) (l := 5) (fun _ => rfl) (fun _ => rfl) (fun _ => rfl) (by decide) (by decide) (by decide) (fun _ => rfl) (fun _ => rfl) (fun _ => rfl) de_int (de_op (fun _ => op_mod) snd_mod (dv 0) (dv 2)) (dv 1) (fun _ => rfl) (fun _ => rfl) (fun _ => rfl) (fun _ => rfl) (fun _ => rfl))
  (dss_cons (ds_while (dt_cmp (fun _ => op_gt) (snd_cmp _) (dv 5) de_int rfl) (dss_cons (ds_if (dt_cmp (eqD_at F.toFamH) snd_eq (de_op (fun _ => op_mod) snd_mod (dv 5) de_int) de_int rfl) (dss_one (ds_set F.toFamH (i := 3) (fun _ => rfl) (fun _ => .inl rfl) (fun _ => .inr rfl) (de_op (fun _ => op_mod) snd_mod (de_op (fun _ => op_mulU) (snd_mul false) (dv 3) (dv 4)) (dv 2)) (fun _ => rfl))) dss_nil)
  (dss_cons (ds_set F.toFamH (i := 4) (fun _ => rfl) (fun _ => .inl rfl) (fun _ => .inr rfl) (de_op (fun _ => op_mod) snd_mod (de_op (fun _ => op_mulU) (snd_mul false) (dv 4) (dv 4)) (dv 2)) (fun _ => rfl))
  (dss_one (ds_aug F.toFamH (i := 5) (fun _ => rfl) (fun _ => .inl rfl) (fun _ => .inr rfl) (fun _ => iop_fdivW) snd_fdiv de_int (fun j te h => ps_aug (F.nd j) rfl (.inl rfl) h iop_fdivW (.inr rfl)))))) owns_fn)
  (dss_one (ds_ret (dcp F T.P_reduced_modulo (dc (dv 3) (dc (dv 2) da_nil)) T.g_reduced_modulo T.k_reduced_modulo)))))
theorem B_power_of : FnB G 2 T.f_power_of T.d_power_of ["base", "exponent", "prime"] (m_power_of G) := FnB.of T.F_power_of sc_power_of T.e_power_of
theorem P_power_of : FnP G 2 T.f_power_of (mp_power_of G) := T.B_power_of.pos T.b_power_of
theorem k_is_probable : PySem.W.keepIn G.K (.ref T.f_is_probable) = true := T.F_is_probable.kp
theorem b_is_probable : Binds G.K T.d_is_probable ["number", "base"] [] := T.F_is_probable.binds fun _ _ _ _ _ _ us hl => match us, hl with | [_, _], _ => rfl
theorem e_is_probable : ∀ E, DSs (FnX G 2 ["number", "base", "odd", "twos", "power", "turn"] "is_probable" (defScope s_is_probable) T.f_is_probable E) G (fun _ => E) (defBody s_is_probable) (c_is_probable G) := fun E => by
  have F := fnX_fam (G := G) (k := 2) (qual := "is_probable") (f := T.f_is_probable) sc_is_probable E
  exact (dss_cons (ds_par F (i := 2) (j := 3) (fun _ => rfl) (fun _ => rfl) (by decide) (fun _ => rfl) (fun _ => rfl) (de_op (fun _ => op_sub) snd_sub (dv 0) de_int) de_int (fun _ => rfl) (fun _ => rfl) (fun _ => rfl) (fun _ => rfl))
  (dss_cons (ds_while (dt_cmp (eqD_at F.toFamH) snd_eq (de_op (fun _ => op_mod) snd_mod (dv 2) de_int) de_int rfl) (dss_one (ds_par F (i := 2) (j := 3) (fun _ => rfl) (fun _ => rfl) (by decide) (fun _ => rfl) (fun _ => rfl) (de_op (fun _ => op_fdivW) snd_fdiv (dv 2) de_int) (de_op (fun _ => op_addU) (snd_add false) (dv 3) de_int) (fun _ => rfl) (fun _ => rfl) (fun _ => rfl) (fun _ => rfl))) owns_fn)
  (dss_cons (ds_set F.toFamH (i := 4) (fun _ => rfl) (fun _ => .inl rfl) (fun _ => .inr rfl) (dcp F T.P_power_of (dc (dv 1) (dc (dv 2) (dc (dv 0) da_nil))) T.g_power_of T.k_power_of) (fun _ => rfl))
  (dss_cons (ds_if (dt_cmp (fun _ => op_in_seq) (snd_in false) (dv 4) (de_tup (dc de_int (dc (de_un (fun _ => un_neg) snd_neg de_int) da_nil))) rfl) (dss_one (ds_ret de_bl)) dss_nil)
  (dss_cons (ds_for F (di_rng1 F.toFamH (dc (de_op (fun _ => op_sub) snd_sub (dv 3) de_int) da_nil) (fun _ => rfl) T.z_range (fun _ => rfl)) (dn F.toFamH 5) (dss_cons (ds_set F.toFamH (i := 4) (fun _ => rfl) (fun _ => .inl rfl) (fun _ => .inr rfl) (dcp F T.P_reduced_modulo (dc (de_op (fun _ => op_mulU) (snd_mul false) (dv 4) (dv 4)) (dc (dv 0) da_nil)) T.g_reduced_modulo T.k_reduced_modulo) (fun _ => rfl))
  (dss_one (ds_if (dt_cmp (eqD_at F.toFamH) snd_eq (dv 4) (de_un (fun _ => un_neg) snd_neg de_int) rfl) (dss_one (ds_ret de_bl)) dss_nil))) owns_fn (fun _ _ => rfl))
  (dss_one (ds_ret de_bl)))))))
theorem B_is_probable : FnB G 3 T.f_is_probable T.d_is_probable ["number", "base"] (m_is_probable G) := FnB.of T.F_is_probable sc_is_probable T.e_is_probable
theorem P_is_probable : FnP G 3 T.f_is_probable (mp_is_probable G) := T.B_is_probable.pos T.b_is_probable
theorem k_is_odd_prime : PySem.W.keepIn G.K (.ref T.f_is_odd_prime) = true := T.F_is_odd_prime.kp
theorem b_is_odd_prime : Binds G.K T.d_is_odd_prime ["number"] [] := T.F_is_odd_prime.binds fun _ _ _ _ _ _ us hl => match us, hl with | [_], _ => rfl
theorem e_is_odd_prime : ∀ E, DSs (FnX G 3 ["number", "base"] "is_odd_prime" (defScope s_is_odd_prime) T.f_is_odd_prime E) G (fun _ => E) (defBody s_is_odd_prime) (c_is_odd_prime G) := fun E => by
  have F := fnX_fam (G := G) (k := 3) (qual := "is_odd_prime") (f := T.f_is_odd_prime) sc_is_odd_prime E
  exact (dss_cons (ds_for F (di_seq F.toFamH (T.c_BASES F (fun _ => rfl))) (dn F.toFamH 1) (dss_one (ds_if (dt_cmp (eqD_at F.toFamH) snd_eq (de_op (fun _ => op_mod) snd_mod (dv 0) (dv 1)) de_int rfl) (dss_one (ds_ret (de_cmp (eqD_at F.toFamH) snd_eq (dv 0) (dv 1) rfl))) dss_nil)) owns_fn (fun _ _ => rfl))
  (dss_one (ds_ret (de_callB F.toFamH (cr_allC F) snd_all (dc (de_lc F (own := [("base", 1)]) (di_seq F.toFamH (T.c_BASES F (fun _ => rfl))) (fun _ => blkOk_by (by kernel_rfl)) (dn (F.blk _).toFamH 1) dts_nil (de_callP (F.blk _) T.P_is_probable (by decide) (dc (dv 0) (dc (dv 1) da_nil)) (fun _ => rfl) T.g_is_probable T.k_is_probable (by decide) (fun _ => rfl) (fun _ => rfl)) (by decide) (fun _ _ => rfl)) da_nil) (fun _ => rfl) T.z_all rfl (by decide) (by decide) (fun _ => rfl) (fun _ => rfl)))))
theorem B_is_odd_prime : FnB G 4 T.f_is_odd_prime T.d_is_odd_prime ["number"] (m_is_odd_prime G) := FnB.of T.F_is_odd_prime sc_is_odd_prime T.e_is_odd_prime
theorem P_is_odd_prime : FnP G 4 T.f_is_odd_prime (mp_is_odd_prime G) := T.B_is_odd_prime.pos T.b_is_odd_prime
theorem b_Scheme_is_prime : Binds G.K T.d_Scheme_is_prime ["value"] [] := T.F_Scheme_is_prime.binds fun _ _ _ _ _ _ us hl => match us, hl with | [_], _ => rfl
theorem e_Scheme_is_prime : ∀ E, DSs (FnX G 4 ["value"] "Scheme.is_prime" (defScope s_Scheme_is_prime) T.f_Scheme_is_prime E) G (fun _ => E) (defBody s_Scheme_is_prime) (c_Scheme_is_prime G) := fun E => by
  have F := fnX_fam (G := G) (k := 4) (qual := "Scheme.is_prime") (f := T.f_Scheme_is_prime) sc_Scheme_is_prime E
  exact (dss_one (ds_ret (de_and (dcp F T.P_is_between (dc (dv 0) (dc de_int (dc (de_cval F.toFamH T.rd_Scheme T.v_Scheme_LARGEST_PRIME (fun _ _ _ => .int _) (de_con F.toFamH (fun _ => rfl) T.g_Scheme (by decide)) (fun _ => rfl)) da_nil))) T.g_is_between T.k_is_between) (de_one (dcp F T.P_is_odd_prime (dc (dv 0) da_nil) T.g_is_odd_prime T.k_is_odd_prime)))))
theorem B_Scheme_is_prime : FnB G 5 T.f_Scheme_is_prime T.d_Scheme_is_prime ["value"] (m_Scheme_is_prime G) := FnB.of T.F_Scheme_is_prime sc_Scheme_is_prime T.e_Scheme_is_prime
theorem P_Scheme_is_prime : FnP G 5 T.f_Scheme_is_prime (mp_Scheme_is_prime G) := T.B_Scheme_is_prime.pos T.b_Scheme_is_prime
theorem b_Scheme__init_ : Binds G.K T.d_Scheme__init_ ["self", "prime", "accounts", "length"] [] := T.F_Scheme__init_.binds fun _ _ _ _ _ _ us hl => match us, hl with | [_, _, _, _], _ => rfl
theorem kb_Scheme__init__1_length_prime_accounts : KBn G.K T.d_Scheme__init_ ["self", "prime", "accounts", "length"] 1 ["length", "prime", "accounts"] (gP Value.none [0, 2, 3, 1]) (gP V.non [0, 2, 3, 1]) := fun_kbn T.F_Scheme__init_ fun _ _ _ _ _ _ us ws h1 h2 => match us, ws, h1, h2 with | [_], [_, _, _], _, _ => rfl
theorem e_Scheme__init_ : ∀ E, DSs (FnX G 5 ["self", "prime", "accounts", "length"] "Scheme.__init__" (defScope s_Scheme__init_) T.f_Scheme__init_ E) G (fun _ => E) (defBody s_Scheme__init_) (c_Scheme__init_ G) := fun E => by
  have F := fnX_fam (G := G) (k := 5) (qual := "Scheme.__init__") (f := T.f_Scheme__init_) sc_Scheme__init_ E
  exact (dss_cons (ds_if (dt_not (dt_val (de_smeth F T.P_Scheme_is_prime (by decide) T.rd_Scheme T.st_Scheme_is_prime (de_con F.toFamH (fun _ => rfl) T.g_Scheme (by decide)) (dc (dv 1) da_nil) (fun _ => rfl) (fun _ => rfl) (fun _ => rfl)) (fun _ _ => rfl))) (dss_one (ds_raise F (by decide) T.x_BadScheme (fun _ => rfl) T.ge_BadScheme (dv 1) rfl (fun _ => rfl) (fun _ => rfl))) dss_nil)
  (dss_cons (ds_if (dt_w (dw_or (dt_not (dt_val (dcp F T.P_is_between (dc (dv 2) (dc (T.c_LEAST_ACCOUNTS F (fun _ => rfl)) (dc (de_cval F.toFamH T.rd_Scheme T.v_Scheme_MOST_ACCOUNTS (fun _ _ _ => .int _) (de_con F.toFamH (fun _ => rfl) T.g_Scheme (by decide)) (fun _ => rfl)) da_nil))) T.g_is_between T.k_is_between) (fun _ _ => rfl))) (dw_or1 (dt_cmp (fun _ => op_ge) (snd_cmp _) (de_op (fun _ => op_mulU) (snd_mul false) (dv 2) (dv 2)) (dv 1) rfl) rfl))) (dss_one (ds_raise F (by decide) T.x_BadScheme (fun _ => rfl) T.ge_BadScheme (dv 2) rfl (fun _ => rfl) (fun _ => rfl))) dss_nil)
  (dss_cons (ds_if (dt_not (dt_val (dcp F T.P_is_between (dc (dv 3) (dc de_int (dc (de_cval F.toFamH T.rd_Scheme T.v_Scheme_MOST_NUMBERS (fun _ _ _ => .int _) (de_con F.toFamH (fun _ => rfl) T.g_Scheme (by decide)) (fun _ => rfl)) da_nil))) T.g_is_between T.k_is_between) (fun _ _ => rfl))) (dss_one (ds_raise F (by decide) T.x_BadScheme (fun _ => rfl) T.ge_BadScheme (dv 3) rfl (fun _ => rfl) (fun _ => rfl))) dss_nil)
  (dss_cons (ds_fld F.toFamH (c := 0) (i := 0) T.cl_Scheme T.n_Scheme_prime_used (by rw [T.fn_Scheme]; rfl) (by rw [T.fn_Scheme]; decide +kernel) (dv 1) (dv 0) (fun _ => rfl))
  (dss_cons (ds_fld F.toFamH (c := 0) (i := 1) T.cl_Scheme T.n_Scheme_accounts_used (by rw [T.fn_Scheme]; rfl) (by rw [T.fn_Scheme]; decide +kernel) (dv 2) (dv 0) (fun _ => rfl))
  (dss_one (ds_fld F.toFamH (c := 0) (i := 2) T.cl_Scheme T.n_Scheme_length_used (by rw [T.fn_Scheme]; rfl) (by rw [T.fn_Scheme]; decide +kernel) (dv 3) (dv 0) (fun _ => rfl))))))))
theorem B_Scheme__init_ : FnB G 6 T.f_Scheme__init_ T.d_Scheme__init_ ["self", "prime", "accounts", "length"] (m_Scheme__init_ G) := FnB.of T.F_Scheme__init_ sc_Scheme__init_ T.e_Scheme__init_
theorem P_Scheme__init_ : FnP G 6 T.f_Scheme__init_ (mp_Scheme__init_ G) := T.B_Scheme__init_.pos T.b_Scheme__init_
theorem k__law_is_prime : PySem.W.keepIn G.K (.ref T.f__law_is_prime) = true := T.F__law_is_prime.kp
theorem b__law_is_prime : Binds G.K T.d__law_is_prime ["_law_item"] [] := T.F__law_is_prime.binds fun _ _ _ _ _ _ us hl => match us, hl with | [_], _ => rfl
theorem e__law_is_prime : ∀ E, DSs (FnX G 0 ["_law_item", "_law_k"] "_law_is_prime" (defScope s__law_is_prime) T.f__law_is_prime E) G (fun _ => E) (defBody s__law_is_prime) (c__law_is_prime G) := fun E => by
  have F := fnX_fam (G := G) (k := 0) (qual := "_law_is_prime") (f := T.f__law_is_prime) sc__law_is_prime E
  exact (dss_cons (ds_if (dt_w (dw_or (dt_not (dt_val (de_callB F.toFamH (fun _ => call_isi) snd_isi (dc (dv 0) (dc (de_ty F.toFamH (fun _ => rfl) T.z_int rfl (by decide) (by decide)) da_nil)) (fun _ => rfl) T.z_isinstance rfl (by decide) (by decide) (fun _ => rfl) (fun _ => rfl)) (fun _ _ => rfl))) (dw_or (dt_val (de_callB F.toFamH (fun _ => call_isi) snd_isi (dc (dv 0) (dc (de_ty F.toFamH (fun _ => rfl) T.z_bool rfl (by decide) (by decide)) da_nil)) (fun _ => rfl) T.z_isinstance rfl (by decide) (by decide) (fun _ => rfl) (fun _ => rfl)) (fun _ _ => rfl)) (dw_or (dt_not (dt_chain (fun _ => op_le) (snd_cmp _) (fun _ => op_le) (snd_cmp _) de_int (dv 0) (de_op (fun _ => op_pow) snd_pow de_int de_int) rfl)) (dw_or1 (dt_cmp (eqD_at F.toFamH) snd_eq (de_op (fun _ => op_mod) snd_mod (dv 0) de_int) de_int rfl) rfl))))) (dss_one (ds_ret de_bl)) dss_nil)
  (dss_cons (ds_set F.toFamH (i := 1) (fun _ => rfl) (fun _ => .inl rfl) (fun _ => .inr rfl) de_int (fun _ => rfl))
  (dss_cons (ds_while (dt_cmp (fun _ => op_le) (snd_cmp _) (de_op (fun _ => op_mulU) (snd_mul false) (dv 1) (dv 1)) (dv 0) rfl) (dss_cons (ds_if (dt_cmp (eqD_at F.toFamH) snd_eq (de_op (fun _ => op_mod) snd_mod (dv 0) (dv 1)) de_int rfl) (dss_one (ds_ret de_bl)) dss_nil)
  (dss_one (ds_set F.toFamH (i := 1) (fun _ => rfl) (fun _ => .inl rfl) (fun _ => .inr rfl) (de_op (fun _ => op_addU) (snd_add false) (dv 1) de_int) (fun _ => rfl)))) owns_fn)
  (dss_one (ds_ret de_bl)))))
theorem B__law_is_prime : FnB G 1 T.f__law_is_prime T.d__law_is_prime ["_law_item"] (m__law_is_prime G) := FnB.of T.F__law_is_prime sc__law_is_prime T.e__law_is_prime
theorem P__law_is_prime : FnP G 1 T.f__law_is_prime (mp__law_is_prime G) := T.B__law_is_prime.pos T.b__law_is_prime
theorem k__law_prime_from : PySem.W.keepIn G.K (.ref T.f__law_prime_from) = true := T.F__law_prime_from.kp
theorem b__law_prime_from : Binds G.K T.d__law_prime_from ["_law_item"] [] := T.F__law_prime_from.binds fun _ _ _ _ _ _ us hl => match us, hl with | [_], _ => rfl
theorem e__law_prime_from : ∀ E, DSs (FnX G 1 ["_law_item"] "_law_prime_from" (defScope s__law_prime_from) T.f__law_prime_from E) G (fun _ => E) (defBody s__law_prime_from) (c__law_prime_from G) := fun E => by
  have F := fnX_fam (G := G) (k := 1) (qual := "_law_prime_from") (f := T.f__law_prime_from) sc__law_prime_from E
  exact (dss_cons (ds_while (dt_not (dt_val (dcp F T.P__law_is_prime (dc (dv 0) da_nil) T.g__law_is_prime T.k__law_is_prime) (fun _ _ => rfl))) (dss_one (ds_set F.toFamH (i := 0) (fun _ => rfl) (fun _ => .inl rfl) (fun _ => .inr rfl) (de_op (fun _ => op_addU) (snd_add false) (dv 0) de_int) (fun _ => rfl))) owns_fn)
  (dss_one (ds_ret (dv 0))))
theorem B__law_prime_from : FnB G 2 T.f__law_prime_from T.d__law_prime_from ["_law_item"] (m__law_prime_from G) := FnB.of T.F__law_prime_from sc__law_prime_from T.e__law_prime_from
theorem P__law_prime_from : FnP G 2 T.f__law_prime_from (mp__law_prime_from G) := T.B__law_prime_from.pos T.b__law_prime_from
theorem k__law_draw : PySem.W.keepIn G.K (.ref T.f__law_draw) = true := T.F__law_draw.kp
theorem b__law_draw : Binds G.K T.d__law_draw ["_law_deck_here", "_law_count"] [] := T.F__law_draw.binds fun _ _ _ _ _ _ us hl => match us, hl with | [_, _], _ => rfl
theorem e__law_draw : ∀ E, DSs (FnX G 0 ["_law_deck_here", "_law_count", "_law_turn", "_law_item", "_law_mixed"] "_law_draw" (defScope s__law_draw) T.f__law_draw E) G (fun _ => E) (defBody s__law_draw) (c__law_draw G) := fun E => by
  have F := fnX_fam (G := G) (k := 0) (qual := "_law_draw") (f := T.f__law_draw) sc__law_draw E
  exact (dss_cons (ds_setI F.toFamH (de_op (fun _ => op_addU) (snd_add false) (de_ix F.toFamH (dv 0) de_str (fun _ _ => rfl)) de_int) (dv 0) de_str (fun _ => rfl) (fun _ => rfl) (fun _ => rfl) (fun _ _ => rfl))
  (dss_cons (ds_par F (i := 2) (j := 3) (fun _ => rfl) (fun _ => rfl) (by decide) (fun _ => rfl) (fun _ => rfl) (de_ix F.toFamH (dv 0) de_str (fun _ _ => rfl)) (de_ix F.toFamH (dv 0) de_str (fun _ _ => rfl)) (fun _ => rfl) (fun _ => rfl) (fun _ => rfl) (fun _ => rfl))
  (dss_cons (ds_if (dt_cmp (neD_at F.toFamH) snd_ne (de_ix F.toFamH (dv 0) de_str (fun _ _ => rfl)) (de_lst false da_nil) rfl) (dss_cons (ds_set F.toFamH (i := 3) (fun _ => rfl) (fun _ => .inl rfl) (fun _ => .inr rfl) (de_meth0 F.toFamH PySem.F.plainAttrs_list PySem.F.slot_list_pop PySem.F.type_list_pop (fun _ => mt_pop) snd_pop (fun _ _ _ _ _ R r h => isL_ty R r h) (de_ix F.toFamH (dv 0) de_str (fun _ _ => rfl)) (fun _ => rfl) rfl) (fun _ => rfl))
  (dss_cons (ds_if (dt_cmp (fun _ => op_ge) (snd_cmp _) (dv 3) (de_op (fun _ => op_pow) snd_pow de_int de_int) rfl) (dss_cons (ds_expr (de_meth F.toFamH PySem.F.plainAttrs_list PySem.F.slot_list_append PySem.F.type_list_append (fun _ => mt_append) snd_append (fun _ _ _ _ _ R r h => isL_ty R r h) (de_ix F.toFamH (dv 0) de_str (fun _ _ => rfl)) (dc (de_op (fun _ => op_fdivW) snd_fdiv (dv 3) (dv 1)) da_nil) (fun _ => rfl) (fun _ => rfl) rfl (fun _ => rfl) (fun _ => rfl)) (fun _ => rfl))
  (dss_one (ds_ret (de_op (fun _ => op_mod) snd_mod (dv 3) (dv 1))))) dss_nil)
  (dss_one (ds_set F.toFamH (i := 3) (fun _ => rfl) (fun _ => .inl rfl) (fun _ => .inr rfl) (de_op (fun _ => op_addU) (snd_add false) (dv 3) (de_ix F.toFamH (dv 0) de_str (fun _ _ => rfl))) (fun _ => rfl))))) dss_nil)
  (dss_cons (ds_set F.toFamH (i := 4) (fun _ => rfl) (fun _ => .inl rfl) (fun _ => .inr rfl) (de_op (fun _ => op_mod) snd_mod (de_op (fun _ => op_mulU) (snd_mul false) (de_op (fun _ => op_addU) (snd_add false) (de_op (fun _ => op_addU) (snd_add false) (de_op (fun _ => op_mod) snd_mod (dv 3) de_int) (de_op (fun _ => op_mulU) (snd_mul false) (de_op (fun _ => op_mulU) (snd_mul false) de_int (dv 2)) (dv 2))) de_int) de_int) de_int) (fun _ => rfl))
  (dss_cons (ds_set F.toFamH (i := 4) (fun _ => rfl) (fun _ => .inl rfl) (fun _ => .inr rfl) (de_op (fun _ => op_mod) snd_mod (de_op (fun _ => op_addU) (snd_add false) (de_op (fun _ => op_addU) (snd_add false) (de_op (fun _ => op_mulU) (snd_mul false) (dv 4) (dv 4)) (de_op (fun _ => op_mulU) (snd_mul false) de_int (dv 2))) de_int) de_int) (fun _ => rfl))
  (dss_one (ds_ret (de_op (fun _ => op_mod) snd_mod (de_op (fun _ => op_fdivW) snd_fdiv (de_op (fun _ => op_mod) snd_mod (de_op (fun _ => op_addU) (snd_add false) (de_op (fun _ => op_mulU) (snd_mul false) (dv 4) de_int) (de_op (fun _ => op_fdivW) snd_fdiv (dv 4) de_int)) de_int) de_int) (dv 1)))))))))
theorem B__law_draw : FnB G 1 T.f__law_draw T.d__law_draw ["_law_deck_here", "_law_count"] (m__law_draw G) := FnB.of T.F__law_draw sc__law_draw T.e__law_draw
theorem P__law_draw : FnP G 1 T.f__law_draw (mp__law_draw G) := T.B__law_draw.pos T.b__law_draw
theorem k__law_pick : PySem.W.keepIn G.K (.ref T.f__law_pick) = true := T.F__law_pick.kp
theorem b__law_pick : Binds G.K T.d__law_pick ["_law_deck_here", "_law_options"] [] := T.F__law_pick.binds fun _ _ _ _ _ _ us hl => match us, hl with | [_, _], _ => rfl
theorem e__law_pick : ∀ E, DSs (FnX G 1 ["_law_deck_here", "_law_options"] "_law_pick" (defScope s__law_pick) T.f__law_pick E) G (fun _ => E) (defBody s__law_pick) (c__law_pick G) := fun E => by
  have F := fnX_fam (G := G) (k := 1) (qual := "_law_pick") (f := T.f__law_pick) sc__law_pick E
  exact (dss_one (ds_ret (de_ix F.toFamH (dv 1) (dcp F T.P__law_draw (dc (dv 0) (dc (de_callB F.toFamH (fun _ => call_lenU) snd_len (dc (dv 1) da_nil) (fun _ => rfl) T.z_len rfl (by decide) (by decide) (fun _ => rfl) (fun _ => rfl)) da_nil)) T.g__law_draw T.k__law_draw) (fun _ _ => rfl))))
theorem B__law_pick : FnB G 2 T.f__law_pick T.d__law_pick ["_law_deck_here", "_law_options"] (m__law_pick G) := FnB.of T.F__law_pick sc__law_pick T.e__law_pick
theorem P__law_pick : FnP G 2 T.f__law_pick (mp__law_pick G) := T.B__law_pick.pos T.b__law_pick
theorem k__law_parts : PySem.W.keepIn G.K (.ref T.f__law_parts) = true := T.F__law_parts.kp
theorem b__law_parts : Binds G.K T.d__law_parts ["_law_deck_here"] [] := T.F__law_parts.binds fun _ _ _ _ _ _ us hl => match us, hl with | [_], _ => rfl
theorem e__law_parts : ∀ E, DSs (FnX G 2 ["_law_deck_here", "_law_n", "_law_size", "_law_style", "_law_near", "_law_p", "_law_odd", "_law_k", "_law_place", "_law_odd_one"] "_law_parts" (defScope s__law_parts) T.f__law_parts E) G (fun _ => E) (defBody s__law_parts) (c__law_parts G) := fun E => by
  have F := fnX_fam (G := G) (k := 2) (qual := "_law_parts") (f := T.f__law_parts) sc__law_parts E
  exact (dss_cons (ds_par3 F (i := 1) (j := 2) (l := 3) (fun _ => rfl) (fun _ => rfl) (fun _ => rfl) (by decide) (by decide) (by decide) (fun _ => rfl) (fun _ => rfl) (fun _ => rfl) (de_op (fun _ => op_addU) (snd_add false) de_int (dcp F T.P__law_draw (dc (dv 0) (dc de_int da_nil)) T.g__law_draw T.k__law_draw)) (de_op (fun _ => op_addU) (snd_add false) de_int (dcp F T.P__law_draw (dc (dv 0) (dc de_int da_nil)) T.g__law_draw T.k__law_draw)) (dcp F T.P__law_draw (dc (dv 0) (dc de_int da_nil)) T.g__law_draw T.k__law_draw) (fun _ => rfl) (fun _ => rfl) (fun _ => rfl) (fun _ => rfl) (fun _ => rfl))
  (dss_cons (ds_set F.toFamH (i := 4) (fun _ => rfl) (fun _ => .inl rfl) (fun _ => .inr rfl) (de_ix F.toFamH (de_lst false (dc (de_op (fun _ => op_addU) (snd_add false) (de_op (fun _ => op_mulU) (snd_mul false) (dv 1) (dv 1)) de_int) (dc (de_op (fun _ => op_addU) (snd_add false) (de_op (fun _ => op_mulU) (snd_mul false) (dv 1) (dv 1)) de_int) (dc (de_op (fun _ => op_addU) (snd_add false) de_int (dcp F T.P__law_draw (dc (dv 0) (dc de_int da_nil)) T.g__law_draw T.k__law_draw)) (dc (de_op (fun _ => op_addU) (snd_add false) de_int (dcp F T.P__law_draw (dc (dv 0) (dc de_int da_nil)) T.g__law_draw T.k__law_draw)) (dc (de_op (fun _ => op_mulU) (snd_mul false) (dv 1) (dv 1)) (dc (de_op (fun _ => op_pow) snd_pow de_int de_int) da_nil))))))) (dv 3) (fun _ _ => rfl)) (fun _ => rfl))
  (dss_cons (ds_set F.toFamH (i := 5) (fun _ => rfl) (fun _ => .inl rfl) (fun _ => .inr rfl) (dcp F T.P__law_prime_from (dc (dv 4) da_nil) T.g__law_prime_from T.k__law_prime_from) (fun _ => rfl))
  (dss_cons (ds_set F.toFamH (i := 6) (fun _ => rfl) (fun _ => .inl rfl) (fun _ => .inr rfl) (de_lst false (dc de_non (dc de_bl (dc de_bl (dc de_str (dc de_str (dc (de_tup da_nil) (dc (de_tup (dc de_int da_nil)) (dc (de_lst false da_nil) (dc (de_lst false (dc de_int da_nil)) (dc (de_dK0 false) (dc (de_dispK false F (dps_cons de_int de_int dps_nil) rfl rfl (List.cons_ne_nil _ _) (by decide)) (dc de_int (dc (de_un (fun _ => un_neg) snd_neg de_int) (dc (de_un (fun _ => un_neg) snd_neg de_int) (dc de_int (dc de_int (dc de_int (dc (de_op (fun _ => op_pow) snd_pow de_int de_int) (dc (de_op (fun _ => op_pow) snd_pow de_int de_int) da_nil)))))))))))))))))))) (fun _ => rfl))
  (dss_cons (ds_set F.toFamH (i := 6) (fun _ => rfl) (fun _ => .inl rfl) (fun _ => .inr rfl) (de_op (fun _ => op_addU) (snd_add false) (dv 6) (de_lst false (dc (de_op (fun _ => op_addU) (snd_add false) (de_op (fun _ => op_pow) snd_pow de_int de_int) de_int) (dc (de_op (fun _ => op_mulU) (snd_mul false) (dv 1) (dv 1)) (dc (de_op (fun _ => op_sub) snd_sub (de_op (fun _ => op_mulU) (snd_mul false) (dv 1) (dv 1)) de_int) (dc (de_op (fun _ => op_sub) snd_sub (dv 5) de_int) (dc (de_op (fun _ => op_addU) (snd_add false) (dv 5) de_int) (dc (de_op (fun _ => op_mulU) (snd_mul false) (dv 5) (dv 5)) (dc (de_op (fun _ => op_sub) snd_sub de_int (dv 5)) (dc de_int (dc de_int (dc de_int (dc de_int (dc (de_tup (dc (dv 5) (dc (dv 1) (dc (dv 2) da_nil)))) (dc (de_op (fun _ => op_addU) (snd_add false) de_int de_int) da_nil))))))))))))))) (fun _ => rfl))
  (dss_cons (ds_for F (di_rng1 F.toFamH (dc de_int da_nil) (fun _ => rfl) T.z_range (fun _ => rfl)) (dn F.toFamH 7) (dss_cons (ds_par F (i := 8) (j := 9) (fun _ => rfl) (fun _ => rfl) (by decide) (fun _ => rfl) (fun _ => rfl) (dcp F T.P__law_draw (dc (dv 0) (dc de_int da_nil)) T.g__law_draw T.k__law_draw) (dcp F T.P__law_pick (dc (dv 0) (dc (dv 6) da_nil)) T.g__law_pick T.k__law_pick) (fun _ => rfl) (fun _ => rfl) (fun _ => rfl) (fun _ => rfl))
  (dss_one (ds_asg (de_if (dt_cmp (fun _ => op_gt) (snd_cmp _) (dv 8) de_int rfl) (de_ix F.toFamH (de_lst false (dc (de_tup (dc (dv 9) (dc (dv 1) (dc (dv 2) da_nil)))) (dc (de_tup (dc (dv 5) (dc (dv 9) (dc (dv 2) da_nil)))) (dc (de_tup (dc (dv 5) (dc (dv 1) (dc (dv 9) da_nil)))) da_nil)))) (de_op (fun _ => op_mod) snd_mod (dv 8) de_int) (fun _ _ => rfl)) (de_tup (dc (dv 5) (dc (dv 1) (dc (dv 2) da_nil))))) (dg_tup F.toFamH (n := 3) (dgs_cons (dn F.toFamH 5) (dgs_cons (dn F.toFamH 1) (dgs_cons (dn F.toFamH 2) dgs_nil (fun _ => rfl)) (fun _ => rfl)) (fun _ => rfl)) rfl (fun j t h => pg_or (pg_tup (F.calm j) h) (pg_lst (F.calm j) h))) (fun _ => rfl) (fun _ => rfl) (fun _ => rfl)))) owns_fn (fun _ _ => rfl))
  (dss_one (ds_ret (de_tup (dc (dv 5) (dc (dv 1) (dc (dv 2) da_nil))))))))))))
theorem B__law_parts : FnB G 3 T.f__law_parts T.d__law_parts ["_law_deck_here"] (m__law_parts G) := FnB.of T.F__law_parts sc__law_parts T.e__law_parts
theorem P__law_parts : FnP G 3 T.f__law_parts (mp__law_parts G) := T.B__law_parts.pos T.b__law_parts
theorem k__law_is_between : PySem.W.keepIn G.K (.ref T.f__law_is_between) = true := T.F__law_is_between.kp
theorem b__law_is_between : Binds G.K T.d__law_is_between ["_law_item", "_law_least", "_law_most"] [] := T.F__law_is_between.binds fun _ _ _ _ _ _ us hl => match us, hl with | [_, _, _], _ => rfl
theorem e__law_is_between : ∀ E, DSs (FnX G 0 ["_law_item", "_law_least", "_law_most"] "_law_is_between" (defScope s__law_is_between) T.f__law_is_between E) G (fun _ => E) (defBody s__law_is_between) (c__law_is_between G) := fun E => by
  have F := fnX_fam (G := G) (k := 0) (qual := "_law_is_between") (f := T.f__law_is_between) sc__law_is_between E
  exact (dss_one (ds_ret (de_and (de_callB F.toFamH (fun _ => call_isi) snd_isi (dc (dv 0) (dc (de_ty F.toFamH (fun _ => rfl) T.z_int rfl (by decide) (by decide)) da_nil)) (fun _ => rfl) T.z_isinstance rfl (by decide) (by decide) (fun _ => rfl) (fun _ => rfl)) (de_and (de_not (de_callB F.toFamH (fun _ => call_isi) snd_isi (dc (dv 0) (dc (de_ty F.toFamH (fun _ => rfl) T.z_bool rfl (by decide) (by decide)) da_nil)) (fun _ => rfl) T.z_isinstance rfl (by decide) (by decide) (fun _ => rfl) (fun _ => rfl))) (de_one (de_chain (fun _ => op_le) (snd_cmp _) (fun _ => op_le) (snd_cmp _) (dv 1) (dv 0) (dv 2) rfl))))))
theorem B__law_is_between : FnB G 1 T.f__law_is_between T.d__law_is_between ["_law_item", "_law_least", "_law_most"] (m__law_is_between G) := FnB.of T.F__law_is_between sc__law_is_between T.e__law_is_between
theorem P__law_is_between : FnP G 1 T.f__law_is_between (mp__law_is_between G) := T.B__law_is_between.pos T.b__law_is_between
theorem k__law_wrong : PySem.W.keepIn G.K (.ref T.f__law_wrong) = true := T.F__law_wrong.kp
theorem b__law_wrong : Binds G.K T.d__law_wrong ["_law_parts_here"] [] := T.F__law_wrong.binds fun _ _ _ _ _ _ us hl => match us, hl with | [_], _ => rfl
theorem e__law_wrong : ∀ E, DSs (FnX G 1 ["_law_parts_here", "_law_p", "_law_n", "_law_size"] "_law_wrong" (defScope s__law_wrong) T.f__law_wrong E) G (fun _ => E) (defBody s__law_wrong) (c__law_wrong G) := fun E => by
  have F := fnX_fam (G := G) (k := 1) (qual := "_law_wrong") (f := T.f__law_wrong) sc__law_wrong E
  exact (dss_cons (ds_asg (dv 0) (dg_tup F.toFamH (n := 3) (dgs_cons (dn F.toFamH 1) (dgs_cons (dn F.toFamH 2) (dgs_cons (dn F.toFamH 3) dgs_nil (fun _ => rfl)) (fun _ => rfl)) (fun _ => rfl)) rfl (fun j t h => pg_or (pg_tup (F.calm j) h) (pg_lst (F.calm j) h))) (fun _ => rfl) (fun _ => rfl) (fun _ => rfl))
  (dss_cons (ds_if (dt_not (dt_val (dcp F T.P__law_is_prime (dc (dv 1) da_nil) T.g__law_is_prime T.k__law_is_prime) (fun _ _ => rfl))) (dss_one (ds_ret de_int)) dss_nil)
  (dss_cons (ds_if (dt_w (dw_or (dt_not (dt_val (dcp F T.P__law_is_between (dc (dv 2) (dc de_int (dc de_int da_nil))) T.g__law_is_between T.k__law_is_between) (fun _ _ => rfl))) (dw_or1 (dt_cmp (fun _ => op_ge) (snd_cmp _) (de_op (fun _ => op_mulU) (snd_mul false) (dv 2) (dv 2)) (dv 1) rfl) rfl))) (dss_one (ds_ret de_int)) dss_nil)
  (dss_one (ds_ret (de_if (dt_val (dcp F T.P__law_is_between (dc (dv 3) (dc de_int (dc de_int da_nil))) T.g__law_is_between T.k__law_is_between) (fun _ _ => rfl)) de_non de_int))))))
theorem B__law_wrong : FnB G 2 T.f__law_wrong T.d__law_wrong ["_law_parts_here"] (m__law_wrong G) := FnB.of T.F__law_wrong sc__law_wrong T.e__law_wrong
theorem P__law_wrong : FnP G 2 T.f__law_wrong (mp__law_wrong G) := T.B__law_wrong.pos T.b__law_wrong
theorem k__law_outcome : PySem.W.keepIn G.K (.ref T.f__law_outcome) = true := T.F__law_outcome.kp
theorem b__law_outcome : Binds G.K T.d__law_outcome ["_law_parts_here", "_law_by_keyword"] [] := T.F__law_outcome.binds fun _ _ _ _ _ _ us hl => match us, hl with | [_, _], _ => rfl
theorem e__law_outcome : ∀ E, DSs (FnX G 7 ["_law_parts_here", "_law_by_keyword", "_law_result", "e"] "_law_outcome" (defScope s__law_outcome) T.f__law_outcome E) G (fun _ => E) (defBody s__law_outcome) (c__law_outcome G) := fun E => by
  have F := fnX_fam (G := G) (k := 7) (qual := "_law_outcome") (f := T.f__law_outcome) sc__law_outcome E
  exact (dss_cons (ds_set F.toFamH (i := 2) (fun _ => rfl) (fun _ => .inl rfl) (fun _ => .inr rfl) (de_tup (dc de_non (dc de_str da_nil))) (fun _ => rfl))
  (dss_cons (ds_try F T.cu (i := 3) (fun _ => rfl) (fun _ => rfl) (fun _ => rfl) (fun _ => rfl) (fun j => ⟨rfl, rfl, .inl (by rw [F.mg j]; exact T.ge_BadScheme)⟩) T.hm_BadScheme (fun E1 F1 => (dss_one (ds_if (dt_val (dv 1) (fun _ _ => rfl)) (dss_one (ds_set F1.toFamH (i := 2) (fun _ => rfl) (fun _ => .inl rfl) (fun _ => .inr rfl) (de_tup (dc (de_makeK0 (x := "Scheme") false F1 T.B_Scheme__init_ (by decide) (c := 0) T.mk_Scheme T.kb_Scheme__init__1_length_prime_accounts (gP_ok (perm := [0, 2, 3, 1]) rfl) (dk_cons (de_ix F1.toFamH (dv 0) de_int (fun _ _ => rfl)) (dk_cons (de_ix F1.toFamH (dv 0) de_int (fun _ _ => rfl)) (dk_cons (de_ix F1.toFamH (dv 0) de_int (fun _ _ => rfl)) dk_nil))) (fun _ => rfl) (fun _ => rfl) (fun _ => rfl) T.g_Scheme (by decide) (fun _ => rfl)) (dc de_non da_nil))) (fun _ => rfl))) (dss_one (ds_set F1.toFamH (i := 2) (fun _ => rfl) (fun _ => .inl rfl) (fun _ => .inr rfl) (de_tup (dc (de_make false F1 T.P_Scheme__init_ (by decide) (c := 0) T.mk_Scheme (dc (de_ix F1.toFamH (dv 0) de_int (fun _ _ => rfl)) (dc (de_ix F1.toFamH (dv 0) de_int (fun _ _ => rfl)) (dc (de_ix F1.toFamH (dv 0) de_int (fun _ _ => rfl)) da_nil))) (fun _ => rfl) T.g_Scheme (by decide) (fun _ => rfl) (fun _ => rfl)) (dc de_non da_nil))) (fun _ => rfl)))))) (fun a dx C F2 => (dss_one (ds_if (dt_w (dw_and (dt_val (de_callB F2 (fun p => call_isF F.toFamH p) (snd_isE rfl T.he_CrossError T.hk_CrossError) (dc (dv 3) (dc (de_con F2 (fun _ => rfl) T.ge_CrossError (by decide)) da_nil)) (fun _ => rfl) T.z_isinstance rfl (by decide) (by decide) (fun _ => rfl) (fun _ => rfl)) (fun _ _ => rfl)) (dw_and1 (dt_not (dt_val (de_callB F2 (fun p => call_isF F.toFamH p) (snd_isEs rfl T.hes_BadAmount_BadText_UnknownAccount_NoInverse T.hks_BadAmount_BadText_UnknownAccount_NoInverse) (dc (dv 3) (dc (de_tup (dc (de_con F2 (fun _ => rfl) T.ge_BadAmount (by decide)) (dc (de_con F2 (fun _ => rfl) T.ge_BadText (by decide)) (dc (de_con F2 (fun _ => rfl) T.ge_UnknownAccount (by decide)) (dc (de_con F2 (fun _ => rfl) T.ge_NoInverse (by decide)) da_nil))))) da_nil)) (fun _ => rfl) T.z_isinstance rfl (by decide) (by decide) (fun _ => rfl) (fun _ => rfl)) (fun _ _ => rfl))) rfl))) (dss_one (ds_set F2 (i := 2) (fun _ => rfl) (fun _ => .inl rfl) (fun _ => .inr rfl) (de_tup (dc de_non (dc (de_callB F2 (call_reprYC F2) snd_reprY (dc (de_xf F.toFamH T.xfc_BadScheme (by rw [T.xf_BadScheme]; exact T.xn_BadScheme) (dv 3) T.xf_BadScheme (fun _ => rfl)) da_nil) (fun _ => rfl) T.z_repr rfl (by decide) (by decide) (fun _ => rfl) (fun _ => rfl)) da_nil))) (fun _ => rfl))) dss_nil))))
  (dss_one (ds_ret (dv 2)))))
theorem B__law_outcome : FnB G 8 T.f__law_outcome T.d__law_outcome ["_law_parts_here", "_law_by_keyword"] (m__law_outcome G) := FnB.of T.F__law_outcome sc__law_outcome T.e__law_outcome
theorem P__law_outcome : FnP G 8 T.f__law_outcome (mp__law_outcome G) := T.B__law_outcome.pos T.b__law_outcome
theorem b_Scheme_shortened : Binds G.K T.d_Scheme_shortened ["self", "length"] [] := T.F_Scheme_shortened.binds fun _ _ _ _ _ _ us hl => match us, hl with | [_, _], _ => rfl
theorem kb_Scheme_shortened_1_length : KBn G.K T.d_Scheme_shortened ["self", "length"] 1 ["length"] (gP Value.none [0, 1]) (gP V.non [0, 1]) := fun_kbn T.F_Scheme_shortened fun _ _ _ _ _ _ us ws h1 h2 => match us, ws, h1, h2 with | [_], [_], _, _ => rfl
theorem e_Scheme_shortened : ∀ E, DSs (FnX G 7 ["self", "length"] "Scheme.shortened" (defScope s_Scheme_shortened) T.f_Scheme_shortened E) G (fun _ => E) (defBody s_Scheme_shortened) (c_Scheme_shortened G) := fun E => by
  have F := fnX_fam (G := G) (k := 7) (qual := "Scheme.shortened") (f := T.f_Scheme_shortened) sc_Scheme_shortened E
  exact (dss_one (ds_ret (de_make false F T.P_Scheme__init_ (by decide) (c := 0) T.mk_Scheme (dc (de_fld F.toFamH (i := 0) T.cl_Scheme T.n_Scheme_prime_used (by rw [T.fn_Scheme]; rfl) (by rw [T.fn_Scheme]; decide +kernel) (fun _ => rfl) (dv 0)) (dc (de_fld F.toFamH (i := 1) T.cl_Scheme T.n_Scheme_accounts_used (by rw [T.fn_Scheme]; rfl) (by rw [T.fn_Scheme]; decide +kernel) (fun _ => rfl) (dv 0)) (dc (dv 1) da_nil))) (fun _ => rfl) T.g_Scheme (by decide) (fun _ => rfl) (fun _ => rfl))))
theorem B_Scheme_shortened : FnB G 8 T.f_Scheme_shortened T.d_Scheme_shortened ["self", "length"] (m_Scheme_shortened G) := FnB.of T.F_Scheme_shortened sc_Scheme_shortened T.e_Scheme_shortened
theorem P_Scheme_shortened : FnP G 8 T.f_Scheme_shortened (mp_Scheme_shortened G) := T.B_Scheme_shortened.pos T.b_Scheme_shortened
theorem b_Scheme_is_same : Binds G.K T.d_Scheme_is_same ["self", "other"] [] := T.F_Scheme_is_same.binds fun _ _ _ _ _ _ us hl => match us, hl with | [_, _], _ => rfl
theorem kb_Scheme_is_same_1_other : KBn G.K T.d_Scheme_is_same ["self", "other"] 1 ["other"] (gP Value.none [0, 1]) (gP V.non [0, 1]) := fun_kbn T.F_Scheme_is_same fun _ _ _ _ _ _ us ws h1 h2 => match us, ws, h1, h2 with | [_], [_], _, _ => rfl
theorem e_Scheme_is_same : ∀ E, DSs (FnX G 0 ["self", "other", "own"] "Scheme.is_same" (defScope s_Scheme_is_same) T.f_Scheme_is_same E) G (fun _ => E) (defBody s_Scheme_is_same) (c_Scheme_is_same G) := fun E => by
  have F := fnX_fam (G := G) (k := 0) (qual := "Scheme.is_same") (f := T.f_Scheme_is_same) sc_Scheme_is_same E
  exact (dss_cons (ds_if (dt_not (dt_val (de_callB F.toFamH (fun _ => call_isi) (snd_isiA T.cl_Scheme T.ia_Scheme) (dc (dv 1) (dc (de_con F.toFamH (fun _ => rfl) T.g_Scheme (by decide)) da_nil)) (fun _ => rfl) T.z_isinstance rfl (by decide) (by decide) (fun _ => rfl) (fun _ => rfl)) (fun _ _ => rfl))) (dss_one (ds_ret de_bl)) dss_nil)
  (dss_cons (ds_set F.toFamH (i := 2) (fun _ => rfl) (fun _ => .inl rfl) (fun _ => .inr rfl) (de_tup (dc (de_fld F.toFamH (i := 0) T.cl_Scheme T.n_Scheme_prime_used (by rw [T.fn_Scheme]; rfl) (by rw [T.fn_Scheme]; decide +kernel) (fun _ => rfl) (dv 0)) (dc (de_fld F.toFamH (i := 1) T.cl_Scheme T.n_Scheme_accounts_used (by rw [T.fn_Scheme]; rfl) (by rw [T.fn_Scheme]; decide +kernel) (fun _ => rfl) (dv 0)) (dc (de_fld F.toFamH (i := 2) T.cl_Scheme T.n_Scheme_length_used (by rw [T.fn_Scheme]; rfl) (by rw [T.fn_Scheme]; decide +kernel) (fun _ => rfl) (dv 0)) da_nil)))) (fun _ => rfl))
  (dss_one (ds_ret (de_cmp (eqD_at F.toFamH) snd_eq (dv 2) (de_tup (dc (de_fld F.toFamH (i := 0) T.cl_Scheme T.n_Scheme_prime_used (by rw [T.fn_Scheme]; rfl) (by rw [T.fn_Scheme]; decide +kernel) (fun _ => rfl) (dv 1)) (dc (de_fld F.toFamH (i := 1) T.cl_Scheme T.n_Scheme_accounts_used (by rw [T.fn_Scheme]; rfl) (by rw [T.fn_Scheme]; decide +kernel) (fun _ => rfl) (dv 1)) (dc (de_fld F.toFamH (i := 2) T.cl_Scheme T.n_Scheme_length_used (by rw [T.fn_Scheme]; rfl) (by rw [T.fn_Scheme]; decide +kernel) (fun _ => rfl) (dv 1)) da_nil)))) rfl)))))
theorem B_Scheme_is_same : FnB G 1 T.f_Scheme_is_same T.d_Scheme_is_same ["self", "other"] (m_Scheme_is_same G) := FnB.of T.F_Scheme_is_same sc_Scheme_is_same T.e_Scheme_is_same
theorem P_Scheme_is_same : FnP G 1 T.f_Scheme_is_same (mp_Scheme_is_same G) := T.B_Scheme_is_same.pos T.b_Scheme_is_same
theorem b_Scheme_prime : Binds G.K T.d_Scheme_prime ["self"] [] := T.F_Scheme_prime.binds fun _ _ _ _ _ _ us hl => match us, hl with | [_], _ => rfl
theorem e_Scheme_prime : ∀ E, DSs (FnX G 0 ["self"] "Scheme.prime" (defScope s_Scheme_prime) T.f_Scheme_prime E) G (fun _ => E) (defBody s_Scheme_prime) (c_Scheme_prime G) := fun E => by
  have F := fnX_fam (G := G) (k := 0) (qual := "Scheme.prime") (f := T.f_Scheme_prime) sc_Scheme_prime E
  exact (dss_one (ds_ret (de_fld F.toFamH (i := 0) T.cl_Scheme T.n_Scheme_prime_used (by rw [T.fn_Scheme]; rfl) (by rw [T.fn_Scheme]; decide +kernel) (fun _ => rfl) (dv 0))))
theorem B_Scheme_prime : FnB G 1 T.f_Scheme_prime T.d_Scheme_prime ["self"] (m_Scheme_prime G) := FnB.of T.F_Scheme_prime sc_Scheme_prime T.e_Scheme_prime
theorem b_Scheme_accounts : Binds G.K T.d_Scheme_accounts ["self"] [] := T.F_Scheme_accounts.binds fun _ _ _ _ _ _ us hl => match us, hl with | [_], _ => rfl
theorem e_Scheme_accounts : ∀ E, DSs (FnX G 0 ["self"] "Scheme.accounts" (defScope s_Scheme_accounts) T.f_Scheme_accounts E) G (fun _ => E) (defBody s_Scheme_accounts) (c_Scheme_accounts G) := fun E => by
  have F := fnX_fam (G := G) (k := 0) (qual := "Scheme.accounts") (f := T.f_Scheme_accounts) sc_Scheme_accounts E
  exact (dss_one (ds_ret (de_fld F.toFamH (i := 1) T.cl_Scheme T.n_Scheme_accounts_used (by rw [T.fn_Scheme]; rfl) (by rw [T.fn_Scheme]; decide +kernel) (fun _ => rfl) (dv 0))))
theorem B_Scheme_accounts : FnB G 1 T.f_Scheme_accounts T.d_Scheme_accounts ["self"] (m_Scheme_accounts G) := FnB.of T.F_Scheme_accounts sc_Scheme_accounts T.e_Scheme_accounts
theorem b_Scheme_length : Binds G.K T.d_Scheme_length ["self"] [] := T.F_Scheme_length.binds fun _ _ _ _ _ _ us hl => match us, hl with | [_], _ => rfl
theorem e_Scheme_length : ∀ E, DSs (FnX G 0 ["self"] "Scheme.length" (defScope s_Scheme_length) T.f_Scheme_length E) G (fun _ => E) (defBody s_Scheme_length) (c_Scheme_length G) := fun E => by
  have F := fnX_fam (G := G) (k := 0) (qual := "Scheme.length") (f := T.f_Scheme_length) sc_Scheme_length E
  exact (dss_one (ds_ret (de_fld F.toFamH (i := 2) T.cl_Scheme T.n_Scheme_length_used (by rw [T.fn_Scheme]; rfl) (by rw [T.fn_Scheme]; decide +kernel) (fun _ => rfl) (dv 0))))
theorem B_Scheme_length : FnB G 1 T.f_Scheme_length T.d_Scheme_length ["self"] (m_Scheme_length G) := FnB.of T.F_Scheme_length sc_Scheme_length T.e_Scheme_length
theorem b_Scheme_largest_amount : Binds G.K T.d_Scheme_largest_amount ["self"] [] := T.F_Scheme_largest_amount.binds fun _ _ _ _ _ _ us hl => match us, hl with | [_], _ => rfl
theorem e_Scheme_largest_amount : ∀ E, DSs (FnX G 0 ["self"] "Scheme.largest_amount" (defScope s_Scheme_largest_amount) T.f_Scheme_largest_amount E) G (fun _ => E) (defBody s_Scheme_largest_amount) (c_Scheme_largest_amount G) := fun E => by
  have F := fnX_fam (G := G) (k := 0) (qual := "Scheme.largest_amount") (f := T.f_Scheme_largest_amount) sc_Scheme_largest_amount E
  exact (dss_one (ds_ret (de_op (fun _ => op_fdivW) snd_fdiv (de_op (fun _ => op_sub) snd_sub (de_fld F.toFamH (i := 0) T.cl_Scheme T.n_Scheme_prime_used (by rw [T.fn_Scheme]; rfl) (by rw [T.fn_Scheme]; decide +kernel) (fun _ => rfl) (dv 0)) de_int) de_int)))
theorem B_Scheme_largest_amount : FnB G 1 T.f_Scheme_largest_amount T.d_Scheme_largest_amount ["self"] (m_Scheme_largest_amount G) := FnB.of T.F_Scheme_largest_amount sc_Scheme_largest_amount T.e_Scheme_largest_amount
theorem k__law_numbers : PySem.W.keepIn G.K (.ref T.f__law_numbers) = true := T.F__law_numbers.kp
theorem b__law_numbers : Binds G.K T.d__law_numbers ["_law_found"] [] := T.F__law_numbers.binds fun _ _ _ _ _ _ us hl => match us, hl with | [_], _ => rfl
theorem e__law_numbers : ∀ E, DSs (FnX G 2 ["_law_found"] "_law_numbers" (defScope s__law_numbers) T.f__law_numbers E) G (fun _ => E) (defBody s__law_numbers) (c__law_numbers G) := fun E => by
  have F := fnX_fam (G := G) (k := 2) (qual := "_law_numbers") (f := T.f__law_numbers) sc__law_numbers E
  exact (dss_one (ds_ret (de_tup (dc (de_prop F (T.B_Scheme_prime) (by decide) T.cl_Scheme T.p_Scheme_prime T.b_Scheme_prime rfl (fun _ => rfl) (dv 0)) (dc (de_prop F (T.B_Scheme_accounts) (by decide) T.cl_Scheme T.p_Scheme_accounts T.b_Scheme_accounts rfl (fun _ => rfl) (dv 0)) (dc (de_prop F (T.B_Scheme_length) (by decide) T.cl_Scheme T.p_Scheme_length T.b_Scheme_length rfl (fun _ => rfl) (dv 0)) (dc (de_prop F (T.B_Scheme_largest_amount) (by decide) T.cl_Scheme T.p_Scheme_largest_amount T.b_Scheme_largest_amount rfl (fun _ => rfl) (dv 0)) da_nil)))))))
theorem B__law_numbers : FnB G 3 T.f__law_numbers T.d__law_numbers ["_law_found"] (m__law_numbers G) := FnB.of T.F__law_numbers sc__law_numbers T.e__law_numbers
theorem P__law_numbers : FnP G 3 T.f__law_numbers (mp__law_numbers G) := T.B__law_numbers.pos T.b__law_numbers
theorem k__law_created_correct : PySem.W.keepIn G.K (.ref T.f__law_created_correct) = true := T.F__law_created_correct.kp
theorem b__law_created_correct : Binds G.K T.d__law_created_correct ["_law_found", "_law_parts_here"] [] := T.F__law_created_correct.binds fun _ _ _ _ _ _ us hl => match us, hl with | [_, _], _ => rfl
theorem e__law_created_correct : ∀ E, DSs (FnX G 8 ["_law_found", "_law_parts_here", "_law_p", "_law_n", "_law_size", "_law_expected", "_law_k", "_law_short", "_law_unlike", "_law_one"] "_law_created_correct" (defScope s__law_created_correct) T.f__law_created_correct E) G (fun _ => E) (defBody s__law_created_correct) (c__law_created_correct G) := fun E => by
  have F := fnX_fam (G := G) (k := 8) (qual := "_law_created_correct") (f := T.f__law_created_correct) sc__law_created_correct E
  exact (dss_cons (ds_asg (dv 1) (dg_tup F.toFamH (n := 3) (dgs_cons (dn F.toFamH 2) (dgs_cons (dn F.toFamH 3) (dgs_cons (dn F.toFamH 4) dgs_nil (fun _ => rfl)) (fun _ => rfl)) (fun _ => rfl)) rfl (fun j t h => pg_or (pg_tup (F.calm j) h) (pg_lst (F.calm j) h))) (fun _ => rfl) (fun _ => rfl) (fun _ => rfl))
  (dss_cons (ds_set F.toFamH (i := 5) (fun _ => rfl) (fun _ => .inl rfl) (fun _ => .inr rfl) (de_callB F.toFamH (call_reprC F.toFamH) snd_repr (dc (de_tup (dc (dv 2) (dc (dv 3) (dc (dv 4) (dc (de_op (fun _ => op_fdivW) snd_fdiv (dv 2) de_int) da_nil))))) da_nil) (fun _ => rfl) T.z_repr rfl (by decide) (by decide) (fun _ => rfl) (fun _ => rfl)) (fun _ => rfl))
  (dss_cons (ds_if (dt_w (dw_or (dt_cmp (neD_at F.toFamH) snd_ne (de_callB F.toFamH (call_reprC F.toFamH) snd_repr (dc (dcp F T.P__law_numbers (dc (dv 0) da_nil) T.g__law_numbers T.k__law_numbers) da_nil) (fun _ => rfl) T.z_repr rfl (by decide) (by decide) (fun _ => rfl) (fun _ => rfl)) (dv 5) rfl) (dw_or1 (dt_not (dt_val (de_methP F T.P_Scheme_is_same (by decide) T.cl_Scheme T.mt_Scheme_is_same (by rw [T.fn_Scheme]; decide +kernel) (dv 0) (dc (de_make false F T.P_Scheme__init_ (by decide) (c := 0) T.mk_Scheme (dc (dv 2) (dc (dv 3) (dc (dv 4) da_nil))) (fun _ => rfl) T.g_Scheme (by decide) (fun _ => rfl) (fun _ => rfl)) da_nil) (fun _ => rfl) (fun _ => rfl) (fun _ => rfl)) (fun _ _ => rfl))) rfl))) (dss_one (ds_ret de_bl)) dss_nil)
  (dss_cons (ds_for F (di_seq F.toFamH (de_lst false (dc de_int (dc (de_op (fun _ => op_fdivW) snd_fdiv (de_op (fun _ => op_addU) (snd_add false) (dv 4) de_int) de_int) (dc (dv 4) da_nil))))) (dn F.toFamH 6) (dss_cons (ds_set F.toFamH (i := 7) (fun _ => rfl) (fun _ => .inl rfl) (fun _ => .inr rfl) (de_methP F T.P_Scheme_shortened (by decide) T.cl_Scheme T.mt_Scheme_shortened (by rw [T.fn_Scheme]; decide +kernel) (dv 0) (dc (dv 6) da_nil) (fun _ => rfl) (fun _ => rfl) (fun _ => rfl)) (fun _ => rfl))
  (dss_cons (ds_if (dt_w (dw_or (dt_cmp (neD_at F.toFamH) snd_ne (de_callB F.toFamH (call_reprC F.toFamH) snd_repr (dc (dcp F T.P__law_numbers (dc (dv 7) da_nil) T.g__law_numbers T.k__law_numbers) da_nil) (fun _ => rfl) T.z_repr rfl (by decide) (by decide) (fun _ => rfl) (fun _ => rfl)) (de_callB F.toFamH (call_reprC F.toFamH) snd_repr (dc (de_tup (dc (dv 2) (dc (dv 3) (dc (dv 6) (dc (de_op (fun _ => op_fdivW) snd_fdiv (dv 2) de_int) da_nil))))) da_nil) (fun _ => rfl) T.z_repr rfl (by decide) (by decide) (fun _ => rfl) (fun _ => rfl)) rfl) (dw_or1 (dt_cmp (neD_at F.toFamH) snd_ne (de_methP F T.P_Scheme_is_same (by decide) T.cl_Scheme T.mt_Scheme_is_same (by rw [T.fn_Scheme]; decide +kernel) (dv 7) (dc (dv 0) da_nil) (fun _ => rfl) (fun _ => rfl) (fun _ => rfl)) (de_cmp (eqD_at F.toFamH) snd_eq (dv 6) (dv 4) rfl) rfl) rfl))) (dss_one (ds_ret de_bl)) dss_nil)
  (dss_one (ds_if (dt_not (dt_val (de_methK0 F T.B_Scheme_is_same (by decide) T.cl_Scheme T.mt_Scheme_is_same (by rw [T.fn_Scheme]; decide +kernel) T.kb_Scheme_is_same_1_other (gP_ok (perm := [0, 1]) rfl) (de_methK0 F T.B_Scheme_shortened (by decide) T.cl_Scheme T.mt_Scheme_shortened (by rw [T.fn_Scheme]; decide +kernel) T.kb_Scheme_shortened_1_length (gP_ok (perm := [0, 1]) rfl) (dv 0) (dk_cons (dv 6) dk_nil) (fun _ => rfl) (fun _ => rfl) (fun _ => rfl) (fun _ => rfl)) (dk_cons (dv 7) dk_nil) (fun _ => rfl) (fun _ => rfl) (fun _ => rfl) (fun _ => rfl)) (fun _ _ => rfl))) (dss_one (ds_ret de_bl)) dss_nil)))) owns_fn (fun _ _ => rfl))
  (dss_cons (ds_set F.toFamH (i := 8) (fun _ => rfl) (fun _ => .inl rfl) (fun _ => .inr rfl) (de_lst true (dc (de_make false F T.P_Scheme__init_ (by decide) (c := 0) T.mk_Scheme (dc (dv 2) (dc (dv 3) (dc (de_op (fun _ => op_sub) snd_sub de_int (dv 4)) da_nil))) (fun _ => rfl) T.g_Scheme (by decide) (fun _ => rfl) (fun _ => rfl)) (dc (de_make false F T.P_Scheme__init_ (by decide) (c := 0) T.mk_Scheme (dc (de_if (dt_cmp (fun _ => op_gt) (snd_cmp _) (dv 2) (de_op (fun _ => op_pow) snd_pow de_int de_int) rfl) de_int (dcp F T.P__law_prime_from (dc (de_op (fun _ => op_addU) (snd_add false) (dv 2) de_int) da_nil) T.g__law_prime_from T.k__law_prime_from)) (dc (dv 3) (dc (dv 4) da_nil))) (fun _ => rfl) T.g_Scheme (by decide) (fun _ => rfl) (fun _ => rfl)) da_nil))) (fun _ => rfl))
  (dss_cons (ds_if (dt_w (dw_or (dt_cmp (fun _ => op_gt) (snd_cmp _) (dv 3) de_int rfl) (dw_or1 (dt_cmp (fun _ => op_gt) (snd_cmp _) (dv 2) de_int rfl) rfl))) (dss_one (ds_expr (de_meth F.toFamH PySem.F.plainAttrs_list PySem.F.slot_list_append PySem.F.type_list_append (fun _ => mt_append) snd_append (fun _ _ _ _ _ R r h => isL_ty R r h) (dv 8) (dc (de_make false F T.P_Scheme__init_ (by decide) (c := 0) T.mk_Scheme (dc (dv 2) (dc (de_if (dt_cmp (fun _ => op_gt) (snd_cmp _) (dv 3) de_int rfl) (de_op (fun _ => op_sub) snd_sub (dv 3) de_int) de_int) (dc (dv 4) da_nil))) (fun _ => rfl) T.g_Scheme (by decide) (fun _ => rfl) (fun _ => rfl)) da_nil) (fun _ => rfl) (fun _ => rfl) rfl (fun _ => rfl) (fun _ => rfl)) (fun _ => rfl))) dss_nil)
  (dss_cons (ds_set F.toFamH (i := 8) (fun _ => rfl) (fun _ => .inl rfl) (fun _ => .inr rfl) (de_op (fun _ => op_addU) (snd_add true) (dv 8) (de_lst false (dc de_non (dc (dv 1) (dc (de_tup da_nil) (dc de_int (dc (dv 2) (dc (de_callTy F.toFamH (fun _ => call_list_of) (snd_list false) (dc (dv 1) da_nil) (fun _ => rfl) T.z_list rfl (by decide) (by decide) (fun _ => rfl) (fun _ => rfl)) (dc (de_callB F.toFamH (call_reprYC F.toFamH) snd_reprY (dc (dv 1) da_nil) (fun _ => rfl) T.z_repr rfl (by decide) (by decide) (fun _ => rfl) (fun _ => rfl)) da_nil))))))))) (fun _ => rfl))
  (dss_cons (ds_if (dt_cmp (neD_at F.toFamH) snd_ne (de_lc F (own := [("_law_one", 9)]) (di_seq F.toFamH (dv 8)) (fun _ => blkOk_by (by kernel_rfl)) (dn (F.blk _).toFamH 9) (dts_one (dt_cmp (fun _ => op_isnot_bl) snd_notB (de_methP (F.blk _) T.P_Scheme_is_same (by decide) T.cl_Scheme T.mt_Scheme_is_same (by rw [T.fn_Scheme]; decide +kernel) (dv 0) (dc (dv 9) da_nil) (fun _ => rfl) (fun _ => rfl) (fun _ => rfl)) de_bl rfl)) (dv 9) (by decide) (fun _ _ => rfl)) (de_lst false da_nil) rfl) (dss_one (ds_ret de_bl)) dss_nil)
  (dss_one (ds_ret (de_cmp (eqD_at F.toFamH) snd_eq (de_callB F.toFamH (call_reprC F.toFamH) snd_repr (dc (dcp F T.P__law_numbers (dc (dv 0) da_nil) T.g__law_numbers T.k__law_numbers) da_nil) (fun _ => rfl) T.z_repr rfl (by decide) (by decide) (fun _ => rfl) (fun _ => rfl)) (dv 5) rfl)))))))))))
theorem B__law_created_correct : FnB G 9 T.f__law_created_correct T.d__law_created_correct ["_law_found", "_law_parts_here"] (m__law_created_correct G) := FnB.of T.F__law_created_correct sc__law_created_correct T.e__law_created_correct
theorem P__law_created_correct : FnP G 9 T.f__law_created_correct (mp__law_created_correct G) := T.B__law_created_correct.pos T.b__law_created_correct
theorem k__law_correct : PySem.W.keepIn G.K (.ref T.f__law_correct) = true := T.F__law_correct.kp
theorem b__law_correct : Binds G.K T.d__law_correct ["_law_parts_here"] [] := T.F__law_correct.binds fun _ _ _ _ _ _ us hl => match us, hl with | [_], _ => rfl
theorem e__law_correct : ∀ E, DSs (FnX G 9 ["_law_parts_here", "_law_before", "_law_wrong_here", "_law_by_keyword", "_law_found", "_law_value_here"] "_law_correct" (defScope s__law_correct) T.f__law_correct E) G (fun _ => E) (defBody s__law_correct) (c__law_correct G) := fun E => by
  have F := fnX_fam (G := G) (k := 9) (qual := "_law_correct") (f := T.f__law_correct) sc__law_correct E
  exact (dss_cons (ds_par F (i := 1) (j := 2) (fun _ => rfl) (fun _ => rfl) (by decide) (fun _ => rfl) (fun _ => rfl) (de_callB F.toFamH (call_reprYC F.toFamH) snd_reprY (dc (dv 0) da_nil) (fun _ => rfl) T.z_repr rfl (by decide) (by decide) (fun _ => rfl) (fun _ => rfl)) (dcp F T.P__law_wrong (dc (dv 0) da_nil) T.g__law_wrong T.k__law_wrong) (fun _ => rfl) (fun _ => rfl) (fun _ => rfl) (fun _ => rfl))
  (dss_cons (ds_for F (di_seq F.toFamH (de_tup (dc de_bl (dc de_bl da_nil)))) (dn F.toFamH 3) (dss_cons (ds_asg (dcp F T.P__law_outcome (dc (dv 0) (dc (dv 3) da_nil)) T.g__law_outcome T.k__law_outcome) (dg_tup F.toFamH (n := 2) (dgs_cons (dn F.toFamH 4) (dgs_cons (dn F.toFamH 5) dgs_nil (fun _ => rfl)) (fun _ => rfl)) rfl (fun j t h => pg_or (pg_tup (F.calm j) h) (pg_lst (F.calm j) h))) (fun _ => rfl) (fun _ => rfl) (fun _ => rfl))
  (dss_one (ds_if (dt_cmp (fun _ => op_isN) snd_isN (dv 2) de_non rfl) (dss_one (ds_if (dt_w (dw_or (dt_cmp (fun _ => op_notN) snd_notN (dv 5) de_non rfl) (dw_or1 (dt_not (dt_val (dcp F T.P__law_created_correct (dc (dv 4) (dc (dv 0) da_nil)) T.g__law_created_correct T.k__law_created_correct) (fun _ _ => rfl))) rfl))) (dss_one (ds_ret de_bl)) dss_nil)) (dss_one (ds_if (dt_cmp (neS_at F.toFamH) snd_neS (dv 5) (de_callB F.toFamH (call_reprYC F.toFamH) snd_reprY (dc (de_ix F.toFamH (dv 0) (dv 2) (fun _ _ => rfl)) da_nil) (fun _ => rfl) T.z_repr rfl (by decide) (by decide) (fun _ => rfl) (fun _ => rfl)) rfl) (dss_one (ds_ret de_bl)) dss_nil))))) owns_fn (fun _ _ => rfl))
  (dss_one (ds_ret (de_cmp (eqS_at F.toFamH) snd_eqS (de_callB F.toFamH (call_reprYC F.toFamH) snd_reprY (dc (dv 0) da_nil) (fun _ => rfl) T.z_repr rfl (by decide) (by decide) (fun _ => rfl) (fun _ => rfl)) (dv 1) rfl)))))
theorem B__law_correct : FnB G 10 T.f__law_correct T.d__law_correct ["_law_parts_here"] (m__law_correct G) := FnB.of T.F__law_correct sc__law_correct T.e__law_correct
theorem P__law_correct : FnP G 10 T.f__law_correct (mp__law_correct G) := T.B__law_correct.pos T.b__law_correct
theorem e_law : ∀ E, DSs (FnX G 10 ["_law_script", "_law_deck_here", "_law_fixed", "_law_parts_here", "_law_k", "_law_found", "_law_told"] "law" (defScope s_law) T.f_law E) G (fun _ => E) (defBody s_law) (c_law G) := fun E => by
  have F := fnX_fam (G := G) (k := 10) (qual := "law") (f := T.f_law) sc_law E
  exact (dss_cons (ds_set F.toFamH (i := 1) (fun _ => rfl) (fun _ => .inr rfl) (fun _ => .inl rfl) (dcp F T.P__law_deck (dc (dv 0) da_nil) T.g__law_deck T.k__law_deck) (fun _ => rfl))
  (dss_cons (ds_set F.toFamH (i := 2) (fun _ => rfl) (fun _ => .inl rfl) (fun _ => .inr rfl) (de_lst false (dc (de_tup (dc de_int (dc de_int (dc de_int da_nil)))) (dc (de_tup (dc de_int (dc de_int (dc de_int da_nil)))) (dc (de_tup (dc de_int (dc de_int (dc de_int da_nil)))) (dc (de_tup (dc de_int (dc de_int (dc de_int da_nil)))) (dc (de_tup (dc de_int (dc de_int (dc de_int da_nil)))) (dc (de_tup (dc de_int (dc de_int (dc de_int da_nil)))) (dc (de_tup (dc de_int (dc de_int (dc de_int da_nil)))) (dc (de_tup (dc de_int (dc de_int (dc de_int da_nil)))) da_nil))))))))) (fun _ => rfl))
  (dss_cons (ds_set F.toFamH (i := 2) (fun _ => rfl) (fun _ => .inl rfl) (fun _ => .inr rfl) (de_op (fun _ => op_addU) (snd_add false) (dv 2) (de_lst false (dc (de_tup (dc de_int (dc de_int (dc de_int da_nil)))) (dc (de_tup (dc de_int (dc de_int (dc de_int da_nil)))) (dc (de_tup (dc de_int (dc de_int (dc de_int da_nil)))) (dc (de_tup (dc de_non (dc de_non (dc de_non da_nil)))) (dc (de_tup (dc de_int (dc de_non (dc de_non da_nil)))) (dc (de_tup (dc de_bl (dc de_bl (dc de_bl da_nil)))) da_nil)))))))) (fun _ => rfl))
  (dss_cons (ds_for F (di_seq F.toFamH (de_op (fun _ => op_addU) (snd_add false) (dv 2) (de_lc F (own := [("_law_k", 4)]) (di_rng1 F.toFamH (dc de_int da_nil) (fun _ => rfl) T.z_range (fun _ => rfl)) (fun _ => blkOk_by (by kernel_rfl)) (dn (F.blk _).toFamH 4) dts_nil (de_callP (F.blk _) T.P__law_parts (by decide) (dc (dv 1) da_nil) (fun _ => rfl) T.g__law_parts T.k__law_parts (by decide) (fun _ => rfl) (fun _ => rfl)) (by decide) (fun _ _ => rfl)))) (dn F.toFamH 3) (dss_one (ds_if (dt_not (dt_val (dcp F T.P__law_correct (dc (dv 3) da_nil) T.g__law_correct T.k__law_correct) (fun _ _ => rfl))) (dss_one (ds_ret de_bl)) dss_nil)) owns_fn (fun _ _ => rfl))
  (dss_cons (ds_set F.toFamH (i := 5) (fun _ => rfl) (fun _ => .inl rfl) (fun _ => .inr rfl) (de_make false F T.P_Scheme__init_ (by decide) (c := 0) T.mk_Scheme (dc de_int (dc de_int (dc de_int da_nil))) (fun _ => rfl) T.g_Scheme (by decide) (fun _ => rfl) (fun _ => rfl)) (fun _ => rfl))
  (dss_cons (ds_set F.toFamH (i := 6) (fun _ => rfl) (fun _ => .inl rfl) (fun _ => .inr rfl) (de_lst false (dc (de_cval F.toFamH T.rd_Scheme T.v_Scheme_LARGEST_PRIME (fun _ _ _ => .int _) (de_con F.toFamH (fun _ => rfl) T.g_Scheme (by decide)) (fun _ => rfl)) (dc (de_cval F.toFamH T.rd_Scheme T.v_Scheme_MOST_ACCOUNTS (fun _ _ _ => .int _) (de_con F.toFamH (fun _ => rfl) T.g_Scheme (by decide)) (fun _ => rfl)) (dc (de_cval F.toFamH T.rd_Scheme T.v_Scheme_MOST_NUMBERS (fun _ _ _ => .int _) (de_con F.toFamH (fun _ => rfl) T.g_Scheme (by decide)) (fun _ => rfl)) da_nil)))) (fun _ => rfl))
  (dss_cons (ds_set F.toFamH (i := 6) (fun _ => rfl) (fun _ => .inl rfl) (fun _ => .inr rfl) (de_op (fun _ => op_addU) (snd_add false) (dv 6) (de_lst false (dc (de_cvalI F.toFamH T.cl_Scheme T.vi_Scheme_LARGEST_PRIME (by rw [T.fn_Scheme]; decide +kernel) (fun _ _ _ => .int _) (fun _ => rfl) (dv 5)) (dc (de_cvalI F.toFamH T.cl_Scheme T.vi_Scheme_MOST_ACCOUNTS (by rw [T.fn_Scheme]; decide +kernel) (fun _ _ _ => .int _) (fun _ => rfl) (dv 5)) (dc (de_cvalI F.toFamH T.cl_Scheme T.vi_Scheme_MOST_NUMBERS (by rw [T.fn_Scheme]; decide +kernel) (fun _ _ _ => .int _) (fun _ => rfl) (dv 5)) da_nil))))) (fun _ => rfl))
  (dss_one (ds_ret (de_cmp (eqD_at F.toFamH) snd_eq (de_callB F.toFamH (call_reprC F.toFamH) snd_repr (dc (dv 6) da_nil) (fun _ => rfl) T.z_repr rfl (by decide) (by decide) (fun _ => rfl) (fun _ => rfl)) (de_callB F.toFamH (call_reprC F.toFamH) snd_repr (dc (de_op (fun _ => op_mulU) (snd_mul false) (de_lst false (dc (de_op (fun _ => op_pow) snd_pow de_int de_int) (dc de_int (dc de_int da_nil)))) de_int) da_nil) (fun _ => rfl) T.z_repr rfl (by decide) (by decide) (fun _ => rfl) (fun _ => rfl)) rfl))))))))))
theorem B_law : FnB G 11 T.f_law T.d_law ["_law_script"] (m_law G) := FnB.of T.F_law sc_law T.e_law
end Txt
end K02
namespace K02
open PySem PySem.Spec PyProof.Rows L2 DL
set_option maxHeartbeats 8000000 in
theorem all_mk {l : PySem.W.OpenLaw} {w : World} {K : PySem.W.Frag} {h : Heap} {mg : Str → Option Value} {fa : Addr} (X : K.In h) (N : h.Ns mainGlobals mg) (hfa : mg "law" = some (.ref fa))
    {C_Scheme : Addr}
    {f__law_deck : Addr}
    {oc__law_deck kV__law_deck dc__law_deck pm__law_deck cd__law_deck ct__law_deck : Value}
    {od__law_deck an__law_deck : Option Addr}
    {sl__law_deck : Array (Option Value)}
    {f_is_between : Addr}
    {oc_is_between kV_is_between dc_is_between pm_is_between cd_is_between ct_is_between : Value}
    {od_is_between an_is_between : Option Addr}
    {sl_is_between : Array (Option Value)}
    {f_reduced_modulo : Addr}
    {oc_reduced_modulo kV_reduced_modulo dc_reduced_modulo pm_reduced_modulo cd_reduced_modulo ct_reduced_modulo : Value}
    {od_reduced_modulo an_reduced_modulo : Option Addr}
    {sl_reduced_modulo : Array (Option Value)}
    {f_power_of : Addr}
    {oc_power_of kV_power_of dc_power_of pm_power_of cd_power_of ct_power_of : Value}
    {od_power_of an_power_of : Option Addr}
    {sl_power_of : Array (Option Value)}
    {f_is_probable : Addr}
    {oc_is_probable kV_is_probable dc_is_probable pm_is_probable cd_is_probable ct_is_probable : Value}
    {od_is_probable an_is_probable : Option Addr}
    {sl_is_probable : Array (Option Value)}
    {f_is_odd_prime : Addr}
    {oc_is_odd_prime kV_is_odd_prime dc_is_odd_prime pm_is_odd_prime cd_is_odd_prime ct_is_odd_prime : Value}
    {od_is_odd_prime an_is_odd_prime : Option Addr}
    {sl_is_odd_prime : Array (Option Value)}
    {f_Scheme_is_prime : Addr}
    {oc_Scheme_is_prime kV_Scheme_is_prime dc_Scheme_is_prime pm_Scheme_is_prime cd_Scheme_is_prime ct_Scheme_is_prime : Value}
    {od_Scheme_is_prime an_Scheme_is_prime : Option Addr}
    {sl_Scheme_is_prime : Array (Option Value)}
    {pr_Scheme_is_prime : Addr}
    {rs_Scheme_is_prime : List Value}
    {f_Scheme__init_ : Addr}
    {oc_Scheme__init_ kV_Scheme__init_ dc_Scheme__init_ pm_Scheme__init_ cd_Scheme__init_ ct_Scheme__init_ : Value}
    {od_Scheme__init_ an_Scheme__init_ : Option Addr}
    {sl_Scheme__init_ : Array (Option Value)}
    {f__law_is_prime : Addr}
    {oc__law_is_prime kV__law_is_prime dc__law_is_prime pm__law_is_prime cd__law_is_prime ct__law_is_prime : Value}
    {od__law_is_prime an__law_is_prime : Option Addr}
    {sl__law_is_prime : Array (Option Value)}
    {f__law_prime_from : Addr}
    {oc__law_prime_from kV__law_prime_from dc__law_prime_from pm__law_prime_from cd__law_prime_from ct__law_prime_from : Value}
    {od__law_prime_from an__law_prime_from : Option Addr}
    {sl__law_prime_from : Array (Option Value)}
    {f__law_draw : Addr}
    {oc__law_draw kV__law_draw dc__law_draw pm__law_draw cd__law_draw ct__law_draw : Value}
    {od__law_draw an__law_draw : Option Addr}
    {sl__law_draw : Array (Option Value)}
    {f__law_pick : Addr}
    {oc__law_pick kV__law_pick dc__law_pick pm__law_pick cd__law_pick ct__law_pick : Value}
    {od__law_pick an__law_pick : Option Addr}
    {sl__law_pick : Array (Option Value)}
    {f__law_parts : Addr}
    {oc__law_parts kV__law_parts dc__law_parts pm__law_parts cd__law_parts ct__law_parts : Value}
    {od__law_parts an__law_parts : Option Addr}
    {sl__law_parts : Array (Option Value)}
    {f__law_is_between : Addr}
    {oc__law_is_between kV__law_is_between dc__law_is_between pm__law_is_between cd__law_is_between ct__law_is_between : Value}
    {od__law_is_between an__law_is_between : Option Addr}
    {sl__law_is_between : Array (Option Value)}
    {f__law_wrong : Addr}
    {oc__law_wrong kV__law_wrong dc__law_wrong pm__law_wrong cd__law_wrong ct__law_wrong : Value}
    {od__law_wrong an__law_wrong : Option Addr}
    {sl__law_wrong : Array (Option Value)}
    {f__law_outcome : Addr}
    {oc__law_outcome kV__law_outcome dc__law_outcome pm__law_outcome cd__law_outcome ct__law_outcome : Value}
    {od__law_outcome an__law_outcome : Option Addr}
    {sl__law_outcome : Array (Option Value)}
    {f_Scheme_shortened : Addr}
    {oc_Scheme_shortened kV_Scheme_shortened dc_Scheme_shortened pm_Scheme_shortened cd_Scheme_shortened ct_Scheme_shortened : Value}
    {od_Scheme_shortened an_Scheme_shortened : Option Addr}
    {sl_Scheme_shortened : Array (Option Value)}
    {f_Scheme_is_same : Addr}
    {oc_Scheme_is_same kV_Scheme_is_same dc_Scheme_is_same pm_Scheme_is_same cd_Scheme_is_same ct_Scheme_is_same : Value}
    {od_Scheme_is_same an_Scheme_is_same : Option Addr}
    {sl_Scheme_is_same : Array (Option Value)}
    {f_Scheme_prime : Addr}
    {oc_Scheme_prime kV_Scheme_prime dc_Scheme_prime pm_Scheme_prime cd_Scheme_prime ct_Scheme_prime : Value}
    {od_Scheme_prime an_Scheme_prime : Option Addr}
    {sl_Scheme_prime : Array (Option Value)}
    {pr_Scheme_prime : Addr}
    {rs_Scheme_prime : List Value}
    {f_Scheme_accounts : Addr}
    {oc_Scheme_accounts kV_Scheme_accounts dc_Scheme_accounts pm_Scheme_accounts cd_Scheme_accounts ct_Scheme_accounts : Value}
    {od_Scheme_accounts an_Scheme_accounts : Option Addr}
    {sl_Scheme_accounts : Array (Option Value)}
    {pr_Scheme_accounts : Addr}
    {rs_Scheme_accounts : List Value}
    {f_Scheme_length : Addr}
    {oc_Scheme_length kV_Scheme_length dc_Scheme_length pm_Scheme_length cd_Scheme_length ct_Scheme_length : Value}
    {od_Scheme_length an_Scheme_length : Option Addr}
    {sl_Scheme_length : Array (Option Value)}
    {pr_Scheme_length : Addr}
    {rs_Scheme_length : List Value}
    {f_Scheme_largest_amount : Addr}
    {oc_Scheme_largest_amount kV_Scheme_largest_amount dc_Scheme_largest_amount pm_Scheme_largest_amount cd_Scheme_largest_amount ct_Scheme_largest_amount : Value}
    {od_Scheme_largest_amount an_Scheme_largest_amount : Option Addr}
    {sl_Scheme_largest_amount : Array (Option Value)}
    {pr_Scheme_largest_amount : Addr}
    {rs_Scheme_largest_amount : List Value}
    {f__law_numbers : Addr}
    {oc__law_numbers kV__law_numbers dc__law_numbers pm__law_numbers cd__law_numbers ct__law_numbers : Value}
    {od__law_numbers an__law_numbers : Option Addr}
    {sl__law_numbers : Array (Option Value)}
    {f__law_created_correct : Addr}
    {oc__law_created_correct kV__law_created_correct dc__law_created_correct pm__law_created_correct cd__law_created_correct ct__law_created_correct : Value}
    {od__law_created_correct an__law_created_correct : Option Addr}
    {sl__law_created_correct : Array (Option Value)}
    {f__law_correct : Addr}
    {oc__law_correct kV__law_correct dc__law_correct pm__law_correct cd__law_correct ct__law_correct : Value}
    {od__law_correct an__law_correct : Option Addr}
    {sl__law_correct : Array (Option Value)}
    {f_law : Addr}
    {oc_law kV_law dc_law pm_law cd_law ct_law : Value}
    {od_law an_law : Option Addr}
    {sl_law : Array (Option Value)}
    {X_BadScheme : Addr}
    {X_NoInverse : Addr}
    {X_UnknownAccount : Addr}
    {X_BadText : Addr}
    {X_BadAmount : Addr}
    {X_CrossError : Addr}
    {f_BadScheme__init_ : Addr}
    {oc_BadScheme__init_ kV_BadScheme__init_ dc_BadScheme__init_ pm_BadScheme__init_ cd_BadScheme__init_ ct_BadScheme__init_ : Value}
    {od_BadScheme__init_ an_BadScheme__init_ : Option Addr}
    {sl_BadScheme__init_ : Array (Option Value)}
    {xnm_BadScheme xq_BadScheme : Str}
    {xN_BadScheme : Addr}
    {xbs_BadScheme xsub_BadScheme : List Value}
    {xsn_BadScheme : List Str}
    {xab_BadScheme : Bool}
    {xcol_BadScheme : Option Bool}
    {xdd_BadScheme : Option Addr}
    {x0_BadScheme x1_BadScheme x2_BadScheme x3_BadScheme x5_BadScheme : Option Value}
    {ka_BASES : Addr}
    {kt_LEAST_ACCOUNTS : Tok}
    {t_Scheme_LARGEST_PRIME : Tok}
    {t_Scheme_MOST_ACCOUNTS : Tok}
    {t_Scheme_MOST_NUMBERS : Tok}
    {ti_Scheme_LARGEST_PRIME : Tok}
    {ti_Scheme_MOST_ACCOUNTS : Tok}
    {ti_Scheme_MOST_NUMBERS : Tok}
    (aC_Scheme : PySem.W.nsIn K mainGlobals "Scheme" = some (some (.ref C_Scheme)))
    (a__law_deck : PySem.W.nsIn K mainGlobals "_law_deck" = some (some (.ref f__law_deck)))
    (l__law_deck : K.lookup f__law_deck = some ⟨oc__law_deck, od__law_deck, .func (PySem.W.fnOf "_law_deck" "_law_deck" (defArgs s__law_deck) (defBody s__law_deck) (defScope s__law_deck) .none kV__law_deck dc__law_deck pm__law_deck an__law_deck cd__law_deck ct__law_deck), sl__law_deck⟩)
    (c__law_deck : PySem.W.codeIn K cd__law_deck "_law_deck" = true)
    (k__law_deck : PySem.W.keepIn K (.ref f__law_deck) = true)
    (a_is_between : PySem.W.nsIn K mainGlobals "is_between" = some (some (.ref f_is_between)))
    (l_is_between : K.lookup f_is_between = some ⟨oc_is_between, od_is_between, .func (PySem.W.fnOf "is_between" "is_between" (defArgs s_is_between) (defBody s_is_between) (defScope s_is_between) .none kV_is_between dc_is_between pm_is_between an_is_between cd_is_between ct_is_between), sl_is_between⟩)
    (c_is_between : PySem.W.codeIn K cd_is_between "is_between" = true)
    (k_is_between : PySem.W.keepIn K (.ref f_is_between) = true)
    (a_reduced_modulo : PySem.W.nsIn K mainGlobals "reduced_modulo" = some (some (.ref f_reduced_modulo)))
    (l_reduced_modulo : K.lookup f_reduced_modulo = some ⟨oc_reduced_modulo, od_reduced_modulo, .func (PySem.W.fnOf "reduced_modulo" "reduced_modulo" (defArgs s_reduced_modulo) (defBody s_reduced_modulo) (defScope s_reduced_modulo) .none kV_reduced_modulo dc_reduced_modulo pm_reduced_modulo an_reduced_modulo cd_reduced_modulo ct_reduced_modulo), sl_reduced_modulo⟩)
    (c_reduced_modulo : PySem.W.codeIn K cd_reduced_modulo "reduced_modulo" = true)
    (k_reduced_modulo : PySem.W.keepIn K (.ref f_reduced_modulo) = true)
    (a_power_of : PySem.W.nsIn K mainGlobals "power_of" = some (some (.ref f_power_of)))
    (l_power_of : K.lookup f_power_of = some ⟨oc_power_of, od_power_of, .func (PySem.W.fnOf "power_of" "power_of" (defArgs s_power_of) (defBody s_power_of) (defScope s_power_of) .none kV_power_of dc_power_of pm_power_of an_power_of cd_power_of ct_power_of), sl_power_of⟩)
    (c_power_of : PySem.W.codeIn K cd_power_of "power_of" = true)
    (k_power_of : PySem.W.keepIn K (.ref f_power_of) = true)
    (a_is_probable : PySem.W.nsIn K mainGlobals "is_probable" = some (some (.ref f_is_probable)))
    (l_is_probable : K.lookup f_is_probable = some ⟨oc_is_probable, od_is_probable, .func (PySem.W.fnOf "is_probable" "is_probable" (defArgs s_is_probable) (defBody s_is_probable) (defScope s_is_probable) .none kV_is_probable dc_is_probable pm_is_probable an_is_probable cd_is_probable ct_is_probable), sl_is_probable⟩)
    (c_is_probable : PySem.W.codeIn K cd_is_probable "is_probable" = true)
    (k_is_probable : PySem.W.keepIn K (.ref f_is_probable) = true)
    (a_is_odd_prime : PySem.W.nsIn K mainGlobals "is_odd_prime" = some (some (.ref f_is_odd_prime)))
    (l_is_odd_prime : K.lookup f_is_odd_prime = some ⟨oc_is_odd_prime, od_is_odd_prime, .func (PySem.W.fnOf "is_odd_prime" "is_odd_prime" (defArgs s_is_odd_prime) (defBody s_is_odd_prime) (defScope s_is_odd_prime) .none kV_is_odd_prime dc_is_odd_prime pm_is_odd_prime an_is_odd_prime cd_is_odd_prime ct_is_odd_prime), sl_is_odd_prime⟩)
    (c_is_odd_prime : PySem.W.codeIn K cd_is_odd_prime "is_odd_prime" = true)
    (k_is_odd_prime : PySem.W.keepIn K (.ref f_is_odd_prime) = true)
    (m_Scheme_is_prime : PySem.W.findCls K (.ref C_Scheme) (.type "type") "is_prime" = some (.get (.builtin "staticmethod.__get__") (.ref pr_Scheme_is_prime) .none (.ref C_Scheme)))
    (px_Scheme_is_prime : PySem.W.recIn K pr_Scheme_is_prime "staticmethod" = some (.ref f_Scheme_is_prime :: rs_Scheme_is_prime))
    (l_Scheme_is_prime : K.lookup f_Scheme_is_prime = some ⟨oc_Scheme_is_prime, od_Scheme_is_prime, .func (PySem.W.fnOf "is_prime" "Scheme.is_prime" (defArgs s_Scheme_is_prime) (defBody s_Scheme_is_prime) (defScope s_Scheme_is_prime) .none kV_Scheme_is_prime dc_Scheme_is_prime pm_Scheme_is_prime an_Scheme_is_prime cd_Scheme_is_prime ct_Scheme_is_prime), sl_Scheme_is_prime⟩)
    (c_Scheme_is_prime : PySem.W.codeIn K cd_Scheme_is_prime "Scheme.is_prime" = true)
    (k_Scheme_is_prime : PySem.W.keepIn K (.ref f_Scheme_is_prime) = true)
    (m_Scheme__init_ : PySem.W.findIn K (.ref C_Scheme) "__init__" = some (some (.ref f_Scheme__init_)))
    (i_Scheme__init_ : PySem.W.isFn K (.ref f_Scheme__init_) = true)
    (l_Scheme__init_ : K.lookup f_Scheme__init_ = some ⟨oc_Scheme__init_, od_Scheme__init_, .func (PySem.W.fnOf "__init__" "Scheme.__init__" (defArgs s_Scheme__init_) (defBody s_Scheme__init_) (defScope s_Scheme__init_) .none kV_Scheme__init_ dc_Scheme__init_ pm_Scheme__init_ an_Scheme__init_ cd_Scheme__init_ ct_Scheme__init_), sl_Scheme__init_⟩)
    (c_Scheme__init_ : PySem.W.codeIn K cd_Scheme__init_ "Scheme.__init__" = true)
    (k_Scheme__init_ : PySem.W.keepIn K (.ref f_Scheme__init_) = true)
    (a__law_is_prime : PySem.W.nsIn K mainGlobals "_law_is_prime" = some (some (.ref f__law_is_prime)))
    (l__law_is_prime : K.lookup f__law_is_prime = some ⟨oc__law_is_prime, od__law_is_prime, .func (PySem.W.fnOf "_law_is_prime" "_law_is_prime" (defArgs s__law_is_prime) (defBody s__law_is_prime) (defScope s__law_is_prime) .none kV__law_is_prime dc__law_is_prime pm__law_is_prime an__law_is_prime cd__law_is_prime ct__law_is_prime), sl__law_is_prime⟩)
    (c__law_is_prime : PySem.W.codeIn K cd__law_is_prime "_law_is_prime" = true)
    (k__law_is_prime : PySem.W.keepIn K (.ref f__law_is_prime) = true)
    (a__law_prime_from : PySem.W.nsIn K mainGlobals "_law_prime_from" = some (some (.ref f__law_prime_from)))
    (l__law_prime_from : K.lookup f__law_prime_from = some ⟨oc__law_prime_from, od__law_prime_from, .func (PySem.W.fnOf "_law_prime_from" "_law_prime_from" (defArgs s__law_prime_from) (defBody s__law_prime_from) (defScope s__law_prime_from) .none kV__law_prime_from dc__law_prime_from pm__law_prime_from an__law_prime_from cd__law_prime_from ct__law_prime_from), sl__law_prime_from⟩)
    (c__law_prime_from : PySem.W.codeIn K cd__law_prime_from "_law_prime_from" = true)
    (k__law_prime_from : PySem.W.keepIn K (.ref f__law_prime_from) = true)
    (a__law_draw : PySem.W.nsIn K mainGlobals "_law_draw" = some (some (.ref f__law_draw)))
    (l__law_draw : K.lookup f__law_draw = some ⟨oc__law_draw, od__law_draw, .func (PySem.W.fnOf "_law_draw" "_law_draw" (defArgs s__law_draw) (defBody s__law_draw) (defScope s__law_draw) .none kV__law_draw dc__law_draw pm__law_draw an__law_draw cd__law_draw ct__law_draw), sl__law_draw⟩)
    (c__law_draw : PySem.W.codeIn K cd__law_draw "_law_draw" = true)
    (k__law_draw : PySem.W.keepIn K (.ref f__law_draw) = true)
    (a__law_pick : PySem.W.nsIn K mainGlobals "_law_pick" = some (some (.ref f__law_pick)))
    (l__law_pick : K.lookup f__law_pick = some ⟨oc__law_pick, od__law_pick, .func (PySem.W.fnOf "_law_pick" "_law_pick" (defArgs s__law_pick) (defBody s__law_pick) (defScope s__law_pick) .none kV__law_pick dc__law_pick pm__law_pick an__law_pick cd__law_pick ct__law_pick), sl__law_pick⟩)
    (c__law_pick : PySem.W.codeIn K cd__law_pick "_law_pick" = true)
    (k__law_pick : PySem.W.keepIn K (.ref f__law_pick) = true)
    (a__law_parts : PySem.W.nsIn K mainGlobals "_law_parts" = some (some (.ref f__law_parts)))
    (l__law_parts : K.lookup f__law_parts = some ⟨oc__law_parts, od__law_parts, .func (PySem.W.fnOf "_law_parts" "_law_parts" (defArgs s__law_parts) (defBody s__law_parts) (defScope s__law_parts) .none kV__law_parts dc__law_parts pm__law_parts an__law_parts cd__law_parts ct__law_parts), sl__law_parts⟩)
    (c__law_parts : PySem.W.codeIn K cd__law_parts "_law_parts" = true)
    (k__law_parts : PySem.W.keepIn K (.ref f__law_parts) = true)
    (a__law_is_between : PySem.W.nsIn K mainGlobals "_law_is_between" = some (some (.ref f__law_is_between)))
    (l__law_is_between : K.lookup f__law_is_between = some ⟨oc__law_is_between, od__law_is_between, .func (PySem.W.fnOf "_law_is_between" "_law_is_between" (defArgs s__law_is_between) (defBody s__law_is_between) (defScope s__law_is_between) .none kV__law_is_between dc__law_is_between pm__law_is_between an__law_is_between cd__law_is_between ct__law_is_between), sl__law_is_between⟩)
    (c__law_is_between : PySem.W.codeIn K cd__law_is_between "_law_is_between" = true)
    (k__law_is_between : PySem.W.keepIn K (.ref f__law_is_between) = true)
    (a__law_wrong : PySem.W.nsIn K mainGlobals "_law_wrong" = some (some (.ref f__law_wrong)))
    (l__law_wrong : K.lookup f__law_wrong = some ⟨oc__law_wrong, od__law_wrong, .func (PySem.W.fnOf "_law_wrong" "_law_wrong" (defArgs s__law_wrong) (defBody s__law_wrong) (defScope s__law_wrong) .none kV__law_wrong dc__law_wrong pm__law_wrong an__law_wrong cd__law_wrong ct__law_wrong), sl__law_wrong⟩)
    (c__law_wrong : PySem.W.codeIn K cd__law_wrong "_law_wrong" = true)
    (k__law_wrong : PySem.W.keepIn K (.ref f__law_wrong) = true)
    (a__law_outcome : PySem.W.nsIn K mainGlobals "_law_outcome" = some (some (.ref f__law_outcome)))
    (l__law_outcome : K.lookup f__law_outcome = some ⟨oc__law_outcome, od__law_outcome, .func (PySem.W.fnOf "_law_outcome" "_law_outcome" (defArgs s__law_outcome) (defBody s__law_outcome) (defScope s__law_outcome) .none kV__law_outcome dc__law_outcome pm__law_outcome an__law_outcome cd__law_outcome ct__law_outcome), sl__law_outcome⟩)
    (c__law_outcome : PySem.W.codeIn K cd__law_outcome "_law_outcome" = true)
    (k__law_outcome : PySem.W.keepIn K (.ref f__law_outcome) = true)
    (m_Scheme_shortened : PySem.W.findIn K (.ref C_Scheme) "shortened" = some (some (.ref f_Scheme_shortened)))
    (i_Scheme_shortened : PySem.W.isFn K (.ref f_Scheme_shortened) = true)
    (l_Scheme_shortened : K.lookup f_Scheme_shortened = some ⟨oc_Scheme_shortened, od_Scheme_shortened, .func (PySem.W.fnOf "shortened" "Scheme.shortened" (defArgs s_Scheme_shortened) (defBody s_Scheme_shortened) (defScope s_Scheme_shortened) .none kV_Scheme_shortened dc_Scheme_shortened pm_Scheme_shortened an_Scheme_shortened cd_Scheme_shortened ct_Scheme_shortened), sl_Scheme_shortened⟩)
    (c_Scheme_shortened : PySem.W.codeIn K cd_Scheme_shortened "Scheme.shortened" = true)
    (k_Scheme_shortened : PySem.W.keepIn K (.ref f_Scheme_shortened) = true)
    (m_Scheme_is_same : PySem.W.findIn K (.ref C_Scheme) "is_same" = some (some (.ref f_Scheme_is_same)))
    (i_Scheme_is_same : PySem.W.isFn K (.ref f_Scheme_is_same) = true)
    (l_Scheme_is_same : K.lookup f_Scheme_is_same = some ⟨oc_Scheme_is_same, od_Scheme_is_same, .func (PySem.W.fnOf "is_same" "Scheme.is_same" (defArgs s_Scheme_is_same) (defBody s_Scheme_is_same) (defScope s_Scheme_is_same) .none kV_Scheme_is_same dc_Scheme_is_same pm_Scheme_is_same an_Scheme_is_same cd_Scheme_is_same ct_Scheme_is_same), sl_Scheme_is_same⟩)
    (c_Scheme_is_same : PySem.W.codeIn K cd_Scheme_is_same "Scheme.is_same" = true)
    (k_Scheme_is_same : PySem.W.keepIn K (.ref f_Scheme_is_same) = true)
    (m_Scheme_prime : PySem.W.findIn K (.ref C_Scheme) "prime" = some (some (.ref pr_Scheme_prime)))
    (pg_Scheme_prime : PySem.W.specialIn K (.ref pr_Scheme_prime) "__get__" = some (some (.builtin "property.__get__")))
    (pt_Scheme_prime : PySem.W.takesIn K (.ref pr_Scheme_prime) = some true)
    (px_Scheme_prime : PySem.W.recIn K pr_Scheme_prime "property" = some (.ref f_Scheme_prime :: rs_Scheme_prime))
    (l_Scheme_prime : K.lookup f_Scheme_prime = some ⟨oc_Scheme_prime, od_Scheme_prime, .func (PySem.W.fnOf "prime" "Scheme.prime" (defArgs s_Scheme_prime) (defBody s_Scheme_prime) (defScope s_Scheme_prime) .none kV_Scheme_prime dc_Scheme_prime pm_Scheme_prime an_Scheme_prime cd_Scheme_prime ct_Scheme_prime), sl_Scheme_prime⟩)
    (c_Scheme_prime : PySem.W.codeIn K cd_Scheme_prime "Scheme.prime" = true)
    (k_Scheme_prime : PySem.W.keepIn K (.ref f_Scheme_prime) = true)
    (m_Scheme_accounts : PySem.W.findIn K (.ref C_Scheme) "accounts" = some (some (.ref pr_Scheme_accounts)))
    (pg_Scheme_accounts : PySem.W.specialIn K (.ref pr_Scheme_accounts) "__get__" = some (some (.builtin "property.__get__")))
    (pt_Scheme_accounts : PySem.W.takesIn K (.ref pr_Scheme_accounts) = some true)
    (px_Scheme_accounts : PySem.W.recIn K pr_Scheme_accounts "property" = some (.ref f_Scheme_accounts :: rs_Scheme_accounts))
    (l_Scheme_accounts : K.lookup f_Scheme_accounts = some ⟨oc_Scheme_accounts, od_Scheme_accounts, .func (PySem.W.fnOf "accounts" "Scheme.accounts" (defArgs s_Scheme_accounts) (defBody s_Scheme_accounts) (defScope s_Scheme_accounts) .none kV_Scheme_accounts dc_Scheme_accounts pm_Scheme_accounts an_Scheme_accounts cd_Scheme_accounts ct_Scheme_accounts), sl_Scheme_accounts⟩)
    (c_Scheme_accounts : PySem.W.codeIn K cd_Scheme_accounts "Scheme.accounts" = true)
    (k_Scheme_accounts : PySem.W.keepIn K (.ref f_Scheme_accounts) = true)
    (m_Scheme_length : PySem.W.findIn K (.ref C_Scheme) "length" = some (some (.ref pr_Scheme_length)))
    (pg_Scheme_length : PySem.W.specialIn K (.ref pr_Scheme_length) "__get__" = some (some (.builtin "property.__get__")))
    (pt_Scheme_length : PySem.W.takesIn K (.ref pr_Scheme_length) = some true)
    (px_Scheme_length : PySem.W.recIn K pr_Scheme_length "property" = some (.ref f_Scheme_length :: rs_Scheme_length))
    (l_Scheme_length : K.lookup f_Scheme_length = some ⟨oc_Scheme_length, od_Scheme_length, .func (PySem.W.fnOf "length" "Scheme.length" (defArgs s_Scheme_length) (defBody s_Scheme_length) (defScope s_Scheme_length) .none kV_Scheme_length dc_Scheme_length pm_Scheme_length an_Scheme_length cd_Scheme_length ct_Scheme_length), sl_Scheme_length⟩)
    (c_Scheme_length : PySem.W.codeIn K cd_Scheme_length "Scheme.length" = true)
    (k_Scheme_length : PySem.W.keepIn K (.ref f_Scheme_length) = true)
    (m_Scheme_largest_amount : PySem.W.findIn K (.ref C_Scheme) "largest_amount" = some (some (.ref pr_Scheme_largest_amount)))
    (pg_Scheme_largest_amount : PySem.W.specialIn K (.ref pr_Scheme_largest_amount) "__get__" = some (some (.builtin "property.__get__")))
    (pt_Scheme_largest_amount : PySem.W.takesIn K (.ref pr_Scheme_largest_amount) = some true)
    (px_Scheme_largest_amount : PySem.W.recIn K pr_Scheme_largest_amount "property" = some (.ref f_Scheme_largest_amount :: rs_Scheme_largest_amount))
    (l_Scheme_largest_amount : K.lookup f_Scheme_largest_amount = some ⟨oc_Scheme_largest_amount, od_Scheme_largest_amount, .func (PySem.W.fnOf "largest_amount" "Scheme.largest_amount" (defArgs s_Scheme_largest_amount) (defBody s_Scheme_largest_amount) (defScope s_Scheme_largest_amount) .none kV_Scheme_largest_amount dc_Scheme_largest_amount pm_Scheme_largest_amount an_Scheme_largest_amount cd_Scheme_largest_amount ct_Scheme_largest_amount), sl_Scheme_largest_amount⟩)
    (c_Scheme_largest_amount : PySem.W.codeIn K cd_Scheme_largest_amount "Scheme.largest_amount" = true)
    (k_Scheme_largest_amount : PySem.W.keepIn K (.ref f_Scheme_largest_amount) = true)
    (a__law_numbers : PySem.W.nsIn K mainGlobals "_law_numbers" = some (some (.ref f__law_numbers)))
    (l__law_numbers : K.lookup f__law_numbers = some ⟨oc__law_numbers, od__law_numbers, .func (PySem.W.fnOf "_law_numbers" "_law_numbers" (defArgs s__law_numbers) (defBody s__law_numbers) (defScope s__law_numbers) .none kV__law_numbers dc__law_numbers pm__law_numbers an__law_numbers cd__law_numbers ct__law_numbers), sl__law_numbers⟩)
    (c__law_numbers : PySem.W.codeIn K cd__law_numbers "_law_numbers" = true)
    (k__law_numbers : PySem.W.keepIn K (.ref f__law_numbers) = true)
    (a__law_created_correct : PySem.W.nsIn K mainGlobals "_law_created_correct" = some (some (.ref f__law_created_correct)))
    (l__law_created_correct : K.lookup f__law_created_correct = some ⟨oc__law_created_correct, od__law_created_correct, .func (PySem.W.fnOf "_law_created_correct" "_law_created_correct" (defArgs s__law_created_correct) (defBody s__law_created_correct) (defScope s__law_created_correct) .none kV__law_created_correct dc__law_created_correct pm__law_created_correct an__law_created_correct cd__law_created_correct ct__law_created_correct), sl__law_created_correct⟩)
    (c__law_created_correct : PySem.W.codeIn K cd__law_created_correct "_law_created_correct" = true)
    (k__law_created_correct : PySem.W.keepIn K (.ref f__law_created_correct) = true)
    (a__law_correct : PySem.W.nsIn K mainGlobals "_law_correct" = some (some (.ref f__law_correct)))
    (l__law_correct : K.lookup f__law_correct = some ⟨oc__law_correct, od__law_correct, .func (PySem.W.fnOf "_law_correct" "_law_correct" (defArgs s__law_correct) (defBody s__law_correct) (defScope s__law_correct) .none kV__law_correct dc__law_correct pm__law_correct an__law_correct cd__law_correct ct__law_correct), sl__law_correct⟩)
    (c__law_correct : PySem.W.codeIn K cd__law_correct "_law_correct" = true)
    (k__law_correct : PySem.W.keepIn K (.ref f__law_correct) = true)
    (a_law : PySem.W.nsIn K mainGlobals "law" = some (some (.ref f_law)))
    (l_law : K.lookup f_law = some ⟨oc_law, od_law, .func (PySem.W.fnOf "law" "law" (defArgs s_law) (defBody s_law) (defScope s_law) .none kV_law dc_law pm_law an_law cd_law ct_law), sl_law⟩)
    (c_law : PySem.W.codeIn K cd_law "law" = true)
    (k_law : PySem.W.keepIn K (.ref f_law) = true)
    (aX_BadScheme : PySem.W.nsIn K mainGlobals "BadScheme" = some (some (.ref X_BadScheme)))
    (aX_NoInverse : PySem.W.nsIn K mainGlobals "NoInverse" = some (some (.ref X_NoInverse)))
    (aX_UnknownAccount : PySem.W.nsIn K mainGlobals "UnknownAccount" = some (some (.ref X_UnknownAccount)))
    (aX_BadText : PySem.W.nsIn K mainGlobals "BadText" = some (some (.ref X_BadText)))
    (aX_BadAmount : PySem.W.nsIn K mainGlobals "BadAmount" = some (some (.ref X_BadAmount)))
    (aX_CrossError : PySem.W.nsIn K mainGlobals "CrossError" = some (some (.ref X_CrossError)))
    (xi_BadScheme : PySem.W.findIn K (.ref X_BadScheme) "__init__" = some (some (.ref f_BadScheme__init_)))
    (l_BadScheme__init_ : K.lookup f_BadScheme__init_ = some ⟨oc_BadScheme__init_, od_BadScheme__init_, .func (PySem.W.fnOf "__init__" "BadScheme.__init__" (defArgs s_BadScheme__init_) (defBody s_BadScheme__init_) (defScope s_BadScheme__init_) .none kV_BadScheme__init_ dc_BadScheme__init_ pm_BadScheme__init_ an_BadScheme__init_ cd_BadScheme__init_ ct_BadScheme__init_), sl_BadScheme__init_⟩)
    (c_BadScheme__init_ : PySem.W.codeIn K cd_BadScheme__init_ "BadScheme.__init__" = true)
    (k_BadScheme__init_ : PySem.W.keepIn K (.ref f_BadScheme__init_) = true)
    (xo_BadScheme : K.lookup X_BadScheme = some (excClassObj xnm_BadScheme xq_BadScheme X_BadScheme xN_BadScheme xbs_BadScheme [.ref X_CrossError, .type "ValueError", .type "Exception", .type "BaseException", .type "object"] true xsn_BadScheme xsub_BadScheme xab_BadScheme xcol_BadScheme xdd_BadScheme x0_BadScheme x1_BadScheme x2_BadScheme x3_BadScheme x5_BadScheme "ValueError.__new__"))
    (xs_BadScheme : PySem.W.findIn K (.ref X_BadScheme) "__setattr__" = some (some (.builtin "object.__setattr__")))
    (xe_BadScheme : PySem.W.subIn K (.ref X_BadScheme) (.type "BaseException") = some true)
    (xy_BadScheme : PySem.W.typeIn K (.ref X_BadScheme) = some (.type "type"))
    (xk_BadScheme : PySem.W.keepIn K (.ref X_BadScheme) = true)
    (xt_BadScheme : PySem.W.typeIn K (.ref f_BadScheme__init_) = some (.type "function"))
    (xn_BadScheme : PySem.W.findIn K (.ref X_BadScheme) "value" = some none)
    (rdE_CrossError : PySem.W.readsIn K X_CrossError (.type "type") = true)
    (gaE_CrossError : PySem.W.specialIn K (.ref X_CrossError) "__getattribute__" = some (some (.builtin "type.__getattribute__")))
    (xv_CrossError : PySem.W.findCls K (.ref X_CrossError) (.type "type") "__init__" = some (.val (.builtin "ValueError.__init__")))
    (yg_BadScheme : PySem.W.findIn K (.ref X_BadScheme) "__getattribute__" = some (some (.builtin "BaseException.__getattribute__")))
    (yk_BadScheme : PySem.W.findIn K (.ref X_BadScheme) "__getattr__" = some none)
    (yd_BadScheme : PySem.W.hasDictIn K X_BadScheme = true)
    (ya_BadScheme : PySem.W.findIn K (.ref X_BadScheme) "__class__" = some (some (.builtin "object.__class__")))
    (yn_BadScheme : PySem.W.specialIn K (.builtin "object.__class__") "__get__" = some (some (.builtin "getset_descriptor.__get__")))
    (yt_BadScheme : PySem.W.takesIn K (.builtin "object.__class__") = some true)
    (ym_BadScheme : PySem.W.mroIn K X_BadScheme (.type "object") = some true)
    (zs_BadScheme_BadScheme : PySem.W.subIn K (.ref X_BadScheme) (.ref X_BadScheme) = some true)
    (zb_BadScheme : PySem.W.subIn K (.ref X_BadScheme) (.type "BaseException") = some true)
    (zd_BadScheme : PySem.W.hasDictIn K X_BadScheme = true)
    (zt_BadScheme : PySem.W.typeIn K (.ref X_BadScheme) = some (.type "type"))
    (zb_NoInverse : PySem.W.subIn K (.ref X_NoInverse) (.type "BaseException") = some true)
    (zd_NoInverse : PySem.W.hasDictIn K X_NoInverse = true)
    (zt_NoInverse : PySem.W.typeIn K (.ref X_NoInverse) = some (.type "type"))
    (zs_BadScheme_NoInverse : PySem.W.subIn K (.ref X_BadScheme) (.ref X_NoInverse) = some false)
    (zs_NoInverse_NoInverse : PySem.W.subIn K (.ref X_NoInverse) (.ref X_NoInverse) = some true)
    (zb_UnknownAccount : PySem.W.subIn K (.ref X_UnknownAccount) (.type "BaseException") = some true)
    (zd_UnknownAccount : PySem.W.hasDictIn K X_UnknownAccount = true)
    (zt_UnknownAccount : PySem.W.typeIn K (.ref X_UnknownAccount) = some (.type "type"))
    (zs_BadScheme_UnknownAccount : PySem.W.subIn K (.ref X_BadScheme) (.ref X_UnknownAccount) = some false)
    (zs_UnknownAccount_UnknownAccount : PySem.W.subIn K (.ref X_UnknownAccount) (.ref X_UnknownAccount) = some true)
    (zb_BadText : PySem.W.subIn K (.ref X_BadText) (.type "BaseException") = some true)
    (zd_BadText : PySem.W.hasDictIn K X_BadText = true)
    (zt_BadText : PySem.W.typeIn K (.ref X_BadText) = some (.type "type"))
    (zs_BadScheme_BadText : PySem.W.subIn K (.ref X_BadScheme) (.ref X_BadText) = some false)
    (zs_BadText_BadText : PySem.W.subIn K (.ref X_BadText) (.ref X_BadText) = some true)
    (zb_BadAmount : PySem.W.subIn K (.ref X_BadAmount) (.type "BaseException") = some true)
    (zd_BadAmount : PySem.W.hasDictIn K X_BadAmount = true)
    (zt_BadAmount : PySem.W.typeIn K (.ref X_BadAmount) = some (.type "type"))
    (zs_BadScheme_BadAmount : PySem.W.subIn K (.ref X_BadScheme) (.ref X_BadAmount) = some false)
    (zs_BadAmount_BadAmount : PySem.W.subIn K (.ref X_BadAmount) (.ref X_BadAmount) = some true)
    (zb_CrossError : PySem.W.subIn K (.ref X_CrossError) (.type "BaseException") = some true)
    (zd_CrossError : PySem.W.hasDictIn K X_CrossError = true)
    (zt_CrossError : PySem.W.typeIn K (.ref X_CrossError) = some (.type "type"))
    (zs_BadScheme_CrossError : PySem.W.subIn K (.ref X_BadScheme) (.ref X_CrossError) = some true)
    (zs_CrossError_CrossError : PySem.W.subIn K (.ref X_CrossError) (.ref X_CrossError) = some true)
    (pg_Scheme : PySem.W.plainGet K C_Scheme Str.empty = true)
    (hd_Scheme : PySem.W.hasDictIn K C_Scheme = true)
    (po_Scheme : PySem.W.plainOver K C_Scheme = true)
    (sa_Scheme : PySem.W.findIn K (.ref C_Scheme) "__setattr__" = some (some (.builtin "object.__setattr__")))
    (mk_Scheme : PySem.W.makesIn K C_Scheme = true)
    (kc_Scheme : PySem.W.keepIn K (.ref C_Scheme) = true)
    (ic_Scheme : PySem.W.findIn K (.ref C_Scheme) "__class__" = some (some (.builtin "object.__class__")))
    (in_Scheme : PySem.W.specialIn K (.builtin "object.__class__") "__get__" = some (some (.builtin "getset_descriptor.__get__")))
    (it_Scheme : PySem.W.takesIn K (.builtin "object.__class__") = some true)
    (im_Scheme : PySem.W.mroIn K C_Scheme (.type "object") = some true)
    (ia_Scheme : PySem.W.typeIn K (.ref C_Scheme) = some (.type "type"))
    (rd_Scheme : PySem.W.readsIn K C_Scheme (.type "type") = true)
    (ga_Scheme : PySem.W.specialIn K (.ref C_Scheme) "__getattribute__" = some (some (.builtin "type.__getattribute__")))
    (z_all : PySem.W.nsIn K mainGlobals "all" = some none)
    (z_bool : PySem.W.nsIn K mainGlobals "bool" = some none)
    (z_int : PySem.W.nsIn K mainGlobals "int" = some none)
    (z_isinstance : PySem.W.nsIn K mainGlobals "isinstance" = some none)
    (z_len : PySem.W.nsIn K mainGlobals "len" = some none)
    (z_list : PySem.W.nsIn K mainGlobals "list" = some none)
    (z_range : PySem.W.nsIn K mainGlobals "range" = some none)
    (z_repr : PySem.W.nsIn K mainGlobals "repr" = some none)
    (ka_BASES' : PySem.W.nsIn K mainGlobals "BASES" = some (some (.ref ka_BASES)))
    (kl_BASES : WrT K ka_BASES [.int 2, .int 3, .int 5, .int 7])
    (ka_LEAST_ACCOUNTS' : PySem.W.nsIn K mainGlobals "LEAST_ACCOUNTS" = some (some (.int 2 kt_LEAST_ACCOUNTS)))
    (v_Scheme_LARGEST_PRIME : PySem.W.findCls K (.ref C_Scheme) (.type "type") "LARGEST_PRIME" = some (.val (.int 1000000000 t_Scheme_LARGEST_PRIME)))
    (v_Scheme_MOST_ACCOUNTS : PySem.W.findCls K (.ref C_Scheme) (.type "type") "MOST_ACCOUNTS" = some (.val (.int 24 t_Scheme_MOST_ACCOUNTS)))
    (v_Scheme_MOST_NUMBERS : PySem.W.findCls K (.ref C_Scheme) (.type "type") "MOST_NUMBERS" = some (.val (.int 24 t_Scheme_MOST_NUMBERS)))
    (vi_Scheme_LARGEST_PRIME : PySem.W.findIn K (.ref C_Scheme) "LARGEST_PRIME" = some (some (.int 1000000000 ti_Scheme_LARGEST_PRIME)))
    (vi_Scheme_MOST_ACCOUNTS : PySem.W.findIn K (.ref C_Scheme) "MOST_ACCOUNTS" = some (some (.int 24 ti_Scheme_MOST_ACCOUNTS)))
    (vi_Scheme_MOST_NUMBERS : PySem.W.findIn K (.ref C_Scheme) "MOST_NUMBERS" = some (some (.int 24 ti_Scheme_MOST_NUMBERS)))
    (n_Scheme_accounts_used : PySem.W.findIn K (.ref C_Scheme) "accounts_used" = some none)
    (n_Scheme_length_used : PySem.W.findIn K (.ref C_Scheme) "length_used" = some none)
    (n_Scheme_prime_used : PySem.W.findIn K (.ref C_Scheme) "prime_used" = some none)
    : ∃ (fd : FuncData) (G0 : Heap → Gx), (∀ base, (G0 base).P = l.prog ∧ (G0 base).w = w ∧ (G0 base).K = K ∧ (G0 base).mg = mg ∧ (G0 base).base = base) ∧ (∀ (s : Shared) (u : Value), BindsTo s fd ⟨[u], []⟩ [("_law_script", u)]) ∧
      ∀ base : Heap, K.In base → base.Ns mainGlobals mg → FnB (G0 base) 11 fa fd ["_law_script"] (m_law (G0 base)) := by
  have e := hfa.symm.trans (PySem.W.mg_of X N a_law)
  cases e
  refine ⟨PySem.W.fnOf "law" "law" (defArgs s_law) (defBody s_law) (defScope s_law) .none kV_law dc_law pm_law an_law cd_law ct_law, fun base => (⟨l.prog, w, K, mg, base, fun n => ([C_Scheme] : List Addr).getD n 0, fun n => ([["prime_used", "accounts_used", "length_used"]] : List (List Str)).getD n [], fun n => ([X_BadScheme, X_NoInverse, X_UnknownAccount, X_BadText, X_BadAmount, X_CrossError] : List Addr).getD n 0, fun n => (["value", "number", "account", "line", "value", ""] : List Str).getD n "", none⟩ : Gx), fun base => ⟨rfl, rfl, rfl, rfl, rfl⟩, fun s v => .of_eq rfl, fun base _ _ => Txt.B_law (G := (⟨l.prog, w, K, mg, base, fun n => ([C_Scheme] : List Addr).getD n 0, fun n => ([["prime_used", "accounts_used", "length_used"]] : List (List Str)).getD n [], fun n => ([X_BadScheme, X_NoInverse, X_UnknownAccount, X_BadText, X_BadAmount, X_CrossError] : List Addr).getD n 0, fun n => (["value", "number", "account", "line", "value", ""] : List Str).getD n "", none⟩ : Gx)) {
    f__law_deck := f__law_deck
    d__law_deck := PySem.W.fnOf "_law_deck" "_law_deck" (defArgs s__law_deck) (defBody s__law_deck) (defScope s__law_deck) .none kV__law_deck dc__law_deck pm__law_deck an__law_deck cd__law_deck ct__law_deck
    F__law_deck := fun_mk (st := s__law_deck) l__law_deck c__law_deck k__law_deck
    g__law_deck := PySem.W.mg_of X N a__law_deck
    f_is_between := f_is_between
    d_is_between := PySem.W.fnOf "is_between" "is_between" (defArgs s_is_between) (defBody s_is_between) (defScope s_is_between) .none kV_is_between dc_is_between pm_is_between an_is_between cd_is_between ct_is_between
    F_is_between := fun_mk (st := s_is_between) l_is_between c_is_between k_is_between
    g_is_between := PySem.W.mg_of X N a_is_between
    f_reduced_modulo := f_reduced_modulo
    d_reduced_modulo := PySem.W.fnOf "reduced_modulo" "reduced_modulo" (defArgs s_reduced_modulo) (defBody s_reduced_modulo) (defScope s_reduced_modulo) .none kV_reduced_modulo dc_reduced_modulo pm_reduced_modulo an_reduced_modulo cd_reduced_modulo ct_reduced_modulo
    F_reduced_modulo := fun_mk (st := s_reduced_modulo) l_reduced_modulo c_reduced_modulo k_reduced_modulo
    g_reduced_modulo := PySem.W.mg_of X N a_reduced_modulo
    f_power_of := f_power_of
    d_power_of := PySem.W.fnOf "power_of" "power_of" (defArgs s_power_of) (defBody s_power_of) (defScope s_power_of) .none kV_power_of dc_power_of pm_power_of an_power_of cd_power_of ct_power_of
    F_power_of := fun_mk (st := s_power_of) l_power_of c_power_of k_power_of
    g_power_of := PySem.W.mg_of X N a_power_of
    f_is_probable := f_is_probable
    d_is_probable := PySem.W.fnOf "is_probable" "is_probable" (defArgs s_is_probable) (defBody s_is_probable) (defScope s_is_probable) .none kV_is_probable dc_is_probable pm_is_probable an_is_probable cd_is_probable ct_is_probable
    F_is_probable := fun_mk (st := s_is_probable) l_is_probable c_is_probable k_is_probable
    g_is_probable := PySem.W.mg_of X N a_is_probable
    f_is_odd_prime := f_is_odd_prime
    d_is_odd_prime := PySem.W.fnOf "is_odd_prime" "is_odd_prime" (defArgs s_is_odd_prime) (defBody s_is_odd_prime) (defScope s_is_odd_prime) .none kV_is_odd_prime dc_is_odd_prime pm_is_odd_prime an_is_odd_prime cd_is_odd_prime ct_is_odd_prime
    F_is_odd_prime := fun_mk (st := s_is_odd_prime) l_is_odd_prime c_is_odd_prime k_is_odd_prime
    g_is_odd_prime := PySem.W.mg_of X N a_is_odd_prime
    f_Scheme_is_prime := f_Scheme_is_prime
    d_Scheme_is_prime := PySem.W.fnOf "is_prime" "Scheme.is_prime" (defArgs s_Scheme_is_prime) (defBody s_Scheme_is_prime) (defScope s_Scheme_is_prime) .none kV_Scheme_is_prime dc_Scheme_is_prime pm_Scheme_is_prime an_Scheme_is_prime cd_Scheme_is_prime ct_Scheme_is_prime
    F_Scheme_is_prime := fun_mk (st := s_Scheme_is_prime) l_Scheme_is_prime c_Scheme_is_prime k_Scheme_is_prime
    f_Scheme__init_ := f_Scheme__init_
    d_Scheme__init_ := PySem.W.fnOf "__init__" "Scheme.__init__" (defArgs s_Scheme__init_) (defBody s_Scheme__init_) (defScope s_Scheme__init_) .none kV_Scheme__init_ dc_Scheme__init_ pm_Scheme__init_ an_Scheme__init_ cd_Scheme__init_ ct_Scheme__init_
    F_Scheme__init_ := fun_mk (st := s_Scheme__init_) l_Scheme__init_ c_Scheme__init_ k_Scheme__init_
    f__law_is_prime := f__law_is_prime
    d__law_is_prime := PySem.W.fnOf "_law_is_prime" "_law_is_prime" (defArgs s__law_is_prime) (defBody s__law_is_prime) (defScope s__law_is_prime) .none kV__law_is_prime dc__law_is_prime pm__law_is_prime an__law_is_prime cd__law_is_prime ct__law_is_prime
    F__law_is_prime := fun_mk (st := s__law_is_prime) l__law_is_prime c__law_is_prime k__law_is_prime
    g__law_is_prime := PySem.W.mg_of X N a__law_is_prime
    f__law_prime_from := f__law_prime_from
    d__law_prime_from := PySem.W.fnOf "_law_prime_from" "_law_prime_from" (defArgs s__law_prime_from) (defBody s__law_prime_from) (defScope s__law_prime_from) .none kV__law_prime_from dc__law_prime_from pm__law_prime_from an__law_prime_from cd__law_prime_from ct__law_prime_from
    F__law_prime_from := fun_mk (st := s__law_prime_from) l__law_prime_from c__law_prime_from k__law_prime_from
    g__law_prime_from := PySem.W.mg_of X N a__law_prime_from
    f__law_draw := f__law_draw
    d__law_draw := PySem.W.fnOf "_law_draw" "_law_draw" (defArgs s__law_draw) (defBody s__law_draw) (defScope s__law_draw) .none kV__law_draw dc__law_draw pm__law_draw an__law_draw cd__law_draw ct__law_draw
    F__law_draw := fun_mk (st := s__law_draw) l__law_draw c__law_draw k__law_draw
    g__law_draw := PySem.W.mg_of X N a__law_draw
    f__law_pick := f__law_pick
    d__law_pick := PySem.W.fnOf "_law_pick" "_law_pick" (defArgs s__law_pick) (defBody s__law_pick) (defScope s__law_pick) .none kV__law_pick dc__law_pick pm__law_pick an__law_pick cd__law_pick ct__law_pick
    F__law_pick := fun_mk (st := s__law_pick) l__law_pick c__law_pick k__law_pick
    g__law_pick := PySem.W.mg_of X N a__law_pick
    f__law_parts := f__law_parts
    d__law_parts := PySem.W.fnOf "_law_parts" "_law_parts" (defArgs s__law_parts) (defBody s__law_parts) (defScope s__law_parts) .none kV__law_parts dc__law_parts pm__law_parts an__law_parts cd__law_parts ct__law_parts
    F__law_parts := fun_mk (st := s__law_parts) l__law_parts c__law_parts k__law_parts
    g__law_parts := PySem.W.mg_of X N a__law_parts
    f__law_is_between := f__law_is_between
    d__law_is_between := PySem.W.fnOf "_law_is_between" "_law_is_between" (defArgs s__law_is_between) (defBody s__law_is_between) (defScope s__law_is_between) .none kV__law_is_between dc__law_is_between pm__law_is_between an__law_is_between cd__law_is_between ct__law_is_between
    F__law_is_between := fun_mk (st := s__law_is_between) l__law_is_between c__law_is_between k__law_is_between
    g__law_is_between := PySem.W.mg_of X N a__law_is_between
    f__law_wrong := f__law_wrong
    d__law_wrong := PySem.W.fnOf "_law_wrong" "_law_wrong" (defArgs s__law_wrong) (defBody s__law_wrong) (defScope s__law_wrong) .none kV__law_wrong dc__law_wrong pm__law_wrong an__law_wrong cd__law_wrong ct__law_wrong
    F__law_wrong := fun_mk (st := s__law_wrong) l__law_wrong c__law_wrong k__law_wrong
    g__law_wrong := PySem.W.mg_of X N a__law_wrong
    f__law_outcome := f__law_outcome
    d__law_outcome := PySem.W.fnOf "_law_outcome" "_law_outcome" (defArgs s__law_outcome) (defBody s__law_outcome) (defScope s__law_outcome) .none kV__law_outcome dc__law_outcome pm__law_outcome an__law_outcome cd__law_outcome ct__law_outcome
    F__law_outcome := fun_mk (st := s__law_outcome) l__law_outcome c__law_outcome k__law_outcome
    g__law_outcome := PySem.W.mg_of X N a__law_outcome
    f_Scheme_shortened := f_Scheme_shortened
    d_Scheme_shortened := PySem.W.fnOf "shortened" "Scheme.shortened" (defArgs s_Scheme_shortened) (defBody s_Scheme_shortened) (defScope s_Scheme_shortened) .none kV_Scheme_shortened dc_Scheme_shortened pm_Scheme_shortened an_Scheme_shortened cd_Scheme_shortened ct_Scheme_shortened
    F_Scheme_shortened := fun_mk (st := s_Scheme_shortened) l_Scheme_shortened c_Scheme_shortened k_Scheme_shortened
    f_Scheme_is_same := f_Scheme_is_same
    d_Scheme_is_same := PySem.W.fnOf "is_same" "Scheme.is_same" (defArgs s_Scheme_is_same) (defBody s_Scheme_is_same) (defScope s_Scheme_is_same) .none kV_Scheme_is_same dc_Scheme_is_same pm_Scheme_is_same an_Scheme_is_same cd_Scheme_is_same ct_Scheme_is_same
    F_Scheme_is_same := fun_mk (st := s_Scheme_is_same) l_Scheme_is_same c_Scheme_is_same k_Scheme_is_same
    f_Scheme_prime := f_Scheme_prime
    d_Scheme_prime := PySem.W.fnOf "prime" "Scheme.prime" (defArgs s_Scheme_prime) (defBody s_Scheme_prime) (defScope s_Scheme_prime) .none kV_Scheme_prime dc_Scheme_prime pm_Scheme_prime an_Scheme_prime cd_Scheme_prime ct_Scheme_prime
    F_Scheme_prime := fun_mk (st := s_Scheme_prime) l_Scheme_prime c_Scheme_prime k_Scheme_prime
    f_Scheme_accounts := f_Scheme_accounts
    d_Scheme_accounts := PySem.W.fnOf "accounts" "Scheme.accounts" (defArgs s_Scheme_accounts) (defBody s_Scheme_accounts) (defScope s_Scheme_accounts) .none kV_Scheme_accounts dc_Scheme_accounts pm_Scheme_accounts an_Scheme_accounts cd_Scheme_accounts ct_Scheme_accounts
    F_Scheme_accounts := fun_mk (st := s_Scheme_accounts) l_Scheme_accounts c_Scheme_accounts k_Scheme_accounts
    f_Scheme_length := f_Scheme_length
    d_Scheme_length := PySem.W.fnOf "length" "Scheme.length" (defArgs s_Scheme_length) (defBody s_Scheme_length) (defScope s_Scheme_length) .none kV_Scheme_length dc_Scheme_length pm_Scheme_length an_Scheme_length cd_Scheme_length ct_Scheme_length
    F_Scheme_length := fun_mk (st := s_Scheme_length) l_Scheme_length c_Scheme_length k_Scheme_length
    f_Scheme_largest_amount := f_Scheme_largest_amount
    d_Scheme_largest_amount := PySem.W.fnOf "largest_amount" "Scheme.largest_amount" (defArgs s_Scheme_largest_amount) (defBody s_Scheme_largest_amount) (defScope s_Scheme_largest_amount) .none kV_Scheme_largest_amount dc_Scheme_largest_amount pm_Scheme_largest_amount an_Scheme_largest_amount cd_Scheme_largest_amount ct_Scheme_largest_amount
    F_Scheme_largest_amount := fun_mk (st := s_Scheme_largest_amount) l_Scheme_largest_amount c_Scheme_largest_amount k_Scheme_largest_amount
    f__law_numbers := f__law_numbers
    d__law_numbers := PySem.W.fnOf "_law_numbers" "_law_numbers" (defArgs s__law_numbers) (defBody s__law_numbers) (defScope s__law_numbers) .none kV__law_numbers dc__law_numbers pm__law_numbers an__law_numbers cd__law_numbers ct__law_numbers
    F__law_numbers := fun_mk (st := s__law_numbers) l__law_numbers c__law_numbers k__law_numbers
    g__law_numbers := PySem.W.mg_of X N a__law_numbers
    f__law_created_correct := f__law_created_correct
    d__law_created_correct := PySem.W.fnOf "_law_created_correct" "_law_created_correct" (defArgs s__law_created_correct) (defBody s__law_created_correct) (defScope s__law_created_correct) .none kV__law_created_correct dc__law_created_correct pm__law_created_correct an__law_created_correct cd__law_created_correct ct__law_created_correct
    F__law_created_correct := fun_mk (st := s__law_created_correct) l__law_created_correct c__law_created_correct k__law_created_correct
    g__law_created_correct := PySem.W.mg_of X N a__law_created_correct
    f__law_correct := f__law_correct
    d__law_correct := PySem.W.fnOf "_law_correct" "_law_correct" (defArgs s__law_correct) (defBody s__law_correct) (defScope s__law_correct) .none kV__law_correct dc__law_correct pm__law_correct an__law_correct cd__law_correct ct__law_correct
    F__law_correct := fun_mk (st := s__law_correct) l__law_correct c__law_correct k__law_correct
    g__law_correct := PySem.W.mg_of X N a__law_correct
    f_law := fa
    d_law := PySem.W.fnOf "law" "law" (defArgs s_law) (defBody s_law) (defScope s_law) .none kV_law dc_law pm_law an_law cd_law ct_law
    F_law := fun_mk (st := s_law) l_law c_law k_law
    g_law := PySem.W.mg_of X N a_law
    cl_Scheme := ⟨pg_Scheme, hd_Scheme, po_Scheme, sa_Scheme⟩
    g_Scheme := PySem.W.mg_of X N aC_Scheme
    fn_Scheme := rfl
    mk_Scheme := ⟨mk_Scheme, m_Scheme__init_, i_Scheme__init_, kc_Scheme⟩
    ic_Scheme := ⟨ic_Scheme, in_Scheme, it_Scheme, im_Scheme⟩
    ia_Scheme := ⟨⟨ic_Scheme, in_Scheme, it_Scheme, im_Scheme⟩, ia_Scheme⟩
    rd_Scheme := ⟨rd_Scheme, ga_Scheme⟩
    cu := rfl
    ge_BadScheme := PySem.W.mg_of X N aX_BadScheme
    ge_NoInverse := PySem.W.mg_of X N aX_NoInverse
    ge_UnknownAccount := PySem.W.mg_of X N aX_UnknownAccount
    ge_BadText := PySem.W.mg_of X N aX_BadText
    ge_BadAmount := PySem.W.mg_of X N aX_BadAmount
    ge_CrossError := PySem.W.mg_of X N aX_CrossError
    f_BadScheme__init_ := f_BadScheme__init_
    d_BadScheme__init_ := PySem.W.fnOf "__init__" "BadScheme.__init__" (defArgs s_BadScheme__init_) (defBody s_BadScheme__init_) (defScope s_BadScheme__init_) .none kV_BadScheme__init_ dc_BadScheme__init_ pm_BadScheme__init_ an_BadScheme__init_ cd_BadScheme__init_ ct_BadScheme__init_
    F_BadScheme__init_ := fun_mk (st := s_BadScheme__init_) l_BadScheme__init_ c_BadScheme__init_ k_BadScheme__init_
    ox_BadScheme := ⟨⟨_, _, _, _, _, _, _, _, _, _, _, _, _, _, _, xo_BadScheme, rfl⟩, xs_BadScheme, xe_BadScheme, xy_BadScheme, xk_BadScheme⟩
    xi_BadScheme := xi_BadScheme
    xt_BadScheme := xt_BadScheme
    xf_BadScheme := rfl
    xn_BadScheme := xn_BadScheme
    rdE_CrossError := ⟨rdE_CrossError, gaE_CrossError⟩
    xv_CrossError := xv_CrossError
    xfc_BadScheme := ⟨yg_BadScheme, yk_BadScheme, xe_BadScheme, yd_BadScheme⟩
    xec_BadScheme := ⟨yg_BadScheme, yk_BadScheme, xe_BadScheme, yd_BadScheme, ya_BadScheme, yn_BadScheme, yt_BadScheme, ym_BadScheme⟩
    xm_BadScheme_BadScheme := PySem.W.exm_ref zb_BadScheme zd_BadScheme zt_BadScheme zs_BadScheme_BadScheme
    xks_BadScheme_BadAmount_BadText_UnknownAccount_NoInverse := (DL.kit_any_f (DL.kit_own zd_BadAmount zt_BadAmount zs_BadScheme_BadAmount zs_BadAmount_BadAmount) (DL.kit_any_f (DL.kit_own zd_BadText zt_BadText zs_BadScheme_BadText zs_BadText_BadText) (DL.kit_any_f (DL.kit_own zd_UnknownAccount zt_UnknownAccount zs_BadScheme_UnknownAccount zs_UnknownAccount_UnknownAccount) (DL.kit_any_f (DL.kit_own zd_NoInverse zt_NoInverse zs_BadScheme_NoInverse zs_NoInverse_NoInverse) L2.kitAny_nil))))
    xk_BadScheme_CrossError := (DL.kit_own zd_CrossError zt_CrossError zs_BadScheme_CrossError zs_CrossError_CrossError)
    z_all := PySem.W.mg_none_of X N z_all
    z_bool := PySem.W.mg_none_of X N z_bool
    z_int := PySem.W.mg_none_of X N z_int
    z_isinstance := PySem.W.mg_none_of X N z_isinstance
    z_len := PySem.W.mg_none_of X N z_len
    z_list := PySem.W.mg_none_of X N z_list
    z_range := PySem.W.mg_none_of X N z_range
    z_repr := PySem.W.mg_none_of X N z_repr
    ka_BASES := ka_BASES
    kv_BASES := [.int 2, .int 3, .int 5, .int 7]
    kg_BASES := PySem.W.mg_of X N ka_BASES'
    kw_BASES := kl_BASES
    kr_BASES := fun _ _ _ => .cons (.int _) (.cons (.int _) (.cons (.int _) (.cons (.int _) (.nil))))
    kt_LEAST_ACCOUNTS := kt_LEAST_ACCOUNTS
    kg_LEAST_ACCOUNTS := PySem.W.mg_of X N ka_LEAST_ACCOUNTS'
    t_Scheme_LARGEST_PRIME := t_Scheme_LARGEST_PRIME
    v_Scheme_LARGEST_PRIME := ⟨v_Scheme_LARGEST_PRIME, ⟨_, rfl⟩⟩
    t_Scheme_MOST_ACCOUNTS := t_Scheme_MOST_ACCOUNTS
    v_Scheme_MOST_ACCOUNTS := ⟨v_Scheme_MOST_ACCOUNTS, ⟨_, rfl⟩⟩
    t_Scheme_MOST_NUMBERS := t_Scheme_MOST_NUMBERS
    v_Scheme_MOST_NUMBERS := ⟨v_Scheme_MOST_NUMBERS, ⟨_, rfl⟩⟩
    ti_Scheme_LARGEST_PRIME := ti_Scheme_LARGEST_PRIME
    vi_Scheme_LARGEST_PRIME := DL.con_int vi_Scheme_LARGEST_PRIME DL.get_int (by decide +kernel)
    ti_Scheme_MOST_ACCOUNTS := ti_Scheme_MOST_ACCOUNTS
    vi_Scheme_MOST_ACCOUNTS := DL.con_int vi_Scheme_MOST_ACCOUNTS DL.get_int (by decide +kernel)
    ti_Scheme_MOST_NUMBERS := ti_Scheme_MOST_NUMBERS
    vi_Scheme_MOST_NUMBERS := DL.con_int vi_Scheme_MOST_NUMBERS DL.get_int (by decide +kernel)
    n_Scheme_accounts_used := n_Scheme_accounts_used
    n_Scheme_length_used := n_Scheme_length_used
    n_Scheme_prime_used := n_Scheme_prime_used
    mt_Scheme_is_same := ⟨m_Scheme_is_same, i_Scheme_is_same, k_Scheme_is_same⟩
    mt_Scheme_shortened := ⟨m_Scheme_shortened, i_Scheme_shortened, k_Scheme_shortened⟩
    pr_Scheme_accounts := pr_Scheme_accounts
    p_Scheme_accounts := ⟨m_Scheme_accounts, pg_Scheme_accounts, pt_Scheme_accounts, _, px_Scheme_accounts⟩
    pr_Scheme_largest_amount := pr_Scheme_largest_amount
    p_Scheme_largest_amount := ⟨m_Scheme_largest_amount, pg_Scheme_largest_amount, pt_Scheme_largest_amount, _, px_Scheme_largest_amount⟩
    pr_Scheme_length := pr_Scheme_length
    p_Scheme_length := ⟨m_Scheme_length, pg_Scheme_length, pt_Scheme_length, _, px_Scheme_length⟩
    pr_Scheme_prime := pr_Scheme_prime
    p_Scheme_prime := ⟨m_Scheme_prime, pg_Scheme_prime, pt_Scheme_prime, _, px_Scheme_prime⟩
    sp_Scheme_is_prime := pr_Scheme_is_prime
    st_Scheme_is_prime := ⟨m_Scheme_is_prime, ⟨_, px_Scheme_is_prime⟩, k_Scheme_is_prime⟩
  }⟩
theorem all_mk2 {l : PySem.W.OpenLaw} {w : World} {K : PySem.W.Frag} {h : Heap} {mg : Str → Option Value} {fa : Addr} (X : K.In h) (N : h.Ns mainGlobals mg) (hfa : mg "law" = some (.ref fa)) (c : DL.SaysX fcts fns K)
    : ∃ (fd : FuncData) (G0 : Heap → Gx), (∀ base, (G0 base).P = l.prog ∧ (G0 base).w = w ∧ (G0 base).K = K ∧ (G0 base).mg = mg ∧ (G0 base).base = base) ∧ (∀ (s : Shared) (u : Value), BindsTo s fd ⟨[u], []⟩ [("_law_script", u)]) ∧
      ∀ base : Heap, K.In base → base.Ns mainGlobals mg → FnB (G0 base) 11 fa fd ["_law_script"] (m_law (G0 base)) := by
  obtain ⟨_, _, _, _, _, _, _, _, _, l__law_deck, c__law_deck⟩ := c.def_ 0 (d := hd__law_deck) rfl
  obtain ⟨_, _, _, _, _, _, _, _, _, l_is_between, c_is_between⟩ := c.def_ 1 (d := hd_is_between) rfl
  obtain ⟨_, _, _, _, _, _, _, _, _, l_reduced_modulo, c_reduced_modulo⟩ := c.def_ 2 (d := hd_reduced_modulo) rfl
  obtain ⟨_, _, _, _, _, _, _, _, _, l_power_of, c_power_of⟩ := c.def_ 3 (d := hd_power_of) rfl
  obtain ⟨_, _, _, _, _, _, _, _, _, l_is_probable, c_is_probable⟩ := c.def_ 4 (d := hd_is_probable) rfl
  obtain ⟨_, _, _, _, _, _, _, _, _, l_is_odd_prime, c_is_odd_prime⟩ := c.def_ 5 (d := hd_is_odd_prime) rfl
  obtain ⟨_, _, _, _, _, _, _, _, _, l_Scheme_is_prime, c_Scheme_is_prime⟩ := c.def_ 6 (d := hd_Scheme_is_prime) rfl
  obtain ⟨_, _, _, _, _, _, _, _, _, l_Scheme__init_, c_Scheme__init_⟩ := c.def_ 7 (d := hd_Scheme__init_) rfl
  obtain ⟨_, _, _, _, _, _, _, _, _, l__law_is_prime, c__law_is_prime⟩ := c.def_ 8 (d := hd__law_is_prime) rfl
  obtain ⟨_, _, _, _, _, _, _, _, _, l__law_prime_from, c__law_prime_from⟩ := c.def_ 9 (d := hd__law_prime_from) rfl
  obtain ⟨_, _, _, _, _, _, _, _, _, l__law_draw, c__law_draw⟩ := c.def_ 10 (d := hd__law_draw) rfl
  obtain ⟨_, _, _, _, _, _, _, _, _, l__law_pick, c__law_pick⟩ := c.def_ 11 (d := hd__law_pick) rfl
  obtain ⟨_, _, _, _, _, _, _, _, _, l__law_parts, c__law_parts⟩ := c.def_ 12 (d := hd__law_parts) rfl
  obtain ⟨_, _, _, _, _, _, _, _, _, l__law_is_between, c__law_is_between⟩ := c.def_ 13 (d := hd__law_is_between) rfl
  obtain ⟨_, _, _, _, _, _, _, _, _, l__law_wrong, c__law_wrong⟩ := c.def_ 14 (d := hd__law_wrong) rfl
  obtain ⟨_, _, _, _, _, _, _, _, _, l__law_outcome, c__law_outcome⟩ := c.def_ 15 (d := hd__law_outcome) rfl
  obtain ⟨_, _, _, _, _, _, _, _, _, l_Scheme_shortened, c_Scheme_shortened⟩ := c.def_ 16 (d := hd_Scheme_shortened) rfl
  obtain ⟨_, _, _, _, _, _, _, _, _, l_Scheme_is_same, c_Scheme_is_same⟩ := c.def_ 17 (d := hd_Scheme_is_same) rfl
  obtain ⟨_, _, _, _, _, _, _, _, _, l_Scheme_prime, c_Scheme_prime⟩ := c.def_ 18 (d := hd_Scheme_prime) rfl
  obtain ⟨_, _, _, _, _, _, _, _, _, l_Scheme_accounts, c_Scheme_accounts⟩ := c.def_ 19 (d := hd_Scheme_accounts) rfl
  obtain ⟨_, _, _, _, _, _, _, _, _, l_Scheme_length, c_Scheme_length⟩ := c.def_ 20 (d := hd_Scheme_length) rfl
  obtain ⟨_, _, _, _, _, _, _, _, _, l_Scheme_largest_amount, c_Scheme_largest_amount⟩ := c.def_ 21 (d := hd_Scheme_largest_amount) rfl
  obtain ⟨_, _, _, _, _, _, _, _, _, l__law_numbers, c__law_numbers⟩ := c.def_ 22 (d := hd__law_numbers) rfl
  obtain ⟨_, _, _, _, _, _, _, _, _, l__law_created_correct, c__law_created_correct⟩ := c.def_ 23 (d := hd__law_created_correct) rfl
  obtain ⟨_, _, _, _, _, _, _, _, _, l__law_correct, c__law_correct⟩ := c.def_ 24 (d := hd__law_correct) rfl
  obtain ⟨_, _, _, _, _, _, _, _, _, l_law, c_law⟩ := c.def_ 25 (d := hd_law) rfl
  obtain ⟨_, _, _, _, _, _, _, _, _, l_BadScheme__init_, c_BadScheme__init_⟩ := c.def_ 26 (d := hd_BadScheme__init_) rfl
  obtain ⟨_, px_Scheme_is_prime⟩ := DL.isRec_ok (c.fact 14 rfl)
  obtain ⟨_, px_Scheme_prime⟩ := DL.isRec_ok (c.fact 44 rfl)
  obtain ⟨_, px_Scheme_accounts⟩ := DL.isRec_ok (c.fact 49 rfl)
  obtain ⟨_, px_Scheme_length⟩ := DL.isRec_ok (c.fact 54 rfl)
  obtain ⟨_, px_Scheme_largest_amount⟩ := DL.isRec_ok (c.fact 59 rfl)
  obtain ⟨_, _, _, _, _, _, _, _, _, _, _, _, _, _, xo_BadScheme⟩ := DL.isExcX_ok (c.fact 77 rfl)
  obtain ⟨_, ka_LEAST_ACCOUNTS'⟩ := DL.isInt_ok (c.fact 146 rfl)
  obtain ⟨_, v_Scheme_LARGEST_PRIME⟩ := DL.isVInt_ok (c.fact 147 rfl)
  obtain ⟨_, v_Scheme_MOST_ACCOUNTS⟩ := DL.isVInt_ok (c.fact 148 rfl)
  obtain ⟨_, v_Scheme_MOST_NUMBERS⟩ := DL.isVInt_ok (c.fact 149 rfl)
  obtain ⟨_, vi_Scheme_LARGEST_PRIME⟩ := DL.isInt_ok (c.fact 150 rfl)
  obtain ⟨_, vi_Scheme_MOST_ACCOUNTS⟩ := DL.isInt_ok (c.fact 151 rfl)
  obtain ⟨_, vi_Scheme_MOST_NUMBERS⟩ := DL.isInt_ok (c.fact 152 rfl)
  exact all_mk X N hfa (DL.eqO_ok (c.fact 0 rfl)) (DL.eqO_ok (c.fact 1 rfl)) l__law_deck c__law_deck (c.fact 2 rfl) (DL.eqO_ok (c.fact 3 rfl)) l_is_between c_is_between (c.fact 4 rfl) (DL.eqO_ok (c.fact 5 rfl)) l_reduced_modulo c_reduced_modulo (c.fact 6 rfl) (DL.eqO_ok (c.fact 7 rfl)) l_power_of c_power_of (c.fact 8 rfl) (DL.eqO_ok (c.fact 9 rfl)) l_is_probable c_is_probable (c.fact 10 rfl) (DL.eqO_ok (c.fact 11 rfl)) l_is_odd_prime c_is_odd_prime (c.fact 12 rfl) (DL.isGet_ok (c.fact 13 rfl)) px_Scheme_is_prime l_Scheme_is_prime c_Scheme_is_prime (c.fact 15 rfl) (DL.eqO_ok (c.fact 16 rfl)) (c.fact 17 rfl) l_Scheme__init_ c_Scheme__init_ (c.fact 18 rfl) (DL.eqO_ok (c.fact 19 rfl)) l__law_is_prime c__law_is_prime (c.fact 20 rfl) (DL.eqO_ok (c.fact 21 rfl)) l__law_prime_from c__law_prime_from (c.fact 22 rfl) (DL.eqO_ok (c.fact 23 rfl)) l__law_draw c__law_draw (c.fact 24 rfl) (DL.eqO_ok (c.fact 25 rfl)) l__law_pick c__law_pick (c.fact 26 rfl) (DL.eqO_ok (c.fact 27 rfl)) l__law_parts c__law_parts (c.fact 28 rfl) (DL.eqO_ok (c.fact 29 rfl)) l__law_is_between c__law_is_between (c.fact 30 rfl) (DL.eqO_ok (c.fact 31 rfl)) l__law_wrong c__law_wrong (c.fact 32 rfl) (DL.eqO_ok (c.fact 33 rfl)) l__law_outcome c__law_outcome (c.fact 34 rfl) (DL.eqO_ok (c.fact 35 rfl)) (c.fact 36 rfl) l_Scheme_shortened c_Scheme_shortened (c.fact 37 rfl) (DL.eqO_ok (c.fact 38 rfl)) (c.fact 39 rfl) l_Scheme_is_same c_Scheme_is_same (c.fact 40 rfl) (DL.eqO_ok (c.fact 41 rfl)) (DL.eqO_ok (c.fact 42 rfl)) (DL.eqB_ok (c.fact 43 rfl)) px_Scheme_prime l_Scheme_prime c_Scheme_prime (c.fact 45 rfl) (DL.eqO_ok (c.fact 46 rfl)) (DL.eqO_ok (c.fact 47 rfl)) (DL.eqB_ok (c.fact 48 rfl)) px_Scheme_accounts l_Scheme_accounts c_Scheme_accounts (c.fact 50 rfl) (DL.eqO_ok (c.fact 51 rfl)) (DL.eqO_ok (c.fact 52 rfl)) (DL.eqB_ok (c.fact 53 rfl)) px_Scheme_length l_Scheme_length c_Scheme_length (c.fact 55 rfl) (DL.eqO_ok (c.fact 56 rfl)) (DL.eqO_ok (c.fact 57 rfl)) (DL.eqB_ok (c.fact 58 rfl)) px_Scheme_largest_amount l_Scheme_largest_amount c_Scheme_largest_amount (c.fact 60 rfl) (DL.eqO_ok (c.fact 61 rfl)) l__law_numbers c__law_numbers (c.fact 62 rfl) (DL.eqO_ok (c.fact 63 rfl)) l__law_created_correct c__law_created_correct (c.fact 64 rfl) (DL.eqO_ok (c.fact 65 rfl)) l__law_correct c__law_correct (c.fact 66 rfl) (DL.eqO_ok (c.fact 67 rfl)) l_law c_law (c.fact 68 rfl) (DL.eqO_ok (c.fact 69 rfl)) (DL.eqO_ok (c.fact 70 rfl)) (DL.eqO_ok (c.fact 71 rfl)) (DL.eqO_ok (c.fact 72 rfl)) (DL.eqO_ok (c.fact 73 rfl)) (DL.eqO_ok (c.fact 74 rfl)) (DL.eqO_ok (c.fact 75 rfl)) l_BadScheme__init_ c_BadScheme__init_ (c.fact 76 rfl) (xo_BadScheme) (DL.eqO_ok (c.fact 78 rfl)) (DL.eqB_ok (c.fact 79 rfl)) (DL.eqV_ok (c.fact 80 rfl)) (c.fact 81 rfl) (DL.eqV_ok (c.fact 82 rfl)) (DL.eqO_ok (c.fact 83 rfl)) (c.fact 84 rfl) (DL.eqO_ok (c.fact 85 rfl)) (DL.isVBi_ok (c.fact 86 rfl)) (DL.eqO_ok (c.fact 87 rfl)) (DL.eqO_ok (c.fact 88 rfl)) (c.fact 89 rfl) (DL.eqO_ok (c.fact 90 rfl)) (DL.eqO_ok (c.fact 91 rfl)) (DL.eqB_ok (c.fact 92 rfl)) (DL.eqB_ok (c.fact 93 rfl)) (DL.eqB_ok (c.fact 94 rfl)) (DL.eqB_ok (c.fact 95 rfl)) (c.fact 96 rfl) (DL.eqV_ok (c.fact 97 rfl)) (DL.eqB_ok (c.fact 98 rfl)) (c.fact 99 rfl) (DL.eqV_ok (c.fact 100 rfl)) (DL.eqB_ok (c.fact 101 rfl)) (DL.eqB_ok (c.fact 102 rfl)) (DL.eqB_ok (c.fact 103 rfl)) (c.fact 104 rfl) (DL.eqV_ok (c.fact 105 rfl)) (DL.eqB_ok (c.fact 106 rfl)) (DL.eqB_ok (c.fact 107 rfl)) (DL.eqB_ok (c.fact 108 rfl)) (c.fact 109 rfl) (DL.eqV_ok (c.fact 110 rfl)) (DL.eqB_ok (c.fact 111 rfl)) (DL.eqB_ok (c.fact 112 rfl)) (DL.eqB_ok (c.fact 113 rfl)) (c.fact 114 rfl) (DL.eqV_ok (c.fact 115 rfl)) (DL.eqB_ok (c.fact 116 rfl)) (DL.eqB_ok (c.fact 117 rfl)) (DL.eqB_ok (c.fact 118 rfl)) (c.fact 119 rfl) (DL.eqV_ok (c.fact 120 rfl)) (DL.eqB_ok (c.fact 121 rfl)) (DL.eqB_ok (c.fact 122 rfl)) (c.fact 123 rfl) (c.fact 124 rfl) (c.fact 125 rfl) (DL.eqO_ok (c.fact 126 rfl)) (c.fact 127 rfl) (c.fact 128 rfl) (DL.eqO_ok (c.fact 129 rfl)) (DL.eqO_ok (c.fact 130 rfl)) (DL.eqB_ok (c.fact 131 rfl)) (DL.eqB_ok (c.fact 132 rfl)) (DL.eqV_ok (c.fact 133 rfl)) (c.fact 134 rfl) (DL.eqO_ok (c.fact 135 rfl)) (DL.eqO_ok (c.fact 136 rfl)) (DL.eqO_ok (c.fact 137 rfl)) (DL.eqO_ok (c.fact 138 rfl)) (DL.eqO_ok (c.fact 139 rfl)) (DL.eqO_ok (c.fact 140 rfl)) (DL.eqO_ok (c.fact 141 rfl)) (DL.eqO_ok (c.fact 142 rfl)) (DL.eqO_ok (c.fact 143 rfl)) (DL.eqO_ok (c.fact 144 rfl)) (DL.isTupX_ok (c.fact 145 rfl)) ka_LEAST_ACCOUNTS' v_Scheme_LARGEST_PRIME v_Scheme_MOST_ACCOUNTS v_Scheme_MOST_NUMBERS vi_Scheme_LARGEST_PRIME vi_Scheme_MOST_ACCOUNTS vi_Scheme_MOST_NUMBERS (DL.eqO_ok (c.fact 153 rfl)) (DL.eqO_ok (c.fact 154 rfl)) (DL.eqO_ok (c.fact 155 rfl))
end K02
namespace DL
open PySem PySem.Spec PyProof.Rows L2
section
variable {ρ : Env} {S : Sto}
@[simp] theorem e_var_ok {i : Nat} {d : D} (h : ρ[i]? = some (some d)) : c_var i ρ S = .ok d S := by unfold c_var; rw [h]
@[simp] theorem e_d {d : D} : c_d d ρ S = .ok d S := rfl
@[simp] theorem e_op {p : D → D → Sto → Res D} {a b : ECode} : c_op p a b ρ S = (a ρ S).bind fun x S1 => (b ρ S1).bind fun y S2 => p x y S2 := rfl
@[simp] theorem e_un {p : D → Sto → Res D} {a : ECode} : c_un p a ρ S = (a ρ S).bind fun x S1 => p x S1 := rfl
@[simp] theorem e_test {a : ECode} : c_test a ρ S = (a ρ S).bind asB := rfl
@[simp] theorem e_asB {b : Bool} : asB (.bl b) S = .ok b S := rfl
@[simp] theorem e_and {a b : TCode} : c_and a b ρ S = (a ρ S).bind fun c S1 => if c = true then b ρ S1 else .ok false S1 := rfl
@[simp] theorem e_or {a b : TCode} : c_or a b ρ S = (a ρ S).bind fun c S1 => if c = true then .ok true S1 else b ρ S1 := rfl
@[simp] theorem e_not {a : TCode} : c_not a ρ S = (a ρ S).bind fun c S1 => .ok (!c) S1 := rfl
@[simp] theorem e_if {c : TCode} {a b : ECode} : c_if c a b ρ S = (c ρ S).bind fun k S1 => if k = true then a ρ S1 else b ρ S1 := rfl
@[simp] theorem e_andV {a b : ECode} : c_andV a b ρ S = (a ρ S).bind fun x S1 => (asB x S1).bind fun c S2 => if c = true then b ρ S2 else .ok (.bl false) S2 := rfl
@[simp] theorem e_orV {a b : ECode} : c_orV a b ρ S = (a ρ S).bind fun x S1 => (asB x S1).bind fun c S2 => if c = true then .ok (.bl true) S2 else b ρ S2 := rfl
@[simp] theorem e_notV {a : ECode} : c_notV a ρ S = (a ρ S).bind fun x S1 => (asB x S1).bind fun c S2 => .ok (.bl (!c)) S2 := rfl
@[simp] theorem e_chain {p p' : D → D → Sto → Res D} {a b c : ECode} : c_chain p p' a b c ρ S = (a ρ S).bind fun x S1 => (b ρ S1).bind fun y S2 => (p x y S2).bind fun z S3 => (asB z S3).bind fun k S4 =>
  if k = true then (c ρ S4).bind fun w S5 => p' y w S5 else .ok (.bl false) S4 := rfl
@[simp] theorem e_nil : c_nil ρ S = .ok [] S := rfl
@[simp] theorem e_cons {a : ECode} {r : ACode} : c_cons a r ρ S = (a ρ S).bind fun x S1 => (r ρ S1).bind fun xs S2 => .ok (x :: xs) S2 := rfl
@[simp] theorem e_tup {a : ACode} : c_tup a ρ S = (a ρ S).bind p_tup := rfl
@[simp] theorem e_lst {b : Bool} {a : ACode} : c_lst b a ρ S = (a ρ S).bind (p_lst b) := rfl
@[simp] theorem e_cb {p : List D → Sto → Res D} {a : ACode} : c_cb p a ρ S = (a ρ S).bind p := rfl
@[simp] theorem e_callK {n m' : Nat} {g : List D → List D → List D} {m : List D → Sto → Res D} {a b : ACode} : c_callK n m' g m a b ρ S = (a ρ S).bind fun ds S1 => (b ρ S1).bind fun es S2 => if ds.length = n ∧ es.length = m' then m (g ds es) S2 else .stuck := rfl
@[simp] theorem e_meth {g : D → Sto → Bool} {p : D → List D → Sto → Res D} {o : ECode} {a : ACode} : c_meth g p o a ρ S = (o ρ S).bind fun x S1 => if g x S1 = true then (a ρ S1).bind fun ds S2 => p x ds S2 else .stuck := rfl
@[simp] theorem e_methP {c : Nat} {m : List D → Sto → Res D} {o : ECode} {a : ACode} : c_methP c m o a ρ S = (o ρ S).bind fun x S1 => if clsOf x S1 = some c then (a ρ S1).bind fun ds S2 => m (x :: ds) S2 else .stuck := rfl
@[simp] theorem e_smeth {C : Addr} {m : List D → Sto → Res D} {o : ECode} {a : ACode} : c_smeth C m o a ρ S = (o ρ S).bind fun x S1 => if isCon C x = true then (a ρ S1).bind m else .stuck := rfl
@[simp] theorem e_cval {C : Addr} {d : D} {o : ECode} : c_cval C d o ρ S = (o ρ S).bind fun x S1 => if isCon C x = true then .ok d S1 else .stuck := rfl
@[simp] theorem isCon_self {C : Addr} : isCon C (.con C) = true := decide_eq_true rfl
@[simp] theorem e_fld {c i : Nat} {a : ECode} : c_fld c i a ρ S = (a ρ S).bind fun d S1 => if clsOf d S1 = some c then match fldsOf d S1 with
  | some fs => match fs[i]? with
    | some x => .ok x S1
    | none => .stuck
  | none => .stuck else .stuck := rfl
@[simp] theorem e_prop {c : Nat} {m : List D → Sto → Res D} {a : ECode} : c_prop c m a ρ S = (a ρ S).bind fun d S1 => if clsOf d S1 = some c then (m [d] S1).bindN .ok else .stuck := rfl
@[simp] theorem e_star {a : ECode} {r : ACode} : c_star a r ρ S = (a ρ S).bind fun x S1 => match itemsOf x S1 with
  | some ds => (r ρ S1).bind fun es S2 => .ok (ds ++ es) S2
  | none => .stuck := rfl
@[simp] theorem e_ps0 : c_ps0 ρ S = .ok [] S := rfl
@[simp] theorem e_ps {k v : ECode} {r : Env → Sto → Res (List (D × D))} : c_ps k v r ρ S = (k ρ S).bind fun x S1 => (v ρ S1).bind fun y S2 => (r ρ S2).bind fun ps S3 => .ok ((x, y) :: ps) S3 := rfl
@[simp] theorem e_dispK {b : Bool} {r : Env → Sto → Res (List (D × D))} : c_dispK b r ρ S = (r ρ S).bind (p_dispK b) := rfl
@[simp] theorem e_dispT {b : Bool} {r : Env → Sto → Res (List (D × D))} : c_dispT b r ρ S = (r ρ S).bind (p_dispT b) := rfl
@[simp] theorem e_dK0 {b : Bool} : c_dK0 b ρ S = p_dK b [] S := rfl
@[simp] theorem e_dT0 {b : Bool} : c_dT0 b ρ S = p_dT b [] S := rfl
@[simp] theorem e_frz {a : ECode} : c_frz a ρ S = (a ρ S).bind frz := rfl
@[simp] theorem e_no : c_no ρ S = .ok none S := rfl
@[simp] theorem e_part {a : ECode} : c_part a ρ S = (a ρ S).bind fun d S1 => match d with
  | .int i => .ok (some i) S1
  | _ => .stuck := rfl
@[simp] theorem e_sl {b : Bool} {a : ECode} {l h : Env → Sto → Res (Option Int)} : c_sl b a l h ρ S = (a ρ S).bind fun x S1 => (l ρ S1).bind fun lo S2 => (h ρ S2).bind fun hi S3 => p_sl b x lo hi S3 := rfl
-- statements
@[simp] theorem s_set {i : Nat} {a : ECode} : c_set i a ρ S = (a ρ S).bind fun d S1 => .ok (.nx (ρ.set i (some d))) S1 := rfl
@[simp] theorem s_asg {g : D → Env → Sto → Res Env} {a : ECode} : c_asg g a ρ S = (a ρ S).bind fun d S1 => (g d ρ S1).bind fun ρ1 S2 => .ok (.nx ρ1) S2 := rfl
@[simp] theorem s_nx : c_nx ρ S = .ok (.nx ρ) S := rfl
@[simp] theorem s_seq {a b : SCode} : c_seq a b ρ S = (a ρ S).bind fun f S1 => match f with
  | .nx ρ1 => b ρ1 S1
  | o => .ok o S1 := rfl
@[simp] theorem s_expr {a : ECode} : c_expr a ρ S = (a ρ S).bind fun _ S1 => .ok (.nx ρ) S1 := rfl
@[simp] theorem s_ret {a : ECode} : c_ret a ρ S = (a ρ S).bind fun d S1 => .ok (.rt d) S1 := rfl
@[simp] theorem s_retN : c_retN ρ S = .ok (.rt .non) S := rfl
@[simp] theorem s_brk : c_brk ρ S = .ok (.bk ρ) S := rfl
@[simp] theorem s_cont : c_cont ρ S = .ok (.ct ρ) S := rfl
@[simp] theorem s_stuck : c_stuck ρ S = .stuck := rfl
@[simp] theorem s_ifS {c : TCode} {a b : SCode} : c_ifS c a b ρ S = (c ρ S).bind fun k S1 => if k = true then a ρ S1 else b ρ S1 := rfl
@[simp] theorem s_aug {i : Nat} {p : D → D → Sto → Res D} {a : ECode} : c_aug i p a ρ S = (c_var i ρ S).bind fun x S0 => (a ρ S0).bind fun y S1 => (p x y S1).bind fun z S2 => .ok (.nx (ρ.set i (some z))) S2 := rfl
@[simp] theorem s_par {i j : Nat} {a b : ECode} : c_par i j a b ρ S = (a ρ S).bind fun x S1 => (b ρ S1).bind fun y S2 => .ok (.nx ((ρ.set i (some x)).set j (some y))) S2 := rfl
@[simp] theorem s_par3 {i j l : Nat} {a b c : ECode} : c_par3 i j l a b c ρ S = (a ρ S).bind fun x S1 => (b ρ S1).bind fun y S2 => (c ρ S2).bind fun z S3 => .ok (.nx (((ρ.set i (some x)).set j (some y)).set l (some z))) S3 := rfl
@[simp] theorem s_setI {o i v : ECode} : c_setI o i v ρ S = (v ρ S).bind fun z S0 => (o ρ S0).bind fun x S1 => (i ρ S1).bind fun y S2 => (p_setI x y z S2).bind fun _ S3 => .ok (.nx ρ) S3 := rfl
@[simp] theorem s_fldS {c i : Nat} {o v : ECode} : c_fldS c i o v ρ S = (v ρ S).bind fun z S0 => (o ρ S0).bind fun x S1 => (p_setF c i x z S1).bind fun _ S2 => .ok (.nx ρ) S2 := rfl
@[simp] theorem g_name_eq {i : Nat} {d : D} : g_name i d ρ S = .ok (ρ.set i (some d)) S := rfl
@[simp] theorem g_nil_eq : g_nil [] ρ S = .ok ρ S := rfl
@[simp] theorem g_cons_eq {a : D → Env → Sto → Res Env} {r : List D → Env → Sto → Res Env} {d : D} {ds : List D} : g_cons a r (d :: ds) ρ S = (a d ρ S).bind fun ρ1 S1 => r ds ρ1 S1 := rfl
@[simp] theorem g_tup_eq {n : Nat} {r : List D → Env → Sto → Res Env} {ds : List D} : g_tup n r (.tup ds) ρ S = if ds.length = n then r ds ρ S else .stuck := rfl
-- operators
@[simp] theorem v_add {b : Bool} {i j : Int} : p_add b (.int i) (.int j) S = .ok (.int (i + j)) S := rfl
@[simp] theorem v_addI {i j : Int} : p_addI (.int i) (.int j) S = .ok (.int (i + j)) S := rfl
@[simp] theorem v_sub {i j : Int} : p_sub (.int i) (.int j) S = .ok (.int (i - j)) S := rfl
@[simp] theorem v_mul {b : Bool} {i j : Int} : p_mul b (.int i) (.int j) S = if CMulW i j then .ok (.int (i * j)) S else .stuck := rfl
@[simp] theorem v_fdiv {i j : Int} : p_fdiv (.int i) (.int j) S = if CDivW i j then .ok (.int (i / j)) S else .stuck := rfl
@[simp] theorem v_mod {i j : Int} : p_mod (.int i) (.int j) S = if 0 < j then .ok (.int (i % j)) S else .stuck := rfl
@[simp] theorem v_pow {i j : Int} : p_pow (.int i) (.int j) S = if CPow i j then .ok (.int (i ^ j.toNat)) S else .stuck := rfl
@[simp] theorem v_neg {i : Int} : p_neg (.int i) S = .ok (.int (-i)) S := rfl
@[simp] theorem v_lt {i j : Int} : p_lt (.int i) (.int j) S = .ok (.bl (decide (i < j))) S := rfl
@[simp] theorem v_le {i j : Int} : p_le (.int i) (.int j) S = .ok (.bl (decide (i ≤ j))) S := rfl
@[simp] theorem v_gt {i j : Int} : p_gt (.int i) (.int j) S = .ok (.bl (decide (j < i))) S := rfl
@[simp] theorem v_ge {i j : Int} : p_ge (.int i) (.int j) S = .ok (.bl (decide (j ≤ i))) S := rfl
@[simp] theorem v_eq {n : Bool} {i j : Int} : p_eq n (.int i) (.int j) S = .ok (.bl (if n = true then !decide (i = j) else decide (i = j))) S := by
  cases n with
  | true => exact congrArg (fun b => Res.ok (D.bl b) S) (show (!PyData.eqv (.int i) (.int j)) = _ from by simp only [PyData.eqv, if_true]; rfl)
  | false => exact congrArg (fun b => Res.ok (D.bl b) S) (show (PyData.eqv (.int i) (.int j)) = _ from by simp only [PyData.eqv]; rfl)
@[simp] theorem v_isN {n : Bool} {x : D} : p_isN n x .non S = .ok (.bl (if n = true then !isNon x else isNon x)) S := by cases x <;> rfl
@[simp] theorem v_tupcat {b : Bool} {xs ys : List D} : p_add b (.tup xs) (.tup ys) S = p_tup (xs ++ ys) S := rfl
end
theorem cmul {i j : Int} (h1 : -(2 ^ 64) < i) (h2 : i < 2 ^ 64) (h3 : -(2 ^ 64) < j) (h4 : j < 2 ^ 64) : CMulW i j :=
  wide_mul (a := 64) (b := 64) (by omega) (by omega) (by decide) (by decide) (by decide)
theorem cdiv {i j : Int} (h : 0 < j) (h2 : j < 2 ^ 64) : CDivW i j := wide_div (b := 64) h (by omega) (by decide) (by decide)
theorem fin_same {S S' : Sto} {d : D} (h : S'.length = S.length) : fin S d S' = .ok d S' := by unfold fin; rw [if_pos h]
theorem fin_cut {S S' T : Sto} {d : D} (hl : S'.length = S.length) (ht : T ≠ []) (hc : ∀ (n : Nat) (c : Option Cell), S'[n]? = some c → S[n]? = some c ∨ cellLt S.length c = true) (hd : refsLt S.length d = true) : fin S d (S' ++ T) = .ok d S' := by
  have hT : T.length ≠ 0 := fun e => ht (List.length_eq_zero_iff.mp e)
  have hk : cutOk S (S' ++ T) := fun n c hn e => by
    rw [List.getElem?_append_left (by omega)] at e
    exact hc n c e
  unfold fin
  rw [if_neg (by rw [List.length_append]; omega), if_pos ⟨hk, hd⟩, ← hl, List.take_left]
noncomputable def ret (S : Sto) (r : Res Flo) : Res D := match r with
  | .ok (.rt d) S' => fin S d S'
  | .ok (.nx _) S' => fin S .non S'
  | .ex k d S' => finX S k d S'
  | _ => .stuck
theorem fnR_eq {n : Nat} {c : SCode} {ds : List D} {S : Sto} : fnR n c ds S = ret S (c (ds.map some ++ List.replicate (n - ds.length) none) S) := rfl
@[simp] theorem ret_rt {S S' : Sto} {d : D} : ret S (.ok (.rt d) S') = fin S d S' := rfl
@[simp] theorem ret_nx {S S' : Sto} {ρ : Env} : ret S (.ok (.nx ρ) S') = fin S .non S' := rfl
def dk (its : List Int) (seed cnt : Int) (T : Sto) : Sto := some (.lst (its.map .int)) :: some (.lst [.ref 0, .int seed, .int cnt]) :: T
def Dk (n : Nat) (T S : Sto) : Prop := ∃ its seed cnt, S = dk its seed cnt T ∧ its.length ≤ 63 ∧ 0 ≤ seed ∧ seed < 2 ^ 32 ∧ 0 ≤ cnt ∧ cnt ≤ n
section
variable {its : List Int} {seed cnt b : Int} {T : Sto} {ρ : Env}
theorem p_lst_f {S : Sto} : p_lst false [] S = .ok (.lst []) S := rfl
theorem flat_ints : ∀ l : List Int, flatL (l.map D.int) = some (l.map PyData.int)
  | [] => rfl
  | x :: l => by rw [List.map_cons, flatL, flat, flat_ints l]; rfl
theorem lay_ints : ∀ l : List Int, PyData.canLayAll0 (l.map PyData.int) = true
  | [] => rfl
  | x :: l => by rw [List.map_cons, PyData.canLayAll0, PyData.canLay0, lay_ints l]; rfl
theorem depth_ints : ∀ l : List Int, PyData.depthAll (l.map PyData.int) = 0
  | [] => rfl
  | x :: l => by rw [List.map_cons, PyData.depthAll, PyData.depth, depth_ints l]; rfl
end
theorem sOk_app {a b : PySem.Str} (ha : PyData.strOk a = true) (hb : PyData.strOk b = true) : PyData.strOk (a ++ b) = true := by
  unfold PyData.strOk at *
  rw [PySem.Str.cps_append, Array.all_append, ha, hb]
  rfl
theorem sOk_of (x : String) : PyData.strOk (PySem.Str.ofString x) = true := by
  unfold PyData.strOk
  rw [PySem.Str.ofString_eq_toList]
  show Array.all (List.toArray _) _ = true
  rw [List.all_toArray, List.all_eq_true]
  intro c hc
  obtain ⟨ch, _, rfl⟩ := List.mem_map.mp hc
  have := ch.valid
  have h : ch.toNat < 0x110000 := by
    rcases this with h | h
    · exact Nat.lt_trans h (by decide)
    · exact h.2
  exact decide_eq_true h
theorem sOk_from : ∀ (ts : List PySem.Str) (k : Nat) (acc : PySem.Str), PyData.strOk acc = true → (∀ t ∈ ts, PyData.strOk t = true) → PyData.strOk (textFrom k acc ts) = true
  | [], _, _, h, _ => h
  | t :: ts, k, acc, h, ht => by
    unfold textFrom
    exact sOk_from ts (k + 1) _ (sOk_app (sOk_app h (sOk_of _)) (ht t (List.mem_cons_self ..))) fun u hu => ht u (List.mem_cons_of_mem _ hu)
theorem sOk_join (sep : PySem.Str) (hs : PyData.strOk sep = true) : ∀ ts : List PySem.Str, (∀ t ∈ ts, PyData.strOk t = true) → PyData.strOk (PySem.Str.join sep ts) = true
  | [], _ => by unfold PySem.Str.join PyData.strOk PySem.Str.empty; simp
  | [t], h => by
    have := h t (List.mem_cons_self ..)
    simpa [PySem.Str.join] using this
  | t :: u :: r, h => by
    have ih := sOk_join sep hs (u :: r) fun x hx => h x (List.mem_cons_of_mem _ hx)
    have h1 := h t (List.mem_cons_self ..)
    have e : PySem.Str.join sep (t :: u :: r) = t ++ sep ++ PySem.Str.join sep (u :: r) := by rw [PySem.Str.join]; exact fun e => by cases e
    rw [e]
    exact sOk_app (sOk_app h1 hs) ih
structure Fi (d w : Nat) (p : PyData) : Prop where
  lay : p.canLay0 = true
  sh : p.showable = true
  nd : p.hasDict = false
  dep : p.depth ≤ d
  lv : p.leavesShort 32 = true
  wt : p.weight ≤ w
  ok : PyData.strOk p.shown = true
structure Fis (d w : Nat) (ps : List PyData) : Prop where
  lay : PyData.canLayAll0 ps = true
  sh : PyData.showableAll ps = true
  nd : PyData.hasDictAll ps = false
  dep : PyData.depthAll ps ≤ d
  lv : PyData.leavesShortAll 32 ps = true
  wt : PyData.weightAll ps ≤ ps.length * (w + 1)
  ok : ∀ t ∈ PyData.shownAll ps, PyData.strOk t = true
theorem Fi.mono {d w d' w' : Nat} {p : PyData} (h : Fi d w p) (h1 : d ≤ d') (h2 : w ≤ w') : Fi d' w' p := ⟨h.lay, h.sh, h.nd, Nat.le_trans h.dep h1, h.lv, Nat.le_trans h.wt h2, h.ok⟩
theorem Fi.int {i : Int} (h : i.natAbs < 10 ^ 30) : Fi 0 100 (.int i) := by
  have hl : i.natAbs.log2 < 100 := by
    rcases Nat.eq_zero_or_pos i.natAbs with e | e
    · rw [e]; decide
    · exact (Nat.log2_lt (by omega)).mpr (Nat.lt_trans h (by decide))
  refine ⟨rfl, ?_, rfl, Nat.le_refl _, ?_, ?_, sOk_of _⟩
  · rw [PyData.showable]
    exact decide_eq_true (by omega)
  · rw [PyData.leavesShort, PyData.shown]
    refine decide_eq_true ?_
    rw [PySem.ofString_length]
    have := int_text_length_le10 (k := 30) (by decide) h
    omega
  · rw [PyData.weight]
    split <;> omega
theorem Fis.of {d w : Nat} : ∀ {ps : List PyData}, (∀ p ∈ ps, Fi d w p) → Fis d w ps
  | [], _ => ⟨rfl, rfl, rfl, Nat.zero_le _, rfl, Nat.zero_le _, fun t h => by cases h⟩
  | p :: ps, h => by
    have a := h p (List.mem_cons_self ..)
    have b := Fis.of (ps := ps) fun q hq => h q (List.mem_cons_of_mem _ hq)
    refine ⟨?_, ?_, ?_, ?_, ?_, ?_, fun t ht => ?_⟩
    · rw [PyData.canLayAll0, a.lay, b.lay]; rfl
    · rw [PyData.showableAll, a.sh, b.sh]; rfl
    · rw [PyData.hasDictAll, a.nd, b.nd]; rfl
    · rw [PyData.depthAll]; exact Nat.max_le.mpr ⟨a.dep, b.dep⟩
    · rw [PyData.leavesShortAll, a.lv, b.lv]; rfl
    · rw [PyData.weightAll, List.length_cons, Nat.succ_mul]
      have := a.wt
      have := b.wt
      omega
    · rw [PyData.shownAll] at ht
      rcases List.mem_cons.mp ht with rfl | ht
      · exact a.ok
      · exact b.ok t ht
theorem Fi.list {d w : Nat} {ps : List PyData} (h : ∀ p ∈ ps, Fi d w p) : Fi (d + 1) (ps.length * (w + 1)) (.list ps) := by
  have b := Fis.of h
  refine ⟨?_, ?_, ?_, ?_, ?_, ?_, ?_⟩
  · rw [PyData.canLay0]; exact b.lay
  · rw [PyData.showable]; exact b.sh
  · rw [PyData.hasDict]; exact b.nd
  · rw [PyData.depth]; have := b.dep; omega
  · rw [PyData.leavesShort]; exact b.lv
  · rw [PyData.weight]; exact b.wt
  · rw [PyData.shown]
    unfold listText
    exact sOk_app (sOk_from _ _ _ (sOk_of _) b.ok) (sOk_of _)
theorem Fi.tuple {d w : Nat} {ps : List PyData} (h : ∀ p ∈ ps, Fi d w p) : Fi (d + 1) (ps.length * (w + 1)) (.tuple ps) := by
  have b := Fis.of h
  refine ⟨?_, ?_, ?_, ?_, ?_, ?_, ?_⟩
  · rw [PyData.canLay0]; exact b.lay
  · rw [PyData.showable]; exact b.sh
  · rw [PyData.hasDict]; exact b.nd
  · rw [PyData.depth]; have := b.dep; omega
  · rw [PyData.leavesShort]; exact b.lv
  · rw [PyData.weight]; exact b.wt
  · rw [PyData.shown]
    unfold tupleText
    exact sOk_app (sOk_app (sOk_of _) (sOk_join _ (sOk_of _) _ b.ok)) (sOk_of _)
def isSeq : PyData → Bool
  | .list _ => true
  | .tuple _ => true
  | _ => false
theorem Fi.len {d w : Nat} {p : PyData} (h : Fi d w p) (hw : w ≤ 29000) : p.shown.length ≤ 1000000 := by
  have h1 := PyData.shown_le 32 (by decide) p h.lv
  have h2 := h.wt
  omega
theorem Fi.text {d w : Nat} {p : PyData} (h : Fi d w p) (hs : isSeq p = true) (hd : d ≤ 60) (hw : w ≤ 29000) : textOf p = some p.shown := by
  have hl := h.len hw
  have hd' := Nat.le_trans h.dep hd
  unfold textOf
  cases p with
  | list xs => exact if_pos ⟨h.sh, h.nd, hd', hl⟩
  | tuple xs => exact if_pos ⟨h.sh, h.nd, hd', hl⟩
  | _ => cases hs
theorem eq_str {S : Sto} {x y : PySem.Str} (hx : PyData.strOk x = true) (hy : PyData.strOk y = true) : p_eq false (.str x) (.str y) S = .ok (.bl (x == y)) S := by
  unfold p_eq
  have h : ∀ z : PySem.Str, PyData.strOk z = true → SeqAt.shaped (.str z) = true := fun z hz => by
    unfold SeqAt.shaped
    rw [PyData.canLay0, hz]
    rfl
  show (if _ then _ else _) = _
  rw [if_pos ⟨h x hx, h y hy⟩]
  simp only [Bool.false_eq_true, if_false, PyData.eqv]
theorem ev_v0 {d : D} {r : Env} {S : Sto} : c_var 0 (some d :: r) S = .ok d S := rfl
theorem ev_vs {n : Nat} {o : Option D} {r : Env} {S : Sto} : c_var (n + 1) (o :: r) S = c_var n r S := rfl
theorem ev_a1 {m : List D → Sto → Res D} {a : D} {S : Sto} : argsN 1 m [a] S = m [a] S := rfl
theorem ev_a2 {m : List D → Sto → Res D} {a b : D} {S : Sto} : argsN 2 m [a, b] S = m [a, b] S := rfl
theorem ev_a3 {m : List D → Sto → Res D} {a b c : D} {S : Sto} : argsN 3 m [a, b, c] S = m [a, b, c] S := rfl
theorem ev_a4 {m : List D → Sto → Res D} {a b c d : D} {S : Sto} : argsN 4 m [a, b, c, d] S = m [a, b, c, d] S := rfl
theorem e_yes {ρ : Env} {S : Sto} : c_yes ρ S = .ok true S := rfl
theorem ok_nil {S : Sto} {ds : List D} : Wk.ok ⟨ds, []⟩ S := fun p hp => by cases hp
abbrev iD (l : List Int) : List D := l.map D.int
abbrev tI (l : List Int) : D := .tup (l.map D.int)
section
variable {S : Sto}
theorem fits_le' {n : Nat} (h : n ≤ 1000000) : fits n = true := decide_eq_true h
theorem lst_f {ds : List D} (h : ds.length ≤ 1000000) : p_lst false ds S = .ok (.lst ds) S := by unfold p_lst; rw [if_pos (fits_le' h)]
theorem lst_t {ds : List D} (h : ds.length ≤ 1000000) : p_lst true ds S = .ok (.ref S.length) (S ++ [some (.lst ds)]) := by unfold p_lst; rw [if_pos (fits_le' h)]
theorem tup_f {ds : List D} (h : ds.length ≤ 1000000) : p_tup ds S = .ok (.tup ds) S := by unfold p_tup; rw [if_pos (fits_le' h)]
theorem list_tup {ds : List D} (h : ds.length ≤ 1000000) : p_list false [.tup ds] S = .ok (.lst ds) S := lst_f h
theorem list_lst {ds : List D} (h : ds.length ≤ 1000000) : p_list false [.lst ds] S = .ok (.lst ds) S := lst_f h
theorem tuple_lst {ds : List D} (h : ds.length ≤ 1000000) : p_tuple [.lst ds] S = .ok (.tup ds) S := tup_f h
theorem len_lst {ds : List D} : p_len [.lst ds] S = .ok (.int ds.length) S := rfl
theorem len_tup {ds : List D} : p_len [.tup ds] S = .ok (.int ds.length) S := rfl
theorem ixN_nn {n : Nat} {i : Int} (h : 0 ≤ i) (h2 : i < n) : ixN n i = some i.toNat := by
  unfold ixN
  rw [if_pos h, if_pos h2]
theorem atD_nn {ds : List D} {i : Int} {d : D} (h : 0 ≤ i) (h2 : ds[i.toNat]? = some d) : atD ds i = some d := by
  have := (List.getElem?_eq_some_iff.mp h2).1
  unfold atD
  rw [ixN_nn h (by omega)]
  exact h2
theorem ix_lst {ds : List D} {i : Int} {d : D} (h : 0 ≤ i) (h2 : ds[i.toNat]? = some d) : p_ix (.lst ds) (.int i) S = .ok d S := by
  show (match atD ds i with
    | some d => Res.ok d S
    | none => .stuck) = _
  rw [atD_nn h h2]
theorem ix_tup {ds : List D} {i : Int} {d : D} (h : 0 ≤ i) (h2 : ds[i.toNat]? = some d) : p_ix (.tup ds) (.int i) S = .ok d S := by
  show (match atD ds i with
    | some d => Res.ok d S
    | none => .stuck) = _
  rw [atD_nn h h2]
theorem ok_one {x : D} {xs : List D} {items : List D} (h1 : itemsOf x S = some xs) : Wk.ok ⟨items, [(x, xs)]⟩ S := fun p hp => by
  rcases List.mem_cons.mp hp with rfl | hp
  · exact h1
  · cases hp
theorem it_lst {x : D} {xs : List D} {a : ECode} {ρ : Env} {S1 : Sto} (ha : a ρ S = .ok x S1) (h : itemsOf x S1 = some xs) : c_it a ρ S = .ok ⟨xs, [(x, xs)]⟩ S1 := by
  unfold c_it
  rw [ha]
  simp only [Res.bind_ok, h]
theorem rng1_eq {j : Int} {a : ACode} {ρ : Env} {S1 : Sto} (ha : a ρ S = .ok [.int j] S1) (h : -(2 ^ 62) ≤ j ∧ j < 2 ^ 62) : c_rng1 a ρ S = .ok ⟨rngD 0 j.toNat, []⟩ S1 := by
  unfold c_rng1
  rw [ha]
  simp only [Res.bind_ok]
  rw [if_pos (show smallI j = true from decide_eq_true h)]
theorem Dk.mono {n m : Nat} {T S : Sto} (h : Dk n T S) (hm : n ≤ m) : Dk m T S := by
  obtain ⟨its, seed, cnt, e, h1, h2, h3, h4, h5⟩ := h
  exact ⟨its, seed, cnt, e, h1, h2, h3, h4, by omega⟩
end
structure wp {α : Type} (r : Res α) (Q : α → Sto → Prop) : Prop where
  get : match r with
    | .ok a S => Q a S
    | _ => False
section
variable {α β : Type} {S S' S0 S1 T : Sto} {ρ : Env} {d : D}
@[simp] theorem wp_ok {a : α} {Q : α → Sto → Prop} : wp (.ok a S) Q = Q a S := propext ⟨fun h => h.get, fun h => ⟨h⟩⟩
theorem wp_exF {c : Nat} {Q : α → Sto → Prop} : wp (.ex c d S) Q = False := propext ⟨fun h => h.get, fun h => h.elim⟩
theorem wp_stF {Q : α → Sto → Prop} : wp .stuck Q = False := propext ⟨fun h => h.get, fun h => h.elim⟩
@[simp] theorem wp_bind {r : Res α} {k : α → Sto → Res β} {Q : β → Sto → Prop} : wp (r.bind k) Q = wp r fun a S => wp (k a S) Q := by
  cases r with
  | ok a S => rw [Res.bind_ok, wp_ok]
  | ex c d S => rw [Res.bind_ex, wp_exF, wp_exF]
  | stuck => rw [Res.bind_stuck, wp_stF, wp_stF]
@[simp] theorem wp_bindN {r : Res α} {k : α → Sto → Res β} {Q : β → Sto → Prop} : wp (r.bindN k) Q = wp r fun a S => wp (k a S) Q := by
  cases r with
  | ok a S => rw [Res.bindN_ok, wp_ok]
  | ex c d S => rw [wp_exF]; exact wp_stF
  | stuck => rw [wp_stF]; exact wp_stF
theorem wp_eq {r : Res α} {a : α} {Q : α → Sto → Prop} (h : r = .ok a S) (q : Q a S) : wp r Q := by rw [h, wp_ok]; exact q
theorem wp_ex {r : Res α} {P : α → Sto → Prop} (h : wp r P) : ∃ a S, r = .ok a S ∧ P a S := by
  cases r with
  | ok a' S' => exact ⟨_, _, rfl, h.get⟩
  | ex _ _ _ => exact h.get.elim
  | stuck => exact h.get.elim
theorem eq_wp {r : Res α} {a : α} (h : wp r fun a' S' => a' = a ∧ S' = S) : r = .ok a S := by
  obtain ⟨a, S, e, rfl, rfl⟩ := wp_ex h
  exact e
theorem wp_of {r : Res α} {P Q : α → Sto → Prop} (h : wp r P) (k : ∀ a S, P a S → Q a S) : wp r Q := by
  obtain ⟨a, S, e, h⟩ := wp_ex h
  exact wp_eq e (k a S h)
def retQ (S0 : Sto) (Q : D → Sto → Prop) : Flo → Sto → Prop
  | .rt d, S' => wp (fin S0 d S') Q
  | .nx _, S' => wp (fin S0 .non S') Q
  | _, _ => False
@[simp] theorem wp_ret {r : Res Flo} {Q : D → Sto → Prop} : wp (ret S0 r) Q = wp r (retQ S0 Q) := by
  cases r with
  | ok f S' =>
    rw [wp_ok]
    cases f with
    | rt d => rfl
    | nx ρ => rfl
    | bk ρ => exact wp_stF
    | ct ρ => exact wp_stF
  | ex k d S' =>
    rw [wp_exF]
    show wp (finX S0 k d S') Q = False
    unfold finX
    split
    · exact wp_exF
    · split <;> exact wp_exF
  | stuck => rw [wp_stF]; exact wp_stF
@[simp] theorem retQ_rt {Q : D → Sto → Prop} : retQ S0 Q (.rt d) S' = wp (fin S0 d S') Q := rfl
@[simp] theorem retQ_nx {Q : D → Sto → Prop} : retQ S0 Q (.nx ρ) S' = wp (fin S0 .non S') Q := rfl
@[simp] theorem wp_fin {Q : D → Sto → Prop} : wp (fin S d S) Q = Q d S := by rw [fin_same rfl, wp_ok]
theorem fin_app (hd : refsLt S.length d = true) : fin S d (S ++ T) = .ok d S := by
  by_cases h : T = []
  · subst h
    rw [List.append_nil]
    exact fin_same rfl
  · exact fin_cut rfl h (fun j c hj => .inl hj) hd
theorem wp_fin_app {Q : D → Sto → Prop} (hd : refsLt S.length d = true) (h : Q d S) : wp (fin S d (S ++ T)) Q := by
  rw [fin_app hd]
  exact ⟨h⟩
theorem wp_fin_len {Q : D → Sto → Prop} (hl : S'.length = S.length) (h : Q d S') : wp (fin S d S') Q := by
  rw [fin_same hl]
  exact ⟨h⟩
def FQ (J : Env → Sto → Prop) (Q : Flo → Sto → Prop) : Flo → Sto → Prop
  | .nx ρ, S => J ρ S
  | .ct ρ, S => J ρ S
  | .bk ρ, S => Q (.nx ρ) S
  | .rt d, S => Q (.rt d) S
section
variable {J : Env → Sto → Prop} {Q : Flo → Sto → Prop}
@[simp] theorem FQ_nx : FQ J Q (.nx ρ) S = J ρ S := rfl
@[simp] theorem FQ_ct : FQ J Q (.ct ρ) S = J ρ S := rfl
@[simp] theorem FQ_bk : FQ J Q (.bk ρ) S = Q (.nx ρ) S := rfl
@[simp] theorem FQ_rt : FQ J Q (.rt d) S = Q (.rt d) S := rfl
theorem wp_forL {ok : Sto → Prop} {body : D → SCode} (e : α → D) (I : List α → Env → Sto → Prop) (hok : ∀ p ρ S, I p ρ S → ok S) (l : List α)
    (hs : ∀ pre x post ρ S, l = pre ++ x :: post → I pre ρ S → wp (body (e x) ρ S) (FQ (I (pre ++ [x])) Q)) (he : ∀ ρ S, I l ρ S → Q (.nx ρ) S) :
    ∀ (pre post : List α) ρ S, l = pre ++ post → I pre ρ S → wp (forL ok body (post.map e) ρ S) Q
  | pre, [], ρ, S, hl, h => by
    rw [List.append_nil] at hl
    subst hl
    rw [List.map_nil]
    unfold forL
    rw [if_pos (hok _ _ _ h)]
    exact ⟨he _ _ h⟩
  | pre, x :: post, ρ, S, hl, h => by
    rw [List.map_cons]
    unfold forL
    rw [if_pos (hok _ _ _ h), wp_bind]
    refine wp_of (hs pre x post ρ S hl h) fun f S1 hf => ?_
    cases f with
    | nx ρ1 => exact wp_forL e I hok l hs he (pre ++ [x]) post ρ1 S1 (by rw [hl]; simp) hf
    | ct ρ1 => exact wp_forL e I hok l hs he (pre ++ [x]) post ρ1 S1 (by rw [hl]; simp) hf
    | bk ρ1 => exact ⟨hf⟩
    | rt d => exact ⟨hf⟩
theorem wp_for {ci : Env → Sto → Res Wk} {g : D → Env → Sto → Res Env} {b : SCode} {src : List (D × List D)} (l : List α) (e : α → D) (I : List α → Env → Sto → Prop) (hc : ci ρ S = .ok ⟨l.map e, src⟩ S1) (hok : ∀ p ρ S, I p ρ S → Wk.ok ⟨l.map e, src⟩ S) (h0 : I [] ρ S1)
    (hs : ∀ pre x post ρ S, l = pre ++ x :: post → I pre ρ S → wp ((g (e x) ρ S).bind b) (FQ (I (pre ++ [x])) Q)) (he : ∀ ρ S, I l ρ S → Q (.nx ρ) S) : wp (c_for ci g b ρ S) Q := by
  unfold c_for
  rw [hc]
  exact wp_forL (body := fun d ρ S => (g d ρ S).bind fun ρ1 S1 => b ρ1 S1) e I hok l hs he [] l ρ S1 rfl h0
theorem wp_whileL {c : TCode} {b : SCode} (I : Nat → Env → Sto → Prop) (h : ∀ m ρ S, I m ρ S → wp (c ρ S) fun k S1 => if k = true then wp (b ρ S1) (FQ (fun ρ' S' => ∃ m', m' < m ∧ I m' ρ' S') Q) else Q (.nx ρ) S1) :
    ∀ (fuel m : Nat) ρ S, m < fuel → I m ρ S → wp (whileL c b fuel ρ S) Q
  | 0, m, _, _, hm, _ => absurd hm (Nat.not_lt_zero m)
  | fuel + 1, m, ρ, S, hm, hI => by
    unfold whileL
    rw [wp_bind]
    refine wp_of (h m ρ S hI) fun k S1 hk => ?_
    cases k with
    | false => exact ⟨hk⟩
    | true =>
      have hk : wp (b ρ S1) (FQ (fun ρ' S' => ∃ m', m' < m ∧ I m' ρ' S') Q) := hk
      show wp ((b ρ S1).bind _) Q
      rw [wp_bind]
      refine wp_of hk fun f S2 hf => ?_
      cases f with
      | nx ρ1 => obtain ⟨m', hm', hI'⟩ := hf; exact wp_whileL I h fuel m' ρ1 S2 (by omega) hI'
      | ct ρ1 => obtain ⟨m', hm', hI'⟩ := hf; exact wp_whileL I h fuel m' ρ1 S2 (by omega) hI'
      | bk ρ1 => exact ⟨hf⟩
      | rt d => exact ⟨hf⟩
theorem wp_while {c : TCode} {b : SCode} (m : Nat) (I : Nat → Env → Sto → Prop) (hm : m < 1000000000) (h0 : I m ρ S)
    (h : ∀ m ρ S, I m ρ S → wp (c ρ S) fun k S1 => if k = true then wp (b ρ S1) (FQ (fun ρ' S' => ∃ m', m' < m ∧ I m' ρ' S') Q) else Q (.nx ρ) S1) : wp (c_while c b ρ S) Q :=
  wp_whileL I h FUEL m ρ S (Nat.lt_trans hm (by unfold FUEL; decide)) h0
end
def lcB (g : D → Env → Sto → Res Env) (t : TCode) (a : ECode) (ρ : Env) (d : D) (S : Sto) : Res (Option D) :=
  (g d ρ S).bindN fun ρ1 S1 => (t ρ1 S1).bindN fun b S2 => if b = true then (a ρ1 S2).bindN fun y S3 => .ok (some y) S3 else .ok none S2
def addO (ys : List D) : Option D → List D
  | some y => ys ++ [y]
  | none => ys
@[simp] theorem addO_some {ys : List D} {y : D} : addO ys (some y) = ys ++ [y] := rfl
@[simp] theorem addO_none {ys : List D} : addO ys none = ys := rfl
section
variable {ok : Sto → Prop} {g : D → Env → Sto → Res Env} {t : TCode} {a : ECode}
theorem wp_lcL (e : α → D) (I : List α → Sto → List D → Prop) (hok : ∀ p S ys, I p S ys → ok S) (l : List α)
    (hs : ∀ pre x post S ys, l = pre ++ x :: post → I pre S ys → wp (lcB g t a ρ (e x) S) fun o S' => I (pre ++ [x]) S' (addO ys o)) :
    ∀ (pre post : List α) S ys, l = pre ++ post → I pre S ys → wp (lcL ok g t a ρ (post.map e) S) fun zs S' => I l S' (ys ++ zs)
  | pre, [], S, ys, hl, h => by
    rw [List.append_nil] at hl
    subst hl
    rw [List.map_nil]
    unfold lcL
    rw [if_pos (hok _ _ _ h)]
    rw [wp_ok, List.append_nil]
    exact h
  | pre, x :: post, S, ys, hl, h => by
    rw [List.map_cons]
    unfold lcL
    rw [if_pos (hok _ _ _ h), wp_bindN]
    have hb := hs pre x post S ys hl h
    unfold lcB at hb
    rw [wp_bindN] at hb
    refine wp_of hb fun ρ1 S1 hb => ?_
    rw [wp_bindN] at hb ⊢
    refine wp_of hb fun b S2 hb => ?_
    cases b with
    | false =>
      have hb : wp (.ok none S2) fun o S' => I (pre ++ [x]) S' (addO ys o) := hb
      rw [wp_ok] at hb
      exact wp_lcL e I hok l hs (pre ++ [x]) post S2 ys (by rw [hl]; simp) hb
    | true =>
      have hb : wp ((a ρ1 S2).bindN fun y S3 => .ok (some y) S3) fun o S' => I (pre ++ [x]) S' (addO ys o) := hb
      show wp ((a ρ1 S2).bindN _) _
      rw [wp_bindN] at hb ⊢
      refine wp_of hb fun y S3 hb => ?_
      rw [wp_ok] at hb
      rw [wp_bind]
      refine wp_of (wp_lcL e I hok l hs (pre ++ [x]) post S3 (ys ++ [y]) (by rw [hl]; simp) hb) fun zs S4 hz => ?_
      rw [List.append_assoc] at hz
      exact ⟨hz⟩
theorem wp_lc {ci : Env → Sto → Res Wk} {own : List Nat} {src : List (D × List D)} {Q : D → Sto → Prop} (l : List α) (e : α → D) (I : List α → Sto → List D → Prop) (hc : ci ρ S = .ok ⟨l.map e, src⟩ S1) (hf : l.length ≤ 1000000) (hok : ∀ p S ys, I p S ys → Wk.ok ⟨l.map e, src⟩ S) (h0 : I [] S1 [])
    (hs : ∀ pre x post S ys, l = pre ++ x :: post → I pre S ys → wp (lcB g t a (wipeE ρ own) (e x) S) fun o S' => I (pre ++ [x]) S' (addO ys o)) (he : ∀ ys S, I l S ys → Q (.lst ys) S) : wp (c_lc ci g t a own ρ S) Q := by
  unfold c_lc
  rw [hc]
  show wp (if fits (l.map e).length = true then _ else _) Q
  rw [if_pos (fits_le' (by rw [List.length_map]; exact hf)), wp_bind]
  exact wp_of (wp_lcL e I hok l hs [] l S1 [] rfl h0) fun zs S2 hz => ⟨he _ _ hz⟩
theorem wp_lcF {ci : Env → Sto → Res Wk} {own : List Nat} {src : List (D × List D)} {Q : D → Sto → Prop} (l : List α) (e : α → D) (f : α → Option D) (hc : ci ρ S = .ok ⟨l.map e, src⟩ S1) (hf : l.length ≤ 1000000) (hok : Wk.ok ⟨l.map e, src⟩ S1)
    (hs : ∀ x ∈ l, lcB g t a (wipeE ρ own) (e x) S1 = .ok (f x) S1) (he : Q (.lst (l.filterMap f)) S1) : wp (c_lc ci g t a own ρ S) Q := by
  refine wp_lc l e (fun pre S' ys => S' = S1 ∧ ys = pre.filterMap f) hc hf (fun _ _ _ h => by rw [h.1]; exact hok) ⟨rfl, rfl⟩ (fun pre x post S' ys hl h => ?_) fun ys S' h => by rw [h.1, h.2]; exact he
  obtain ⟨rfl, rfl⟩ := h
  rw [hs x (by rw [hl]; simp), wp_ok]
  refine ⟨rfl, ?_⟩
  rw [List.filterMap_append]
  cases hx : f x with
  | none => simp [hx]
  | some y => simp [hx]
theorem wp_lcM {ci : Env → Sto → Res Wk} {own : List Nat} {src : List (D × List D)} {Q : D → Sto → Prop} (l : List α) (e f : α → D) (hc : ci ρ S = .ok ⟨l.map e, src⟩ S1) (hf : l.length ≤ 1000000) (hok : Wk.ok ⟨l.map e, src⟩ S1)
    (hs : ∀ x ∈ l, lcB g t a (wipeE ρ own) (e x) S1 = .ok (some (f x)) S1) (he : Q (.lst (l.map f)) S1) : wp (c_lc ci g t a own ρ S) Q := by
  refine wp_lcF l e (fun x => some (f x)) hc hf hok hs ?_
  have e2 : l.filterMap (fun x => some (f x)) = l.map f := by rw [← List.filterMap_eq_map]; rfl
  rw [e2]
  exact he
theorem lc_eqM {ci : Env → Sto → Res Wk} {own : List Nat} {src : List (D × List D)} (l : List α) (e f : α → D) (hc : ci ρ S = .ok ⟨l.map e, src⟩ S1) (hf : l.length ≤ 1000000) (hok : Wk.ok ⟨l.map e, src⟩ S1)
    (hs : ∀ x ∈ l, lcB g t a (wipeE ρ own) (e x) S1 = .ok (some (f x)) S1) : c_lc ci g t a own ρ S = .ok (.lst (l.map f)) S1 := eq_wp (wp_lcM l e f hc hf hok hs ⟨rfl, rfl⟩)
end
theorem it_eq {x : D} {xs : List D} {a : ECode} (ha : a ρ S = .ok x S1) (h : itemsOf x S1 = some xs) : c_it a ρ S = .ok ⟨xs, [(x, xs)]⟩ S1 := it_lst ha h
theorem rng1 {j : Int} {a : ACode} (ha : a ρ S = .ok [.int j] S) (h : -(2 ^ 62) ≤ j ∧ j < 2 ^ 62) : c_rng1 a ρ S = .ok ⟨(List.range j.toNat).map fun (k : Nat) => D.int (0 + (k : Int)), []⟩ S := rng1_eq ha h
end
section
variable {S : Sto}
theorem v_mulC {b : Bool} {i j : Int} (h1 : -(2 ^ 64) < i) (h2 : i < 2 ^ 64) (h3 : -(2 ^ 64) < j) (h4 : j < 2 ^ 64) : p_mul b (.int i) (.int j) S = .ok (.int (i * j)) S := by
  rw [v_mul, if_pos (cmul h1 h2 h3 h4)]
theorem v_fdivC {i j : Int} (h : 0 < j) (h2 : j < 2 ^ 64) : p_fdiv (.int i) (.int j) S = .ok (.int (i / j)) S := by
  rw [v_fdiv, if_pos (cdiv h h2)]
theorem v_modC {i j : Int} (h : 0 < j) : p_mod (.int i) (.int j) S = .ok (.int (i % j)) S := by
  rw [v_mod, if_pos h]
theorem ix_t0 {a : D} {r : List D} : p_ix (.tup (a :: r)) (.int 0) S = .ok a S := ix_tup (by decide) rfl
theorem ix_t1 {a b : D} {r : List D} : p_ix (.tup (a :: b :: r)) (.int 1) S = .ok b S := ix_tup (by decide) rfl
theorem ix_t2 {a b c : D} {r : List D} : p_ix (.tup (a :: b :: c :: r)) (.int 2) S = .ok c S := ix_tup (by decide) rfl
theorem ix_l0 {a : D} {r : List D} : p_ix (.lst (a :: r)) (.int 0) S = .ok a S := ix_lst (by decide) rfl
theorem ix_l1 {a b : D} {r : List D} : p_ix (.lst (a :: b :: r)) (.int 1) S = .ok b S := ix_lst (by decide) rfl
theorem ix_l2 {a b c : D} {r : List D} : p_ix (.lst (a :: b :: c :: r)) (.int 2) S = .ok c S := ix_lst (by decide) rfl
theorem isi_int_int {i : Int} : p_isi [.int i, .ty "int"] S = .ok (.bl true) S := rfl
theorem isi_int_bool {i : Int} : p_isi [.int i, .ty "bool"] S = .ok (.bl false) S := rfl
theorem min2_eq {i j : Int} : p_min2 [.int i, .int j] S = .ok (.int (if j < i then j else i)) S := rfl
theorem max2_eq {i j : Int} : p_max2 [.int i, .int j] S = .ok (.int (if j > i then j else i)) S := rfl
end
theorem mapM_bl {α : Type} (g : α → Bool) : ∀ l : List α, (l.map fun x => D.bl (g x)).mapM blOf = some (l.map g)
  | [] => rfl
  | x :: l => by
    rw [List.map_cons, List.mapM_cons, mapM_bl g l]
    rfl
theorem all_bls {α : Type} {g : α → Bool} {l : List α} {S : Sto} : p_all [.lst (l.map fun x => D.bl (g x))] S = .ok (.bl (l.all g)) S := by
  show (match ((l.map fun x => D.bl (g x)).mapM blOf) with
    | some ns => Res.ok (D.bl (ns.all id)) S
    | none => .stuck) = _
  rw [mapM_bl]
  show Res.ok (D.bl ((l.map g).all id)) S = _
  rw [List.all_map]
  rfl
section
variable {S : Sto}
theorem snoc_at {c : Option Cell} : (S ++ [c])[S.length]? = some c := by
  rw [List.getElem?_append_right (Nat.le_refl _), Nat.sub_self]
  rfl
theorem cellOf_snoc {c : Cell} : cellOf (S ++ [some c]) S.length = some c := by
  unfold cellOf
  rw [snoc_at]
theorem snoc_set {c c' : Option Cell} : (S ++ [c]).set S.length c' = S ++ [c'] := by
  rw [List.set_append_right _ _ (Nat.le_refl _), Nat.sub_self]
  rfl
theorem setF_snoc {c i : Nat} {fs : List D} {v : D} (hi : i = fs.length) (h : fs.length < 1000) : p_setF c i (.ref S.length) v (S ++ [some (.ins c fs)]) = .ok () (S ++ [some (.ins c (fs ++ [v]))]) := by
  unfold p_setF
  simp only [cellOf_snoc]
  rw [if_pos ⟨trivial, by omega, h⟩, if_neg (by omega), snoc_set]
theorem make_frz {c : Nat} {m : List D → Sto → Res D} {ds fs : List D} (h : m (.ref S.length :: ds) (S ++ [some (.ins c [])]) = .ok .non (S ++ [some (.ins c fs)])) (hr : refsLtL S.length fs = true) : p_make false c m ds S = .ok (.obj c fs) S := by
  unfold p_make
  rw [h]
  simp only [Res.bind_ok, Bool.false_eq_true, if_false, cellOf_snoc, if_true, snoc_set]
  exact fin_app hr
end
section
variable {S S' T U : Sto} {n : Nat}
theorem cell_at {c : Cell} (h : S[n]? = some (some c)) : cellOf S n = some c := by
  unfold cellOf
  rw [h]
theorem items_ref {ds : List D} (h : S[n]? = some (some (.lst ds))) : itemsOf (.ref n) S = some ds := by
  show (match S[n]? with
    | some (some (.lst ds)) => some ds
    | _ => none) = _
  rw [h]
theorem isL_ref {ds : List D} (h : S[n]? = some (some (.lst ds))) : isL (.ref n) S = true := by
  show (match S[n]? with
    | some (some (.lst ds)) => some ds
    | _ => none).isSome = true
  rw [h]
  rfl
theorem append_ref {ds : List D} {y : D} (h : S[n]? = some (some (.lst ds))) (hf : ds.length < 1000000) : p_append (.ref n) [y] S = .ok .non (S.set n (some (.lst (ds ++ [y])))) := by
  unfold p_append
  simp only [cell_at h]
  rw [if_pos (fits_le' (by omega))]
theorem ixK_ref {kds : List (Key × D)} {z : Str} {y : D} (h : S[n]? = some (some (.dK kds))) (hv : valD kds (.inr z) = some y) : p_ix (.ref n) (.str z) S = .ok y S := by
  show p_ixD (.ref n) (.str z) S = _
  unfold p_ixD dGet
  have e : dKOf (.ref n) S = some kds := by
    show (match S[n]? with
      | some (some (.dK kvs)) => some kvs
      | _ => none) = _
    rw [h]
  rw [e]
  show (match (some (valD kds (.inr z)) : Option (Option D)) with
    | some (some d) => Res.ok d S
    | _ => .stuck) = _
  rw [hv]
theorem setK_ref {kds : List (Key × D)} {z : Str} {y : D} (h : S[n]? = some (some (.dK kds))) (hf : kds.length < 1000) : p_setI (.ref n) (.str z) y S = .ok () (S.set n (some (.dK (putD kds (.inr z) y)))) := by
  unfold p_setI
  simp only [cell_at h, keyOf]
  rw [if_pos (fits_le' (by omega))]
theorem snoc_at1 {a b : Option Cell} : (S ++ [a, b])[S.length + 1]? = some b := by
  rw [List.getElem?_append_right (by omega), Nat.add_sub_cancel_left]
  rfl
section
variable {its : List Int} {seed cnt : Int} {A B C : Option Cell}
theorem Dk.app {m : Nat} (h : Dk m T S) : Dk m (T ++ U) (S ++ U) := by
  obtain ⟨its, seed, cnt, rfl, h⟩ := h
  exact ⟨its, seed, cnt, rfl, h⟩
theorem Dk.len {m : Nat} (h : Dk m T S) : S.length = T.length + 2 := by
  obtain ⟨its, seed, cnt, rfl, h⟩ := h
  rfl
end
end
section
variable {S : Sto} {n c : Nat} {fs : List D}
theorem cls_obj : clsOf (.obj c fs) S = some c := rfl
theorem flds_obj : fldsOf (.obj c fs) S = some fs := rfl
theorem isiO_obj {C : Addr} : p_isiO c C [.obj c fs, .con C] S = .ok (.bl true) S := by
  unfold p_isiO
  simp only [isCon_self, if_true, cls_obj]
theorem v_augS {p : D → D → Sto → Res D} {o i a : ECode} {ρ : Env} : c_augS p o i a ρ S = (o ρ S).bind fun x S1 => (i ρ S1).bind fun y S2 => (p_ixA x y S2).bind fun z S3 => (a ρ S3).bind fun w S4 => (p z w S4).bind fun r S5 => (p_setI x y r S5).bind fun _ S6 => .ok (.nx ρ) S6 := rfl
theorem v_methK {n' m' : Nat} {g : List D → List D → List D} {m : List D → Sto → Res D} {o : ECode} {a b : ACode} {ρ : Env} : c_methK c n' m' g m o a b ρ S = (o ρ S).bind fun x S1 => if clsOf x S1 = some c then (a ρ S1).bind fun ds S2 => (b ρ S2).bind fun es S3 => if ds.length = n' ∧ es.length = m' then m (g (x :: ds) es) S3 else .stuck else .stuck := rfl
theorem v_makeK {b : Bool} {m' : Nat} {g : List D → List D → List D} {m : List D → Sto → Res D} {a : ACode} {ρ : Env} : c_makeK b c m' g m a ρ S = (a ρ S).bind fun es S1 => if es.length = m' then p_make b c (fun ds => m (g (ds.take 1) (ds.drop 1))) es S1 else .stuck := rfl
end
theorem list_tup_t {S : Sto} {ds : List D} (h : ds.length ≤ 1000000) : p_list true [.tup ds] S = .ok (.ref S.length) (S ++ [some (.lst ds)]) := lst_t h
theorem cmulB {i j : Int} (h1 : -(2 ^ 200) < i) (h2 : i < 2 ^ 200) (h3 : -(2 ^ 200) < j) (h4 : j < 2 ^ 200) : CMulW i j :=
  wide_mul (a := 200) (b := 200) (by omega) (by omega) (by decide) (by decide) (by decide)
theorem v_mulB {b : Bool} {i j : Int} {S : Sto} (h1 : -(2 ^ 200) < i) (h2 : i < 2 ^ 200) (h3 : -(2 ^ 200) < j) (h4 : j < 2 ^ 200) : p_mul b (.int i) (.int j) S = .ok (.int (i * j)) S := by
  rw [v_mul, if_pos (cmulB h1 h2 h3 h4)]
def red (p x : Int) : Int := if p < 2 * (x % p) then x % p - p else x % p
section
variable {p x y : Int}
theorem red_range (h : 0 < p) : -p < 2 * red p x ∧ 2 * red p x ≤ p := by
  unfold red
  have h1 := Int.emod_nonneg x (show p ≠ 0 by omega)
  have h2 := Int.emod_lt_of_pos x h
  split <;> omega
end
theorem ev_a5 {m : List D → Sto → Res D} {a b c d e : D} {S : Sto} : argsN 5 m [a, b, c, d, e] S = m [a, b, c, d, e] S := rfl
theorem ev_a6 {m : List D → Sto → Res D} {a b c d e f : D} {S : Sto} : argsN 6 m [a, b, c, d, e, f] S = m [a, b, c, d, e, f] S := rfl
theorem ev_a7 {m : List D → Sto → Res D} {a b c d e f g : D} {S : Sto} : argsN 7 m [a, b, c, d, e, f, g] S = m [a, b, c, d, e, f, g] S := rfl
theorem ne_str {S : Sto} {x : PySem.Str} (hx : PyData.strOk x = true) : p_eq true (.str x) (.str x) S = .ok (.bl false) S := by
  unfold p_eq
  have h : SeqAt.shaped (.str x) = true := by
    unfold SeqAt.shaped
    rw [PyData.canLay0, hx]
    rfl
  show (if _ then _ else _) = _
  rw [if_pos ⟨h, h⟩]
  simp only [if_true, PyData.eqv, beq_self_eq_true, Bool.not_true]
theorem Fi.shaped {d w : Nat} {p : PyData} (h : Fi d w p) (hd : d ≤ 60) : SeqAt.shaped p = true := by
  unfold SeqAt.shaped
  have := h.dep
  rw [h.lay, Bool.true_and]
  exact decide_eq_true (by omega)
theorem py_ints {S : Sto} {l : List Int} : pyOfL S (iD l) = some (l.map PyData.int) := by
  induction l with
  | nil => rfl
  | cons x l ih => rw [iD, List.map_cons, pyOfL, pyOf]; rw [iD] at ih; rw [ih]; rfl
theorem py_tI {S : Sto} {l : List Int} : pyOf S (tI l) = some (.tuple (l.map PyData.int)) := by
  rw [tI, pyOf, py_ints]; rfl
theorem pow_eq {i j : Int} {S : Sto} (h : 0 ≤ j) (h2 : j ≤ 1000) (h3 : i.natAbs < 2 ^ 64) : p_pow (.int i) (.int j) S = .ok (.int (i ^ j.toNat)) S := by
  rw [v_pow, if_pos ⟨h, by omega, h3⟩]
def DkE (j : Nat) (S : Sto) : Prop := ∃ T, Dk j T S
def Sm (S S' : Sto) : Prop := S'.length = S.length ∧ ∀ i, 2 ≤ i → S'[i]? = S[i]?
theorem Sm.refl {S : Sto} : Sm S S := ⟨rfl, fun _ _ => rfl⟩
theorem Sm.trans {S S1 S2 : Sto} (a : Sm S S1) (b : Sm S1 S2) : Sm S S2 := ⟨b.1.trans a.1, fun i h => (b.2 i h).trans (a.2 i h)⟩
theorem Sm.at_ {S S' : Sto} (h : Sm S S') {i : Nat} {x : Option Cell} (hi : 2 ≤ i) (e : S[i]? = some x) : S'[i]? = some x := (h.2 i hi).trans e
theorem DkE.mono {j m : Nat} {S : Sto} (h : DkE j S) (hm : j ≤ m) : DkE m S := by
  obtain ⟨T, h⟩ := h
  exact ⟨T, h.mono hm⟩
theorem DkE.app {j : Nat} {S U : Sto} (h : DkE j S) : DkE j (S ++ U) := by
  obtain ⟨T, h⟩ := h
  exact ⟨T ++ U, h.app⟩
theorem DkE.len {j : Nat} {S : Sto} (h : DkE j S) : 2 ≤ S.length := by
  obtain ⟨T, h⟩ := h
  have := h.len
  omega
theorem DkE.set {j i : Nat} {S : Sto} {c : Option Cell} (h : DkE j S) (hi : 2 ≤ i) : DkE j (S.set i c) := by
  obtain ⟨T, its, seed, cnt, rfl, h⟩ := h
  obtain ⟨m, rfl⟩ : ∃ m, i = m + 2 := ⟨i - 2, by omega⟩
  exact ⟨T.set m c, its, seed, cnt, rfl, h⟩
theorem range_pre {N : Nat} {pre post : List Nat} {x : Nat} (h : List.range N = pre ++ x :: post) : x < N ∧ x = pre.length ∧ pre.length < N := by
  have hx : x < N := List.mem_range.mp (by rw [h]; simp)
  have hl := congrArg List.length h
  simp at hl
  have e : (List.range N)[pre.length]? = some x := by rw [h]; simp
  rw [List.getElem?_range (by omega)] at e
  cases e
  exact ⟨hx, rfl, by omega⟩
structure Fx (d w : Nat) (p : PyData) : Prop where
  lay : p.canLay0 = true
  sh : p.showable = true
  nd : p.hasDict = false
  dep : p.depth ≤ d
  len : p.shown.length ≤ w
  ok : PyData.strOk p.shown = true
structure Fxs (d w : Nat) (ps : List PyData) : Prop where
  lay : PyData.canLayAll0 ps = true
  sh : PyData.showableAll ps = true
  nd : PyData.hasDictAll ps = false
  dep : PyData.depthAll ps ≤ d
  len : ∀ t ∈ PyData.shownAll ps, t.length ≤ w
  num : (PyData.shownAll ps).length = ps.length
  ok : ∀ t ∈ PyData.shownAll ps, PyData.strOk t = true
theorem Fx.mono {d w d' w' : Nat} {p : PyData} (h : Fx d w p) (h1 : d ≤ d') (h2 : w ≤ w') : Fx d' w' p := ⟨h.lay, h.sh, h.nd, Nat.le_trans h.dep h1, Nat.le_trans h.len h2, h.ok⟩
theorem Fx.int {i : Int} {k : Nat} (hk : 0 < k) (hk2 : k ≤ 60) (h : i.natAbs < 10 ^ k) : Fx 0 (k + 1) (.int i) := by
  have h60 : i.natAbs < 10 ^ 60 := Nat.lt_of_lt_of_le h (Nat.pow_le_pow_right (by decide) hk2)
  have hl : i.natAbs.log2 < 200 := by
    rcases Nat.eq_zero_or_pos i.natAbs with e | e
    · rw [e]; decide
    · exact (Nat.log2_lt (by omega)).mpr (Nat.lt_trans h60 (by decide))
  refine ⟨rfl, ?_, rfl, Nat.le_refl _, ?_, sOk_of _⟩
  · rw [PyData.showable]
    exact decide_eq_true (by omega)
  · rw [PyData.shown, PySem.ofString_length]
    exact int_text_length_le10 hk h
theorem Fxs.of {d w : Nat} : ∀ {ps : List PyData}, (∀ p ∈ ps, Fx d w p) → Fxs d w ps
  | [], _ => ⟨rfl, rfl, rfl, Nat.zero_le _, fun t h => (by cases h), rfl, fun t h => (by cases h)⟩
  | p :: ps, h => by
    have a := h p (List.mem_cons_self ..)
    have b := Fxs.of (ps := ps) fun q hq => h q (List.mem_cons_of_mem _ hq)
    refine ⟨?_, ?_, ?_, ?_, fun t ht => ?_, ?_, fun t ht => ?_⟩
    · rw [PyData.canLayAll0, a.lay, b.lay]; rfl
    · rw [PyData.showableAll, a.sh, b.sh]; rfl
    · rw [PyData.hasDictAll, a.nd, b.nd]; rfl
    · rw [PyData.depthAll]; exact Nat.max_le.mpr ⟨a.dep, b.dep⟩
    · rw [PyData.shownAll] at ht
      rcases List.mem_cons.mp ht with rfl | ht
      · exact a.len
      · exact b.len t ht
    · rw [PyData.shownAll, List.length_cons, List.length_cons, b.num]
    · rw [PyData.shownAll] at ht
      rcases List.mem_cons.mp ht with rfl | ht
      · exact a.ok
      · exact b.ok t ht
theorem textFrom_le {w : Nat} : ∀ (ts : List PySem.Str) (k : Nat) (acc : PySem.Str), (∀ t ∈ ts, t.length ≤ w) → (textFrom k acc ts).length ≤ acc.length + ts.length * (w + 2)
  | [], k, acc, _ => by
    show acc.length ≤ _
    omega
  | t :: ts, k, acc, h => by
    have ih := textFrom_le ts (k + 1) (acc ++ (if k > 0 then ", " else "" : String) ++ t) fun u hu => h u (List.mem_cons_of_mem _ hu)
    have e : (acc ++ (if k > 0 then ", " else "" : String) ++ t).length = acc.length + (if k > 0 then 2 else 0) + t.length := by
      rw [PySem.strLen_append, PySem.strLen_append]
      split <;> rfl
    have ht := h t (List.mem_cons_self ..)
    unfold textFrom
    rw [e] at ih
    rw [List.length_cons, Nat.succ_mul]
    refine Nat.le_trans ih ?_
    split <;> omega
theorem join_le {w : Nat} : ∀ ts : List PySem.Str, (∀ t ∈ ts, t.length ≤ w) → (PySem.Str.join ", " ts).length ≤ ts.length * (w + 2)
  | [], _ => Nat.zero_le _
  | [t], h => by
    have := h t (List.mem_cons_self ..)
    show t.length ≤ _
    simp only [List.length_cons, List.length_nil]
    omega
  | t :: u :: r, h => by
    have ih := join_le (u :: r) fun x hx => h x (List.mem_cons_of_mem _ hx)
    have h1 := h t (List.mem_cons_self ..)
    have e : PySem.Str.join ", " (t :: u :: r) = t ++ ", " ++ PySem.Str.join ", " (u :: r) := by rw [PySem.Str.join]; exact fun e => by cases e
    rw [e, PySem.strLen_append, PySem.strLen_append]
    have e2 : ((", " : String) : PySem.Str).length = 2 := rfl
    rw [e2, List.length_cons, Nat.succ_mul]
    omega
theorem Fx.list {d w : Nat} {ps : List PyData} (h : ∀ p ∈ ps, Fx d w p) : Fx (d + 1) (ps.length * (w + 2) + 2) (.list ps) := by
  have b := Fxs.of h
  refine ⟨?_, ?_, ?_, ?_, ?_, ?_⟩
  · rw [PyData.canLay0]; exact b.lay
  · rw [PyData.showable]; exact b.sh
  · rw [PyData.hasDict]; exact b.nd
  · rw [PyData.depth]; have := b.dep; omega
  · rw [PyData.shown]
    unfold listText
    rw [PySem.strLen_append]
    have := textFrom_le (PyData.shownAll ps) 0 "[" b.len
    rw [b.num] at this
    have e1 : (("[" : String) : PySem.Str).length = 1 := rfl
    have e2 : (("]" : String) : PySem.Str).length = 1 := rfl
    rw [e1] at this
    rw [e2]
    omega
  · rw [PyData.shown]
    unfold listText
    exact sOk_app (sOk_from _ _ _ (sOk_of _) b.ok) (sOk_of _)
theorem Fx.tuple {d w : Nat} {ps : List PyData} (h : ∀ p ∈ ps, Fx d w p) : Fx (d + 1) (ps.length * (w + 2) + 3) (.tuple ps) := by
  have b := Fxs.of h
  refine ⟨?_, ?_, ?_, ?_, ?_, ?_⟩
  · rw [PyData.canLay0]; exact b.lay
  · rw [PyData.showable]; exact b.sh
  · rw [PyData.hasDict]; exact b.nd
  · rw [PyData.depth]; have := b.dep; omega
  · rw [PyData.shown]
    unfold tupleText
    rw [PySem.strLen_append, PySem.strLen_append]
    have := join_le (PyData.shownAll ps) b.len
    rw [b.num] at this
    have e1 : (("(" : PySem.Str)).length = 1 := rfl
    have e2 : ((if (PyData.shownAll ps).length == 1 then ",)" else ")" : String) : PySem.Str).length ≤ 2 := by split <;> decide
    rw [e1]
    omega
  · rw [PyData.shown]
    unfold tupleText
    exact sOk_app (sOk_app (sOk_of _) (sOk_join _ (sOk_of _) _ b.ok)) (sOk_of _)
theorem Fx.text {d w : Nat} {p : PyData} (h : Fx d w p) (hs : isSeq p = true) (hd : d ≤ 60) (hw : w ≤ 1000000) : textOf p = some p.shown := by
  have hl := Nat.le_trans h.len hw
  have hd' := Nat.le_trans h.dep hd
  unfold textOf
  cases p with
  | list xs => exact if_pos ⟨h.sh, h.nd, hd', hl⟩
  | tuple xs => exact if_pos ⟨h.sh, h.nd, hd', hl⟩
  | _ => cases hs
theorem Fx.shaped {d w : Nat} {p : PyData} (h : Fx d w p) (hd : d ≤ 60) : SeqAt.shaped p = true := by
  unfold SeqAt.shaped
  have := h.dep
  rw [h.lay, Bool.true_and]
  exact decide_eq_true (by omega)
theorem repr_x {S : Sto} {x : D} {p : PyData} {d w : Nat} (hp : pyOf S x = some p) (h : Fx d w p) (hs : isSeq p = true) (hd : d ≤ 60) (hw : w ≤ 1000000) : p_repr [x] S = .ok (.str p.shown) S := by
  unfold p_repr
  simp only [hp, Option.bind_some, h.text hs hd hw]
theorem eq_strB {n : Bool} {S : Sto} {x : PySem.Str} (hx : PyData.strOk x = true) : p_eq n (.str x) (.str x) S = .ok (.bl (!n)) S := by
  cases n with
  | true => exact ne_str hx
  | false =>
    rw [eq_str hx hx]
    simp
structure wpx {α : Type} (r : Res α) (Q : α → Sto → Prop) (X : Nat → D → Sto → Prop) : Prop where
  get : match r with
    | .ok a S => Q a S
    | .ex c d S => X c d S
    | .stuck => False
section
variable {α β : Type} {S S' S0 S1 T : Sto} {ρ : Env} {d : D} {X Y : Nat → D → Sto → Prop}
theorem wpx_ok {a : α} {Q : α → Sto → Prop} : wpx (.ok a S) Q X = Q a S := propext ⟨fun h => h.get, fun h => ⟨h⟩⟩
theorem wpx_exx {c : Nat} {Q : α → Sto → Prop} : wpx (.ex c d S) Q X = X c d S := propext ⟨fun h => h.get, fun h => ⟨h⟩⟩
theorem wpx_stF {Q : α → Sto → Prop} : wpx .stuck Q X = False := propext ⟨fun h => h.get, fun h => h.elim⟩
theorem wpx_bind {r : Res α} {k : α → Sto → Res β} {Q : β → Sto → Prop} : wpx (r.bind k) Q X = wpx r (fun a S => wpx (k a S) Q X) X := by
  cases r with
  | ok a S => rw [Res.bind_ok, wpx_ok]
  | ex c d S => rw [Res.bind_ex, wpx_exx, wpx_exx]
  | stuck => rw [Res.bind_stuck, wpx_stF, wpx_stF]
theorem wpx_bindN {r : Res α} {k : α → Sto → Res β} {Q : β → Sto → Prop} : wpx (r.bindN k) Q X = wpx r (fun a S => wpx (k a S) Q X) (fun _ _ _ => False) := by
  cases r with
  | ok a S => rw [Res.bindN_ok, wpx_ok]
  | ex c d S => rw [wpx_exx]; exact wpx_stF
  | stuck => rw [wpx_stF]; exact wpx_stF
theorem wpx_wp {r : Res α} {Q : α → Sto → Prop} (h : wp r Q) : wpx r Q X := by
  obtain ⟨a, S, e, q⟩ := wp_ex h
  rw [e]
  exact ⟨q⟩
theorem wp_wpx {r : Res α} {Q : α → Sto → Prop} (h : wpx r Q fun _ _ _ => False) : wp r Q := by
  cases r with
  | ok a S => exact ⟨h.get⟩
  | ex c d S => exact h.get.elim
  | stuck => exact h.get.elim
theorem wpx_ex2 {r : Res α} {Q : α → Sto → Prop} (h : wpx r Q X) : (∃ a S, r = .ok a S ∧ Q a S) ∨ ∃ c d S, r = .ex c d S ∧ X c d S := by
  cases r with
  | ok a S => exact .inl ⟨_, _, rfl, h.get⟩
  | ex c d S => exact .inr ⟨_, _, _, rfl, h.get⟩
  | stuck => exact h.get.elim
theorem finX_same {c : Nat} : finX S c d S = .ex c d S := by
  unfold finX
  rw [if_pos rfl]
theorem finX_len {c : Nat} (h : S'.length = S.length) : finX S c d S' = .ex c d S' := by
  unfold finX
  rw [if_pos h]
def retQx (S0 : Sto) (Q : D → Sto → Prop) (X : Nat → D → Sto → Prop) : Flo → Sto → Prop
  | .rt d, S' => wpx (fin S0 d S') Q X
  | .nx _, S' => wpx (fin S0 .non S') Q X
  | _, _ => False
def retX (S0 : Sto) (X : Nat → D → Sto → Prop) : Nat → D → Sto → Prop := fun c d S' => wpx (finX S0 c d S' : Res D) (fun _ _ => False) X
theorem wpx_ret {r : Res Flo} {Q : D → Sto → Prop} : wpx (ret S0 r) Q X = wpx r (retQx S0 Q X) (retX S0 X) := by
  cases r with
  | ok f S' =>
    rw [wpx_ok]
    cases f with
    | rt d => rfl
    | nx ρ => rfl
    | bk ρ => exact wpx_stF
    | ct ρ => exact wpx_stF
  | ex k d S' =>
    rw [wpx_exx]
    show wpx (finX S0 k d S') Q X = wpx (finX S0 k d S') (fun _ _ => False) X
    unfold finX
    split
    · rw [wpx_exx, wpx_exx]
    · split <;> rw [wpx_exx, wpx_exx]
  | stuck => rw [wpx_stF]; exact wpx_stF
theorem retQx_rt {Q : D → Sto → Prop} : retQx S0 Q X (.rt d) S' = wpx (fin S0 d S') Q X := rfl
theorem retQx_nx {Q : D → Sto → Prop} : retQx S0 Q X (.nx ρ) S' = wpx (fin S0 .non S') Q X := rfl
theorem wpx_fin {Q : D → Sto → Prop} : wpx (fin S d S) Q X = Q d S := by rw [fin_same rfl, wpx_ok]
theorem retX_same {c : Nat} : retX S X c d S = X c d S := by
  unfold retX
  rw [finX_same, wpx_exx]
theorem retX_len {c : Nat} (h : S'.length = S.length) : retX S X c d S' = X c d S' := by
  unfold retX
  rw [finX_len h, wpx_exx]
theorem e_raise {k : Nat} {a : ECode} : c_raise k a ρ S = (a ρ S).bind fun d S1 => .ex k d S1 := rfl
section
variable {J : Env → Sto → Prop} {Q : Flo → Sto → Prop}
theorem wpx_try {m : Nat → Option Bool} {i : Nat} {cb cs : SCode} (h : wpx (cb ρ S) Q fun c d S1 => match m c with
      | some true => wp (cs (ρ.set i (some (.err c d))) S1) fun f S2 => S2 = S1 ∧ floOk ρ i f ∧ Q (floEnd i f) S2
      | some false => X c d S1
      | none => False) : wpx (c_try m i cb cs ρ S) Q X := by
  unfold c_try
  rcases wpx_ex2 h with ⟨a, S1, e, q⟩ | ⟨c, d, S1, e, q⟩
  · rw [e]
    exact ⟨q⟩
  · rw [e]
    cases hm : m c with
    | none => simp only [hm] at q
    | some b =>
      cases b with
      | true =>
        simp only [hm] at q ⊢
        obtain ⟨f, S2, e2, rfl, hf, q2⟩ := wp_ex q
        simp only [e2]
        rw [if_pos ⟨rfl, hf⟩]
        exact ⟨q2⟩
      | false =>
        simp only [hm] at q ⊢
        exact ⟨q⟩
end
end
open PySem PySem.Spec PyProof.Rows L2 PySem.NumText
abbrev tl (x : PySem.Str) : List Nat := x.cps.toList
abbrev mk (l : List Nat) : PySem.Str := ⟨l.toArray⟩
end DL
local macro_rules
  | `(tactic| push_cast [$ls,*] $[$loc]?) => `(tactic| (try simp (maxSteps := 2000000) -implicitDefEqProofs (disch := first | omega | (simp only [List.length_map, List.length_cons, List.length_nil, List.length_range, List.length_append, List.length_replicate]; omega)) only [DL.e_d, DL.e_op, DL.e_un, DL.e_test, DL.e_asB, DL.e_and, DL.e_or, DL.e_not,
    DL.e_if, DL.e_andV, DL.e_orV, DL.e_notV, DL.e_chain, DL.e_nil, DL.e_cons, DL.e_tup,
    DL.e_lst, DL.e_cb, DL.e_callK, DL.e_meth, DL.e_methP, DL.e_smeth, DL.e_cval, DL.e_fld,
    DL.e_prop, DL.e_star, DL.e_ps0, DL.e_ps, DL.e_dispK, DL.e_dispT, DL.e_dK0, DL.e_dT0,
    DL.e_frz, DL.e_no, DL.e_part, DL.e_sl, DL.s_set, DL.s_asg, DL.s_nx, DL.s_seq,
    DL.s_expr, DL.s_ret, DL.s_retN, DL.s_brk, DL.s_cont, DL.s_stuck, DL.s_ifS, DL.s_aug,
    DL.s_par, DL.s_par3, DL.s_setI, DL.s_fldS, DL.g_name_eq, DL.g_nil_eq, DL.g_cons_eq, DL.g_tup_eq,
    DL.v_add, DL.v_addI, DL.v_sub, DL.v_neg, DL.v_lt, DL.v_le, DL.v_gt, DL.v_ge,
    DL.v_eq, DL.v_isN, DL.v_tupcat, DL.Res.bind_ok, DL.Res.bindN_ok, DL.ret_rt, DL.ret_nx, DL.ev_v0,
    DL.ev_vs, DL.ev_a1, DL.ev_a2, DL.ev_a3, DL.ev_a4, List.set_cons_zero, List.set_cons_succ, decide_true,
    decide_false, Bool.not_true, Bool.not_false, if_true, Bool.false_eq_true, if_false, DL.e_cb, DL.e_yes,
    DL.wp_ok, DL.wp_bind, DL.wp_bindN, DL.wp_ret, DL.retQ_rt, DL.retQ_nx, DL.wp_fin, DL.FQ_nx,
    DL.FQ_ct, DL.FQ_bk, DL.FQ_rt, DL.addO_some, DL.addO_none, DL.isCon_self, DL.v_mulC, DL.v_fdivC,
    DL.v_modC, DL.ix_t0, DL.ix_t1, DL.ix_t2, DL.ix_l0, DL.ix_l1, DL.ix_l2, DL.isi_int_int,
    DL.isi_int_bool, DL.min2_eq, DL.max2_eq, DL.tup_f, DL.lst_f, DL.list_tup, DL.list_lst, DL.tuple_lst,
    DL.len_lst, DL.len_tup, DL.wipeE, DL.lcB, DL.cls_obj, DL.flds_obj, DL.isiO_obj, DL.v_augS,
    DL.v_methK, DL.v_makeK, DL.ev_a5, DL.ev_a6, DL.ev_a7, DL.v_mulB, eq_self, and_self,
    List.length_nil, List.length_cons, List.getElem?_cons_zero, List.getElem?_cons_succ, DL.list_tup_t, List.append_assoc, List.nil_append, List.cons_append,
    DL.wpx_ok, DL.wpx_exx, DL.wpx_bind, DL.wpx_bindN, DL.wpx_ret, DL.retQx_rt, DL.retQx_nx, DL.wpx_fin,
    DL.retX_same, DL.e_raise, $ls,*] $[$loc]?))
namespace K02
open PySem PySem.Spec PyProof.Rows L2 DL
section
variable {G : Gx} {S : Sto}
theorem reduced_modulo_eq {p x : Int} (h : 0 < p) (h2 : p < 2 ^ 40) : m_reduced_modulo G [.int x, .int p] S = .ok (.int (red p x)) S := by
  refine eq_wp ?_
  rw [m_reduced_modulo, fnR_eq]
  show wp (ret S (c_reduced_modulo G [some (.int x), some (.int p), none] S)) _
  unfold c_reduced_modulo
  have h1 := Int.emod_nonneg x (show p ≠ 0 by omega)
  have h3 := Int.emod_lt_of_pos x h
  unfold red
  by_cases hc : p < 2 * (x % p)
  · push_cast [hc]
    all_goals first | exact ⟨rfl, trivial⟩ | exact ⟨trivial, trivial⟩ | exact trivial | exact ⟨rfl, rfl⟩
  · push_cast [hc]
    all_goals first | exact ⟨rfl, trivial⟩ | exact ⟨trivial, trivial⟩ | exact trivial | exact ⟨rfl, rfl⟩
def powF : Nat → Int → Int → Int → Int → Int
  | 0, r, _, _, _ => r
  | f + 1, r, s, l, p => if 0 < l then powF f (if l % 2 = 1 then r * s % p else r) (s * s % p) (l / 2) p else r
theorem power_of_eq {b e p : Int} (f : Nat) (hp : 1 < p) (hp2 : p < 2 ^ 32) (he : 0 ≤ e) (he2 : e < 2 ^ f) (hf : f ≤ 1000) : m_power_of G [.int b, .int e, .int p] S = .ok (.int (red p (powF f 1 (b % p) e p))) S := by
  refine eq_wp ?_
  rw [m_power_of, fnR_eq]
  show wp (ret S (c_power_of G [some (.int b), some (.int e), some (.int p), none, none, none] S)) _
  unfold c_power_of
  have b0 := Int.emod_nonneg b (show p ≠ 0 by omega)
  have b1 := Int.emod_lt_of_pos b (show 0 < p by omega)
  push_cast []
  refine wp_while f (fun m ρ S' => ∃ r s l : Int, ρ = [some (.int b), some (.int e), some (.int p), some (.int r), some (.int s), some (.int l)] ∧ S' = S ∧ 0 ≤ r ∧ r < p ∧ 0 ≤ s ∧ s < p ∧ 0 ≤ l ∧ l < 2 ^ m ∧ powF m r s l p = powF f 1 (b % p) e p) (by omega) ⟨1, b % p, e, rfl, rfl, by omega, hp, b0, b1, he, he2, rfl⟩ ?_
  rintro m ρ S' ⟨r, s, l, rfl, rfl, r0, r1, s0, s1, l0, l1, hr⟩
  by_cases hc : 0 < l
  · obtain ⟨m, rfl⟩ : ∃ k, m = k + 1 := by
      cases m with
      | zero => exact absurd l1 (by simp; omega)
      | succ k => exact ⟨k, rfl⟩
    have hl : l / 2 < 2 ^ m := by rw [Int.pow_succ] at l1; omega
    have q1 := Int.emod_nonneg (r * s) (show p ≠ 0 by omega)
    have q2 := Int.emod_lt_of_pos (r * s) (show 0 < p by omega)
    have q3 := Int.emod_nonneg (s * s) (show p ≠ 0 by omega)
    have q4 := Int.emod_lt_of_pos (s * s) (show 0 < p by omega)
    rw [powF.eq_2, if_pos hc] at hr
    by_cases h2 : l % 2 = 1
    · push_cast [hc, h2]
      rw [if_pos h2] at hr
      exact ⟨m, by omega, _, _, _, rfl, trivial, q1, q2, q3, q4, by omega, hl, hr⟩
    · push_cast [hc, h2]
      rw [if_neg h2] at hr
      exact ⟨m, by omega, _, _, _, rfl, trivial, r0, r1, q3, q4, by omega, hl, hr⟩
  · have hr2 : powF m r s l p = r := by
      cases m with
      | zero => rfl
      | succ m => unfold powF; rw [if_neg hc]
    rw [hr2] at hr
    push_cast [hc, mp_reduced_modulo, reduced_modulo_eq (S := S') (G := G) (p := p) (x := r)]
    rw [hr]
    all_goals first | exact ⟨rfl, trivial⟩ | exact ⟨trivial, trivial⟩ | exact trivial | exact ⟨rfl, rfl⟩
def is1 (x : Int) : Bool := (1 == x) || ((-1 == x) || false)
def oddF : Nat → Int → Int → Int × Int
  | 0, o, t => (o, t)
  | f + 1, o, t => if o % 2 = 0 then oddF f (o / 2) (t + 1) else (o, t)
def sqF : Nat → Int → Int → Bool
  | 0, _, _ => false
  | t + 1, w, n => if red n (w * w) = -1 then true else sqF t (red n (w * w)) n
def isPb (n b : Int) : Bool :=
  let o := oddF 40 (n - 1) 0
  let w := red n (powF 40 1 (b % n) o.1 n)
  if is1 w = true then true else sqF (o.2 - 1).toNat w n
def divs (n : Int) : List Int → Option Bool
  | [] => none
  | x :: l => if n % x = 0 then some (decide (n = x)) else divs n l
def isPr (n : Int) : Bool := (divs n [2, 3, 5, 7]).getD (([2, 3, 5, 7] : List Int).all (isPb n))
theorem is_probable_eq {n b : Int} (h3 : 3 < n) (hn : n < 2 ^ 31) : m_is_probable G [.int n, .int b] S = .ok (.bl (isPb n b)) S := by
  refine eq_wp ?_
  rw [m_is_probable, fnR_eq]
  show wp (ret S (c_is_probable G [some (.int n), some (.int b), none, none, none, none] S)) _
  unfold c_is_probable
  push_cast []
  refine wp_while 40 (fun m ρ S' => ∃ o t : Int, ρ = [some (.int n), some (.int b), some (.int o), some (.int t), none, none] ∧ S' = S ∧ 0 < o ∧ o < 2 ^ m ∧ o < n ∧ 0 ≤ t ∧ t ≤ 40 - m ∧ oddF m o t = oddF 40 (n - 1) 0) (by omega) ⟨n - 1, 0, rfl, rfl, by omega, by omega, by omega, by omega, by omega, rfl⟩ ?_
  rintro m ρ S' ⟨o, t, rfl, rfl, o0, o1, o2, t0, t1, hr⟩
  by_cases hc : o % 2 = 0
  · obtain ⟨m, rfl⟩ : ∃ k, m = k + 1 := by
      cases m with
      | zero => exact absurd o1 (by simp; omega)
      | succ k => exact ⟨k, rfl⟩
    have hl : o / 2 < 2 ^ m := by rw [Int.pow_succ] at o1; omega
    rw [oddF.eq_2, if_pos hc] at hr
    push_cast [hc]
    exact ⟨m, by omega, _, _, rfl, trivial, by omega, hl, by omega, by omega, by omega, hr⟩
  · have hr2 : oddF m o t = (o, t) := by
      cases m with
      | zero => rfl
      | succ m => rw [oddF.eq_2, if_neg hc]
    rw [hr2] at hr
    have hm : m ≤ 40 := by omega
    push_cast [hc, mp_power_of, power_of_eq (S := S') (G := G) (b := b) (e := o) (p := n) 40 (by omega) (by omega) (by omega) (by omega) (by omega)]
    have hw : isPb n b = if is1 (red n (powF 40 1 (b % n) o n)) = true then true else sqF (t - 1).toNat (red n (powF 40 1 (b % n) o n)) n := by
      unfold isPb
      rw [← hr]
    rw [hw]
    generalize hwv : red n (powF 40 1 (b % n) o n) = w
    have w0 := red_range (p := n) (x := powF 40 1 (b % n) o n) (by omega)
    rw [hwv] at w0
    have hin : p_in false (.int w) (.tup [.int 1, .int (-1)]) S' = .ok (.bl (is1 w)) S' := rfl
    push_cast [hin]
    by_cases h1 : is1 w = true
    · push_cast [h1]
      all_goals first | exact ⟨rfl, trivial⟩ | exact ⟨trivial, trivial⟩ | exact trivial | exact ⟨rfl, rfl⟩
    · push_cast [h1]
      refine wp_for (List.range (t - 1).toNat) (fun (k : Nat) => D.int (0 + (k : Int))) (fun pre ρ S2 => ∃ w' o5, ρ = [some (.int n), some (.int b), some (.int o), some (.int t), some (.int w'), o5] ∧ S2 = S' ∧ -n < 2 * w' ∧ 2 * w' ≤ n ∧ sqF ((t - 1).toNat - pre.length) w' n = sqF (t - 1).toNat w n) (rng1 (by push_cast []) ⟨by omega, by omega⟩) (fun _ _ _ _ => ok_nil) ⟨w, none, rfl, rfl, w0.1, w0.2, rfl⟩ ?_ ?_
      · rintro pre x post ρ S2 hl ⟨w', o5, rfl, rfl, a1, a2, a3⟩
        have hlen : pre.length < (t - 1).toNat := by
          have := congrArg List.length hl
          simp at this
          omega
        obtain ⟨q, hq⟩ : ∃ q, (t - 1).toNat - pre.length = q + 1 := ⟨_, (Nat.succ_pred_eq_of_pos (by omega)).symm⟩
        rw [hq, sqF.eq_2] at a3
        have w1 := red_range (p := n) (x := w' * w') (by omega)
        push_cast [mp_reduced_modulo, reduced_modulo_eq (S := S2) (G := G) (p := n) (x := w' * w') (by omega) (by omega)]
        by_cases h5 : red n (w' * w') = -1
        · rw [if_pos h5] at a3
          push_cast [h5]
          rw [← a3]
          all_goals first | exact ⟨rfl, trivial⟩ | exact ⟨trivial, trivial⟩ | exact trivial | exact ⟨rfl, rfl⟩
        · rw [if_neg h5] at a3
          push_cast [h5]
          exact ⟨_, _, rfl, trivial, w1.1, w1.2, by rw [List.length_append, List.length_singleton, ← Nat.sub_sub, hq]; exact a3⟩
      · rintro ρ S2 ⟨w', o5, rfl, rfl, a1, a2, a3⟩
        push_cast []
        rw [List.length_range, Nat.sub_self] at a3
        exact ⟨congrArg D.bl a3, trivial⟩
theorem is_odd_prime_eq {n : Int} (h3 : 3 ≤ n) (hn : n < 2 ^ 31) : m_is_odd_prime G [.int n] S = .ok (.bl (isPr n)) S := by
  refine eq_wp ?_
  rw [m_is_odd_prime, fnR_eq]
  show wp (ret S (c_is_odd_prime G [some (.int n), none] S)) _
  unfold c_is_odd_prime
  push_cast []
  refine wp_for [2, 3, 5, 7] D.int (fun pre ρ S' => ∃ o, ρ = [some (.int n), o] ∧ S' = S ∧ (∀ x ∈ pre, n % x ≠ 0) ∧ ∀ post, [2, 3, 5, 7] = pre ++ post → divs n post = divs n [2, 3, 5, 7]) (it_eq (x := k_BASES) (by push_cast []) rfl) (fun _ _ _ _ => ok_one rfl) ⟨none, rfl, rfl, fun _ h => (by cases h), fun post h => by rw [h]; rfl⟩ ?_ ?_
  · rintro pre x post ρ S2 hl ⟨o, rfl, rfl, h1, h2⟩
    have h5 := h2 (x :: post) hl
    have hx : 0 < x := by
      have : x ∈ [2, 3, 5, 7] := by rw [hl]; simp
      simp at this
      omega
    rw [divs.eq_2] at h5
    by_cases hc : n % x = 0
    · rw [if_pos hc] at h5
      have h5' := h5.symm
      push_cast [hc]
      refine ⟨?_, trivial⟩
      unfold isPr
      rw [h5']
      rfl
    · rw [if_neg hc] at h5
      push_cast [hc]
      refine ⟨_, rfl, trivial, fun y hy => ?_, fun post' hp => ?_⟩
      · rcases List.mem_append.mp hy with hy | hy
        · exact h1 y hy
        · have : y = x := by simpa using hy
          rw [this]; exact hc
      · rw [hl] at hp
        have hp' : post = post' := by simpa using hp
        subst hp'
        exact h5
  · rintro ρ S2 ⟨o, rfl, rfl, h1, h2⟩
    have h30 := h1 3 (by simp)
    have h4 : 3 < n := by omega
    push_cast [lc_eqM (S := S2) (ci := c_it (c_d k_BASES)) (g := g_name 1) (t := c_yes) (a := c_cb (mp_is_probable G) (c_cons (c_var 0) (c_cons (c_var 1) c_nil))) (own := [1]) (ρ := [some (.int n), o]) [2, 3, 5, 7] D.int (fun b => .bl (isPb n b)) (it_eq (x := k_BASES) rfl rfl) (by decide) (ok_one rfl) (fun x _ => by push_cast [mp_is_probable, is_probable_eq (S := S2) (G := G) (n := n) (b := x) h4 hn]), all_bls]
    have h5 := h2 [] (by simp)
    refine ⟨?_, trivial⟩
    unfold isPr
    rw [← h5]
    rfl
theorem is_between_eq {x a b : Int} : m_is_between G [.int x, .int a, .int b] S = .ok (.bl (decide (a ≤ x) && decide (x ≤ b))) S := by
  refine eq_wp ?_
  rw [m_is_between, fnR_eq]
  show wp (ret S (c_is_between G [some (.int x), some (.int a), some (.int b)] S)) _
  unfold c_is_between
  by_cases h1 : a ≤ x
  · by_cases h2 : x ≤ b
    · push_cast [h1, h2]; all_goals first | exact ⟨rfl, trivial⟩ | exact ⟨trivial, trivial⟩ | exact trivial | exact ⟨rfl, rfl⟩
    · push_cast [h1, h2]; all_goals first | exact ⟨rfl, trivial⟩ | exact ⟨trivial, trivial⟩ | exact trivial | exact ⟨rfl, rfl⟩
  · push_cast [h1]; all_goals first | exact ⟨rfl, trivial⟩ | exact ⟨trivial, trivial⟩ | exact trivial | exact ⟨rfl, rfl⟩
theorem is_prime_eq {n : Int} (h3 : 3 ≤ n) (hn : n ≤ 1000000000) : m_Scheme_is_prime G [.int n] S = .ok (.bl (isPr n)) S := by
  refine eq_wp ?_
  rw [m_Scheme_is_prime, fnR_eq]
  show wp (ret S (c_Scheme_is_prime G [some (.int n)] S)) _
  unfold c_Scheme_is_prime
  push_cast [mp_is_between, is_between_eq (G := G) (S := S) (x := n) (a := 3) (b := 1000000000), h3, hn, Bool.and_self, mp_is_odd_prime, is_odd_prime_eq (G := G) (S := S) h3 (show n < 2 ^ 31 by omega)]
  all_goals first | exact ⟨rfl, trivial⟩ | exact ⟨trivial, trivial⟩ | exact trivial | exact ⟨rfl, rfl⟩
theorem scheme_init {S : Sto} {p n k : Int} (h3 : 3 ≤ p) (hp : p ≤ 1000000000) (hpr : isPr p = true) (hn : 2 ≤ n) (hn2 : n ≤ 24) (hnp : n * n < p) (hk : 1 ≤ k) (hk2 : k ≤ 24) :
    mp_Scheme__init_ G [.ref S.length, .int p, .int n, .int k] (S ++ [some (Cell.ins 0 [])]) = .ok .non (S ++ [some (Cell.ins 0 [.int p, .int n, .int k])]) := by
  refine eq_wp ?_
  have hge : ¬ p ≤ n * n := by omega
  have e0 : ∀ S, p_ge (.int (n * n)) (.int p) S = .ok (.bl false) S := fun S => by push_cast [hge]
  rw [mp_Scheme__init_, ev_a4, m_Scheme__init_, fnR_eq]
  generalize hS : S ++ [some (Cell.ins 0 [])] = S1
  show wp (ret S1 (c_Scheme__init_ G [some (.ref S.length), some (.int p), some (.int n), some (.int k)] S1)) _
  unfold c_Scheme__init_ k_LEAST_ACCOUNTS
  push_cast [mp_Scheme_is_prime, is_prime_eq (G := G) (S := S1) h3 hp, hpr, mp_is_between, is_between_eq (G := G) (S := S1), hn, hn2, hk, hk2, hge, Bool.and_self]
  subst hS
  push_cast [setF_snoc (S := S) (c := 0) (i := 0) (fs := []) (v := .int p) rfl (by decide)]
  push_cast [setF_snoc (S := S) (c := 0) (i := 1) (fs := [.int p]) (v := .int n) rfl (by simp)]
  push_cast [setF_snoc (S := S) (c := 0) (i := 2) (fs := [.int p, .int n]) (v := .int k) rfl (by simp)]
  exact wp_fin_len (by simp) (by simp)
theorem scheme_eq {p n k : Int} (h3 : 3 ≤ p) (hp : p ≤ 1000000000) (hpr : isPr p = true) (hn : 2 ≤ n) (hn2 : n ≤ 24) (hnp : n * n < p) (hk : 1 ≤ k) (hk2 : k ≤ 24) : p_make false 0 (mp_Scheme__init_ G) [.int p, .int n, .int k] S = .ok (.obj 0 [.int p, .int n, .int k]) S :=
  make_frz (scheme_init h3 hp hpr hn hn2 hnp hk hk2) (by simp only [refsLtL, refsLt, Bool.and_self])
def frc {α : Type} (x : Int) (k : Int → α) : α := match x with
  | .ofNat n => Nat.rec (k (.ofNat 0)) (fun m _ => k (.ofNat (m + 1))) n
  | .negSucc n => Nat.rec (k (.negSucc 0)) (fun m _ => k (.negSucc (m + 1))) n
theorem frc_eq {α : Type} (x : Int) (k : Int → α) : frc x k = k x := by
  unfold frc
  cases x with
  | ofNat n => cases n <;> rfl
  | negSucc n => cases n <;> rfl
def powE : Nat → Int → Int → Int → Int → Int
  | 0, r, _, _, _ => r
  | f + 1, r, s, l, p => if 0 < l then frc (if l % 2 = 1 then r * s % p else r) fun r' => frc (s * s % p) fun s' => frc (l / 2) fun l' => powE f r' s' l' p else r
theorem powE_eq : ∀ f r s l p, powE f r s l p = powF f r s l p
  | 0, _, _, _, _ => rfl
  | f + 1, r, s, l, p => by
    rw [powE.eq_2, powF.eq_2]
    simp only [frc_eq, powE_eq f]
def oddE : Nat → Int → Int → Int × Int
  | 0, o, t => (o, t)
  | f + 1, o, t => if o % 2 = 0 then frc (o / 2) fun o' => frc (t + 1) fun t' => oddE f o' t' else (o, t)
theorem oddE_eq : ∀ f o t, oddE f o t = oddF f o t
  | 0, _, _ => rfl
  | f + 1, o, t => by
    rw [oddE.eq_2, oddF.eq_2]
    simp only [frc_eq, oddE_eq f]
def sqE : Nat → Int → Int → Bool
  | 0, _, _ => false
  | t + 1, w, n => frc (red n (w * w)) fun w' => if w' = -1 then true else sqE t w' n
theorem sqE_eq : ∀ t w n, sqE t w n = sqF t w n
  | 0, _, _ => rfl
  | t + 1, w, n => by
    rw [sqE.eq_2, sqF.eq_2]
    simp only [frc_eq, sqE_eq t]
def isPbE (n b : Int) : Bool := match oddE 40 (n - 1) 0 with
  | (o, t) => frc (powE 40 1 (b % n) o n) fun w0 => frc (red n w0) fun w => if is1 w = true then true else sqE (t - 1).toNat w n
theorem isPbE_eq (n b : Int) : isPbE n b = isPb n b := by
  unfold isPbE isPb
  rw [oddE_eq]
  simp only [frc_eq, powE_eq, sqE_eq]
def isPrE (n : Int) : Bool := (divs n [2, 3, 5, 7]).getD (([2, 3, 5, 7] : List Int).all (isPbE n))
theorem isPrE_eq (n : Int) : isPrE n = isPr n := by
  unfold isPrE isPr
  rw [show isPbE n = isPb n from funext (isPbE_eq n)]
theorem primes_ev : ([5, 7, 11, 13, 17, 23, 29, 37, 41, 53, 67, 97, 101, 257, 1009, 65537, 999999937] : List Int).all isPrE = true := by decide +kernel
theorem primes_ok {p : Int} (h : p ∈ ([5, 7, 11, 13, 17, 23, 29, 37, 41, 53, 67, 97, 101, 257, 1009, 65537, 999999937] : List Int)) : isPr p = true := by
  rw [← isPrE_eq]
  exact List.all_eq_true.mp primes_ev p h
end
def plan (p n k : Int) : D := .obj 0 [.int p, .int n, .int k]
section
variable {G : Gx} {S : Sto} {p n k : Int}
theorem accounts_eq : m_Scheme_accounts G [plan p n k] S = .ok (.int n) S := by
  refine eq_wp ?_
  rw [m_Scheme_accounts, fnR_eq]
  show wp (ret S (c_Scheme_accounts G [some (.obj 0 [.int p, .int n, .int k])] S)) _
  unfold c_Scheme_accounts
  push_cast []
  all_goals first | exact ⟨rfl, trivial⟩ | exact ⟨trivial, trivial⟩ | exact trivial | exact ⟨rfl, rfl⟩
theorem clsOf_plan : clsOf (plan p n k) S = some 0 := rfl
end
def sk (its : List Int) (seed cnt : Int) (T : Sto) : Sto := some (.lst (iD its)) :: some (.dK [(.inr "items", .ref 0), (.inr "seed", .int seed), (.inr "draws", .int cnt)]) :: T
def SkE (j : Nat) (S : Sto) : Prop := ∃ T its seed cnt, S = sk its seed cnt T ∧ its.length ≤ 63 ∧ 0 ≤ seed ∧ seed < 2 ^ 32 ∧ 0 ≤ cnt ∧ cnt ≤ j
theorem SkE.mono {j m : Nat} {S : Sto} (h : SkE j S) (hm : j ≤ m) : SkE m S := by
  obtain ⟨T, its, seed, cnt, e, h1, h2, h3, h4, h5⟩ := h
  exact ⟨T, its, seed, cnt, e, h1, h2, h3, h4, by omega⟩
theorem SkE.app {j : Nat} {S U : Sto} (h : SkE j S) : SkE j (S ++ U) := by
  obtain ⟨T, its, seed, cnt, rfl, h⟩ := h
  exact ⟨T ++ U, its, seed, cnt, rfl, h⟩
theorem SkE.len {j : Nat} {S : Sto} (h : SkE j S) : 2 ≤ S.length := by
  obtain ⟨T, its, seed, cnt, rfl, h⟩ := h
  show 2 ≤ T.length + 1 + 1
  omega
theorem SkE.set {j i : Nat} {S : Sto} {c : Option Cell} (h : SkE j S) (hi : 2 ≤ i) : SkE j (S.set i c) := by
  obtain ⟨T, its, seed, cnt, rfl, h⟩ := h
  obtain ⟨m, rfl⟩ : ∃ m, i = m + 2 := ⟨i - 2, by omega⟩
  exact ⟨T.set m c, its, seed, cnt, rfl, h⟩
theorem sk_sm {its its' : List Int} {seed seed' cnt cnt' : Int} {T : Sto} : Sm (sk its seed cnt T) (sk its' seed' cnt' T) := ⟨rfl, fun i h => by
  obtain ⟨m, rfl⟩ : ∃ m, i = m + 2 := ⟨i - 2, by omega⟩
  rfl⟩
section
variable {its : List Int} {seed cnt b : Int} {T : Sto}
theorem sk_items : p_ix (.ref 1) (.str "items") (sk its seed cnt T) = .ok (.ref 0) (sk its seed cnt T) := ixK_ref (kds := [(.inr "items", .ref 0), (.inr "seed", .int seed), (.inr "draws", .int cnt)]) rfl (by rfl)
theorem sk_seed : p_ix (.ref 1) (.str "seed") (sk its seed cnt T) = .ok (.int seed) (sk its seed cnt T) := ixK_ref (kds := [(.inr "items", .ref 0), (.inr "seed", .int seed), (.inr "draws", .int cnt)]) rfl (by rfl)
theorem sk_draws : p_ix (.ref 1) (.str "draws") (sk its seed cnt T) = .ok (.int cnt) (sk its seed cnt T) := ixK_ref (kds := [(.inr "items", .ref 0), (.inr "seed", .int seed), (.inr "draws", .int cnt)]) rfl (by rfl)
theorem sk_put {c : Int} : p_setI (.ref 1) (.str "draws") (.int c) (sk its seed cnt T) = .ok () (sk its seed c T) := by
  rw [setK_ref (kds := [(.inr "items", .ref 0), (.inr "seed", .int seed), (.inr "draws", .int cnt)]) rfl (by simp)]
  rfl
theorem sk_isL : isL (.ref 0) (sk its seed cnt T) = true := isL_ref (ds := iD its) rfl
theorem sk_ne : p_eq true (.ref 0) (.lst []) (sk its seed cnt T) = .ok (.bl (!its.isEmpty)) (sk its seed cnt T) := by
  have h : pyOf (sk its seed cnt T) (.ref 0) = some (.list (its.map PyData.int)) := by
    show (flatL (its.map D.int)).map PyData.list = _
    rw [flat_ints]; rfl
  have h2 : ∀ its : List Int, SeqAt.shaped (.list (its.map PyData.int)) = true := by
    intro its
    unfold SeqAt.shaped
    rw [PyData.canLay0, lay_ints, PyData.depth, depth_ints]
    rfl
  unfold p_eq
  rw [h]
  show (if _ then _ else _) = _
  rw [if_pos ⟨h2 its, rfl⟩]
  cases its <;> rfl
theorem sk_pop {x : Int} : p_pop (.ref 0) [] (sk (its ++ [x]) seed cnt T) = .ok (.int x) (sk its seed cnt T) := by
  unfold p_pop
  show (match ((its ++ [x]).map D.int)[((its ++ [x]).map D.int).length - 1]? with
      | some y => Res.ok y ((sk (its ++ [x]) seed cnt T).set 0 (some (.lst ((its ++ [x]).map D.int).dropLast)))
      | none => .stuck) = _
  have e : ((its ++ [x]).map D.int)[((its ++ [x]).map D.int).length - 1]? = some (.int x) := by simp
  rw [e]
  show Res.ok _ _ = _
  simp [sk, iD]
theorem sk_app {x : Int} (h : its.length < 100000) : p_append (.ref 0) [.int x] (sk its seed cnt T) = .ok .non (sk (its ++ [x]) seed cnt T) := by
  unfold p_append
  show (if fits ((its.map D.int).length + 1) = true then Res.ok D.non ((sk its seed cnt T).set 0 (some (.lst (its.map D.int ++ [.int x])))) else .stuck) = _
  rw [if_pos (show fits _ = true from decide_eq_true (by simp; omega))]
  simp [sk, iD]
end
section
variable {G : Gx} {S : Sto}
theorem pow18 : p_pow (.int 10) (.int 18) S = .ok (.int 1000000000000000000) S := by
  rw [pow_eq (by decide) (by decide) (by decide)]
  rfl
theorem v_fdivL {i j : Int} (h : 0 < j) (h2 : j < 2 ^ 200) : p_fdiv (.int i) (.int j) S = .ok (.int (i / j)) S := by
  rw [v_fdiv, if_pos (wide_div (b := 200) h (by omega) (by decide) (by decide))]
theorem deck_wp {ns : List Int} (hn : ns.length ≤ 63) : wp (mp__law_deck G [.scr (iD ns)] []) fun d S => d = .ref 1 ∧ SkE 0 S := by
  rw [mp__law_deck, ev_a1, m__law_deck, fnR_eq]
  show wp (ret [] (c__law_deck G [some (.scr (iD ns)), none, none, none] [])) _
  unfold c__law_deck
  have hcut : p_sl false (.scr (iD ns)) none (some 63) ([] : Sto) = .ok (.lst (iD ns)) [] := by
    show p_lst false (DL.cutD (iD ns) none (some 63)) [] = _
    have : DL.cutD (iD ns) none (some 63) = iD ns := cutD_whole (decide_eq_true ⟨HT.sIx_none _ _, by
      rw [show (63 : Int) = ((63 : Nat) : Int) from rfl, HT.sIx_nat, Nat.min_eq_right (by rw [List.length_map]; omega)]⟩)
    rw [this, lst_f (by rw [List.length_map]; omega)]
  push_cast [hcut]
  refine wp_for ns D.int (fun pre ρ S => ∃ (sd : Int) (o : Option D), ρ = [some (.scr (iD ns)), some (.lst (iD ns)), some (.int sd), o] ∧ S = [] ∧ 0 ≤ sd ∧ sd < 2 ^ 32) (it_eq (x := .lst (iD ns)) (by push_cast []) rfl) (fun _ _ _ _ => ok_one rfl) ⟨_, none, rfl, rfl, by simp; omega, by simp; omega⟩ ?_ ?_
  · rintro pre x post ρ S hl ⟨sd, o, rfl, rfl, h0, h1⟩
    push_cast []
    exact ⟨_, _, rfl, trivial, Int.emod_nonneg _ (by decide), Int.lt_of_lt_of_le (Int.emod_lt_of_pos _ (by decide)) (by decide)⟩
  · rintro ρ S ⟨sd, o, rfl, rfl, h0, h1⟩
    have hrev : ∀ ρ : DL.Env, c_rev true (c_var 1) (some (.scr (iD ns)) :: some (.lst (iD ns)) :: ρ) [] = .ok (.ref 0) [some (.lst (iD ns.reverse))] := fun ρ => by
      show p_lst true (iD ns).reverse [] = _
      rw [lst_t (by rw [List.length_reverse, List.length_map]; omega), iD, iD, List.map_reverse]
      rfl
    have hd : ∀ S : Sto, p_dispK true [(.str "items", .ref 0), (.str "seed", .int sd), (.str "draws", .int 0)] S = .ok (.ref S.length) (S ++ [some (.dK [(.inr "items", .ref 0), (.inr "seed", .int sd), (.inr "draws", .int 0)])]) := fun S => rfl
    push_cast [hrev, hd]
    unfold fin
    rw [if_neg (by simp), if_neg (fun h => by simp [refsLt] at h)]
    exact ⟨rfl, [], ns.reverse, sd, 0, rfl, by simp; omega, h0, h1, by omega, by omega⟩
theorem draw_wp {j : Nat} {b : Int} (h : SkE j S) (hn : j < 2 ^ 20) (hb : 0 < b) (hb2 : b < 2 ^ 150) : wp (mp__law_draw G [.ref 1, .int b] S) fun d S' => ∃ v : Int, d = .int v ∧ 0 ≤ v ∧ v < b ∧ SkE (j + 1) S' ∧ Sm S S' := by
  obtain ⟨T, its, seed, cnt, rfl, hi, s0, s1, c0, c1⟩ := h
  rw [mp__law_draw, ev_a2, m__law_draw, fnR_eq]
  show wp (ret (sk its seed cnt T) (c__law_draw G [some (.ref 1), some (.int b), none, none, none] (sk its seed cnt T))) _
  unfold c__law_draw
  generalize hc : cnt + 1 = c
  have hcc : 0 ≤ 92821 * c ∧ 92821 * c < 2 ^ 40 := by omega
  have hcc2 : 0 ≤ 92821 * c * c ∧ 92821 * c * c ≤ 2 ^ 40 * 2 ^ 22 := ⟨Int.mul_nonneg (by omega) (by omega), Int.mul_le_mul (by omega) (by omega) (by omega) (by omega)⟩
  rcases List.eq_nil_or_concat its with rfl | ⟨l, x, e⟩
  · push_cast [sk_draws, hc, sk_put, sk_items, p_lst_f, sk_ne, List.isEmpty_nil, sk_seed]
    refine wp_fin_len rfl ⟨_, rfl, Int.emod_nonneg _ (by omega), Int.emod_lt_of_pos _ hb, ⟨T, [], seed, c, rfl, hi, s0, s1, by omega, by omega⟩, sk_sm⟩
  · rw [List.concat_eq_append] at e
    subst e
    have hl : l.length ≤ 62 := by simp at hi; omega
    have hne : (l ++ [x]).isEmpty = false := by simp
    have hdv : ∀ S : Sto, p_fdiv (.int x) (.int b) S = .ok (.int (x / b)) S := fun S => v_fdivL hb (by omega)
    by_cases hx : 1000000000000000000 ≤ x
    · push_cast [sk_draws, hc, sk_put, sk_items, p_lst_f, sk_ne, hne, sk_isL, sk_pop, pow18, hx, hdv, sk_seed, sk_app (its := l) (T := T) (seed := seed) (cnt := c) (x := x / b) (by omega)]
      refine wp_fin_len rfl ⟨_, rfl, Int.emod_nonneg _ (by omega), Int.emod_lt_of_pos _ hb, ⟨T, l ++ [x / b], seed, c, rfl, by simp; omega, s0, s1, by omega, by omega⟩, sk_sm⟩
    · push_cast [sk_draws, hc, sk_put, sk_items, p_lst_f, sk_ne, hne, sk_isL, sk_pop, pow18, hx, sk_seed]
      refine wp_fin_len rfl ⟨_, rfl, Int.emod_nonneg _ (by omega), Int.emod_lt_of_pos _ hb, ⟨T, l, seed, c, rfl, by omega, s0, s1, by omega, by omega⟩, sk_sm⟩
theorem pick_wp {α : Type} {j : Nat} {l : List α} {f : α → D} (h : SkE j S) (hn : j < 2 ^ 20) (h0 : l ≠ []) (h1 : l.length ≤ 1000000) : wp (mp__law_pick G [.ref 1, .lst (l.map f)] S) fun d S' => ∃ x, d = f x ∧ x ∈ l ∧ SkE (j + 1) S' ∧ Sm S S' := by
  rw [mp__law_pick, ev_a2, m__law_pick, fnR_eq]
  show wp (ret S (c__law_pick G [some (.ref 1), some (.lst (l.map f))] S)) _
  unfold c__law_pick
  have hp := List.length_pos_iff.mpr h0
  push_cast []
  refine wp_of (draw_wp h hn (by rw [List.length_map]; omega) (by rw [List.length_map]; omega)) ?_
  rintro _ S' ⟨v, rfl, v0, v1, h', hs⟩
  rw [List.length_map] at v1
  have hv : v.toNat < l.length := by omega
  push_cast [ix_lst (S := S') (ds := l.map f) v0 (by rw [List.getElem?_map, List.getElem?_eq_getElem hv]; rfl)]
  exact wp_fin_len hs.1 ⟨l[v.toNat], rfl, List.getElem_mem _, h', hs⟩
end
end K02
namespace PM
def Prm (q : Nat) : Prop := 2 ≤ q ∧ ∀ d, d ∣ q → d = 1 ∨ d = q
theorem Prm.mul {q a b : Nat} (h : Prm q) (hd : q ∣ a * b) : q ∣ a ∨ q ∣ b := by
  rcases h.2 _ (Nat.gcd_dvd_left q a) with hg | hg
  · exact .inr (Nat.Coprime.dvd_of_dvd_mul_left hg hd)
  · refine .inl ?_
    have := Nat.gcd_dvd_right q a
    rwa [hg] at this
theorem Prm.pow {q a : Nat} (h : Prm q) : ∀ {k : Nat}, q ∣ a ^ k → q ∣ a
  | 0, hd => absurd (Nat.le_of_dvd (by simp) hd) (by have := h.1; simp; omega)
  | k + 1, hd => by
    rw [Nat.pow_succ] at hd
    exact (h.mul hd).elim (fun h1 => h.pow h1) id
theorem exists_prm : ∀ (n : Nat), 2 ≤ n → ∃ q, Prm q ∧ q ∣ n := by
  intro n
  induction n using Nat.strongRecOn with
  | _ n ih =>
    intro hn
    by_cases h : Prm n
    · exact ⟨n, h, Nat.dvd_refl n⟩
    · have : ∃ d, d ∣ n ∧ d ≠ 1 ∧ d ≠ n := by
        apply Classical.byContradiction
        intro hc
        refine h ⟨hn, fun d hd => ?_⟩
        apply Classical.byContradiction
        intro hx
        exact hc ⟨d, hd, fun e => hx (.inl e), fun e => hx (.inr e)⟩
      obtain ⟨d, hd, h1, h2⟩ := this
      have hle := Nat.le_of_dvd (by omega) hd
      have h0 : d ≠ 0 := fun e => by
        subst e
        have := Nat.eq_zero_of_zero_dvd hd
        omega
      obtain ⟨q, hq, hqd⟩ := ih d (by omega) (by omega)
      exact ⟨q, hq, Nat.dvd_trans hqd hd⟩
theorem Prm.eq {q r : Nat} (h : Prm q) (hr : Prm r) (hd : r ∣ q) : r = q := by
  rcases h.2 r hd with h1 | h1
  · have := hr.1
    omega
  · exact h1
theorem prm_of {r b : Nat} (h2 : 2 ≤ r) (hb : r < b * b) (h : ∀ s, Prm s → s < b → s ∣ r → s = r) : Prm r := by
  refine ⟨h2, fun d hd => ?_⟩
  apply Classical.byContradiction
  intro hc
  have hd1 : d ≠ 1 := fun e => hc (.inl e)
  have hdr : d ≠ r := fun e => hc (.inr e)
  obtain ⟨e, he⟩ := hd
  have d0 : d ≠ 0 := fun z => by subst z; simp at he; omega
  have e0 : e ≠ 0 := fun z => by subst z; simp at he; omega
  have e1 : e ≠ 1 := fun z => by subst z; simp at he; omega
  have key : ∀ x y : Nat, r = x * y → 2 ≤ x → 2 ≤ y → x < b → False := fun x y hxy hx hy hxb => by
    obtain ⟨s, hs, hsx⟩ := exists_prm x hx
    have hsl := Nat.le_of_dvd (by omega) hsx
    have := h s hs (by omega) (Nat.dvd_trans hsx ⟨y, hxy⟩)
    have hlt : x * 1 < x * y := Nat.mul_lt_mul_of_pos_left (by omega) (by omega)
    omega
  by_cases hdb : d < b
  · exact key d e he (by omega) (by omega) hdb
  · refine key e d (by rw [he, Nat.mul_comm]) (by omega) (by omega) ?_
    apply Classical.byContradiction
    intro hc2
    have := Nat.mul_le_mul (show b ≤ d by omega) (show b ≤ e by omega)
    omega
def prd : List Nat → Nat
  | [] => 1
  | x :: l => x * prd l
theorem prd_perm {l m : List Nat} (h : l.Perm m) : prd l = prd m := by
  induction h with
  | nil => rfl
  | cons x _ ih => show x * _ = x * _; rw [ih]
  | swap x y l => show y * (x * prd l) = x * (y * prd l); rw [← Nat.mul_assoc, ← Nat.mul_assoc, Nat.mul_comm y x]
  | trans _ _ h1 h2 => rw [h1, h2]
theorem Prm.prd {q : Nat} (h : Prm q) : ∀ {l : List Nat}, q ∣ prd l → ∃ x ∈ l, q ∣ x
  | [], hd => absurd (Nat.le_of_dvd (by decide) hd) (by have := h.1; show ¬ q ≤ 1; omega)
  | x :: l, hd => by
    rcases h.mul hd with h1 | h1
    · exact ⟨x, List.mem_cons_self .., h1⟩
    · obtain ⟨y, hy, hq⟩ := h.prd h1
      exact ⟨y, List.mem_cons_of_mem _ hy, hq⟩
theorem sub_perm {α : Type} [DecidableEq α] : ∀ {l m : List α}, l.Nodup → (∀ x ∈ l, x ∈ m) → m.length ≤ l.length → l.Perm m
  | [], m, _, _, hl => by
    have : m = [] := List.length_eq_zero_iff.mp (by simpa using hl)
    rw [this]
  | x :: l, m, hn, hs, hl => by
    rw [List.nodup_cons] at hn
    have hx := hs x (List.mem_cons_self ..)
    have hp := List.perm_cons_erase hx
    refine (List.Perm.cons x (sub_perm hn.2 (fun y hy => ?_) ?_)).trans hp.symm
    · exact (List.mem_erase_of_ne (show y ≠ x from fun e => hn.1 (e ▸ hy))).mpr (hs y (List.mem_cons_of_mem _ hy))
    · have := hp.length_eq
      rw [List.length_cons] at this hl
      omega
theorem mod_prd {q a : Nat} : ∀ l : List Nat, prd (l.map fun x => a * x % q) % q = a ^ l.length * prd l % q
  | [] => by simp [prd]
  | x :: l => by
    show (a * x % q) * prd (l.map fun x => a * x % q) % q = a ^ (l.length + 1) * (x * prd l) % q
    rw [Nat.mul_mod, mod_prd l, Nat.mod_mod, ← Nat.mul_mod, Nat.pow_succ]
    congr 1
    rw [Nat.mul_assoc (a ^ l.length), Nat.mul_comm (a ^ l.length) (a * (x * prd l)), Nat.mul_comm (a ^ l.length) (prd l), ← Nat.mul_assoc (a * x), ← Nat.mul_assoc a x]
theorem dvd_of_mod_eq {q a b : Nat} (h : a % q = b % q) (hle : b ≤ a) : q ∣ a - b := Nat.dvd_of_mod_eq_zero (Nat.sub_mod_eq_zero_of_mod_eq h)
theorem cancel {q c a b : Nat} (h : Prm q) (hc : ¬ q ∣ c) (he : c * a % q = c * b % q) : a % q = b % q := by
  have key : ∀ a b : Nat, b ≤ a → c * a % q = c * b % q → a % q = b % q := fun a b hle he => by
    have hd := dvd_of_mod_eq he (Nat.mul_le_mul_left c hle)
    rw [← Nat.mul_sub] at hd
    rcases h.mul hd with h1 | h1
    · exact absurd h1 hc
    · obtain ⟨t, ht⟩ := h1
      have : a = b + q * t := by omega
      rw [this, Nat.add_mul_mod_self_left]
  rcases Nat.le_total b a with hle | hle
  · exact key a b hle he
  · exact (key b a hle he.symm).symm
theorem flt {q a : Nat} (h : Prm q) (ha : ¬ q ∣ a) : a ^ (q - 1) % q = 1 := by
  have hq := h.1
  have hperm : ((List.range' 1 (q - 1)).map fun x => a * x % q).Perm (List.range' 1 (q - 1)) := by
    refine sub_perm ?_ (fun y hy => ?_) (by rw [List.length_map]; exact Nat.le_refl _)
    · rw [List.Nodup, List.pairwise_map]
      refine (List.nodup_range' (s := 1) (n := q - 1)).imp_of_mem fun {x y} hx hy hne e => hne ?_
      have hx := List.mem_range'_1.mp hx
      have hy := List.mem_range'_1.mp hy
      have := cancel h ha e
      rwa [Nat.mod_eq_of_lt (by omega), Nat.mod_eq_of_lt (by omega)] at this
    · obtain ⟨x, hx, rfl⟩ := List.mem_map.mp hy
      have hx := List.mem_range'_1.mp hx
      have h1 := Nat.mod_lt (a * x) (show 0 < q by omega)
      have h2 : a * x % q ≠ 0 := fun e => by
        rcases h.mul (Nat.dvd_of_mod_eq_zero e) with h3 | h3
        · exact ha h3
        · have := Nat.le_of_dvd (by omega) h3
          omega
      exact List.mem_range'_1.mpr ⟨by omega, by omega⟩
  have e1 := mod_prd (q := q) (a := a) (List.range' 1 (q - 1))
  rw [prd_perm hperm, List.length_range'] at e1
  have hF : ¬ q ∣ prd (List.range' 1 (q - 1)) := fun hd => by
    obtain ⟨x, hx, hqx⟩ := h.prd hd
    have hx := List.mem_range'_1.mp hx
    have := Nat.le_of_dvd (by omega) hqx
    omega
  have e2 : prd (List.range' 1 (q - 1)) * a ^ (q - 1) % q = prd (List.range' 1 (q - 1)) * 1 % q := by
    rw [Nat.mul_one, e1, Nat.mul_comm]
  have := cancel h hF e2
  rwa [Nat.mod_eq_of_lt (show 1 < q by omega)] at this
theorem pow_one_mul {q a e : Nat} (hq : 1 < q) (h : a ^ e % q = 1) (k : Nat) : a ^ (e * k) % q = 1 := by
  rw [Nat.pow_mul, Nat.pow_mod, h, Nat.one_pow, Nat.mod_eq_of_lt hq]
theorem pow_mod_e {q a L : Nat} (hq : 1 < q) (h : a ^ L % q = 1) (e : Nat) : a ^ e % q = a ^ (e % L) % q := by
  have e1 : a ^ e = a ^ (L * (e / L)) * a ^ (e % L) := by rw [← Nat.pow_add, Nat.div_add_mod]
  rw [e1, Nat.mul_mod, pow_one_mul hq h, Nat.one_mul, Nat.mod_mod]
theorem pow_gcd {q a : Nat} (hq : 1 < q) : ∀ (e L : Nat), a ^ e % q = 1 → a ^ L % q = 1 → a ^ (Nat.gcd e L) % q = 1 := by
  intro e L
  induction e, L using Nat.gcd.induction with
  | H0 L => intro _ h; rwa [Nat.gcd_zero_left]
  | H1 e L he ih =>
    intro h1 h2
    rw [Nat.gcd_rec]
    exact ih ((pow_mod_e hq h1 L).symm.trans h2) h1
theorem prd_split {c : Nat} (hc : c ≠ 1) : ∀ {l : List Nat}, (∀ r ∈ l, Prm r) → c ∣ prd l → ∃ r ∈ l, r ∣ c
  | [], _, hd => absurd (Nat.dvd_one.mp hd) hc
  | r :: l, hr, hd => by
    have hp := hr r (List.mem_cons_self ..)
    by_cases h : r ∣ c
    · exact ⟨r, List.mem_cons_self .., h⟩
    · have hg : Nat.Coprime c r := by
        rcases hp.2 _ (Nat.gcd_dvd_right c r) with h1 | h1
        · exact h1
        · exact absurd (h1 ▸ Nat.gcd_dvd_left c r) h
      obtain ⟨s, hs, hsc⟩ := prd_split hc (l := l) (fun x hx => hr x (List.mem_cons_of_mem _ hx)) (Nat.Coprime.dvd_of_dvd_mul_left hg hd)
      exact ⟨s, List.mem_cons_of_mem _ hs, hsc⟩
def bases : List Nat := [2, 3, 5, 7]
structure OrdOk (q L : Nat) (rs : List Nat) : Prop where
  one : ∀ a ∈ bases, a ^ L % q = 1
  prm : ∀ r ∈ rs, Prm r
  eq : prd rs = L
  no : ∀ r ∈ rs, ∃ a ∈ bases, a ^ (L / r) % q ≠ 1
theorem OrdOk.dvd {q L : Nat} {rs : List Nat} (hq : 1 < q) (h : OrdOk q L rs) (hL : 0 < L) {e : Nat} (he : ∀ a ∈ bases, a ^ e % q = 1) : L ∣ e := by
  have hgL := Nat.gcd_dvd_right e L
  by_cases hg : Nat.gcd e L = L
  · rw [← hg]
    exact Nat.gcd_dvd_left e L
  · exfalso
    obtain ⟨c, hc⟩ := hgL
    have hc1 : c ≠ 1 := fun z => by
      rw [z, Nat.mul_one] at hc
      exact hg hc.symm
    obtain ⟨r, hr, hrc⟩ := prd_split hc1 h.prm (by rw [h.eq]; exact ⟨Nat.gcd e L, by rw [Nat.mul_comm]; exact hc⟩)
    obtain ⟨a, ha, hna⟩ := h.no r hr
    obtain ⟨t, ht⟩ := hrc
    have hr0 := (h.prm r hr).1
    have e1 : L / r = Nat.gcd e L * t := by
      have e2 : L = r * (Nat.gcd e L * t) := by
        rw [← Nat.mul_assoc, Nat.mul_comm r, Nat.mul_assoc, ← ht]
        exact hc
      have : r * (Nat.gcd e L * t) / r = Nat.gcd e L * t := Nat.mul_div_cancel_left _ (by omega)
      rw [← e2] at this
      exact this
    exact hna (by rw [e1]; exact pow_one_mul hq (pow_gcd hq e L (he a ha) (h.one a ha)) t)
noncomputable def frcN {α : Type} (x : Nat) (k : Nat → α) : α := Nat.rec (k 0) (fun m _ => k (Nat.succ m)) x
theorem frcN_eq {α : Type} (x : Nat) (k : Nat → α) : frcN x k = k x := by
  cases x <;> rfl
def lim : Nat := 1000000000
noncomputable def pw (b n : Nat) (f : Nat) : Nat → Nat := Nat.rec (fun _ => 1) (fun _ ih e => Nat.mod (Nat.mul (Nat.pow (ih (Nat.div e 64)) 64) (Nat.pow b (Nat.mod e 64))) n) f
noncomputable def allB (k : Nat) (f : Nat → Bool) : Bool := Nat.rec true (fun i ih => Bool.rec false ih (f i)) k
noncomputable def stp (n b : Nat) : Nat → Nat → Bool
  | 0, _ => true
  | f + 1, e => frcN (pw b n 5 e) fun w => bif Nat.beq (Nat.succ w) n then true else bif Nat.beq w 1 then (bif Nat.beq (Nat.mod e 2) 0 then frcN (Nat.div e 2) fun e' => stp n b f e' else true) else false
noncomputable def tst (n : Nat) : Bool := frcN n fun n => frcN (Nat.pred n) fun e => !(stp n 2 30 e && (stp n 3 30 e && (stp n 5 30 e && stp n 7 30 e)))
def FF : Nat := 166589903787325219380851695350896256250980509594874862046961683989710
def rowP (i : Nat) : Nat → Nat
  | 0 => 1
  | j + 1 => (bif Nat.beq (Nat.gcd (178 * i + j) FF) 1 then 178 * i + j else 1) * rowP i j
def colP : Nat → Nat
  | 0 => FF / 210
  | i + 1 => rowP i 178 * colP i
def PP : Nat := 20611138794552978736244973217978198466429595882047597109673552723157088097508869288030007140080731607055791206136404847003450318176665039381926716187882577525777863266139063758766205373622894280125774411781671691668218266650574973295967729990104378343373016819806601933709337906925812404998449262166607197942686568462866547181081957867263329984267623456225751479795389022886121482293627298324508840827684053100692936319890849426206603783694197197658744973886722304729090122415536736956259447904252994370278389594600799711993468752289814428062085654880294013460258542037550581962675097222008223770895806532418329620723317683265718547754609488560607832989684711048618351372559901778277650133010346129032868780630527731643485407994189286919138450571930018757166835092122996129171462048878666231098870198828953775992473203654331238040895230311482129580249200859856002253136499233537879889841557687959387448688413548091746229975806422769009852605729457733921111005290173322451528548293369189162262778625945945251847488873962626670608455060204168652033520848305263338500984323530035703726303994255436604495536311806923296224075424464453696612939996025651402172153137834763529442372575122140167863490447185732952046225171912189204588801266280667190645964695587945160903144368600383612190896122465039114063674467235124667442761954388073513952438693991410772778156934797944900176698613056826983336687016693358557944379980493102073444016438468106021435286348824485153741805435216517298539407423570421635639781247081494152306789972080529373962381089190549760777858434468468172624144874846520758513313788188082622457610568684959088848117990083497243521438330494425150255684052929164454574702863760851127619373971111774718127003893958987839477965287323319250371941325387034255395559738935155512745351791592995219481138675952432386255445080618300337980858383498878490925648725130553738964629967776360544697153489987950521848398645554732783362557374427755051449524560044473912438328610342150869344728276494282297228862325077070803916271895966174414277363560408231618797188991261223067642247502510591244580573594308924434446257863596828236613964048280837669564546168819807798526572702164109768423121849757257256882344732629311527207441978549621729526745924205685696468686295287363292631862907844853342246313026232163480143279798518607157532944802939326528688433588186637848680576605219967599651843060189527509916441349466518193041235622005560913986705774991679366384155236287707953724245062881855351239789206769829786514385593180769381691254575262924501000066606062463382273702218916101437437557112842595543344446696706428230790525703839086551454639980686866076569475349308679409557984782612819909292368636330918460678122841540075298707287394762844772094731201352783587064485041950429568597780894534908595456670740964224567460319319429955010115061140390180214723628171307827717589998064401727197512514765436770721815205242908878063788681515306398557065274899868574734823553068372319404764090236525030173865378231172257799969319171476959108509272683093885271895573370907205476877908451192182703333230439844655842291856169845224806833839535749642406963368382526138210687021999819654580373981706192860997245546544410502330051562476034033583161031896026492174773483824851958606273659632938040971126998979585468917566405137268733114685897848189618635972620060094677534620079542100799101652617618120083743356812686944436949436870915741971354669924194574100357885283963049570238096631313012494955719399873796312453615326324311330998245631929534358467169048470012020573180086991743154002081825227370418403712059161314932763281295665059301280307237828378515783268181041025823715407239582757325105586685571573218471834303306756348143250107903174385904722151633368094459959428726253739353376323562737751378739209909301585955347033919601679330268444016317444921748644031214211911039228119297149032220346435127252421521401665808153582030697177259329286207252493597924607812648208154067125563707592336561486947664725308472740493376941772275334019345813436865641310013750247622259315871258495476329437373212636106638668006325928975329278552717925356171686999758983620442299937937511000996198283627089855196693988073097845221449603572281976766701645622286657633721759098580601776006303043210430570551692130058582240324000863376464149247814677981368911453365465021445246063514761736800076106865506868637392726591853407218180746279124393547178596814489914302271246297163795217010337311878380752388997058156583359998300109401128469908235258782456338303953916082374216656749676096724627263175407171144364891677539894031255330319294607845817449747399770283800913522372696771346463086829665282610767108446289902440852772063204550754865901016350776873205232354095767758401030878291614245717511479722871751058214565739664742608316529402031768092497313133990163302864412410410601030829538606033023665993567435060592846759752642299220546287482106222416924528756132532397283487139510620465344970923944624619604478485380857260308396803089234957147464949132626166154251241637825252976375188639087234445948511854828463387487322610362824319668930523735060245335992251833456074767650075311488210180920254475062945652329149521536289864106432371586952077147470136739519768639457916302198387885759764831336259250330441617479158224890068543679367204127589412712241394458367723777005357333862604652210725774492222045589097583229287823053415164699686926775080568217347883161256543167255163623561275037933490640483474954378897996047035417516351693533921830545906218020859098148071890148385567999702364575858155435247738432683723289356884890179401550124723650662708401280239720545354444623778106321617852677281847769223831738445095154320823902632963896668240517542213901141992442818335622650799079289449414114485692896315741565175762726501010710011045655637692537239909671910990664532593112462509017645573017828777500740803615030613841298008644191109813737403646284788517227390843547588967279962862222923733605941377246995494908945271492100518546914818401973735185170197571801684084753111797460649544131434010573062901718712241806928620882761937145536581656521805573536005451635272115166960670500629026076964639880922467281471341931392946176644888001109278828484038644877825988998418597564699109358923308530345840386274642772863911893055423678121556490958257447432865841696816181792941715583893330808974300626007130294899958740616063478207949993414495078441150412575546367188399461976053547726201703679027610499512886013928048237220641051957880761232369819511366378248629089726957935336184605252457242558724532920041060492471829880140648974343558121481152635518909962536482593983138456125371636963467750891665034324195830221832217249707347813678073694733344851764087130484739759518205525687926861282380637215666120025274411161182749874759328886569404964188316185932403574790444873999568575848118960728487157894510498170624864596783652287381742343676073347034982605070571043051108485419802921294694748569026716618413298309829497618963051473585374478350633252255541107057767139099264853412852504309952903650762251836881708847930066999313024541205776426573597702002945279374209886467433825291735072461843088168576952849991702072513154185553734137215543810972241304544071024489061288353109670957657966988945567345078101614870620161329762459293821162793274180714823959075449010092374593606109719048943376072280983661211233679419908851380653037137139952357587344103837128740715149020523847884566328369282549212494324940004229377142115114341249282007560388366284136549342217925591324272129646725479159522800961987864541495226551326386243898741933111808100575588829568182145046673748728337992233847299884752036506961448908966822549997175912393993495271968602128022727813136776450455350771121253233304338114462279636700155616647756372736897945493488923377386571123158725632936862730893788732289232188570096032542058443829646612907283164729423348652977021070435146656922656164488866025692925153968702323058635128873740619920029697807749318288555233561915954477438059150422920140081093499909805541605394245073246384683954188991011982400217180089179458327683400137086428511870037486154114588308556534343998227872589053719410704433529797245403255225976115247570113874652134976339233271186240104641209630328773902279209794402815507995947099433115665962057608180530213625734572397798363338376198582708503968454846171074038930507470707187851155942970824554396054235179353245463648745866614663657523534594071059569124656790631344959942304156407386378000729491077164876461883525665115076803638548751359096077776828020263636140313750027648490767368358455071474197361725472862420890181031177712956265236580161344859638638780847432670610284673539077449677282089076065317941413280554806387935796397345365563776692881158652565767127624147316824939245556816651366669489455666998197268957261342280335977699818239658304105640102464116635909049167620291839991369176252884458495919734357759763075406040488087830615863534204566820327985422879620031681044512372577366614772743829043865942066091712640458349121313259788463967491461156559130367504859161116074743449863664874264459289638986969804080921144738496878036329801094529150581708084437564286260734155612356997212298463427222048479987320421684165599630411463947008837607849236045423497850138843479879458838010879951023434545205913339593571105073555385114734163973275531174662109627714954641583317834800024530178504201565066062377290057464695730588581876649964909124844838875450643995865060401374366456996964777924796772522299574039933956064851318572430487931024976555747271960056758931910901531307770164448911419611228809076649601574432025321706620448716896998765490494684067316764209221730575884142510166961561121074430345454061010197783029102020135687453632490656942570669816068397948877663460474729281393503598676079332474105535884566605916379945861276288007052477832889616164574006855725650523453987646020876035027405100002779638725310736512817785450883050229631730409303028238949134096612021789635714837146209236665197425436687578669229091121333217028578681585753580346829251512959564658435377919726202447249392801323075375903473752351382809761484422881990025714996692624983112276313080195613858996390344341091741982693097906198718931501488988403286618734376802054021033464753876843097260281038624665909886078961683465223494827636589361762104684319473407806799930757135974482065394060124865910516151128931709334670606593716232458968031552097695072697331319994167338066672466281212728414750396082937064935626970226297640393843416204315878465752473477408247555622639649867393389995981337325086771014031271971678936259784305160457228613171922423588112624060824916801316525880925511371142119087106904187269768706708812747055311004936063243450056186423880271917487268360322229035668020390421561173712424800782951964001900070323908407609894613710757488139292058090527517245312530874276520349699968483646246400826600130455920860080386051067619298350987884877615365866624315236644658570392042748097955897310975303627887989791237599639089400178808870275250357128219216692390052456893548299800446312123794576953277532630036067425597198818373999131252636788649951327761031948827368221492470574349318507064591235246618998739832745304223041023615333895969539133655549964699500573384376646715281093494657319214180728795122195068631004533242927384113853427123652408973426178095681377306877447000027255440219418694501993006989025484218120850632530943986060387665035417595052717474788214092072782102924268483982979380163222076413514600215616592386507645483938029727772555360334219948262236330831654764409174821101710474931786716799142353047061322047156688313498488170288878731867797399627058527449192501036885792802125231987116331583561434225249059028953781366445676007165923707598083099503940496983936671881707050158348984137442579342825974705962818542385828350613980147380896898865886634317181878094448139112878931148636760838525755726092197302800964200806792931112648479698737502106841800371314765336631604835961248889135725056266281020695843550531246271125076955454821502165126028374882446453800352567566800919406649498597119293877242839110734068201639558120280329820703148136460313690580634635210872454219662864378247235126426431293129237303274116050319691000924274838240460466004942352965443713899986781980221882461087934132615599091247425370819051914861752207400412658549592324663555456880310613616039195159107591143541630758627764752737156496326139200619649389800337779954307668071816800204503992737766376163944644022783263526318051270321920831106018451782047789415301120894554316473138473919968835912226465899664131036505625896028758914517786743545902603095496979917281833692641283837924000474015183073859867345386436844571710993473377385551297367031304959636113160575157611511818591293590336130806212050490846720327620309966837270650407966552254004405212453434404695320147008639791186968939575837755749325177751107993905403555354237632194209801419979099436697896285224815850151757051076709732296835330707231836546007303450931502421804755039801312698953482600689517486324323669911285458575424152840276897493953639930500387697582445559448313795697300017908251156951525504858100305157549661690014162851136523279345665750471065678416944346977462807494018349072555981329163161815981731712636960668634622386947447606978489665864545721484179010652074714368100194857542859712924110107019435990859482006747923977396294900237446180327839006717692038595847235148306846929297087745575009042054199880960725065956573367740865076448215785774314951739313580608200259469313540485694454504378063807210818440968310568112057497956927282469148121894852364434170623870640580781238852430001468145503709
theorem PP_eq : colP 178 = PP := by decide +kernel
def hts : List (Nat × List Nat) := [(8022, [32089]), (8970, [71761]), (11434, [34303]), (11504, [34513]), (12072, [36217]), (12502, [37507]), (12820, [38461]), (13066, [39199]), (13124, [39373]), (13530, [67651]), (13902, [55609]), (14412, [57649]), (14830, [44491]), (15884, [47653]), (16044, [32089]), (16334, [49003]), (16470, [65881]), (16524, [33049]), (16644, [33289]), (16740, [50221]), (16800, [33601]), (16860, [33721]), (16884, [33769]), (16944, [33889]), (16980, [33961]), (17064, [34129]), (17284, [51853]), (17302, [51907]), (17364, [34729]), (17640, [35281]), (17700, [35401]), (17724, [35449]), (17784, [35569]), (17904, [35809]), (17940, [71761]), (18120, [36241]), (18660, [37321]), (18744, [37489]), (18822, [75289]), (19164, [38329]), (19884, [39769]), (19920, [39841]), (20004, [40009]), (20304, [40609]), (20424, [40849]), (20580, [41161]), (20640, [41281]), (20760, [41521]), (21084, [42169]), (21304, [63913]), (21420, [42841]), (21426, [64279]), (21480, [42961]), (21600, [43201]), (21872, [65617]), (21900, [43801]), (21984, [43969]), (22020, [44041]), (22320, [44641]), (22404, [44809]), (22406, [67219]), (22680, [45361]), (22740, [45481]), (22868, [34303]), (23008, [34513]), (23244, [46489]), (23520, [47041]), (23580, [47161]), (23784, [47569]), (23796, [71389]), (23940, [47881]), (24024, [48049]), (24066, [32089]), (24144, [36217]), (24192, [96769]), (24204, [48409]), (24444, [48889]), (24504, [49009]), (24540, [49081]), (24702, [98809]), (24840, [49681]), (24960, [49921]), (25004, [37507]), (25192, [75577]), (25464, [50929]), (25610, [76831]), (25620, [51241]), (25640, [38461]), (25680, [51361]), (25766, [128831]), (25884, [51769]), (26040, [52081]), (26100, [52201]), (26124, [52249]), (26132, [39199]), (26184, [52369]), (26214, [78643]), (26248, [39373]), (26304, [52609]), (26544, [53089]), (26640, [53281]), (26910, [71761]), (26940, [53881]), (27024, [54049]), (27060, [54121, 67651]), (27284, [81853]), (27300, [54601]), (27360, [54721]), (27720, [55441]), (27804, [55609]), (28200, [56401]), (28284, [56569]), (28404, [56809]), (28620, [57241]), (28824, [57649]), (29064, [58129]), (29120, [145601]), (29160, [58321]), (29460, [58921]), (29660, [44491]), (29884, [89653]), (29904, [59809]), (29964, [59929]), (30084, [60169]), (30300, [60601]), (30324, [60649]), (30460, [91381]), (30720, [61441]), (30804, [61609]), (30840, [61681]), (30874, [92623])]
noncomputable def strip : Nat → Nat → Nat
  | 0, g => g
  | f + 1, g => frcN (Nat.gcd g PP) fun h => bif Nat.beq h 1 then g else frcN (g / h) fun g' => strip f g'
def hint (e : Nat) : List (Nat × List Nat) → List Nat
  | [] => []
  | (x, l) :: r => bif Nat.beq x e then l else hint e r
noncomputable def gA (e : Nat) : Nat := frcN (Nat.gcd (2 ^ e - 1) (3 ^ e - 1)) fun g => frcN (Nat.gcd g (5 ^ e - 1)) fun g => Nat.gcd g (7 ^ e - 1)
noncomputable def chkA (e : Nat) : Bool := frcN (gA e) fun g => frcN (strip 20 g) fun r => Nat.beq r 1 || (Nat.beq (prd (hint e hts)) r && (hint e hts).all fun q => Nat.blt q 190000 && (!Nat.beq (q % 2) 0 && (!Nat.beq (q % 3) 0 && (!Nat.beq (q % 5) 0 && (Nat.blt lim (q * (e + 1)) || tst (q * (e + 1)))))))
def sps : List Nat := [2, 3, 5, 7, 11, 13, 17, 19, 23, 29, 31, 37, 41, 43, 47, 53, 59, 61, 67, 71, 73, 79, 83, 89, 97, 101, 103, 107, 109, 113, 127, 131, 137, 139, 149, 151, 157, 163, 167, 173]
noncomputable def isP (q : Nat) : Bool := sps.all fun d => Nat.beq d q || !Nat.beq (Nat.mod q d) 0
noncomputable def facK (k : List Nat → Bool) : Nat → List Nat → Nat → List Nat → Bool
  | 0, _, _, _ => false
  | _ + 1, [], n, acc => bif Nat.beq n 1 then k acc else k (n :: acc)
  | f + 1, p :: ps, n, acc => bif Nat.beq (n % p) 0 then frcN (n / p) fun n' => facK k f (p :: ps) n' (p :: acc) else facK k f ps n acc
noncomputable def redK (q : Nat) (k : Nat → List Nat → Bool) : Nat → List Nat → List Nat → Bool
  | L, [], acc => k L acc
  | L, r :: l, acc => frcN (L / r) fun L' => bif bases.all (fun a => Nat.beq (pw a q 3 L') 1) then redK q k L' l acc else redK q k L l (r :: acc)
noncomputable def okO (q L : Nat) (rs : List Nat) : Bool := Nat.blt L 200000 && bases.all (fun a => Nat.beq (pw a q 3 L) 1) && (Nat.beq (prd rs) L && rs.all fun r => Nat.blt 1 r && (Nat.blt r 31684 && (isP r && bases.any fun a => !Nat.beq (pw a q 3 (Nat.div L r)) 1)))
noncomputable def ordK (q : Nat) (k : Nat → Bool) : Bool := facK (fun l => redK q (fun L rs => okO q L rs && k L) (q - 1) l []) 70 sps (q - 1) []
noncomputable def enB (q L : Nat) : Bool := frcN (Nat.div (Nat.div lim q) L) fun K => allB K fun i => tst (Nat.mul q (Nat.succ (Nat.mul (Nat.succ i) L)))
noncomputable def chkB (q : Nat) : Bool := bif isP q then ordK q (enB q) else true
def lcmF (a b : Nat) : Nat := Nat.div (Nat.mul a b) (Nat.gcd a b)
noncomputable def invF (L f : Nat) : Nat → Nat → Nat → Nat → Nat := Nat.rec (fun _ _ s _ => s) (fun _ ih r0 r1 s0 s1 => bif Nat.beq r1 0 then s0 else frcN (Nat.div r0 r1) fun t => frcN (Nat.mod r0 r1) fun r2 => frcN (Nat.mod (Nat.add s0 (Nat.sub L (Nat.mod (Nat.mul t s1) L))) L) fun s2 => ih r1 r2 s1 s2) f
noncomputable def enC (d L : Nat) : Bool := frcN (invF L 60 (Nat.mod d L) L 1 0) fun u => (Nat.blt u L && Nat.beq (Nat.mod (Nat.mul d u) L) 1) && frcN (Nat.succ (Nat.div (Nat.div lim d) L)) fun K => allB K fun i => frcN (Nat.mul d (Nat.add u (Nat.mul i L))) fun n => Nat.blt lim n || tst n
def tails : List (Nat × Nat) → (Nat → Nat → List (Nat × Nat) → Bool) → Bool
  | [], _ => true
  | (p, L) :: r, f => f p L ((p, L) :: r) && tails r f
noncomputable def node : Nat → List (Nat × Nat) → Nat → Nat → Bool
  | 0, _, _, _ => false
  | f + 1, l, d, L => bif Nat.blt (Nat.div (Nat.div lim d) L) 150 then enC d L else tst d && tails l fun p Lp l' => frcN (Nat.mul d p) fun d' => bif Nat.blt lim d' then true else frcN (lcmF L Lp) fun L' => bif Nat.beq (Nat.gcd d' L') 1 then node f l' d' L' else true
noncomputable def top (q L : Nat) (l : List (Nat × Nat)) : Bool := bif Nat.blt (Nat.div (Nat.div lim q) L) 500 then enB q L else tails l fun p Lp l' => frcN (Nat.mul q p) fun d' => bif Nat.blt lim d' then true else frcN (lcmF L Lp) fun L' => bif Nat.beq (Nat.gcd d' L') 1 then node 9 l' d' L' else true
def tab : List (Nat × Nat) := [(2221, 2220), (2213, 2212), (2207, 2206), (2203, 2202), (2179, 2178), (2161, 2160), (2153, 2152), (2143, 2142), (2141, 2140), (2137, 2136), (2131, 2130), (2129, 2128), (2113, 2112), (2111, 2110), (2099, 2098), (2089, 2088), (2087, 2086), (2083, 2082), (2081, 2080), (2069, 2068), (2063, 2062), (2053, 2052), (2039, 2038), (2029, 2028), (2027, 2026), (2017, 2016), (2011, 2010), (2003, 2002), (1999, 1998), (1997, 1996), (1993, 1992), (1987, 1986), (1979, 1978), (1973, 1972), (1951, 1950), (1949, 1948), (1933, 1932), (1931, 1930), (1913, 1912), (1907, 1906), (1901, 1900), (1889, 1888), (1879, 1878), (1877, 1876), (1873, 1872), (1871, 1870), (1867, 1866), (1861, 1860), (1847, 1846), (1831, 1830), (1823, 1822), (1811, 1810), (1801, 900), (1789, 1788), (1787, 1786), (1783, 1782), (1777, 1776), (1759, 1758), (1753, 1752), (1747, 1746), (1741, 1740), (1733, 1732), (1723, 1722), (1721, 1720), (1709, 1708), (1699, 1698), (1697, 1696), (1693, 1692), (1669, 1668), (1667, 1666), (1663, 1662), (1657, 1656), (1637, 1636), (1627, 1626), (1621, 1620), (1619, 1618), (1613, 1612), (1609, 1608), (1607, 1606), (1601, 1600), (1597, 1596), (1583, 1582), (1579, 1578), (1571, 1570), (1567, 1566), (1559, 779), (1553, 1552), (1549, 1548), (1543, 1542), (1531, 1530), (1523, 1522), (1511, 755), (1499, 1498), (1493, 1492), (1489, 1488), (1487, 1486), (1483, 1482), (1481, 1480), (1471, 1470), (1459, 1458), (1453, 1452), (1451, 1450), (1447, 1446), (1439, 1438), (1433, 1432), (1429, 1428), (1427, 1426), (1423, 1422), (1409, 1408), (1399, 1398), (1381, 1380), (1373, 1372), (1367, 1366), (1361, 1360), (1327, 1326), (1321, 1320), (1319, 659), (1307, 1306), (1303, 1302), (1301, 1300), (1297, 1296), (1291, 1290), (1289, 1288), (1283, 1282), (1279, 1278), (1277, 1276), (1259, 1258), (1249, 1248), (1237, 1236), (1231, 1230), (1229, 1228), (1223, 1222), (1217, 1216), (1213, 1212), (1201, 600), (1193, 1192), (1187, 1186), (1181, 1180), (1171, 1170), (1163, 1162), (1153, 1152), (1151, 575), (1129, 564), (1123, 1122), (1117, 1116), (1109, 1108), (1103, 1102), (1097, 1096), (1093, 1092), (1091, 1090), (1087, 1086), (1069, 1068), (1063, 1062), (1061, 1060), (1051, 1050), (1049, 1048), (1039, 1038), (1033, 1032), (1031, 1030), (1021, 1020), (1019, 1018), (1013, 1012), (1009, 504), (997, 996), (991, 990), (983, 982), (977, 976), (971, 970), (967, 966), (953, 952), (947, 946), (941, 940), (937, 936), (929, 928), (919, 918), (911, 910), (907, 906), (887, 886), (883, 882), (881, 880), (877, 876), (863, 862), (859, 858), (857, 856), (853, 852), (839, 419), (829, 828), (827, 826), (823, 822), (821, 820), (811, 810), (809, 808), (797, 796), (787, 786), (773, 772), (769, 768), (761, 760), (757, 756), (751, 750), (743, 742), (739, 738), (733, 732), (727, 726), (719, 359), (709, 708), (701, 700), (691, 690), (683, 682), (677, 676), (673, 672), (661, 660), (659, 658), (653, 652), (647, 646), (643, 642), (641, 640), (631, 630), (619, 618), (617, 616), (613, 612), (607, 606), (601, 600), (599, 598), (593, 592), (587, 586), (577, 576), (571, 570), (569, 568), (563, 562), (557, 556), (547, 546), (541, 540), (523, 522), (521, 520), (509, 508), (503, 502), (499, 498), (491, 490), (487, 486), (479, 239), (467, 466), (463, 462), (461, 460), (457, 456), (449, 448), (443, 442), (439, 438), (433, 432), (431, 430), (421, 420), (419, 418), (409, 408), (401, 400), (397, 396), (389, 388), (383, 382), (379, 378), (373, 372), (367, 366), (359, 358), (353, 352), (349, 348), (347, 346), (337, 336), (331, 330), (317, 316), (313, 312), (311, 155), (307, 306), (293, 292), (283, 282), (281, 280), (277, 276), (271, 270), (269, 268), (263, 262), (257, 256), (251, 250), (241, 240), (239, 238), (233, 232), (229, 228), (227, 226), (223, 222), (211, 210), (199, 198), (197, 196), (193, 192), (191, 190), (181, 180), (179, 178), (173, 172), (167, 166), (163, 162), (157, 156), (151, 150), (149, 148), (139, 138), (137, 136), (131, 130), (127, 126), (113, 112), (109, 108), (107, 106), (103, 102), (101, 100), (97, 96), (89, 88), (83, 82), (79, 78), (73, 72), (71, 70), (67, 66), (61, 60), (59, 58), (53, 52), (47, 46), (43, 42), (41, 40), (37, 36), (31, 30), (29, 28), (23, 22), (19, 18), (17, 16), (13, 12), (11, 10)]
theorem pw_succ {b n f e : Nat} : pw b n (f + 1) e = (pw b n f (e / 64)) ^ 64 * b ^ (e % 64) % n := rfl
theorem pw_eq {b n : Nat} (hn : 1 < n) : ∀ {f e : Nat}, e < 64 ^ f → pw b n f e = b ^ e % n
  | 0, e, h => by
    have : e = 0 := by simpa using h
    subst this
    show 1 = 1 % n
    rw [Nat.mod_eq_of_lt hn]
  | f + 1, e, h => by
    rw [pw_succ, pw_eq hn (f := f) (by rw [Nat.pow_succ] at h; omega)]
    have e1 : b ^ e = (b ^ (e / 64)) ^ 64 * b ^ (e % 64) := by
      rw [← Nat.pow_mul, ← Nat.pow_add]
      congr 1
      omega
    rw [e1, Nat.mul_mod, ← Nat.pow_mod, ← Nat.mul_mod]
theorem allB_at {f : Nat → Bool} : ∀ {k : Nat}, allB k f = true → ∀ i, i < k → f i = true
  | 0, _, i, h => absurd h (Nat.not_lt_zero _)
  | k + 1, h, i, hi => by
    have h' : (Bool.rec false (allB k f) (f k) : Bool) = true := h
    cases hk : f k with
    | false => rw [hk] at h'; cases h'
    | true =>
      rw [hk] at h'
      by_cases e : i = k
      · rw [e, hk]
      · exact allB_at (k := k) h' i (by omega)
def Str (n b : Nat) : Prop := ∃ o t, n - 1 = o * 2 ^ t ∧ o % 2 = 1 ∧ (b ^ o % n = 1 ∨ ∃ i, i < t ∧ b ^ (o * 2 ^ i) % n = n - 1)
theorem m1_sq {n x k : Nat} (hn : 2 < n) (h : x % n = n - 1) : x ^ (2 * k) % n = 1 := by
  have h1 : (n - 1) * (n - 1) % n = 1 := by
    obtain ⟨m, rfl⟩ : ∃ m, n = m + 1 := ⟨n - 1, by omega⟩
    rw [Nat.add_sub_cancel]
    have : m * m = 1 + (m + 1) * (m - 1) := by
      obtain ⟨j, rfl⟩ : ∃ j, m = j + 1 := ⟨m - 1, by omega⟩
      rw [Nat.add_sub_cancel]
      simp [Nat.mul_add, Nat.add_mul]
      omega
    rw [this, Nat.add_mul_mod_self_left, Nat.mod_eq_of_lt (by omega)]
  rw [Nat.pow_mul, Nat.pow_mod, Nat.pow_two, Nat.mul_mod, h, h1, Nat.one_pow, Nat.mod_eq_of_lt (by omega)]
theorem Str.one {n b : Nat} (hn : 2 < n) (h : Str n b) : b ^ (n - 1) % n = 1 := by
  obtain ⟨o, t, e, ho, h1 | ⟨i, hi, h1⟩⟩ := h
  · rw [e]
    exact pow_one_mul (by omega) h1 _
  · have : o * 2 ^ t = (o * 2 ^ i) * (2 * 2 ^ (t - i - 1)) := by
      rw [Nat.mul_assoc]
      congr 1
      rw [← Nat.mul_assoc, ← Nat.pow_succ, ← Nat.pow_add]
      congr 1
      omega
    rw [e, this, Nat.pow_mul]
    exact m1_sq hn h1
theorem stp_succ {n b f e : Nat} : stp n b (f + 1) e = bif Nat.beq (Nat.succ (pw b n 5 e)) n then true else bif Nat.beq (pw b n 5 e) 1 then (bif Nat.beq (e % 2) 0 then stp n b f (e / 2) else true) else false := by
  show frcN _ _ = _
  rw [frcN_eq]
  show (bif _ then true else bif _ then (bif _ then frcN _ _ else true) else false) = _
  rw [frcN_eq]
  rfl
theorem stp_ok {n b o : Nat} (hn : 2 < n) (ho : o % 2 = 1) : ∀ (f j : Nat), o * 2 ^ j < 64 ^ 5 → (b ^ o % n = 1 ∨ ∃ i, i ≤ j ∧ b ^ (o * 2 ^ i) % n = n - 1) → stp n b f (o * 2 ^ j) = true
  | 0, _, _, _ => rfl
  | f + 1, j, hl, h => by
    rw [stp_succ, pw_eq (by omega) hl]
    by_cases hm : b ^ (o * 2 ^ j) % n = n - 1
    · have : Nat.beq (Nat.succ (b ^ (o * 2 ^ j) % n)) n = true := by
        rw [hm, show Nat.succ (n - 1) = n by omega]
        exact Nat.beq_refl n
      rw [this]
      rfl
    · have h1 : b ^ (o * 2 ^ j) % n = 1 := by
        rcases h with h | ⟨i, hi, h⟩
        · rw [Nat.pow_mul, Nat.pow_mod, h, Nat.one_pow, Nat.mod_eq_of_lt (by omega)]
        · have hij : i < j := by
            apply Classical.byContradiction
            intro hc
            have : i = j := by omega
            rw [this] at h
            exact hm h
          have : o * 2 ^ j = (o * 2 ^ i) * (2 * 2 ^ (j - i - 1)) := by
            rw [Nat.mul_assoc]
            congr 1
            rw [← Nat.mul_assoc, ← Nat.pow_succ, ← Nat.pow_add]
            congr 1
            omega
          rw [this, Nat.pow_mul]
          exact m1_sq hn h
      have b1 : Nat.beq (Nat.succ (b ^ (o * 2 ^ j) % n)) n = false := by
        rw [h1]
        exact Bool.eq_false_iff.mpr fun hc => by have := Nat.eq_of_beq_eq_true hc; omega
      have b2 : Nat.beq (b ^ (o * 2 ^ j) % n) 1 = true := by rw [h1]; rfl
      rw [b1, b2]
      show (bif Nat.beq (o * 2 ^ j % 2) 0 then stp n b f (o * 2 ^ j / 2) else true) = true
      cases j with
      | zero =>
        have : Nat.beq (o * 2 ^ 0 % 2) 0 = false := by
          rw [Nat.pow_zero, Nat.mul_one, ho]
          rfl
        rw [this]
        rfl
      | succ j =>
        have e1 : o * 2 ^ (j + 1) = o * 2 ^ j * 2 := by rw [Nat.pow_succ, Nat.mul_assoc]
        have : Nat.beq (o * 2 ^ (j + 1) % 2) 0 = true := by
          rw [e1, Nat.mul_mod_left]
          rfl
        rw [this]
        show stp n b f (o * 2 ^ (j + 1) / 2) = true
        have e2 : o * 2 ^ (j + 1) / 2 = o * 2 ^ j := by rw [e1]; exact Nat.mul_div_cancel _ (by omega)
        rw [e2]
        refine stp_ok hn ho f j (by omega) ?_
        rcases h with h | ⟨i, hi, h⟩
        · exact .inl h
        · refine .inr ⟨i, ?_, h⟩
          apply Classical.byContradiction
          intro hc
          have : i = j + 1 := by omega
          rw [this] at h
          exact hm h
theorem tst_no {n : Nat} (hn : 2 < n) (hl : n ≤ lim) (h : ∀ b ∈ bases, Str n b) : tst n = false := by
  have hl : n ≤ 1000000000 := hl
  have s : ∀ b ∈ bases, stp n b 30 (n - 1) = true := fun b hb => by
    obtain ⟨o, t, e, ho, h⟩ := h b hb
    rw [e]
    refine stp_ok hn ho 30 t (by rw [← e]; omega) ?_
    rcases h with h | ⟨i, hi, h⟩
    · exact .inl h
    · exact .inr ⟨i, by omega, h⟩
  unfold tst
  rw [frcN_eq, frcN_eq]
  have e : Nat.pred n = n - 1 := rfl
  rw [e, s 2 (by decide), s 3 (by decide), s 5 (by decide), s 7 (by decide)]
  rfl
theorem FF_prd : FF = prd sps := by decide +kernel
theorem FF_le {q : Nat} (h : Prm q) (hd : q ∣ FF) : q ≤ 173 := by
  rw [FF_prd] at hd
  obtain ⟨x, hx, hqx⟩ := h.prd hd
  have h1 : ∀ x ∈ sps, 0 < x ∧ x ≤ 173 := by decide
  have := Nat.le_of_dvd (h1 x hx).1 hqx
  have := (h1 x hx).2
  omega
theorem row_le {q i : Nat} (h : Prm q) : ∀ j : Nat, q ∣ rowP i j → q < 178 * i + j
  | 0, hd => by
    have : q ∣ 1 := hd
    have := Nat.le_of_dvd (by decide) this
    have := h.1
    omega
  | j + 1, hd => by
    have hd : q ∣ (bif Nat.beq (Nat.gcd (178 * i + j) FF) 1 then 178 * i + j else 1) * rowP i j := hd
    rcases h.mul hd with h1 | h1
    · cases hb : Nat.beq (Nat.gcd (178 * i + j) FF) 1 with
      | true =>
        rw [hb] at h1
        have h1 : q ∣ 178 * i + j := h1
        have h0 : 178 * i + j ≠ 0 := fun e => by
          rw [e, Nat.gcd_zero_left] at hb
          have := Nat.eq_of_beq_eq_true hb
          rw [FF_prd] at this
          exact absurd this (by decide)
        have := Nat.le_of_dvd (by omega) h1
        omega
      | false =>
        rw [hb] at h1
        have h1 : q ∣ 1 := h1
        have := Nat.le_of_dvd (by decide) h1
        have := h.1
        omega
    · have := row_le h j h1
      omega
theorem col_le {q : Nat} (h : Prm q) : ∀ i : Nat, i ≤ 178 → q ∣ colP i → q ≤ 31683
  | 0, _, hd => by
    have hd : q ∣ FF / 210 := hd
    have : FF / 210 ∣ FF := Nat.div_dvd_of_dvd (by rw [FF_prd]; exact Nat.dvd_of_mod_eq_zero (by decide))
    have := FF_le h (Nat.dvd_trans hd this)
    omega
  | i + 1, hi, hd => by
    have hd : q ∣ rowP i 178 * colP i := hd
    rcases h.mul hd with h1 | h1
    · have := row_le h 178 h1
      omega
    · exact col_le h i (by omega) h1
theorem PP_le {q : Nat} (h : Prm q) (hd : q ∣ PP) : q ≤ 31683 := by
  rw [← PP_eq] at hd
  exact col_le h 178 (Nat.le_refl _) hd
theorem strip_dvd {q : Nat} (h : Prm q) (hq : ¬ q ∣ PP) : ∀ (f g : Nat), q ∣ g → q ∣ strip f g
  | 0, _, hd => hd
  | f + 1, g, hd => by
    have e : strip (f + 1) g = bif Nat.beq (Nat.gcd g PP) 1 then g else strip f (g / Nat.gcd g PP) := by
      show frcN _ _ = _
      rw [frcN_eq]
      show (bif _ then g else frcN _ _) = _
      rw [frcN_eq]
    rw [e]
    cases Nat.beq (Nat.gcd g PP) 1 with
    | true => exact hd
    | false =>
      refine strip_dvd h hq f _ ?_
      have e2 : g = Nat.gcd g PP * (g / Nat.gcd g PP) := (Nat.mul_div_cancel' (Nat.gcd_dvd_left g PP)).symm
      rw [e2] at hd
      rcases h.mul hd with h1 | h1
      · exact absurd (Nat.dvd_trans h1 (Nat.gcd_dvd_right g PP)) hq
      · exact h1
theorem gA_eq (e : Nat) : gA e = Nat.gcd (Nat.gcd (Nat.gcd (2 ^ e - 1) (3 ^ e - 1)) (5 ^ e - 1)) (7 ^ e - 1) := by
  unfold gA
  rw [frcN_eq, frcN_eq]
theorem dvd_pred {q x : Nat} (hq : 1 < q) (h : x % q = 1) : q ∣ x - 1 := by
  refine Nat.dvd_of_mod_eq_zero (Nat.sub_mod_eq_zero_of_mod_eq ?_)
  rw [h, Nat.mod_eq_of_lt hq]
theorem pow_of_dvd {q n a : Nat} (hq : 1 < q) (hd : q ∣ n) (h : a ^ (n - 1) % n = 1) : a ^ (n - 1) % q = 1 := by
  have h1 : a ^ (n - 1) % n % q = a ^ (n - 1) % q := Nat.mod_mod_of_dvd _ hd
  rw [← h1, h, Nat.mod_eq_of_lt hq]
theorem bases_nd {q : Nat} (h : Prm q) (hq : 7 < q) : ∀ a ∈ bases, ¬ q ∣ a := fun a ha hd => by
  have : ∀ a ∈ bases, 0 < a ∧ a ≤ 7 := by decide
  have h1 := Nat.le_of_dvd (this a ha).1 hd
  have := (this a ha).2
  omega
theorem chkA_no {e q : Nat} (hc : chkA e = true) (h : Prm q) (hq : 31683 < q) (hl : q * (e + 1) ≤ lim) (he : 1 ≤ e) (hs : ∀ b ∈ bases, Str (q * (e + 1)) b) : False := by
  have hn2 : 2 < q * (e + 1) := by
    have := Nat.mul_le_mul (show 31683 ≤ q by omega) (show 1 ≤ e + 1 by omega)
    omega
  have hpe : ∀ a ∈ bases, a ^ e % q = 1 := fun a ha => by
    have h1 := pow_of_dvd (show 1 < q by omega) ⟨e + 1, rfl⟩ ((hs a ha).one hn2)
    have h2 := flt h (bases_nd h (by omega) a ha)
    have e1 : q * (e + 1) - 1 = (q - 1) * (e + 1) + e := by
      obtain ⟨r, rfl⟩ : ∃ r, q = r + 1 := ⟨q - 1, by omega⟩
      rw [Nat.add_sub_cancel, Nat.add_mul]
      omega
    rw [e1, Nat.pow_add, Nat.mul_mod, pow_one_mul (by omega) h2, Nat.one_mul, Nat.mod_mod] at h1
    exact h1
  have hg : q ∣ gA e := by
    rw [gA_eq]
    exact Nat.dvd_gcd (Nat.dvd_gcd (Nat.dvd_gcd (dvd_pred (by omega) (hpe 2 (by decide))) (dvd_pred (by omega) (hpe 3 (by decide)))) (dvd_pred (by omega) (hpe 5 (by decide)))) (dvd_pred (by omega) (hpe 7 (by decide)))
  have hr := strip_dvd h (fun hd => by have := PP_le h hd; omega) 20 _ hg
  unfold chkA at hc
  rw [frcN_eq, frcN_eq, Bool.or_eq_true] at hc
  rcases hc with hc | hc
  · rw [Nat.eq_of_beq_eq_true hc] at hr
    have := Nat.le_of_dvd (by decide) hr
    omega
  · rw [Bool.and_eq_true] at hc
    rw [← Nat.eq_of_beq_eq_true hc.1] at hr
    obtain ⟨x, hx, hqx⟩ := h.prd hr
    have hc := List.all_eq_true.mp hc.2 x hx
    simp only [Bool.and_eq_true, Bool.or_eq_true, Bool.not_eq_true'] at hc
    obtain ⟨c1, c2, c3, c4, c5⟩ := hc
    have c1 : x < 190000 := Nat.le_of_ble_eq_true c1
    obtain ⟨t, rfl⟩ := hqx
    have ht : t < 6 := by
      apply Classical.byContradiction
      intro hc
      have := Nat.mul_le_mul (show 31684 ≤ q by omega) (show 6 ≤ t by omega)
      omega
    have n0 : ∀ d, Nat.beq (q * t % d) 0 = false → ¬ d ∣ q * t := fun d hb hd => by
      rw [Nat.mod_eq_zero_of_dvd hd] at hb
      cases hb
    have c2 := n0 2 c2
    have c3 := n0 3 c3
    have c4 := n0 5 c4
    have hd : ∀ d, d ∣ t → d ∣ q * t := fun d hd => Nat.dvd_trans hd ⟨q, Nat.mul_comm _ _⟩
    have : t = 1 := by
      have : t = 0 ∨ t = 1 ∨ t = 2 ∨ t = 3 ∨ t = 4 ∨ t = 5 := by omega
      rcases this with rfl | rfl | rfl | rfl | rfl | rfl
      · exact absurd (hd 2 (by decide)) c2
      · rfl
      · exact absurd (hd 2 (by decide)) c2
      · exact absurd (hd 3 (by decide)) c3
      · exact absurd (hd 2 (by decide)) c2
      · exact absurd (hd 5 (by decide)) c4
    subst this
    rw [Nat.mul_one] at c5
    rcases c5 with c5 | c5
    · have : lim < q * (e + 1) := Nat.le_of_ble_eq_true c5
      omega
    · rw [tst_no hn2 hl hs] at c5
      cases c5
theorem sps_all : ∀ s, s < 178 → 2 ≤ s → s ∈ sps ∨ ∃ d ∈ ([2, 3, 5, 7, 11, 13] : List Nat), d ∣ s ∧ d < s := by decide +kernel
theorem prm_sps {s : Nat} (h : Prm s) (hs : s < 178) : s ∈ sps := by
  rcases sps_all s hs h.1 with h1 | ⟨d, hd, h1, h2⟩
  · exact h1
  · have : ∀ d ∈ ([2, 3, 5, 7, 11, 13] : List Nat), d ≠ 1 := by decide
    rcases h.2 d h1 with h3 | h3
    · exact absurd h3 (this d hd)
    · omega
theorem isP_prm {q : Nat} (h : isP q = true) (h2 : 2 ≤ q) (hl : q < 31684) : Prm q := by
  refine prm_of (b := 178) h2 (by omega) fun s hs hsl hd => ?_
  have := List.all_eq_true.mp h s (prm_sps hs hsl)
  simp only [Bool.or_eq_true, Bool.not_eq_true'] at this
  rcases this with h1 | h1
  · exact Nat.eq_of_beq_eq_true h1
  · have e : Nat.mod q s = 0 := Nat.mod_eq_zero_of_dvd hd
    rw [e] at h1
    cases h1
theorem isP_of {q : Nat} (h : Prm q) : isP q = true := List.all_eq_true.mpr fun d hd => by
  have hd1 : ∀ d ∈ sps, d ≠ 1 := by decide
  by_cases e : d ∣ q
  · rcases h.2 d e with h1 | h1
    · exact absurd h1 (hd1 d hd)
    · rw [h1, Nat.beq_refl]
      rfl
  · have : Nat.beq (Nat.mod q d) 0 = false := Bool.eq_false_iff.mpr fun hc => e (Nat.dvd_of_mod_eq_zero (Nat.eq_of_beq_eq_true hc))
    rw [this]
    exact Bool.or_true _
theorem facK_ex {k : List Nat → Bool} : ∀ (f : Nat) (ps : List Nat) (n : Nat) (acc : List Nat), facK k f ps n acc = true → ∃ l, k l = true
  | 0, _, _, _, h => by cases h
  | f + 1, [], n, acc, h => by
    have h : (bif Nat.beq n 1 then k acc else k (n :: acc)) = true := h
    cases hb : Nat.beq n 1 with
    | true => rw [hb] at h; exact ⟨_, h⟩
    | false => rw [hb] at h; exact ⟨_, h⟩
  | f + 1, p :: ps, n, acc, h => by
    have h : (bif Nat.beq (n % p) 0 then frcN (n / p) fun n' => facK k f (p :: ps) n' (p :: acc) else facK k f ps n acc) = true := h
    cases hb : Nat.beq (n % p) 0 with
    | true =>
      rw [hb] at h
      have h : frcN (n / p) (fun n' => facK k f (p :: ps) n' (p :: acc)) = true := h
      rw [frcN_eq] at h
      exact facK_ex f _ _ _ h
    | false => rw [hb] at h; exact facK_ex f _ _ _ h
theorem redK_ex {q : Nat} {k : Nat → List Nat → Bool} : ∀ (l : List Nat) (L : Nat) (acc : List Nat), redK q k L l acc = true → ∃ L rs, k L rs = true
  | [], L, acc, h => ⟨L, acc, h⟩
  | r :: l, L, acc, h => by
    have h : (frcN (L / r) fun L' => bif bases.all (fun a => Nat.beq (pw a q 3 L') 1) then redK q k L' l acc else redK q k L l (r :: acc)) = true := h
    rw [frcN_eq] at h
    cases hb : bases.all (fun a => Nat.beq (pw a q 3 (L / r)) 1) with
    | true => rw [hb] at h; exact redK_ex l _ _ h
    | false => rw [hb] at h; exact redK_ex l _ _ h
theorem prd_pos : ∀ {l : List Nat}, (∀ r ∈ l, 0 < r) → 0 < prd l
  | [], _ => by decide
  | r :: l, h => Nat.mul_pos (h r (List.mem_cons_self ..)) (prd_pos fun x hx => h x (List.mem_cons_of_mem _ hx))
theorem okO_ok {q L : Nat} {rs : List Nat} (hq : 1 < q) (h : okO q L rs = true) : OrdOk q L rs ∧ 0 < L := by
  unfold okO at h
  simp only [Bool.and_eq_true] at h
  obtain ⟨⟨h0, h1⟩, h2, h3⟩ := h
  have h0 : L < 200000 := Nat.le_of_ble_eq_true h0
  have h2 := Nat.eq_of_beq_eq_true h2
  have hr : ∀ r ∈ rs, 1 < r ∧ Prm r ∧ ∃ a ∈ bases, a ^ (L / r) % q ≠ 1 := fun r hr => by
    have := List.all_eq_true.mp h3 r hr
    simp only [Bool.and_eq_true] at this
    obtain ⟨g1, g2, g3, g4⟩ := this
    have g1 : 1 < r := Nat.le_of_ble_eq_true g1
    have g2 : r < 31684 := Nat.le_of_ble_eq_true g2
    refine ⟨g1, isP_prm g3 g1 g2, ?_⟩
    obtain ⟨a, ha, hb⟩ := List.any_eq_true.mp g4
    refine ⟨a, ha, fun hc => ?_⟩
    have hd : Nat.div L r = L / r := rfl
    have hle : L / r ≤ L := Nat.div_le_self ..
    rw [hd, pw_eq hq (by omega), hc] at hb
    cases hb
  refine ⟨⟨fun a ha => ?_, fun r hr' => (hr r hr').2.1, h2, fun r hr' => (hr r hr').2.2⟩, ?_⟩
  · have := Nat.eq_of_beq_eq_true (List.all_eq_true.mp h1 a ha)
    rwa [pw_eq hq (by omega)] at this
  · rw [← h2]
    exact prd_pos fun r hr' => by have := (hr r hr').1; omega
theorem ordK_ex {q : Nat} {k : Nat → Bool} (hq : 1 < q) (h : ordK q k = true) : ∃ L, (∃ rs, OrdOk q L rs) ∧ 0 < L ∧ k L = true := by
  obtain ⟨l, hl⟩ := facK_ex _ _ _ _ h
  obtain ⟨L, rs, hL⟩ := redK_ex _ _ _ hl
  rw [Bool.and_eq_true] at hL
  obtain ⟨h1, h2⟩ := okO_ok hq hL.1
  exact ⟨L, ⟨rs, h1⟩, h2, hL.2⟩
theorem enB_no {q L s : Nat} {rs : List Nat} (h : Prm q) (hq : 7 < q) (ho : OrdOk q L rs) (hL : 0 < L) (hc : enB q L = true) (hs : 1 < s) (hl : q * s ≤ lim) (hst : ∀ b ∈ bases, Str (q * s) b) : False := by
  have hn2 : 2 < q * s := by
    have := Nat.mul_le_mul (show 8 ≤ q by omega) (show 1 ≤ s by omega)
    omega
  have h1 : L ∣ q * s - 1 := ho.dvd (by omega) hL fun a ha => pow_of_dvd (by omega) ⟨s, rfl⟩ ((hst a ha).one hn2)
  have h2 : L ∣ q - 1 := ho.dvd (by omega) hL fun a ha => flt h (bases_nd h hq a ha)
  have h3 : L ∣ s - 1 := by
    have e1 : q * s - 1 = (q - 1) * s + (s - 1) := by
      obtain ⟨r, rfl⟩ : ∃ r, q = r + 1 := ⟨q - 1, by omega⟩
      rw [Nat.add_sub_cancel, Nat.add_mul]
      omega
    rw [e1] at h1
    exact (Nat.dvd_add_right (Nat.dvd_trans h2 ⟨s, rfl⟩)).mp h1
  obtain ⟨i, hi⟩ := h3
  have hi0 : i ≠ 0 := fun e => by rw [e, Nat.mul_zero] at hi; omega
  obtain ⟨i, rfl⟩ : ∃ j, i = j + 1 := ⟨i - 1, by omega⟩
  have hs2 : s = 1 + (i + 1) * L := by
    rw [Nat.mul_comm]
    omega
  unfold enB at hc
  rw [frcN_eq] at hc
  have hsl : s ≤ lim / q := (Nat.le_div_iff_mul_le (by omega)).mpr (by rw [Nat.mul_comm]; exact hl)
  have hil : i < lim / q / L := (Nat.le_div_iff_mul_le hL).mpr (by
    show (i + 1) * L ≤ lim / q
    omega)
  have ht := allB_at hc i hil
  have e : Nat.mul q (Nat.succ (Nat.mul (Nat.succ i) L)) = q * s := by
    show q * ((i + 1) * L + 1) = q * s
    rw [hs2, Nat.add_comm]
  rw [e, tst_no hn2 hl hst] at ht
  cases ht
theorem chkB_no {q s : Nat} (hc : chkB q = true) (h : Prm q) (hq : 7 < q) (hs : 1 < s) (hl : q * s ≤ lim) (hst : ∀ b ∈ bases, Str (q * s) b) : False := by
  unfold chkB at hc
  rw [isP_of h] at hc
  obtain ⟨L, ⟨rs, ho⟩, hL, he⟩ := ordK_ex (by omega) hc
  exact enB_no h hq ho hL he hs hl hst
theorem tails_at {f : Nat → Nat → List (Nat × Nat) → Bool} : ∀ {a : List (Nat × Nat)} {p L : Nat} {b : List (Nat × Nat)}, tails (a ++ (p, L) :: b) f = true → f p L ((p, L) :: b) = true
  | [], p, L, b, h => by
    have h : (f p L ((p, L) :: b) && tails b f) = true := h
    rw [Bool.and_eq_true] at h
    exact h.1
  | (x, y) :: a, p, L, b, h => by
    have h : (f x y ((x, y) :: (a ++ (p, L) :: b)) && tails (a ++ (p, L) :: b) f) = true := h
    rw [Bool.and_eq_true] at h
    exact tails_at h.2
theorem first_dvd {s : Nat} : ∀ (l : List (Nat × Nat)), (∃ x ∈ l, x.1 ∣ s) → ∃ a p L b, l = a ++ (p, L) :: b ∧ p ∣ s ∧ ∀ x ∈ a, ¬ x.1 ∣ s
  | [], ⟨x, hx, _⟩ => by cases hx
  | (p, L) :: l, h => by
    by_cases hp : p ∣ s
    · exact ⟨[], p, L, l, rfl, hp, fun x hx => by cases hx⟩
    · obtain ⟨x, hx, hxs⟩ := h
      rcases List.mem_cons.mp hx with rfl | hx
      · exact absurd hxs hp
      · obtain ⟨a, p', L', b, e, h1, h2⟩ := first_dvd l ⟨x, hx, hxs⟩
        refine ⟨(p, L) :: a, p', L', b, by rw [e]; rfl, h1, fun y hy => ?_⟩
        rcases List.mem_cons.mp hy with rfl | hy
        · exact hp
        · exact h2 y hy
theorem lcmF_dvd {a b m : Nat} (ha : a ∣ m) (hb : b ∣ m) : lcmF a b ∣ m := Nat.lcm_dvd ha hb
theorem enC_no {d L s : Nat} (hd0 : 0 < d) (hc : enC d L = true) (hs : 1 ≤ s) (hn2 : 2 < d * s) (hl : d * s ≤ lim) (hL : L ∣ d * s - 1) (hst : ∀ b ∈ bases, Str (d * s) b) : False := by
  unfold enC at hc
  rw [frcN_eq] at hc
  generalize invF L 60 (Nat.mod d L) L 1 0 = u at hc
  rw [frcN_eq] at hc
  simp only [Bool.and_eq_true] at hc
  obtain ⟨⟨h0, h1⟩, h2⟩ := hc
  have h0 : u < L := Nat.le_of_ble_eq_true h0
  have h1 : d * u % L = 1 := Nat.eq_of_beq_eq_true h1
  have hL0 : 0 < L := by omega
  have hL1 : 1 < L := by
    apply Classical.byContradiction
    intro hc
    have : L = 1 := by omega
    rw [this, Nat.mod_one] at h1
    cases h1
  have h3 : d * s % L = 1 := by
    obtain ⟨c, hc⟩ := hL
    have : d * s = 1 + L * c := by omega
    rw [this, Nat.add_mul_mod_self_left, Nat.mod_eq_of_lt hL1]
  have hus : s % L = u := by
    -- u * (d * s) = s * (d * u)
    have e1 : u * (d * s) % L = u := by
      rw [Nat.mul_mod, h3, Nat.mul_one, Nat.mod_mod, Nat.mod_eq_of_lt h0]
    have e2 : s * (d * u) % L = s % L := by
      rw [Nat.mul_mod, h1, Nat.mul_one, Nat.mod_mod]
    have e3 : u * (d * s) = s * (d * u) := by rw [← Nat.mul_assoc, ← Nat.mul_assoc, Nat.mul_comm u d, Nat.mul_comm s d, Nat.mul_assoc, Nat.mul_assoc, Nat.mul_comm u s]
    rw [e3, e2] at e1
    exact e1
  have hsl : s ≤ lim / d := (Nat.le_div_iff_mul_le hd0).mpr (by rw [Nat.mul_comm]; exact hl)
  have hi : s / L < Nat.succ (lim / d / L) := Nat.lt_succ_of_le (Nat.div_le_div_right hsl)
  have ht := allB_at h2 (s / L) hi
  rw [frcN_eq, Bool.or_eq_true] at ht
  have e : Nat.mul d (Nat.add u (Nat.mul (s / L) L)) = d * s := by
    show d * (u + s / L * L) = d * s
    congr 1
    have := Nat.mod_add_div s L
    rw [Nat.mul_comm L] at this
    omega
  rw [e] at ht
  rcases ht with ht | ht
  · have : lim < d * s := Nat.le_of_ble_eq_true ht
    omega
  · rw [tst_no hn2 hl hst] at ht
    cases ht
theorem node_no {n : Nat} (hn2 : 2 < n) (hl : n ≤ lim) (hst : ∀ b ∈ bases, Str n b) : ∀ (f : Nat) (l : List (Nat × Nat)) (d L s : Nat), node f l d L = true → n = d * s → 1 ≤ s → L ∣ n - 1 → (∀ x ∈ l, x.1 ∣ n → x.2 ∣ n - 1) → (∀ r, Prm r → r ∣ s → ∃ x ∈ l, x.1 = r) → (∀ x ∈ l, 0 < x.1) → False
  | 0, _, _, _, _, h, _, _, _, _, _, _ => by cases h
  | f + 1, l, d, L, s, h, hn, hs, hL, hg, hp, hpos => by
    have hd0 : 0 < d := by
      rcases Nat.eq_zero_or_pos d with e | e
      · rw [e, Nat.zero_mul] at hn; omega
      · exact e
    have h : (bif Nat.blt (Nat.div (Nat.div lim d) L) 150 then enC d L else tst d && tails l fun p Lp l' => frcN (Nat.mul d p) fun d' => bif Nat.blt lim d' then true else frcN (lcmF L Lp) fun L' => bif Nat.beq (Nat.gcd d' L') 1 then node f l' d' L' else true) = true := h
    cases hb : Nat.blt (Nat.div (Nat.div lim d) L) 150 with
    | true =>
      rw [hb] at h
      subst hn
      exact enC_no hd0 h hs hn2 hl hL hst
    | false =>
      rw [hb] at h
      have h : (tst d && tails l fun p Lp l' => frcN (Nat.mul d p) fun d' => bif Nat.blt lim d' then true else frcN (lcmF L Lp) fun L' => bif Nat.beq (Nat.gcd d' L') 1 then node f l' d' L' else true) = true := h
      rw [Bool.and_eq_true] at h
      by_cases hs1 : s = 1
      · rw [hs1, Nat.mul_one] at hn
        rw [← hn, tst_no hn2 hl hst] at h
        cases h.1
      · obtain ⟨r, hr, hrs⟩ := exists_prm s (by omega)
        obtain ⟨x, hx, hxr⟩ := hp r hr hrs
        obtain ⟨a, p, Lp, b, e, hps, ha⟩ := first_dvd l ⟨x, hx, by rw [hxr]; exact hrs⟩
        have h2 := tails_at (e ▸ h.2)
        obtain ⟨s', rfl⟩ := hps
        have hml : (p, Lp) ∈ l := by rw [e]; simp
        have hn' : n = d * p * s' := by rw [hn, Nat.mul_assoc]
        have hs' : 1 ≤ s' := by
          rcases Nat.eq_zero_or_pos s' with z | z
          · rw [z, Nat.mul_zero] at hs; omega
          · exact z
        have hpn : p ∣ n := ⟨d * s', by rw [hn', Nat.mul_comm d p, Nat.mul_assoc]⟩
        have hLp := hg (p, Lp) hml hpn
        have hL' := lcmF_dvd hL hLp
        rw [frcN_eq] at h2
        have hd' : Nat.blt lim (Nat.mul d p) = false := Bool.eq_false_iff.mpr fun hc => by
          have hc : lim < d * p := Nat.le_of_ble_eq_true hc
          have : d * p * 1 ≤ d * p * s' := Nat.mul_le_mul_left _ hs'
          omega
        rw [hd'] at h2
        have h2 : (frcN (lcmF L Lp) fun L' => bif Nat.beq (Nat.gcd (Nat.mul d p) L') 1 then node f ((p, Lp) :: b) (Nat.mul d p) L' else true) = true := h2
        rw [frcN_eq] at h2
        have hgc : Nat.gcd (Nat.mul d p) (lcmF L Lp) = 1 := by
          have g1 : Nat.gcd (Nat.mul d p) (lcmF L Lp) ∣ n := Nat.dvd_trans (Nat.gcd_dvd_left _ _) ⟨s', hn'⟩
          have g2 : Nat.gcd (Nat.mul d p) (lcmF L Lp) ∣ n - 1 := Nat.dvd_trans (Nat.gcd_dvd_right _ _) hL'
          have g3 := Nat.dvd_sub g1 g2
          rw [show n - (n - 1) = 1 by omega] at g3
          exact Nat.dvd_one.mp g3
        rw [hgc] at h2
        have h2 : node f ((p, Lp) :: b) (d * p) (lcmF L Lp) = true := h2
        refine node_no hn2 hl hst f _ _ _ s' h2 hn' hs' hL' (fun x hx => hg x ?_) (fun r hr hrs => ?_) (fun x hx => hpos x ?_)
        · rw [e]; exact List.mem_append_right _ hx
        · obtain ⟨x, hx, hxr⟩ := hp r hr (Nat.dvd_trans hrs ⟨p, Nat.mul_comm _ _⟩)
          rw [e] at hx
          rcases List.mem_append.mp hx with hx | hx
          · exact absurd (hxr ▸ Nat.dvd_trans hrs ⟨p, Nat.mul_comm _ _⟩) (ha x hx)
          · exact ⟨x, hx, hxr⟩
        · rw [e]; exact List.mem_append_right _ hx
theorem top_no {n q L s : Nat} {l : List (Nat × Nat)} {rs : List Nat} (h : Prm q) (hq : 7 < q) (ho : OrdOk q L rs) (hL0 : 0 < L) (ht : top q L l = true) (hn : n = q * s) (hs : 1 < s) (hn2 : 2 < n) (hl : n ≤ lim) (hst : ∀ b ∈ bases, Str n b) (hL : L ∣ n - 1) (hg : ∀ x ∈ l, x.1 ∣ n → x.2 ∣ n - 1) (hp : ∀ r, Prm r → r ∣ s → ∃ x ∈ l, x.1 = r) (hpos : ∀ x ∈ l, 0 < x.1) : False := by
  have ht : (bif Nat.blt (Nat.div (Nat.div lim q) L) 500 then enB q L else tails l fun p Lp l' => frcN (Nat.mul q p) fun d' => bif Nat.blt lim d' then true else frcN (lcmF L Lp) fun L' => bif Nat.beq (Nat.gcd d' L') 1 then node 9 l' d' L' else true) = true := ht
  cases hb : Nat.blt (Nat.div (Nat.div lim q) L) 500 with
  | true =>
    rw [hb] at ht
    subst hn
    exact enB_no h hq ho hL0 ht hs hl hst
  | false =>
    rw [hb] at ht
    obtain ⟨r, hr, hrs⟩ := exists_prm s (by omega)
    obtain ⟨x, hx, hxr⟩ := hp r hr hrs
    obtain ⟨a, p, Lp, b, e, hps, ha⟩ := first_dvd l ⟨x, hx, by rw [hxr]; exact hrs⟩
    have h2 := tails_at (e ▸ ht)
    obtain ⟨s', rfl⟩ := hps
    have hml : (p, Lp) ∈ l := by rw [e]; simp
    have hn' : n = q * p * s' := by rw [hn, Nat.mul_assoc]
    have hs' : 1 ≤ s' := by
      rcases Nat.eq_zero_or_pos s' with z | z
      · rw [z, Nat.mul_zero] at hs; omega
      · exact z
    have hpn : p ∣ n := ⟨q * s', by rw [hn', Nat.mul_comm q p, Nat.mul_assoc]⟩
    have hLp := hg (p, Lp) hml hpn
    have hL' := lcmF_dvd hL hLp
    rw [frcN_eq] at h2
    have hd' : Nat.blt lim (Nat.mul q p) = false := Bool.eq_false_iff.mpr fun hc => by
      have hc : lim < q * p := Nat.le_of_ble_eq_true hc
      have : q * p * 1 ≤ q * p * s' := Nat.mul_le_mul_left _ hs'
      omega
    rw [hd'] at h2
    have h2 : (frcN (lcmF L Lp) fun L' => bif Nat.beq (Nat.gcd (Nat.mul q p) L') 1 then node 9 ((p, Lp) :: b) (Nat.mul q p) L' else true) = true := h2
    rw [frcN_eq] at h2
    have hgc : Nat.gcd (Nat.mul q p) (lcmF L Lp) = 1 := by
      have g1 : Nat.gcd (Nat.mul q p) (lcmF L Lp) ∣ n := Nat.dvd_trans (Nat.gcd_dvd_left _ _) ⟨s', hn'⟩
      have g2 : Nat.gcd (Nat.mul q p) (lcmF L Lp) ∣ n - 1 := Nat.dvd_trans (Nat.gcd_dvd_right _ _) hL'
      have g3 := Nat.dvd_sub g1 g2
      rw [show n - (n - 1) = 1 by omega] at g3
      exact Nat.dvd_one.mp g3
    rw [hgc] at h2
    have h2 : node 9 ((p, Lp) :: b) (q * p) (lcmF L Lp) = true := h2
    refine node_no hn2 hl hst 9 _ _ _ s' h2 hn' hs' hL' (fun x hx => hg x ?_) (fun r hr hrs => ?_) (fun x hx => hpos x ?_)
    · rw [e]; exact List.mem_append_right _ hx
    · obtain ⟨x, hx, hxr⟩ := hp r hr (Nat.dvd_trans hrs ⟨p, Nat.mul_comm _ _⟩)
      rw [e] at hx
      rcases List.mem_append.mp hx with hx | hx
      · exact absurd (hxr ▸ Nat.dvd_trans hrs ⟨p, Nat.mul_comm _ _⟩) (ha x hx)
      · exact ⟨x, hx, hxr⟩
    · rw [e]; exact List.mem_append_right _ hx
theorem runA0 : allB 2000 (fun i => chkA (2 * i + 10)) = true := by decide +kernel
theorem runA1 : allB 2000 (fun i => chkA (2 * i + 4010)) = true := by decide +kernel
theorem runA2 : allB 2000 (fun i => chkA (2 * i + 8010)) = true := by decide +kernel
theorem runA3 : allB 2000 (fun i => chkA (2 * i + 12010)) = true := by decide +kernel
theorem runA4 : allB 2000 (fun i => chkA (2 * i + 16010)) = true := by decide +kernel
theorem runA5 : allB 2000 (fun i => chkA (2 * i + 20010)) = true := by decide +kernel
theorem runA6 : allB 2000 (fun i => chkA (2 * i + 24010)) = true := by decide +kernel
theorem runA7 : allB 1776 (fun i => chkA (2 * i + 28010)) = true := by decide +kernel
theorem runB0 : allB 700 (fun i => chkB (2 * i + 2237)) = true := by decide +kernel
theorem runB1 : allB 2000 (fun i => chkB (2 * i + 3637)) = true := by decide +kernel
theorem runB2 : allB 4000 (fun i => chkB (2 * i + 7637)) = true := by decide +kernel
theorem runB3 : allB 4000 (fun i => chkB (2 * i + 15637)) = true := by decide +kernel
theorem runB4 : allB 4024 (fun i => chkB (2 * i + 23637)) = true := by decide +kernel
noncomputable def part (a b : Nat) : Bool := tails tab fun q L l => bif Nat.blt q a then true else bif Nat.blt q b then top q L l else true
theorem runC0 : part 0 60 = true := by decide +kernel
theorem runC1 : part 60 150 = true := by decide +kernel
theorem runC2 : part 150 300 = true := by decide +kernel
theorem runC3 : part 300 600 = true := by decide +kernel
theorem runC4 : part 600 1000 = true := by decide +kernel
theorem runC5 : part 1000 1500 = true := by decide +kernel
theorem runC6 : part 1500 2300 = true := by decide +kernel
noncomputable def tabOk : Bool := tab.all fun x => Nat.blt 7 x.1 && (Nat.blt x.1 2237 && (isP x.1 && ordK x.1 fun L => Nat.beq L x.2))
theorem runT : tabOk = true := by decide +kernel
theorem runU : allB 2226 (fun i => !isP (i + 11) || tab.any fun x => Nat.beq x.1 (i + 11)) = true := by decide +kernel
theorem chkA_all {e : Nat} (h0 : 10 ≤ e) (h1 : e ≤ 31560) (h2 : e % 2 = 0) : chkA e = true := by
  have key : ∀ a c : Nat, allB c (fun i => chkA (2 * i + a)) = true → a % 2 = 0 → a ≤ e → e < a + 2 * c → chkA e = true := fun a c h ha h1 h2 => by
    have := allB_at h ((e - a) / 2) (by omega)
    rwa [show 2 * ((e - a) / 2) + a = e by omega] at this
  by_cases c1 : e < 4010
  · exact key _ _ runA0 rfl (by omega) (by omega)
  by_cases c2 : e < 8010
  · exact key _ _ runA1 rfl (by omega) (by omega)
  by_cases c3 : e < 12010
  · exact key _ _ runA2 rfl (by omega) (by omega)
  by_cases c4 : e < 16010
  · exact key _ _ runA3 rfl (by omega) (by omega)
  by_cases c5 : e < 20010
  · exact key _ _ runA4 rfl (by omega) (by omega)
  by_cases c6 : e < 24010
  · exact key _ _ runA5 rfl (by omega) (by omega)
  by_cases c7 : e < 28010
  · exact key _ _ runA6 rfl (by omega) (by omega)
  · exact key _ _ runA7 rfl (by omega) (by omega)
theorem chkB_all {q : Nat} (h0 : 2237 ≤ q) (h1 : q ≤ 31683) (h2 : q % 2 = 1) : chkB q = true := by
  have key : ∀ a c : Nat, allB c (fun i => chkB (2 * i + a)) = true → a % 2 = 1 → a ≤ q → q < a + 2 * c → chkB q = true := fun a c h ha h1 h2 => by
    have := allB_at h ((q - a) / 2) (by omega)
    rwa [show 2 * ((q - a) / 2) + a = q by omega] at this
  by_cases c1 : q < 3637
  · exact key _ _ runB0 rfl (by omega) (by omega)
  by_cases c2 : q < 7637
  · exact key _ _ runB1 rfl (by omega) (by omega)
  by_cases c3 : q < 15637
  · exact key _ _ runB2 rfl (by omega) (by omega)
  by_cases c4 : q < 23637
  · exact key _ _ runB3 rfl (by omega) (by omega)
  · exact key _ _ runB4 rfl (by omega) (by omega)
theorem top_all {a b : List (Nat × Nat)} {q L : Nat} (h : tab = a ++ (q, L) :: b) (hq : q < 2300) : top q L ((q, L) :: b) = true := by
  have key : ∀ x y : Nat, part x y = true → x ≤ q → q < y → top q L ((q, L) :: b) = true := fun x y hr hx hy => by
    unfold part at hr
    rw [h] at hr
    have := tails_at hr
    have b1 : Nat.blt q x = false := Bool.eq_false_iff.mpr fun hc => by have : q < x := Nat.le_of_ble_eq_true hc; omega
    have b2 : Nat.blt q y = true := Nat.ble_eq_true_of_le hy
    rw [b1, b2] at this
    exact this
  by_cases c1 : q < 60
  · exact key _ _ runC0 (by omega) c1
  by_cases c2 : q < 150
  · exact key _ _ runC1 (by omega) c2
  by_cases c3 : q < 300
  · exact key _ _ runC2 (by omega) c3
  by_cases c4 : q < 600
  · exact key _ _ runC3 (by omega) c4
  by_cases c5 : q < 1000
  · exact key _ _ runC4 (by omega) c5
  by_cases c6 : q < 1500
  · exact key _ _ runC5 (by omega) c6
  · exact key _ _ runC6 (by omega) hq
theorem tab_ok {x : Nat × Nat} (hx : x ∈ tab) : 7 < x.1 ∧ x.1 < 2237 ∧ Prm x.1 ∧ (∃ rs, OrdOk x.1 x.2 rs) ∧ 0 < x.2 := by
  have := List.all_eq_true.mp runT x hx
  simp only [Bool.and_eq_true] at this
  obtain ⟨h1, h2, h3, h4⟩ := this
  have h1 : 7 < x.1 := Nat.le_of_ble_eq_true h1
  have h2 : x.1 < 2237 := Nat.le_of_ble_eq_true h2
  obtain ⟨L, ho, hL, hb⟩ := ordK_ex (by omega) h4
  have := Nat.eq_of_beq_eq_true hb
  subst this
  exact ⟨h1, h2, isP_prm h3 (by omega) (by omega), ho, hL⟩
theorem in_tab {q : Nat} (h : Prm q) (h0 : 11 ≤ q) (h1 : q < 2237) : ∃ x ∈ tab, x.1 = q := by
  have := allB_at runU (q - 11) (by omega)
  rw [show q - 11 + 11 = q by omega, isP_of h] at this
  obtain ⟨x, hx, hb⟩ := List.any_eq_true.mp (show (tab.any fun x => Nat.beq x.1 q) = true from this)
  exact ⟨x, hx, Nat.eq_of_beq_eq_true hb⟩
theorem small_prm {q : Nat} (h : Prm q) (hq : q < 11) : q ∈ bases := by
  have : q = 0 ∨ q = 1 ∨ q = 2 ∨ q = 3 ∨ q = 4 ∨ q = 5 ∨ q = 6 ∨ q = 7 ∨ q = 8 ∨ q = 9 ∨ q = 10 := by omega
  have h2 := h.1
  have bad : ∀ d, d ∣ q → d ≠ 1 → d ≠ q → q ∈ bases := fun d hd h1 h3 => by
    rcases h.2 d hd with h4 | h4
    · exact absurd h4 h1
    · exact absurd h4 h3
  rcases this with rfl | rfl | rfl | rfl | rfl | rfl | rfl | rfl | rfl | rfl | rfl
  · omega
  · omega
  · decide
  · decide
  · exact bad 2 (by decide) (by decide) (by decide)
  · decide
  · exact bad 2 (by decide) (by decide) (by decide)
  · decide
  · exact bad 2 (by decide) (by decide) (by decide)
  · exact bad 3 (by decide) (by decide) (by decide)
  · exact bad 2 (by decide) (by decide) (by decide)
theorem strong_prm {n : Nat} (h2 : 11 ≤ n) (hl : n ≤ lim) (hb : ∀ b ∈ bases, ¬ b ∣ n) (hst : ∀ b ∈ bases, Str n b) : Prm n := by
  apply Classical.byContradiction
  intro hc
  have hp11 : ∀ q, Prm q → q ∣ n → 11 ≤ q := fun q hq hd => by
    apply Classical.byContradiction
    intro h
    exact hb q (small_prm hq (by omega)) hd
  have hodd : n % 2 = 1 := by
    have := hb 2 (by decide)
    rw [Nat.dvd_iff_mod_eq_zero] at this
    omega
  have hlim : lim = 1000000000 := rfl
  have hone : ∀ a ∈ bases, a ^ (n - 1) % n = 1 := fun a ha => (hst a ha).one (by omega)
  by_cases c1 : ∃ q, Prm q ∧ q ∣ n ∧ 31683 < q
  · obtain ⟨q, hq, ⟨s, hs⟩, hql⟩ := c1
    have hs0 : s ≠ 0 := fun e => by rw [e, Nat.mul_zero] at hs; omega
    have hs1 : s ≠ 1 := fun e => by
      rw [e, Nat.mul_one] at hs
      exact hc (hs ▸ hq)
    obtain ⟨r, hr, hrs⟩ := exists_prm s (by omega)
    have hr11 := hp11 r hr (hs ▸ Nat.dvd_trans hrs ⟨q, Nat.mul_comm _ _⟩)
    have hsr := Nat.le_of_dvd (by omega) hrs
    obtain ⟨e, rfl⟩ : ∃ e, s = e + 1 := ⟨s - 1, by omega⟩
    have he : e ≤ 31560 := by
      apply Classical.byContradiction
      intro h
      have := Nat.mul_le_mul (show 31684 ≤ q by omega) (show 31562 ≤ e + 1 by omega)
      omega
    have he2 : e % 2 = 0 := by
      apply Classical.byContradiction
      intro h
      have : 2 ∣ n := by
        rw [hs]
        exact Nat.dvd_trans (⟨(e + 1) / 2, by omega⟩ : 2 ∣ e + 1) ⟨q, Nat.mul_comm _ _⟩
      exact hb 2 (by decide) this
    exact chkA_no (chkA_all (by omega) he he2) hq hql (by omega) (by omega) (by rw [← hs]; exact hst)
  by_cases c2 : ∃ q, Prm q ∧ q ∣ n ∧ 2237 ≤ q
  · obtain ⟨q, hq, ⟨s, hs⟩, hql⟩ := c2
    have hqu : q ≤ 31683 := by
      apply Classical.byContradiction
      intro h
      exact c1 ⟨q, hq, ⟨s, hs⟩, by omega⟩
    have hs0 : s ≠ 0 := fun e => by rw [e, Nat.mul_zero] at hs; omega
    have hs1 : s ≠ 1 := fun e => by
      rw [e, Nat.mul_one] at hs
      exact hc (hs ▸ hq)
    have hq2 : q % 2 = 1 := by
      apply Classical.byContradiction
      intro h
      have : 2 ∣ n := by
        rw [hs]
        exact Nat.dvd_trans (⟨q / 2, by omega⟩ : 2 ∣ q) ⟨s, rfl⟩
      exact hb 2 (by decide) this
    exact chkB_no (s := s) (chkB_all hql hqu hq2) hq (by omega) (by omega) (by omega) (by rw [← hs]; exact hst)
  · have hin : ∀ r, Prm r → r ∣ n → ∃ x ∈ tab, x.1 = r := fun r hr hd => in_tab hr (hp11 r hr hd) (by
      apply Classical.byContradiction
      intro h
      exact c2 ⟨r, hr, hd, by omega⟩)
    have hg : ∀ x ∈ tab, x.1 ∣ n → x.2 ∣ n - 1 := fun x hx hd => by
      obtain ⟨t1, t2, t3, ⟨rs, t4⟩, t5⟩ := tab_ok hx
      exact t4.dvd (by omega) t5 fun a ha => pow_of_dvd (by omega) hd (hone a ha)
    obtain ⟨r, hr, hrn⟩ := exists_prm n (by omega)
    obtain ⟨x, hx, hxr⟩ := hin r hr hrn
    obtain ⟨a, q, L, b, e, ⟨s, hs⟩, ha⟩ := first_dvd tab ⟨x, hx, by rw [hxr]; exact hrn⟩
    have hqt : (q, L) ∈ tab := by rw [e]; simp
    obtain ⟨t1, t2, t3, ⟨rs, t4⟩, t5⟩ := tab_ok hqt
    have hs0 : s ≠ 0 := fun e => by rw [e, Nat.mul_zero] at hs; omega
    have hs1 : s ≠ 1 := fun e => by
      rw [e, Nat.mul_one] at hs
      exact hc (hs ▸ t3)
    refine top_no t3 t1 t4 t5 (top_all e (by have : q < 2237 := t2; omega)) hs (by omega) (by omega) hl hst (hg _ hqt ⟨s, hs⟩) (fun y hy => hg y ?_) (fun r hr hrs => ?_) (fun y hy => ?_)
    · rw [e]; exact List.mem_append_right _ hy
    · have hrn : r ∣ n := by rw [hs]; exact Nat.dvd_trans hrs ⟨q, Nat.mul_comm _ _⟩
      obtain ⟨y, hy, hyr⟩ := hin r hr hrn
      rw [e] at hy
      rcases List.mem_append.mp hy with hy | hy
      · exact absurd (hyr ▸ hrn) (ha y hy)
      · exact ⟨y, hy, hyr⟩
    · have := (tab_ok (x := y) (by rw [e]; exact List.mem_append_right _ hy)).1
      omega
end PM
namespace K02
open PySem PySem.Spec PyProof.Rows L2 DL
def powN : Nat → Nat → Nat → Nat → Nat → Nat
  | 0, r, _, _, _ => r
  | f + 1, r, s, l, p => if 0 < l then powN f (if l % 2 = 1 then r * s % p else r) (s * s % p) (l / 2) p else r
theorem powF_N : ∀ (f r s l p : Nat), powF f (r : Int) s l p = ((powN f r s l p : Nat) : Int)
  | 0, _, _, _, _ => rfl
  | f + 1, r, s, l, p => by
    rw [powF.eq_2, powN]
    by_cases h : 0 < l
    · rw [if_pos h, if_pos (by omega)]
      have e1 : (s : Int) * s % p = ((s * s % p : Nat) : Int) := rfl
      have e2 : (l : Int) / 2 = ((l / 2 : Nat) : Int) := rfl
      rw [e1, e2]
      by_cases h2 : l % 2 = 1
      · rw [if_pos h2, if_pos (by omega), show (r : Int) * s % p = ((r * s % p : Nat) : Int) from rfl]
        exact powF_N f _ _ _ _
      · rw [if_neg h2, if_neg (by omega)]
        exact powF_N f _ _ _ _
    · rw [if_neg h, if_neg (by omega)]
theorem powN_mod {p : Nat} : ∀ (f r s l : Nat), l < 2 ^ f → powN f r s l p % p = r * s ^ l % p
  | 0, r, s, l, h => by
    have : l = 0 := by simpa using h
    subst this
    simp [powN]
  | f + 1, r, s, l, h => by
    rw [powN]
    by_cases h0 : 0 < l
    · rw [if_pos h0, powN_mod f _ _ _ (by rw [Nat.pow_succ] at h; omega)]
      have e : s ^ l = (s * s) ^ (l / 2) * s ^ (l % 2) := by
        rw [← Nat.pow_two, ← Nat.pow_mul, ← Nat.pow_add]
        congr 1
        omega
      have hs : ∀ x : Nat, x * (s * s % p) ^ (l / 2) % p = x * (s * s) ^ (l / 2) % p := fun x => by
        rw [Nat.mul_mod, ← Nat.pow_mod, ← Nat.mul_mod]
      rw [hs, e]
      by_cases h2 : l % 2 = 1
      · rw [if_pos h2, h2, Nat.pow_one, Nat.mul_mod, Nat.mod_mod, ← Nat.mul_mod]
        congr 1
        rw [Nat.mul_assoc, Nat.mul_comm s]
      · have : l % 2 = 0 := by omega
        rw [if_neg h2, this, Nat.pow_zero, Nat.mul_one]
    · have : l = 0 := by omega
      subst this
      simp
theorem oddF_N : ∀ (f o t : Nat), 0 < o → o < 2 ^ f → ∃ o' t' : Nat, oddF f (o : Int) (t : Int) = ((o' : Int), (t' : Int)) ∧ o' % 2 = 1 ∧ t ≤ t' ∧ o = o' * 2 ^ (t' - t)
  | 0, o, t, h0, h => by
    exfalso
    have : o < 1 := h
    omega
  | f + 1, o, t, h0, h => by
    rw [oddF.eq_2]
    by_cases h2 : o % 2 = 0
    · rw [if_pos (by omega), show (o : Int) / 2 = ((o / 2 : Nat) : Int) from rfl, show (t : Int) + 1 = ((t + 1 : Nat) : Int) from rfl]
      obtain ⟨o', t', e, h1, h3, h4⟩ := oddF_N f (o / 2) (t + 1) (by omega) (by rw [Nat.pow_succ] at h; omega)
      refine ⟨o', t', e, h1, by omega, ?_⟩
      have : t' - t = (t' - (t + 1)) + 1 := by omega
      rw [this, Nat.pow_succ, ← Nat.mul_assoc, ← h4]
      omega
    · rw [if_neg (by omega)]
      exact ⟨o, t, rfl, by omega, Nat.le_refl _, by rw [Nat.sub_self]; simp⟩
theorem red_1 {n : Nat} {x : Int} (hn : 2 < n) : red n x = 1 ↔ x % n = 1 := by
  have a := Int.emod_nonneg x (show (n : Int) ≠ 0 by omega)
  have b := Int.emod_lt_of_pos x (show (0 : Int) < n by omega)
  unfold red
  split <;> omega
theorem red_m1 {n : Nat} {x : Int} (hn : 2 < n) (ho : n % 2 = 1) : red n x = -1 ↔ x % n = n - 1 := by
  have a := Int.emod_nonneg x (show (n : Int) ≠ 0 by omega)
  have b := Int.emod_lt_of_pos x (show (0 : Int) < n by omega)
  unfold red
  split <;> omega
theorem red_emod {n : Nat} {x : Int} : red n x % n = x % n := by
  unfold red
  split
  · rw [show x % (n : Int) - n = x % n + n * (-1) by omega, Int.add_mul_emod_self_left, Int.emod_emod]
  · rw [Int.emod_emod]
theorem sqF_iff {n : Nat} (hn : 2 < n) (ho : n % 2 = 1) : ∀ (t : Nat) (w : Int) (x : Nat), w % n = ((x % n : Nat) : Int) → (sqF t w n = true ↔ ∃ i, i < t ∧ x ^ (2 ^ (i + 1)) % n = n - 1)
  | 0, w, x, _ => ⟨fun h => (by cases h), fun ⟨i, hi, _⟩ => absurd hi (Nat.not_lt_zero _)⟩
  | t + 1, w, x, hw => by
    have h2 : (w * w) % n = ((x * x % n : Nat) : Int) := by
      rw [Int.mul_emod, hw]
      show (((x % n) * (x % n) % n : Nat) : Int) = _
      rw [← Nat.mul_mod]
    have h3 : red n (w * w) % n = ((x * x % n : Nat) : Int) := by rw [red_emod, h2]
    have hm := red_m1 (x := w * w) hn ho
    have ih := sqF_iff hn ho t (red n (w * w)) (x * x) h3
    rw [sqF.eq_2]
    have hlt := Nat.mod_lt (x * x) (show 0 < n by omega)
    by_cases c : red n (w * w) = -1
    · rw [if_pos c]
      refine ⟨fun _ => ⟨0, by omega, ?_⟩, fun _ => rfl⟩
      have := hm.mp c
      rw [h2] at this
      rw [show x ^ (2 ^ (0 + 1)) = x * x by rw [Nat.zero_add, Nat.pow_one, Nat.pow_two]]
      omega
    · rw [if_neg c, ih]
      constructor
      · rintro ⟨i, hi, e⟩
        refine ⟨i + 1, by omega, ?_⟩
        rw [← e, ← Nat.pow_two, ← Nat.pow_mul]
        congr 2
        rw [Nat.pow_succ 2 (i + 1), Nat.mul_comm]
      · rintro ⟨i, hi, e⟩
        cases i with
        | zero =>
          exfalso
          apply c
          rw [hm, h2]
          rw [show x ^ (2 ^ (0 + 1)) = x * x by rw [Nat.zero_add, Nat.pow_one, Nat.pow_two]] at e
          omega
        | succ i =>
          refine ⟨i, by omega, ?_⟩
          rw [← e, ← Nat.pow_two, ← Nat.pow_mul]
          congr 2
          rw [Nat.pow_succ 2 (i + 1), Nat.mul_comm]
theorem isPb_iff {n b : Nat} (hn : 2 < n) (ho : n % 2 = 1) (hl : n < 2 ^ 31) : ∃ o t : Nat, n - 1 = o * 2 ^ t ∧ o % 2 = 1 ∧ 0 < t ∧ (isPb n b = true ↔ (b ^ o % n = 1 ∨ ∃ i, i < t ∧ b ^ (o * 2 ^ i) % n = n - 1)) := by
  obtain ⟨o, t, e, h1, _, h4⟩ := oddF_N 40 (n - 1) 0 (by omega) (by omega)
  rw [Nat.sub_zero] at h4
  have ht : 0 < t := by
    rcases Nat.eq_zero_or_pos t with z | z
    · rw [z, Nat.pow_zero, Nat.mul_one] at h4; omega
    · exact z
  have hol : o ≤ n - 1 := by
    rw [h4]
    exact Nat.le_mul_of_pos_right _ (Nat.pos_of_ne_zero (by simp))
  refine ⟨o, t, h4, h1, ht, ?_⟩
  have e0 : (n : Int) - 1 = ((n - 1 : Nat) : Int) := by omega
  have e1 : (b : Int) % n = ((b % n : Nat) : Int) := rfl
  unfold isPb
  rw [e0, show (0 : Int) = ((0 : Nat) : Int) from rfl, e]
  dsimp only
  rw [e1, show (1 : Int) = ((1 : Nat) : Int) from rfl, powF_N]
  generalize hx : powN 40 1 (b % n) o n = x
  have hxm : x % n = b ^ o % n := by
    rw [← hx, powN_mod 40 _ _ _ (by omega), Nat.one_mul, ← Nat.pow_mod]
  have hlt := Nat.mod_lt (b ^ o) (show 0 < n by omega)
  have hw : red n (x : Int) % n = ((x % n : Nat) : Int) := by rw [red_emod]; rfl
  have hs := sqF_iff hn ho (t - 1) (red n (x : Int)) x hw
  have hxp : ∀ k, x ^ k % n = b ^ (o * k) % n := fun k => by rw [Nat.pow_mod, hxm, ← Nat.pow_mod, ← Nat.pow_mul]
  have r1 := red_1 (n := n) (x := (x : Int)) hn
  have r2 := red_m1 (n := n) (x := (x : Int)) hn ho
  have ex : (x : Int) % n = ((x % n : Nat) : Int) := rfl
  rw [ex, hxm] at r1 r2
  have et : (((t : Nat) : Int) - ((1 : Nat) : Int)).toNat = t - 1 := by omega
  rw [et]
  by_cases c : is1 (red n (x : Int)) = true
  · rw [if_pos c]
    refine ⟨fun _ => ?_, fun _ => rfl⟩
    unfold is1 at c
    rw [Bool.or_false, Bool.or_eq_true, beq_iff_eq, beq_iff_eq] at c
    rcases c with c | c
    · exact .inl (by have := r1.mp c.symm; omega)
    · refine .inr ⟨0, ht, ?_⟩
      have := r2.mp c.symm
      rw [Nat.pow_zero, Nat.mul_one]
      omega
  · rw [if_neg c, hs]
    have c1 : red n (x : Int) ≠ 1 := fun h => c (by rw [h]; rfl)
    have c2 : red n (x : Int) ≠ -1 := fun h => c (by rw [h]; rfl)
    constructor
    · rintro ⟨i, hi, e⟩
      rw [hxp] at e
      exact .inr ⟨i + 1, by omega, e⟩
    · rintro (h | ⟨i, hi, e⟩)
      · exact absurd (r1.mpr (by omega)) c1
      · cases i with
        | zero =>
          rw [Nat.pow_zero, Nat.mul_one] at e
          exact absurd (r2.mpr (by omega)) c2
        | succ i => exact ⟨i, by omega, by rw [hxp]; exact e⟩
theorem prm_str {n b : Nat} (h : PM.Prm n) (hn : 2 < n) (hb : ¬ n ∣ b) {o : Nat} : ∀ {t : Nat}, b ^ (o * 2 ^ t) % n = 1 → (b ^ o % n = 1 ∨ ∃ i, i < t ∧ b ^ (o * 2 ^ i) % n = n - 1)
  | 0, e => .inl (by rwa [Nat.pow_zero, Nat.mul_one] at e)
  | t + 1, e => by
    have e1 : o * 2 ^ (t + 1) = o * 2 ^ t * 2 := by rw [Nat.pow_succ, Nat.mul_assoc]
    rw [e1, Nat.pow_mul] at e
    generalize hx : b ^ (o * 2 ^ t) = x at e
    have hd : n ∣ x ^ 2 - 1 := PM.dvd_pred (by omega) e
    have hx0 : 1 ≤ x := by
      rw [← hx]
      refine Nat.pos_of_ne_zero fun z => hb ?_
      have : b = 0 := Nat.pow_eq_zero.mp z |>.1
      rw [this]
      exact ⟨0, rfl⟩
    have e2 : x ^ 2 - 1 = (x - 1) * (x + 1) := by
      obtain ⟨y, rfl⟩ : ∃ y, x = y + 1 := ⟨x - 1, by omega⟩
      rw [Nat.pow_two, Nat.add_sub_cancel, Nat.mul_add, Nat.add_mul]
      first
        | (simp [Nat.mul_add]; done)
        | (simp [Nat.mul_add]; omega)
    rw [e2] at hd
    rcases h.mul hd with h1 | h1
    · have : x % n = 1 := by
        obtain ⟨c, hc⟩ := h1
        rw [show x = 1 + n * c by omega, Nat.add_mul_mod_self_left, Nat.mod_eq_of_lt (by omega)]
      rcases prm_str h hn hb (o := o) (t := t) (by rw [hx]; exact this) with h2 | ⟨i, hi, h2⟩
      · exact .inl h2
      · exact .inr ⟨i, by omega, h2⟩
    · refine .inr ⟨t, by omega, ?_⟩
      rw [hx]
      obtain ⟨c, hc⟩ := h1
      have hc0 : c ≠ 0 := fun z => by rw [z, Nat.mul_zero] at hc; omega
      obtain ⟨d, rfl⟩ : ∃ d, c = d + 1 := ⟨c - 1, by omega⟩
      rw [show x = (n - 1) + n * d by rw [Nat.mul_add] at hc; omega, Nat.add_mul_mod_self_left, Nat.mod_eq_of_lt (by omega)]
theorem isPr_big {n : Nat} (h : 11 ≤ n) (hl : n ≤ 1000000000) : isPr n = true ↔ PM.Prm n := by
  have dv : ∀ b : Nat, (n : Int) % b = 0 ↔ b ∣ n := fun b => by
    rw [show (n : Int) % b = ((n % b : Nat) : Int) from rfl, Nat.dvd_iff_mod_eq_zero]
    omega
  have d2 := dv 2
  have d3 := dv 3
  have d5 := dv 5
  have d7 := dv 7
  have hdd : ∀ b : Nat, b ∈ PM.bases → b ∣ n → ¬ PM.Prm n := fun b hb hd hp => by
    have hb1 : ∀ b ∈ PM.bases, b ≠ 1 ∧ b < 11 := by decide
    rcases hp.2 b hd with h1 | h1
    · exact (hb1 b hb).1 h1
    · have := (hb1 b hb).2
      omega
  unfold isPr divs
  by_cases c2 : (n : Int) % 2 = 0
  · rw [if_pos c2]
    have : decide ((n : Int) = 2) = false := decide_eq_false (by omega)
    rw [this]
    exact ⟨fun h => (by cases h), fun hp => absurd hp (hdd 2 (by decide) (d2.mp c2))⟩
  rw [if_neg c2, divs]
  by_cases c3 : (n : Int) % 3 = 0
  · rw [if_pos c3]
    have : decide ((n : Int) = 3) = false := decide_eq_false (by omega)
    rw [this]
    exact ⟨fun h => (by cases h), fun hp => absurd hp (hdd 3 (by decide) (d3.mp c3))⟩
  rw [if_neg c3, divs]
  by_cases c5 : (n : Int) % 5 = 0
  · rw [if_pos c5]
    have : decide ((n : Int) = 5) = false := decide_eq_false (by omega)
    rw [this]
    exact ⟨fun h => (by cases h), fun hp => absurd hp (hdd 5 (by decide) (d5.mp c5))⟩
  rw [if_neg c5, divs]
  by_cases c7 : (n : Int) % 7 = 0
  · rw [if_pos c7]
    have : decide ((n : Int) = 7) = false := decide_eq_false (by omega)
    rw [this]
    exact ⟨fun h => (by cases h), fun hp => absurd hp (hdd 7 (by decide) (d7.mp c7))⟩
  rw [if_neg c7, divs]
  have ho : n % 2 = 1 := by omega
  have hnb : ∀ b ∈ PM.bases, ¬ b ∣ n := fun b hb hd => by
    have : b = 2 ∨ b = 3 ∨ b = 5 ∨ b = 7 := by simpa [PM.bases] using hb
    rcases this with rfl | rfl | rfl | rfl
    · exact c2 (d2.mpr hd)
    · exact c3 (d3.mpr hd)
    · exact c5 (d5.mpr hd)
    · exact c7 (d7.mpr hd)
  show (([2, 3, 5, 7] : List Int).all (isPb n)) = true ↔ _
  have hall : (([2, 3, 5, 7] : List Int).all (isPb n)) = true ↔ ∀ b ∈ PM.bases, isPb n (b : Nat) = true := by
    rw [List.all_eq_true]
    constructor
    · intro h b hb
      have : b = 2 ∨ b = 3 ∨ b = 5 ∨ b = 7 := by simpa [PM.bases] using hb
      rcases this with rfl | rfl | rfl | rfl
      · exact h 2 (by decide)
      · exact h 3 (by decide)
      · exact h 5 (by decide)
      · exact h 7 (by decide)
    · intro h b hb
      have : b = 2 ∨ b = 3 ∨ b = 5 ∨ b = 7 := by simpa using hb
      rcases this with rfl | rfl | rfl | rfl
      · exact h 2 (by decide)
      · exact h 3 (by decide)
      · exact h 5 (by decide)
      · exact h 7 (by decide)
  rw [hall]
  constructor
  · intro hp
    refine PM.strong_prm h hl hnb fun b hb => ?_
    obtain ⟨o, t, e, h1, h2, h3⟩ := isPb_iff (n := n) (b := b) (by omega) ho (by omega)
    exact ⟨o, t, e, h1, h3.mp (hp b hb)⟩
  · intro hp b hb
    obtain ⟨o, t, e, h1, h2, h3⟩ := isPb_iff (n := n) (b := b) (by omega) ho (by omega)
    have hnd := PM.bases_nd hp (by omega) b hb
    refine h3.mpr (prm_str hp (by omega) hnd ?_)
    rw [← e]
    exact PM.flt hp hnd
theorem small_dec : ∀ n : Nat, n < 11 → 3 ≤ n → (isPr n = true ↔ n = 3 ∨ n = 5 ∨ n = 7) := by
  have h : ∀ n : Nat, n < 11 → 3 ≤ n → (isPrE n = true ↔ n = 3 ∨ n = 5 ∨ n = 7) := by decide +kernel
  intro n h1 h2
  rw [← isPrE_eq]
  exact h n h1 h2
theorem isPr_iff {n : Nat} (h : 3 ≤ n) (hl : n ≤ 1000000000) : isPr n = true ↔ PM.Prm n := by
  by_cases c : 11 ≤ n
  · exact isPr_big c hl
  · rw [small_dec n (by omega) h]
    have bad : ∀ d, d ∣ n → d ≠ 1 → d ≠ n → ¬ PM.Prm n := fun d hd h1 h3 hp => by
      rcases hp.2 d hd with h4 | h4
      · exact h1 h4
      · exact h3 h4
    have good : ∀ n : Nat, 2 ≤ n → n < 4 * 4 → (∀ s, s < 4 → s ≠ 0 → s ≠ 1 → s ∣ n → s = n) → PM.Prm n := fun n h2 hb hh => PM.prm_of h2 hb fun s hs hsl hd => hh s hsl (by have := hs.1; omega) (by have := hs.1; omega) hd
    have : n = 3 ∨ n = 4 ∨ n = 5 ∨ n = 6 ∨ n = 7 ∨ n = 8 ∨ n = 9 ∨ n = 10 := by omega
    rcases this with rfl | rfl | rfl | rfl | rfl | rfl | rfl | rfl
    · exact ⟨fun _ => good 3 (by decide) (by decide) (by decide), fun _ => by decide⟩
    · exact ⟨fun h => by omega, fun h => absurd h (bad 2 (by decide) (by decide) (by decide))⟩
    · exact ⟨fun _ => good 5 (by decide) (by decide) (by decide), fun _ => by decide⟩
    · exact ⟨fun h => by omega, fun h => absurd h (bad 2 (by decide) (by decide) (by decide))⟩
    · exact ⟨fun _ => good 7 (by decide) (by decide) (by decide), fun _ => by decide⟩
    · exact ⟨fun h => by omega, fun h => absurd h (bad 2 (by decide) (by decide) (by decide))⟩
    · exact ⟨fun h => by omega, fun h => absurd h (bad 3 (by decide) (by decide) (by decide))⟩
    · exact ⟨fun h => by omega, fun h => absurd h (bad 2 (by decide) (by decide) (by decide))⟩
theorem trial_iff {n : Nat} (h : 3 ≤ n) (ho : n % 2 = 1) : PM.Prm n ↔ ∀ k, 3 ≤ k → k % 2 = 1 → k * k ≤ n → ¬ k ∣ n := by
  constructor
  · intro hp k hk _ hkk hd
    rcases hp.2 k hd with h1 | h1
    · omega
    · subst h1
      have : k * 3 ≤ k * k := Nat.mul_le_mul_left k hk
      omega
  · intro hh
    apply Classical.byContradiction
    intro hc
    have key : ∀ x y : Nat, n = x * y → x ≠ 1 → x ≤ y → False := fun x y hxy h1 hle => by
      have hx0 : x ≠ 0 := fun z => by rw [z, Nat.zero_mul] at hxy; omega
      have hx2 : x % 2 = 1 := by
        apply Classical.byContradiction
        intro hz
        have : 2 ∣ n := by
          rw [hxy]
          exact Nat.dvd_trans ⟨x / 2, by omega⟩ ⟨y, rfl⟩
        omega
      exact hh x (by omega) hx2 (by rw [hxy]; exact Nat.mul_le_mul_left x hle) ⟨y, hxy⟩
    refine hc ⟨by omega, fun d hd => ?_⟩
    apply Classical.byContradiction
    intro hx
    obtain ⟨e, he⟩ := hd
    have hd1 : d ≠ 1 := fun z => hx (.inl z)
    have he1 : e ≠ 1 := fun z => hx (.inr (by rw [he, z, Nat.mul_one]))
    rcases Nat.le_total d e with hle | hle
    · exact key d e he hd1 hle
    · exact key e d (by rw [he, Nat.mul_comm]) he1 hle
inductive Kd : D → Prop
  | int (n : Int) : Kd (.int n)
  | bl (b : Bool) : Kd (.bl b)
  | oth {d : D} (h : ∀ S, p_isi [d, .ty "int"] S = .ok (.bl false) S) (h2 : ∀ n, d ≠ .int n) : Kd d
def btD (d : D) (a b : Int) : Bool := match d with
  | .int x => decide (a ≤ x) && decide (x ≤ b)
  | _ => false
def prO (x : Int) : Bool := decide (3 ≤ x) && decide (x ≤ 1000000000) && isPr x
def prD (d : D) : Bool := match d with
  | .int n => prO n
  | _ => false
theorem btD_oth {d : D} {a b : Int} (h : ∀ n, d ≠ .int n) : btD d a b = false := by
  cases d <;> first | rfl | exact absurd rfl (h _)
theorem prD_oth {d : D} (h : ∀ n, d ≠ .int n) : prD d = false := by
  cases d <;> first | rfl | exact absurd rfl (h _)
section
variable {G : Gx} {S : Sto}
theorem isi_bl (b : Bool) (S : Sto) : p_isi [.bl b, .ty "int"] S = .ok (.bl true) S ∧ p_isi [.bl b, .ty "bool"] S = .ok (.bl true) S := ⟨rfl, rfl⟩
theorem between_d {d : D} (k : Kd d) {a b : Int} : m_is_between G [d, .int a, .int b] S = .ok (.bl (btD d a b)) S := by
  cases k with
  | int x => exact is_between_eq
  | bl v =>
    refine eq_wp ?_
    rw [m_is_between, fnR_eq]
    show wp (ret S (c_is_between G [some (.bl v), some (.int a), some (.int b)] S)) _
    unfold c_is_between
    have h1 := isi_bl v S
    push_cast [h1.1, h1.2]
    all_goals first | exact ⟨rfl, trivial⟩ | exact ⟨trivial, trivial⟩ | exact trivial | exact ⟨rfl, rfl⟩
  | oth h h2 =>
    rw [btD_oth h2]
    refine eq_wp ?_
    rw [m_is_between, fnR_eq]
    show wp (ret S (c_is_between G [some d, some (.int a), some (.int b)] S)) _
    unfold c_is_between
    push_cast [h]
    all_goals first | exact ⟨rfl, trivial⟩ | exact ⟨trivial, trivial⟩ | exact trivial | exact ⟨rfl, rfl⟩
theorem law_between_d {d : D} (k : Kd d) {a b : Int} : m__law_is_between G [d, .int a, .int b] S = .ok (.bl (btD d a b)) S := by
  cases k with
  | int x =>
    refine eq_wp ?_
    rw [m__law_is_between, fnR_eq]
    show wp (ret S (c__law_is_between G [some (.int x), some (.int a), some (.int b)] S)) _
    unfold c__law_is_between
    by_cases h1 : a ≤ x
    · by_cases h2 : x ≤ b
      · have : btD (.int x) a b = true := by unfold btD; simp [h1, h2]
        rw [this]
        push_cast [h1, h2]
        all_goals first | exact ⟨rfl, trivial⟩ | exact ⟨trivial, trivial⟩ | exact trivial | exact ⟨rfl, rfl⟩
      · have : btD (.int x) a b = false := by unfold btD; simp [h2]
        rw [this]
        push_cast [h1, h2]
        all_goals first | exact ⟨rfl, trivial⟩ | exact ⟨trivial, trivial⟩ | exact trivial | exact ⟨rfl, rfl⟩
    · have : btD (.int x) a b = false := by unfold btD; simp [h1]
      rw [this]
      push_cast [h1]
      all_goals first | exact ⟨rfl, trivial⟩ | exact ⟨trivial, trivial⟩ | exact trivial | exact ⟨rfl, rfl⟩
  | bl v =>
    refine eq_wp ?_
    rw [m__law_is_between, fnR_eq]
    show wp (ret S (c__law_is_between G [some (.bl v), some (.int a), some (.int b)] S)) _
    unfold c__law_is_between
    have h1 := isi_bl v S
    push_cast [h1.1, h1.2]
    all_goals first | exact ⟨rfl, trivial⟩ | exact ⟨trivial, trivial⟩ | exact trivial | exact ⟨rfl, rfl⟩
  | oth h h2 =>
    rw [btD_oth h2]
    refine eq_wp ?_
    rw [m__law_is_between, fnR_eq]
    show wp (ret S (c__law_is_between G [some d, some (.int a), some (.int b)] S)) _
    unfold c__law_is_between
    push_cast [h]
    all_goals first | exact ⟨rfl, trivial⟩ | exact ⟨trivial, trivial⟩ | exact trivial | exact ⟨rfl, rfl⟩
theorem prime_d {d : D} (k : Kd d) : m_Scheme_is_prime G [d] S = .ok (.bl (prD d)) S := by
  refine eq_wp ?_
  rw [m_Scheme_is_prime, fnR_eq]
  show wp (ret S (c_Scheme_is_prime G [some d] S)) _
  unfold c_Scheme_is_prime
  have hb := between_d (G := G) (S := S) k (a := 3) (b := 1000000000)
  cases hq : btD d 3 1000000000 with
  | false =>
    have : prD d = false := by
      cases d with
      | int p => unfold btD at hq; unfold prD prO; dsimp only at hq ⊢; rw [hq]; rfl
      | _ => rfl
    rw [hq] at hb
    push_cast [mp_is_between, hb, this]
    all_goals first | exact ⟨rfl, trivial⟩ | exact ⟨trivial, trivial⟩ | exact trivial | exact ⟨rfl, rfl⟩
  | true =>
    cases d with
    | int p =>
      have hq' := hq
      unfold btD at hq'
      rw [Bool.and_eq_true, decide_eq_true_eq, decide_eq_true_eq] at hq'
      have h3 : prD (.int p) = isPr p := by
        unfold prD prO
        dsimp only
        rw [decide_eq_true hq'.1, decide_eq_true hq'.2]
        rfl
      rw [hq] at hb
      have hod := is_odd_prime_eq (G := G) (S := S) (n := p) hq'.1 (by omega)
      push_cast [mp_is_between, hb, h3, mp_is_odd_prime, hod]
      all_goals first | exact ⟨rfl, trivial⟩ | exact ⟨trivial, trivial⟩ | exact trivial | exact ⟨rfl, rfl⟩
    | _ => cases hq
theorem isPr_even {n : Int} (h3 : 3 ≤ n) (h : n % 2 = 0) : isPr n = false := by
  unfold isPr divs
  rw [if_pos h]
  have : decide (n = 2) = false := decide_eq_false (by omega)
  rw [this]
  rfl
theorem law_prime_d {d : D} (k : Kd d) : m__law_is_prime G [d] S = .ok (.bl (prD d)) S := by
  refine eq_wp ?_
  rw [m__law_is_prime, fnR_eq]
  show wp (ret S (c__law_is_prime G [some d, none] S)) _
  unfold c__law_is_prime
  have hp : ∀ S, p_pow (.int 10) (.int 9) S = .ok (.int 1000000000) S := fun S => by
    rw [pow_eq (by decide) (by decide) (by decide)]
    rfl
  cases k with
  | bl v =>
    have h1 := isi_bl v S
    push_cast [h1.1, h1.2]
    all_goals first | exact ⟨rfl, trivial⟩ | exact ⟨trivial, trivial⟩ | exact trivial | exact ⟨rfl, rfl⟩
  | oth h h2 =>
    rw [prD_oth h2]
    push_cast [h]
    all_goals first | exact ⟨rfl, trivial⟩ | exact ⟨trivial, trivial⟩ | exact trivial | exact ⟨rfl, rfl⟩
  | int n =>
    have e0 : prD (.int n) = prO n := rfl
    rw [e0]
    by_cases c1 : 3 ≤ n
    · by_cases c2 : n ≤ 1000000000
      · have hpr : prO n = isPr n := by
          unfold prO
          rw [decide_eq_true c1, decide_eq_true c2]
          rfl
        rw [hpr]
        by_cases c3 : n % 2 = 0
        · rw [isPr_even (by omega) c3]
          push_cast [c1, hp, c2, c3]
          all_goals first | exact ⟨rfl, trivial⟩ | exact ⟨trivial, trivial⟩ | exact trivial | exact ⟨rfl, rfl⟩
        obtain ⟨N, rfl⟩ : ∃ N : Nat, n = N := ⟨n.toNat, by omega⟩
        have hN3 : 3 ≤ N := by omega
        have hNl : N ≤ 1000000000 := by omega
        have hNo : N % 2 = 1 := by omega
        have key := (isPr_iff hN3 hNl).trans (trial_iff hN3 hNo)
        push_cast [c1, hp, c2, c3]
        refine wp_while 40000 (fun m ρ S' => ∃ d : Nat, m + d = 40003 ∧ ρ = [some (.int (N : Int)), some (.int (d : Int))] ∧ S' = S ∧ 3 ≤ d ∧ d % 2 = 1 ∧ d ≤ 31626 ∧ ∀ k, 3 ≤ k → k % 2 = 1 → k < d → ¬ k ∣ N) (by omega) ⟨3, by omega, rfl, rfl, by omega, by omega, by omega, fun k h1 _ h2 => by omega⟩ ?_
        rintro m ρ S' ⟨d, hm, rfl, rfl, h3, ho, hu, hk⟩
        have hmul : ∀ S, p_mul false (.int (d : Int)) (.int (d : Int)) S = .ok (.int ((d * d : Nat) : Int)) S := fun S => by
          rw [v_mulC (by omega) (by omega) (by omega) (by omega)]
          rfl
        by_cases c4 : d * d ≤ N
        · have hle : ∀ S, p_le (.int ((d * d : Nat) : Int)) (.int (N : Int)) S = .ok (.bl true) S := fun S => by
            rw [← decide_eq_true (show ((d * d : Nat) : Int) ≤ N by omega)]
            rfl
          have hd : d < 31624 := by
            apply Classical.byContradiction
            intro h
            have := Nat.mul_le_mul (show 31624 ≤ d by omega) (show 31624 ≤ d by omega)
            omega
          by_cases c5 : N % d = 0
          · have hmod : ∀ S, p_mod (.int (N : Int)) (.int (d : Int)) S = .ok (.int 0) S := fun S => by
              rw [v_modC (by omega), show (N : Int) % d = ((N % d : Nat) : Int) from rfl, c5]
              rfl
            have hf : isPr (N : Int) = false := by
              cases q : isPr (N : Int) with
              | false => rfl
              | true => exact absurd (Nat.dvd_of_mod_eq_zero c5) (key.mp q d h3 ho c4)
            push_cast [hmul, hle, hmod, hf]
            all_goals first | exact ⟨rfl, trivial⟩ | exact ⟨trivial, trivial⟩ | exact trivial | exact ⟨rfl, rfl⟩
          · have hmod : ∀ S, p_mod (.int (N : Int)) (.int (d : Int)) S = .ok (.int ((N % d : Nat) : Int)) S := fun S => by
              rw [v_modC (by omega)]
              rfl
            have hne : ¬ ((N % d : Nat) : Int) = 0 := by omega
            have hadd : ∀ S, p_add false (.int (d : Int)) (.int 2) S = .ok (.int ((d + 2 : Nat) : Int)) S := fun S => by
              rw [show ((d + 2 : Nat) : Int) = (d : Int) + 2 from rfl]
              push_cast []
            generalize ((N % d : Nat) : Int) = R at *
            push_cast [hmul, hle, hmod, hne, hadd]
            refine ⟨m - 2, by omega, d + 2, by omega, by first | rfl | trivial, by first | rfl | trivial, by omega, by omega, by omega, fun k h1 h2 h4 => ?_⟩
            by_cases c6 : k = d
            · subst c6
              exact fun h => c5 (Nat.mod_eq_zero_of_dvd h)
            · exact hk k h1 h2 (by omega)
        · have hle : ∀ S, p_le (.int ((d * d : Nat) : Int)) (.int (N : Int)) S = .ok (.bl false) S := fun S => by
            rw [← decide_eq_false (show ¬ ((d * d : Nat) : Int) ≤ N by omega)]
            rfl
          have ht : isPr (N : Int) = true := key.mpr fun k h1 h2 h4 => hk k h1 h2 (by
            apply Classical.byContradiction
            intro h
            have := Nat.mul_le_mul (show d ≤ k by omega) (show d ≤ k by omega)
            omega)
          push_cast [hmul, hle, ht]
          all_goals first | exact ⟨rfl, trivial⟩ | exact ⟨trivial, trivial⟩ | exact trivial | exact ⟨rfl, rfl⟩
      · have : prO n = false := by
          unfold prO
          rw [show decide (n ≤ 1000000000) = false from decide_eq_false (by omega), Bool.and_false]
          rfl
        rw [this]
        push_cast [c1, hp, c2]
        all_goals first | exact ⟨rfl, trivial⟩ | exact ⟨trivial, trivial⟩ | exact trivial | exact ⟨rfl, rfl⟩
    · have : prO n = false := by
        unfold prO
        rw [show decide (3 ≤ n) = false from decide_eq_false (by omega)]
        rfl
      rw [this]
      push_cast [c1, hp]
      all_goals first | exact ⟨rfl, trivial⟩ | exact ⟨trivial, trivial⟩ | exact trivial | exact ⟨rfl, rfl⟩
end
def Nx (x q : Int) : Prop := x < q ∧ prO q = true ∧ ∀ y, x < y → y < q → prO y = false
theorem prO_le {q : Int} (h : prO q = true) : 3 ≤ q ∧ q ≤ 1000000000 ∧ isPr q = true := by
  unfold prO at h
  simp only [Bool.and_eq_true, decide_eq_true_eq] at h
  exact ⟨h.1.1, h.1.2, h.2⟩
theorem nx_ex (x : Int) (h : x < 999999937) : ∃ q, Nx x q := by
  have hbig : prO 999999937 = true := by
    unfold prO
    rw [primes_ok (by simp)]
    rfl
  have key : ∀ m : Nat, ∀ x : Int, (999999937 - x).toNat = m → x < 999999937 → ∃ q, Nx x q := by
    intro m
    induction m with
    | zero => intro x h1 h2; omega
    | succ m ih =>
      intro x h1 h2
      by_cases c : prO (x + 1) = true
      · exact ⟨x + 1, by omega, c, fun y a b => by omega⟩
      · by_cases e : x + 1 = 999999937
        · rw [e] at c; exact absurd hbig c
        · obtain ⟨q, q1, q2, q3⟩ := ih (x + 1) (by omega) (by omega)
          refine ⟨q, by omega, q2, fun y a b => ?_⟩
          by_cases e2 : y = x + 1
          · rw [e2]; exact Bool.eq_false_iff.mpr c
          · exact q3 y (by omega) b
  exact key _ x rfl h
section
variable {G : Gx} {S : Sto}
theorem prime_from_eq {x q : Int} (h : Nx (x - 1) q) (hx : 2 ≤ x) : m__law_prime_from G [.int x] S = .ok (.int q) S := by
  obtain ⟨h1, h2, h3⟩ := h
  have hq := (prO_le h2).2.1
  refine eq_wp ?_
  rw [m__law_prime_from, fnR_eq]
  show wp (ret S (c__law_prime_from G [some (.int x)] S)) _
  unfold c__law_prime_from
  push_cast []
  refine wp_while (q - x + 1).toNat (fun m ρ S' => ∃ y : Int, (q - y).toNat < m ∧ x ≤ y ∧ y ≤ q ∧ ρ = [some (.int y)] ∧ S' = S) (by omega) ⟨x, by omega, by omega, by omega, rfl, rfl⟩ ?_
  rintro m ρ S' ⟨y, hm, y1, y2, rfl, rfl⟩
  have hp := law_prime_d (G := G) (S := S') (Kd.int y)
  have e : prD (.int y) = prO y := rfl
  rw [e] at hp
  by_cases c : y = q
  · subst c
    rw [h2] at hp
    push_cast [mp__law_is_prime, hp]
    all_goals first | exact ⟨rfl, trivial⟩ | exact ⟨trivial, trivial⟩ | exact trivial | exact ⟨rfl, rfl⟩
  · rw [h3 y (by omega) (by omega)] at hp
    push_cast [mp__law_is_prime, hp]
    exact ⟨(q - y).toNat, by omega, y + 1, by omega, by omega, by omega, by first | rfl | trivial, by first | rfl | trivial⟩
end
def sqOk (x y : D) : Bool := match x, y with
  | .int p, .int n => decide (n * n < p)
  | _, _ => false
def wrI (x y z : D) : Option Nat := if prD x = true then (if (btD y 2 24 && sqOk x y) = true then (if btD z 1 24 = true then none else some 2) else some 1) else some 0
def prt (x y z : D) (i : Nat) : D := if i = 0 then x else if i = 1 then y else z
def okS (p n k : Int) : Prop := 3 ≤ p ∧ p ≤ 1000000000 ∧ isPr p = true ∧ 2 ≤ n ∧ n ≤ 24 ∧ n * n < p ∧ 1 ≤ k ∧ k ≤ 24
theorem btD_int {d : D} {a b : Int} (h : btD d a b = true) : ∃ n, d = .int n ∧ a ≤ n ∧ n ≤ b := by
  unfold btD at h
  split at h
  · simp only [Bool.and_eq_true, decide_eq_true_eq] at h
    exact ⟨_, rfl, h.1, h.2⟩
  · cases h
theorem prD_int {d : D} (h : prD d = true) : ∃ p, d = .int p ∧ prO p = true := by
  unfold prD at h
  split at h
  · exact ⟨_, rfl, h⟩
  · cases h
theorem wrI_none {x y z : D} (h : wrI x y z = none) : ∃ p n k, x = .int p ∧ y = .int n ∧ z = .int k ∧ okS p n k := by
  unfold wrI at h
  split at h
  · rename_i h1
    split at h
    · rename_i h2
      split at h
      · rename_i h3
        obtain ⟨p, rfl, hp⟩ := prD_int h1
        rw [Bool.and_eq_true] at h2
        obtain ⟨n, rfl, n0, n1⟩ := btD_int h2.1
        obtain ⟨k, rfl, k0, k1⟩ := btD_int h3
        have hp2 := prO_le hp
        have h4 : n * n < p := of_decide_eq_true h2.2
        exact ⟨p, n, k, rfl, rfl, rfl, hp2.1, hp2.2.1, hp2.2.2, n0, n1, h4, k0, k1⟩
      · cases h
    · cases h
  · cases h
section
variable {G : Gx} {S : Sto}
theorem make_ok {p n k : Int} (h : okS p n k) : p_make false 0 (mp_Scheme__init_ G) [.int p, .int n, .int k] S = .ok (plan p n k) S := scheme_eq h.1 h.2.1 h.2.2.1 h.2.2.2.1 h.2.2.2.2.1 h.2.2.2.2.2.1 h.2.2.2.2.2.2.1 h.2.2.2.2.2.2.2
theorem init_bad {j i : Nat} {x y z : D} (kx : Kd x) (ky : Kd y) (kz : Kd z) (h : wrI x y z = some i) : wpx (m_Scheme__init_ G [.ref j, x, y, z] S) (fun _ _ => False) fun c d S' => c = 0 ∧ d = prt x y z i ∧ S' = S := by
  rw [m_Scheme__init_, fnR_eq]
  show wpx (ret S (c_Scheme__init_ G [some (.ref j), some x, some y, some z] S)) _ _
  unfold c_Scheme__init_ k_LEAST_ACCOUNTS
  have h1 := prime_d (G := G) (S := S) kx
  have h2 := between_d (G := G) (S := S) ky (a := 2) (b := 24)
  have h3 := between_d (G := G) (S := S) kz (a := 1) (b := 24)
  unfold wrI at h
  cases q1 : prD x with
  | false =>
    rw [q1] at h1 h
    cases h
    have e : prt x y z 0 = x := rfl
    rw [e]
    push_cast [mp_Scheme_is_prime, h1, retX_len (S := S) (S' := S) rfl]
  | true =>
    rw [q1] at h1 h
    rw [if_pos rfl] at h
    cases q2 : btD y 2 24 with
    | false =>
      rw [q2] at h2 h
      cases h
      have e : prt x y z 1 = y := rfl
      rw [e]
      push_cast [mp_Scheme_is_prime, h1, mp_is_between, h2, retX_len (S := S) (S' := S) rfl]
    | true =>
      rw [q2] at h2 h
      obtain ⟨p, rfl, hp⟩ := prD_int q1
      obtain ⟨n, rfl, n0, n1⟩ := btD_int q2
      have hm : ∀ S, p_mul false (.int n) (.int n) S = .ok (.int (n * n)) S := fun _ => v_mulC (by omega) (by omega) (by omega) (by omega)
      have hso : sqOk (.int p) (.int n) = decide (n * n < p) := rfl
      rw [hso] at h
      by_cases c : n * n < p
      · have hg : ∀ S, p_ge (.int (n * n)) (.int p) S = .ok (.bl false) S := fun S => by rw [← decide_eq_false (show ¬ p ≤ n * n by omega)]; rfl
        rw [decide_eq_true c, Bool.and_self, if_pos rfl] at h
        cases q3 : btD z 1 24 with
        | false =>
          rw [q3] at h3 h
          cases h
          have e : prt (.int p) (.int n) z 2 = z := rfl
          rw [e]
          push_cast [mp_Scheme_is_prime, h1, mp_is_between, h2, hm, hg, h3, retX_len (S := S) (S' := S) rfl]
        | true =>
          rw [q3] at h
          cases h
      · have hg : ∀ S, p_ge (.int (n * n)) (.int p) S = .ok (.bl true) S := fun S => by rw [← decide_eq_true (show p ≤ n * n by omega)]; rfl
        rw [decide_eq_false c] at h
        cases h
        have e : prt (.int p) (.int n) z 1 = .int n := rfl
        rw [e]
        push_cast [mp_Scheme_is_prime, h1, mp_is_between, h2, hm, hg, retX_len (S := S) (S' := S) rfl]
theorem law_wrong_eq {x y z : D} (kx : Kd x) (ky : Kd y) (kz : Kd z) : m__law_wrong G [.tup [x, y, z]] S = .ok (match wrI x y z with
    | none => .non
    | some i => .int (i : Nat)) S := by
  refine eq_wp ?_
  rw [m__law_wrong, fnR_eq]
  show wp (ret S (c__law_wrong G [some (.tup [x, y, z]), none, none, none] S)) _
  unfold c__law_wrong
  have ht : ∀ ρ S, g_tup 3 (g_cons (g_name 1) (g_cons (g_name 2) (g_cons (g_name 3) g_nil))) (.tup [x, y, z]) ρ S = .ok (((ρ.set 1 (some x)).set 2 (some y)).set 3 (some z)) S := fun ρ S => rfl
  have h1 := law_prime_d (G := G) (S := S) kx
  have h2 := law_between_d (G := G) (S := S) ky (a := 2) (b := 24)
  have h3 := law_between_d (G := G) (S := S) kz (a := 1) (b := 24)
  unfold wrI
  cases q1 : prD x with
  | false =>
    rw [q1] at h1
    push_cast [ht, mp__law_is_prime, h1]
    all_goals first | exact ⟨rfl, trivial⟩ | exact ⟨trivial, trivial⟩ | exact trivial | exact ⟨rfl, rfl⟩
  | true =>
    rw [q1] at h1
    rw [if_pos rfl]
    cases q2 : btD y 2 24 with
    | false =>
      rw [q2] at h2
      push_cast [ht, mp__law_is_prime, h1, mp__law_is_between, h2]
      all_goals first | exact ⟨rfl, trivial⟩ | exact ⟨trivial, trivial⟩ | exact trivial | exact ⟨rfl, rfl⟩
    | true =>
      rw [q2] at h2
      obtain ⟨p, rfl, hp⟩ := prD_int q1
      obtain ⟨n, rfl, n0, n1⟩ := btD_int q2
      have hm : ∀ S, p_mul false (.int n) (.int n) S = .ok (.int (n * n)) S := fun _ => v_mulC (by omega) (by omega) (by omega) (by omega)
      have hso : sqOk (.int p) (.int n) = decide (n * n < p) := rfl
      rw [hso]
      by_cases c : n * n < p
      · have hg : ∀ S, p_ge (.int (n * n)) (.int p) S = .ok (.bl false) S := fun S => by rw [← decide_eq_false (show ¬ p ≤ n * n by omega)]; rfl
        rw [decide_eq_true c, Bool.and_self, if_pos rfl]
        cases q3 : btD z 1 24 with
        | false =>
          rw [q3] at h3
          push_cast [ht, mp__law_is_prime, h1, mp__law_is_between, h2, hm, hg, h3]
          all_goals first | exact ⟨rfl, trivial⟩ | exact ⟨trivial, trivial⟩ | exact trivial | exact ⟨rfl, rfl⟩
        | true =>
          rw [q3] at h3
          push_cast [ht, mp__law_is_prime, h1, mp__law_is_between, h2, hm, hg, h3]
          all_goals first | exact ⟨rfl, trivial⟩ | exact ⟨trivial, trivial⟩ | exact trivial | exact ⟨rfl, rfl⟩
      · have hg : ∀ S, p_ge (.int (n * n)) (.int p) S = .ok (.bl true) S := fun S => by rw [← decide_eq_true (show p ≤ n * n by omega)]; rfl
        rw [decide_eq_false c]
        push_cast [ht, mp__law_is_prime, h1, mp__law_is_between, h2, hm, hg]
        all_goals first | exact ⟨rfl, trivial⟩ | exact ⟨trivial, trivial⟩ | exact trivial | exact ⟨rfl, rfl⟩
end
theorem textFrom_sum : ∀ (ts : List PySem.Str) (k : Nat) (acc : PySem.Str), (textFrom k acc ts).length ≤ acc.length + (ts.map fun t => t.length + 2).sum
  | [], k, acc => by
    show acc.length ≤ _
    omega
  | t :: ts, k, acc => by
    have ih := textFrom_sum ts (k + 1) (acc ++ (if k > 0 then ", " else "" : String) ++ t)
    have e : (acc ++ (if k > 0 then ", " else "" : String) ++ t).length = acc.length + (if k > 0 then 2 else 0) + t.length := by
      rw [PySem.strLen_append, PySem.strLen_append]
      split <;> rfl
    unfold textFrom
    rw [e] at ih
    rw [List.map_cons, List.sum_cons]
    refine Nat.le_trans ih ?_
    split <;> omega
theorem join_sum : ∀ ts : List PySem.Str, (PySem.Str.join ", " ts).length ≤ (ts.map fun t => t.length + 2).sum
  | [] => Nat.zero_le _
  | [t] => by
    show t.length ≤ _
    simp only [List.map_cons, List.map_nil, List.sum_cons, List.sum_nil]
    omega
  | t :: u :: r => by
    have ih := join_sum (u :: r)
    have e : PySem.Str.join ", " (t :: u :: r) = t ++ ", " ++ PySem.Str.join ", " (u :: r) := by rw [PySem.Str.join]; exact fun e => by cases e
    rw [e, PySem.strLen_append, PySem.strLen_append]
    have e2 : ((", " : String) : PySem.Str).length = 2 := rfl
    rw [e2, List.map_cons, List.sum_cons]
    omega
mutual
theorem pyOf_X {S : Sto} : ∀ {d : D} {q : PyData}, pyX d = some q → pyOf S d = none ∨ pyOf S d = some q
  | .tup ds, q, h => by
    rw [pyX] at h
    obtain ⟨ps, e1, rfl⟩ := Option.map_eq_some_iff.mp h
    rw [pyOf]
    rcases pyOfL_X (S := S) e1 with e | e
    · rw [e]; exact .inl rfl
    · rw [e]; exact .inr rfl
  | .lst ds, q, h => by
    rw [pyX] at h
    obtain ⟨ps, e1, rfl⟩ := Option.map_eq_some_iff.mp h
    rw [pyOf]
    rcases pyOfL_X (S := S) e1 with e | e
    · rw [e]; exact .inl rfl
    · rw [e]; exact .inr rfl
  | .dK kds, q, h => .inl rfl
  | .non, q, h => .inr h
  | .bl b, q, h => .inr h
  | .int i, q, h => .inr h
  | .str x, q, h => .inr h
  | .scr _, _, h => by cases h
  | .wtp _, _, h => by cases h
  | .dT _, _, h => by cases h
  | .obj _ _, _, h => by cases h
  | .err _ _, _, h => by cases h
  | .ref _, _, h => by cases h
  | .con _, _, h => by cases h
  | .ty _, _, h => by cases h
theorem pyOfL_X {S : Sto} : ∀ {ds : List D} {qs : List PyData}, pyXL ds = some qs → pyOfL S ds = none ∨ pyOfL S ds = some qs
  | [], qs, h => .inr h
  | d :: ds, qs, h => by
    rw [pyXL] at h
    obtain ⟨p, e1, h⟩ := Option.bind_eq_some_iff.mp h
    obtain ⟨ps, e2, rfl⟩ := Option.map_eq_some_iff.mp h
    rw [pyOfL]
    rcases pyOf_X (S := S) e1 with e | e
    · rw [e]; exact .inl rfl
    · rcases pyOfL_X (S := S) e2 with f | f
      · rw [e, f]; exact .inl rfl
      · rw [e, f]; exact .inr rfl
end
structure Tx (d : D) (q : PyData) (a w : Nat) : Prop where
  x : pyX d = some q
  sh : q.showable = true
  dep : q.depth ≤ a
  len : q.shown.length ≤ w
structure TxL (ds : List D) (qs : List PyData) (a w : Nat) : Prop where
  x : pyXL ds = some qs
  sh : PyData.showableAll qs = true
  dep : PyData.depthAll qs ≤ a
  len : ((PyData.shownAll qs).map fun t => t.length + 2).sum ≤ ds.length * (w + 2)
theorem tx_all {a w : Nat} : ∀ {ds : List D}, (∀ d ∈ ds, ∃ q, Tx d q a w) → ∃ qs, TxL ds qs a w
  | [], _ => ⟨[], rfl, rfl, Nat.zero_le _, Nat.zero_le _⟩
  | d :: ds, h => by
    obtain ⟨q, hq⟩ := h d (by simp)
    obtain ⟨qs, hqs⟩ := tx_all (a := a) (w := w) (ds := ds) fun e he => h e (by simp [he])
    refine ⟨q :: qs, by rw [pyXL, hq.x, hqs.x]; rfl, by rw [PyData.showableAll, hq.sh, hqs.sh]; rfl, ?_, ?_⟩
    · rw [PyData.depthAll]
      have h1 := hq.dep
      have h2 := hqs.dep
      omega
    · rw [PyData.shownAll, List.map_cons, List.sum_cons, List.length_cons, Nat.succ_mul]
      have h1 := hq.len
      have h2 := hqs.len
      omega
theorem tx_tup {ds : List D} {a w : Nat} (h : ∀ d ∈ ds, ∃ q, Tx d q a w) : ∃ q, Tx (.tup ds) q (a + 1) (ds.length * (w + 2) + 3) := by
  obtain ⟨qs, h⟩ := tx_all h
  refine ⟨.tuple qs, by rw [pyX, h.x]; rfl, by rw [PyData.showable]; exact h.sh, ?_, ?_⟩
  · rw [PyData.depth]
    have := h.dep
    omega
  · rw [PyData.shown]
    unfold tupleText
    rw [PySem.strLen_append, PySem.strLen_append]
    have := join_sum (PyData.shownAll qs)
    have e1 : (("(" : PySem.Str)).length = 1 := rfl
    have e2 : ((if (PyData.shownAll qs).length == 1 then ",)" else ")" : String) : PySem.Str).length ≤ 2 := by split <;> decide
    have := h.len
    rw [e1]
    omega
theorem tx_lst {ds : List D} {a w : Nat} (h : ∀ d ∈ ds, ∃ q, Tx d q a w) : ∃ q, Tx (.lst ds) q (a + 1) (ds.length * (w + 2) + 3) := by
  obtain ⟨qs, h⟩ := tx_all h
  refine ⟨.list qs, by rw [pyX, h.x]; rfl, by rw [PyData.showable]; exact h.sh, ?_, ?_⟩
  · rw [PyData.depth]
    have := h.dep
    omega
  · rw [PyData.shown]
    unfold listText
    rw [PySem.strLen_append]
    have := textFrom_sum (PyData.shownAll qs) 0 "["
    have e1 : (("[" : String) : PySem.Str).length = 1 := rfl
    have e2 : (("]" : String) : PySem.Str).length = 1 := rfl
    have := h.len
    rw [e2]
    omega
theorem Tx.mono {d : D} {q : PyData} {a w a' w' : Nat} (h : Tx d q a w) (h1 : a ≤ a') (h2 : w ≤ w') : Tx d q a' w' := ⟨h.x, h.sh, Nat.le_trans h.dep h1, Nat.le_trans h.len h2⟩
theorem tx_int {i : Int} (h : i.natAbs < 10 ^ 50) : ∃ q, Tx (.int i) q 0 51 := by
  have f := Fx.int (i := i) (k := 50) (by decide) (by decide) h
  exact ⟨.int i, rfl, f.sh, f.dep, f.len⟩
def RpY (d : D) : Prop := ∃ r : PySem.Str, ∀ S : Sto, p_reprY [d] S = .ok (.str r) S
theorem reprX_y {d : D} {q : PyData} {a w : Nat} (hq : Tx d q a w) (hs : isSeq q = true) (ha : a ≤ 60) (hw : w ≤ 1000000) : ∀ S : Sto, p_reprX [d] S = .ok (.str q.shown) S := fun S => by
  have h1 := hq.sh
  have h2 := Nat.le_trans hq.dep ha
  have h3 := Nat.le_trans hq.len hw
  have ht : textX q = some q.shown := by
    unfold textX
    cases q with
    | list xs => exact if_pos ⟨h1, h2, h3⟩
    | tuple xs => exact if_pos ⟨h1, h2, h3⟩
    | _ => cases hs
  have ht2 : textOf q = none ∨ textOf q = some q.shown := by
    unfold textOf
    cases q with
    | list xs =>
      dsimp only
      split
      · exact .inr rfl
      · exact .inl rfl
    | tuple xs =>
      dsimp only
      split
      · exact .inr rfl
      · exact .inl rfl
    | _ => cases hs
  unfold p_reprX
  rcases pyOf_X (S := S) hq.x with e | e
  · simp only [e, Option.bind_none, hq.x, Option.bind_some, ht]
  · rcases ht2 with z | z
    · simp only [e, Option.bind_some, z, hq.x, ht]
    · simp only [e, Option.bind_some, z]
theorem rp_tup {ds : List D} {a w : Nat} (h : ∃ q, Tx (.tup ds) q a w) (ha : a ≤ 60) (hw : w ≤ 1000000) : RpY (.tup ds) := by
  obtain ⟨q, hq⟩ := h
  obtain ⟨qs, e1, e2⟩ := Option.map_eq_some_iff.mp (show (pyXL ds).map PyData.tuple = some q by rw [← hq.x, pyX])
  subst e2
  refine ⟨(PyData.tuple qs).shown, fun S => ?_⟩
  have e : (DL.pyT (.tup ds)).bind textY = none := by
    show (pyX (.tup ds)).bind textY = none
    rw [hq.x]
    rfl
  unfold p_reprY
  simp only [e]
  exact reprX_y hq rfl ha hw S
theorem rp_lst {ds : List D} {a w : Nat} (h : ∃ q, Tx (.lst ds) q a w) (ha : a ≤ 60) (hw : w ≤ 1000000) : RpY (.lst ds) := by
  obtain ⟨q, hq⟩ := h
  obtain ⟨qs, e1, e2⟩ := Option.map_eq_some_iff.mp (show (pyXL ds).map PyData.list = some q by rw [← hq.x, pyX])
  subst e2
  refine ⟨(PyData.list qs).shown, fun S => ?_⟩
  have e : (DL.pyT (.lst ds)).bind textY = none := by
    show (pyX (.lst ds)).bind textY = none
    rw [hq.x]
    rfl
  unfold p_reprY
  simp only [e]
  exact reprX_y hq rfl ha hw S
theorem rp_int {i : Int} (h : i.natAbs < 10 ^ 50) : RpY (.int i) := by
  refine ⟨(toString i : String), fun S => ?_⟩
  have hl2 : i.natAbs.log2 < 200 := by
    rcases Nat.eq_zero_or_pos i.natAbs with e | e
    · rw [e]; decide
    · exact (Nat.log2_lt (by omega)).mpr (Nat.lt_trans h (by decide))
  have hl : i.natAbs.log2 < 1920 := by omega
  show p_reprX [.int i] S = _
  refine reprX_of ?_
  show (match (if i.natAbs.log2 < 1920 then some ((toString i : String) : PySem.Str) else none) with
  | some x => Res.ok (D.str x) S
  | none => .stuck) = _
  rw [if_pos hl]
theorem rp_closed {d : D} (h : ((DL.pyT d).bind textY).isSome = true) : RpY d := by
  obtain ⟨X, e⟩ := Option.isSome_iff_exists.mp h
  refine ⟨X, fun S => ?_⟩
  unfold p_reprY
  simp only [e]
structure Vl (d : D) : Prop where
  kd : Kd d
  rp : RpY d
  tx : ∃ q, Tx d q 2 250
theorem vl_int {i : Int} (h : i.natAbs < 10 ^ 50) : Vl (.int i) := ⟨.int i, rp_int h, by
  obtain ⟨q, hq⟩ := tx_int h
  exact ⟨q, hq.mono (by omega) (by omega)⟩⟩
theorem vl_closed {d : D} {q : PyData} (k : Kd d) (rp : RpY d) (hx : pyX d = some q) (h1 : q.showable = true) (h2 : q.depth ≤ 2) (h3 : q.shown.length ≤ 250) : Vl d := ⟨k, rp, q, hx, h1, h2, h3⟩
theorem vl_non : Vl .non := vl_closed (.oth (fun _ => rfl) fun n h => by cases h) ⟨_, fun S => rfl⟩ rfl rfl (by decide) (by decide)
theorem vl_bl (b : Bool) : Vl (.bl b) := vl_closed (.bl b) ⟨_, fun S => rfl⟩ rfl rfl (Nat.zero_le _) (by cases b <;> decide)
theorem vl_str {x : PySem.Str} (h1 : ((DL.pyT (.str x)).bind textY).isSome = true) (h2 : (PyData.str x).shown.length ≤ 250) : Vl (.str x) := vl_closed (.oth (fun _ => rfl) fun n h => by cases h) (rp_closed h1) rfl rfl (Nat.zero_le _) h2
theorem vl_tup {ds : List D} (h : ∀ d ∈ ds, ∃ q, Tx d q 1 51) (hl : ds.length ≤ 4) : Vl (.tup ds) := by
  have t := tx_tup h
  have hm : ∃ q, Tx (.tup ds) q 2 250 := by
    obtain ⟨q, t⟩ := t
    have := Nat.mul_le_mul_right (51 + 2) hl
    exact ⟨q, t.mono (by omega) (by omega)⟩
  exact ⟨.oth (fun _ => rfl) (fun n h => by cases h), rp_tup hm (by omega) (by omega), hm⟩
theorem vl_parts {x y z : D} (hx : Vl x) (hy : Vl y) (hz : Vl z) : RpY (.tup [x, y, z]) := by
  refine rp_tup (tx_tup (a := 2) (w := 250) fun d hd => ?_) (by omega) (by simp)
  simp only [List.mem_cons, List.not_mem_nil, or_false] at hd
  rcases hd with rfl | rfl | rfl
  · exact hx.tx
  · exact hy.tx
  · exact hz.tx
section
variable {G : Gx} {S : Sto}
theorem isEc : p_isE (.con (G.exc 5)) tab_CrossError [.err 0 x, .con (G.exc 5)] S = .ok (.bl true) S := by
  have h : sameC (.con (G.exc 5)) (.con (G.exc 5)) = true := by simp [sameC]
  unfold p_isE
  simp only [h, if_true]
  rfl
theorem isEs4 : p_isEs [(.con (G.exc 4)), (.con (G.exc 3)), (.con (G.exc 2)), (.con (G.exc 1))] tabs_BadAmount_BadText_UnknownAccount_NoInverse [.err 0 x, .tup [(.con (G.exc 4)), (.con (G.exc 3)), (.con (G.exc 2)), (.con (G.exc 1))]] S = .ok (.bl false) S := by
  have h : sameCs [(.con (G.exc 4)), (.con (G.exc 3)), (.con (G.exc 2)), (.con (G.exc 1))] [(.con (G.exc 4)), (.con (G.exc 3)), (.con (G.exc 2)), (.con (G.exc 1))] = true := by simp [sameCs, sameC]
  unfold p_isEs
  simp only [h, if_true]
  rfl
def xf0 (x : D) (S1 : Sto) : Res D := match x with
  | .err c' d => if c' = 0 then .ok d S1 else .stuck
  | _ => .stuck
theorem e_xf {a : ECode} {ρ : DL.Env} : c_xf 0 a ρ S = (a ρ S).bind xf0 := rfl
theorem v_xf {x : D} : xf0 (.err 0 x) S = .ok x S := rfl
theorem makeK_s {x y z : D} : p_make false 0 (fun ds => m_Scheme__init_ G (gP D.non [0, 2, 3, 1] (ds.take 1) (ds.drop 1))) [z, x, y] S = p_make false 0 (mp_Scheme__init_ G) [x, y, z] S := by
  unfold p_make
  rw [mp_Scheme__init_, ev_a4]
  rfl
theorem make_bad {x y z : D} {i : Nat} (kx : Kd x) (ky : Kd y) (kz : Kd z) (h : wrI x y z = some i) : p_make false 0 (mp_Scheme__init_ G) [x, y, z] S = .ex 0 (prt x y z i) (S ++ [some (Cell.ins 0 [])]) := by
  unfold p_make
  rcases wpx_ex2 (init_bad (G := G) (j := S.length) (S := S ++ [some (Cell.ins 0 [])]) kx ky kz h) with ⟨a, S1, _, q⟩ | ⟨c, d, S1, e, rfl, rfl, rfl⟩
  · exact q.elim
  · rw [mp_Scheme__init_, ev_a4, e]
    rfl
theorem outcome_ok {p n k : Int} {b : Bool} (h : okS p n k) : m__law_outcome G [.tup [.int p, .int n, .int k], .bl b] S = .ok (.tup [plan p n k, .non]) S := by
  refine eq_wp ?_
  rw [m__law_outcome, fnR_eq]
  show wp (ret S (c__law_outcome G [some (.tup [.int p, .int n, .int k]), some (.bl b), none, none] S)) _
  unfold c__law_outcome
  have hm := make_ok (G := G) (S := S) h
  refine wp_wpx ?_
  push_cast []
  refine wpx_try ?_
  cases b
  · push_cast [hm]
    try exact wpx_wp (wp_fin_len rfl ⟨rfl, rfl⟩)
  · push_cast [makeK_s, hm]
    try exact wpx_wp (wp_fin_len rfl ⟨rfl, rfl⟩)
theorem outcome_bad {x y z : D} {i : Nat} {r : PySem.Str} {b : Bool} (kx : Kd x) (ky : Kd y) (kz : Kd z) (h : wrI x y z = some i) (hr : ∀ S, p_reprY [prt x y z i] S = .ok (.str r) S) : m__law_outcome G [.tup [x, y, z], .bl b] S = .ok (.tup [.non, .str r]) S := by
  refine eq_wp ?_
  rw [m__law_outcome, fnR_eq]
  show wp (ret S (c__law_outcome G [some (.tup [x, y, z]), some (.bl b), none, none] S)) _
  unfold c__law_outcome
  have hm := make_bad (G := G) (S := S) kx ky kz h
  have ht : tabm_BadScheme 0 = some true := rfl
  refine wp_wpx ?_
  push_cast []
  refine wpx_try ?_
  cases b
  · push_cast [hm, ht]
    show wp _ _
    push_cast [isEc, isEs4, e_xf, v_xf, hr]
    refine ⟨by first | rfl | trivial, ?_, ?_⟩
    · rintro (_ | _ | _ | _ | j) w q
      · exact .inl q
      · exact .inl q
      · cases q
        exact .inr rfl
      · cases q
      · cases q
    · push_cast [floEnd]
      exact wpx_wp (wp_fin_app rfl ⟨rfl, rfl⟩)
  · push_cast [makeK_s, hm, ht]
    show wp _ _
    push_cast [isEc, isEs4, e_xf, v_xf, hr]
    refine ⟨by first | rfl | trivial, ?_, ?_⟩
    · rintro (_ | _ | _ | _ | j) w q
      · exact .inl q
      · exact .inl q
      · cases q
        exact .inr rfl
      · cases q
      · cases q
    · push_cast [floEnd]
      exact wpx_wp (wp_fin_app rfl ⟨rfl, rfl⟩)
end
section
variable {G : Gx} {S : Sto}
theorem okS_odd {p n k : Int} (h : okS p n k) : p % 2 = 1 := by
  apply Classical.byContradiction
  intro c
  have := isPr_even h.1 (by omega)
  rw [h.2.2.1] at this
  cases this
theorem rp_tI {l : List Int} (hl : l.length ≤ 8) (h : ∀ i ∈ l, i.natAbs < 10 ^ 12) : ∃ T : PySem.Str, PyData.strOk T = true ∧ ∀ S : Sto, p_repr [.tup (l.map D.int)] S = .ok (.str T) S := by
  have hF : Fx 1 (l.length * (13 + 2) + 3) (.tuple (l.map PyData.int)) := by
    have := Fx.tuple (d := 0) (w := 13) (ps := l.map PyData.int) fun r hr => by
      obtain ⟨i, hi, rfl⟩ := List.mem_map.mp hr
      exact Fx.int (k := 12) (by decide) (by decide) (h i hi)
    rw [List.length_map] at this
    exact this
  refine ⟨_, hF.ok, fun S => repr_x (S := S) (p := .tuple (l.map PyData.int)) ?_ hF rfl (by decide) (by omega)⟩
  exact py_tI
theorem prime_eq {p n k : Int} : m_Scheme_prime G [plan p n k] S = .ok (.int p) S := by
  refine eq_wp ?_
  rw [m_Scheme_prime, fnR_eq]
  show wp (ret S (c_Scheme_prime G [some (.obj 0 [.int p, .int n, .int k])] S)) _
  unfold c_Scheme_prime
  push_cast []
  all_goals first | exact ⟨rfl, trivial⟩ | exact ⟨trivial, trivial⟩ | exact trivial | exact ⟨rfl, rfl⟩
theorem length_eq {p n k : Int} : m_Scheme_length G [plan p n k] S = .ok (.int k) S := by
  refine eq_wp ?_
  rw [m_Scheme_length, fnR_eq]
  show wp (ret S (c_Scheme_length G [some (.obj 0 [.int p, .int n, .int k])] S)) _
  unfold c_Scheme_length
  push_cast []
  all_goals first | exact ⟨rfl, trivial⟩ | exact ⟨trivial, trivial⟩ | exact trivial | exact ⟨rfl, rfl⟩
theorem largest_eq {p n k : Int} (h : p % 2 = 1) : m_Scheme_largest_amount G [plan p n k] S = .ok (.int (p / 2)) S := by
  refine eq_wp ?_
  rw [m_Scheme_largest_amount, fnR_eq]
  show wp (ret S (c_Scheme_largest_amount G [some (.obj 0 [.int p, .int n, .int k])] S)) _
  unfold c_Scheme_largest_amount
  have e : (p - 1) / 2 = p / 2 := by omega
  push_cast [e]
  all_goals first | exact ⟨rfl, trivial⟩ | exact ⟨trivial, trivial⟩ | exact trivial | exact ⟨rfl, rfl⟩
theorem numbers_eq {p n k : Int} (h : p % 2 = 1) : m__law_numbers G [plan p n k] S = .ok (.tup [.int p, .int n, .int k, .int (p / 2)]) S := by
  refine eq_wp ?_
  rw [m__law_numbers, fnR_eq]
  show wp (ret S (c__law_numbers G [some (plan p n k)] S)) _
  unfold c__law_numbers
  have h1 := prime_eq (G := G) (S := S) (p := p) (n := n) (k := k)
  have h2 := accounts_eq (G := G) (S := S) (p := p) (n := n) (k := k)
  have h3 := length_eq (G := G) (S := S) (p := p) (n := n) (k := k)
  have h4 := largest_eq (G := G) (S := S) (p := p) (n := n) (k := k) h
  push_cast [clsOf_plan, h1, h2, h3, h4]
  all_goals first | exact ⟨rfl, trivial⟩ | exact ⟨trivial, trivial⟩ | exact trivial | exact ⟨rfl, rfl⟩
theorem eqv_ints : ∀ l l' : List Int, PyData.eqvAll (l.map PyData.int) (l'.map PyData.int) = decide (l = l')
  | [], [] => by simp [PyData.eqvAll]
  | [], _ :: _ => by simp [PyData.eqvAll]
  | _ :: _, [] => by simp [PyData.eqvAll]
  | a :: l, b :: l' => by
    rw [List.map_cons, List.map_cons, PyData.eqvAll, eqv_ints l l']
    by_cases h : a = b <;> by_cases h2 : l = l' <;> simp [PyData.eqv, h, h2]
theorem eq_tI {l l' : List Int} : p_eq false (tI l) (tI l') S = .ok (.bl (decide (l = l'))) S := by
  have sh : ∀ l : List Int, SeqAt.shaped (.tuple (l.map PyData.int)) = true := fun l => by
    unfold SeqAt.shaped
    rw [PyData.canLay0, lay_ints, PyData.depth, depth_ints]
    rfl
  unfold p_eq
  simp only [py_tI]
  rw [if_pos ⟨sh _, sh _⟩, if_neg (by decide), PyData.eqv, eqv_ints]
theorem is_same_eq {p n k p' n' k' : Int} : m_Scheme_is_same G [plan p n k, plan p' n' k'] S = .ok (.bl (decide ([p, n, k] = [p', n', k']))) S := by
  refine eq_wp ?_
  rw [m_Scheme_is_same, fnR_eq]
  show wp (ret S (c_Scheme_is_same G [some (.obj 0 [.int p, .int n, .int k]), some (.obj 0 [.int p', .int n', .int k']), none] S)) _
  unfold c_Scheme_is_same
  have e : p_eq false (.tup [.int p, .int n, .int k]) (.tup [.int p', .int n', .int k']) S = .ok (.bl (decide ([p, n, k] = [p', n', k']))) S := eq_tI (l := [p, n, k]) (l' := [p', n', k'])
  push_cast [isiA_obj, e]
  all_goals first | exact ⟨rfl, trivial⟩ | exact ⟨trivial, trivial⟩ | exact trivial | exact ⟨rfl, rfl⟩
theorem is_same_no {p n k : Int} {d : D} {T : String} (h : tyD d S = some T) (h2 : clsOf d S = none) : m_Scheme_is_same G [plan p n k, d] S = .ok (.bl false) S := by
  refine eq_wp ?_
  rw [m_Scheme_is_same, fnR_eq]
  show wp (ret S (c_Scheme_is_same G [some (.obj 0 [.int p, .int n, .int k]), some d, none] S)) _
  unfold c_Scheme_is_same
  have e := isiA_ty (C := G.cls 0) (c := 0) h h2
  push_cast [e]
  all_goals first | exact ⟨rfl, trivial⟩ | exact ⟨trivial, trivial⟩ | exact trivial | exact ⟨rfl, rfl⟩
theorem shortened_eq {p n k k' : Int} (h : okS p n k) (h0 : 1 ≤ k') (h1 : k' ≤ 24) : m_Scheme_shortened G [plan p n k, .int k'] S = .ok (plan p n k') S := by
  refine eq_wp ?_
  rw [m_Scheme_shortened, fnR_eq]
  show wp (ret S (c_Scheme_shortened G [some (.obj 0 [.int p, .int n, .int k]), some (.int k')] S)) _
  unfold c_Scheme_shortened
  have hm := make_ok (G := G) (S := S) (p := p) (n := n) (k := k') ⟨h.1, h.2.1, h.2.2.1, h.2.2.2.1, h.2.2.2.2.1, h.2.2.2.2.2.1, h0, h1⟩
  push_cast [hm]
  all_goals first | exact ⟨rfl, trivial⟩ | exact ⟨trivial, trivial⟩ | exact trivial | exact ⟨rfl, rfl⟩
end
section
variable {G : Gx} {S : Sto}
theorem padd_ref {N : Nat} {ls es : List D} (hS : S[N]? = some (some (.lst ls))) (h : ls.length + es.length ≤ 1000000) : p_add true (.ref N) (.lst es) S = .ok (.ref S.length) (S ++ [some (.lst (ls ++ es))]) := by
  have e : lstOf (.ref N) S = some ls := items_ref hS
  show p_addL true (.ref N) (.lst es) S = _
  unfold p_addL
  rw [e]
  show p_lst true (ls ++ es) S = _
  rw [lst_t (by rw [List.length_append]; exact h)]
theorem ok577 : prO 577 = true := by decide +kernel
theorem eq_bl (b : Bool) (S : Sto) : p_eq true (.bl b) (.bl b) S = .ok (.bl false) S := by cases b <;> rfl
theorem eq_int (a b : Int) (S : Sto) : p_eq false (.int a) (.int b) S = .ok (.bl (decide (a = b))) S := by
  by_cases h : a = b
  · push_cast [h]
  · push_cast [h]
theorem other_prime {p n k : Int} (h : okS p n k) : ∃ q, okS q n k ∧ q ≠ p ∧ ((1000000 < p ∧ q = 577) ∨ (¬ 1000000 < p ∧ Nx (p + 1 - 1) q)) := by
  obtain ⟨h1, h2, h3, h4, h5, h6, h7, h8⟩ := h
  have hnn : n * n ≤ 24 * 24 := Int.mul_le_mul h5 h5 (by omega) (by omega)
  by_cases c : 1000000 < p
  · have h577 := prO_le ok577
    exact ⟨577, ⟨h577.1, h577.2.1, h577.2.2, h4, h5, by omega, h7, h8⟩, by omega, .inl ⟨c, rfl⟩⟩
  · obtain ⟨q, hq⟩ := nx_ex p (by omega)
    have hq2 := prO_le hq.2.1
    have hq3 := hq.1
    exact ⟨q, ⟨hq2.1, hq2.2.1, hq2.2.2, h4, h5, by omega, h7, h8⟩, by omega, .inr ⟨c, by rw [Int.add_sub_cancel]; exact hq⟩⟩
def Un (G : Gx) (p n k : Int) (d : D) : Prop := ∀ S, m_Scheme_is_same G [plan p n k, d] S = .ok (.bl false) S
theorem un_plan {p n k p' n' k' : Int} (h : ¬ (p = p' ∧ n = n' ∧ k = k')) : Un G p n k (plan p' n' k') := fun S => by
  rw [is_same_eq, decide_eq_false]
  intro e
  injection e with e1 e2
  injection e2 with e2 e3
  injection e3 with e3 _
  exact h ⟨e1, e2, e3⟩
noncomputable def cT (G : Gx) : SCode :=
  (c_seq (c_set 8 (c_op (p_add true) (c_var 8) (c_lst false (c_cons (c_d .non) (c_cons (c_var 1) (c_cons (c_tup c_nil) (c_cons (c_d (.int 0)) (c_cons (c_var 2) (c_cons (c_cb (p_list false) (c_cons (c_var 1) c_nil)) (c_cons (c_cb p_reprY (c_cons (c_var 1) c_nil)) c_nil))))))))))
    (c_seq (c_ifS (c_test (c_op (p_eq true) (c_lc (c_it (c_var 8)) (g_name 9) (c_test (c_op (p_isB true) (c_methP 0 (mp_Scheme_is_same G) (c_var 0) (c_cons (c_var 9) c_nil)) (c_d (.bl false)))) (c_var 9) [9]) (c_lst false c_nil))) (c_ret (c_d (.bl false))) c_nx)
    (c_ret (c_op (p_eq false) (c_cb p_repr (c_cons (c_cb (mp__law_numbers G) (c_cons (c_var 0) c_nil)) c_nil)) (c_var 5)))))
theorem tail_wp {p n k : Int} {T : PySem.Str} (h : okS p n k) (t1 : PyData.strOk T = true) (t2 : ∀ S : Sto, p_repr [.tup [.int p, .int n, .int k, .int (p / 2)]] S = .ok (.str T) S) {L : List D} (hL : ∀ x ∈ L, Un G p n k x) (hl : L.length ≤ 3) {o6 o7 : Option D} :
    wp (cT G [some (plan p n k), some (.tup [.int p, .int n, .int k]), some (.int p), some (.int n), some (.int k), some (.str T), o6, o7, some (.ref S.length), none] (S ++ [some (.lst L)])) (retQ S fun d S' => d = .bl true ∧ S' = S) := by
  unfold cT
  have ho := okS_odd h
  have hh := h
  obtain ⟨h1, h2, h3, h4, h5, h6, h7, h8⟩ := hh
  have hn := fun S => numbers_eq (G := G) (S := S) (p := p) (n := n) (k := k) ho
  have hne := fun S => eq_strB (n := false) (S := S) t1
  rw [Bool.not_false] at hne
  obtain ⟨r, hr⟩ := vl_parts (vl_int (i := p) (by omega)) (vl_int (i := n) (by omega)) (vl_int (i := k) (by omega))
  have hadd : p_add true (.ref S.length) (.lst [.non, .tup [.int p, .int n, .int k], .tup [], .int 0, .int p, .lst [.int p, .int n, .int k], .str r]) (S ++ [some (.lst L)]) = .ok (.ref (S.length + 1)) (S ++ [some (.lst L), some (.lst (L ++ [.non, .tup [.int p, .int n, .int k], .tup [], .int 0, .int p, .lst [.int p, .int n, .int k], .str r]))]) := by
    rw [padd_ref snoc_at (by show L.length + 7 ≤ _; omega), List.length_append, List.append_assoc]
    rfl
  have hM : ∀ x ∈ ([.non, .tup [.int p, .int n, .int k], .tup [], .int 0, .int p, .lst [.int p, .int n, .int k], .str r] : List D), Un G p n k x := fun x hx => by
    simp only [List.mem_cons, List.not_mem_nil, or_false] at hx
    rcases hx with rfl | rfl | rfl | rfl | rfl | rfl | rfl <;> exact fun S => is_same_no rfl rfl
  have hA : ∀ x ∈ L ++ ([.non, .tup [.int p, .int n, .int k], .tup [], .int 0, .int p, .lst [.int p, .int n, .int k], .str r] : List D), Un G p n k x := fun x hx => by
    rcases List.mem_append.mp hx with h | h
    · exact hL x h
    · exact hM x h
  have hlen : (L ++ ([.non, .tup [.int p, .int n, .int k], .tup [], .int 0, .int p, .lst [.int p, .int n, .int k], .str r] : List D)).length ≤ 10 := by rw [List.length_append]; show L.length + 7 ≤ 10; omega
  have ll : ∀ S, p_list false [.tup [.int p, .int n, .int k]] S = .ok (.lst [.int p, .int n, .int k]) S := fun S => rfl
  push_cast [ll, hr, hadd]
  generalize L ++ ([.non, .tup [.int p, .int n, .int k], .tup [], .int 0, .int p, .lst [.int p, .int n, .int k], .str r] : List D) = A at *
  have hat : (S ++ [some (Cell.lst L), some (.lst A)])[S.length + 1]? = some (some (.lst A)) := snoc_at1
  refine wp_lc A id (fun pre S' ys => S' = S ++ [some (Cell.lst L), some (.lst A)] ∧ ys = []) (it_eq (x := .ref (S.length + 1)) rfl (by rw [List.map_id]; exact items_ref hat)) (by omega) (fun p' S' ys h => by
    rw [h.1]
    exact ok_one (by rw [List.map_id]; exact items_ref hat)) ⟨rfl, rfl⟩ ?_ ?_
  · rintro pre x post S' ys hq ⟨rfl, rfl⟩
    have hu := hA x (by rw [hq]; simp)
    have hu := fun S => hu S
    have hib : ∀ S, p_isB true (.bl false) (.bl false) S = .ok (.bl false) S := fun _ => rfl
    push_cast [id_eq, clsOf_plan, mp_Scheme_is_same, hu, hib]
    all_goals first | trivial | exact ⟨rfl, rfl⟩ | exact ⟨trivial, rfl⟩
  · rintro ys S' ⟨rfl, rfl⟩
    have he : ∀ S, p_eq true (.lst []) (.lst []) S = .ok (.bl false) S := fun _ => rfl
    push_cast [he, mp__law_numbers, hn, t2, hne]
    exact wp_fin_app rfl ⟨rfl, rfl⟩
theorem created_ok {p n k : Int} (h : okS p n k) : m__law_created_correct G [plan p n k, .tup [.int p, .int n, .int k]] S = .ok (.bl true) S := by
  refine eq_wp ?_
  rw [m__law_created_correct, fnR_eq]
  show wp (ret S (c__law_created_correct G [some (plan p n k), some (.tup [.int p, .int n, .int k]), none, none, none, none, none, none, none, none] S)) _
  unfold c__law_created_correct
  have hfold : (c_seq (c_set 8 (c_op (p_add true) (c_var 8) (c_lst false (c_cons (c_d .non) (c_cons (c_var 1) (c_cons (c_tup c_nil) (c_cons (c_d (.int 0)) (c_cons (c_var 2) (c_cons (c_cb (p_list false) (c_cons (c_var 1) c_nil)) (c_cons (c_cb p_reprY (c_cons (c_var 1) c_nil)) c_nil))))))))))
    (c_seq (c_ifS (c_test (c_op (p_eq true) (c_lc (c_it (c_var 8)) (g_name 9) (c_test (c_op (p_isB true) (c_methP 0 (mp_Scheme_is_same G) (c_var 0) (c_cons (c_var 9) c_nil)) (c_d (.bl false)))) (c_var 9) [9]) (c_lst false c_nil))) (c_ret (c_d (.bl false))) c_nx)
    (c_ret (c_op (p_eq false) (c_cb p_repr (c_cons (c_cb (mp__law_numbers G) (c_cons (c_var 0) c_nil)) c_nil)) (c_var 5))))) = cT G := rfl
  rw [wp_ret, hfold]
  generalize hR : cT G = R
  have ho := okS_odd h
  have hh := h
  obtain ⟨h1, h2, h3, h4, h5, h6, h7, h8⟩ := hh
  have ht : ∀ ρ S, g_tup 3 (g_cons (g_name 2) (g_cons (g_name 3) (g_cons (g_name 4) g_nil))) (.tup [.int p, .int n, .int k]) ρ S = .ok (((ρ.set 2 (some (.int p))).set 3 (some (.int n))).set 4 (some (.int k))) S := fun ρ S => rfl
  have hn := fun S => numbers_eq (G := G) (S := S) (p := p) (n := n) (k := k) ho
  have bnd : ∀ k' : Int, 1 ≤ k' → k' ≤ 24 → ∀ i ∈ [p, n, k', p / 2], i.natAbs < 10 ^ 12 := fun k' a b i hi => by
    simp only [List.mem_cons, List.not_mem_nil, or_false] at hi
    rcases hi with rfl | rfl | rfl | rfl <;> omega
  obtain ⟨T, t1, t2⟩ := rp_tI (l := [p, n, k, p / 2]) (by simp) (bnd k h7 h8)
  have t2 : ∀ S, p_repr [.tup [.int p, .int n, .int k, .int (p / 2)]] S = .ok (.str T) S := t2
  have hne := fun S => ne_str (S := S) t1
  have hsm := fun S => is_same_eq (G := G) (S := S) (p := p) (n := n) (k := k) (p' := p) (n' := n) (k' := k)
  have hmk := fun S => make_ok (G := G) (S := S) h
  have sm : decide ([p, n, k] = [p, n, k]) = true := decide_eq_true rfl
  push_cast [ht, t2, mp__law_numbers, hn, hne, clsOf_plan, mp_Scheme_is_same, hmk, hsm, sm]
  refine wp_for [1, (k + 1) / 2, k] D.int (fun pre ρ S' => ∃ o6 o7, ρ = [some (plan p n k), some (.tup [.int p, .int n, .int k]), some (.int p), some (.int n), some (.int k), some (.str T), o6, o7, none, none] ∧ S' = S) (it_eq (x := .lst ([1, (k + 1) / 2, k].map D.int)) (by push_cast []; rfl) rfl) (fun _ _ _ _ => ok_one rfl) ⟨_, _, rfl, rfl⟩ ?_ ?_
  · rintro pre k' post ρ S' hq ⟨o6, o7, rfl, rfl⟩
    have hk : 1 ≤ k' ∧ k' ≤ 24 := by
      have : k' ∈ [1, (k + 1) / 2, k] := by rw [hq]; simp
      simp only [List.mem_cons, List.not_mem_nil, or_false] at this
      rcases this with rfl | rfl | rfl <;> omega
    have hs := fun S => shortened_eq (G := G) (S := S) h hk.1 hk.2
    obtain ⟨U, u1, u2⟩ := rp_tI (l := [p, n, k', p / 2]) (by simp) (bnd k' hk.1 hk.2)
    have u2 : ∀ S, p_repr [.tup [.int p, .int n, .int k', .int (p / 2)]] S = .ok (.str U) S := u2
    have hneU := fun S => ne_str (S := S) u1
    have hn' := fun S => numbers_eq (G := G) (S := S) (p := p) (n := n) (k := k') ho
    have hsm1 := fun S => is_same_eq (G := G) (S := S) (p := p) (n := n) (k := k') (p' := p) (n' := n) (k' := k)
    have hsm2 := fun S => is_same_eq (G := G) (S := S) (p := p) (n := n) (k := k') (p' := p) (n' := n) (k' := k')
    have sm1 : decide ([p, n, k'] = [p, n, k]) = decide (k' = k) := by simp
    have sm2 : decide ([p, n, k'] = [p, n, k']) = true := decide_eq_true rfl
    have he := fun S => eq_int k' k S
    have hb := fun S => eq_bl (decide (k' = k)) S
    rw [sm1] at hsm1
    rw [sm2] at hsm2
    generalize decide (k' = k) = bb at *
    push_cast [clsOf_plan, mp_Scheme_shortened, hs, mp__law_numbers, hn', u2, hneU, mp_Scheme_is_same, hsm1, he, hb, DL.gP, List.map_cons, List.map_nil, List.getD_cons_zero, List.getD_cons_succ, hsm2]
    exact ⟨_, _, rfl, by first | rfl | trivial⟩
  rintro ρ S' ⟨o6, o7, rfl, rfl⟩
  obtain ⟨q, hq, hqp, hqc⟩ := other_prime h
  have hk2 : okS p n (25 - k) := ⟨h1, h2, h3, h4, h5, h6, by omega, by omega⟩
  have m1 := fun S => make_ok (G := G) (S := S) hk2
  have m2 := fun S => make_ok (G := G) (S := S) hq
  have hpw : ∀ S, p_pow (.int 10) (.int 6) S = .ok (.int 1000000) S := fun S => by
    rw [pow_eq (by decide) (by decide) (by decide)]
    rfl
  have l2 : ∀ (x y : D) (S : Sto), p_lst true [x, y] S = .ok (.ref S.length) (S ++ [some (.lst [x, y])]) := fun x y S => lst_t (by simp)
  have hu1 : Un G p n k (plan p n (25 - k)) := un_plan fun z => by omega
  have hu2 : Un G p n k (plan q n k) := un_plan fun z => hqp z.1.symm
  have hfin : ∀ L : List D, (∀ x ∈ L, Un G p n k x) → L.length ≤ 3 → ∀ ρ S1, ρ = [some (plan p n k), some (.tup [.int p, .int n, .int k]), some (.int p), some (.int n), some (.int k), some (.str T), o6, o7, some (.ref S'.length), none] → S1 = S' ++ [some (.lst L)] → wp (R ρ S1) (retQ S' fun d S1 => d = .bl true ∧ S1 = S') := fun L hL hl ρ S1 e1 e2 => by
    rw [e1, e2, ← hR]
    exact tail_wp h t1 t2 hL hl
  have hL2 : ∀ a ∈ ([plan p n (25 - k), plan q n k] : List D), Un G p n k a := fun a ha => by
    simp only [List.mem_cons, List.not_mem_nil, or_false] at ha
    rcases ha with rfl | rfl
    · exact hu1
    · exact hu2
  have hL3 : ∀ n', n' ≠ n → ∀ a ∈ ([plan p n (25 - k), plan q n k, plan p n' k] : List D), Un G p n k a := fun n' hn' a ha => by
    simp only [List.mem_cons, List.not_mem_nil, or_false] at ha
    rcases ha with rfl | rfl | rfl
    · exact hu1
    · exact hu2
    · exact un_plan fun z => hn' z.2.1.symm
  have isl : ∀ x y : D, isL (.ref S'.length) (S' ++ [some (.lst [x, y])]) = true := fun x y => isL_ref snoc_at
  have happ : ∀ x y z : D, p_append (.ref S'.length) [z] (S' ++ [some (.lst [x, y])]) = .ok .non (S' ++ [some (.lst [x, y, z])]) := fun x y z => by
    rw [append_ref snoc_at (by simp), List.set_append_right _ _ (Nat.le_refl _), Nat.sub_self]
    rfl
  have hn1 : 2 < n → okS p (n - 1) k := fun c => ⟨h1, h2, h3, by omega, by omega, by
    have := Int.mul_le_mul (show n - 1 ≤ n by omega) (show n - 1 ≤ n by omega) (by omega) (by omega)
    omega, h7, h8⟩
  have hn3 : 9 < p → okS p 3 k := fun c => ⟨h1, h2, h3, by omega, by omega, by omega, h7, h8⟩
  rcases hqc with ⟨c, rfl⟩ | ⟨c, hnx⟩
  · by_cases c2 : 2 < n
    · have m3 := fun S => make_ok (G := G) (S := S) (hn1 c2)
      push_cast [c, hpw, m1, m2, l2, c2, m3, isl, happ]
      exact hfin _ (hL3 (n - 1) (by omega)) (by simp) _ _ rfl rfl
    · by_cases c3 : 9 < p
      · have m3 := fun S => make_ok (G := G) (S := S) (hn3 c3)
        push_cast [c, hpw, m1, m2, l2, c2, c3, m3, isl, happ]
        exact hfin _ (hL3 3 (by omega)) (by simp) _ _ rfl rfl
      · exact absurd c3 (by omega)
  · have hpf := fun S => prime_from_eq (G := G) (S := S) (x := p + 1) (q := q) hnx (by omega)
    by_cases c2 : 2 < n
    · have m3 := fun S => make_ok (G := G) (S := S) (hn1 c2)
      push_cast [c, hpw, m1, mp__law_prime_from, hpf, m2, l2, c2, m3, isl, happ]
      exact hfin _ (hL3 (n - 1) (by omega)) (by simp) _ _ rfl rfl
    · by_cases c3 : 9 < p
      · have m3 := fun S => make_ok (G := G) (S := S) (hn3 c3)
        push_cast [c, hpw, m1, mp__law_prime_from, hpf, m2, l2, c2, c3, m3, isl, happ]
        exact hfin _ (hL3 3 (by omega)) (by simp) _ _ rfl rfl
      · push_cast [c, hpw, m1, mp__law_prime_from, hpf, m2, l2, c2, c3]
        exact hfin _ hL2 (by simp) _ _ rfl rfl
end
section
variable {G : Gx} {S : Sto}
def Pt (d : D) : Prop := ∃ x y z, d = .tup [x, y, z] ∧ Vl x ∧ Vl y ∧ Vl z
theorem correct_ok {d : D} (h : Pt d) : m__law_correct G [d] S = .ok (.bl true) S := by
  obtain ⟨x, y, z, rfl, vx, vy, vz⟩ := h
  refine eq_wp ?_
  rw [m__law_correct, fnR_eq]
  show wp (ret S (c__law_correct G [some (.tup [x, y, z]), none, none, none, none, none] S)) _
  unfold c__law_correct
  obtain ⟨r, hr⟩ := vl_parts vx vy vz
  have hw := fun S => law_wrong_eq (G := G) (S := S) vx.kd vy.kd vz.kd
  cases q : wrI x y z with
  | none =>
    rw [q] at hw
    have hw : ∀ S, m__law_wrong G [.tup [x, y, z]] S = .ok .non S := hw
    obtain ⟨p, n, k, rfl, rfl, rfl, ho⟩ := wrI_none q
    have hoc := fun b S => outcome_ok (G := G) (S := S) (b := b) ho
    have hcr := fun S => created_ok (G := G) (S := S) ho
    have hg : ∀ ρ S, g_tup 2 (g_cons (g_name 4) (g_cons (g_name 5) g_nil)) (.tup [plan p n k, .non]) ρ S = .ok ((ρ.set 4 (some (plan p n k))).set 5 (some .non)) S := fun _ _ => rfl
    have hi : ∀ S, p_isN false .non .non S = .ok (.bl true) S := fun _ => rfl
    have hi2 : ∀ S, p_isN true .non .non S = .ok (.bl false) S := fun _ => rfl
    have he : ∀ S, p_eqS false (.str r) (.str r) S = .ok (.bl true) S := fun S => by
      show Res.ok (D.bl (decide (r = r))) S = _
      rw [decide_eq_true rfl]
    push_cast [hr, mp__law_wrong, hw]
    refine wp_for [false, true] D.bl (fun pre ρ S2 => ∃ o3 o4 o5, ρ = [some (.tup [.int p, .int n, .int k]), some (.str r), some .non, o3, o4, o5] ∧ S2 = S) (it_eq (x := .tup ([false, true].map D.bl)) (by push_cast []; rfl) rfl) (fun _ _ _ _ => ok_one rfl) ⟨_, _, _, rfl, rfl⟩ ?_ ?_
    · rintro pre b post ρ S2 hq ⟨o3, o4, o5, rfl, rfl⟩
      push_cast [mp__law_outcome, hoc, hg, hi, hi2, mp__law_created_correct, hcr]
      exact ⟨_, _, _, rfl, by first | rfl | trivial⟩
    · rintro ρ S2 ⟨o3, o4, o5, rfl, rfl⟩
      push_cast [hr, he]
      all_goals first | exact ⟨rfl, trivial⟩ | exact ⟨trivial, trivial⟩ | exact trivial | exact ⟨rfl, rfl⟩
  | some i =>
    rw [q] at hw
    have hw : ∀ S, m__law_wrong G [.tup [x, y, z]] S = .ok (.int (i : Nat)) S := hw
    have hv : Vl (prt x y z i) := by
      unfold prt
      split
      · exact vx
      · split
        · exact vy
        · exact vz
    have hi3 : i < 3 := by
      unfold wrI at q
      split at q
      · split at q
        · split at q
          · cases q
          · cases q; decide
        · cases q; decide
      · cases q; decide
    obtain ⟨t, ht⟩ := hv.rp
    have hoc := fun b S => outcome_bad (G := G) (S := S) (b := b) vx.kd vy.kd vz.kd q ht
    have hix : ∀ S, p_ix (.tup [x, y, z]) (.int (i : Nat)) S = .ok (prt x y z i) S := fun S => by
      have : i = 0 ∨ i = 1 ∨ i = 2 := by omega
      rcases this with rfl | rfl | rfl <;> rfl
    have hg : ∀ ρ S, g_tup 2 (g_cons (g_name 4) (g_cons (g_name 5) g_nil)) (.tup [.non, .str t]) ρ S = .ok ((ρ.set 4 (some .non)).set 5 (some (.str t))) S := fun _ _ => rfl
    have hi : ∀ S, p_isN false (.int (i : Nat)) .non S = .ok (.bl false) S := fun _ => rfl
    have he : ∀ S, p_eqS false (.str r) (.str r) S = .ok (.bl true) S := fun S => by
      show Res.ok (D.bl (decide (r = r))) S = _
      rw [decide_eq_true rfl]
    have he2 : ∀ S, p_eqS true (.str t) (.str t) S = .ok (.bl false) S := fun S => by
      show Res.ok (D.bl (!decide (t = t))) S = _
      rw [decide_eq_true rfl]
      rfl
    generalize ((i : Nat) : Int) = I at *
    push_cast [hr, mp__law_wrong, hw]
    refine wp_for [false, true] D.bl (fun pre ρ S2 => ∃ o3 o4 o5, ρ = [some (.tup [x, y, z]), some (.str r), some (.int I), o3, o4, o5] ∧ S2 = S) (it_eq (x := .tup ([false, true].map D.bl)) (by push_cast []; rfl) rfl) (fun _ _ _ _ => ok_one rfl) ⟨_, _, _, rfl, rfl⟩ ?_ ?_
    · rintro pre b post ρ S2 hq ⟨o3, o4, o5, rfl, rfl⟩
      push_cast [mp__law_outcome, hoc, hg, hi, hix, ht, he2]
      exact ⟨_, _, _, rfl, by first | rfl | trivial⟩
    · rintro ρ S2 ⟨o3, o4, o5, rfl, rfl⟩
      push_cast [hr, he]
      all_goals first | exact ⟨rfl, trivial⟩ | exact ⟨trivial, trivial⟩ | exact trivial | exact ⟨rfl, rfl⟩
def oddA : List D := [.non, .bl true, .bl false, .str "7", .str "", .tup [], .tup [.int 7], .lst [], .lst [.int 7], .dK [], .dK [(.inl 7, .int 7)], .int 0, .int (-1), .int (-7), .int 1, .int 2, .int 25, .int 1000000000000000000000000000000000000000, .int 1000000000]
def oddB (p n k : Int) : List D := [.int (1000000000 + 7), .int (n * n), .int (n * n - 1), .int (p - 1), .int (p + 1), .int (p * p), .int (0 - p), .int 3, .int 4, .int 9, .int 24, .tup [.int p, .int n, .int k], .int (999999937 + 2)]
theorem vl_lst {ds : List D} (h : ∀ d ∈ ds, ∃ q, Tx d q 1 51) (hl : ds.length ≤ 4) : Vl (.lst ds) := by
  have t := tx_lst h
  have hm : ∃ q, Tx (.lst ds) q 2 250 := by
    obtain ⟨q, t⟩ := t
    have := Nat.mul_le_mul_right (51 + 2) hl
    exact ⟨q, t.mono (by omega) (by omega)⟩
  exact ⟨.oth (fun _ => rfl) (fun n h => by cases h), rp_lst hm (by omega) (by omega), hm⟩
theorem tx_int1 {i : Int} (h : i.natAbs < 10 ^ 50) : ∃ q, Tx (.int i) q 1 51 := by
  obtain ⟨q, hq⟩ := tx_int h
  exact ⟨q, hq.mono (by omega) (by omega)⟩
theorem vl_A : ∀ d ∈ oddA, Vl d := by
  intro d hd
  unfold oddA at hd
  simp only [List.mem_cons, List.not_mem_nil, or_false] at hd
  rcases hd with rfl | rfl | rfl | rfl | rfl | rfl | rfl | rfl | rfl | rfl | rfl | rfl | rfl | rfl | rfl | rfl | rfl | rfl | rfl
  · exact vl_non
  · exact vl_bl _
  · exact vl_bl _
  · exact vl_str (by decide +kernel) (by decide +kernel)
  · exact vl_str (by decide +kernel) (by decide +kernel)
  · exact vl_tup (fun d hd => absurd hd List.not_mem_nil) (by decide)
  · exact vl_tup (fun d hd => by rw [List.mem_singleton.mp hd]; exact tx_int1 (by decide)) (by decide)
  · exact vl_lst (fun d hd => absurd hd List.not_mem_nil) (by decide)
  · exact vl_lst (fun d hd => by rw [List.mem_singleton.mp hd]; exact tx_int1 (by decide)) (by decide)
  · exact vl_closed (q := .dict []) (.oth (fun _ => rfl) fun n h => by cases h) (rp_closed (by decide +kernel)) rfl (by decide +kernel) (by decide +kernel) (by decide +kernel)
  · exact vl_closed (q := .dict [(.int 7, .int 7)]) (.oth (fun _ => rfl) fun n h => by cases h) (rp_closed (by decide +kernel)) rfl (by decide +kernel) (by decide +kernel) (by decide +kernel)
  all_goals exact vl_int (by decide)
theorem vl_B {p n k : Int} (hp : p.natAbs ≤ 1000000000) (hn : n.natAbs ≤ 24) (hk : k.natAbs ≤ 24) : ∀ d ∈ oddB p n k, Vl d := by
  have e1 : (p * p).natAbs < 10 ^ 50 := by
    rw [Int.natAbs_mul]
    exact Nat.lt_of_le_of_lt (Nat.mul_le_mul hp hp) (by decide)
  have e2 : (n * n).natAbs ≤ 576 := by
    rw [Int.natAbs_mul]
    exact Nat.mul_le_mul hn hn
  intro d hd
  unfold oddB at hd
  simp only [List.mem_cons, List.not_mem_nil, or_false] at hd
  generalize n * n = nn at *
  generalize p * p = pp at *
  rcases hd with rfl | rfl | rfl | rfl | rfl | rfl | rfl | rfl | rfl | rfl | rfl | rfl | rfl
  all_goals first
    | exact vl_int (by omega)
    | exact vl_int (by decide)
    | exact vl_int e1
    | skip
  exact vl_tup (fun d hd => by
    simp only [List.mem_cons, List.not_mem_nil, or_false] at hd
    rcases hd with rfl | rfl | rfl <;> exact tx_int1 (by omega)) (by simp)
end
section
variable {G : Gx} {S : Sto}
theorem near_ok {n a b : Int} (n0 : 2 ≤ n) (n1 : n ≤ 24) (a0 : 0 ≤ a) (a1 : a < 999) (b0 : 0 ≤ b) (b1 : b < 900) {s : Int} (s0 : 0 ≤ s) (s1 : s < 6) : ∃ v, (∀ S, p_ix (.lst [.int (n * n + 1), .int (n * n + 1), .int (3 + a), .int (999999000 + b), .int (n * n), .int 1000000]) (.int s) S = .ok (.int v) S) ∧ 3 ≤ v ∧ v < 999999937 := by
  have h1 : 2 * 2 ≤ n * n := Int.mul_le_mul n0 n0 (by omega) (by omega)
  have h2 : n * n ≤ 24 * 24 := Int.mul_le_mul n1 n1 (by omega) (by omega)
  have h : s = 0 ∨ s = 1 ∨ s = 2 ∨ s = 3 ∨ s = 4 ∨ s = 5 := by omega
  generalize n * n = N at *
  rcases h with rfl | rfl | rfl | rfl | rfl | rfl
  · exact ⟨_, fun _ => rfl, by omega, by omega⟩
  · exact ⟨_, fun _ => rfl, by omega, by omega⟩
  · exact ⟨_, fun _ => rfl, by omega, by omega⟩
  · exact ⟨_, fun _ => rfl, by omega, by omega⟩
  · exact ⟨_, fun _ => rfl, by omega, by omega⟩
  · exact ⟨_, fun _ => rfl, by omega, by omega⟩
theorem parts_wp {j : Nat} (h : SkE j S) (hj : j < 2 ^ 18) : wp (mp__law_parts G [.ref 1] S) fun d S' => Pt d ∧ SkE (j + 10) S' ∧ Sm S S' := by
  rw [mp__law_parts, ev_a1, m__law_parts, fnR_eq]
  show wp (ret S (c__law_parts G [some (.ref 1), none, none, none, none, none, none, none, none, none] S)) _
  unfold c__law_parts
  have w6 : ∀ S, p_pow (.int 10) (.int 6) S = .ok (.int 1000000) S := fun S => by rw [pow_eq (by decide) (by decide) (by decide)]; rfl
  have w9 : ∀ S, p_pow (.int 10) (.int 9) S = .ok (.int 1000000000) S := fun S => by rw [pow_eq (by decide) (by decide) (by decide)]; rfl
  have w39 : ∀ S, p_pow (.int 10) (.int 39) S = .ok (.int 1000000000000000000000000000000000000000) S := fun S => by rw [pow_eq (by decide) (by decide) (by decide)]; rfl
  have ng : ∀ (a : Int) S, p_neg (.int a) S = .ok (.int (-a)) S := fun a S => rfl
  have tp3 : ∀ (x y z : D) (S : Sto), p_tup [x, y, z] S = .ok (.tup [x, y, z]) S := fun _ _ _ _ => rfl
  push_cast []
  refine wp_of (draw_wp (G := G) h (by omega) (by omega) (by omega)) ?_
  rintro _ S1 ⟨v1, rfl, a0, a1, h1, s1⟩
  push_cast []
  refine wp_of (draw_wp (G := G) h1 (by omega) (by omega) (by omega)) ?_
  rintro _ S2 ⟨v2, rfl, b0, b1, h2, s2⟩
  push_cast []
  refine wp_of (draw_wp (G := G) h2 (by omega) (by omega) (by omega)) ?_
  rintro _ S3 ⟨v3, rfl, c0, c1, h3, s3⟩
  generalize hn : 2 + v1 = n at *
  generalize hk : 1 + v2 = k at *
  have n0 : 2 ≤ n := by omega
  have n1 : n ≤ 24 := by omega
  have k0 : 1 ≤ k := by omega
  have k1 : k ≤ 24 := by omega
  have hmul : ∀ S, p_mul false (.int n) (.int n) S = .ok (.int (n * n)) S := fun _ => v_mulC (by omega) (by omega) (by omega) (by omega)
  push_cast [hmul]
  refine wp_of (draw_wp (G := G) h3 (by omega) (by omega) (by omega)) ?_
  rintro _ S4 ⟨v4, rfl, d0, d1, h4, s4⟩
  push_cast [hmul]
  refine wp_of (draw_wp (G := G) h4 (by omega) (by omega) (by omega)) ?_
  rintro _ S5 ⟨v5, rfl, e0, e1, h5, s5⟩
  obtain ⟨w, hw, w0, w1⟩ := near_ok n0 n1 d0 d1 e0 e1 c0 c1
  obtain ⟨p, hp⟩ := nx_ex (w - 1) (by omega)
  have hp2 := prO_le hp.2.1
  have hpf := fun S => prime_from_eq (G := G) (S := S) hp (by omega)
  have hl6 : ∀ (x1 x2 x3 x4 x5 x6 : D) S, p_lst false [x1, x2, x3, x4, x5, x6] S = .ok (.lst [x1, x2, x3, x4, x5, x6]) S := fun _ _ _ _ _ _ _ => rfl
  have hpp : ∀ S, p_mul false (.int p) (.int p) S = .ok (.int (p * p)) S := fun _ => v_mulC (by omega) (by omega) (by omega) (by omega)
  have hAB : ∀ S, p_add false (.lst [.non, .bl true, .bl false, .str "7", .str "", .tup [], .tup [.int 7], .lst [], .lst [.int 7], .dK [], .dK [(.inl 7, .int 7)], .int 0, .int (-1), .int (-7), .int 1, .int 2, .int 25, .int 1000000000000000000000000000000000000000, .int 1000000000]) (.lst [.int (1000000000 + 7), .int (n * n), .int (n * n - 1), .int (p - 1), .int (p + 1), .int (p * p), .int (0 - p), .int 3, .int 4, .int 9, .int 24, .tup [.int p, .int n, .int k], .int (999999937 + 2)]) S = .ok (.lst (oddA ++ oddB p n k)) S := fun S => by
    show p_lst false (oddA ++ oddB p n k) S = _
    exact lst_f (by rw [List.length_append]; have e1 : oddA.length = 19 := rfl; have e2 : (oddB p n k).length = 13 := rfl; omega)
  have d0 : ∀ S : Sto, p_dK false [] S = .ok (.dK []) S := fun _ => rfl
  have d1 : ∀ S : Sto, p_dispK false [(.int 7, .int 7)] S = .ok (.dK [(.inl 7, .int 7)]) S := fun _ => rfl
  have hvl : ∀ d ∈ oddA ++ oddB p n k, Vl d := fun d hd => by
    rcases List.mem_append.mp hd with h | h
    · exact vl_A d h
    · exact vl_B (by omega) (by omega) (by omega) d h
  have hol : (oddA ++ oddB p n k).length = 32 := by rw [List.length_append]; rfl
  have hone : oddA ++ oddB p n k ≠ [] := fun z => by rw [z] at hol; cases hol
  push_cast [w6, hl6, hw, mp__law_prime_from, hpf, w39, w9, hmul, hpp, d0, d1, hAB]
  generalize oddA ++ oddB p n k = O at *
  refine wp_for (List.range (2 : Int).toNat) (fun (i : Nat) => D.int (0 + (i : Int))) (fun pre ρ S' => ∃ x y z o7 o8 o9, ρ = [some (.ref 1), some y, some z, some (.int v3), some (.int w), some x, some (.lst O), o7, o8, o9] ∧ Vl x ∧ Vl y ∧ Vl z ∧ SkE (j + 5 + 2 * pre.length) S' ∧ Sm S S') (rng1 (by push_cast []) ⟨by omega, by omega⟩) (fun _ _ _ _ => ok_nil) ⟨_, _, _, _, _, _, rfl, vl_int (by omega), vl_int (by omega), vl_int (by omega), h5.mono (by omega), (((s1.trans s2).trans s3).trans s4).trans s5⟩ ?_ ?_
  · rintro pre t post ρ S6 hq ⟨x, y, z, o7, o8, o9, rfl, vx, vy, vz, h6, s6⟩
    obtain ⟨q0, q1, q2⟩ := range_pre hq
    have q3 : pre.length < 2 := q2
    rw [List.length_append, List.length_singleton]
    push_cast []
    refine wp_of (draw_wp (G := G) h6 (by omega) (by omega) (by omega)) ?_
    rintro _ S7 ⟨u, rfl, u0, u1, h7, s7⟩
    have hOm : D.lst O = .lst (O.map id) := by rw [List.map_id]
    push_cast []
    rw [hOm]
    refine wp_of (pick_wp (G := G) (l := O) (f := id) h7 (by omega) hone (by omega)) ?_
    rintro x8 S8 ⟨c, e8, hc, h8, s8⟩
    have e8 : x8 = c := e8
    rw [e8]
    have vc := hvl c hc
    have ss := (s6.trans s7).trans s8
    have hg : ∀ (a b c : D) ρ S, g_tup 3 (g_cons (g_name 5) (g_cons (g_name 1) (g_cons (g_name 2) g_nil))) (.tup [a, b, c]) ρ S = .ok (((ρ.set 5 (some a)).set 1 (some b)).set 2 (some c)) S := fun _ _ _ _ _ => rfl
    have l3 : ∀ (x y z : D) (S : Sto), p_lst false [x, y, z] S = .ok (.lst [x, y, z]) S := fun _ _ _ _ => rfl
    have hu : u = 0 ∨ u = 1 ∨ u = 2 ∨ u = 3 ∨ u = 4 ∨ u = 5 := by omega
    rcases hu with rfl | rfl | rfl | rfl | rfl | rfl
    · push_cast [hg, tp3]
      exact ⟨_, _, _, _, _, _, by first | rfl | (rw [List.map_id]), vx, vy, vz, h8.mono (by omega), ss⟩
    · push_cast [hg, tp3]
      exact ⟨_, _, _, _, _, _, by first | rfl | (rw [List.map_id]), vx, vy, vz, h8.mono (by omega), ss⟩
    · push_cast [hg, tp3]
      exact ⟨_, _, _, _, _, _, by first | rfl | (rw [List.map_id]), vx, vy, vz, h8.mono (by omega), ss⟩
    · have hix : ∀ (a b c : D) S, p_ix (.lst [a, b, c]) (.int (3 % 3)) S = .ok a S := fun _ _ _ _ => rfl
      push_cast [tp3, l3, hix, hg]
      exact ⟨_, _, _, _, _, _, by first | rfl | (rw [List.map_id]), vc, vy, vz, h8.mono (by omega), ss⟩
    · have hix : ∀ (a b c : D) S, p_ix (.lst [a, b, c]) (.int (4 % 3)) S = .ok b S := fun _ _ _ _ => rfl
      push_cast [tp3, l3, hix, hg]
      exact ⟨_, _, _, _, _, _, by first | rfl | (rw [List.map_id]), vx, vc, vz, h8.mono (by omega), ss⟩
    · have hix : ∀ (a b c : D) S, p_ix (.lst [a, b, c]) (.int (5 % 3)) S = .ok c S := fun _ _ _ _ => rfl
      push_cast [tp3, l3, hix, hg]
      exact ⟨_, _, _, _, _, _, by first | rfl | (rw [List.map_id]), vx, vy, vc, h8.mono (by omega), ss⟩
  · rintro ρ S6 ⟨x, y, z, o7, o8, o9, rfl, vx, vy, vz, h6, s6⟩
    have e2 : (List.range (2 : Int).toNat).length = 2 := rfl
    rw [e2] at h6
    push_cast [tp3]
    exact wp_fin_len s6.1 ⟨⟨x, y, z, rfl, vx, vy, vz⟩, h6.mono (by omega), s6⟩
def fixA : List D := [.tup [.int 5, .int 2, .int 1], .tup [.int 577, .int 24, .int 24], .tup [.int 576, .int 24, .int 24], .tup [.int 571, .int 24, .int 1], .tup [.int 101, .int 10, .int 24], .tup [.int 97, .int 10, .int 1], .tup [.int 3, .int 2, .int 1], .tup [.int 7, .int 2, .int 25]]
def fixB : List D := [.tup [.int 999999937, .int 24, .int 24], .tup [.int 7, .int 1, .int 1], .tup [.int 7, .int 2, .int 0], .tup [.non, .non, .non], .tup [.int 7, .non, .non], .tup [.bl true, .bl true, .bl true]]
theorem pt_fix : ∀ d ∈ fixA ++ fixB, Pt d := by
  intro d hd
  rcases List.mem_append.mp hd with hd | hd
  · unfold fixA at hd
    simp only [List.mem_cons, List.not_mem_nil, or_false] at hd
    rcases hd with rfl | rfl | rfl | rfl | rfl | rfl | rfl | rfl <;> exact ⟨_, _, _, rfl, vl_int (by decide), vl_int (by decide), vl_int (by decide)⟩
  · unfold fixB at hd
    simp only [List.mem_cons, List.not_mem_nil, or_false] at hd
    rcases hd with rfl | rfl | rfl | rfl | rfl | rfl
    · exact ⟨_, _, _, rfl, vl_int (by decide), vl_int (by decide), vl_int (by decide)⟩
    · exact ⟨_, _, _, rfl, vl_int (by decide), vl_int (by decide), vl_int (by decide)⟩
    · exact ⟨_, _, _, rfl, vl_int (by decide), vl_int (by decide), vl_int (by decide)⟩
    · exact ⟨_, _, _, rfl, vl_non, vl_non, vl_non⟩
    · exact ⟨_, _, _, rfl, vl_int (by decide), vl_non, vl_non⟩
    · exact ⟨_, _, _, rfl, vl_bl _, vl_bl _, vl_bl _⟩
theorem forty {S0 : Sto} (h0 : SkE 0 S0) {ns : List Int} {a : D} : wp (c_lc (c_rng1 (c_cons (c_d (D.int 40)) c_nil)) (g_name 4) c_yes (c_cb (mp__law_parts G) (c_cons (c_var 1) c_nil)) [4] [some (D.scr (iD ns)), some (D.ref 1), some a, none, none, none, none] S0) fun d S' => ∃ l : List D, d = .lst l ∧ l.length ≤ 40 ∧ ∀ x ∈ l, Pt x := by
  refine wp_lc (List.range (40 : Int).toNat) (fun (i : Nat) => D.int (0 + (i : Int))) (fun pre S' ys => SkE (10 * pre.length) S' ∧ ys.length ≤ pre.length ∧ ∀ x ∈ ys, Pt x) (rng1 (by push_cast []) ⟨by omega, by omega⟩) (by rw [List.length_range]; decide) (fun _ _ _ _ => ok_nil) ⟨h0, Nat.le_refl _, fun x hx => absurd hx List.not_mem_nil⟩ ?_ ?_
  · rintro pre i post S' ys hq ⟨h1, hl, hys⟩
    obtain ⟨b0, b1, b2⟩ := range_pre hq
    have b4 : pre.length < 40 := b2
    rw [List.length_append, List.length_singleton]
    push_cast []
    refine wp_of (parts_wp (G := G) h1 (by omega)) ?_
    rintro d S3 ⟨hd, h3, s3⟩
    push_cast []
    refine ⟨h3.mono (by omega), by rw [List.length_append, List.length_singleton]; omega, fun x hx => ?_⟩
    rcases List.mem_append.mp hx with h | h
    · exact hys x h
    · rw [List.mem_singleton.mp h]
      exact hd
  · rintro ys S' ⟨h1, hl, hys⟩
    exact ⟨ys, rfl, hl, hys⟩
theorem law_tells : Tells 63 (m_law G) := fun ns hn _ => by
  suffices h : wp (m_law G [.scr (ns.map D.int)] []) fun d _ => d = .bl true by
    obtain ⟨a, S, e, rfl⟩ := wp_ex h
    exact ⟨S, e⟩
  rw [m_law, fnR_eq]
  show wp (ret [] (c_law G [some (.scr (iD ns)), none, none, none, none, none, none] [])) _
  unfold c_law
  push_cast []
  refine wp_of (deck_wp hn) ?_
  rintro _ S0 ⟨rfl, h0⟩
  have hAB : ∀ S, p_add false (.lst [.tup [.int 5, .int 2, .int 1], .tup [.int 577, .int 24, .int 24], .tup [.int 576, .int 24, .int 24], .tup [.int 571, .int 24, .int 1], .tup [.int 101, .int 10, .int 24], .tup [.int 97, .int 10, .int 1], .tup [.int 3, .int 2, .int 1], .tup [.int 7, .int 2, .int 25]]) (.lst [.tup [.int 999999937, .int 24, .int 24], .tup [.int 7, .int 1, .int 1], .tup [.int 7, .int 2, .int 0], .tup [.non, .non, .non], .tup [.int 7, .non, .non], .tup [.bl true, .bl true, .bl true]]) S = .ok (.lst (fixA ++ fixB)) S := fun _ => rfl
  push_cast [hAB]
  obtain ⟨_, S1, e1, l, rfl, hl, hpl⟩ := wp_ex (forty (G := G) h0 (ns := ns) (a := .lst (fixA ++ fixB)))
  have hall : ∀ x ∈ (fixA ++ fixB) ++ l, Pt x := fun x hx => by
    rcases List.mem_append.mp hx with h | h
    · exact pt_fix x h
    · exact hpl x h
  have hlen : ((fixA ++ fixB) ++ l).length ≤ 54 := by rw [List.length_append]; have : (fixA ++ fixB).length = 14 := rfl; omega
  have hadd : p_add false (.lst (fixA ++ fixB)) (.lst l) S1 = .ok (.lst ((fixA ++ fixB) ++ l)) S1 := by
    show p_lst false ((fixA ++ fixB) ++ l) S1 = _
    exact lst_f (by omega)
  generalize fixA ++ fixB = FX at *
  generalize FX ++ l = IT at *
  refine wp_for IT id (fun pre ρ S' => ∃ o3, ρ = [some (.scr (iD ns)), some (.ref 1), some (.lst FX), o3, none, none, none] ∧ S' = S1) (it_eq (x := .lst (IT.map id)) (by push_cast [e1, hadd, List.map_id]) rfl) (fun _ _ _ _ => ok_one rfl) ⟨_, rfl, rfl⟩ ?_ ?_
  · rintro pre d post ρ S' hq ⟨o3, rfl, rfl⟩
    have hd := hall d (by rw [hq]; simp)
    have hc := fun S => correct_ok (G := G) (S := S) hd
    push_cast [id_eq, mp__law_correct, hc]
    exact ⟨_, rfl, by first | rfl | trivial⟩
  rintro ρ S' ⟨o3, rfl, rfl⟩
  have hmk : ∀ S, p_make false 0 (mp_Scheme__init_ G) [.int 101, .int 4, .int 4] S = .ok (plan 101 4 4) S := fun S => scheme_eq (by decide) (by decide) (primes_ok (by simp)) (by decide) (by decide) (by decide) (by decide) (by decide)
  have w9 : ∀ S, p_pow (.int 10) (.int 9) S = .ok (.int 1000000000) S := fun S => by rw [pow_eq (by decide) (by decide) (by decide)]; rfl
  have hcv : ∀ (d : D) (S : Sto), c_cvalI 0 d (c_var 5) [some (.scr (iD ns)), some (.ref 1), some (.lst FX), o3, none, some (plan 101 4 4), some (.lst [.int 1000000000, .int 24, .int 24])] S = .ok d S := fun _ _ => rfl
  have ha : ∀ S, p_add false (.lst [.int 1000000000, .int 24, .int 24]) (.lst [.int 1000000000, .int 24, .int 24]) S = .ok (.lst [.int 1000000000, .int 24, .int 24, .int 1000000000, .int 24, .int 24]) S := fun _ => rfl
  have hm : ∀ S, p_mul false (.lst [.int 1000000000, .int 24, .int 24]) (.int 2) S = .ok (.lst [.int 1000000000, .int 24, .int 24, .int 1000000000, .int 24, .int 24]) S := fun _ => rfl
  obtain ⟨T, t1, t2⟩ : ∃ T : PySem.Str, PyData.strOk T = true ∧ ∀ S : Sto, p_repr [.lst [.int 1000000000, .int 24, .int 24, .int 1000000000, .int 24, .int 24]] S = .ok (.str T) S := by
    have hF : Fx 1 (6 * (13 + 2) + 2) (.list ([1000000000, 24, 24, 1000000000, 24, 24].map PyData.int)) := Fx.list (d := 0) (w := 13) (ps := [1000000000, 24, 24, 1000000000, 24, 24].map PyData.int) fun r hr => by
      obtain ⟨i, hi, rfl⟩ := List.mem_map.mp hr
      refine Fx.int (k := 12) (by decide) (by decide) ?_
      simp only [List.mem_cons, List.not_mem_nil, or_false] at hi
      rcases hi with rfl | rfl | rfl | rfl | rfl | rfl <;> decide
    exact ⟨_, hF.ok, fun S => repr_x (S := S) (p := .list ([1000000000, 24, 24, 1000000000, 24, 24].map PyData.int)) rfl hF rfl (by decide) (by decide)⟩
  have hne := fun S => eq_strB (n := false) (S := S) t1
  rw [Bool.not_false] at hne
  push_cast [hmk, w9, hcv, ha, hm, t2, hne]
  refine wp_of (P := fun d _ => d = .bl true) ?_ fun a S h => h
  unfold fin
  split
  · exact ⟨rfl⟩
  · split <;> exact ⟨rfl⟩
end
end K02
open PySem PySem.W PySem.Calls PyProof.Rows
set_option maxRecDepth 100000 in
set_option maxHeartbeats 0 in
theorem PySem.Challenge.cw_crossnought_k02_schemes_of_any_values_holds : PySem.Challenge.rw_crossnought_k02_schemes_of_any_values.Holds := by
  w_on; o_law
  refine HandSHeadRun.head_any (r := PySem.W.OpenLaw.row PySem.Challenge.rw_crossnought_k02_schemes_of_any_values) (q := PySem.W.view (PySem.W.OpenLaw.row PySem.Challenge.rw_crossnought_k02_schemes_of_any_values).prog [32]) (H := DL.hookX K02.fcts K02.fns) (ob := DL.obsX K02.fcts K02.fns) (M := 40000) (loose := K02.names) (d := HandSHeadRun.topDef (PySem.W.OpenLaw.row PySem.Challenge.rw_crossnought_k02_schemes_of_any_values).prog 32) (kwd := []) DL.obsX_eq
    (by kernel_rfl) (fun s => by kernel_rfl) K02.hrun (by kernel_rfl) (by kernel_rfl) (by kernel_rfl) (by rfl) (by first | assumption | decide +kernel) (by decide +kernel) ⟨rfl, rfl, rfl, rfl, rfl, by decide +kernel⟩ ?hw ?hc
  case hw => w_witness2
  case hc =>
    refine DL.walk_dlX (l := PySem.Challenge.rw_crossnought_k02_schemes_of_any_values) (n := 63) (k := 11) (x := "_law_script") (m := fun G => K02.m_law G) rfl (by decide) (by kernel_rfl) ⟨rfl, by decide, by decide⟩ (fun G => K02.law_tells) ?F
    intro w mg fa h K KX c N hmg0
    have hmg : mg ("law" : PySem.Str) = some (.ref fa) := by
      have e : (HandSHeadRun.topDef (PySem.W.OpenLaw.row PySem.Challenge.rw_crossnought_k02_schemes_of_any_values).prog 32).name = ("law" : PySem.Str) := by kernel_rfl
      rw [← e]
      exact hmg0
    exact K02.all_mk2 KX N hmg c
