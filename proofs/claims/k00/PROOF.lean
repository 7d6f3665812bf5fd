import PyProof.Rows.All
import Wide.All
import OpenK.AllK
import Wide.FinOn
import HandS.Head0
import HandS.Head1
import HandS.Head2
import HandS.HeadHook1
import HandS.HeadHook2
import KE.KExcInit
import HandS.ExcField
import HandS.IsInst
import HandS.ExcInit
import HandS.Words
import KE.KStateDown
import HandS.ForMost
import HandS.Evl
import HandS.Walk
import HandS.Star
import HandS.Style
import HandS.TupAny
import HandS.DictComp
import HandS.Deep
import KE.GoesMore
import KE.GoesEnum
import HandS.Codes
import HandS.Zip
import HandS.ForExc
import HandS.OwnEq
import HandS.ClsMeth
import HandS.Property
import OpenK.KOps
import OpenK.KMeth
import HandS.TryOnly
import HandS.WordsExc
import HandS.RaiseMore
import HandS.More
import HandS.Dict
import HandS.Conv
import HandS.ListItems
import HandS.Exc
import HandS.TryMany
import PyProof.ReprRoads
import KE.KCallOwn
import HandS.Finally
import KE.SortData
import PyProof.Rows.CallKwBuiltin
import KE.KMinKey
import HandS.SortKw
import KE.KDictZip
import PyProof.WalksMore
import HandS.SetKeys
import HandS.Strs
import PyProof.Rows.SetFrom
import KE.KDictList
import KE.KEqNest
import HandS.SetTxt0
import HandS.Set
import HandS.NoneIn
import HandS.Defaults
import HandS.FStr
import KE.KFmtOwn
import KE.KeyNested
import PyProof.DictWalks
import HandS.Text
import PyProof.SliceList
import KE.KTryMore
import HandS.ReplaceLit
import HandS.TupMul
import KE.KEqDict
import HandS.DictTup
import PyProof.NeKinds
import HandS.List
import HandS.Iter
import HandS.Comp
import HandS.TupSets
import HandS.SetFor
import HandS.TupLe
import KE.KDictWalk
import HandS.Small
import HandS.TupLen
import PyProof.StrBlock2
import HandS.ExcCtx
import HandS.SuiteRaise
import HandS.RaiseFrom
import HandS.Lambda
import KE.KExcIs
import KE.KExcStr
import HandS.ExcValue
import PySem.Challenge.RW_firstneed_k00_errors_and_what_they_keep
set_option Elab.async false
set_option maxRecDepth 100000
set_option maxHeartbeats 1000000
set_option linter.all false
namespace Pu
open PySem PySem.Spec PyProof.Rows L2
theorem ba1 {a b : Bool} (h : (a && b) = true) : a = true := (Bool.and_eq_true_iff.mp h).1
theorem ba2 {a b : Bool} (h : (a && b) = true) : b = true := (Bool.and_eq_true_iff.mp h).2
def refOf : Option (Option Value) → Addr
  | some (some (.ref a)) => a
  | _ => 0
def jaw : Option (Option Value) → Bool
  | some (some (.ref _)) => true
  | _ => false
theorem jay {o : Option (Option Value)} (h : jaw o = true) : o = some (some (.ref (refOf o))) := by
  unfold jaw at h
  split at h
  · rfl
  · cases h
def jaz : Option (Option Value) → Bool
  | some none => true
  | _ => false
theorem jar {o : Option (Option Value)} (h : jaz o = true) : o = some none := by
  unfold jaz at h
  split at h
  · rfl
  · cases h
def isBi (s : String) : Option (Option Value) → Bool
  | some (some (.builtin t)) => t == s
  | _ => false
theorem of_bi {s : String} {o : Option (Option Value)} (h : isBi s o = true) : o = some (some (.builtin s)) := by
  unfold isBi at h
  split at h
  · rw [eq_of_beq h]
  · cases h
def isOB (b : Bool) : Option Bool → Bool
  | some c => c == b
  | _ => false
theorem of_ob {b : Bool} {o : Option Bool} (h : isOB b o = true) : o = some b := by
  unfold isOB at h
  split at h
  · rw [eq_of_beq h]
  · cases h
def isTyO (s : String) : Option Value → Bool
  | some (.type t) => t == s
  | _ => false
theorem of_ty {s : String} {o : Option Value} (h : isTyO s o = true) : o = some (.type s) := by
  unfold isTyO at h
  split at h
  · rw [eq_of_beq h]
  · cases h
def ocOf : Option Obj → Value
  | some o => o.cls
  | none => .none
def odOf : Option Obj → Option Addr
  | some o => o.dict
  | none => none
def slOf : Option Obj → Array (Option Value)
  | some o => o.slots
  | none => #[]
def fn0 : FuncData := PySem.W.fnOf Str.empty Str.empty ⟨[], [], none, [], [], none, []⟩ [] { kind := .function, names := [], isGenerator := false, isCoroutine := false } .none .none .none .none none .none .none
def fdOf : Option Obj → FuncData
  | some ⟨_, _, .func f, _⟩ => f
  | _ => fn0
def bodyOf : FuncBody → List Stmt
  | .stmts b => b
  | _ => []
def jkS : FuncBody → Bool
  | .stmts _ => true
  | _ => false
def isFnO : Option Obj → Bool
  | some ⟨_, _, .func f, _⟩ => jkS f.body && (f.globals == mainGlobals && (f.closure.isEmpty && f.builtins == builtinsNs))
  | _ => false
def jaL : Value → Bool
  | .none => true
  | _ => false
abbrev FnT : Type := Str × Str × Arguments × List Stmt × Scope
abbrev mkT (a q : Str) (ar : Arguments) (b : List Stmt) (sc : Scope) : FnT := (a, q, ar, b, sc)
def fnT (o : Option Obj) : FnT := ((fdOf o).name, (fdOf o).qualname, (fdOf o).params, bodyOf (fdOf o).body, (fdOf o).scope)
theorem of_fnG {o : Option Obj} {nm q : Str} {ar : Arguments} {b : List Stmt} {sc : Scope} (h : isFnO o = true) (p : fnT o = (nm, q, ar, b, sc)) :
    o = some ⟨ocOf o, odOf o, .func (PySem.W.fnOf nm q ar b sc (fdOf o).defaults (fdOf o).kwdefaults (fdOf o).doc (fdOf o).pyModule (fdOf o).annotations (fdOf o).code (fdOf o).closureTuple), slOf o⟩ := by
  unfold isFnO at h
  split at h
  · rename_i c d f sl
    have p : (f.name, f.qualname, f.params, bodyOf f.body, f.scope) = (nm, q, ar, b, sc) := p
    obtain ⟨n1, q1, a1, b1, s1, g1, c1, d1, k1, dc1, pm1, an1, cd1, ct1, bi1⟩ := f
    have h1 := ba1 h
    have h2 := eq_of_beq (ba1 (ba2 h))
    have h3 := ba1 (ba2 (ba2 h))
    have h4 := eq_of_beq (ba2 (ba2 (ba2 h)))
    try simp only at h1 h2 h3 h4 p
    cases b1 with
    | stmts bb =>
      cases c1 with
      | nil =>
        obtain ⟨rfl, rfl, rfl, rfl, rfl⟩ : n1 = nm ∧ q1 = q ∧ a1 = ar ∧ bb = b ∧ s1 = sc := ⟨congrArg (·.1) p, congrArg (·.2.1) p, congrArg (·.2.2.1) p, congrArg (·.2.2.2.1) p, congrArg (·.2.2.2.2) p⟩
        subst h2 h4
        rfl
      | cons _ _ => cases h3
    | expr _ => cases h1
  · cases h
theorem of_fn {o : Option Obj} {nm q : Str} {ar : Arguments} {b : List Stmt} {sc : Scope} (h : (isFnO o && jaL (fdOf o).defaults) = true) (p : fnT o = (nm, q, ar, b, sc)) :
    o = some ⟨ocOf o, odOf o, .func (PySem.W.fnOf nm q ar b sc .none (fdOf o).kwdefaults (fdOf o).doc (fdOf o).pyModule (fdOf o).annotations (fdOf o).code (fdOf o).closureTuple), slOf o⟩ := by
  have e := of_fnG (ba1 h) p
  have h2 := ba2 h
  generalize (fdOf o).defaults = dv at e h2
  cases dv with
  | none => exact e
  | _ => cases h2
theorem nthEq {α : Type} {l l' : List α} (h : l = l') (i : Nat) : l[i]? = l'[i]? := by rw [h]
def downs : Nat → List Addr
  | 0 => []
  | n + 1 => n :: downs n
/-- the module's names first: most facts look there -/
def hotO : Option Obj → Bool
  | some ⟨.none, _, _, _⟩ => false
  | some ⟨_, _, .seq _ _, _⟩ => false
  | some _ => true
  | none => false
/-- objects that facts look at stand first: no tuples, no parts of codes -/
def addrs (g : Addr → Option Obj) (N : Nat) : List Addr := mainGlobals :: ((downs N).filter (fun a => hotO (g a)) ++ downs N)
def hkR (N : Nat) (chk : PySem.W.Frag → Bool) (prt : PySem.W.Frag → List FnT) (exp : List FnT) : PySem.W.Hook where
  α := Bool × List FnT
  obs s := (chk (He.frG s.heap.get? (addrs s.heap.get? N)), prt (He.frG s.heap.get? (addrs s.heap.get? N)))
  val _ := (true, exp)
  says _ h := ∃ K : PySem.W.Frag, K.In h ∧ chk K = true ∧ prt K = exp
  of _ _ e := ⟨_, He.frG_in, congrArg Prod.fst e, congrArg Prod.snd e⟩
  keeps _ _ _ := fun ⟨K, i, p⟩ k => ⟨K, fun a o l => k a o (i a o l), p⟩
def obR (N : Nat) (chk : PySem.W.Frag → Bool) (prt : PySem.W.Frag → List FnT) (s : PySem.W.SharedT) : Bool × List FnT := (chk (He.frG (HandSHeadRun.getT s) (addrs (HandSHeadRun.getT s) N)), prt (He.frG (HandSHeadRun.getT s) (addrs (HandSHeadRun.getT s) N)))
theorem obR_eq {N : Nat} {chk : PySem.W.Frag → Bool} {prt : PySem.W.Frag → List FnT} {exp : List FnT} (s : PySem.W.SharedT) : obR N chk prt s = (hkR N chk prt exp).obs s.abs := by
  have e : HandSHeadRun.getT s = s.abs.heap.get? := funext (HandSHeadRun.getT_eq s)
  unfold obR
  rw [e]
  rfl
end Pu
namespace Pu
open PySem PySem.Spec PyProof.Rows L2
def slBT (newId : String) : List (Option Value) → Bool
  | [_, _, _, _, some (.builtin n), _] => n == newId
  | _ => false
def mroBT (bmB : List Value) (C : Addr) : List Value → Bool
  | .ref D :: bm => D == C && PySem.W.excTail bmB bm
  | _ => false
def excBT (newId : String) (bmB : List Value) (K : PySem.W.Frag) (C : Addr) : Bool := match K.lookup C with
  | some ⟨.type t, _, .cls cd, sl⟩ => t == "type" && (slBT newId sl.toList && (mroBT bmB C cd.mro && (cd.hasDict && !cd.hasDel)))
  | _ => false
theorem jcQ {newId : String} {bmB : List Value} {K : PySem.W.Frag} {C : Addr} (h : excBT newId bmB K C = true) : ∃ nm q N bs bm sn sub ab col dd k0 k1 k2 k3 k5, K.lookup C = some (excClassObj nm q C N bs bm true sn sub ab col dd k0 k1 k2 k3 k5 newId) ∧ PySem.W.excTail bmB bm = true := by
  unfold excBT at h
  split at h
  · rename_i t d cd sl e
    have h1 := eq_of_beq (ba1 h)
    have h2 := ba1 (ba2 h)
    have h3 := ba1 (ba2 (ba2 h))
    have h4 := ba1 (ba2 (ba2 (ba2 h)))
    have h5 := ba2 (ba2 (ba2 (ba2 h)))
    subst h1
    obtain ⟨nm, bs, mro, N, q, hd, sn, sub, ab, col, hdel⟩ := cd
    obtain ⟨sl⟩ := sl
    simp only at h2 h3 h4 h5
    subst h4
    have h5 : hdel = false := by cases hdel <;> first | rfl | cases h5
    subst h5
    unfold slBT at h2
    split at h2
    · have h2 := eq_of_beq h2
      subst h2
      unfold mroBT at h3
      split at h3
      · rename_i D bm
        have h6 := eq_of_beq (ba1 h3)
        subst h6
        exact ⟨_, _, _, _, _, _, _, _, _, _, _, _, _, _, _, e, ba2 h3⟩
      · cases h3
    · cases h2
  · cases h
abbrev lkTail : List Value := [.type "LookupError", .type "Exception", .type "BaseException", .type "object"]
abbrev ofTail : List Value := [.type "OverflowError", .type "ArithmeticError", .type "Exception", .type "BaseException", .type "object"]
abbrev rtTail : List Value := [.type "RuntimeError", .type "Exception", .type "BaseException", .type "object"]
abbrev ixTail : List Value := [.type "IndexError", .type "LookupError", .type "Exception", .type "BaseException", .type "object"]
abbrev keyTail : List Value := [.type "KeyError", .type "LookupError", .type "Exception", .type "BaseException", .type "object"]
abbrev valTail : List Value := [.type "ValueError", .type "Exception", .type "BaseException", .type "object"]
abbrev arTail : List Value := [.type "ArithmeticError", .type "Exception", .type "BaseException", .type "object"]
end Pu
namespace Pu
open PySem PySem.Spec PyProof.Rows L2
def ob1 (o : Option Bool) : Bool := match o with | some b => b | none => false
def oi1 (n : String) (o : Option (Option Value)) : Bool := match o with | some (some (.builtin m)) => m == n | _ => false
theorem jkk {o : Option Bool} (h : ob1 o = true) : o = some true := by
  cases o with
  | none => cases h
  | some b => exact congrArg some h
theorem jkl {n : String} {o : Option (Option Value)} (h : oi1 n o = true) : o = some (some (.builtin n)) := by
  unfold oi1 at h
  split at h
  · rw [eq_of_beq h]
  · cases h
def erB (K : PySem.W.Frag) (C : Addr) : Bool := xfB K C && ((PySem.W.clsIn K C).isSome && (oi1 "object.__class__" (PySem.W.findIn K (.ref C) "__class__") &&
  (oi1 "getset_descriptor.__get__" (PySem.W.specialIn K (.builtin "object.__class__") "__get__") && (ob1 (PySem.W.takesIn K (.builtin "object.__class__")) && ob1 (PySem.W.mroIn K C (.type "object"))))))
def kitsB (K : PySem.W.Frag) (C : Addr) (vs : List Value) (bs : List Bool) : Bool := (vs.zip bs).all fun q => match PySem.W.kitOne K (.ref C) q.1 with | some b => b == q.2 | none => false
theorem jak {K : PySem.W.Frag} {C : Addr} {vs : List Value} {bs : List Bool} (h : kitsB K C vs bs = true) : ∀ q ∈ vs.zip bs, PySem.W.kitOne K (.ref C) q.1 = some q.2 := fun q hq => by
  have h1 := List.all_eq_true.mp h q hq
  cases e : PySem.W.kitOne K (.ref C) q.1 with
  | none => rw [e] at h1; cases h1
  | some b => rw [e] at h1; rw [eq_of_beq h1]
end Pu
namespace Pu
open PySem PySem.Spec PyProof.Rows L2
end Pu
namespace K0
open PySem PySem.Spec PyProof.Rows L2 Pu
def topR (i : Nat) : Stmt := PySem.Challenge.pw_firstneed_k00_errors_and_what_they_keep.main.body.getD i (.Pass ⟨0, 0, 0, 0⟩)
def q_E0 (K : PySem.W.Frag) : Addr := refOf (PySem.W.nsIn K mainGlobals "InvalidWord")
def q_E1 (K : PySem.W.Frag) : Addr := refOf (PySem.W.nsIn K mainGlobals "InvalidTerm")
def q_E2 (K : PySem.W.Frag) : Addr := refOf (PySem.W.nsIn K mainGlobals "InvalidBook")
def q_E3 (K : PySem.W.Frag) : Addr := refOf (PySem.W.nsIn K mainGlobals "InvalidProgram")
def q_E4 (K : PySem.W.Frag) : Addr := refOf (PySem.W.nsIn K mainGlobals "InvalidTable")
def q_E5 (K : PySem.W.Frag) : Addr := refOf (PySem.W.nsIn K mainGlobals "InvalidLines")
def q_E6 (K : PySem.W.Frag) : Addr := refOf (PySem.W.nsIn K mainGlobals "InvalidRows")
def q_E7 (K : PySem.W.Frag) : Addr := refOf (PySem.W.nsIn K mainGlobals "InvalidOperation")
def q_E8 (K : PySem.W.Frag) : Addr := refOf (PySem.W.nsIn K mainGlobals "NeedError")
def q_E9 (K : PySem.W.Frag) : Addr := refOf (PySem.W.nsIn K mainGlobals "ParseError")
def q_E10 (K : PySem.W.Frag) : Addr := refOf (PySem.W.nsIn K mainGlobals "UnknownWord")
def q_E11 (K : PySem.W.Frag) : Addr := refOf (PySem.W.nsIn K mainGlobals "UnknownPlace")
def q_E12 (K : PySem.W.Frag) : Addr := refOf (PySem.W.nsIn K mainGlobals "NothingToUndo")
def q_E13 (K : PySem.W.Frag) : Addr := refOf (PySem.W.nsIn K mainGlobals "TooMany")
def q_E14 (K : PySem.W.Frag) : Addr := refOf (PySem.W.nsIn K mainGlobals "Refused")
def q_E15 (K : PySem.W.Frag) : Addr := refOf (PySem.W.nsIn K mainGlobals "InvalidNumber")
def jaf (K : PySem.W.Frag) : Addr := refOf (PySem.W.findIn K (.ref (q_E9 K)) "__init__")
def jae (K : PySem.W.Frag) : Addr := refOf (PySem.W.findIn K (.ref (q_E10 K)) "__init__")
def jad (K : PySem.W.Frag) : Addr := refOf (PySem.W.findIn K (.ref (q_E11 K)) "__init__")
def jaa (K : PySem.W.Frag) : Addr := refOf (PySem.W.findIn K (.ref (q_E12 K)) "__init__")
def jag (K : PySem.W.Frag) : Addr := refOf (PySem.W.findIn K (.ref (q_E13 K)) "__init__")
def jah (K : PySem.W.Frag) : Addr := refOf (PySem.W.findIn K (.ref (q_E14 K)) "__init__")
def jab (K : PySem.W.Frag) : Addr := refOf (PySem.W.findIn K (.ref (q_E15 K)) "__init__")
def jaR (K : PySem.W.Frag) : Addr := refOf (PySem.W.nsIn K mainGlobals "_law_dice")
def jaS (K : PySem.W.Frag) : Addr := refOf (PySem.W.nsIn K mainGlobals "_law_roll")
def jaT (K : PySem.W.Frag) : Addr := refOf (PySem.W.nsIn K mainGlobals "_law_pick")
def jaJ (K : PySem.W.Frag) : Addr := refOf (PySem.W.nsIn K mainGlobals "_law_kinds")
def jaB (K : PySem.W.Frag) : Addr := refOf (PySem.W.nsIn K mainGlobals "_law_others")
def jaK (K : PySem.W.Frag) : Addr := refOf (PySem.W.nsIn K mainGlobals "_law_right")
def jbp (K : PySem.W.Frag) : Addr := refOf (PySem.W.nsIn K mainGlobals "law")
def chk0 (K : PySem.W.Frag) : Bool := jaw (PySem.W.nsIn K mainGlobals "InvalidWord") && (jaw (PySem.W.nsIn K mainGlobals "InvalidTerm") && (jaw (PySem.W.nsIn K mainGlobals "InvalidBook") && (jaw (PySem.W.nsIn K mainGlobals "InvalidProgram") && (jaw (PySem.W.nsIn K mainGlobals "InvalidTable") && (jaw (PySem.W.nsIn K mainGlobals "InvalidLines") && (jaw (PySem.W.nsIn K mainGlobals "InvalidRows") && (jaw (PySem.W.nsIn K mainGlobals "InvalidOperation") && (jaw (PySem.W.nsIn K mainGlobals "NeedError") && (jaw (PySem.W.nsIn K mainGlobals "ParseError") && (jaw (PySem.W.nsIn K mainGlobals "UnknownWord") && (jaw (PySem.W.nsIn K mainGlobals "UnknownPlace") && (jaw (PySem.W.nsIn K mainGlobals "NothingToUndo") && (jaw (PySem.W.nsIn K mainGlobals "TooMany") && (jaw (PySem.W.nsIn K mainGlobals "Refused") && (jaw (PySem.W.nsIn K mainGlobals "InvalidNumber"))))))))))))))))
def chk1 (K : PySem.W.Frag) : Bool := jaw (PySem.W.findIn K (.ref (q_E9 K)) "__init__") && (PySem.W.isFn K (.ref (jaf K)) && ((isFnO (K.lookup (jaf K)) && jaL (fdOf (K.lookup (jaf K))).defaults) && (PySem.W.codeIn K (fdOf (K.lookup (jaf K))).code "ParseError.__init__" && (PySem.W.keepIn K (.ref (jaf K)) && (PySem.W.fnIn K (jaf K) && (jaw (PySem.W.findIn K (.ref (q_E10 K)) "__init__") && (PySem.W.isFn K (.ref (jae K)) && ((isFnO (K.lookup (jae K)) && jaL (fdOf (K.lookup (jae K))).defaults) && (PySem.W.codeIn K (fdOf (K.lookup (jae K))).code "UnknownWord.__init__" && (PySem.W.keepIn K (.ref (jae K)) && (PySem.W.fnIn K (jae K) && (jaw (PySem.W.findIn K (.ref (q_E11 K)) "__init__") && (PySem.W.isFn K (.ref (jad K)) && ((isFnO (K.lookup (jad K)) && jaL (fdOf (K.lookup (jad K))).defaults) && (PySem.W.codeIn K (fdOf (K.lookup (jad K))).code "UnknownPlace.__init__")))))))))))))))
def chk2 (K : PySem.W.Frag) : Bool := PySem.W.keepIn K (.ref (jad K)) && (PySem.W.fnIn K (jad K) && (jaw (PySem.W.findIn K (.ref (q_E12 K)) "__init__") && (PySem.W.isFn K (.ref (jaa K)) && ((isFnO (K.lookup (jaa K)) && jaL (fdOf (K.lookup (jaa K))).defaults) && (PySem.W.codeIn K (fdOf (K.lookup (jaa K))).code "NothingToUndo.__init__" && (PySem.W.keepIn K (.ref (jaa K)) && (PySem.W.fnIn K (jaa K) && (jaw (PySem.W.findIn K (.ref (q_E13 K)) "__init__") && (PySem.W.isFn K (.ref (jag K)) && ((isFnO (K.lookup (jag K)) && jaL (fdOf (K.lookup (jag K))).defaults) && (PySem.W.codeIn K (fdOf (K.lookup (jag K))).code "TooMany.__init__" && (PySem.W.keepIn K (.ref (jag K)) && (PySem.W.fnIn K (jag K) && (jaw (PySem.W.findIn K (.ref (q_E14 K)) "__init__") && (PySem.W.isFn K (.ref (jah K)))))))))))))))))
def chk3 (K : PySem.W.Frag) : Bool := (isFnO (K.lookup (jah K)) && jaL (fdOf (K.lookup (jah K))).defaults) && (PySem.W.codeIn K (fdOf (K.lookup (jah K))).code "Refused.__init__" && (PySem.W.keepIn K (.ref (jah K)) && (PySem.W.fnIn K (jah K) && (jaw (PySem.W.findIn K (.ref (q_E15 K)) "__init__") && (PySem.W.isFn K (.ref (jab K)) && ((isFnO (K.lookup (jab K)) && jaL (fdOf (K.lookup (jab K))).defaults) && (PySem.W.codeIn K (fdOf (K.lookup (jab K))).code "InvalidNumber.__init__" && (PySem.W.keepIn K (.ref (jab K)) && (PySem.W.fnIn K (jab K) && (PySem.W.keepIn K (.ref (q_E0 K)) && (Pu.erB K (q_E0 K) && (Pu.kitsB K (q_E0 K) [.ref (q_E0 K), .ref (q_E1 K), .ref (q_E2 K), .ref (q_E3 K), .ref (q_E4 K), .ref (q_E5 K), .ref (q_E6 K), .ref (q_E7 K), .ref (q_E9 K), .ref (q_E8 K), .type "ValueError"] [Bool.true, Bool.false, Bool.false, Bool.false, Bool.false, Bool.false, Bool.false, Bool.false, Bool.false, Bool.true, Bool.true] && (Pu.kitsB K (q_E0 K) [.ref (q_E10 K), .ref (q_E11 K), .ref (q_E12 K), .ref (q_E13 K), .ref (q_E14 K), .ref (q_E15 K), .type "KeyError", .type "IndexError", .type "LookupError", .type "OverflowError", .type "ArithmeticError", .type "RuntimeError"] [Bool.false, Bool.false, Bool.false, Bool.false, Bool.false, Bool.false, Bool.false, Bool.false, Bool.false, Bool.false, Bool.false, Bool.false] && (isBi "BaseException.__str__" (PySem.W.findIn K (.ref (q_E0 K)) "__str__") && (PySem.W.excIn K (q_E0 K) Pu.valTail "ValueError.__new__")))))))))))))))
def chk4 (K : PySem.W.Frag) : Bool := PySem.W.keepIn K (.ref (q_E1 K)) && (Pu.erB K (q_E1 K) && (Pu.kitsB K (q_E1 K) [.ref (q_E0 K), .ref (q_E1 K), .ref (q_E2 K), .ref (q_E3 K), .ref (q_E4 K), .ref (q_E5 K), .ref (q_E6 K), .ref (q_E7 K), .ref (q_E9 K), .ref (q_E8 K), .type "ValueError"] [Bool.false, Bool.true, Bool.false, Bool.false, Bool.false, Bool.false, Bool.false, Bool.false, Bool.false, Bool.true, Bool.true] && (Pu.kitsB K (q_E1 K) [.ref (q_E10 K), .ref (q_E11 K), .ref (q_E12 K), .ref (q_E13 K), .ref (q_E14 K), .ref (q_E15 K), .type "KeyError", .type "IndexError", .type "LookupError", .type "OverflowError", .type "ArithmeticError", .type "RuntimeError"] [Bool.false, Bool.false, Bool.false, Bool.false, Bool.false, Bool.false, Bool.false, Bool.false, Bool.false, Bool.false, Bool.false, Bool.false] && (isBi "BaseException.__str__" (PySem.W.findIn K (.ref (q_E1 K)) "__str__") && (PySem.W.excIn K (q_E1 K) Pu.valTail "ValueError.__new__" && (PySem.W.keepIn K (.ref (q_E2 K)) && (Pu.erB K (q_E2 K) && (Pu.kitsB K (q_E2 K) [.ref (q_E0 K), .ref (q_E1 K), .ref (q_E2 K), .ref (q_E3 K), .ref (q_E4 K), .ref (q_E5 K), .ref (q_E6 K), .ref (q_E7 K), .ref (q_E9 K), .ref (q_E8 K), .type "ValueError"] [Bool.false, Bool.false, Bool.true, Bool.false, Bool.false, Bool.false, Bool.false, Bool.false, Bool.false, Bool.true, Bool.true] && (Pu.kitsB K (q_E2 K) [.ref (q_E10 K), .ref (q_E11 K), .ref (q_E12 K), .ref (q_E13 K), .ref (q_E14 K), .ref (q_E15 K), .type "KeyError", .type "IndexError", .type "LookupError", .type "OverflowError", .type "ArithmeticError", .type "RuntimeError"] [Bool.false, Bool.false, Bool.false, Bool.false, Bool.false, Bool.false, Bool.false, Bool.false, Bool.false, Bool.false, Bool.false, Bool.false] && (isBi "BaseException.__str__" (PySem.W.findIn K (.ref (q_E2 K)) "__str__") && (PySem.W.excIn K (q_E2 K) Pu.valTail "ValueError.__new__" && (PySem.W.keepIn K (.ref (q_E3 K)) && (Pu.erB K (q_E3 K) && (Pu.kitsB K (q_E3 K) [.ref (q_E0 K), .ref (q_E1 K), .ref (q_E2 K), .ref (q_E3 K), .ref (q_E4 K), .ref (q_E5 K), .ref (q_E6 K), .ref (q_E7 K), .ref (q_E9 K), .ref (q_E8 K), .type "ValueError"] [Bool.false, Bool.false, Bool.false, Bool.true, Bool.false, Bool.false, Bool.false, Bool.false, Bool.false, Bool.true, Bool.true] && (Pu.kitsB K (q_E3 K) [.ref (q_E10 K), .ref (q_E11 K), .ref (q_E12 K), .ref (q_E13 K), .ref (q_E14 K), .ref (q_E15 K), .type "KeyError", .type "IndexError", .type "LookupError", .type "OverflowError", .type "ArithmeticError", .type "RuntimeError"] [Bool.false, Bool.false, Bool.false, Bool.false, Bool.false, Bool.false, Bool.false, Bool.false, Bool.false, Bool.false, Bool.false, Bool.false])))))))))))))))
def chk5 (K : PySem.W.Frag) : Bool := isBi "BaseException.__str__" (PySem.W.findIn K (.ref (q_E3 K)) "__str__") && (PySem.W.excIn K (q_E3 K) Pu.valTail "ValueError.__new__" && (PySem.W.keepIn K (.ref (q_E4 K)) && (Pu.erB K (q_E4 K) && (Pu.kitsB K (q_E4 K) [.ref (q_E0 K), .ref (q_E1 K), .ref (q_E2 K), .ref (q_E3 K), .ref (q_E4 K), .ref (q_E5 K), .ref (q_E6 K), .ref (q_E7 K), .ref (q_E9 K), .ref (q_E8 K), .type "ValueError"] [Bool.false, Bool.false, Bool.false, Bool.false, Bool.true, Bool.false, Bool.false, Bool.false, Bool.false, Bool.true, Bool.true] && (Pu.kitsB K (q_E4 K) [.ref (q_E10 K), .ref (q_E11 K), .ref (q_E12 K), .ref (q_E13 K), .ref (q_E14 K), .ref (q_E15 K), .type "KeyError", .type "IndexError", .type "LookupError", .type "OverflowError", .type "ArithmeticError", .type "RuntimeError"] [Bool.false, Bool.false, Bool.false, Bool.false, Bool.false, Bool.false, Bool.false, Bool.false, Bool.false, Bool.false, Bool.false, Bool.false] && (isBi "BaseException.__str__" (PySem.W.findIn K (.ref (q_E4 K)) "__str__") && (PySem.W.excIn K (q_E4 K) Pu.valTail "ValueError.__new__" && (PySem.W.keepIn K (.ref (q_E5 K)) && (Pu.erB K (q_E5 K) && (Pu.kitsB K (q_E5 K) [.ref (q_E0 K), .ref (q_E1 K), .ref (q_E2 K), .ref (q_E3 K), .ref (q_E4 K), .ref (q_E5 K), .ref (q_E6 K), .ref (q_E7 K), .ref (q_E9 K), .ref (q_E8 K), .type "ValueError"] [Bool.false, Bool.false, Bool.false, Bool.false, Bool.false, Bool.true, Bool.false, Bool.false, Bool.false, Bool.true, Bool.true] && (Pu.kitsB K (q_E5 K) [.ref (q_E10 K), .ref (q_E11 K), .ref (q_E12 K), .ref (q_E13 K), .ref (q_E14 K), .ref (q_E15 K), .type "KeyError", .type "IndexError", .type "LookupError", .type "OverflowError", .type "ArithmeticError", .type "RuntimeError"] [Bool.false, Bool.false, Bool.false, Bool.false, Bool.false, Bool.false, Bool.false, Bool.false, Bool.false, Bool.false, Bool.false, Bool.false] && (isBi "BaseException.__str__" (PySem.W.findIn K (.ref (q_E5 K)) "__str__") && (PySem.W.excIn K (q_E5 K) Pu.valTail "ValueError.__new__" && (PySem.W.keepIn K (.ref (q_E6 K)) && (Pu.erB K (q_E6 K))))))))))))))))
def chk6 (K : PySem.W.Frag) : Bool := Pu.kitsB K (q_E6 K) [.ref (q_E0 K), .ref (q_E1 K), .ref (q_E2 K), .ref (q_E3 K), .ref (q_E4 K), .ref (q_E5 K), .ref (q_E6 K), .ref (q_E7 K), .ref (q_E9 K), .ref (q_E8 K), .type "ValueError"] [Bool.false, Bool.false, Bool.false, Bool.false, Bool.false, Bool.false, Bool.true, Bool.false, Bool.false, Bool.true, Bool.true] && (Pu.kitsB K (q_E6 K) [.ref (q_E10 K), .ref (q_E11 K), .ref (q_E12 K), .ref (q_E13 K), .ref (q_E14 K), .ref (q_E15 K), .type "KeyError", .type "IndexError", .type "LookupError", .type "OverflowError", .type "ArithmeticError", .type "RuntimeError"] [Bool.false, Bool.false, Bool.false, Bool.false, Bool.false, Bool.false, Bool.false, Bool.false, Bool.false, Bool.false, Bool.false, Bool.false] && (isBi "BaseException.__str__" (PySem.W.findIn K (.ref (q_E6 K)) "__str__") && (PySem.W.excIn K (q_E6 K) Pu.valTail "ValueError.__new__" && (PySem.W.keepIn K (.ref (q_E7 K)) && (Pu.erB K (q_E7 K) && (Pu.kitsB K (q_E7 K) [.ref (q_E0 K), .ref (q_E1 K), .ref (q_E2 K), .ref (q_E3 K), .ref (q_E4 K), .ref (q_E5 K), .ref (q_E6 K), .ref (q_E7 K), .ref (q_E9 K), .ref (q_E8 K), .type "ValueError"] [Bool.false, Bool.false, Bool.false, Bool.false, Bool.false, Bool.false, Bool.false, Bool.true, Bool.false, Bool.true, Bool.true] && (Pu.kitsB K (q_E7 K) [.ref (q_E10 K), .ref (q_E11 K), .ref (q_E12 K), .ref (q_E13 K), .ref (q_E14 K), .ref (q_E15 K), .type "KeyError", .type "IndexError", .type "LookupError", .type "OverflowError", .type "ArithmeticError", .type "RuntimeError"] [Bool.false, Bool.false, Bool.false, Bool.false, Bool.false, Bool.false, Bool.false, Bool.false, Bool.false, Bool.false, Bool.false, Bool.false] && (isBi "BaseException.__str__" (PySem.W.findIn K (.ref (q_E7 K)) "__str__") && (PySem.W.excIn K (q_E7 K) Pu.valTail "ValueError.__new__" && (PySem.W.keepIn K (.ref (q_E8 K)) && (Pu.erB K (q_E8 K) && (Pu.kitsB K (q_E8 K) [.ref (q_E0 K), .ref (q_E1 K), .ref (q_E2 K), .ref (q_E3 K), .ref (q_E4 K), .ref (q_E5 K), .ref (q_E6 K), .ref (q_E7 K), .ref (q_E9 K), .ref (q_E8 K), .type "ValueError"] [Bool.false, Bool.false, Bool.false, Bool.false, Bool.false, Bool.false, Bool.false, Bool.false, Bool.false, Bool.true, Bool.true] && (Pu.kitsB K (q_E8 K) [.ref (q_E10 K), .ref (q_E11 K), .ref (q_E12 K), .ref (q_E13 K), .ref (q_E14 K), .ref (q_E15 K), .type "KeyError", .type "IndexError", .type "LookupError", .type "OverflowError", .type "ArithmeticError", .type "RuntimeError"] [Bool.false, Bool.false, Bool.false, Bool.false, Bool.false, Bool.false, Bool.false, Bool.false, Bool.false, Bool.false, Bool.false, Bool.false] && (isBi "BaseException.__str__" (PySem.W.findIn K (.ref (q_E8 K)) "__str__") && (PySem.W.excIn K (q_E8 K) Pu.valTail "ValueError.__new__")))))))))))))))
def chk7 (K : PySem.W.Frag) : Bool := PySem.W.keepIn K (.ref (q_E9 K)) && (Pu.erB K (q_E9 K) && (Pu.kitsB K (q_E9 K) [.ref (q_E0 K), .ref (q_E1 K), .ref (q_E2 K), .ref (q_E3 K), .ref (q_E4 K), .ref (q_E5 K), .ref (q_E6 K), .ref (q_E7 K), .ref (q_E9 K), .ref (q_E8 K), .type "ValueError"] [Bool.false, Bool.false, Bool.false, Bool.false, Bool.false, Bool.false, Bool.false, Bool.false, Bool.true, Bool.true, Bool.true] && (Pu.kitsB K (q_E9 K) [.ref (q_E10 K), .ref (q_E11 K), .ref (q_E12 K), .ref (q_E13 K), .ref (q_E14 K), .ref (q_E15 K), .type "KeyError", .type "IndexError", .type "LookupError", .type "OverflowError", .type "ArithmeticError", .type "RuntimeError"] [Bool.false, Bool.false, Bool.false, Bool.false, Bool.false, Bool.false, Bool.false, Bool.false, Bool.false, Bool.false, Bool.false, Bool.false] && (isOB true (PySem.W.subIn K (.ref (q_E9 K)) (.type "BaseException")) && (isTyO "type" (PySem.W.typeIn K (.ref (q_E9 K))) && (Pu.excBT "ValueError.__new__" Pu.valTail K (q_E9 K) && (isBi "object.__setattr__" (PySem.W.findIn K (.ref (q_E9 K)) "__setattr__") && (jaz (PySem.W.findIn K (.ref (q_E9 K)) "line") && (isTyO "function" (PySem.W.typeIn K (.ref (jaf K))) && (PySem.W.keepIn K (.ref (q_E10 K)) && (Pu.erB K (q_E10 K) && (Pu.kitsB K (q_E10 K) [.ref (q_E0 K), .ref (q_E1 K), .ref (q_E2 K), .ref (q_E3 K), .ref (q_E4 K), .ref (q_E5 K), .ref (q_E6 K), .ref (q_E7 K), .ref (q_E9 K), .ref (q_E8 K), .type "ValueError"] [Bool.false, Bool.false, Bool.false, Bool.false, Bool.false, Bool.false, Bool.false, Bool.false, Bool.false, Bool.false, Bool.false] && (Pu.kitsB K (q_E10 K) [.ref (q_E10 K), .ref (q_E11 K), .ref (q_E12 K), .ref (q_E13 K), .ref (q_E14 K), .ref (q_E15 K), .type "KeyError", .type "IndexError", .type "LookupError", .type "OverflowError", .type "ArithmeticError", .type "RuntimeError"] [Bool.true, Bool.false, Bool.false, Bool.false, Bool.false, Bool.false, Bool.true, Bool.false, Bool.true, Bool.false, Bool.false, Bool.false] && (isOB true (PySem.W.subIn K (.ref (q_E10 K)) (.type "BaseException")) && (isTyO "type" (PySem.W.typeIn K (.ref (q_E10 K))))))))))))))))))
def chk8 (K : PySem.W.Frag) : Bool := Pu.excBT "LookupError.__new__" Pu.keyTail K (q_E10 K) && (isBi "object.__setattr__" (PySem.W.findIn K (.ref (q_E10 K)) "__setattr__") && (jaz (PySem.W.findIn K (.ref (q_E10 K)) "asked") && (isTyO "function" (PySem.W.typeIn K (.ref (jae K))) && (PySem.W.keepIn K (.ref (q_E11 K)) && (Pu.erB K (q_E11 K) && (Pu.kitsB K (q_E11 K) [.ref (q_E0 K), .ref (q_E1 K), .ref (q_E2 K), .ref (q_E3 K), .ref (q_E4 K), .ref (q_E5 K), .ref (q_E6 K), .ref (q_E7 K), .ref (q_E9 K), .ref (q_E8 K), .type "ValueError"] [Bool.false, Bool.false, Bool.false, Bool.false, Bool.false, Bool.false, Bool.false, Bool.false, Bool.false, Bool.false, Bool.false] && (Pu.kitsB K (q_E11 K) [.ref (q_E10 K), .ref (q_E11 K), .ref (q_E12 K), .ref (q_E13 K), .ref (q_E14 K), .ref (q_E15 K), .type "KeyError", .type "IndexError", .type "LookupError", .type "OverflowError", .type "ArithmeticError", .type "RuntimeError"] [Bool.false, Bool.true, Bool.false, Bool.false, Bool.false, Bool.false, Bool.false, Bool.false, Bool.true, Bool.false, Bool.false, Bool.false] && (isOB true (PySem.W.subIn K (.ref (q_E11 K)) (.type "BaseException")) && (isTyO "type" (PySem.W.typeIn K (.ref (q_E11 K))) && (Pu.excBT "LookupError.__new__" Pu.lkTail K (q_E11 K) && (isBi "object.__setattr__" (PySem.W.findIn K (.ref (q_E11 K)) "__setattr__") && (jaz (PySem.W.findIn K (.ref (q_E11 K)) "spot") && (isTyO "function" (PySem.W.typeIn K (.ref (jad K))) && (PySem.W.keepIn K (.ref (q_E12 K)) && (Pu.erB K (q_E12 K))))))))))))))))
def chk9 (K : PySem.W.Frag) : Bool := Pu.kitsB K (q_E12 K) [.ref (q_E0 K), .ref (q_E1 K), .ref (q_E2 K), .ref (q_E3 K), .ref (q_E4 K), .ref (q_E5 K), .ref (q_E6 K), .ref (q_E7 K), .ref (q_E9 K), .ref (q_E8 K), .type "ValueError"] [Bool.false, Bool.false, Bool.false, Bool.false, Bool.false, Bool.false, Bool.false, Bool.false, Bool.false, Bool.false, Bool.false] && (Pu.kitsB K (q_E12 K) [.ref (q_E10 K), .ref (q_E11 K), .ref (q_E12 K), .ref (q_E13 K), .ref (q_E14 K), .ref (q_E15 K), .type "KeyError", .type "IndexError", .type "LookupError", .type "OverflowError", .type "ArithmeticError", .type "RuntimeError"] [Bool.false, Bool.false, Bool.true, Bool.false, Bool.false, Bool.false, Bool.false, Bool.true, Bool.true, Bool.false, Bool.false, Bool.false] && (isOB true (PySem.W.subIn K (.ref (q_E12 K)) (.type "BaseException")) && (isTyO "type" (PySem.W.typeIn K (.ref (q_E12 K))) && (Pu.excBT "IndexError.__new__" Pu.ixTail K (q_E12 K) && (isBi "object.__setattr__" (PySem.W.findIn K (.ref (q_E12 K)) "__setattr__") && (jaz (PySem.W.findIn K (.ref (q_E12 K)) "amount") && (isTyO "function" (PySem.W.typeIn K (.ref (jaa K))) && (PySem.W.keepIn K (.ref (q_E13 K)) && (Pu.erB K (q_E13 K) && (Pu.kitsB K (q_E13 K) [.ref (q_E0 K), .ref (q_E1 K), .ref (q_E2 K), .ref (q_E3 K), .ref (q_E4 K), .ref (q_E5 K), .ref (q_E6 K), .ref (q_E7 K), .ref (q_E9 K), .ref (q_E8 K), .type "ValueError"] [Bool.false, Bool.false, Bool.false, Bool.false, Bool.false, Bool.false, Bool.false, Bool.false, Bool.false, Bool.false, Bool.false] && (Pu.kitsB K (q_E13 K) [.ref (q_E10 K), .ref (q_E11 K), .ref (q_E12 K), .ref (q_E13 K), .ref (q_E14 K), .ref (q_E15 K), .type "KeyError", .type "IndexError", .type "LookupError", .type "OverflowError", .type "ArithmeticError", .type "RuntimeError"] [Bool.false, Bool.false, Bool.false, Bool.true, Bool.false, Bool.false, Bool.false, Bool.false, Bool.false, Bool.true, Bool.true, Bool.false] && (isOB true (PySem.W.subIn K (.ref (q_E13 K)) (.type "BaseException")) && (isTyO "type" (PySem.W.typeIn K (.ref (q_E13 K))) && (Pu.excBT "OverflowError.__new__" Pu.ofTail K (q_E13 K) && (isBi "object.__setattr__" (PySem.W.findIn K (.ref (q_E13 K)) "__setattr__"))))))))))))))))
def chk10 (K : PySem.W.Frag) : Bool := jaz (PySem.W.findIn K (.ref (q_E13 K)) "limit") && (isTyO "function" (PySem.W.typeIn K (.ref (jag K))) && (PySem.W.keepIn K (.ref (q_E14 K)) && (Pu.erB K (q_E14 K) && (Pu.kitsB K (q_E14 K) [.ref (q_E0 K), .ref (q_E1 K), .ref (q_E2 K), .ref (q_E3 K), .ref (q_E4 K), .ref (q_E5 K), .ref (q_E6 K), .ref (q_E7 K), .ref (q_E9 K), .ref (q_E8 K), .type "ValueError"] [Bool.false, Bool.false, Bool.false, Bool.false, Bool.false, Bool.false, Bool.false, Bool.false, Bool.false, Bool.false, Bool.false] && (Pu.kitsB K (q_E14 K) [.ref (q_E10 K), .ref (q_E11 K), .ref (q_E12 K), .ref (q_E13 K), .ref (q_E14 K), .ref (q_E15 K), .type "KeyError", .type "IndexError", .type "LookupError", .type "OverflowError", .type "ArithmeticError", .type "RuntimeError"] [Bool.false, Bool.false, Bool.false, Bool.false, Bool.true, Bool.false, Bool.false, Bool.false, Bool.false, Bool.false, Bool.true, Bool.false] && (isOB true (PySem.W.subIn K (.ref (q_E14 K)) (.type "BaseException")) && (isTyO "type" (PySem.W.typeIn K (.ref (q_E14 K))) && (Pu.excBT "ArithmeticError.__new__" Pu.arTail K (q_E14 K) && (isBi "object.__setattr__" (PySem.W.findIn K (.ref (q_E14 K)) "__setattr__") && (jaz (PySem.W.findIn K (.ref (q_E14 K)) "cause") && (isTyO "function" (PySem.W.typeIn K (.ref (jah K))) && (PySem.W.keepIn K (.ref (q_E15 K)) && (Pu.erB K (q_E15 K) && (Pu.kitsB K (q_E15 K) [.ref (q_E0 K), .ref (q_E1 K), .ref (q_E2 K), .ref (q_E3 K), .ref (q_E4 K), .ref (q_E5 K), .ref (q_E6 K), .ref (q_E7 K), .ref (q_E9 K), .ref (q_E8 K), .type "ValueError"] [Bool.false, Bool.false, Bool.false, Bool.false, Bool.false, Bool.false, Bool.false, Bool.false, Bool.false, Bool.false, Bool.false] && (Pu.kitsB K (q_E15 K) [.ref (q_E10 K), .ref (q_E11 K), .ref (q_E12 K), .ref (q_E13 K), .ref (q_E14 K), .ref (q_E15 K), .type "KeyError", .type "IndexError", .type "LookupError", .type "OverflowError", .type "ArithmeticError", .type "RuntimeError"] [Bool.false, Bool.false, Bool.false, Bool.false, Bool.false, Bool.true, Bool.false, Bool.false, Bool.false, Bool.false, Bool.false, Bool.true])))))))))))))))
def chk11 (K : PySem.W.Frag) : Bool := isOB true (PySem.W.subIn K (.ref (q_E15 K)) (.type "BaseException")) && (isTyO "type" (PySem.W.typeIn K (.ref (q_E15 K))) && (Pu.excBT "RuntimeError.__new__" Pu.rtTail K (q_E15 K) && (isBi "object.__setattr__" (PySem.W.findIn K (.ref (q_E15 K)) "__setattr__") && (jaz (PySem.W.findIn K (.ref (q_E15 K)) "number") && (isTyO "function" (PySem.W.typeIn K (.ref (jab K))) && (jaw (PySem.W.nsIn K mainGlobals "_law_dice") && ((isFnO (K.lookup (jaR K)) && jaL (fdOf (K.lookup (jaR K))).defaults) && (PySem.W.codeIn K (fdOf (K.lookup (jaR K))).code "_law_dice" && (PySem.W.keepIn K (.ref (jaR K)) && (jaw (PySem.W.nsIn K mainGlobals "_law_roll") && ((isFnO (K.lookup (jaS K)) && jaL (fdOf (K.lookup (jaS K))).defaults) && (PySem.W.codeIn K (fdOf (K.lookup (jaS K))).code "_law_roll" && (PySem.W.keepIn K (.ref (jaS K)) && (jaw (PySem.W.nsIn K mainGlobals "_law_pick") && ((isFnO (K.lookup (jaT K)) && jaL (fdOf (K.lookup (jaT K))).defaults))))))))))))))))
def chk12 (K : PySem.W.Frag) : Bool := PySem.W.codeIn K (fdOf (K.lookup (jaT K))).code "_law_pick" && (PySem.W.keepIn K (.ref (jaT K)) && (jaw (PySem.W.nsIn K mainGlobals "_law_kinds") && ((isFnO (K.lookup (jaJ K)) && jaL (fdOf (K.lookup (jaJ K))).defaults) && (PySem.W.codeIn K (fdOf (K.lookup (jaJ K))).code "_law_kinds" && (PySem.W.keepIn K (.ref (jaJ K)) && (jaw (PySem.W.nsIn K mainGlobals "_law_others") && ((isFnO (K.lookup (jaB K)) && jaL (fdOf (K.lookup (jaB K))).defaults) && (PySem.W.codeIn K (fdOf (K.lookup (jaB K))).code "_law_others" && (PySem.W.keepIn K (.ref (jaB K)) && (jaw (PySem.W.nsIn K mainGlobals "_law_right") && ((isFnO (K.lookup (jaK K)) && jaL (fdOf (K.lookup (jaK K))).defaults) && (PySem.W.codeIn K (fdOf (K.lookup (jaK K))).code "_law_right" && (PySem.W.keepIn K (.ref (jaK K)) && (jaw (PySem.W.nsIn K mainGlobals "law") && ((isFnO (K.lookup (jbp K)) && jaL (fdOf (K.lookup (jbp K))).defaults))))))))))))))))
def chk13 (K : PySem.W.Frag) : Bool := PySem.W.codeIn K (fdOf (K.lookup (jbp K))).code "law" && (PySem.W.keepIn K (.ref (jbp K)) && (jaz (PySem.W.nsIn K mainGlobals "int") && (jaz (PySem.W.nsIn K mainGlobals "bool") && (jaz (PySem.W.nsIn K mainGlobals "str") && (jaz (PySem.W.nsIn K mainGlobals "list") && (jaz (PySem.W.nsIn K mainGlobals "tuple") && (jaz (PySem.W.nsIn K mainGlobals "dict") && (jaz (PySem.W.nsIn K mainGlobals "abs") && (jaz (PySem.W.nsIn K mainGlobals "max") && (jaz (PySem.W.nsIn K mainGlobals "min") && (jaz (PySem.W.nsIn K mainGlobals "range") && (jaz (PySem.W.nsIn K mainGlobals "repr") && (jaz (PySem.W.nsIn K mainGlobals "isinstance") && (jaz (PySem.W.nsIn K mainGlobals "len") && (jaz (PySem.W.nsIn K mainGlobals "ValueError"))))))))))))))))
def chk14 (K : PySem.W.Frag) : Bool := jaz (PySem.W.nsIn K mainGlobals "KeyError") && (jaz (PySem.W.nsIn K mainGlobals "IndexError") && (jaz (PySem.W.nsIn K mainGlobals "LookupError") && (jaz (PySem.W.nsIn K mainGlobals "OverflowError") && (jaz (PySem.W.nsIn K mainGlobals "ArithmeticError") && (jaz (PySem.W.nsIn K mainGlobals "RuntimeError"))))))
def chk (K : PySem.W.Frag) : Bool := chk0 K && (chk1 K && (chk2 K && (chk3 K && (chk4 K && (chk5 K && (chk6 K && (chk7 K && (chk8 K && (chk9 K && (chk10 K && (chk11 K && (chk12 K && (chk13 K && (chk14 K))))))))))))))
def prtH (K : PySem.W.Frag) : List FnT := [fnT (K.lookup (jaf K)), fnT (K.lookup (jae K)), fnT (K.lookup (jad K)), fnT (K.lookup (jaa K)), fnT (K.lookup (jag K)), fnT (K.lookup (jah K)), fnT (K.lookup (jab K)), fnT (K.lookup (jaR K)), fnT (K.lookup (jaS K)), fnT (K.lookup (jaT K)), fnT (K.lookup (jaJ K)), fnT (K.lookup (jaB K)), fnT (K.lookup (jaK K)), fnT (K.lookup (jbp K))]
def expd : List FnT := [mkT "__init__" "ParseError.__init__" (defArgs (inClass (topR 10) 0)) (defBody (inClass (topR 10) 0)) (defScope (inClass (topR 10) 0)), mkT "__init__" "UnknownWord.__init__" (defArgs (inClass (topR 11) 0)) (defBody (inClass (topR 11) 0)) (defScope (inClass (topR 11) 0)), mkT "__init__" "UnknownPlace.__init__" (defArgs (inClass (topR 12) 0)) (defBody (inClass (topR 12) 0)) (defScope (inClass (topR 12) 0)), mkT "__init__" "NothingToUndo.__init__" (defArgs (inClass (topR 13) 0)) (defBody (inClass (topR 13) 0)) (defScope (inClass (topR 13) 0)), mkT "__init__" "TooMany.__init__" (defArgs (inClass (topR 14) 0)) (defBody (inClass (topR 14) 0)) (defScope (inClass (topR 14) 0)), mkT "__init__" "Refused.__init__" (defArgs (inClass (topR 15) 0)) (defBody (inClass (topR 15) 0)) (defScope (inClass (topR 15) 0)), mkT "__init__" "InvalidNumber.__init__" (defArgs (inClass (topR 16) 0)) (defBody (inClass (topR 16) 0)) (defScope (inClass (topR 16) 0)), mkT "_law_dice" "_law_dice" (defArgs (topR 18)) (defBody (topR 18)) (defScope (topR 18)), mkT "_law_roll" "_law_roll" (defArgs (topR 19)) (defBody (topR 19)) (defScope (topR 19)), mkT "_law_pick" "_law_pick" (defArgs (topR 20)) (defBody (topR 20)) (defScope (topR 20)), mkT "_law_kinds" "_law_kinds" (defArgs (topR 21)) (defBody (topR 21)) (defScope (topR 21)), mkT "_law_others" "_law_others" (defArgs (topR 22)) (defBody (topR 22)) (defScope (topR 22)), mkT "_law_right" "_law_right" (defArgs (topR 23)) (defBody (topR 23)) (defScope (topR 23)), mkT "law" "law" (defArgs (topR 24)) (defBody (topR 24)) (defScope (topR 24))]
def names0 : List PySem.Str := ["NeedError", "InvalidWord", "InvalidTerm", "InvalidBook", "InvalidProgram", "InvalidTable", "InvalidLines", "InvalidRows", "InvalidOperation", "ParseError", "UnknownWord", "UnknownPlace", "NothingToUndo", "TooMany", "Refused", "InvalidNumber", "_law_dice", "_law_roll", "_law_pick", "_law_kinds", "_law_others", "_law_right"]
def hnames : List PySem.Str := names0
abbrev RR : PySem.W.OpenRow := PySem.W.OpenLaw.row PySem.Challenge.rw_firstneed_k00_errors_and_what_they_keep
abbrev hk : PySem.W.Hook := hkR 900 chk prtH expd
theorem run (w : World) : HandSHeadRun.RunEq RR (PySem.W.view RR.prog [24]) hk (obR 900 chk prtH) 6000 hnames w := by
  intro os
  kernel_rfl
end K0
namespace Pu
def t0 : Bool := false
end Pu
namespace Ly
open PySem PySem.Spec PyProof.Rows L2
def Gx (H H' : Hp) : Prop := ∀ a o, H a = some o → H' a = some o
theorem Gx.refl (H : Hp) : Gx H H := fun _ _ h => h
theorem Gx.trans {H H1 H2 : Hp} (a : Gx H H1) (b : Gx H1 H2) : Gx H H2 := fun x o h => b x o (a x o h)
theorem Gx.new {H : Hp} {p : Addr} {o : HO} (h : H p = none) : Gx H (upd H p o) := fun a u e => by
  rw [upd_ne (ne_of_none e h)]
  exact e
theorem Gx.mut {H H' : Hp} {p : Addr} {o : HO} (e : Gx H H') (h : H p = none) : Gx H (upd H' p o) := fun a u ha => by
  rw [upd_ne (ne_of_none ha h)]
  exact e a u ha
theorem Gx.free {H H' : Hp} {p : Addr} (e : Gx H H') (h : H' p = none) : H p = none := by
  cases q : H p with
  | none => rfl
  | some o =>
    rw [e p o q] at h
    cases h
theorem Gx.rd {H H' : Hp} {a : Addr} {u : HO} (e : Gx H H') (h : Rd H a u) : Rd H' a u := by
  rcases h with h | ⟨o, h⟩
  · exact Or.inl (e a _ h)
  · exact Or.inr ⟨o, e a _ h⟩
theorem Gx.l {K : PySem.W.Frag} {H H' : Hp} {a : Addr} {xs : List V} (e : Gx H H') (h : SqL K H a xs) : SqL K H' a xs := by
  rcases h with h | h
  · exact Or.inl (e.rd h)
  · exact Or.inr h
theorem Gx.t {K : PySem.W.Frag} {H H' : Hp} {a : Addr} {xs : List V} (e : Gx H H') (h : SqT K H a xs) : SqT K H' a xs := by
  rcases h with h | h
  · exact Or.inl (e.rd h)
  · exact Or.inr h
def diceP (p : Addr) : Heap → Prop := fun h => ∃ (a b c : Int) (t u v : Tok) (n : Nat), h.get? p = some { cls := .type "list", data := .seq #[.int a t, .int b u, .int c v] n }
def diceO (p : Addr) : HO := .ext (diceP p)
abbrev three (a b c : Int) : HO := .lst [.int a, .int b, .int c]
section
variable {P : Program} {w : World} {H H1 : Hp} {h h1 : Heap} {p : Addr} {fs ex : List Addr}
theorem jfV {a b c : Int} (x : HOk P w H h) (e : H p = some (three a b c)) : HOk P w (upd H p (diceO p)) h := by
  intro q o eq
  by_cases hq : q = p
  · subst hq
    rw [upd_same] at eq
    cases eq
    obtain ⟨_, its, n, r, g⟩ := x q _ e
    cases r with
    | cons ra r =>
      cases r with
      | cons rb r =>
        cases r with
        | cons rc r =>
          cases r
          obtain ⟨t, rfl⟩ := ra
          obtain ⟨u, rfl⟩ := rb
          obtain ⟨v, rfl⟩ := rc
          refine ⟨⟨a, b, c, t, u, v, n, g⟩, ⟨_, g⟩, ?_⟩
          rintro h1 h2 ⟨a, b, c, t, u, v, n, g⟩ k
          exact ⟨a, b, c, t, u, v, n, k _ g⟩
  · rw [upd_ne hq] at eq
    refine (x q o eq).stay (fun _ _ _ z => z) (fun b z => ?_) fun b xs z => ?_
    · rw [upd_ne]
      · exact z
      · intro z2
        subst z2
        rw [e] at z
        cases z
    · rw [upd_ne]
      · exact z
      · intro z2
        subst z2
        rw [e] at z
        cases z
theorem jhS (x : HOk P w H h) (e : H p = some (diceO p)) : ∃ a b c, HOk P w (upd H p (three a b c)) h := by
  obtain ⟨⟨a, b, c, t, u, v, n, g⟩, _, _⟩ := x p _ e
  refine ⟨a, b, c, fun q o eq => ?_⟩
  by_cases hq : q = p
  · subst hq
    rw [upd_same] at eq
    cases eq
    refine ⟨by show 3 ≤ sizeLine; decide, [.int a t, .int b u, .int c v], n, .cons ⟨t, rfl⟩ (.cons ⟨u, rfl⟩ (.cons ⟨v, rfl⟩ .nil)), g⟩
  · rw [upd_ne hq] at eq
    refine (x q o eq).stay (fun _ _ _ z => z) (fun b z => ?_) fun b xs z => ?_
    · rw [upd_ne]
      · exact z
      · intro z2
        subst z2
        rw [e] at z
        cases z
    · rw [upd_ne]
      · exact z
      · intro z2
        subst z2
        rw [e] at z
        cases z
theorem jgB {xs : List V} (u : Un fs ex H H1 h h1) (e : H1 p = some (.lst xs)) : Un fs ex H (upd H1 p (diceO p)) h h1 where
  keep := u.keep
  slot := u.slot
  free := fun b o g n hx => by
    have z := u.free b o g n hx
    rw [upd_ne (fun q => by subst q; rw [e] at z; cases z)]
    exact z
  there := u.there
  tups := fun b ys g => by
    have z := u.tups b ys g
    rw [upd_ne (fun q => by subst q; rw [e] at z; cases z)]
    exact z
  frzs := fun b o v g => by
    have z := u.frzs b o v g
    rw [upd_ne (fun q => by subst q; rw [e] at z; cases z)]
    exact z
  tbls := fun b ps g => by
    obtain ⟨m, z⟩ := u.tbls b ps g
    refine ⟨m, ?_⟩
    rw [upd_ne (fun q => by subst q; rw [e] at z; cases z)]
    exact z
theorem jkT {o : HO} (u : Un fs ex (upd H p o) H1 h h1) (e : H p = some (diceO p)) : Un fs ex H H1 h h1 where
  keep := fun b o g n => u.keep b o g (by rw [upd_ne (fun q => by subst q; rw [e] at n; cases n)]; exact n)
  slot := fun b o g n => u.slot b o g (by rw [upd_ne (fun q => by subst q; rw [e] at n; cases n)]; exact n)
  free := fun b o g n => u.free b o g (by rw [upd_ne (fun q => by subst q; rw [e] at n; cases n)]; exact n)
  there := u.there
  tups := fun b ys g => u.tups b ys (by rw [upd_ne (fun q => by subst q; rw [e] at g; cases g)]; exact g)
  frzs := fun b o v g => u.frzs b o v (by rw [upd_ne (fun q => by subst q; rw [e] at g; cases g)]; exact g)
  tbls := fun b ps g => u.tbls b ps (by rw [upd_ne (fun q => by subst q; rw [e] at g; cases g)]; exact g)
end
section
variable {P : Program} {w : World} {K : PySem.W.Frag} {mg : Str → Option Value} {base : Heap} {k : Nat} {f : Addr} {fd : FuncData} {ps : List Str} {sp : Sp} {CX : CXT}
/-- a def that reads and writes dice, seen from without -/
theorem jkU (F : FnOk P w K mg base CX0 k f fd ps sp) : FnOk P w K mg base CX0 k f fd ps (fun vs H Q E => vs.length = ps.length ∧ ∃ p, H p = some (diceO p) ∧
    ∀ a b c, sp vs (upd H p (three a b c)) (fun v H' => (∃ a' b' c', H' p = some (three a' b' c')) ∧ Q v (upd H' p (diceO p))) E) := by
  refine ⟨fun vs H Q E h => h.1, fun A outer s H args us vs Q E hr he hb hv hs => ?_⟩
  obtain ⟨_, p, hp, hs⟩ := hs
  obtain ⟨a, b, c, hok⟩ := jhS he.hok hp
  have he' : Env0 P w K mg base A outer s (upd H p (three a b c)) := ⟨he.frames, he.mod, fun q o g => by
    obtain ⟨z1, z2⟩ := he.bs q o g
    refine ⟨z1, ?_⟩
    rw [upd_ne (fun y => by subst y; rw [hp] at z2; cases z2)]
    exact z2, he.bsz, he.funs, fun q g => by
    have z2 := he.frf q g
    rw [upd_ne (fun y => by subst y; rw [hp] at z2; cases z2)]
    exact z2, hok, he.bare⟩
  refine codeAny_mono (F.run A outer s _ args us vs _ E hr he' hb hv (hs a b c)) fun r s' h => ?_
  match r, h with
  | .ok (.ret u), h =>
    obtain ⟨v, H', os, bare, un, hok', rv, ⟨a', b', c', e'⟩, q⟩ := h
    exact ⟨v, upd H' p (diceO p), os, bare, jgB (jkT un hp) e', jfV hok' e', rv, q⟩
/-- a def that makes dice -/
theorem jgC (F : FnOk P w K mg base CX0 k f fd ps sp) : FnOk P w K mg base CX0 k f fd ps (fun vs H Q E => sp vs H (fun v H' => ∃ p a b c, v = .ref p ∧ H' p = some (three a b c) ∧ Q (.ref p) (upd H' p (diceO p))) E) := by
  refine ⟨fun vs H Q E h => F.len _ _ _ _ h, fun A outer s H args us vs Q E hr he hb hv hs => ?_⟩
  refine codeAny_mono (F.run A outer s _ args us vs _ E hr he hb hv hs) fun r s' h => ?_
  match r, h with
  | .ok (.ret u), h =>
    obtain ⟨v, H', os, bare, un, hok', rv, p, a, b, c, rfl, e, q⟩ := h
    exact ⟨.ref p, upd H' p (diceO p), os, bare, jgB un e, jfV hok' e, rv, q⟩
end
theorem upd_id {H : Hp} {p : Addr} {o : HO} (h : H p = some o) : upd H p o = H := by
  funext q
  by_cases e : q = p
  · subst e
    rw [upd_same, h]
  · rw [upd_ne e]
structure Cal (P : Program) (w : World) (K : PySem.W.Frag) (mg : Str → Option Value) (base : Heap) (x : Str) (k : Nat) (ps : List Str) (sp : Sp) : Prop where
  ex : ∃ (f : Addr) (fd : FuncData), FnOk P w K mg base CX0 k f fd ps sp ∧ mg x = some (.ref f) ∧ PySem.W.keepIn K (.ref f) = true ∧ Binds K fd ps []
section
variable {X : Cx} {k : Nat} {ps : List Str} {sp : Sp} {x : Str} {p pos : Pos} {e : Expr} {es : List Expr} {t : TA}
theorem pe_cal (C : Cal X.prog X.w X.K X.mg X.base x k ps sp) (hr : Room k X.A) (hg : Gl X x) (ha : PA X (e :: es) t) (hdb : (x == ("__debug__" : Str)) = false := by decide)
    (he : starEach (e :: es) X.env = (false, eval e X.env) :: starEach es X.env := by rfl) (hpl : (backTo pos (starEach es X.env)).any (·.1) = false := by rfl) :
    PE X (.Call (.Name x p) (e :: es) [] pos) (tCall sp [] E0 t) := by
  obtain ⟨f, fd, F, hm, hk, hb⟩ := C.ex
  exact pe_call F hr hg hm hk hb .nil pass0 ha hdb he hpl
end
section
variable {X : Cx}
def CPowW (i j : Int) : Prop := 0 ≤ j ∧ (Builtin.Int.intBits i : Int) * j ≤ 2 ^ 27
theorem jel : OpR X (binaryOp .Pow) (rI CPowW fun i j => .int (i ^ j.toNat)) := opI fun _ _ _ _ _ _ _ hc q => pow_int hc.1 hc.2 q
theorem jgs : CallR X (.builtin "repr") (fun xs H Q => ∃ b, xs = [.bl b] ∧ Q (.str (if b then "True" else "False")) H) := by
  intro pins s σ H xs us Q I r h
  obtain ⟨b, rfl, q⟩ := h
  obtain ⟨u, rfl, ru⟩ := vals1 r
  obtain rfl : u = Value.bool b := ru
  exact PySem.P.repr_of_bool ⟨.str _, H, I.tok _, ⟨_, rfl⟩, q⟩
end
abbrev Ty := V → Hp → Prop
def Mono (Φ : Ty) : Prop := ∀ v H H', Gx H H' → Φ v H → Φ v H'
def EvG (te : TE) (σ : L2.St) (H : Hp) (Φ : Ty) : Prop := ∀ H1, Gx H H1 → ∀ Q : VK, (∀ v H2, Gx H1 H2 → Φ v H2 → Q v H2) → te σ H1 Q
section
variable {σ : L2.St} {H H' : Hp} {te ta tb : TE} {tr : TA} {Φ Φ' : Ty} {v : V} {Q : VK}
theorem EvG.mono (e : Gx H H') (h : EvG te σ H Φ) : EvG te σ H' Φ := fun H1 a Q q => h H1 (e.trans a) Q q
theorem EvG.imp (h : EvG te σ H Φ) (i : ∀ v H2, Gx H H2 → Φ v H2 → Φ' v H2) : EvG te σ H Φ' := fun H1 a Q q => h H1 a Q fun v H2 e f => q v H2 e (i v H2 (a.trans e) f)
/-- all of one kind -/
def AllT (Φ : Ty) (n : Nat) : List V → Hp → Prop := fun vs H => vs.length = n ∧ ∀ x ∈ vs, Φ x H
theorem AllT.mono {n : Nat} {vs : List V} (m : Mono Φ) (e : Gx H H') (h : AllT Φ n vs H) : AllT Φ n vs H' := ⟨h.1, fun x hx => m _ _ _ e (h.2 x hx)⟩
end
/-- heaps in which all stays but what lists hold -/
def Kx (H H' : Hp) : Prop := ∀ a o, H a = some o → H' a = some o ∨ ∃ xs ys, o = .lst xs ∧ H' a = some (.lst ys)
theorem Gx.k {H H' : Hp} (e : Gx H H') : Kx H H' := fun a o h => .inl (e a o h)
theorem Kx.trans {H H1 H2 : Hp} (a : Kx H H1) (b : Kx H1 H2) : Kx H H2 := fun x o h => by
  rcases a x o h with h1 | ⟨xs, ys, e, h1⟩
  · exact b x o h1
  · rcases b x _ h1 with h2 | ⟨xs2, ys2, _, h2⟩
    · exact .inr ⟨xs, ys, e, h2⟩
    · exact .inr ⟨xs, ys2, e, h2⟩
theorem Kx.put {H : Hp} {p : Addr} {xs ys : List V} (h : H p = some (.lst xs)) : Kx H (upd H p (.lst ys)) := fun a o e => by
  by_cases q : a = p
  · subst q
    rw [h] at e
    cases e
    exact .inr ⟨xs, ys, rfl, upd_same⟩
  · exact .inl (by rw [upd_ne q]; exact e)
theorem Kx.keep {H H' : Hp} (e : Kx H H') {a : Addr} {o : HO} (h : H a = some o) (n : ∀ xs, o ≠ .lst xs) : H' a = some o := by
  rcases e a o h with h1 | ⟨xs, _, z, _⟩
  · exact h1
  · exact absurd z (n xs)
theorem Kx.tup {H H' : Hp} (e : Kx H H') {a : Addr} {xs : List V} (h : H a = some (.tup xs)) : H' a = some (.tup xs) := e.keep h fun _ z => by cases z
theorem Kx.dice {H H' : Hp} (e : Kx H H') {a : Addr} (h : H a = some (diceO a)) : H' a = some (diceO a) := e.keep h fun _ z => by cases z
/-- true whatever lists hold -/
def Firm (Φ : Ty) : Prop := ∀ v H H', Kx H H' → Φ v H → Φ v H'
theorem Firm.mono {Φ : Ty} (h : Firm Φ) : Mono Φ := fun v H H' e f => h v H H' e.k f
inductive Kd | non | bl | int | str | lst | tup | dic | own
  deriving DecidableEq
/-- the built-in types that are asked for -/
def asked : List String := ["int", "bool", "str", "list", "tuple", "dict"]
/-- a class of the text whose instances are none of these -/
structure Own (K : PySem.W.Frag) (C : Addr) : Prop where
  cl : Cls K C
  ha : PySem.W.findIn K (.ref C) "__class__" = some (some (.builtin "object.__class__"))
  hn : PySem.W.specialIn K (.builtin "object.__class__") "__get__" = some (some (.builtin "getset_descriptor.__get__"))
  htk : PySem.W.takesIn K (.builtin "object.__class__") = some true
  hm : PySem.W.mroIn K C (.type "object") = some true
  no : ∀ n ∈ asked, PySem.W.kitOne K (.ref C) (.type n) = some false
/-- a plain value of a built-in type, or an instance -/
inductive Pl (K : PySem.W.Frag) (H : Hp) : V → Kd → Prop
  | non : Pl K H .non .non
  | bl (b : Bool) : Pl K H (.bl b) .bl
  | int (i : Int) : Pl K H (.int i) .int
  | str (x : Str) : Pl K H (.str x) .str
  | lst {a : Addr} {xs : List V} (e : H a = some (.lst xs)) : Pl K H (.ref a) .lst
  | tup {a : Addr} {xs : List V} (e : H a = some (.tup xs)) : Pl K H (.ref a) .tup
  | dK {a : Addr} {kvs : List (Key × V)} (e : H a = some (.dK kvs)) : Pl K H (.ref a) .dic
  | own {a C dx : Addr} {fs : List (Str × V)} (e : H a = some (.ins C dx fs)) (o : Own K C) : Pl K H (.ref a) .own
theorem Pl.firm {K : PySem.W.Frag} {k : Kd} : Firm (fun v H => Pl K H v k) := fun v H H' e h => by
  cases h with
  | non => exact .non
  | bl b => exact .bl b
  | int i => exact .int i
  | str x => exact .str x
  | lst h =>
    rcases e _ _ h with h1 | ⟨_, _, _, h1⟩
    · exact .lst h1
    · exact .lst h1
  | tup h => exact .tup (e.tup h)
  | dK h => exact .dK (e.keep h fun _ z => by cases z)
  | own h o => exact .own (e.keep h fun _ z => by cases z) o
theorem Pl.gx {K : PySem.W.Frag} {H H' : Hp} {v : V} {k : Kd} (e : Gx H H') (h : Pl K H v k) : Pl K H' v k := Pl.firm v H H' e.k h
section
variable {X : Cx} {x : Str} {pos : Pos}
theorem pe_ty (n : String) (hg : Gl X x) (hm : X.mg x = none) (hv : bootBuiltins x = some (.type n)) (hn : x ≠ "__name__" := by decide) (hd : (x == ("__debug__" : Str)) = false := by decide) : PE X (.Name x pos) (tC (.ty n)) := pe_bltn hg hm hv rfl hn hd
theorem jaH {a : Addr} (hg : Gl X x) (hm : X.mg x = some (.ref a)) (hd : (x == ("__debug__" : Str)) = false := by decide) : PE X (.Name x pos) (tC (.ref a)) := pe_glob hg hm rfl hd
end
def EvN (te : TE) (σ : L2.St) (H : Hp) (Φ : Addr → Hp → Prop) : Prop := ∀ H1, Gx H H1 → ∀ Q : VK, (∀ p H2, Gx H1 H2 → H1 p = none → Φ p H2 → Q (.ref p) H2) → te σ H1 Q
section
variable {K : PySem.W.Frag} {σ : L2.St} {H H' : Hp} {te ta tb : TE} {tr : TA} {Φ Φ' : Ty} {v : V} {Q : VK}
theorem EvN.g {Φ : Addr → Hp → Prop} (h : EvN te σ H Φ) (k : ∀ p H1 H2, Gx H H1 → H1 p = none → Gx H1 H2 → Φ p H2 → Φ' (.ref p) H2) : EvG te σ H Φ' := fun H1 e Q q => h H1 e Q fun p H2 e2 n f => q _ H2 e2 (k p H1 H2 e n e2 f)
/-- a list of things of one kind, at a place -/
def Lof (Φ : Ty) (n : Nat) : Addr → Hp → Prop := fun p H => ∃ xs, H p = some (.lst xs) ∧ AllT Φ n xs H
def LofT (Φ : Ty) (n : Nat) : Ty := fun v H => ∃ p, v = .ref p ∧ Lof Φ n p H
theorem Lof.mono {n : Nat} {p : Addr} (m : Mono Φ) (e : Gx H H') (h : Lof Φ n p H) : Lof Φ n p H' := by
  obtain ⟨xs, h1, h2⟩ := h
  exact ⟨xs, e _ _ h1, h2.mono m e⟩
theorem LofT.mono {n : Nat} (m : Mono Φ) : Mono (LofT Φ n) := fun _ _ _ e ⟨p, h1, h2⟩ => ⟨p, h1, h2.mono m e⟩
end
def jkV (K : PySem.W.Frag) : Sp := fun vs H Q _ => ∃ (a : Addr) (ns : List Int) (n : Nat), vs = [.ref a, .int n] ∧ SqL K H a (ns.map V.int) ∧
  ∀ p x y z, H p = none → Q (.ref p) (upd H p (three x y z))
def jkm (K : PySem.W.Frag) : Sp := fun vs H Q _ => ∃ (a : Addr) (ns : List Int) (n : Nat), vs = [.ref a, .int n] ∧ SqL K H a (ns.map V.int) ∧
  ∀ p, H p = none → Q (.ref p) (upd H p (diceO p))
def jkW : Sp := fun vs H Q _ => ∃ (p : Addr) (t a b c : Int), vs = [.ref p, .int t] ∧ 0 < t ∧ t < 1073741824 ∧ H p = some (three a b c) ∧
  ∀ r a' b' c', 0 ≤ r → r < t → Q (.int r) (upd H p (three a' b' c'))
def jgD : Sp := fun vs H Q _ => ∃ (p : Addr) (t : Int), vs = [.ref p, .int t] ∧ 0 < t ∧ t < 1073741824 ∧ H p = some (diceO p) ∧ ∀ r, 0 ≤ r → r < t → Q (.int r) H
def jkn (K : PySem.W.Frag) : Sp := fun vs H Q _ => ∃ (p l : Addr) (xs : List V), vs = [.ref p, .ref l] ∧ H p = some (diceO p) ∧ SqL K H l xs ∧ 0 < xs.length ∧ xs.length < 1073741824 ∧ ∀ (j : Nat) x, xs[j]? = some x → Q x H
section
variable {K : PySem.W.Frag} {σ : L2.St} {H H' : Hp} {td tl : TE} {Φ : Ty} {p : Addr}
def DiceT : Ty := fun v H => ∃ p, v = .ref p ∧ H p = some (diceO p)
theorem DiceT.mono : Mono DiceT := fun _ _ _ e ⟨p, h1, h2⟩ => ⟨p, h1, e _ _ h2⟩
end
/-- what a comprehension gives: the items whose test holds, in order -/
inductive LcR (B : Nat → Bool → Prop) (R : Nat → Ty) (H : Hp) : Nat → List V → Prop
  | nil : LcR B R H 0 []
  | keep {n : Nat} {ys : List V} {y : V} : LcR B R H n ys → B n true → R n y H → LcR B R H (n + 1) (ys ++ [y])
  | skip {n : Nat} {ys : List V} : LcR B R H n ys → B n false → LcR B R H (n + 1) ys
theorem LcR.firm {B : Nat → Bool → Prop} {R : Nat → Ty} {H H' : Hp} (m : ∀ i, Firm (R i)) (e : Kx H H') {n : Nat} {ys : List V} (h : LcR B R H n ys) : LcR B R H' n ys := by
  induction h with
  | nil => exact .nil
  | keep _ b r ih => exact .keep ih b (m _ _ _ _ e r)
  | skip _ b ih => exact .skip ih b
theorem LcR.gx {B : Nat → Bool → Prop} {R : Nat → Ty} {H H' : Hp} (m : ∀ i, Mono (R i)) (e : Gx H H') {n : Nat} {ys : List V} (h : LcR B R H n ys) : LcR B R H' n ys := by
  induction h with
  | nil => exact .nil
  | keep _ b r ih => exact .keep ih b (m _ _ _ _ e r)
  | skip _ b ih => exact .skip ih b
theorem LcR.len {B : Nat → Bool → Prop} {R : Nat → Ty} {H : Hp} {n : Nat} {ys : List V} (h : LcR B R H n ys) : ys.length ≤ n := by
  induction h with
  | nil => exact Nat.le_refl 0
  | keep _ _ _ ih =>
    rw [List.length_append]
    show _ + 1 ≤ _
    omega
  | skip _ _ ih => omega
/-- without a test: item by item -/
theorem LcR.all {B : Nat → Bool → Prop} {R : Nat → Ty} {H : Hp} {n : Nat} {ys : List V} (h : LcR B R H n ys) (hB : ∀ i, ¬ B i false) : ys.length = n ∧ ∀ i y, ys[i]? = some y → R i y H := by
  induction h with
  | nil => exact ⟨rfl, fun i y e => by simp at e⟩
  | @keep n ys y _ _ r ih =>
    refine ⟨by rw [List.length_append, ih.1]; rfl, fun i z e => ?_⟩
    by_cases hi : i < ys.length
    · rw [List.getElem?_append_left hi] at e
      exact ih.2 i z e
    · rw [List.getElem?_append_right (by omega)] at e
      have h0 : i - ys.length = 0 := by
        cases q : i - ys.length with
        | zero => rfl
        | succ m => rw [q] at e; simp at e
      rw [h0] at e
      cases e
      have : i = n := by rw [← ih.1]; omega
      rw [this]
      exact r
  | skip _ b _ => exact absurd b (hB _)
section
variable {K : PySem.W.Frag} {σ : L2.St} {H : Hp} {te : TE} {wi : TI} {g : TG} {tt : TT} {vs : List Nat} {n : Nat}
theorem wipe1 {j : Nat} {x : Option V} : wipe ((wipe σ [j]).set j x) [j] = wipe σ [j] := by
  show ((σ.set j none).set j x).set j none = σ.set j none
  rw [List.set_set, List.set_set]
end
theorem EvN.imp {σ : L2.St} {H : Hp} {te : TE} {Φ Φ' : Addr → Hp → Prop} (h : EvN te σ H Φ) (i : ∀ p H2, Gx H H2 → Φ p H2 → Φ' p H2) : EvN te σ H Φ' := fun H1 a Q q => h H1 a Q fun p H2 e n f => q p H2 e n (i p H2 (a.trans e) f)
def isI : V → Bool
  | .int i => decide (-(10 ^ 60) < i) && decide (i < 10 ^ 60)
  | _ => false
def wthn (x : V) (lo hi : Int) : Bool := match x with
  | .int i => isI x && (decide (lo ≤ i) && decide (i ≤ hi))
  | _ => false
def jkX : List Nat := (("abcdefghijklmnopqrstuvwxyz" : Str)).cps.toList
def isW : V → Bool
  | .str z => (decide (1 ≤ (z.length : Int)) && decide ((z.length : Int) ≤ 8)) && z.cps.toList.all fun c => decide (c ∈ jkX)
  | _ => false
def jdG (s n : V) : Bool := wthn n 0 3 && (isW s || (decide (s = .str "_" ∨ s = .str "#") && decide (n = .int 0)))
/-- no text too long -/
def Small (x : V) : Prop := ∀ z, x = .str z → z.length ≤ 100000
/-- a value, and whether it is a node -/
inductive NodeIn (K : PySem.W.Frag) (H : Hp) : V → Bool → Prop
  | other {x : V} {k : Kd} : Pl K H x k → k ≠ .tup → NodeIn K H x false
  | size {a : Addr} {xs : List V} : H a = some (.tup xs) → xs.length ≠ 2 → NodeIn K H (.ref a) false
  | pair {a : Addr} {s n : V} {ks kn : Kd} : H a = some (.tup [s, n]) → Pl K H s ks → Pl K H n kn → Small s → NodeIn K H (.ref a) (jdG s n)
def AtT : List Ty → List V → Hp → Prop
  | [], [], _ => True
  | Φ :: Φs, v :: vs, H => Φ v H ∧ AtT Φs vs H
  | _, _, _ => False
theorem AtT.mono {H H' : Hp} (e : Gx H H') : ∀ {Φs : List Ty} {vs : List V}, (∀ Φ ∈ Φs, Mono Φ) → AtT Φs vs H → AtT Φs vs H'
  | [], [], _, h => h
  | Φ :: Φs, v :: vs, m, h => ⟨m Φ (List.mem_cons_self ..) _ _ _ e h.1, AtT.mono e (fun Φ hp => m Φ (List.mem_cons_of_mem _ hp)) h.2⟩
  | [], _ :: _, _, h => h.elim
  | _ :: _, [], _, h => h.elim
theorem AtT.len {H : Hp} : ∀ {Φs : List Ty} {vs : List V}, AtT Φs vs H → vs.length = Φs.length
  | [], [], _ => rfl
  | Φ :: Φs, v :: vs, h => by rw [List.length_cons, List.length_cons, AtT.len h.2]
  | [], _ :: _, h => h.elim
  | _ :: _, [], h => h.elim
theorem AtT.get {H : Hp} : ∀ {Φs : List Ty} {vs : List V} {i : Nat} {x : V}, AtT Φs vs H → vs[i]? = some x → ∃ Φ, Φs[i]? = some Φ ∧ Φ x H
  | [], [], _, _, _, e => by simp at e
  | Φ :: Φs, v :: vs, 0, x, h, e => by
    simp at e
    subst e
    exact ⟨Φ, rfl, h.1⟩
  | Φ :: Φs, v :: vs, i + 1, x, h, e => by
    obtain ⟨Ψ, h1, h2⟩ := AtT.get (i := i) (x := x) h.2 (by simpa using e)
    exact ⟨Ψ, by simpa using h1, h2⟩
  | [], _ :: _, _, _, h, _ => h.elim
  | _ :: _, [], _, _, h, _ => h.elim
section
variable {K : PySem.W.Frag} {σ : L2.St} {H : Hp} {ta : TE} {tr : TA} {Φ : Ty} {Φs : List Ty}
def TupA (Φs : List Ty) : Addr → Hp → Prop := fun p H => ∃ xs, H p = some (.tup xs) ∧ AtT Φs xs H
def LstA (Φs : List Ty) : Addr → Hp → Prop := fun p H => ∃ xs, H p = some (.lst xs) ∧ AtT Φs xs H
def TupT (Φs : List Ty) : Ty := fun v H => ∃ p, v = .ref p ∧ TupA Φs p H
def LstT (Φs : List Ty) : Ty := fun v H => ∃ p, v = .ref p ∧ LstA Φs p H
theorem TupT.mono (m : ∀ Φ ∈ Φs, Mono Φ) : Mono (TupT Φs) := fun _ _ _ e ⟨p, z, xs, h1, h2⟩ => ⟨p, z, xs, e _ _ h1, h2.mono e m⟩
theorem LstT.mono (m : ∀ Φ ∈ Φs, Mono Φ) : Mono (LstT Φs) := fun _ _ _ e ⟨p, z, xs, h1, h2⟩ => ⟨p, z, xs, e _ _ h1, h2.mono e m⟩
end
theorem NodeIn.mono {K : PySem.W.Frag} {b : Bool} : Mono (fun v H => NodeIn K H v b) := fun v H H' e h => by
  cases h with
  | other p hk => exact .other (p.gx e) hk
  | size h hl => exact .size (e _ _ h) hl
  | pair h ps pn sm => exact .pair (e _ _ h) (ps.gx e) (pn.gx e) sm
/-- is this value that? -/
abbrev Eq1 (x : V) : Ty := fun v _ => v = x
theorem Eq1.mono {x : V} : Mono (Eq1 x) := fun _ _ _ _ h => h
theorem Eq1.firm {x : V} : Firm (Eq1 x) := fun _ _ _ _ h => h
mutual
theorem Dp.gx {K : PySem.W.Frag} {H H' : Hp} (e : Gx H H') : ∀ {v : V} {d : PyData}, Dp K H v d → Dp K H' v d
  | _, _, .non => .non
  | _, _, .bl b => .bl b
  | _, _, .int i => .int i
  | _, _, .str x => .str x
  | _, _, .lst h hs => .lst (e.l h) (DpAll.gx e hs)
  | _, _, .tup h hs => .tup (e.t h) (DpAll.gx e hs)
theorem DpAll.gx {K : PySem.W.Frag} {H H' : Hp} (e : Gx H H') : ∀ {vs : List V} {ds : List PyData}, DpAll K H vs ds → DpAll K H' vs ds
  | _, _, .nil => .nil
  | _, _, .cons h hs => .cons (Dp.gx e h) (DpAll.gx e hs)
end
def DatT (K : PySem.W.Frag) (d : PyData) : Ty := fun v H => Dp K H v d
theorem DatT.mono {K : PySem.W.Frag} {d : PyData} : Mono (DatT K d) := fun _ _ _ e h => Dp.gx e h
theorem DpAll.len {K : PySem.W.Frag} {H : Hp} : ∀ {vs : List V} {ds : List PyData}, DpAll K H vs ds → vs.length = ds.length
  | _, _, .nil => rfl
  | _, _, .cons _ hs => by rw [List.length_cons, List.length_cons, DpAll.len hs]
section
variable {X : Cx} {K : PySem.W.Frag}
theorem kix_list (hK : X.K = K := by rfl) : IxR X (rIxL K) := by subst hK; exact ix_list
theorem jkY (hu : X.A.units + 64 < cLine) (hK : X.K = K := by rfl) : OpR X (compareOp .Eq) (rEqD K) := by subst hK; exact op_eqD hu
theorem jkZ (hu : X.A.units + 64 < cLine) (hK : X.K = K := by rfl) : OpR X (compareOp .NotEq) (rNeD K) := by subst hK; exact op_neD hu
def rLenK (K : PySem.W.Frag) : List V → Hp → VK → Prop := fun xs H Q => ∃ p ys, xs = [.ref p] ∧ (SqL K H p ys ∨ SqT K H p ys) ∧ Q (.int ys.length) H
theorem jem (hK : X.K = K := by rfl) : CallR X (.builtin "len") (rLenK K) := by subst hK; exact call_len_seq
variable {tg l : Expr} {tl : TE}
section
variable {o e : Expr} {es : List Expr} {to te : TE} {t : TA} {name : Str} {apos cpos pos : Pos} {T id : String} {r : V → List V → Hp → VK → Prop}
theorem kpe_bm (pa : PlainAttrs T) (slot : Slot T name id) (hty : typeOf (.builtin id) = pure (.type "method_descriptor")) (hm : MtR X id r) (ho : PE X o to) (ha : PA X (e :: es) t) (hK : X.K = K := by rfl)
    (hbase : attributeBase o name X.env (eval o X.env) = eval o X.env := by rfl)
    (hfew : ((backTo cpos (starEach (e :: es) X.env)).all (fun x => !x.1) && (backToKw cpos (keywordEach [] X.env)).all (fun x => x.1.isSome)
      && decide ((e :: es).length + ([] : List Keyword).length + (if ([] : List Keyword).isEmpty then 0 else 1) < 30)) = true := by rfl)
    (hline : (apos.endLine == cpos.line) = true := by rfl) (hs : starEach (e :: es) X.env = (false, eval e X.env) :: starEach es X.env := by rfl) (hplain : (backTo cpos (starEach es X.env)).any (·.1) = false := by rfl) :
    PE X (.Call (.Attribute o name apos) (e :: es) [] cpos) (tBM K T r to t) := by
  subst hK
  exact pe_bm pa slot hty hm ho ha hbase hfew hline hs hplain
def rJoinK (K : PySem.W.Frag) : V → List V → Hp → VK → Prop := fun x xs H Q => ∃ a p, ∃ ys : List Str, x = .str a ∧ xs = [.ref p] ∧ (SqL K H p (ys.map V.str) ∨ SqT K H p (ys.map V.str)) ∧
      (ys.map (·.length)).sum + ys.length * a.length ≤ 16777216 ∧ Q (.str (Txt.join a ys)) H
theorem jhT (ho : PE X o to) (he : PE X e te) (hK : X.K = K := by rfl) (hs : starEach [e] X.env = [(false, eval e X.env)] := by rfl) (hbase : attributeBase o "join" X.env (eval o X.env) = eval o X.env := by rfl) (hline : (apos.endLine == pos.line) = true := by rfl) :
    PE X (.Call (.Attribute o "join" apos) [e] [] pos) (tM1 (rJoinK K) to te) := by
  subst hK
  exact pe_join ho he hs hbase hline
end
end
def StrT (P : Str → Prop) : Ty := fun v _ => ∃ z, v = .str z ∧ P z
theorem StrT.firm {P : Str → Prop} : Firm (StrT P) := fun _ _ _ _ h => h
/-- some data -/
def DatP (K : PySem.W.Frag) (P : PyData → Prop) : Ty := fun v H => ∃ d, Dp K H v d ∧ SeqAt.shaped d = true ∧ P d
section
variable {K : PySem.W.Frag} {σ : L2.St} {H : Hp} {ta tb : TE} {P R : PyData → Prop}
theorem DatP.mono : Mono (DatP K P) := fun _ _ _ e ⟨d, h1, h2, h3⟩ => ⟨d, Dp.gx e h1, h2, h3⟩
end
abbrev intsV (l : List Nat) : List V := l.map fun (n : Nat) => V.int (n : Int)
section
variable {K : PySem.W.Frag} {σ : L2.St} {H : Hp} {ta tb tc te tl : TE} {tr : TA} {tz : TS} {D : Ends} {Φ : Ty}
/-- a list whose items are known -/
def LstK (K : PySem.W.Frag) (xs : List V) : Ty := fun v H => ∃ p, v = .ref p ∧ SqL K H p xs
def TupK (K : PySem.W.Frag) (xs : List V) : Ty := fun v H => ∃ p, v = .ref p ∧ SqT K H p xs
theorem LstK.mono {xs : List V} : Mono (LstK K xs) := fun _ _ _ e ⟨p, z, h⟩ => ⟨p, z, e.l h⟩
theorem TupK.mono {xs : List V} : Mono (TupK K xs) := fun _ _ _ e ⟨p, z, h⟩ => ⟨p, z, e.t h⟩
end
theorem Kx.rdT {H H' : Hp} {a : Addr} {xs : List V} (e : Kx H H') (h : Rd H a (.tup xs)) : Rd H' a (.tup xs) := by
  rcases h with h | ⟨o, h⟩
  · exact .inl (e.tup h)
  · exact .inr ⟨o, e.keep h fun _ z => by cases z⟩
theorem Kx.t {K : PySem.W.Frag} {H H' : Hp} {a : Addr} {xs : List V} (e : Kx H H') (h : SqT K H a xs) : SqT K H' a xs := by
  rcases h with h | h
  · exact .inl (e.rdT h)
  · exact .inr h
end Ly
namespace Pu
open PySem PySem.Spec PyProof.Rows L2 Ly
inductive D where
  | non | bl (b : Bool) | int (i : Int) | str (x : Str)
  | lst (ds : List D) | tup (ds : List D)
  | dic (ks : List Key) (ds : List D)
  | obj (C : Addr) (ns : List Str) (ds : List D)
  | dice
  | cls (C : Addr)
  | exn (a dd : Addr) (ns : List Str) (ds : List D)
  | lsk (ds : List D)
  | dit (ks : List (List Key)) (ds : List D)
  | exm (C : Addr) (m : Str)
  | exf (C : Addr) (f : Str) (d : D)
/-- at a: an error of the class at C that was made of the things in the tuple at t1 -/
def exS (a C t1 : Addr) : HO := .ext fun h => h.get? a = some ({ cls := .ref C, dict := none, data := .fields #[.ref t1, .none, .none, .none, .bool false, .none] } : Obj)
/-- an empty tuple of the program's own -/
def KT0 (K : PySem.W.Frag) (a : Addr) : Prop := t0 = true ∧ ∃ (o : Obj) (n : Nat), K.lookup a = some o ∧ o.cls = .type "tuple" ∧ o.data = .seq #[] n
theorem KT0.sq {K : PySem.W.Frag} {a : Addr} {H : Hp} (h : KT0 K a) : SqT K H a [] := by
  obtain ⟨_, o, n, h1, h2, h3⟩ := h
  exact .inr ⟨o, #[], n, h1, h2, h3, Nat.zero_le _, .nil⟩
mutual
/-- v is d, by what is seen of the heap -/
inductive Rep (K : PySem.W.Frag) (W : Hp) : V → D → Prop
  | non : Rep K W .non .non
  | bl (b : Bool) : Rep K W (.bl b) (.bl b)
  | int (i : Int) : Rep K W (.int i) (.int i)
  | str (x : Str) : Rep K W (.str x) (.str x)
  | lst {a : Addr} {vs : List V} {ds : List D} : W a = some (.lst vs) → RepAll K W vs ds → vs.length ≤ sizeLine → Rep K W (.ref a) (.lst ds)
  | tup {a : Addr} {vs : List V} {ds : List D} : W a = some (.tup vs) → RepAll K W vs ds → vs.length ≤ sizeLine → Rep K W (.ref a) (.tup ds)
  | tup0 {a : Addr} : KT0 K a → Rep K W (.ref a) (.tup [])
  | dic {a : Addr} {kvs : List (Key × V)} {ks : List Key} {ds : List D} : Rd W a (.dK kvs) → kvs.map Prod.fst = ks → RepAll K W (kvs.map Prod.snd) ds → kvs.length ≤ sizeLine → Rep K W (.ref a) (.dic ks ds)
  | obj {a C dx : Addr} {fs : List (Str × V)} {ns : List Str} {ds : List D} : W a = some (.ins C dx fs) → fs.map Prod.fst = ns → RepAll K W (fs.map Prod.snd) ds → Rep K W (.ref a) (.obj C ns ds)
  | dice {a : Addr} : W a = some (diceO a) → Rep K W (.ref a) .dice
  | cls (C : Addr) : Rep K W (.ref C) (.cls C)
  | exn {a dd : Addr} {fs : List (Str × V)} {ns : List Str} {ds : List D} : W dd = some (.xd fs) → fs.map Prod.fst = ns → RepAll K W (fs.map Prod.snd) ds → Rep K W (.ref a) (.exn a dd ns ds)
  | lsk {a : Addr} {vs : List V} {ds : List D} : SqL K W a vs → RepAll K W vs ds → vs.length ≤ sizeLine → Rep K W (.ref a) (.lsk ds)
  | dit {a : Addr} {kvs : List (List Key × V)} {ks : List (List Key)} {ds : List D} : Rd W a (.dT kvs) → kvs.map Prod.fst = ks → RepAll K W (kvs.map Prod.snd) ds → kvs.length ≤ sizeLine → Rep K W (.ref a) (.dit ks ds)
  | exm {a C t1 : Addr} {m : Str} : W a = some (exS a C t1) → W t1 = some (.tup [.str m]) → Rep K W (.ref a) (.exm C m)
  | exf {a C dx : Addr} {f : Str} {v : V} {d : D} : W a = some (L2.exo a C (some dx)) → W dx = some (L2.exd dx [(f, v)]) → Rep K W v d → Rep K W (.ref a) (.exf C f d)
inductive RepAll (K : PySem.W.Frag) (W : Hp) : List V → List D → Prop
  | nil : RepAll K W [] []
  | cons {v : V} {vs : List V} {d : D} {ds : List D} : Rep K W v d → RepAll K W vs ds → RepAll K W (v :: vs) (d :: ds)
end
/-- what is read stays readable -/
def Le (W W' : Hp) : Prop := (∀ a vs, W a = some (.lst vs) → W' a = some (.lst vs)) ∧ (∀ a u, (∀ o v, u ≠ .frz o v) → Rd W a u → Rd W' a u) ∧ (∀ a C dx fs, W a = some (.ins C dx fs) → W' a = some (.ins C dx fs)) ∧ (∀ a φ, W a = some (.ext φ) → W' a = some (.ext φ)) ∧ (∀ a fs, W a = some (.xd fs) → W' a = some (.xd fs)) ∧ ∀ a vs, W a = some (.tup vs) → W' a = some (.tup vs)
theorem Gx.le {W W' : Hp} (e : Gx W W') : Le W W' := ⟨fun _ _ h => e _ _ h, fun _ _ _ h => e.rd h, fun _ _ _ _ h => e _ _ h, fun _ _ h => e _ _ h, fun _ _ h => e _ _ h, fun _ _ h => e _ _ h⟩
theorem Le.t {K : PySem.W.Frag} {W W' : Hp} (e : Le W W') {a : Addr} {vs : List V} (h : SqT K W a vs) : SqT K W' a vs := by
  rcases h with h | h
  · exact .inl (e.2.1 _ _ (fun _ _ z => by cases z) h)
  · exact .inr h
theorem Le.l {K : PySem.W.Frag} {W W' : Hp} (e : Le W W') {a : Addr} {vs : List V} (h : SqL K W a vs) : SqL K W' a vs := by
  rcases h with h | h
  · exact .inl (e.2.1 _ _ (fun _ _ z => by cases z) h)
  · exact .inr h
mutual
theorem Rep.le {K : PySem.W.Frag} {W W' : Hp} (e : Le W W') : ∀ {v : V} {d : D}, Rep K W v d → Rep K W' v d
  | _, _, .non => .non
  | _, _, .bl b => .bl b
  | _, _, .int i => .int i
  | _, _, .str x => .str x
  | _, _, .lst h hs n => .lst (e.1 _ _ h) (RepAll.le e hs) n
  | _, _, .tup h hs n => .tup (e.2.2.2.2.2 _ _ h) (RepAll.le e hs) n
  | _, _, .tup0 h => .tup0 h
  | _, _, .dic h k hs n => .dic (e.2.1 _ _ (fun _ _ z => by cases z) h) k (RepAll.le e hs) n
  | _, _, .obj h k hs => .obj (e.2.2.1 _ _ _ _ h) k (RepAll.le e hs)
  | _, _, .dice h => .dice (e.2.2.2.1 _ _ h)
  | _, _, .cls C => .cls C
  | _, _, .exn h k hs => .exn (e.2.2.2.2.1 _ _ h) k (RepAll.le e hs)
  | _, _, .lsk h hs n => .lsk (e.l h) (RepAll.le e hs) n
  | _, _, .dit h k hs n => .dit (e.2.1 _ _ (fun _ _ z => by cases z) h) k (RepAll.le e hs) n
  | _, _, .exm h h2 => .exm (e.2.2.2.1 _ _ h) (e.2.2.2.2.2 _ _ h2)
  | _, _, .exf h h2 r => .exf (e.2.2.2.1 _ _ h) (e.2.2.2.1 _ _ h2) (Rep.le e r)
theorem RepAll.le {K : PySem.W.Frag} {W W' : Hp} (e : Le W W') : ∀ {vs : List V} {ds : List D}, RepAll K W vs ds → RepAll K W' vs ds
  | _, _, .nil => .nil
  | _, _, .cons h hs => .cons (Rep.le e h) (RepAll.le e hs)
end
section
variable {K : PySem.W.Frag} {W W' : Hp}
theorem Rep.gx (e : Gx W W') {v : V} {d : D} (h : Rep K W v d) : Rep K W' v d := h.le (Gx.le e)
theorem RepAll.gx (e : Gx W W') {vs : List V} {ds : List D} (h : RepAll K W vs ds) : RepAll K W' vs ds := h.le (Gx.le e)
theorem RepAll.len : ∀ {vs : List V} {ds : List D}, RepAll K W vs ds → vs.length = ds.length
  | _, _, .nil => rfl
  | _, _, .cons _ hs => by rw [List.length_cons, List.length_cons, RepAll.len hs]
theorem RepAll.get : ∀ {vs : List V} {ds : List D} {i : Nat} {v : V}, RepAll K W vs ds → vs[i]? = some v → ∃ d, ds[i]? = some d ∧ Rep K W v d
  | _, _, _, _, .nil, e => by simp at e
  | _, _, 0, _, .cons h _, e => by simp at e; subst e; exact ⟨_, rfl, h⟩
  | _, _, i + 1, v, .cons _ hs, e => by
    obtain ⟨d, h1, h2⟩ := RepAll.get (i := i) (v := v) hs (by simpa using e)
    exact ⟨d, by simpa using h1, h2⟩
theorem RepAll.getD : ∀ {vs : List V} {ds : List D} {i : Nat} {d : D}, RepAll K W vs ds → ds[i]? = some d → ∃ v, vs[i]? = some v ∧ Rep K W v d
  | _, _, _, _, .nil, e => by simp at e
  | _, _, 0, _, .cons h _, e => by simp at e; subst e; exact ⟨_, rfl, h⟩
  | _, _, i + 1, v, .cons _ hs, e => by
    obtain ⟨d, h1, h2⟩ := RepAll.getD (i := i) (d := v) hs (by simpa using e)
    exact ⟨d, by simpa using h1, h2⟩
theorem RepAll.app : ∀ {vs us : List V} {ds es : List D}, RepAll K W vs ds → RepAll K W us es → RepAll K W (vs ++ us) (ds ++ es)
  | _, _, _, _, .nil, h => h
  | _, _, _, _, .cons h hs, k => .cons h (RepAll.app hs k)
theorem RepAll.one {v : V} {d : D} (h : Rep K W v d) : RepAll K W [v] [d] := .cons h .nil
theorem RepAll.take : ∀ {vs : List V} {ds : List D} (n : Nat), RepAll K W vs ds → RepAll K W (vs.take n) (ds.take n)
  | _, _, 0, _ => .nil
  | _, _, _ + 1, .nil => .nil
  | _, _, n + 1, .cons h hs => .cons h (RepAll.take n hs)
theorem RepAll.drop : ∀ {vs : List V} {ds : List D} (n : Nat), RepAll K W vs ds → RepAll K W (vs.drop n) (ds.drop n)
  | _, _, 0, h => h
  | _, _, _ + 1, .nil => .nil
  | _, _, n + 1, .cons _ hs => RepAll.drop n hs
theorem RepAll.set {v : V} {d : D} (h : Rep K W v d) : ∀ {vs : List V} {ds : List D} (n : Nat), RepAll K W vs ds → RepAll K W (vs.set n v) (ds.set n d)
  | _, _, _, .nil => .nil
  | _, _, 0, .cons _ hs => .cons h hs
  | _, _, n + 1, .cons k hs => .cons k (RepAll.set h n hs)
theorem RepAll.map {α : Type} {f : α → V} {g : α → D} (h : ∀ x, Rep K W (f x) (g x)) : ∀ l : List α, RepAll K W (l.map f) (l.map g)
  | [] => .nil
  | x :: l => .cons (h x) (RepAll.map h l)
end
/-- new, or a tuple: nobody changes a tuple -/
def Nw (H : Hp) (a : Addr) (o : HO) : Prop := H a = none ∨ ∃ vs, o = .tup vs
structure Ex (W H W' H' : Hp) : Prop where
  h : Gx H H'
  w : Gx W W'
  s : Gx W' H'
  n : ∀ a o, W' a = some o → W a = some o ∨ Nw H a o
section
variable {W H W1 H1 W2 H2 : Hp} {p : Addr} {o : HO}
theorem Ex.refl (s : Gx W H) : Ex W H W H := ⟨Gx.refl _, Gx.refl _, s, fun _ _ h => .inl h⟩
theorem Ex.trans (a : Ex W H W1 H1) (b : Ex W1 H1 W2 H2) : Ex W H W2 H2 := ⟨a.h.trans b.h, a.w.trans b.w, b.s, fun x o h => by
  rcases b.n x o h with h | h
  · exact a.n x o h
  · exact .inr (h.imp (fun h => a.h.free h) id)⟩
theorem gx_upd {W H : Hp} (s : Gx W H) (p : Addr) (o : HO) : Gx (upd W p o) (upd H p o) := fun a u h => by
  by_cases e : a = p
  · subst e
    rw [upd_same] at h ⊢
    exact h
  · rw [upd_ne e] at h ⊢
    exact s _ _ h
theorem Ex.new (s : Gx W H) (hp : H p = none) : Ex W H (upd W p o) (upd H p o) := ⟨Gx.new hp, Gx.new (s.free hp), gx_upd s p o, fun a u h => by
  by_cases e : a = p
  · subst e
    exact .inr (.inl hp)
  · rw [upd_ne e] at h
    exact .inl h⟩
/-- a new thing that is not seen -/
theorem Ex.hid (s : Gx W H) (hp : H p = none) : Ex W H W (upd H p o) := ⟨Gx.new hp, Gx.refl _, s.trans (Gx.new hp), fun a u h => .inl h⟩
/-- .. and then it is -/
theorem Ex.see {W' H' : Hp} (e : Ex W H W' H') (hp : H p = none) (hw : W' p = none) (h' : H' p = some o) : Ex W H (upd W' p o) H' := ⟨e.h, e.w.trans (Gx.new hw), fun a u h => by
  by_cases q : a = p
  · subst q
    rw [upd_same] at h
    rw [← h]
    exact h'
  · rw [upd_ne q] at h
    exact e.s _ _ h, fun a u h => by
  by_cases q : a = p
  · subst q
    exact .inr (.inl hp)
  · rw [upd_ne q] at h
    exact e.n _ _ h⟩
/-- what is hidden and no tuple stays hidden -/
theorem Ex.hide {W' H' : Hp} (e : Ex W H W' H') (hw : W p = none) (hp : H p = some o) (hu : ∀ vs, o ≠ .tup vs) : W' p = none := by
  cases q : W' p with
  | none => rfl
  | some u' =>
    rcases e.n p u' q with z | z | ⟨vs, z⟩
    · rw [hw] at z; cases z
    · rw [hp] at z; cases z
    · subst z
      have h1 := e.s _ _ q
      rw [e.h _ _ hp] at h1
      exact absurd (Option.some.inj h1) (hu vs)
end
inductive B where
  | un | val (d : D)
  | lst (ds : List D)
  | dic (ks : List Key) (ds : List D)
  | obj (a C : Addr) (ns : List Str) (ds : List D)
  | bor (a : Addr) (ks : List Key) (ds : List D)
  | dit (ks : List (List Key)) (ds : List D)
abbrev Env := List B
/-- what stands in a slot: o its own thing's place -/
def BRep (K : PySem.W.Frag) (H0 W H : Hp) (o : Option Addr) : B → Option V → Prop
  | .un, _ => o = none
  | .val d, s => o = none ∧ ∃ v, s = some v ∧ Rep K W v d
  | .lst ds, s => ∃ p vs, o = some p ∧ s = some (.ref p) ∧ W p = none ∧ H0 p = none ∧ H p = some (.lst vs) ∧ RepAll K W vs ds ∧ vs.length ≤ sizeLine
  | .dic ks ds, s => ∃ p kvs, o = some p ∧ s = some (.ref p) ∧ W p = none ∧ H0 p = none ∧ H p = some (.dK kvs) ∧ kvs.map Prod.fst = ks ∧ RepAll K W (kvs.map Prod.snd) ds ∧ kvs.length ≤ sizeLine
  | .obj a C ns ds, s => ∃ p dx fs, p = a ∧ o = some p ∧ s = some (.ref p) ∧ W p = none ∧ H0 p = none ∧ H p = some (.ins C dx fs) ∧ H dx = some (.own p) ∧ H0 dx = none ∧ fs.map Prod.fst = ns ∧ RepAll K W (fs.map Prod.snd) ds ∧ ns.length ≤ 100
  | .bor q ks ds, s => o = some q ∧ s = some (.ref q) ∧ W q = none ∧ ∃ od kvs, H q = some (.frz od (.dK kvs)) ∧ kvs.map Prod.fst = ks ∧ RepAll K W (kvs.map Prod.snd) ds ∧ kvs.length ≤ sizeLine
  | .dit ks ds, s => ∃ p kvs, o = some p ∧ s = some (.ref p) ∧ W p = none ∧ H0 p = none ∧ H p = some (.dT kvs) ∧ kvs.map Prod.fst = ks ∧ RepAll K W (kvs.map Prod.snd) ds ∧ kvs.length ≤ sizeLine
structure Sat (K : PySem.W.Frag) (W0 H0 W : Hp) (ρ : Env) (σ : L2.St) (H : Hp) : Prop where
  ex : Ex W0 H0 W H
  len : σ.length = ρ.length
  rep : ∃ oa : Nat → Option Addr, (∀ i j p, oa i = some p → oa j = some p → i = j) ∧ ∀ i b, ρ[i]? = some b → ∃ s, σ[i]? = some s ∧ BRep K H0 W H (oa i) b s
section
variable {K : PySem.W.Frag} {W0 H0 W H W' H' : Hp} {ρ : Env} {σ : L2.St} {i : Nat}
theorem BRep.ext {o : Option Addr} {b : B} {s : Option V} (e : Ex W H W' H') (h : BRep K H0 W H o b s) : BRep K H0 W' H' o b s := by
  have hid : ∀ {p : Addr} {u : HO}, (∀ vs, u ≠ .tup vs) → W p = none → H p = some u → W' p = none := fun hu hw hp => e.hide hw hp hu
  cases b with
  | un => exact h
  | val d =>
    obtain ⟨h1, v, h2, h3⟩ := h
    exact ⟨h1, v, h2, h3.gx e.w⟩
  | lst ds =>
    obtain ⟨p, vs, h1, h2, h3, h4, h5, h6, h7⟩ := h
    exact ⟨p, vs, h1, h2, hid (fun _ z => by cases z) h3 h5, h4, e.h _ _ h5, h6.gx e.w, h7⟩
  | dic ks ds =>
    obtain ⟨p, vs, h1, h2, h3, h4, h5, h6, h7, h8⟩ := h
    exact ⟨p, vs, h1, h2, hid (fun _ z => by cases z) h3 h5, h4, e.h _ _ h5, h6, h7.gx e.w, h8⟩
  | obj a C ns ds =>
    obtain ⟨p, dx, vs, h0, h1, h2, h3, h4, h5, h6, h7, h8, h9⟩ := h
    exact ⟨p, dx, vs, h0, h1, h2, hid (fun _ z => by cases z) h3 h5, h4, e.h _ _ h5, e.h _ _ h6, h7, h8, h9.1.gx e.w, h9.2⟩
  | bor q ks ds =>
    obtain ⟨h1, h2, h3, od, kvs, h5, h6, h7, h8⟩ := h
    exact ⟨h1, h2, hid (fun _ z => by cases z) h3 h5, od, kvs, e.h _ _ h5, h6, h7.gx e.w, h8⟩
  | dit ks ds =>
    obtain ⟨p, vs, h1, h2, h3, h4, h5, h6, h7, h8⟩ := h
    exact ⟨p, vs, h1, h2, hid (fun _ z => by cases z) h3 h5, h4, e.h _ _ h5, h6, h7.gx e.w, h8⟩
theorem Sat.ext (h : Sat K W0 H0 W ρ σ H) (e : Ex W H W' H') : Sat K W0 H0 W' ρ σ H' := ⟨h.ex.trans e, h.len, by
  obtain ⟨oa, h1, h2⟩ := h.rep
  refine ⟨oa, h1, fun i b hb => ?_⟩
  obtain ⟨s, h3, h4⟩ := h2 i b hb
  exact ⟨s, h3, h4.ext e⟩⟩
theorem Sat.see (h : Sat K W0 H0 W ρ σ H) : Gx W H := h.ex.s
theorem Sat.val (h : Sat K W0 H0 W ρ σ H) {d : D} (hi : ρ[i]? = some (.val d)) : ∃ v, σ[i]? = some (some v) ∧ Rep K W v d := by
  obtain ⟨oa, _, h2⟩ := h.rep
  obtain ⟨s, h3, _, v, h4, h5⟩ := h2 i _ hi
  exact ⟨v, by rw [h3, h4], h5⟩
theorem Sat.own (h : Sat K W0 H0 W ρ σ H) {ds : List D} (hi : ρ[i]? = some (.lst ds)) : ∃ p vs, σ[i]? = some (some (.ref p)) ∧ W p = none ∧ H0 p = none ∧ H p = some (.lst vs) ∧ RepAll K W vs ds ∧ vs.length ≤ sizeLine := by
  obtain ⟨oa, _, h2⟩ := h.rep
  obtain ⟨s, h3, p, vs, _, h4, h5⟩ := h2 i _ hi
  exact ⟨p, vs, by rw [h3, h4], h5⟩
def setO (oa : Nat → Option Addr) (i : Nat) (o : Option Addr) : Nat → Option Addr := fun j => if j = i then o else oa j
theorem jen {oa : Nat → Option Addr} {o : Option Addr} : setO oa i o i = o := if_pos rfl
theorem jff {oa : Nat → Option Addr} {o : Option Addr} {j : Nat} (h : j ≠ i) : setO oa i o j = oa j := if_neg h
/-- one slot anew: b with its own place o -/
theorem jfg {oa : Nat → Option Addr} {b : B} {s : Option V} {o : Option Addr} (ex : Ex W0 H0 W' H') (len : σ.length = ρ.length) (h1 : ∀ i j p, oa i = some p → oa j = some p → i = j) (hn : ∀ j p, o = some p → j ≠ i → j < ρ.length → oa j ≠ some p)
    (h2 : ∀ j b, j ≠ i → ρ[j]? = some b → ∃ s, σ[j]? = some s ∧ BRep K H0 W' H' (oa j) b s) (r : BRep K H0 W' H' o b s) : Sat K W0 H0 W' (ρ.set i b) (σ.set i s) H' := ⟨ex, by rw [List.length_set, List.length_set]; exact len, by
  refine ⟨fun j => if j < ρ.length then setO oa i o j else none, fun a c p ha hc => ?_, fun j b' hb => ?_⟩
  · dsimp only at ha hc
    by_cases la : a < ρ.length
    · rw [if_pos la] at ha
      by_cases lc : c < ρ.length
      · rw [if_pos lc] at hc
        by_cases qa : a = i
        · rw [qa, jen] at ha
          by_cases qc : c = i
          · rw [qa, qc]
          · rw [jff qc] at hc
            exact absurd hc (hn c p ha qc lc)
        · rw [jff qa] at ha
          by_cases qc : c = i
          · rw [qc, jen] at hc
            exact absurd ha (hn a p hc qa la)
          · rw [jff qc] at hc
            exact h1 a c p ha hc
      · rw [if_neg lc] at hc; cases hc
    · rw [if_neg la] at ha; cases ha
  · have hj : j < ρ.length := by
      have := (List.getElem?_eq_some_iff.mp hb).1
      rw [List.length_set] at this
      exact this
    dsimp only
    rw [if_pos hj]
    by_cases q : j = i
    · subst q
      rw [List.getElem?_set_self hj] at hb
      cases hb
      rw [jen]
      exact ⟨s, by rw [List.getElem?_set_self (by rw [len]; exact hj)], r⟩
    · rw [List.getElem?_set_ne (Ne.symm q)] at hb
      obtain ⟨s', h3, h4⟩ := h2 j b' q hb
      rw [jff q]
      exact ⟨s', by rw [List.getElem?_set_ne (Ne.symm q)]; exact h3, h4⟩⟩
/-- a value stored -/
theorem Sat.set (h : Sat K W0 H0 W ρ σ H) {v : V} {d : D} (r : Rep K W v d) : Sat K W0 H0 W (ρ.set i (.val d)) (σ.set i (some v)) H := by
  obtain ⟨oa, h1, h2⟩ := h.rep
  exact jfg (o := none) h.ex h.len h1 (fun _ _ z => by cases z) (fun j b _ hb => h2 j b hb) ⟨rfl, v, rfl, r⟩
theorem Sat.wipe1 (h : Sat K W0 H0 W ρ σ H) : Sat K W0 H0 W (ρ.set i .un) (σ.set i none) H := by
  obtain ⟨oa, h1, h2⟩ := h.rep
  exact jfg (o := none) h.ex h.len h1 (fun _ _ z => by cases z) (fun j b _ hb => h2 j b hb) rfl
theorem BRep.place {o : Option Addr} {p : Addr} {b : B} {s : Option V} (h : BRep K H0 W H o b s) (e : o = some p) : (∃ u, H p = some u) ∧ W p = none := by
  cases b with
  | un => rw [show o = none from h] at e; cases e
  | val d => rw [h.1] at e; cases e
  | lst ds =>
    obtain ⟨q, vs, h1, h2, h3, h4, h5, _⟩ := h
    rw [h1] at e; cases e
    exact ⟨⟨_, h5⟩, h3⟩
  | dic ks ds =>
    obtain ⟨q, vs, h1, h2, h3, h4, h5, _⟩ := h
    rw [h1] at e; cases e
    exact ⟨⟨_, h5⟩, h3⟩
  | obj a C ns ds =>
    obtain ⟨q, dx, vs, _, h1, h2, h3, h4, h5, _⟩ := h
    rw [h1] at e; cases e
    exact ⟨⟨_, h5⟩, h3⟩
  | bor q ks ds =>
    obtain ⟨h1, h2, h3, od, kvs, h5, _⟩ := h
    rw [h1] at e; cases e
    exact ⟨⟨_, h5⟩, h3⟩
  | dit ks ds =>
    obtain ⟨q, vs, h1, h2, h3, h4, h5, _⟩ := h
    rw [h1] at e; cases e
    exact ⟨⟨_, h5⟩, h3⟩
/-- a new own thing stored -/
theorem Sat.put (h : Sat K W0 H0 W ρ σ H) {p : Addr} {b : B} (e : Ex W H W' H') (hp : H p = none) (r : BRep K H0 W' H' (some p) b (some (.ref p))) : Sat K W0 H0 W' (ρ.set i b) (σ.set i (some (.ref p))) H' := by
  obtain ⟨oa, h1, h2⟩ := h.rep
  refine jfg (o := some p) (h.ex.trans e) h.len h1 (fun j q z hj hl hq => ?_) (fun j b _ hb => ?_) r
  · cases z
    obtain ⟨s, _, h4⟩ := h2 j _ (List.getElem?_eq_getElem hl)
    obtain ⟨⟨u, h5⟩, _⟩ := h4.place hq
    rw [hp] at h5; cases h5
  · obtain ⟨s, h3, h4⟩ := h2 j b hb
    exact ⟨s, h3, h4.ext e⟩
/-- what an own thing's change leaves -/
theorem BRep.mut {o : Option Addr} {p : Addr} {u : HO} {b : B} {s : Option V} (h : BRep K H0 W H o b s) (ho : o ≠ some p) (hown : ∀ x, H p ≠ some (.own x)) : BRep K H0 W (upd H p u) o b s := by
  cases b with
  | un => exact h
  | val d => exact h
  | lst ds =>
    obtain ⟨q, vs, h1, h2, h3, h4, h5, h6⟩ := h
    exact ⟨q, vs, h1, h2, h3, h4, by rw [upd_ne (fun z => ho (by rw [h1, z]))]; exact h5, h6⟩
  | dic ks ds =>
    obtain ⟨q, vs, h1, h2, h3, h4, h5, h6⟩ := h
    exact ⟨q, vs, h1, h2, h3, h4, by rw [upd_ne (fun z => ho (by rw [h1, z]))]; exact h5, h6⟩
  | obj a C ns ds =>
    obtain ⟨q, dx, vs, h0, h1, h2, h3, h4, h5, h6, h7⟩ := h
    exact ⟨q, dx, vs, h0, h1, h2, h3, h4, by rw [upd_ne (fun z => ho (by rw [h1, z]))]; exact h5, by rw [upd_ne (fun z => hown q (by rw [← z]; exact h6))]; exact h6, h7⟩
  | bor q ks ds =>
    obtain ⟨h1, h2, h3, od, kvs, h5, h6⟩ := h
    exact ⟨h1, h2, h3, od, kvs, by rw [upd_ne (fun z => ho (by rw [h1, z]))]; exact h5, h6⟩
  | dit ks ds =>
    obtain ⟨q, vs, h1, h2, h3, h4, h5, h6⟩ := h
    exact ⟨q, vs, h1, h2, h3, h4, by rw [upd_ne (fun z => ho (by rw [h1, z]))]; exact h5, h6⟩
theorem Ex.mut {p : Addr} {u : HO} (e : Ex W0 H0 W H) (h0 : H0 p = none) (hw : W p = none) : Ex W0 H0 W (upd H p u) := ⟨e.h.mut h0, e.w, fun a o h => by
  by_cases q : a = p
  · subst q
    rw [hw] at h; cases h
  · rw [upd_ne q]
    exact e.s _ _ h, e.n⟩
/-- an own list changed -/
theorem Sat.chg (h : Sat K W0 H0 W ρ σ H) {ds es : List D} {p : Addr} {us : List V} (hi : ρ[i]? = some (.lst ds)) (hs : σ[i]? = some (some (.ref p))) (r : RepAll K W us es) (hn : us.length ≤ sizeLine) : Sat K W0 H0 W (ρ.set i (.lst es)) σ (upd H p (.lst us)) := by
  obtain ⟨oa, h1, h2⟩ := h.rep
  obtain ⟨s, h3, q, vs, h4, h5, h6, h7, h8, _⟩ := h2 i _ hi
  have hq : q = p := by
    rw [h3, h5] at hs
    cases hs
    rfl
  subst hq
  have hσ : σ.set i (some (.ref q)) = σ := by
    apply List.ext_getElem?
    intro j
    by_cases e : j = i
    · subst e
      rw [List.getElem?_set_self (List.getElem?_eq_some_iff.mp hs).1, hs]
    · rw [List.getElem?_set_ne (Ne.symm e)]
  rw [← hσ]
  refine jfg (o := some q) (Ex.mut h.ex h7 h6) h.len h1 (fun j p z hj _ hp => ?_) (fun j b hj hb => ?_) ⟨q, us, rfl, rfl, h6, h7, upd_same, r, hn⟩
  · cases z
    exact hj (h1 j i q hp h4)
  · obtain ⟨s', h9, h10⟩ := h2 j b hb
    exact ⟨s', h9, h10.mut (fun z => hj (h1 j i q z h4)) fun x z => by rw [h8] at z; cases z⟩
end
end Pu
namespace Pu
open PySem PySem.Spec PyProof.Rows L2 Ly
inductive Exn where
  | bare (C : Addr)
  | kept (C : Addr) (ns : List Str) (ds : List D)
inductive XRep (K : PySem.W.Frag) (W : Hp) : Exn → Value → Option Addr → Prop
  | bare (C : Addr) : XRep K W (.bare C) (.ref C) none
  | kept {C a : Addr} {fs : List (Str × V)} {ns : List Str} {ds : List D} : W a = some (.xd fs) → fs.map Prod.fst = ns → RepAll K W (fs.map Prod.snd) ds → XRep K W (.kept C ns ds) (.ref C) (some a)
def XC (K : PySem.W.Frag) (E : XK) (W H : Hp) (Z : Exn → Prop) : Prop := ∀ x cls dd W' H', Ex W H W' H' → XRep K W' x cls dd → Z x → E cls dd H'
theorem XC.ext {K : PySem.W.Frag} {E : XK} {W H W' H' : Hp} {Z : Exn → Prop} (h : XC K E W H Z) (e : Ex W H W' H') : XC K E W' H' Z := fun x cls dd W2 H2 e2 => h x cls dd W2 H2 (e.trans e2)
inductive RepT (K : PySem.W.Frag) (W H : Hp) : V → D → Prop
  | val {v : V} {d : D} : Rep K W v d → RepT K W H v d
  | lst {a : Addr} {vs : List V} {ds : List D} : H a = some (.lst vs) → RepAll K W vs ds → vs.length ≤ sizeLine → RepT K W H (.ref a) (.lst ds)
  | dic {a : Addr} {kvs : List (Key × V)} {ks : List Key} {ds : List D} : Rd H a (.dK kvs) → kvs.map Prod.fst = ks → RepAll K W (kvs.map Prod.snd) ds → kvs.length ≤ sizeLine → RepT K W H (.ref a) (.dic ks ds)
  | obj {a C dx : Addr} {fs : List (Str × V)} {ns : List Str} {ds : List D} : H a = some (.ins C dx fs) → fs.map Prod.fst = ns → RepAll K W (fs.map Prod.snd) ds → RepT K W H (.ref a) (.obj C ns ds)
  | dit {a : Addr} {kvs : List (List Key × V)} {ks : List (List Key)} {ds : List D} : Rd H a (.dT kvs) → kvs.map Prod.fst = ks → RepAll K W (kvs.map Prod.snd) ds → kvs.length ≤ sizeLine → RepT K W H (.ref a) (.dit ks ds)
inductive RepTs (K : PySem.W.Frag) (W H : Hp) : List V → List D → Prop
  | nil : RepTs K W H [] []
  | cons {v : V} {vs : List V} {d : D} {ds : List D} : RepT K W H v d → RepTs K W H vs ds → RepTs K W H (v :: vs) (d :: ds)
section
variable {K : PySem.W.Frag} {W H W' H' : Hp}
theorem RepT.full {v : V} {d : D} (s : Gx W H) (h : RepT K W H v d) : Rep K H v d := by
  cases h with
  | val h => exact h.gx s
  | lst h hs n => exact .lst h (hs.gx s) n
  | dic h k hs n => exact .dic h k (hs.gx s) n
  | obj h k hs => exact .obj h k (hs.gx s)
  | dit h k hs n => exact .dit h k (hs.gx s) n
theorem RepT.ext {v : V} {d : D} (e : Ex W H W' H') (h : RepT K W H v d) : RepT K W' H' v d := by
  cases h with
  | val h => exact .val (h.gx e.w)
  | lst h hs n => exact .lst (e.h _ _ h) (hs.gx e.w) n
  | dic h k hs n => exact .dic (e.h.rd h) k (hs.gx e.w) n
  | obj h k hs => exact .obj (e.h _ _ h) k (hs.gx e.w)
  | dit h k hs n => exact .dit (e.h.rd h) k (hs.gx e.w) n
theorem RepTs.ext {vs : List V} {ds : List D} (e : Ex W H W' H') (h : RepTs K W H vs ds) : RepTs K W' H' vs ds := by
  induction h with
  | nil => exact .nil
  | cons h _ ih => exact .cons (h.ext e) ih
theorem RepAll.ts {vs : List V} {ds : List D} : ∀ {vs : List V} {ds : List D}, RepAll K W vs ds → RepTs K W H vs ds
  | _, _, .nil => .nil
  | _, _, .cons h hs => .cons (.val h) (RepAll.ts (vs := []) (ds := []) hs)
/-- a sequence's items -/
theorem RepT.lst_inv {v : V} {ds : List D} (s : Gx W H) (h : RepT K W H v (.lst ds)) : ∃ a vs, v = .ref a ∧ H a = some (.lst vs) ∧ RepAll K W vs ds ∧ vs.length ≤ sizeLine := by
  cases h with
  | val h =>
    cases h with
    | lst h hs n => exact ⟨_, _, rfl, s _ _ h, hs, n⟩
  | lst h hs n => exact ⟨_, _, rfl, h, hs, n⟩
theorem _root_.Pu.Rep.tupW {v : V} {ds : List D} (h : Rep K W v (.tup ds)) : ∃ a vs, v = .ref a ∧ SqT K W a vs ∧ RepAll K W vs ds ∧ vs.length ≤ sizeLine := by
  cases h with
  | tup h hs n => exact ⟨_, _, rfl, SqT.of h, hs, n⟩
  | tup0 h => exact ⟨_, _, rfl, h.sq, .nil, Nat.zero_le _⟩
theorem RepT.tup_inv {v : V} {ds : List D} (s : Gx W H) (h : RepT K W H v (.tup ds)) : ∃ a vs, v = .ref a ∧ SqT K H a vs ∧ RepAll K W vs ds ∧ vs.length ≤ sizeLine := by
  cases h with
  | val h =>
    cases h with
    | tup h hs n => exact ⟨_, _, rfl, SqT.of (s _ _ h), hs, n⟩
    | tup0 h => exact ⟨_, _, rfl, h.sq, .nil, Nat.zero_le _⟩
theorem RepT.dic_inv {v : V} {ks : List Key} {ds : List D} (s : Gx W H) (h : RepT K W H v (.dic ks ds)) : ∃ a kvs, v = .ref a ∧ Rd H a (.dK kvs) ∧ kvs.map Prod.fst = ks ∧ RepAll K W (kvs.map Prod.snd) ds ∧ kvs.length ≤ sizeLine := by
  cases h with
  | val h =>
    cases h with
    | dic h k hs n => exact ⟨_, _, rfl, s.rd h, k, hs, n⟩
  | dic h k hs n => exact ⟨_, _, rfl, h, k, hs, n⟩
theorem RepT.int_inv {v : V} {i : Int} (h : RepT K W H v (.int i)) : v = .int i := by
  cases h with
  | val h => cases h; rfl
theorem RepT.str_inv {v : V} {i : Str} (h : RepT K W H v (.str i)) : v = .str i := by
  cases h with
  | val h => cases h; rfl
theorem RepT.bl_inv {v : V} {i : Bool} (h : RepT K W H v (.bl i)) : v = .bl i := by
  cases h with
  | val h => cases h; rfl
theorem RepT.non_inv {v : V} (h : RepT K W H v .non) : v = .non := by
  cases h with
  | val h => cases h; rfl
/-- items of a list or a tuple -/
def seqD : D → Option (List D)
  | .lst ds => some ds
  | .tup ds => some ds
  | _ => none
theorem RepT.seq_inv {v : V} {d : D} {ds : List D} (s : Gx W H) (h : RepT K W H v d) (hd : seqD d = some ds) : ∃ a vs, v = .ref a ∧ (SqL K H a vs ∨ SqT K H a vs) ∧ RepAll K W vs ds ∧ vs.length ≤ sizeLine := by
  cases d with
  | lst es =>
    cases hd
    obtain ⟨a, vs, h1, h2, h3⟩ := h.lst_inv s
    exact ⟨a, vs, h1, .inl (SqL.of h2), h3⟩
  | tup es =>
    cases hd
    obtain ⟨a, vs, h1, h2, h3⟩ := h.tup_inv s
    exact ⟨a, vs, h1, .inr h2, h3⟩
  | _ => cases hd
end
abbrev ZX := Exn → Prop
abbrev FE := Env → (D → Prop) → ZX → Prop
abbrev FT := Env → (Bool → Prop) → ZX → Prop
abbrev FA := Env → (List D → Prop) → ZX → Prop
def tD (K : PySem.W.Frag) (E : XK) (F : FE) : TE := fun σ H Qh => ∃ W0 H0 W ρ Q Z, Sat K W0 H0 W ρ σ H ∧ F ρ Q Z ∧ (∀ v W' H' d, Ex W H W' H' → Rep K W' v d → Q d → Qh v H') ∧ XC K E W H Z
def tDT (K : PySem.W.Frag) (E : XK) (F : FE) : TE := fun σ H Qh => ∃ W0 H0 W ρ Q Z, Sat K W0 H0 W ρ σ H ∧ F ρ Q Z ∧ (∀ v W' H' d, Ex W H W' H' → RepT K W' H' v d → Q d → Qh v H') ∧ XC K E W H Z
def tDN (K : PySem.W.Frag) (E : XK) (F : FA) : TE := fun σ H Qh => ∃ W0 H0 W ρ Q Z, Sat K W0 H0 W ρ σ H ∧ F ρ Q Z ∧
  (∀ p vs W' H' ds, Ex W H W' H' → H p = none → W' p = none → H' p = some (.lst vs) → RepAll K W' vs ds → vs.length ≤ sizeLine → Q ds → Qh (.ref p) H') ∧ XC K E W H Z
def tDB (K : PySem.W.Frag) (E : XK) (F : FT) : TT := fun σ H Qh => ∃ W0 H0 W ρ Q Z, Sat K W0 H0 W ρ σ H ∧ F ρ Q Z ∧ (∀ b W' H', Ex W H W' H' → Q b → Qh b H') ∧ XC K E W H Z
def tDA (K : PySem.W.Frag) (E : XK) (F : FA) : TA := fun σ H Qh => ∃ W0 H0 W ρ Q Z, Sat K W0 H0 W ρ σ H ∧ F ρ Q Z ∧ (∀ vs W' H' ds, Ex W H W' H' → RepAll K W' vs ds → Q ds → Qh vs H') ∧ XC K E W H Z
def tDAT (K : PySem.W.Frag) (E : XK) (F : FA) : TA := fun σ H Qh => ∃ W0 H0 W ρ Q Z, Sat K W0 H0 W ρ σ H ∧ F ρ Q Z ∧ (∀ vs W' H' ds, Ex W H W' H' → RepTs K W' H' vs ds → Q ds → Qh vs H') ∧ XC K E W H Z
theorem _root_.L2.PE.mono {X : Cx} {e : Expr} {t u : TE} (h : PE X e t) (m : ∀ σ H Q, u σ H Q → t σ H Q) : PE X e u := ⟨fun pins s σ H Q I q => h.run pins s σ H Q I (m _ _ _ q)⟩
theorem _root_.L2.PT.mono {X : Cx} {e : Expr} {t u : TT} (h : PT X e t) (m : ∀ σ H Q, u σ H Q → t σ H Q) : PT X e u := ⟨fun pins s σ H Q I q => h.run pins s σ H Q I (m _ _ _ q)⟩
theorem _root_.L2.PW.mono {X : Cx} {e : Expr} {t u : TT} (h : PW X e t) (m : ∀ σ H Q, u σ H Q → t σ H Q) : PW X e u := ⟨fun wh pins s σ H Q I q => h.run wh pins s σ H Q I (m _ _ _ q)⟩
theorem _root_.L2.PA.mono {X : Cx} {e : List Expr} {t u : TA} (h : PA X e t) (m : ∀ σ H Q, u σ H Q → t σ H Q) : PA X e u := ⟨fun pos pins s σ H Q I q => h.run pos pins s σ H Q I (m _ _ _ q)⟩
def bD : B → Option D
  | .val d => some d
  | .lst ds => some (.lst ds)
  | .dic ks ds => some (.dic ks ds)
  | .obj _ C ns ds => some (.obj C ns ds)
  | .bor _ ks ds => some (.dic ks ds)
  | .dit ks ds => some (.dit ks ds)
  | .un => none
def fVar (i : Nat) : FE := fun ρ Q _ => ∃ d, ρ[i]? = some (.val d) ∧ Q d
def fVarT (i : Nat) : FE := fun ρ Q _ => ∃ b d, ρ[i]? = some b ∧ bD b = some d ∧ Q d
def fC (d : D) : FE := fun _ Q _ => Q d
section
variable {X : Cx} {K : PySem.W.Frag} {E : XK} {F G : FE} {N : FA} {e a b : Expr} {i : Nat} {pos : Pos}
theorem d_var {x : Str} (h : PE X (.Name x pos) (tVar i)) : PE X (.Name x pos) (tD K E (fVar i)) := h.mono fun σ H Qh ⟨W0, H0, W, ρ, Q, Z, st, ⟨d, hi, q⟩, k, _⟩ => by
  obtain ⟨v, h1, h2⟩ := st.val hi
  exact ⟨v, h1, k v W H d (Ex.refl st.see) h2 q⟩
theorem jaA {x : Str} (h : PE X (.Name x pos) (tVar i)) : PE X (.Name x pos) (tDT K E (fVarT i)) := h.mono fun σ H Qh ⟨W0, H0, W, ρ, Q, Z, st, ⟨b, d, hi, hd, q⟩, k, _⟩ => by
  obtain ⟨oa, _, h2⟩ := st.rep
  obtain ⟨s, h3, h4⟩ := h2 i b hi
  cases b with
  | un => cases hd
  | val d' =>
    cases hd
    obtain ⟨_, v, h5, h6⟩ := h4
    exact ⟨v, by rw [h3, h5], k v W H d (Ex.refl st.see) (.val h6) q⟩
  | lst ds =>
    cases hd
    obtain ⟨p, vs, _, h5, _, _, h6, h7, h8⟩ := h4
    exact ⟨.ref p, by rw [h3, h5], k _ W H _ (Ex.refl st.see) (.lst h6 h7 h8) q⟩
  | dic ks ds =>
    cases hd
    obtain ⟨p, vs, _, h5, _, _, h6, h7, h8, h9⟩ := h4
    exact ⟨.ref p, by rw [h3, h5], k _ W H _ (Ex.refl st.see) (.dic (.inl h6) h7 h8 h9) q⟩
  | obj a C ns ds =>
    cases hd
    obtain ⟨p, dx, vs, _, _, h5, _, _, h6, _, _, h7, h8, _⟩ := h4
    exact ⟨.ref p, by rw [h3, h5], k _ W H _ (Ex.refl st.see) (.obj h6 h7 h8) q⟩
  | bor p ks ds =>
    cases hd
    obtain ⟨_, h5, _, od, kvs, h6, h7, h8, h9⟩ := h4
    exact ⟨.ref p, by rw [h3, h5], k _ W H _ (Ex.refl st.see) (.dic (.inr ⟨od, h6⟩) h7 h8 h9) q⟩
  | dit ks ds =>
    cases hd
    obtain ⟨p, vs, _, h5, _, _, h6, h7, h8, h9⟩ := h4
    exact ⟨.ref p, by rw [h3, h5], k _ W H _ (Ex.refl st.see) (.dit (.inl h6) h7 h8 h9) q⟩
theorem d_c {v : V} {d : D} (h : PE X e (tC v)) (r : ∀ W, Rep K W v d) : PE X e (tD K E (fC d)) := h.mono fun σ H Qh ⟨W0, H0, W, ρ, Q, Z, st, q, k, _⟩ => k v W H d (Ex.refl st.see) (r W) q
theorem d_int {n : Int} (h : PE X e (tC (.int n))) : PE X e (tD K E (fC (.int n))) := d_c h fun _ => .int n
theorem d_str {n : Str} (h : PE X e (tC (.str n))) : PE X e (tD K E (fC (.str n))) := d_c h fun _ => .str n
theorem d_bl {n : Bool} (h : PE X e (tC (.bl n))) : PE X e (tD K E (fC (.bl n))) := d_c h fun _ => .bl n
theorem d_non (h : PE X e (tC .non)) : PE X e (tD K E (fC .non)) := d_c h fun _ => .non
/-- a value may be read -/
theorem d_t (h : PE X e (tD K E F)) : PE X e (tDT K E F) := h.mono fun σ H Qh ⟨W0, H0, W, ρ, Q, Z, st, f, k, x⟩ => ⟨W0, H0, W, ρ, Q, Z, st, f, fun v W' H' d e r q => k v W' H' d e (.val r) q, x⟩
/-- a new list is a value -/
def fNew (F : FA) : FE := fun ρ Q Z => F ρ (fun ds => Q (.lst ds)) Z
theorem d_n (h : PE X e (tDN K E N)) : PE X e (tD K E (fNew N)) := h.mono fun σ H Qh ⟨W0, H0, W, ρ, Q, Z, st, f, k, x⟩ => ⟨W0, H0, W, ρ, _, Z, st, f, fun p vs W' H' ds e hp hw h' r n q =>
  k _ _ H' _ (e.see hp hw h') (.lst upd_same (r.gx (Gx.new hw)) n) q, x⟩
theorem d_nt (h : PE X e (tDN K E N)) : PE X e (tDT K E (fNew N)) := d_t (d_n h)
/-- an operation by values -/
def RSnd (K : PySem.W.Frag) (r : R2) (R : D → D → (D → Prop) → Prop) : Prop := ∀ W H x y a b Q Qh, Gx W H → RepT K W H x a → RepT K W H y b → R a b Q → (∀ v W' H' d, Ex W H W' H' → Rep K W' v d → Q d → Qh v H') → r x y H Qh
def fOp (R : D → D → (D → Prop) → Prop) (F G : FE) : FE := fun ρ Q Z => F ρ (fun a => G ρ (fun b => R a b Q) Z) Z
theorem op_to {r : R2} {R : D → D → (D → Prop) → Prop} (hR : RSnd K r R) {σ : L2.St} {H : Hp} {Qh : VK} (h : tD K E (fOp R F G) σ H Qh) : tOp r (tDT K E F) (tDT K E G) σ H Qh := by
  obtain ⟨W0, H0, W, ρ, Q, Z, st, f, k, x⟩ := h
  refine ⟨W0, H0, W, ρ, _, Z, st, f, fun v W1 H1 d e1 r1 g => ?_, x⟩
  refine ⟨W0, H0, W1, ρ, _, Z, st.ext e1, g, fun v2 W2 H2 d2 e2 r2 q => ?_, x.ext e1⟩
  exact hR W2 H2 v v2 d d2 Q Qh e2.s (r1.ext e2) r2 q fun v3 W3 H3 d3 e3 r3 q3 => k v3 W3 H3 d3 ((e1.trans e2).trans e3) r3 q3
theorem d_op {op : Operator} {r : R2} {R : D → D → (D → Prop) → Prop} (ho : OpR X (binaryOp op) r) (hR : RSnd K r R) (ha : PE X a (tDT K E F)) (hb : PE X b (tDT K E G)) : PE X (.BinOp a op b pos) (tD K E (fOp R F G)) := (pe_op ho ha hb).mono fun _ _ _ h => op_to hR h
theorem d_cmp {op : CmpOp} {r : R2} {R : D → D → (D → Prop) → Prop} (ho : OpR X (compareOp op) r) (hR : RSnd K r R) (ha : PE X a (tDT K E F)) (hb : PE X b (tDT K E G)) (hm : behindInMarks op b = false) : PE X (.Compare a [op] [b] pos) (tD K E (fOp R F G)) := (pe_cmpR ho ha hb hm).mono fun _ _ _ h => op_to hR h
theorem d_ix {r : R2} {R : D → D → (D → Prop) → Prop} (hr : IxR X r) (hR : RSnd K r R) (ha : PE X a (tDT K E F)) (hb : PE X b (tDT K E G)) (hs : PlainIx b) : PE X (.Subscript a b pos) (tD K E (fOp R F G)) := (pe_ix hr ha hb hs).mono fun _ _ _ h => op_to hR h
/-- a value that is a truth value, as a test -/
def fTst (F : FE) : FT := fun ρ Q Z => F ρ (fun d => ∃ b, d = .bl b ∧ Q b) Z
theorem jko {σ : L2.St} {H : Hp} {Qh : Bool → Hp → Prop} (h : tDB K E (fTst F) σ H Qh) : tD K E F σ H fun x H1 => ∃ c, x = .bl c ∧ Qh c H1 := by
  obtain ⟨W0, H0, W, ρ, Q, Z, st, f, k, x⟩ := h
  refine ⟨W0, H0, W, ρ, _, Z, st, f, fun v W' H' d e r ⟨b, z, q⟩ => ?_, x⟩
  subst z
  cases r
  exact ⟨b, rfl, k b W' H' e q⟩
theorem jgE (h : PE X e (tD K E F)) (he : ∀ whole, isTrue e X.env whole = (do let v ← whole; standAt e.pos; holding [v] (truthy v)) := by intro _; rfl) : PT X e (tDB K E (fTst F)) := (pt_val h he).mono fun _ _ _ h => jko h
theorem jdR {op : CmpOp} {r : R2} {R : D → D → (D → Prop) → Prop} (ho : OpR X (compareOp op) r) (hR : RSnd K r R) (ha : PE X a (tDT K E F)) (hb : PE X b (tDT K E G)) (hm : behindInMarks op b = false) : PT X (.Compare a [op] [b] pos) (tDB K E (fTst (fOp R F G))) :=
  (pt_cmpR ho ha hb hm).mono fun σ H Qh h => op_to hR (jko h)
end
end Pu
namespace Pu
open PySem PySem.Spec PyProof.Rows L2 Ly
mutual
def toP : D → PyData
  | .non => .none
  | .bl b => .bool b
  | .int i => .int i
  | .str x => .str x
  | .lst ds => .list (toPs ds)
  | .tup ds => .tuple (toPs ds)
  | _ => .dict []
def toPs : List D → List PyData
  | [] => []
  | d :: ds => toP d :: toPs ds
end
mutual
theorem Rep.dp {K : PySem.W.Frag} {W : Hp} : ∀ {v : V} {d : D}, Rep K W v d → (toP d).canLay0 = true → Dp K W v (toP d)
  | _, _, .non, _ => .non
  | _, _, .bl b, _ => .bl b
  | _, _, .int i, _ => .int i
  | _, _, .str x, _ => .str x
  | _, _, .lst h hs _, z => .lst (SqL.of h) (RepAll.dp hs (by simpa [toP, PyData.canLay0] using z))
  | _, _, .tup h hs _, z => .tup (SqT.of h) (RepAll.dp hs (by simpa [toP, PyData.canLay0] using z))
  | _, _, .tup0 h, _ => .tup h.sq .nil
  | _, _, .dic .., z => by simp [toP, PyData.canLay0] at z
  | _, _, .obj .., z => by simp [toP, PyData.canLay0] at z
  | _, _, .dice .., z => by simp [toP, PyData.canLay0] at z
  | _, _, .cls .., z => by simp [toP, PyData.canLay0] at z
  | _, _, .exn .., z => by simp [toP, PyData.canLay0] at z
  | _, _, .lsk .., z => by simp [toP, PyData.canLay0] at z
  | _, _, .dit .., z => by simp [toP, PyData.canLay0] at z
  | _, _, .exm .., z => by simp [toP, PyData.canLay0] at z
  | _, _, .exf .., z => by simp [toP, PyData.canLay0] at z
theorem RepAll.dp {K : PySem.W.Frag} {W : Hp} : ∀ {vs : List V} {ds : List D}, RepAll K W vs ds → PyData.canLayAll0 (toPs ds) = true → DpAll K W vs (toPs ds)
  | _, _, .nil, _ => .nil
  | _, _, .cons h hs, z => by
    rw [toPs, PyData.canLayAll0, Bool.and_eq_true] at z
    exact .cons (Rep.dp h z.1) (RepAll.dp hs z.2)
end
/-- may be compared as data -/
def shp (d : D) : Prop := SeqAt.shaped (toP d) = true
theorem jfh {d : D} (h : shp d) : (toP d).canLay0 = true := by
  unfold shp SeqAt.shaped at h
  rw [Bool.and_eq_true] at h
  exact h.1
/-- == of scalars -/
def sc : D → D → Option Bool
  | .int i, .int j => some (decide (i = j))
  | .str i, .str j => some (decide (i = j))
  | .bl i, .bl j => some (decide (i = j))
  | .non, .non => some true
  | .non, .int _ => some false | .int _, .non => some false | .non, .bl _ => some false | .bl _, .non => some false | .non, .str _ => some false | .str _, .non => some false
  | .int _, .str _ => some false | .str _, .int _ => some false | .bl _, .str _ => some false | .str _, .bl _ => some false
  | _, _ => none
def REq (a b : D) (Q : D → Prop) : Prop := match sc a b with
  | some c => Q (.bl c)
  | none => shp a ∧ shp b ∧ Q (.bl (PyData.eqv (toP a) (toP b)))
def RNe (a b : D) (Q : D → Prop) : Prop := match sc a b with
  | some c => Q (.bl (!c))
  | none => shp a ∧ shp b ∧ Q (.bl (!PyData.eqv (toP a) (toP b)))
section
variable {K : PySem.W.Frag} {X : Cx}
theorem sc_v {W H : Hp} {x y : V} {a b : D} {c : Bool} (r1 : RepT K W H x a) (r2 : RepT K W H y b) (h : sc a b = some c) : scal x y = true ∧ decide (x = y) = c := by
  cases a <;> cases b <;> first
    | (cases h; done)
    | skip
  all_goals
    first
    | (rw [r1.int_inv, r2.int_inv]; cases h; exact ⟨rfl, by simp⟩)
    | (rw [r1.str_inv, r2.str_inv]; cases h; exact ⟨rfl, by simp⟩)
    | (rw [r1.bl_inv, r2.bl_inv]; cases h; exact ⟨rfl, by simp⟩)
    | (rw [r1.non_inv, r2.non_inv]; cases h; exact ⟨rfl, by simp⟩)
    | (rw [r1.non_inv, r2.int_inv]; cases h; exact ⟨rfl, by simp⟩)
    | (rw [r1.int_inv, r2.non_inv]; cases h; exact ⟨rfl, by simp⟩)
    | (rw [r1.non_inv, r2.bl_inv]; cases h; exact ⟨rfl, by simp⟩)
    | (rw [r1.bl_inv, r2.non_inv]; cases h; exact ⟨rfl, by simp⟩)
    | (rw [r1.non_inv, r2.str_inv]; cases h; exact ⟨rfl, by simp⟩)
    | (rw [r1.str_inv, r2.non_inv]; cases h; exact ⟨rfl, by simp⟩)
    | (rw [r1.int_inv, r2.str_inv]; cases h; exact ⟨rfl, by simp⟩)
    | (rw [r1.str_inv, r2.int_inv]; cases h; exact ⟨rfl, by simp⟩)
    | (rw [r1.bl_inv, r2.str_inv]; cases h; exact ⟨rfl, by simp⟩)
    | (rw [r1.str_inv, r2.bl_inv]; cases h; exact ⟨rfl, by simp⟩)
def rEqA (K : PySem.W.Frag) : R2 := fun x y H Q => rEq x y H Q ∨ rEqD K x y H Q
def rNeA (K : PySem.W.Frag) : R2 := fun x y H Q => rNe x y H Q ∨ rNeD K x y H Q
theorem jkp (hu : X.A.units + 64 < cLine) (hK : X.K = K := by rfl) : OpR X (compareOp .Eq) (rEqA K) := OpR.or op_eq (jkY hu hK)
theorem jdS (hu : X.A.units + 64 < cLine) (hK : X.K = K := by rfl) : OpR X (compareOp .NotEq) (rNeA K) := OpR.or op_ne (jkZ hu hK)
theorem s_eq : RSnd K (rEqA K) REq := fun W H x y a b Q Qh s r1 r2 h k => by
  unfold REq at h
  cases q : sc a b with
  | some c =>
    rw [q] at h
    obtain ⟨h1, h2⟩ := sc_v r1 r2 q
    refine .inl ⟨h1, ?_⟩
    rw [h2]
    exact k _ W H _ (Ex.refl s) (.bl c) h
  | none =>
    rw [q] at h
    obtain ⟨ha, hb, h⟩ := h
    exact .inr ⟨_, _, (r1.full s).dp (jfh ha), (r2.full s).dp (jfh hb), ha, hb, k _ W H _ (Ex.refl s) (.bl _) h⟩
theorem s_ne : RSnd K (rNeA K) RNe := fun W H x y a b Q Qh s r1 r2 h k => by
  unfold RNe at h
  cases q : sc a b with
  | some c =>
    rw [q] at h
    obtain ⟨h1, h2⟩ := sc_v r1 r2 q
    refine .inl ⟨h1, ?_⟩
    rw [h2]
    exact k _ W H _ (Ex.refl s) (.bl _) h
  | none =>
    rw [q] at h
    obtain ⟨ha, hb, h⟩ := h
    exact .inr ⟨_, _, (r1.full s).dp (jfh ha), (r2.full s).dp (jfh hb), ha, hb, k _ W H _ (Ex.refl s) (.bl _) h⟩
def RAdd : D → D → (D → Prop) → Prop
  | .int i, .int j, Q => Q (.int (i + j))
  | .str x, .str y, Q => x.length + y.length ≤ sizeLine ∧ Q (.str (x ++ y))
  | .lst x, .lst y, Q => x.length + y.length ≤ sizeLine ∧ Q (.lst (x ++ y))
  | .tup x, .tup y, Q => x.length + y.length ≤ sizeLine ∧ Q (.tup (x ++ y))
  | _, _, _ => False
def rAddS : R2 := fun x y H Q => ∃ i j, x = .str i ∧ y = .str j ∧ i.length + j.length ≤ sizeLine ∧ Q (.str (i ++ j)) H
def rAddA (K : PySem.W.Frag) : R2 := fun x y H Q => (rI0 (fun i j => .int (i + j)) x y H Q ∨ rAddS x y H Q) ∨ (rCat x y H Q ∨ rCatA K x y H Q)
theorem jaZ (hK : X.K = K := by rfl) : OpR X (binaryOp .Add) (rAddA K) := by
  subst hK
  exact OpR.or (OpR.or op_add op_add_str) (OpR.or op_cat op_catA)
theorem s_add : RSnd K (rAddA K) RAdd := fun W H x y a b Q Qh s r1 r2 h k => by
  cases a <;> cases b <;> first
    | exact h.elim
    | skip
  · exact .inl (.inl ⟨_, _, r1.int_inv, r2.int_inv, k _ W H _ (Ex.refl s) (.int _) h⟩)
  · exact .inl (.inr ⟨_, _, r1.str_inv, r2.str_inv, h.1, k _ W H _ (Ex.refl s) (.str _) h.2⟩)
  · obtain ⟨p, vs, e1, h1, h2, h3⟩ := r1.lst_inv s
    obtain ⟨q, us, e2, h4, h5, h6⟩ := r2.lst_inv s
    refine .inr (.inl ⟨p, q, vs, us, e1, e2, h1, h4, by rw [h2.len, h5.len]; exact h.1, fun l hl => k _ _ _ _ (Ex.new s hl) (.lst upd_same ((h2.app h5).gx (Gx.new (s.free hl))) ?_) h.2⟩)
    rw [List.length_append, h2.len, h5.len]
    exact h.1
  · obtain ⟨p, vs, e1, h1, h2, h3⟩ := r1.tup_inv s
    obtain ⟨q, us, e2, h4, h5, h6⟩ := r2.tup_inv s
    rename_i xs ys
    have hn : vs.length + us.length ≤ sizeLine := by rw [h2.len, h5.len]; exact h.1
    refine .inr (.inr ⟨p, q, vs, us, e1, e2, h1, h4, hn, fun z => ?_, fun _ z => ?_, fun _ _ l hl => k _ _ _ _ (Ex.new s hl) (.tup upd_same ((h2.app h5).gx (Gx.new (s.free hl))) (by rw [List.length_append]; exact hn)) h.2⟩)
    · subst z
      cases h2
      cases r2 with
      | val r2 =>
        subst e2
        exact k _ W H _ (Ex.refl s) r2 h.2
    · subst z
      cases h5
      cases r1 with
      | val r1 =>
        subst e1
        have h7 := h.2
        rw [List.append_nil] at h7
        exact k _ W H _ (Ex.refl s) r1 h7
def RI0 (g : Int → Int → D) : D → D → (D → Prop) → Prop
  | .int i, .int j, Q => Q (g i j)
  | _, _, _ => False
theorem s_I0 {f : Int → Int → V} {g : Int → Int → D} (hg : ∀ W i j, Rep K W (f i j) (g i j)) : RSnd K (rI0 f) (RI0 g) := fun W H x y a b Q Qh s r1 r2 h k => by
  cases a <;> cases b <;> first
    | exact h.elim
    | skip
  exact ⟨_, _, r1.int_inv, r2.int_inv, k _ W H _ (Ex.refl s) (hg W _ _) h⟩
abbrev RSub := RI0 fun i j => .int (i - j)
theorem s_sub : RSnd K (rI0 fun i j => .int (i - j)) RSub := s_I0 fun _ _ _ => .int _
/-- is None -/
def isN : D → Bool
  | .non => true
  | _ => false
def RIsN (a b : D) (Q : D → Prop) : Prop := b = .non ∧ Q (.bl (isN a))
def flD : D → Bool
  | .non => true
  | .bl _ => true
  | .int _ => true
  | .str _ => true
  | _ => false
def eqF : D → D → Bool
  | .non, .non => true
  | .bl a, .bl b => a == b
  | .bl a, .int b => (if a then 1 else 0) == b
  | .int a, .bl b => a == (if b then 1 else 0)
  | .int a, .int b => a == b
  | .str a, .str b => a == b
  | _, _ => false
/-- a flat value in a list or tuple of flat ones; data in a list of data; a sign in a text -/
def RIn (neg : Bool) (a b : D) (Q : D → Prop) : Prop := match b with
  | .lst ds => (flD a = true ∧ ds.all flD = true ∧ Q (.bl (neg != ds.any fun y => eqF y a))) ∨ (shp a ∧ shp b ∧ Q (.bl (neg != ds.any fun y => PyData.eqv (toP y) (toP a))))
  | .tup ds => flD a = true ∧ ds.all flD = true ∧ Q (.bl (neg != ds.any fun y => eqF y a))
  | .str z => ∃ x, a = .str x ∧ Q (.bl (neg != !(Builtin.Str.occurrences z x 0 z.length 1).isEmpty))
  | _ => False
def RIx : D → D → (D → Prop) → Prop
  | .lst ds, .int i, Q => ∃ d, atI ds i = some d ∧ Q d
  | .tup ds, .int i, Q => ∃ d, atI ds i = some d ∧ Q d
  | .str z, .int i, Q => z.length ≤ sizeLine ∧ ∃ c, atI z.cps.toList i = some c ∧ Q (.str ⟨#[c]⟩)
  | _, _, _ => False
def rIxA (K : PySem.W.Frag) : R2 := fun x y H Q => (rIxL K x y H Q ∨ rIxT K x y H Q) ∨ rIxS x y H Q
theorem ix_A (hK : X.K = K := by rfl) : IxR X (rIxA K) := by
  subst hK
  exact IxR.or (IxR.or ix_list ix_tup) ix_str
theorem at_v {W : Hp} {vs : List V} {ds : List D} {i : Int} {d : D} (r : RepAll K W vs ds) (h : atI ds i = some d) : ∃ v, atI vs i = some v ∧ Rep K W v d := by
  unfold atI at h ⊢
  rw [r.len]
  cases q : ixN ds.length i with
  | none => rw [q] at h; cases h
  | some j =>
    rw [q] at h
    exact r.getD h
theorem s_ix : RSnd K (rIxA K) RIx := fun W H x y a b Q Qh s r1 r2 h k => by
  cases a <;> cases b <;> first
    | exact h.elim
    | skip
  · obtain ⟨z, c, h1, h2⟩ := h
    exact .inr ⟨_, _, c, r1.str_inv, r2.int_inv, z, h1, k _ W H _ (Ex.refl s) (.str _) h2⟩
  · obtain ⟨p, vs, e1, h1, h2, h3⟩ := r1.lst_inv s
    obtain ⟨d, h4, h5⟩ := h
    obtain ⟨v, h6, h7⟩ := at_v h2 h4
    exact .inl (.inl ⟨p, vs, _, v, e1, r2.int_inv, SqL.of h1, h6, k _ W H _ (Ex.refl s) h7 h5⟩)
  · obtain ⟨p, vs, e1, h1, h2, h3⟩ := r1.tup_inv s
    obtain ⟨d, h4, h5⟩ := h
    obtain ⟨v, h6, h7⟩ := at_v h2 h4
    exact .inl (.inr ⟨p, vs, _, v, e1, r2.int_inv, h1, h6, k _ W H _ (Ex.refl s) h7 h5⟩)
end
end Pu
set_option maxHeartbeats 2000000
namespace Ly
open PySem PySem.Spec PyProof.Rows L2
open AutoSeq1 (wpAny_loadPart')
end Ly
namespace Pu
open PySem PySem.Spec PyProof.Rows L2 Ly
section
variable {X : Cx} {K : PySem.W.Frag} {E : XK} {F G L : FE} {N : FA} {T U : FT} {A A' : FA} {e a b c : Expr} {es rest : List Expr} {i : Nat} {pos : Pos}
def fAnd (T U : FT) : FT := fun ρ Q Z => T ρ (fun c => if c = true then U ρ Q Z else Q false) Z
def fOr (T U : FT) : FT := fun ρ Q Z => T ρ (fun c => if c = true then Q true else U ρ Q Z) Z
def fNot (T : FT) : FT := fun ρ Q Z => T ρ (fun c => Q (!c)) Z
theorem d_or1 (h : PT X a (tDB K E T)) : PW X (.BoolOp .Or [a] pos) (tDB K E T) := pw_or1 h
theorem d_or (ha : PT X a (tDB K E T)) (hb : PW X (.BoolOp .Or (b :: rest) pos) (tDB K E U)) : PW X (.BoolOp .Or (a :: b :: rest) pos) (tDB K E (fOr T U)) := (pw_or ha hb).mono fun σ H Qh ⟨W0, H0, W, ρ, Q, Z, st, f, k, x⟩ =>
  ⟨W0, H0, W, ρ, _, Z, st, f, fun c W1 H1 e1 q => by
    cases c with
    | true =>
      rw [if_pos rfl] at q
      exact iteT (k true W1 H1 e1 q)
    | false =>
      rw [if_neg (by decide)] at q
      exact iteF ⟨W0, H0, W1, ρ, Q, Z, st.ext e1, q, fun c W2 H2 e2 q2 => k c W2 H2 (e1.trans e2) q2, x.ext e1⟩, x⟩
theorem d_not (h : PT X a (tDB K E T)) : PT X (.UnaryOp .Not a pos) (tDB K E (fNot T)) := (pt_not h).mono fun σ H Qh ⟨W0, H0, W, ρ, Q, Z, st, f, k, x⟩ => ⟨W0, H0, W, ρ, _, Z, st, f, fun c W1 H1 e1 q => k _ W1 H1 e1 q, x⟩
def fIf (T : FT) (F G : FE) : FE := fun ρ Q Z => T ρ (fun c => if c = true then F ρ Q Z else G ρ Q Z) Z
theorem d_if (hc : PT X c (tDB K E T)) (ha : PE X a (tD K E F)) (hb : PE X b (tD K E G)) : PE X (.IfExp c a b pos) (tD K E (fIf T F G)) := (pe_ifExp hc ha hb).mono fun σ H Qh ⟨W0, H0, W, ρ, Q, Z, st, f, k, x⟩ =>
  ⟨W0, H0, W, ρ, _, Z, st, f, fun c W1 H1 e1 q => by
    cases c with
    | true =>
      rw [if_pos rfl] at q
      exact iteT ⟨W0, H0, W1, ρ, Q, Z, st.ext e1, q, fun c W2 H2 d e2 r2 q2 => k c W2 H2 d (e1.trans e2) r2 q2, x.ext e1⟩
    | false =>
      rw [if_neg (by decide)] at q
      exact iteF ⟨W0, H0, W1, ρ, Q, Z, st.ext e1, q, fun c W2 H2 d e2 r2 q2 => k c W2 H2 d (e1.trans e2) r2 q2, x.ext e1⟩, x⟩
def jfq (R R' : D → D → (D → Prop) → Prop) (F G L : FE) : FE := fun ρ Q Z => F ρ (fun a => G ρ (fun b => R a b fun z => ∃ k, z = .bl k ∧ if k = true then L ρ (fun c => R' b c Q) Z else Q (.bl false)) Z) Z
def fNil : FA := fun _ Q _ => Q []
def fCons (F : FE) (A : FA) : FA := fun ρ Q Z => F ρ (fun d => A ρ (fun ds => Q (d :: ds)) Z) Z
theorem d_nil : PA X [] (tDA K E fNil) := pa_nil.mono fun σ H Qh ⟨W0, H0, W, ρ, Q, Z, st, f, k, x⟩ => k [] W H [] (Ex.refl st.see) .nil f
theorem jdT : PA X [] (tDAT K E fNil) := pa_nil.mono fun σ H Qh ⟨W0, H0, W, ρ, Q, Z, st, f, k, x⟩ => k [] W H [] (Ex.refl st.see) .nil f
theorem jac (ha : PE X e (tD K E F)) (hr : PA X es (tDA K E A)) (hs : starEach (e :: es) X.env = (false, eval e X.env) :: starEach es X.env := by rfl) : PA X (e :: es) (tDA K E (fCons F A)) := (pa_cons ha hr hs).mono fun σ H Qh ⟨W0, H0, W, ρ, Q, Z, st, f, k, x⟩ =>
  ⟨W0, H0, W, ρ, _, Z, st, f, fun v W1 H1 d e1 r q => ⟨W0, H0, W1, ρ, _, Z, st.ext e1, q, fun vs W2 H2 ds e2 rs q2 => k _ W2 H2 _ (e1.trans e2) (.cons (r.gx e2.w) rs) q2, x.ext e1⟩, x⟩
theorem jbq (ha : PE X e (tDT K E F)) (hr : PA X es (tDAT K E A)) (hs : starEach (e :: es) X.env = (false, eval e X.env) :: starEach es X.env := by rfl) : PA X (e :: es) (tDAT K E (fCons F A)) := (pa_cons ha hr hs).mono fun σ H Qh ⟨W0, H0, W, ρ, Q, Z, st, f, k, x⟩ =>
  ⟨W0, H0, W, ρ, _, Z, st, f, fun v W1 H1 d e1 r q => ⟨W0, H0, W1, ρ, _, Z, st.ext e1, q, fun vs W2 H2 ds e2 rs q2 => k _ W2 H2 _ (e1.trans e2) (.cons (r.ext e2) rs) q2, x.ext e1⟩, x⟩
def fTup (A : FA) : FE := fun ρ Q Z => A ρ (fun ds => ds.length ≤ sizeLine ∧ Q (.tup ds)) Z
def fLst (A : FA) : FA := fun ρ Q Z => A ρ (fun ds => ds.length ≤ sizeLine ∧ Q ds) Z
theorem d_tup {x1} (h : PA X es (tDA K E A)) : PE X (.Tuple es x1 pos) (tD K E (fTup A)) := (pe_tup h).mono fun σ H Qh ⟨W0, H0, W, ρ, Q, Z, st, f, k, x⟩ => ⟨W0, H0, W, ρ, _, Z, st, f, fun vs W1 H1 ds e1 r ⟨n, q⟩ =>
  ⟨by rw [r.len]; exact n, fun p hp => k _ _ _ _ (e1.trans (Ex.new e1.s hp)) (.tup upd_same (r.gx (Gx.new (e1.s.free hp))) (by rw [r.len]; exact n)) q⟩, x⟩
theorem d_lst (h : PA X es (tDA K E A)) : PE X (.List es pos) (tDN K E (fLst A)) := (pe_lst h).mono fun σ H Qh ⟨W0, H0, W, ρ, Q, Z, st, f, k, x⟩ => ⟨W0, H0, W, ρ, _, Z, st, f, fun vs W1 H1 ds e1 r ⟨n, q⟩ =>
  ⟨by rw [r.len]; exact n, fun p hp => k p vs W1 _ ds (e1.trans (Ex.hid e1.s hp)) (e1.h.free hp) (e1.s.free hp) upd_same r (by rw [r.len]; exact n) q⟩, x⟩
abbrev FO := Env → (Option Int → Prop) → ZX → Prop
def oNo : FO := fun _ Q _ => Q none
def oAt (F : FE) : FO := fun ρ Q Z => F ρ (fun d => ∃ i, d = .int i ∧ Q (some i)) Z
theorem _root_.L2.PO.mono {X : Cx} {e : Option Expr} {t u : TO} (h : PO X e t) (m : ∀ σ H Q, u σ H Q → t σ H Q) : PO X e u := ⟨fun pins s σ H Q I q => h.run pins s σ H Q I (m _ _ _ q)⟩
def cutD (xs : List D) (lo hi : Option Int) : List D := (xs.drop (HT.sIx xs.length 0 lo)).take (HT.sIx xs.length xs.length hi - HT.sIx xs.length 0 lo)
def RSl (a : D) (lo hi : Option Int) (Q : D → Prop) : Prop := match a with
  | .lst ds => Q (.lst (cutD ds lo hi))
  | .tup ds => Q (.tup (cutD ds lo hi))
  | .str z => z.length ≤ sizeLine ∧ Q (.str (Txt.slice z lo hi))
  | _ => False
def fSl (F : FE) (O P : FO) : FE := fun ρ Q Z => F ρ (fun a => O ρ (fun lo => P ρ (fun hi => RSl a lo hi Q) Z) Z) Z
end
end Pu
namespace Pu
open PySem PySem.Spec PyProof.Rows L2 Ly RZ
/-- J walks ds while what is seen stays -/
def IterF (K : PySem.W.Frag) (W : Hp) (J : It) (ds : List D) : Prop := ∃ G Y, Walk J ds.length G Y ∧ (∀ H3, Gx W H3 → G H3) ∧
  ∀ i H3 x H4 W3, i < ds.length → Gx W W3 → Gx W3 H3 → Y i H3 x H4 → ∃ W4 d, ds[i]? = some d ∧ Ex W3 H3 W4 H4 ∧ Rep K W4 x d
/-- .. while all of the heap stays -/
def IterC (K : PySem.W.Frag) (W H : Hp) (J : It) (ds : List D) : Prop := ∃ G Y, Walk J ds.length G Y ∧ (∀ H3, Gx H H3 → G H3) ∧
  ∀ i H3 x H4 W3, i < ds.length → Gx H H3 → Gx W W3 → Gx W3 H3 → Y i H3 x H4 → ∃ W4 d, ds[i]? = some d ∧ Ex W3 H3 W4 H4 ∧ Rep K W4 x d
def tDI (K : PySem.W.Frag) (E : XK) (A : FA) : TI := fun σ H R => ∃ W0 H0 W ρ Q Z, Sat K W0 H0 W ρ σ H ∧ A ρ Q Z ∧ (∀ J W' H' ds, Ex W H W' H' → IterC K W' H' J ds → Q ds → R J H') ∧ XC K E W H Z
def tDF (K : PySem.W.Frag) (E : XK) (A : FA) : TI := fun σ H R => ∃ W0 H0 W ρ Q Z, Sat K W0 H0 W ρ σ H ∧ A ρ Q Z ∧ (∀ J W' H' ds, Ex W H W' H' → IterF K W' J ds → Q ds → R J H') ∧ XC K E W H Z
theorem _root_.L2.PI.mono {X : Cx} {tg e : Expr} {t u : TI} (h : PI X tg e t) (m : ∀ σ H R, u σ H R → t σ H R) : PI X tg e u := ⟨fun pins s σ H Q I q => h.run pins s σ H Q I (m _ _ _ q)⟩
section
variable {X : Cx} {K : PySem.W.Frag} {E : XK} {F G L : FE} {T U : FT} {A : FA} {tg e a b : Expr} {es : List Expr} {pos : Pos}
theorem jgt {W H : Hp} {p : Addr} {vs : List V} {ds : List D} (h : H p = some (.lst vs)) (r : RepAll K W vs ds) : IterC K W H (Itl K p) ds :=
  ⟨fun H => SqL K H p vs, YAt vs, by rw [← r.len]; exact walk_list, fun H3 e => SqL.of (e _ _ h), fun i H3 x H4 W3 hi _ e s y => by
    obtain ⟨rfl, hx⟩ := y
    obtain ⟨d, h1, h2⟩ := r.get hx
    exact ⟨W3, d, h1, Ex.refl s, h2.gx e⟩⟩
theorem jhU {W : Hp} {p : Addr} {vs : List V} {ds : List D} (h : SqT K W p vs) (r : RepAll K W vs ds) : IterF K W (Itt K p) ds :=
  ⟨fun H => SqT K H p vs, YAt vs, by rw [← r.len]; exact walk_tup, fun H3 e => e.t h, fun i H3 x H4 W3 hi e s y => by
    obtain ⟨rfl, hx⟩ := y
    obtain ⟨d, h1, h2⟩ := r.get hx
    exact ⟨W3, d, h1, Ex.refl s, h2.gx e⟩⟩
def jfr (z : Str) : List D := z.cps.toList.map fun c => .str ⟨#[c]⟩
theorem jhV {W : Hp} {z : Str} : IterF K W (Its z) (jfr z) :=
  ⟨_, _, by unfold jfr; rw [List.length_map, Array.length_toList]; exact walk_str (z := z), fun _ _ => trivial, fun i H3 x H4 W3 hi e s y => by
    obtain ⟨rfl, c, hc, rfl⟩ := y
    exact ⟨W3, .str ⟨#[c]⟩, by unfold jfr; rw [List.getElem?_map]; simp [hc], Ex.refl s, .str _⟩⟩
theorem IterF.c {W H : Hp} {J : It} {ds : List D} (s : Gx W H) (h : IterF K W J ds) : IterC K W H J ds := by
  obtain ⟨G, Y, h1, h2, h3⟩ := h
  exact ⟨G, Y, h1, fun H3 e => h2 H3 (s.trans e), fun i H3 x H4 W3 hi _ => h3 i H3 x H4 W3 hi⟩
def iAny (K : PySem.W.Frag) (tl : TE) : TI := fun σ H R => tl σ H fun x H1 => (∃ a, x = .ref a ∧ (∃ xs, SqL K H1 a xs) ∧ R (Itl K a) H1) ∨ (∃ a, x = .ref a ∧ (∃ xs, SqT K H1 a xs) ∧ R (Itt K a) H1) ∨ ∃ z, x = .str z ∧ R (Its z) H1
theorem pi_any {l : Expr} {tl : TE} (hl : PE X l tl) (hK : X.K = K := by rfl) : PI X tg l (iAny K tl) := by
  subst hK
  refine ⟨fun pins s σ H R I h => ?_⟩
  refine thn (hl.run pins s σ H _ I h) fun v s1 ⟨x, H1, I1, r1, q1⟩ => ?_
  rcases q1 with ⟨a, e, ⟨xs, hq⟩, q⟩ | ⟨a, e, ⟨xs, hq⟩, q⟩ | ⟨z, e, q⟩
  · subst e
    cases r1
    obtain ⟨its, rv, p, hz⟩ := I1.list hq
    refine wpAny_pyIter_list p.isList ?_
    refine ⟨s1.heap.objs.size, [s1.heap.objs.size], _, _, H1, rfl, I1.kept (t' := s1.toks) fun b o e => Heap.get?_push_of_some _ e, turn_list a _, ⟨_, Heap.get?_push_size _ rfl, rfl, rfl⟩, fun b hb => ?_, q⟩
    have e : b = s1.heap.objs.size := by simpa using hb
    subst e
    exact I1.fpOk (Nat.le_refl _) (I1.hok.fresh (Nat.le_refl _))
  · subst e
    cases r1
    obtain ⟨its, rv, p, hz⟩ := I1.tuple hq
    refine wpAny_pyIter_tuple (show s1.heap.IsTuple a its.toArray from p) ?_
    refine ⟨s1.heap.objs.size, [s1.heap.objs.size], _, _, H1, rfl, I1.kept (t' := s1.toks) fun b o e => Heap.get?_push_of_some _ e, turn_tuple a _, ⟨_, Heap.get?_push_size _ rfl, rfl, rfl⟩, fun b hb => ?_, q⟩
    have e : b = s1.heap.objs.size := by simpa using hb
    subst e
    exact I1.fpOk (Nat.le_refl _) (I1.hok.fresh (Nat.le_refl _))
  · subst e
    obtain ⟨t, rfl⟩ := r1
    cases ha : z.cps.all (· < 128)
    · exact wpAny_pyIter_wide ha (pi_one (tk := s1.toks) I1 _ (turn_str _ z t "str_iterator" (.inr rfl)) ⟨_, Heap.get?_push_size _ rfl, rfl, rfl⟩ q)
    · exact wpAny_pyIter_ascii ha (pi_one (tk := s1.toks) I1 _ (turn_str _ z t "str_ascii_iterator" (.inl rfl)) ⟨_, Heap.get?_push_size _ rfl, rfl, rfl⟩ q)
/-- the items of what is walked -/
def itD : D → Option (List D)
  | .lst ds => some ds
  | .tup ds => some ds
  | .str z => if z.length ≤ sizeLine then some (jfr z) else none
  | _ => none
def fIt (F : FE) : FA := fun ρ Q Z => F ρ (fun d => ∃ ds, itD d = some ds ∧ Q ds) Z
theorem d_itC (h : PE X e (tDT K E F)) (hK : X.K = K := by rfl) : PI X tg e (tDI K E (fIt F)) := (pi_any h hK).mono fun σ H R ⟨W0, H0, W, ρ, Q, Z, st, f, k, x⟩ => ⟨W0, H0, W, ρ, _, Z, st, f, fun v W1 H1 d e1 r ⟨ds, hd, q⟩ => (by
  cases d with
  | lst es =>
    cases hd
    obtain ⟨p, vs, h1, h2, h3, h4⟩ := r.lst_inv e1.s
    exact .inl ⟨p, h1, ⟨vs, SqL.of h2⟩, k _ W1 H1 _ e1 (jgt h2 h3) q⟩
  | tup es =>
    cases hd
    cases r with
    | val r =>
      obtain ⟨_, _, rfl, h2, h3, h4⟩ := r.tupW
      exact .inr (.inl ⟨_, rfl, ⟨_, e1.s.t h2⟩, k _ W1 H1 _ e1 ((jhU h2 h3).c e1.s) q⟩)
  | str z =>
    have hd : (if z.length ≤ sizeLine then some (jfr z) else none) = some ds := hd
    by_cases hz : z.length ≤ sizeLine
    · rw [if_pos hz] at hd
      cases hd
      exact .inr (.inr ⟨z, r.str_inv, k _ W1 H1 _ e1 (jhV.c e1.s) q⟩)
    · rw [if_neg hz] at hd
      cases hd
  | _ => cases hd), x⟩
/-- ranges -/
def rngD (lo : Int) (c : Int) (n : Nat) : List D := (List.range n).map fun k => .int (lo + (k : Nat) * c)
def fRng1 (A : FA) : FA := fun ρ Q Z => A ρ (fun as => ∃ j, as = [.int j] ∧ (-1000000 ≤ j ∧ j ≤ 1000000) ∧ Q (rngD 0 1 j.toNat)) Z
theorem jhW {W : Hp} {lo : Int} {n : Nat} : IterF K W (Itr lo n) (rngD lo 1 n) :=
  ⟨_, _, by unfold rngD; rw [List.length_map, List.length_range]; exact walk_range (lo := lo) (n := n), fun _ _ => trivial, fun i H3 x H4 W3 hi e s y => by
    obtain ⟨rfl, rfl⟩ := y
    have hi : i < n := by
      unfold rngD at hi
      rw [List.length_map, List.length_range] at hi
      exact hi
    refine ⟨W3, .int (lo + (i : Nat) * 1), by unfold rngD; rw [List.getElem?_map, List.getElem?_range hi]; rfl, Ex.refl s, ?_⟩
    rw [Int.mul_one]
    exact .int _⟩
theorem ints1 {W : Hp} {vs : List V} {i : Int} (r : RepAll K W vs [.int i]) : vs = [.int i] := by
  cases r with
  | cons r rs => cases r; cases rs; rfl
theorem jla {σ : L2.St} {H : Hp} {R : It → Hp → Prop} (h : tDF K E (fRng1 A) σ H R) : iRng1 (tDA K E A) σ H R := by
  obtain ⟨W0, H0, W, ρ, Q, Z, st, f, k, x⟩ := h
  refine ⟨W0, H0, W, ρ, _, Z, st, f, fun vs W1 H1 ds e1 r ⟨j, z, hb, q⟩ => ?_, x⟩
  subst z
  exact ⟨j, ints1 r, by omega, by omega, k _ W1 H1 _ e1 jhW q⟩
/-- what a for may walk, a comprehension may -/
theorem df_di {σ : L2.St} {H : Hp} {R : It → Hp → Prop} (h : tDI K E A σ H R) : tDF K E A σ H R := by
  obtain ⟨W0, H0, W, ρ, Q, Z, st, f, k, x⟩ := h
  exact ⟨W0, H0, W, ρ, Q, Z, st, f, fun J W' H' ds e i q => k J W' H' ds e (i.c e.s) q, x⟩
theorem d_fc (h : PI X tg e (tDF K E A)) : PI X tg e (tDI K E A) := h.mono fun _ _ _ q => df_di q
theorem jgF {p : Pos} (hg : Gl X "range") (hm : X.mg "range" = none) (ha : PA X [a] (tDA K E A)) (hs : starEach [a] X.env = [(false, eval a X.env)] := by rfl) : PI X tg (.Call (.Name "range" p) [a] [] pos) (tDF K E (fRng1 A)) := (pi_range1 hg hm ha hs).mono fun _ _ _ h => jla h
abbrev FG := D → Env → (Env → Prop) → Prop
/-- a target: the slots it stores are among vs -/
def GSnd (K : PySem.W.Frag) (gh : TG) (g : FG) (vs : List Nat) : Prop := ∀ W0 H0 W ρ σ H x d k Q, Sat K W0 H0 W ρ σ H → Rep K W x d → g d ρ k → (∀ ρ2 σ2, Sat K W0 H0 W ρ2 σ2 H → wipe σ2 vs = wipe σ vs → k ρ2 → Q σ2 H) → gh x σ H Q
def gN (i : Nat) : FG := fun d ρ k => k (ρ.set i (.val d))
def gT (is : List Nat) : FG := fun d ρ k => ∃ ds, d = .tup ds ∧ ds.length = is.length ∧ k ((is.zip ds).foldl (fun ρ p => ρ.set p.1 (.val p.2)) ρ)
theorem jfi {σ : L2.St} {x : Option V} {j : Nat} : ∀ {vs : List Nat}, j ∈ vs → wipe (σ.set j x) vs = wipe σ vs
  | [], h => by cases h
  | v :: vs, h => by
    by_cases hj : j ∈ vs
    · show (wipe (σ.set j x) vs).set v none = (wipe σ vs).set v none
      rw [jfi hj]
    · have hv : j = v := by
        rcases List.mem_cons.mp h with h | h
        · exact h
        · exact absurd h hj
      subst hv
      show (wipe (σ.set j x) vs).set j none = (wipe σ vs).set j none
      have : ∀ {us : List Nat}, j ∉ us → wipe (σ.set j x) us = (wipe σ us).set j x := fun {us} => by
        induction us with
        | nil => intro _; rfl
        | cons u us ih =>
          intro hn
          show (wipe (σ.set j x) us).set u none = ((wipe σ us).set u none).set j x
          rw [ih (fun z => hn (List.mem_cons_of_mem _ z)), List.set_comm _ _ (fun z => hn (by rw [← z]; exact List.mem_cons_self ..))]
      rw [this hj, List.set_set]
theorem jcK {j : Nat} {vs : List Nat} (hj : j ∈ vs) : GSnd K (gName j) (gN j) vs := fun W0 H0 W ρ σ H x d k Q st r g q => q _ _ (st.set r) (jfi hj) g
abbrev F0 : ZX := fun _ => False
def wipeB (ρ : Env) : List Nat → Env
  | [] => ρ
  | v :: vs => (wipeB ρ vs).set v .un
theorem Sat.wipe {W0 H0 W H : Hp} {ρ : Env} {σ : L2.St} (h : Sat K W0 H0 W ρ σ H) : ∀ vs : List Nat, Sat K W0 H0 W (wipeB ρ vs) (L2.wipe σ vs) H
  | [] => h
  | v :: vs => (Sat.wipe h vs).wipe1
theorem jgG {σ : L2.St} : ∀ vs : List Nat, L2.wipe (L2.wipe σ vs) vs = L2.wipe σ vs := by
  intro vs
  have key : ∀ (us ws : List Nat), (∀ u ∈ us, u ∈ ws) → L2.wipe (L2.wipe σ us) ws = L2.wipe σ ws := by
    intro us
    induction us with
    | nil => intro ws _; rfl
    | cons u us ih =>
      intro ws hs
      show L2.wipe ((L2.wipe σ us).set u none) ws = _
      rw [jfi (hs u (List.mem_cons_self ..))]
      exact ih ws fun v hv => hs v (List.mem_cons_of_mem _ hv)
  exact key vs vs fun _ h => h
def lcD (g : FG) (T : FT) (F : FE) (ρ : Env) : List D → (List D → Prop) → Prop
  | [], Q => Q []
  | d :: ds, Q => g d ρ fun ρ2 => T ρ2 (fun b => if b = true then F ρ2 (fun y => lcD g T F ρ ds fun ys => Q (y :: ys)) F0 else lcD g T F ρ ds Q) F0
def fLc (A : FA) (g : FG) (T : FT) (F : FE) (vs : List Nat) : FA := fun ρ Q Z => A ρ (fun ds => ds.length ≤ sizeLine ∧ lcD g T F (wipeB ρ vs) ds Q) Z
theorem xc0 {W H : Hp} : XC K E0 W H F0 := fun _ _ _ _ _ _ _ z => z.elim
theorem lc_to {wi : TI} {gh : TG} {tt : TT} {te : TE} {g : FG} {vs : List Nat} {σ : L2.St} {H : Hp} {Qh : VK} (hw : ∀ σ H R, tDI K E A σ H R → wi σ H R) (gs : GSnd K gh g vs) (ht : ∀ σ H Q, tDB K E0 T σ H Q → tt σ H Q) (he : ∀ σ H Q, tD K E0 F σ H Q → te σ H Q)
    (h : tDN K E (fLc A g T F vs) σ H Qh) : tLc wi gh tt te vs σ H Qh := by
  obtain ⟨W0, H0, W, ρ, Q, Z, st, f, k, x⟩ := h
  refine hw _ _ _ ⟨W0, H0, W, ρ, _, Z, st, f, fun J W1 H1 ds e1 ⟨G, Y, hW, hG, hY⟩ ⟨hn, q⟩ => ?_, x⟩
  intro Dd hD
  refine lc_it hW (fun i H' => ∃ W' us acc, i ≤ ds.length ∧ Ex W1 H1 W' H' ∧ W' Dd = none ∧ H' Dd = some (.lst us) ∧ RepAll K W' us acc ∧ us.length ≤ i ∧ lcD g T F (wipeB ρ vs) (ds.drop i) fun ys => Q (acc ++ ys)) ?_ ?_ ?_ ?_
  · exact ⟨W1, [], [], Nat.zero_le _, Ex.hid e1.s hD, e1.s.free hD, upd_same, .nil, Nat.le_refl _, q⟩
  · rintro i H' _ ⟨W', us, acc, _, e2, _⟩
    exact hG H' e2.h
  · rintro i v H3 H4 hi ⟨W3, us, acc, _, e3, hw3, hd3, r3, l3, q3⟩ y
    obtain ⟨W4, d, hd, e4, r4⟩ := hY i H3 v H4 W3 hi e3.h e3.w e3.s y
    have e5 := e3.trans e4
    have hw4 : ∀ {W' H' : Hp}, Ex W3 H3 W' H' → W' Dd = none := fun {W' H'} e => e.hide hw3 hd3 (fun _ z => by cases z)
    have hdr : ds.drop i = d :: ds.drop (i + 1) := by
      rw [List.drop_eq_getElem_cons hi]
      congr 1
      rw [List.getElem?_eq_getElem hi] at hd
      exact Option.some.inj hd
    rw [hdr] at q3
    have stw : Sat K W0 H0 W4 (wipeB ρ vs) (L2.wipe σ vs) H4 := (st.ext (e1.trans e5)).wipe vs
    refine gs W0 H0 W4 _ _ H4 v d _ _ stw r4 q3 fun ρ2 σ2 st2 hw2 q4 => ⟨by rw [hw2, jgG], ?_⟩
    refine ht _ _ _ ⟨W0, H0, W4, ρ2, _, F0, st2, q4, fun b W5 H5 e6 q5 => ?_, xc0⟩
    cases b with
    | true =>
      rw [if_pos rfl] at q5
      refine iteT (he _ _ _ ⟨W0, H0, W5, ρ2, _, F0, st2.ext e6, q5, fun u W6 H6 d6 e7 r6 q6 => ?_, xc0⟩)
      have e8 := (e4.trans e6).trans e7
      have hd6 := e8.h _ _ hd3
      refine ⟨us, hd6, by omega, W6, us ++ [u], acc ++ [d6], hi, Ex.mut (e3.trans e8) hD (hw4 e8), hw4 e8, upd_same, (r3.gx e8.w).app (.one r6), by rw [List.length_append]; show us.length + 1 ≤ i + 1; omega, ?_⟩
      have : (fun ys => Q (acc ++ [d6] ++ ys)) = fun ys => Q (acc ++ (d6 :: ys)) := by
        funext ys
        rw [List.append_assoc]
        rfl
      rw [this]
      exact q6
    | false =>
      rw [if_neg (by decide)] at q5
      have e8 := e4.trans e6
      exact iteF ⟨W5, us, acc, hi, e3.trans e8, hw4 e8, e8.h _ _ hd3, r3.gx e8.w, by omega, q5⟩
  · rintro H3 ⟨W3, us, acc, _, e3, hw3, hd3, r3, l3, q3⟩
    rw [List.drop_length] at q3
    have q3 : Q (acc ++ []) := q3
    rw [List.append_nil] at q3
    exact k Dd us W3 H3 acc (e1.trans e3) (e1.h.free hD) hw3 hd3 r3 (by omega) q3
theorem d_lc {elt tg iter : Expr} {ifs : List Expr} {scope : Scope} {own : List (Str × Nat)} {gh : TG} {g : FG} (hc : X.calm = true) (hN : X.N.Nodup) (hi : PI X tg iter (tDI K E A)) (ok : BlkOk X.N X.env.scope scope own) (gs : GSnd K gh g (own.map (·.2)))
    (hg : ∀ (s : Shared) (H : Hp) (C : Addr) (cl : List (Str × Addr)) (fp : List Addr), PG (X.blk s H scope (compEnvC scope cl C X.env) fp) tg gh) (ht : ∀ (s : Shared) (H : Hp) (C : Addr) (cl : List (Str × Addr)) (fp : List Addr), PTs (X.blk s H scope (compEnvC scope cl C X.env) fp) ifs (tDB K E0 T))
    (he : ∀ (s : Shared) (H : Hp) (C : Addr) (cl : List (Str × Addr)) (fp : List Addr), PE (X.blk s H scope (compEnvC scope cl C X.env) fp) elt (tD K E0 F)) (hs : ∀ x, foldedSetIterable iter X.env x = pure x := by intro _; rfl) :
    PE X (.ListComp elt [⟨tg, iter, ifs, 0⟩] scope pos) (tDN K E (fLc A g T F (own.map (·.2)))) := (pe_lc hc hN hi ok hg ht he hs).mono fun _ _ _ h => lc_to (fun _ _ _ q => q) gs (fun _ _ _ q => q) (fun _ _ _ q => q) h
def fYes : FT := fun _ Q _ => Q true
theorem jdU : PTs X [] (tDB K E fYes) := ⟨fun pins s σ H Q I ⟨W0, H0, W, ρ, Q', Z, st, f, k, x⟩ => pts_nil.run pins s σ H Q I (k true W H (Ex.refl st.see) f)⟩
end
end Pu
namespace TM
open PySem L2 Ly
abbrev Nd := Str × Nat
/-- the stack of the roots that wait for a word (the leftmost last), and the children of each place, from the right -/
def chF : List Nat → Nat → Option (List Nat × List (List Nat))
  | [], _ => some ([], [])
  | a :: as, off => match chF as (off + 1) with
    | none => none
    | some (w, f) => if w.length < a then none else some (w.take (w.length - a) ++ [off], (w.drop (w.length - a)).reverse :: f)
/-- the children of all places, or none -/
def chOf (nds : List Nd) : Option (List (List Nat)) := match chF (nds.map (·.2)) 0 with
  | some (w, f) => if w = [0] then some f else none
  | none => none
/-- words and arities in the order of their first places, or none if a word has two -/
def arF : List Nd → List Nd → Option (List Nd)
  | [], acc => some acc
  | (w, a) :: r, acc => match acc.lookup w with
    | none => arF r (acc ++ [(w, a)])
    | some b => if b = a then arF r acc else none
def plc (nds : List Nd) (w : Str) : List Nat := (List.range nds.length).filter fun i => (nds[i]?.map (·.1)) == some w
/-- a node -/
def NodeV (K : PySem.W.Frag) (n : Nd) : Ty := fun v H => ∃ p, v = .ref p ∧ SqT K H p [.str n.1, .int n.2]
/-- a tuple of nodes -/
def Nodes (K : PySem.W.Frag) (H : Hp) (nds : List Nd) (xs : List V) : Prop := xs.length = nds.length ∧ ∀ (i : Nat) (n : Nd), nds[i]? = some n → ∃ x, xs[i]? = some x ∧ NodeV K n x H
structure NodesAt (K : PySem.W.Frag) (H : Hp) (a : Addr) (nds : List Nd) : Prop where
  ex : ∃ xs, SqT K H a xs ∧ Nodes K H nds xs
theorem NodeV.gx {K : PySem.W.Frag} {H H' : Hp} {n : Nd} {v : V} (e : Gx H H') (h : NodeV K n v H) : NodeV K n v H' := by
  obtain ⟨p, z, q⟩ := h
  exact ⟨p, z, e.t q⟩
theorem Nodes.gx {K : PySem.W.Frag} {H H' : Hp} {nds : List Nd} {xs : List V} (e : Gx H H') (h : Nodes K H nds xs) : Nodes K H' nds xs := ⟨h.1, fun i n q => by
  obtain ⟨x, h1, h2⟩ := h.2 i n q
  exact ⟨x, h1, h2.gx e⟩⟩
/-- a tuple of indices -/
def IntsT (K : PySem.W.Frag) (l : List Nat) : Ty := fun v H => ∃ p, v = .ref p ∧ SqT K H p (intsV l)
/-- the children of all places: a list of tuples -/
def ChL (K : PySem.W.Frag) (H : Hp) (cs : List (List Nat)) (ys : List V) : Prop := ys.length = cs.length ∧ ∀ (i : Nat) (c : List Nat), cs[i]? = some c → ∃ y, ys[i]? = some y ∧ IntsT K c y H
theorem IntsT.firm {K : PySem.W.Frag} {l : List Nat} : Firm (IntsT K l) := fun _ _ _ e ⟨p, z, h⟩ => ⟨p, z, e.t h⟩
/-- the children of all places: a tuple of tuples -/
def ChT (K : PySem.W.Frag) (H : Hp) (a : Addr) (cs : List (List Nat)) : Prop := ∃ ys, SqT K H a ys ∧ ChL K H cs ys
theorem ChL.firm {K : PySem.W.Frag} {H H' : Hp} {cs : List (List Nat)} {ys : List V} (e : Kx H H') (h : ChL K H cs ys) : ChL K H' cs ys := ⟨h.1, fun i c q => by
  obtain ⟨y, h1, h2⟩ := h.2 i c q
  exact ⟨y, h1, IntsT.firm _ _ _ e h2⟩⟩
theorem ChT.firm {K : PySem.W.Frag} {H H' : Hp} {a : Addr} {cs : List (List Nat)} (e : Kx H H') (h : ChT K H a cs) : ChT K H' a cs := by
  obtain ⟨ys, h1, h2⟩ := h
  exact ⟨ys, e.t h1, h2.firm e⟩
def kvD (l : List Nd) : List (Key × V) := l.map fun n => ((Sum.inr n.1 : Key), V.int (n.2 : Int))
/-- a dict of words, ascending -/
def Asc (l l' : List Nd) : Prop := l'.Perm l ∧ PyProof.Rows.sortedS (l'.map (·.1)) = true
def isLeaf (w : Str) : Bool := decide (w = "_" ∨ w = "#")
/-- a node as it must be -/
def jkq (n : Nd) : Prop := jdG (.str n.1) (.int (n.2 : Int)) = true ∧ n.1.length ≤ 1000
/-- a value, and whether it is a row of nodes of a term -/
inductive RowIn (K : PySem.W.Frag) (H : Hp) : V → Bool → Prop
  | other {x : V} {k : Kd} : Pl K H x k → k ≠ .tup → RowIn K H x false
  | size {a : Addr} {xs : List V} : H a = some (.tup xs) → xs.length < 1 ∨ 40 < xs.length → RowIn K H (.ref a) false
  | items {a : Addr} {xs : List V} {bs : List Bool} : H a = some (.tup xs) → (1 ≤ xs.length ∧ xs.length ≤ 40) → bs.length = xs.length ∧ (∀ (i : Nat) (x : V), xs[i]? = some x → ∃ b, bs[i]? = some b ∧ NodeIn K H x b) ∧ bs.all id = false → RowIn K H (.ref a) false
  | nodes {a : Addr} {nds : List Nd} : (∃ xs, H a = some (.tup xs) ∧ xs.length = nds.length ∧ ∀ (i : Nat) (n : Nd), nds[i]? = some n → ∃ p, xs[i]? = some (.ref p) ∧ H p = some (.tup [.str n.1, .int (n.2 : Int)])) → (1 ≤ nds.length ∧ nds.length ≤ 40) → (∀ n ∈ nds, jkq n) → RowIn K H (.ref a) ((chOf nds).isSome && (arF nds []).isSome)
end TM
namespace TM
open PySem L2 Ly
inductive Tr where
  | nd (w : Str) (ts : List Tr)
mutual
def Tr.nodes : Tr → List Nd
  | .nd w ts => (w, ts.length) :: jfa ts
def jfa : List Tr → List Nd
  | [] => []
  | t :: ts => t.nodes ++ jfa ts
end
def Tr.size (t : Tr) : Nat := t.nodes.length
/-- the places of the roots of a row of trees that begins at a place -/
def roots : List Tr → Nat → List Nat
  | [], _ => []
  | t :: ts, off => off :: roots ts (off + t.size)
mutual
def Tr.ch : Tr → Nat → List (List Nat)
  | .nd _ ts, off => roots ts (off + 1) :: chL ts (off + 1)
def chL : List Tr → Nat → List (List Nat)
  | [], _ => []
  | t :: ts, off => t.ch off ++ chL ts (off + t.size)
end
mutual
def Tr.ends : Tr → Nat → List Nat
  | .nd _ ts, off => (off + 1 + (jfa ts).length) :: endsL ts (off + 1)
def endsL : List Tr → Nat → List Nat
  | [], _ => []
  | t :: ts, off => t.ends off ++ endsL ts (off + t.size)
end
/-- the tree s stands at the place p of a row -/
def Sub (nds : List Nd) (cs : List (List Nat)) (p : Nat) (s : Tr) : Prop := s.nodes <+: nds.drop p ∧ s.ch p <+: cs.drop p
theorem jdn {α : Type} {x : α} {r l : List α} {p : Nat} (h : x :: r <+: l.drop p) : l[p]? = some x := by
  obtain ⟨q, hq⟩ := h
  have : (l.drop p)[0]? = some x := by rw [← hq]; rfl
  rw [List.getElem?_drop] at this
  simpa using this
theorem Sub.at {nds : List Nd} {cs : List (List Nat)} {p : Nat} {w : Str} {ts : List Tr} (h : Sub nds cs p (.nd w ts)) : nds[p]? = some (w, ts.length) ∧ cs[p]? = some (roots ts (p + 1)) := ⟨jdn h.1, jdn h.2⟩
theorem ChT.gx {K : PySem.W.Frag} {H H' : Hp} {a : Addr} {cs : List (List Nat)} (e : Gx H H') (h : ChT K H a cs) : ChT K H' a cs := h.firm e.k
theorem NodesAt.gx {K : PySem.W.Frag} {H H' : Hp} {a : Addr} {nds : List Nd} (e : Gx H H') (h : NodesAt K H a nds) : NodesAt K H' a nds := by
  obtain ⟨xs, h1, h2⟩ := h.ex
  exact ⟨⟨xs, e.t h1, h2.gx e⟩⟩
end TM
set_option maxHeartbeats 1000000
namespace TM
open PySem L2 Ly
/-- heaps in which all stays but lists and instances -/
def Sx (H H' : Hp) : Prop := ∀ a o, H a = some o → (∀ xs, o ≠ .lst xs) → (∀ C dx fs, o ≠ .ins C dx fs) → H' a = some o
theorem Sx.trans {H H1 H2 : Hp} (a : Sx H H1) (b : Sx H1 H2) : Sx H H2 := fun x o h h1 h2 => b x o (a x o h h1 h2) h1 h2
theorem Sx.t {K : PySem.W.Frag} {H H' : Hp} {a : Addr} {xs : List V} (e : Sx H H') (h : SqT K H a xs) : SqT K H' a xs := by
  rcases h with (h | ⟨o, h⟩) | h
  · exact .inl (.inl (e _ _ h (fun _ z => by cases z) fun _ _ _ z => by cases z))
  · exact .inl (.inr ⟨o, e _ _ h (fun _ z => by cases z) fun _ _ _ z => by cases z⟩)
  · exact .inr h
/-- a row of nodes told: the tuple and its nodes, tracked -/
def RowAt (H : Hp) (a : Addr) (nds : List Nd) : Prop := ∃ xs, H a = some (.tup xs) ∧ xs.length = nds.length ∧ ∀ (i : Nat) (n : Nd), nds[i]? = some n → ∃ p, xs[i]? = some (.ref p) ∧ H p = some (.tup [.str n.1, .int (n.2 : Int)])
theorem RowAt.nodes {K : PySem.W.Frag} {H : Hp} {a : Addr} {nds : List Nd} (h : RowAt H a nds) : NodesAt K H a nds := by
  obtain ⟨xs, h1, h2, h3⟩ := h
  refine ⟨⟨xs, SqT.of h1, h2, fun i n q => ?_⟩⟩
  obtain ⟨p, h4, h5⟩ := h3 i n q
  exact ⟨_, h4, p, rfl, SqT.of h5⟩
theorem RowAt.firm {H H' : Hp} {a : Addr} {nds : List Nd} (e : Kx H H') (h : RowAt H a nds) : RowAt H' a nds := by
  obtain ⟨xs, h1, h2, h3⟩ := h
  refine ⟨xs, e.tup h1, h2, fun i n q => ?_⟩
  obtain ⟨p, h4, h5⟩ := h3 i n q
  exact ⟨p, h4, e.tup h5⟩
theorem RowAt.gx {H H' : Hp} {a : Addr} {nds : List Nd} (e : Gx H H') (h : RowAt H a nds) : RowAt H' a nds := h.firm e.k
/-- the attributes of a term -/
def tfs (n c e s u l : Addr) : List (Str × V) := [("own_nodes", .ref n), ("own_children", .ref c), ("own_ends", .ref e), ("own_symbols", .ref s), ("own_unknown", .ref u), ("own_lost", .ref l)]
/-- what a tree needs to be a term -/
structure Good (t : Tr) : Prop where
  nodes : ∀ n ∈ t.nodes, jkq n
  size : t.size ≤ 40
  ar : ∃ l, arF t.nodes [] = some l
/-- the parts of a term -/
structure TermB (K : PySem.W.Frag) (H : Hp) (n c e s u l : Addr) (t : Tr) : Prop where
  nd : RowAt H n t.nodes
  ch : ChT K H c (t.ch 0)
  en : SqT K H e (intsV (t.ends 0))
  sy : ∃ r r', arF t.nodes [] = some r ∧ Asc (r.filter fun n => !isLeaf n.1) r' ∧ H s = some (.dK (kvD r'))
  un : SqT K H u (intsV (plc t.nodes "_"))
  lo : SqT K H l (intsV (plc t.nodes "#"))
structure TermAt (K : PySem.W.Frag) (C : Addr) (H : Hp) (a : Addr) (t : Tr) : Prop where
  ex : ∃ dx n c e s u l, H a = some (.ins C dx (tfs n c e s u l)) ∧ TermB K H n c e s u l t
  good : Good t
theorem TermAt.firm {K : PySem.W.Frag} {C : Addr} {H H' : Hp} {a : Addr} {t : Tr} (x : Kx H H') (h : TermAt K C H a t) : TermAt K C H' a t := by
  obtain ⟨⟨dx, n, c, e, s, u, l, h1, h2⟩, g⟩ := h
  refine ⟨⟨dx, n, c, e, s, u, l, x.keep h1 (fun _ z => by cases z), ?_⟩, g⟩
  obtain ⟨h1, h2, h3, ⟨r, r', h4, h5, h6⟩, h7, h8⟩ := h2
  exact ⟨h1.firm x, h2.firm x, x.t h3, ⟨r, r', h4, h5, x.keep h6 (fun _ z => by cases z)⟩, x.t h7, x.t h8⟩
theorem TermAt.gx {K : PySem.W.Frag} {C : Addr} {H H' : Hp} {a : Addr} {t : Tr} (x : Gx H H') (h : TermAt K C H a t) : TermAt K C H' a t := h.firm x.k
def TermT (K : PySem.W.Frag) (C : Addr) (t : Tr) : Ty := fun v H => ∃ a, v = .ref a ∧ TermAt K C H a t
theorem TermT.firm {K : PySem.W.Frag} {C : Addr} {t : Tr} : Firm (TermT K C t) := fun _ _ _ e ⟨a, z, h⟩ => ⟨a, z, h.firm e⟩
end TM
namespace Ly
open PySem PySem.Spec PyProof.Rows L2
/-- a class of errors over ValueError without __init__ -/
structure ExC (K : PySem.W.Frag) (mg : Str → Option Value) (nm : Str) (C : Addr) : Prop where
  x : PySem.W.excIn K C [.type "ValueError", .type "Exception", .type "BaseException", .type "object"] "ValueError.__new__" = true
  g : mg nm = some (.ref C)
  k : PySem.W.keepIn K (.ref C) = true
  b : PySem.W.subIn K (.ref C) (.type "BaseException") = some true
  t : PySem.W.typeIn K (.ref C) = some (.type "type")
end Ly
namespace TM
open PySem L2 Ly
/-- what the text has of the class Term -/
structure TermC (K : PySem.W.Frag) (mg : Str → Option Value) (C CN CI : Addr) : Prop where
  cl : Cls K C
  n1 : NoAttr K C "own_nodes"
  n2 : NoAttr K C "own_children"
  n3 : NoAttr K C "own_ends"
  n4 : NoAttr K C "own_symbols"
  n5 : NoAttr K C "own_unknown"
  n6 : NoAttr K C "own_lost"
  gT : mg "Term" = some (.ref C)
  own : Own K C
  isT : PySem.W.kitOne K (.ref C) (.ref C) = some true
  clN : Cls K CN
  nN : NoAttr K CN "told_nodes"
  gN : mg "Nodes" = some (.ref CN)
  ownN : Own K CN
  isN : PySem.W.kitOne K (.ref CN) (.ref CN) = some true
  noTN : PySem.W.kitOne K (.ref C) (.ref CN) = some false
  noN : ∀ n ∈ ["NoneType", "bool", "int", "str", "list", "tuple", "dict"], PySem.W.kitOne K (.type n) (.ref CN) = some false
  noT : ∀ n ∈ ["NoneType", "bool", "int", "str", "list", "tuple", "dict"], PySem.W.kitOne K (.type n) (.ref C) = some false
  inv : ExC K mg "InvalidTerm" CI
def kdTy : Kd → String
  | .non => "NoneType"
  | .bl => "bool"
  | .int => "int"
  | .str => "str"
  | .lst => "list"
  | .tup => "tuple"
  | .dic => "dict"
  | .own => "object"
theorem kd_ty {K : PySem.W.Frag} {H : Hp} {v : V} {k : Kd} (h : Pl K H v k) (hk : k ≠ .own) : TyX K H v (.type (kdTy k)) ∧ kdTy k ∈ ["NoneType", "bool", "int", "str", "list", "tuple", "dict"] := by
  cases h with
  | non => exact ⟨.base .non, by decide⟩
  | bl b => exact ⟨.base (.bl b), by decide⟩
  | int i => exact ⟨.base (.int i), by decide⟩
  | str x => exact ⟨.base (.str x), by decide⟩
  | lst e => exact ⟨.base (.lst e), by decide⟩
  | tup e => exact ⟨.base (.tup e), by decide⟩
  | dK e => exact ⟨.base (.dK e), by decide⟩
  | own e o => exact absurd rfl hk
/-- all but one thing stays -/
def Gxa (a : Addr) (H H' : Hp) : Prop := ∀ b o, b ≠ a → H b = some o → H' b = some o
end TM
namespace TM
open PySem L2 Ly
theorem Gxa.gx {a : Addr} {H H1 H2 : Hp} (e : Gxa a H H1) (g : Gx H1 H2) : Gxa a H H2 := fun b o n h => g _ _ (e b o n h)
theorem Gxa.put {a : Addr} {H H1 : Hp} {o : HO} (e : Gxa a H H1) : Gxa a H (upd H1 a o) := fun b u n h => by
  rw [upd_ne n]
  exact e b u n h
/-- from the place where an instance is made -/
theorem Gxa.made {x dx C : Addr} {H H' : Hp} (hx : H x = none) (hd : H dx = none) (e : Gxa x (upd (upd H dx (.own x)) x (.ins C dx [])) H') : Gx H H' := fun b o h => by
  have n1 : b ≠ x := fun z => by rw [z, hx] at h; cases h
  have n2 : b ≠ dx := fun z => by rw [z, hd] at h; cases h
  exact e b o n1 (by rw [upd_ne n1, upd_ne n2]; exact h)
end TM
namespace TM
open PySem L2 Ly
theorem RowIn.gx {K : PySem.W.Frag} {H H' : Hp} {x : V} {b : Bool} (e : Gx H H') (h : RowIn K H x b) : RowIn K H' x b := by
  cases h with
  | other p q => exact .other (p.gx e) q
  | size p q => exact .size (e _ _ p) q
  | items p q r => exact .items (e _ _ p) q ⟨r.1, fun i x hx => by
      obtain ⟨b, h1, h2⟩ := r.2.1 i x hx
      exact ⟨b, h1, NodeIn.mono _ _ _ e h2⟩, r.2.2⟩
  | nodes p q r =>
    obtain ⟨xs, h1, h2, h3⟩ := p
    refine .nodes ⟨xs, e _ _ h1, h2, fun i n hn => ?_⟩ q r
    obtain ⟨p, h4, h5⟩ := h3 i n hn
    exact ⟨p, h4, e _ _ h5⟩
end TM
namespace Ly
open PySem PySem.Spec PyProof.Rows L2
end Ly
namespace Ly
open PySem PySem.Spec PyProof.Rows L2
end Ly
namespace TM
open PySem L2 Ly
/-- items that are nodes -/
def RowL (H : Hp) (xs : List V) (nds : List Nd) : Prop := xs.length = nds.length ∧ ∀ (i : Nat) (n : Nd), nds[i]? = some n → ∃ p, xs[i]? = some (.ref p) ∧ H p = some (.tup [.str n.1, .int (n.2 : Int)])
theorem RowL.nil {H : Hp} : RowL H [] [] := ⟨rfl, fun i n h => by cases h⟩
theorem RowL.gx {H H' : Hp} {xs : List V} {nds : List Nd} (e : Gx H H') (h : RowL H xs nds) : RowL H' xs nds := ⟨h.1, fun i n q => by
  obtain ⟨p, h1, h2⟩ := h.2 i n q
  exact ⟨p, h1, e _ _ h2⟩⟩
theorem RowL.app {H : Hp} {xs ys : List V} {nds mds : List Nd} (h : RowL H xs nds) (k : RowL H ys mds) : RowL H (xs ++ ys) (nds ++ mds) := by
  refine ⟨by rw [List.length_append, List.length_append, h.1, k.1], fun i n q => ?_⟩
  by_cases hi : i < nds.length
  · rw [List.getElem?_append_left hi] at q
    rw [List.getElem?_append_left (by rw [h.1]; exact hi)]
    exact h.2 i n q
  · rw [List.getElem?_append_right (by omega)] at q
    rw [List.getElem?_append_right (by rw [h.1]; omega), h.1]
    exact k.2 _ n q
theorem RowL.one {H : Hp} {p : Addr} {n : Nd} (h : H p = some (.tup [.str n.1, .int (n.2 : Int)])) : RowL H [.ref p] [n] := ⟨rfl, fun i m q => by
  cases i with
  | zero => cases q; exact ⟨p, rfl, h⟩
  | succ i => cases q⟩
/-- a value that is a term, or surely none -/
inductive IsTerm (K : PySem.W.Frag) (C : Addr) (H : Hp) : V → Option Tr → Prop
  | term {a : Addr} {t : Tr} : TermAt K C H a t → IsTerm K C H (.ref a) (some t)
  | none {x : V} {kd : Kd} : Pl K H x kd → kd ≠ .own → IsTerm K C H x none
theorem IsTerm.gx {K : PySem.W.Frag} {C : Addr} {H H' : Hp} {x : V} {o : Option Tr} (e : Gx H H') (h : IsTerm K C H x o) : IsTerm K C H' x o := by
  cases h with
  | term h => exact .term (h.gx e)
  | none p k => exact .none (p.gx e) k
theorem IsTerm.ty {K : PySem.W.Frag} {mg : Str → Option Value} {C CN CI : Addr} (TC : TermC K mg C CN CI) {H : Hp} {x : V} {o : Option Tr} (h : IsTerm K C H x o) : ∃ t, TyX K H x t ∧ PySem.W.kitOne K t (.ref C) = some o.isSome := by
  cases h with
  | term h =>
    obtain ⟨⟨dx, n, c, e, s, u, l, h1, _⟩, _⟩ := h
    exact ⟨_, .base (.ins h1 TC.cl TC.own.ha TC.own.hn TC.own.htk TC.own.hm), TC.isT⟩
  | none p k => exact ⟨_, (kd_ty p k).1, TC.noT _ (kd_ty p k).2⟩
/-- what build is given: the word, the arguments; the term, or none -/
inductive BuildIn (K : PySem.W.Frag) (C : Addr) (H : Hp) : V → List V → Option Tr → Prop
  | word {x : V} {kd : Kd} {xs : List V} : Pl K H x kd → Small x → jdG x (.int (xs.length : Int)) = false → BuildIn K C H x xs none
  | arg {x : V} {kd : Kd} {xs : List V} {os : List (Option Tr)} : Pl K H x kd → Small x → jdG x (.int (xs.length : Int)) = true → os.length = xs.length → (∀ (i : Nat) (y : V), xs[i]? = some y → ∃ o, os[i]? = some o ∧ IsTerm K C H y o) → os.all Option.isSome = false → BuildIn K C H x xs none
  | made {w : Str} {xs : List V} {ts : List Tr} : w.length ≤ 1000 → jdG (.str w) (.int (ts.length : Int)) = true → xs.length = ts.length → (∀ (i : Nat) (t : Tr), ts[i]? = some t → ∃ a, xs[i]? = some (.ref a) ∧ TermAt K C H a t) → Good (.nd w ts) → BuildIn K C H (.str w) xs (some (.nd w ts))
  | bad {w : Str} {xs : List V} {ts : List Tr} : w.length ≤ 1000 → jdG (.str w) (.int (ts.length : Int)) = true → xs.length = ts.length → (∀ (i : Nat) (t : Tr), ts[i]? = some t → ∃ a, xs[i]? = some (.ref a) ∧ TermAt K C H a t) → 40 < Tr.size (.nd w ts) ∨ arF (Tr.nodes (.nd w ts)) [] = none → BuildIn K C H (.str w) xs none
end TM
namespace Ly
open PySem PySem.Spec PyProof.Rows L2
end Ly
namespace TM
open PySem L2 Ly
theorem BuildIn.gx {K : PySem.W.Frag} {C : Addr} {H H' : Hp} {x : V} {xs : List V} {o : Option Tr} (e : Gx H H') (h : BuildIn K C H x xs o) : BuildIn K C H' x xs o := by
  cases h with
  | word p s b => exact .word (p.gx e) s b
  | arg p s b l k a => exact .arg (p.gx e) s b l (fun i y hy => by
      obtain ⟨o, h1, h2⟩ := k i y hy
      exact ⟨o, h1, h2.gx e⟩) a
  | made w b l k g => exact .made w b l (fun i t ht => by
      obtain ⟨a, h1, h2⟩ := k i t ht
      exact ⟨a, h1, h2.gx e⟩) g
  | bad w b l k g => exact .bad w b l (fun i t ht => by
      obtain ⟨a, h1, h2⟩ := k i t ht
      exact ⟨a, h1, h2.gx e⟩) g
end TM
namespace Pu
open PySem PySem.Spec PyProof.Rows L2 Ly
structure EndsD where
  nx : Env → Prop
  rt : D → Prop
  bk : Env → Prop := fun _ => False
  ct : Env → Prop := fun _ => False
  ex : ZX
abbrev FS := Env → EndsD → Prop
structure Ok (K : PySem.W.Frag) (W0 H0 : Hp) (E : XK) (W : Hp) (De : EndsD) (Dh : Ends) : Prop where
  nx : ∀ W' ρ' σ' H', Gx W W' → Sat K W0 H0 W' ρ' σ' H' → De.nx ρ' → Dh.nx σ' H'
  rt : ∀ v W' H' d, Ex W0 H0 W' H' → Rep K W' v d → De.rt d → Dh.rt v H'
  bk : ∀ W' ρ' σ' H', Gx W W' → Sat K W0 H0 W' ρ' σ' H' → De.bk ρ' → Dh.bk σ' H'
  ct : ∀ W' ρ' σ' H', Gx W W' → Sat K W0 H0 W' ρ' σ' H' → De.ct ρ' → Dh.ct σ' H'
  ex : XC K E W0 H0 De.ex
def tDS (K : PySem.W.Frag) (W0 H0 : Hp) (E : XK) (S : FS) : TS := fun Dh σ H => ∃ W ρ De, Sat K W0 H0 W ρ σ H ∧ S ρ De ∧ Ok K W0 H0 E W De Dh
theorem _root_.L2.PS.mono {X : Cx} {st : Stmt} {t u : TS} (h : PS X st t) (m : ∀ D σ H, u D σ H → t D σ H) : PS X st u := ⟨fun pins s σ H D I q => h.run pins s σ H D I (m _ _ _ q)⟩
theorem _root_.L2.PSs.mono {X : Cx} {st : List Stmt} {t u : TS} (h : PSs X st t) (m : ∀ D σ H, u D σ H → t D σ H) : PSs X st u := ⟨fun pins s σ H D I q => h.run pins s σ H D I (m _ _ _ q)⟩
section
variable {X : Cx} {K : PySem.W.Frag} {E : XK} {W0 H0 : Hp} {F G L : FE} {T U : FT} {A N : FA} {S S' : FS} {tg e a b : Expr} {es : List Expr} {pos pos' : Pos} {st : Stmt} {rest body : List Stmt} {i j : Nat}
theorem Ok.up {De : EndsD} {Dh : Ends} {W W1 : Hp} (o : Ok K W0 H0 E W De Dh) (e : Gx W W1) : Ok K W0 H0 E W1 De Dh := ⟨fun W' ρ' σ' H' g => o.nx W' ρ' σ' H' (e.trans g), o.rt, fun W' ρ' σ' H' g => o.bk W' ρ' σ' H' (e.trans g), fun W' ρ' σ' H' g => o.ct W' ρ' σ' H' (e.trans g), o.ex⟩
theorem Ok.xc {De : EndsD} {Dh : Ends} {W H Wb : Hp} {ρ : Env} {σ : L2.St} (o : Ok K W0 H0 E Wb De Dh) (s : Sat K W0 H0 W ρ σ H) : XC K E W H De.ex := o.ex.ext s.ex
def sNext : FS := fun ρ De => De.nx ρ
def sSeq (S S' : FS) : FS := fun ρ De => S ρ { De with nx := fun ρ' => S' ρ' De }
theorem jfs : PSs X [] (tDS K W0 H0 E sNext) := pss_nil.mono fun D σ H ⟨W, ρ, De, s, q, o⟩ => o.nx W ρ σ H (Gx.refl W) s q
theorem d_seq (h1 : PS X st (tDS K W0 H0 E S)) (h2 : PSs X rest (tDS K W0 H0 E S')) : PSs X (st :: rest) (tDS K W0 H0 E (sSeq S S')) := (pss_cons h1 h2).mono fun D σ H ⟨W, ρ, De, s, q, o⟩ =>
  ⟨W, ρ, _, s, q, ⟨fun W' ρ' σ' H' g s' q' => ⟨W', ρ', De, s', q', o.up g⟩, o.rt, o.bk, o.ct, o.ex⟩⟩
theorem jbI (h1 : PS X st (tDS K W0 H0 E S)) : PSs X [st] (tDS K W0 H0 E S) := pss_one h1
def sRet (F : FE) : FS := fun ρ De => F ρ De.rt De.ex
theorem d_ret (h : PE X e (tD K E F)) : PS X (.Return (some e) pos) (tDS K W0 H0 E (sRet F)) := (ps_ret h).mono fun D σ H ⟨W, ρ, De, s, q, o⟩ => ⟨W0, H0, W, ρ, _, _, s, q, fun v W' H' d e r z => o.rt v W' H' d (s.ex.trans e) r z, o.xc s⟩
def sIf (T : FT) (S S' : FS) : FS := fun ρ De => T ρ (fun b => if b = true then S ρ De else S' ρ De) De.ex
theorem d_ifs {c : Expr} {u v : List Stmt} (hc : PT X c (tDB K E T)) (ha : PSs X u (tDS K W0 H0 E S)) (hb : PSs X v (tDS K W0 H0 E S')) : PS X (.If c u v pos) (tDS K W0 H0 E (sIf T S S')) := (ps_if hc ha hb).mono fun D σ H ⟨W, ρ, De, s, q, o⟩ =>
  ⟨W0, H0, W, ρ, _, _, s, q, fun b W' H' e z => by
    cases b with
    | true =>
      rw [if_pos rfl] at z
      exact iteT ⟨W', ρ, De, s.ext e, z, o.up e.w⟩
    | false =>
      rw [if_neg (by decide)] at z
      exact iteF ⟨W', ρ, De, s.ext e, z, o.up e.w⟩, o.xc s⟩
/-- x = a value -/
def sAsg (i : Nat) (F : FE) : FS := fun ρ De => F ρ (fun d => De.nx (ρ.set i (.val d))) De.ex
theorem d_asg (he : PE X e (tD K E F)) (hg : PG X tg (gName i)) (hs : swapsWithSole [tg] e pos.line X.env = pure false := by rfl) (hw : swappedStores [tg] e X.env = pure none := by rfl)
    (h1 : (assignEach [tg] X.env).map (·.2) = [assign tg X.env] := by rfl) : PS X (.Assign [tg] e pos) (tDS K W0 H0 E (sAsg i F)) := (ps_asg he hg hs hw h1).mono fun D σ H ⟨W, ρ, De, s, q, o⟩ =>
  ⟨W0, H0, W, ρ, _, _, s, q, fun v W' H' d e r z => o.nx W' _ _ H' e.w ((s.ext e).set r) z, o.xc s⟩
/-- x = a new list -/
def sNew (i : Nat) (N : FA) : FS := fun ρ De => N ρ (fun ds => De.nx (ρ.set i (.lst ds))) De.ex
theorem d_new (he : PE X e (tDN K E N)) (hg : PG X tg (gName i)) (hs : swapsWithSole [tg] e pos.line X.env = pure false := by rfl) (hw : swappedStores [tg] e X.env = pure none := by rfl)
    (h1 : (assignEach [tg] X.env).map (·.2) = [assign tg X.env] := by rfl) : PS X (.Assign [tg] e pos) (tDS K W0 H0 E (sNew i N)) := (ps_asg he hg hs hw h1).mono fun D σ H ⟨W, ρ, De, s, q, o⟩ =>
  ⟨W0, H0, W, ρ, _, _, s, q, fun p vs W' H' ds e hp hw h' r n z => o.nx W' _ _ H' e.w (s.put (b := .lst ds) e hp ⟨p, vs, rfl, rfl, hw, s.ex.h.free hp, h', r, n⟩) z, o.xc s⟩
/-- a, b = x, y -/
def sPar (i j : Nat) (A : FA) : FS := fun ρ De => A ρ (fun ds => ∃ d f, ds = [d, f] ∧ De.nx ((ρ.set i (.val d)).set j (.val f))) De.ex
/-- a list is given away ahead of a statement -/
def demB (i : Nat) (ρ : Env) : Env := match ρ[i]? with
  | some (.lst ds) => ρ.set i (.val (.lst ds))
  | _ => ρ
def sDem (i : Nat) (S : FS) : FS := fun ρ De => S (demB i ρ) De
/-- x[k] = v of an own list -/
def sPut (i : Nat) (G F : FE) : FS := fun ρ De => F ρ (fun d => ∃ ds, ρ[i]? = some (.lst ds) ∧ G ρ (fun k => ∃ n m, k = .int n ∧ ixN ds.length n = some m ∧ De.nx (ρ.set i (.lst (ds.set m d)))) De.ex) De.ex
theorem d_put {st : Stmt} (h : PS X st (tAsg (tD K E F) (gSub (tVar i) (tD K E G) rSetL))) : PS X st (tDS K W0 H0 E (sPut i G F)) := h.mono fun D σ H ⟨W, ρ, De, s, q, o⟩ => by
  refine ⟨W0, H0, W, ρ, _, _, s, q, fun v W1 H1 d e1 r1 ⟨ds, hi, q1⟩ => ?_, o.xc s⟩
  have s1 := s.ext e1
  obtain ⟨p, vs, h1, _⟩ := s1.own hi
  refine ⟨.ref p, h1, W0, H0, W1, ρ, _, _, s1, q1, fun k W2 H2 dk e2 r2 ⟨n, m, z, hm, q2⟩ => ?_, o.xc s1⟩
  subst z
  cases r2
  have s2 := s1.ext e2
  obtain ⟨p', us, g1, g2, g3, g4, g5, g6⟩ := s2.own hi
  rw [h1] at g1
  cases g1
  refine ⟨p, us, n, m, rfl, rfl, g4, by rw [g5.len]; exact hm, ?_⟩
  exact o.nx W2 _ σ _ (e1.trans e2).w (s2.chg hi h1 (g5.set (r1.gx e2.w) m) (by rw [List.length_set]; exact g6)) q2
/-- x.append(v), x.extend(v) of an own list -/
def sApp (i : Nat) (F : FE) : FS := fun ρ De => ∃ ds, ρ[i]? = some (.lst ds) ∧ F ρ (fun d => ds.length < sizeLine ∧ De.nx (ρ.set i (.lst (ds ++ [d])))) De.ex
theorem d_app {st : Stmt} (h : PS X st (tDrop (tBM K "list" rAppend (tVar i) (tCons (tD K E F) tNil)))) : PS X st (tDS K W0 H0 E (sApp i F)) := h.mono fun D σ H ⟨W, ρ, De, s, ⟨ds, hi, q⟩, o⟩ => by
  obtain ⟨p, vs, h1, _, _, h4, _⟩ := s.own hi
  refine ⟨.ref p, h1, .inl ⟨rfl, vs, SqL.of h4⟩, W0, H0, W, ρ, _, _, s, q, fun v W1 H1 d e1 r1 ⟨hn, q1⟩ => ?_, o.xc s⟩
  have s1 := s.ext e1
  obtain ⟨p', us, g1, g2, g3, g4, g5, g6⟩ := s1.own hi
  rw [h1] at g1
  cases g1
  refine ⟨p, us, v, rfl, rfl, g4, by rw [g5.len]; exact hn, ?_⟩
  exact o.nx W1 _ σ _ e1.w (s1.chg hi h1 (g5.app (.one r1)) (by rw [List.length_append, g5.len]; exact hn)) q1
def forD (g : FG) (S : FS) : List D → Env → EndsD → Prop
  | [], ρ, De => De.nx ρ
  | d :: ds, ρ, De => g d ρ fun ρ2 => S ρ2 { De with nx := fun ρ3 => forD g S ds ρ3 De, ct := fun ρ3 => forD g S ds ρ3 De, bk := De.nx }
def sFor (A : FA) (g : FG) (S : FS) : FS := fun ρ De => A ρ (fun ds => forD g S ds ρ De) De.ex
theorem d_for {iter : Expr} {gh : TG} {g : FG} {vs : List Nat} (hp : PassesOwn (model X.prog X.w) X.A X.env X.xe) (hc : X.calm = true) (hi : PI X tg iter (tDF K E A)) (hg : PG X tg gh) (gs : GSnd K gh g vs) (hb : PSs X body (tDS K W0 H0 E S))
    (hs : ∀ x, foldedSetIterable iter X.env x = pure x := by intro _; rfl) : PS X (.For tg iter body [] pos) (tDS K W0 H0 E (sFor A g S)) := (ps_for hp hc hi hg hb hs).mono fun D σ H ⟨W, ρ, De, s, q, o⟩ => by
  refine ⟨W0, H0, W, ρ, _, _, s, q, fun J W1 H1 ds e1 ⟨G, Y, hW, hG, hY⟩ q1 => ?_, o.xc s⟩
  refine for_it hW (D := D) (fun i σ' H' => ∃ W' ρ', Gx W1 W' ∧ Sat K W0 H0 W' ρ' σ' H' ∧ forD g S (ds.drop i) ρ' De) ⟨W1, ρ, Gx.refl _, s.ext e1, q1⟩ ?_ ?_ ?_
  · rintro i σ' H' _ ⟨W', ρ', e2, s2, _⟩
    exact hG H' (e2.trans s2.see)
  · rintro i x σ' H2 H3 hi ⟨W2, ρ2, e2, s2, q2⟩ y
    obtain ⟨W3, d, hd, e3, r3⟩ := hY i H2 x H3 W2 hi e2 s2.see y
    have hdr : ds.drop i = d :: ds.drop (i + 1) := by
      rw [List.drop_eq_getElem_cons hi]
      congr 1
      rw [List.getElem?_eq_getElem hi] at hd
      exact Option.some.inj hd
    rw [hdr] at q2
    refine gs W0 H0 W3 ρ2 σ' H3 x d _ _ (s2.ext e3) r3 q2 fun ρ3 σ3 s3 _ q3 => ?_
    exact ⟨W3, ρ3, _, s3, q3, ⟨fun W' ρ' σ' H' g s' q' => ⟨W', ρ', (e2.trans e3.w).trans g, s', q'⟩, o.rt, fun W' ρ' σ' H' g s' q' => o.nx W' ρ' σ' H' (((e1.w.trans e2).trans e3.w).trans g) s' q', fun W' ρ' σ' H' g s' q' => ⟨W', ρ', (e2.trans e3.w).trans g, s', q'⟩, o.ex⟩⟩
  · rintro σ' H' ⟨W', ρ', e2, s2, q2⟩
    rw [List.drop_length] at q2
    exact o.nx W' ρ' σ' H' (e1.w.trans e2) s2 q2
end
end Pu
namespace Pu
open PySem PySem.Spec PyProof.Rows L2 Ly
abbrev Fn := List D → (D → Prop) → ZX → Prop
def spD (K : PySem.W.Frag) (n : Nat) (f : Fn) : Sp := fun vs H Qh E => ∃ W ds Q Z, Gx W H ∧ RepAll K W vs ds ∧ ds.length = n ∧ f ds Q Z ∧ (∀ v W' H' d, Ex W H W' H' → Rep K W' v d → Q d → Qh v H') ∧ XC K E W H Z
def startB (n : Nat) (ds : List D) : Env := ds.map .val ++ List.replicate (n - ds.length) .un
def fnS (n : Nat) (S : FS) : Fn := fun ds Q Z => S (startB n ds) { nx := fun _ => Q .non, rt := Q, ex := Z }
section
variable {K : PySem.W.Frag}
theorem jft {W H : Hp} {n : Nat} {N : List Str} {vs : List V} {ds : List D} (s : Gx W H) (hN : N.length = n) (r : RepAll K W vs ds) : Sat K W H W (startB n ds) (L2.start N vs) H := by
  refine ⟨Ex.refl s, ?_, fun _ => none, (fun _ _ _ z => by cases z), fun i b hb => ?_⟩
  · unfold startB L2.start
    simp [r.len, hN]
  · unfold startB at hb
    unfold L2.start
    by_cases hi : i < ds.length
    · rw [List.getElem?_append_left (by simpa using hi), List.getElem?_map, List.getElem?_eq_getElem hi] at hb
      cases hb
      obtain ⟨v, h1, h2⟩ := r.getD (List.getElem?_eq_getElem hi)
      refine ⟨some v, ?_, rfl, v, rfl, h2⟩
      rw [List.getElem?_append_left (by rw [List.length_map, r.len]; exact hi), List.getElem?_map, h1]
      rfl
    · rw [List.getElem?_append_right (by simpa using Nat.le_of_not_lt hi), List.length_map] at hb
      have hlt : i - ds.length < n - ds.length := by
        have := (List.getElem?_eq_some_iff.mp hb).1
        rw [List.length_replicate] at this
        exact this
      rw [List.getElem?_replicate_of_lt hlt] at hb
      cases hb
      refine ⟨none, ?_, rfl⟩
      rw [List.getElem?_append_right (by rw [List.length_map, r.len]; omega), List.length_map, r.len, hN, List.getElem?_replicate_of_lt hlt]
end
section
variable {P : Program} {w : World} {K : PySem.W.Frag} {mg : Str → Option Value} {base : Heap}
/-- a def by its body -/
theorem fn_d {x qual : Str} {st : Stmt} {f : Addr} {fd : FuncData} {N ps : List Str} {k n : Nat} {g : Fn} {S : FS} (F : Fun K x qual st f fd) (Sc : FnScope N ps (defScope st)) (hn : ps.length = n)
    (hbody : ∀ (cdv : Value) (A : Around) (outer : List PySem.Env) (s : Shared) (H : Hp) (E : XK) (W0 : Hp), Room k (A.deeper (envOfC qual (defScope st) s.heap.objs.size f cdv)) →
      PSs (cxOf (L2.CX P w) P w K mg base N qual (defScope st) f cdv A outer s H E) (defBody st) (tDS K W0 H E S)) (hg : ∀ ds Q Z, ds.length = n → g ds Q Z → fnS N.length S ds Q Z) : FnOk P w K mg base (L2.CX P w) (k + 1) f fd ps (spD K n g) :=
  F.okX Sc (fun vs H Q E ⟨W, ds, _, _, _, r, hl, _⟩ => by rw [r.len, hl, hn]) fun cdv A outer s H vs Q E hr ⟨W, ds, Qd, Z, sw, r, hl, hf, k, x⟩ =>
    ⟨_, hbody cdv A outer s H E W hr, W, startB N.length ds, _, jft sw rfl r, hg ds Qd Z hl hf, ⟨fun W' ρ' σ' H' _ s' q => k _ W' H' _ s'.ex .non q, fun v W' H' d e r q => k v W' H' d e r q, (fun _ _ _ _ _ _ z => z.elim), (fun _ _ _ _ _ _ z => z.elim), x⟩⟩
/-- nothing raised is within all that may be -/
theorem fn_cx {k : Nat} {f : Addr} {fd : FuncData} {ps : List Str} {sp : Sp} (F : FnOk P w K mg base CX0 k f fd ps sp) : FnOk P w K mg base (L2.CX P w) k f fd ps sp :=
  ⟨F.len, fun A outer s H args us vs Q E hr he hb hv hs => codeAny_mono (F.run A outer s H args us vs Q E hr he hb hv hs) fun r s' h => by
    cases r with
    | error e => exact False.elim h
    | ok fl => cases fl <;> exact h⟩
/-- a def for its callers -/
structure CalF (P : Program) (w : World) (K : PySem.W.Frag) (mg : Str → Option Value) (base : Heap) (x : Str) (k n : Nat) (g : Fn) : Prop where
  ex : ∃ (f : Addr) (fd : FuncData) (ps : List Str), FnOk P w K mg base (L2.CX P w) k f fd ps (spD K n g) ∧ mg x = some (.ref f) ∧ PySem.W.keepIn K (.ref f) = true ∧ Binds K fd ps []
end
section
variable {X : Cx} {K : PySem.W.Frag} {E : XK} {W0 H0 : Hp} {F G L : FE} {T U : FT} {A N : FA} {S S' : FS} {g : Fn} {tg e a b o : Expr} {es : List Expr} {p pos apos : Pos} {i j k n : Nat} {x m f : Str} {C : Addr}
def fCall (g : Fn) (n : Nat) (A : FA) : FE := fun ρ Q Z => A ρ (fun ds => ds.length = n ∧ g ds Q Z) Z
theorem sp_to {σ : L2.St} {H : Hp} {Qh : VK} (h : tD K E (fCall g n A) σ H Qh) : tCall (spD K n g) [] E (tDA K E A) σ H Qh := by
  obtain ⟨W0, H0, W, ρ, Q, Z, st, f, k, x⟩ := h
  refine ⟨W0, H0, W, ρ, _, Z, st, f, fun vs W1 H1 ds e1 r ⟨hl, q⟩ => ?_, x⟩
  show spD K n g (vs ++ []) H1 Qh E
  rw [List.append_nil]
  exact ⟨W1, ds, Q, Z, e1.s, r, hl, q, fun v W2 H2 d e2 r2 q2 => k v W2 H2 d (e1.trans e2) r2 q2, x.ext e1⟩
theorem jcL (c : CalF X.prog X.w X.K X.mg X.base x k n g) (hr : Room k X.A) (hg : Gl X x) (hx : Passes (L2.CX X.prog X.w) X E) (ha : PA X (e :: es) (tDA K E A)) (hK : X.K = K := by rfl) (hdb : (x == ("__debug__" : Str)) = false := by decide)
    (he : starEach (e :: es) X.env = (false, eval e X.env) :: starEach es X.env := by rfl) (hpl : (backTo pos (starEach es X.env)).any (·.1) = false := by rfl) : PE X (.Call (.Name x p) (e :: es) [] pos) (tD K E (fCall g n A)) := by
  subst hK
  obtain ⟨f, fd, ps, F, hm, hk, hb⟩ := c.ex
  exact (pe_call F hr hg hm hk hb .nil hx ha hdb he hpl).mono fun _ _ _ h => sp_to h
end
end Pu
namespace Pu
open PySem PySem.Spec PyProof.Rows L2 Ly
section
variable {X : Cx} {K : PySem.W.Frag} {E : XK} {W0 H0 : Hp} {F G L : FE} {T U : FT} {A N : FA} {S S' : FS} {g : Fn} {tg e a b o : Expr} {es : List Expr} {p pos apos : Pos} {i j k n : Nat} {x m f : Str} {C : Addr}
def CSnd (K : PySem.W.Frag) (r : List V → Hp → VK → Prop) (R : List D → (D → Prop) → Prop) : Prop := ∀ W H xs ds Q Qh, Gx W H → RepTs K W H xs ds → R ds Q → (∀ v W' H' d, Ex W H W' H' → Rep K W' v d → Q d → Qh v H') → r xs H Qh
def fCB (R : List D → (D → Prop) → Prop) (A : FA) : FE := fun ρ Q Z => A ρ (fun ds => R ds Q) Z
variable {r : List V → Hp → VK → Prop} {R : List D → (D → Prop) → Prop} {RN : List D → (List D → Prop) → Prop} {idn Tn : String}
theorem cb_to (hR : CSnd K r R) {σ : L2.St} {H : Hp} {Qh : VK} (h : tD K E (fCB R A) σ H Qh) : tCB r (tDAT K E A) σ H Qh := by
  obtain ⟨W0, H0, W, ρ, Q, Z, st, f, k, x⟩ := h
  exact ⟨W0, H0, W, ρ, _, Z, st, f, fun vs W1 H1 ds e1 r1 q => hR W1 H1 vs ds Q Qh e1.s r1 q fun v W2 H2 d e2 r2 q2 => k v W2 H2 d (e1.trans e2) r2 q2, x⟩
theorem d_cb (hc : CallR X (.builtin idn) r) (hR : CSnd K r R) (hg : Gl X x) (hm : X.mg x = none) (hv : bootBuiltins x = some (.builtin idn)) (ha : PA X (e :: es) (tDAT K E A)) (hn : x ≠ "__name__" := by decide) (hdb : (x == ("__debug__" : Str)) = false := by decide)
    (hs : starEach (e :: es) X.env = (false, eval e X.env) :: starEach es X.env := by rfl) (hpl : (backTo pos (starEach es X.env)).any (·.1) = false := by rfl) : PE X (.Call (.Name x p) (e :: es) [] pos) (tD K E (fCB R A)) :=
  (pe_callB hc hg hm hv ha hn hdb hs hpl).mono fun _ _ _ h => cb_to hR h
theorem d_ct (hc : CallR X (.type Tn) r) (hR : CSnd K r R) (hg : Gl X x) (hm : X.mg x = none) (hv : bootBuiltins x = some (.type Tn)) (ha : PA X (e :: es) (tDAT K E A)) (hn : x ≠ "__name__" := by decide) (hdb : (x == ("__debug__" : Str)) = false := by decide)
    (hs : starEach (e :: es) X.env = (false, eval e X.env) :: starEach es X.env := by rfl) (hpl : (backTo pos (starEach es X.env)).any (·.1) = false := by rfl) : PE X (.Call (.Name x p) (e :: es) [] pos) (tD K E (fCB R A)) :=
  (pe_callTy hc hg hm hv ha hn hdb hs hpl).mono fun _ _ _ h => cb_to hR h
theorem ts1 {W H : Hp} {xs : List V} {d : D} (h : RepTs K W H xs [d]) : ∃ v, xs = [v] ∧ RepT K W H v d := by
  cases h with
  | cons r rs => cases rs; exact ⟨_, rfl, r⟩
theorem ts2 {W H : Hp} {xs : List V} {d d' : D} (h : RepTs K W H xs [d, d']) : ∃ v v', xs = [v, v'] ∧ RepT K W H v d ∧ RepT K W H v' d' := by
  cases h with
  | cons r rs =>
    obtain ⟨v', z, r'⟩ := ts1 rs
    subst z
    exact ⟨_, v', rfl, r, r'⟩
/-- len -/
def lenD : D → Option Nat
  | .lst ds => some ds.length
  | .tup ds => some ds.length
  | .dic ks _ => some ks.length
  | .lsk ds => some ds.length
  | .str z => if z.length ≤ sizeLine then some z.length else none
  | _ => none
def RLen (ds : List D) (Q : D → Prop) : Prop := ∃ d n, ds = [d] ∧ lenD d = some n ∧ Q (.int (n : Nat))
def rLenA (K : PySem.W.Frag) : List V → Hp → VK → Prop := fun xs H Q => (rLenK K xs H Q ∨ ∃ z, xs = [.str z] ∧ z.length ≤ sizeLine ∧ Q (.int z.length) H) ∨ ∃ a kvs, xs = [V.ref a] ∧ Rd H a (.dK kvs) ∧ Q (.int kvs.length) H
theorem jbf {r r' : List V → Hp → VK → Prop} {v : Value} (h : CallR X v r) (h' : CallR X v r') : CallR X v (fun xs H Q => r xs H Q ∨ r' xs H Q) := fun pins s σ H xs us Q I rv q => by
  rcases q with q | q
  · exact h pins s σ H xs us Q I rv q
  · exact h' pins s σ H xs us Q I rv q
theorem jgu : CallR X (.builtin "len") (fun xs H Q => ∃ a kvs, xs = [V.ref a] ∧ Rd H a (.dK kvs) ∧ Q (.int kvs.length) H) := by
  intro pins s σ H xs us Q I r h
  obtain ⟨a, kvs, rfl, ha, q⟩ := h
  obtain ⟨u, rfl, ru⟩ := vals1 r
  cases ru
  exact d_len I ha fun t s' I' => ⟨.int kvs.length, H, I', ⟨t, rfl⟩, q⟩
theorem c_len (hK : X.K = K := by rfl) : CallR X (.builtin "len") (rLenA K) := jbf (jbf (jem hK) call_len_str) jgu
theorem s_len : CSnd K (rLenA K) RLen := fun W H xs ds Q Qh s rr ⟨d, n, z, hd, q⟩ k => by
  subst z
  obtain ⟨v, rfl, r⟩ := ts1 rr
  cases d with
  | lst ds =>
    cases hd
    obtain ⟨p, vs, h1, h2, h3, h4⟩ := r.lst_inv s
    subst h1
    refine .inl (.inl ⟨p, vs, rfl, .inl (SqL.of h2), ?_⟩)
    rw [h3.len]
    exact k _ W H _ (Ex.refl s) (.int _) q
  | tup ds =>
    cases hd
    obtain ⟨p, vs, h1, h2, h3, h4⟩ := r.tup_inv s
    subst h1
    refine .inl (.inl ⟨p, vs, rfl, .inr h2, ?_⟩)
    rw [h3.len]
    exact k _ W H _ (Ex.refl s) (.int _) q
  | str z =>
    have hd : (if z.length ≤ sizeLine then some z.length else none) = some n := hd
    by_cases hz : z.length ≤ sizeLine
    · rw [if_pos hz] at hd
      cases hd
      rw [r.str_inv]
      exact .inl (.inr ⟨z, rfl, hz, k _ W H _ (Ex.refl s) (.int _) q⟩)
    · rw [if_neg hz] at hd
      cases hd
  | dic ks ds =>
    cases hd
    obtain ⟨p, vs, h1, h2, h3, h4, h5⟩ := r.dic_inv s
    subst h1
    refine .inr ⟨p, vs, rfl, h2, ?_⟩
    rw [← List.length_map (f := Prod.fst), h3]
    exact k _ W H _ (Ex.refl s) (.int _) q
  | lsk ds =>
    cases hd
    cases r with
    | val r =>
      cases r with
      | @lsk p vs _ h2 h3 h4 =>
        refine .inl (.inl ⟨p, vs, rfl, .inl (s.l h2), ?_⟩)
        rw [h3.len]
        exact k _ W H _ (Ex.refl s) (.int _) q
  | _ => cases hd
/-- tuple(x) -/
def jfu (ds : List D) (Q : D → Prop) : Prop := ∃ d xs, ds = [d] ∧ seqD d = some xs ∧ Q (.tup xs)
/-- max, min of two numbers -/
def RMax2 (ds : List D) (Q : D → Prop) : Prop := ∃ i j : Int, ds = [.int i, .int j] ∧ Q (.int (if j > i then j else i))
def RMin2 (ds : List D) (Q : D → Prop) : Prop := ∃ i j : Int, ds = [.int i, .int j] ∧ Q (.int (if j < i then j else i))
theorem s_max2 : CSnd K (fun xs H Q => ∃ i j, xs = [.int i, .int j] ∧ Q (.int (if j > i then j else i)) H) RMax2 := fun W H xs ds Q Qh s rr ⟨i, j, z, q⟩ k => by
  subst z
  obtain ⟨v, v', rfl, r, r'⟩ := ts2 rr
  exact ⟨i, j, by rw [r.int_inv, r'.int_inv], k _ W H _ (Ex.refl s) (.int _) q⟩
theorem s_min2 : CSnd K (fun xs H Q => ∃ i j, xs = [.int i, .int j] ∧ Q (.int (if j < i then j else i)) H) RMin2 := fun W H xs ds Q Qh s rr ⟨i, j, z, q⟩ k => by
  subst z
  obtain ⟨v, v', rfl, r, r'⟩ := ts2 rr
  exact ⟨i, j, by rw [r.int_inv, r'.int_inv], k _ W H _ (Ex.refl s) (.int _) q⟩
def strsD : List D → Option (List Str)
  | [] => some []
  | .str b :: ds => (strsD ds).map (b :: ·)
  | _ => none
theorem jkr {W : Hp} : ∀ {ds : List D} {vs : List V} {bs : List Str}, RepAll K W vs ds → strsD ds = some bs → vs = bs.map V.str
  | [], _, _, .nil, h => by cases h; rfl
  | d :: ds, _, bs, .cons r rs, h => by
    cases d with
    | str b =>
      have h : (strsD ds).map (b :: ·) = some bs := h
      cases q : strsD ds with
      | none => rw [q] at h; cases h
      | some cs =>
        rw [q] at h
        cases h
        cases r
        rw [jkr rs q]
        rfl
    | _ => cases h
def fJoin (F G : FE) : FE := fun ρ Q Z => F ρ (fun a => ∃ s, a = .str s ∧ G ρ (fun d => ∃ xs ys, seqD d = some xs ∧ strsD xs = some ys ∧ (ys.map (·.length)).sum + ys.length * s.length ≤ 16777216 ∧ Q (.str (Txt.join s ys))) Z) Z
theorem jks (ho : PE X o (tD K E F)) (he : PE X e (tDT K E G)) (hK : X.K = K := by rfl) (hs : starEach [e] X.env = [(false, eval e X.env)] := by rfl) (hbase : attributeBase o "join" X.env (eval o X.env) = eval o X.env := by rfl) (hline : (apos.endLine == pos.line) = true := by rfl) :
    PE X (.Call (.Attribute o "join" apos) [e] [] pos) (tD K E (fJoin F G)) := (jhT ho he hK hs hbase hline).mono fun σ H Qh ⟨W0, H0, W, ρ, Q, Z, st, f, k, x⟩ => by
  refine ⟨W0, H0, W, ρ, _, Z, st, f, fun v W1 H1 d e1 r ⟨s, z, q⟩ => ?_, x⟩
  subst z
  cases r
  refine ⟨⟨s, rfl⟩, W0, H0, W1, ρ, _, Z, st.ext e1, q, fun v2 W2 H2 d2 e2 r2 ⟨xs, ys, h1, h2, h3, q2⟩ => ?_, x.ext e1⟩
  obtain ⟨p, vs, g1, g2, g3, g4⟩ := r2.seq_inv e2.s h1
  subst g1
  rw [jkr g3 h2] at g2
  exact ⟨s, p, ys, rfl, rfl, g2, h3, k _ W2 H2 _ (e1.trans e2) (.str _) q2⟩
end
end Pu
namespace Pu
open PySem PySem.Spec PyProof.Rows L2 Ly
section
variable {X : Cx} {K : PySem.W.Frag} {E : XK} {W0 H0 : Hp} {F G L : FE} {T U : FT} {A N : FA} {S S' : FS} {g : Fn} {tg e a b o : Expr} {es : List Expr} {p pos apos : Pos} {i j k n : Nat} {x m f : Str} {C : Addr} {st : Stmt} {body : List Stmt}
theorem jhX {gh : TG} {gg : FG} {vs : List Nat} (gs : GSnd K gh gg vs) (h : PS X st (tAsg (tLc (tDI K E A) gh (tDB K E0 T) (tD K E0 F) vs) (gName i))) : PS X st (tDS K W0 H0 E (sAsg i (fNew (fLc A gg T F vs)))) := h.mono fun D σ H ⟨W, ρ, De, s, q, o⟩ =>
  lc_to (K := K) (E := E) (A := A) (T := T) (F := F) (g := gg) (fun _ _ _ q => q) gs (fun _ _ _ q => q) (fun _ _ _ q => q) ⟨W0, H0, W, ρ, _, _, s, q, fun p vs W' H' ds e hp hw h' r n z =>
    o.nx _ _ _ H' (e.w.trans (Gx.new hw)) ((s.ext (e.see hp hw h')).set (.lst upd_same (r.gx (Gx.new hw)) n)) z, o.xc s⟩
end
theorem hr65 {k : Nat} {A : Around} (hr : Room k A) : A.units + 65 < cLine := by have := hr.un; omega
end Pu
namespace Pu
open PySem PySem.Spec PyProof.Rows L2 Ly
def keyD : D → Option Key
  | .int i => some (.inl i)
  | .str x => some (.inr x)
  | _ => none
def putKs (ks : List Key) (k : Key) : List Key := if (ks.any fun x => decide (x = k)) = true then ks else ks ++ [k]
def putDs (ks : List Key) (ds : List D) (k : Key) (d : D) : List D := if (ks.any fun x => decide (x = k)) = true then List.zipWith (fun x y => if x = k then d else y) ks ds else ds ++ [d]
section
variable {K : PySem.W.Frag} {W H : Hp}
theorem key_v {v : V} {d : D} {k : Key} (r : Rep K W v d) (h : keyD d = some k) : v = kV k := by
  cases r <;> cases h <;> rfl
theorem any_k {k : Key} : ∀ kvs : List (Key × V), (kvs.any fun kv => decide (kv.1 = k)) = ((kvs.map Prod.fst).any fun x => decide (x = k))
  | [] => rfl
  | p :: kvs => by rw [List.any_cons, List.map_cons, List.any_cons, any_k kvs]
theorem jlb {k : Key} {v : V} {d : D} {kvs : List (Key × V)} {ds : List D} (r : Rep K W v d) (rs : RepAll K W (kvs.map Prod.snd) ds) : (putK kvs k v).map Prod.fst = putKs (kvs.map Prod.fst) k ∧ RepAll K W ((putK kvs k v).map Prod.snd) (putDs (kvs.map Prod.fst) ds k d) := by
  unfold putK putKs putDs
  rw [any_k]
  by_cases h : ((kvs.map Prod.fst).any fun x => decide (x = k)) = true
  · rw [if_pos h, if_pos h, if_pos h]
    clear h
    have : ∀ {kvs : List (Key × V)} {ds : List D}, RepAll K W (kvs.map Prod.snd) ds → (kvs.map fun kv => if kv.1 = k then (kv.1, v) else kv).map Prod.fst = kvs.map Prod.fst ∧ RepAll K W ((kvs.map fun kv => if kv.1 = k then (kv.1, v) else kv).map Prod.snd) (List.zipWith (fun x y => if x = k then d else y) (kvs.map Prod.fst) ds) := by
      intro kvs
      induction kvs with
      | nil =>
        intro ds h
        cases h
        exact ⟨rfl, .nil⟩
      | cons p kvs ih =>
        intro ds h
        cases h with
        | cons r1 rs =>
          obtain ⟨h1, h2⟩ := ih rs
          refine ⟨?_, ?_⟩
          · rw [List.map_cons, List.map_cons, h1, List.map_cons]
            congr 1
            split <;> rfl
          · rw [List.map_cons, List.map_cons, List.map_cons, List.zipWith_cons_cons]
            refine .cons ?_ h2
            split
            · exact r
            · exact r1
    exact this rs
  · rw [if_neg h, if_neg h, if_neg h]
    refine ⟨by rw [List.map_append]; rfl, ?_⟩
    rw [List.map_append]
    exact rs.app (.one r)
end
section
variable {X : Cx} {K : PySem.W.Frag} {E : XK} {W0 H0 : Hp} {F G L : FE} {T U : FT} {A N : FA} {S S' : FS} {g : Fn} {tg e a b o : Expr} {es : List Expr} {p pos apos : Pos} {i j k n : Nat} {x m f : Str} {C : Addr} {st : Stmt} {body : List Stmt}
/-- an expression that makes a dict -/
abbrev FDi := Env → (List Key → List D → Prop) → ZX → Prop
def tDD (K : PySem.W.Frag) (E : XK) (F : FDi) : TE := fun σ H Qh => ∃ W0 H0 W ρ Q Z, Sat K W0 H0 W ρ σ H ∧ F ρ Q Z ∧
  (∀ p kvs W' H' ds, Ex W H W' H' → H p = none → W' p = none → H' p = some (.dK kvs) → RepAll K W' (kvs.map Prod.snd) ds → kvs.length ≤ sizeLine → Q (kvs.map Prod.fst) ds → Qh (.ref p) H') ∧ XC K E W H Z
def fDic (F : FDi) : FE := fun ρ Q Z => F ρ (fun ks ds => Q (.dic ks ds)) Z
variable {Fd : FDi}
theorem d_dd (h : PE X e (tDD K E Fd)) : PE X e (tD K E (fDic Fd)) := h.mono fun σ H Qh ⟨W0, H0, W, ρ, Q, Z, st, f, k, x⟩ => ⟨W0, H0, W, ρ, _, Z, st, f, fun p kvs W' H' ds e hp hw h' r n q =>
  k _ _ H' _ (e.see hp hw h') (.dic (.inl upd_same) rfl (r.gx (Gx.new hw)) n) q, x⟩
abbrev FP := Env → (List (D × D) → Prop) → ZX → Prop
def jfj : List Key → List (Key × D) → List Key
  | ks, [] => ks
  | ks, p :: ps => jfj (putKs ks p.1) ps
def jfk : List Key → List D → List (Key × D) → List D
  | _, ds, [] => ds
  | ks, ds, p :: ps => jfk (putKs ks p.1) (putDs ks ds p.1 p.2) ps
def keysD : List (D × D) → Option (List (Key × D))
  | [] => some []
  | p :: ps => match keyD p.1, keysD ps with
    | some k, some r => some ((k, p.2) :: r)
    | _, _ => none
theorem jgH {W : Hp} : ∀ {more : List (Key × V)} {rs : List (Key × D)}, Paired (fun (p : Key × V) (q : Key × D) => p.1 = q.1 ∧ Rep K W p.2 q.2) more rs → ∀ {kvs : List (Key × V)} {ds : List D}, RepAll K W (kvs.map Prod.snd) ds →
    (mergeK kvs more).map Prod.fst = jfj (kvs.map Prod.fst) rs ∧ RepAll K W ((mergeK kvs more).map Prod.snd) (jfk (kvs.map Prod.fst) ds rs)
  | _, _, .nil, kvs, ds, h => ⟨rfl, h⟩
  | _, _, .cons (a := p) (b := q) h t, kvs, ds, r => by
    obtain ⟨h1, h2⟩ := jlb (k := p.1) h.2 r
    obtain ⟨g1, g2⟩ := jgH t h2
    show (mergeK (putK kvs p.1 p.2) _).map Prod.fst = jfj (putKs (kvs.map Prod.fst) q.1) _ ∧ RepAll K W ((mergeK (putK kvs p.1 p.2) _).map Prod.snd) (jfk (putKs (kvs.map Prod.fst) q.1) (putDs (kvs.map Prod.fst) ds q.1 q.2) _)
    rw [← h.1, ← h1]
    exact ⟨g1, g2⟩
end
end Pu
namespace Pu
open PySem PySem.Spec PyProof.Rows L2 Ly
theorem _root_.L2.PE.or {X : Cx} {e : Expr} {t u : TE} (h : PE X e t) (h2 : PE X e u) : PE X e (fun σ H Q => t σ H Q ∨ u σ H Q) := ⟨fun pins s σ H Q I q => by
  rcases q with q | q
  · exact h.run pins s σ H Q I q
  · exact h2.run pins s σ H Q I q⟩
section
variable {X : Cx} {K : PySem.W.Frag} {E : XK} {W0 H0 : Hp} {F G L Fk Fv : FE} {T U : FT} {A N : FA} {S S' : FS} {tg e a b o : Expr} {es : List Expr} {p pos apos : Pos} {i j k n : Nat} {x m f : Str} {C : Addr} {st : Stmt} {body : List Stmt} {g : FG} {gh : TG} {td : TE} {scope : Scope} {own : List (Str × Nat)} {ifs : List Expr} {elt iter kx vx : Expr}
  {mk : Addr → Obj → List (Key × V) → It} {its : List Key → List D → List D}
def tPs (K : PySem.W.Frag) (E : XK) : List (FE × FE) → List (TE × TE) := List.map fun p => (tD K E p.1, tD K E p.2)
def jfW : List (FE × FE) → FP
  | [] => fun _ Q _ => Q []
  | (k, v) :: r => fun ρ Q Z => k ρ (fun x => v ρ (fun y => jfW r ρ (fun ps => Q ((x, y) :: ps)) Z) Z) Z
theorem jfX {σ : L2.St} : ∀ {fs : List (FE × FE)} {H : Hp} {W0 H0 W : Hp} {ρ : Env} {Q : List (D × D) → Prop} {Z : ZX} {R : List (V × V) → Hp → Prop}, Sat K W0 H0 W ρ σ H → jfW fs ρ Q Z → XC K E W H Z →
    (∀ vs W' H' ps, Ex W H W' H' → Paired (fun (p : V × V) (q : D × D) => Rep K W' p.1 q.1 ∧ Rep K W' p.2 q.2) vs ps → Q ps → R vs H') → tPairs (tPs K E fs) σ H R
  | [], H, W0, H0, W, ρ, Q, Z, R, st, f, x, k => k [] W H [] (Ex.refl st.see) .nil f
  | (a, b) :: fs, H, W0, H0, W, ρ, Q, Z, R, st, f, x, k => by
    refine ⟨W0, H0, W, ρ, _, Z, st, f, fun v W1 H1 d e1 r q => ?_, x⟩
    refine ⟨W0, H0, W1, ρ, _, Z, st.ext e1, q, fun v2 W2 H2 d2 e2 r2 q2 => ?_, x.ext e1⟩
    refine jfX (st.ext (e1.trans e2)) q2 (x.ext (e1.trans e2)) fun vs W3 H3 ps e3 rp q3 => k _ W3 H3 _ ((e1.trans e2).trans e3) (.cons ⟨r.gx (e2.trans e3).w, r2.gx e3.w⟩ rp) q3
def fDisp (fs : List (FE × FE)) : FDi := fun ρ Q Z => jfW fs ρ (fun ps => ∃ kds, keysD ps = some kds ∧ ps.length ≤ 15 ∧ Q (jfj [] kds) (jfk [] [] kds)) Z
theorem jkt {W : Hp} : ∀ {vs : List (V × V)} {ps : List (D × D)} {kds : List (Key × D)}, Paired (fun (p : V × V) (q : D × D) => Rep K W p.1 q.1 ∧ Rep K W p.2 q.2) vs ps → keysD ps = some kds →
    ∃ kvs : List (Key × V), vs = kvs.map (fun kv => (kV kv.1, kv.2)) ∧ kvs.length = ps.length ∧ Paired (fun (p : Key × V) (q : Key × D) => p.1 = q.1 ∧ Rep K W p.2 q.2) kvs kds
  | _, _, _, .nil, h => by cases h; exact ⟨[], rfl, rfl, .nil⟩
  | _, _, kds, .cons (a := v) (b := p) (l₁ := vs) (l₂ := ps) h t, hk => by
    simp only [keysD] at hk
    cases h1 : keyD p.1 with
    | none => rw [h1] at hk; cases hk
    | some kk =>
      cases h2 : keysD ps with
      | none => rw [h1, h2] at hk; cases hk
      | some r =>
        rw [h1, h2] at hk
        cases hk
        obtain ⟨kvs, g1, g2, g3⟩ := jkt t h2
        refine ⟨(kk, v.2) :: kvs, ?_, by rw [List.length_cons, List.length_cons, g2], .cons ⟨rfl, h.2⟩ g3⟩
        rw [List.map_cons, ← g1]
        congr 1
        exact Prod.ext (key_v h.1 h1) rfl
theorem d_disp {keys : List (Option Expr)} {values : List Expr} {fs : List (FE × FE)} (h : PE X (.Dict keys values pos) (tDisp (tPs K E fs))) : PE X (.Dict keys values pos) (tDD K E (fDisp fs)) := h.mono fun σ H Qh ⟨W0, H0, W, ρ, Q, Z, st, f, k, x⟩ p hp => by
  have e0 := Ex.hid (o := .dK []) st.see hp
  refine jfX (st.ext e0) f (x.ext e0) fun vs W1 H1 ps e1 rp ⟨kds, hk, hl, q⟩ => ?_
  have hw : W1 p = none := e1.hide (st.see.free hp) upd_same (fun _ z => by cases z)
  obtain ⟨kvs, g1, g2, g3⟩ := jkt rp hk
  obtain ⟨g4, g5⟩ := jgH g3 (kvs := []) (ds := []) .nil
  refine ⟨e1.h _ _ upd_same, kvs, g1, by omega, k p _ W1 _ _ (Ex.mut (e0.trans e1) hp hw) hp hw upd_same g5 ?_ ?_⟩
  · have h1 := length_mergeK kvs []
    rw [List.length_nil] at h1
    rw [sizeLine_eq]; omega
  · rw [g4]
    exact q
end
end Pu
namespace Pu
open PySem PySem.Spec PyProof.Rows L2 Ly
end Pu
namespace TM
open PySem L2 Ly
mutual
def PT (H : Hp) : Tr → V → Prop
  | .nd w ts, v => ∃ p q vs, v = .ref p ∧ H p = some (.tup [.str w, .ref q]) ∧ H q = some (.tup vs) ∧ PTL H ts vs
def PTL (H : Hp) : List Tr → List V → Prop
  | [], vs => vs = []
  | t :: ts, vs => ∃ v r, vs = v :: r ∧ PT H t v ∧ PTL H ts r
end
mutual
theorem PT.firm {H H' : Hp} (e : Kx H H') (t : Tr) : ∀ v, PT H t v → PT H' t v := by
  cases t with
  | nd w ts =>
    intro v h
    unfold PT at h ⊢
    obtain ⟨p, q, vs, z, h1, h2, h3⟩ := h
    exact ⟨p, q, vs, z, e.tup h1, e.tup h2, PTL.firm e ts vs h3⟩
theorem PTL.firm {H H' : Hp} (e : Kx H H') (ts : List Tr) : ∀ vs, PTL H ts vs → PTL H' ts vs := by
  cases ts with
  | nil =>
    intro vs h
    unfold PTL at h ⊢
    exact h
  | cons t ts =>
    intro vs h
    unfold PTL at h ⊢
    obtain ⟨v, r, z, h1, h2⟩ := h
    exact ⟨v, r, z, PT.firm e t v h1, PTL.firm e ts r h2⟩
end
theorem PT.gx {H H' : Hp} (e : Gx H H') {t : Tr} {v : V} (h : PT H t v) : PT H' t v := PT.firm e.k t v h
theorem PTL.gx {H H' : Hp} (e : Gx H H') {ts : List Tr} {vs : List V} (h : PTL H ts vs) : PTL H' ts vs := PTL.firm e.k ts vs h
theorem PT.ex {H : Hp} {w : Str} {ts : List Tr} {v : V} (h : PT H (.nd w ts) v) : ∃ p q vs, v = .ref p ∧ H p = some (.tup [.str w, .ref q]) ∧ H q = some (.tup vs) ∧ PTL H ts vs := by
  unfold PT at h
  exact h
theorem PTL.nil {H : Hp} : PTL H [] [] := by
  unfold PTL
  rfl
theorem PTL.cons {H : Hp} {t : Tr} {ts : List Tr} {v : V} {vs : List V} (h : PT H t v) (k : PTL H ts vs) : PTL H (t :: ts) (v :: vs) := by
  unfold PTL
  exact ⟨v, vs, rfl, h, k⟩
theorem PTL.len {H : Hp} : ∀ {ts : List Tr} {vs : List V}, PTL H ts vs → vs.length = ts.length
  | [], vs, h => by
    unfold PTL at h
    rw [h]
    rfl
  | t :: ts, vs, h => by
    unfold PTL at h
    obtain ⟨v, r, rfl, _, h⟩ := h
    rw [List.length_cons, List.length_cons, PTL.len h]
theorem PTL.get {H : Hp} : ∀ {ts : List Tr} {vs : List V}, PTL H ts vs → ∀ {i : Nat} {v : V}, vs[i]? = some v → ∃ t, ts[i]? = some t ∧ PT H t v
  | [], vs, h, i, v, q => by
    unfold PTL at h
    subst h
    cases q
  | t :: ts, vs, h, i, v, q => by
    unfold PTL at h
    obtain ⟨x, r, rfl, h1, h2⟩ := h
    cases i with
    | zero => cases q; exact ⟨t, rfl, h1⟩
    | succ i => exact PTL.get h2 (i := i) q
theorem PTL.of {H : Hp} {P : Tr → Prop} : ∀ {vs : List V}, (∀ v ∈ vs, ∃ t, PT H t v ∧ P t) → ∃ ts, PTL H ts vs ∧ ∀ t ∈ ts, P t
  | [], _ => ⟨[], PTL.nil, fun t h => by cases h⟩
  | v :: vs, h => by
    obtain ⟨t, h1, h2⟩ := h v (List.mem_cons_self ..)
    obtain ⟨ts, h3, h4⟩ := PTL.of fun u hu => h u (List.mem_cons_of_mem _ hu)
    refine ⟨t :: ts, h3.cons h1, fun u hu => ?_⟩
    rcases List.mem_cons.mp hu with rfl | hu
    · exact h2
    · exact h4 u hu
/-- words of a table, or leaves -/
def Fit (D : List Nd) (ls : List Str) (t : Tr) : Prop := ∀ n ∈ t.nodes, n ∈ D ∨ (n.1 ∈ ls ∧ n.2 = 0)
theorem jfb {n : Nd} : ∀ {ts : List Tr}, n ∈ jfa ts → ∃ t ∈ ts, n ∈ t.nodes
  | t :: ts, h => by
    rcases List.mem_append.mp (show n ∈ t.nodes ++ jfa ts from h) with q | q
    · exact ⟨t, List.mem_cons_self .., q⟩
    · obtain ⟨u, h1, h2⟩ := jfb q
      exact ⟨u, List.mem_cons_of_mem _ h1, h2⟩
theorem Fit.nd {D : List Nd} {ls : List Str} {w : Str} {ts : List Tr} (h : (w, ts.length) ∈ D ∨ (w ∈ ls ∧ ts.length = 0)) (k : ∀ t ∈ ts, Fit D ls t) : Fit D ls (.nd w ts) := fun n hn => by
  rcases List.mem_cons.mp (show n ∈ (w, ts.length) :: jfa ts from hn) with rfl | q
  · exact h
  · obtain ⟨t, h1, h2⟩ := jfb q
    exact k t h1 n h2
end TM
namespace TM
open PySem L2 Ly
def LstE (xs : List V) : Ty := fun v H => ∃ p, v = .ref p ∧ H p = some (.lst xs)
theorem LstE.mono {xs : List V} : Mono (LstE xs) := fun _ _ _ e ⟨p, z, h⟩ => ⟨p, z, e _ _ h⟩
end TM
namespace Ly
open PySem L2
end Ly
namespace Pu
open PySem PySem.Spec PyProof.Rows L2 Ly
end Pu
namespace Pu
open PySem PySem.Spec PyProof.Rows L2 Ly
section
variable {P : Program} {w : World} {K : PySem.W.Frag} {mg : Str → Option Value} {base : Heap} {k : Nat} {f : Addr} {fd : FuncData} {ps : List Str}
def FPick : Fn := fun ds Q _ => ∃ xs : List D, ds = [.dice, .lst xs] ∧ 0 < xs.length ∧ xs.length < 1073741824 ∧ ∀ x ∈ xs, Q x
def FDice : Fn := fun ds Q _ => ∃ (ns : List Int) (n : Nat), ds = [.lsk (ns.map .int), .int (n : Int)] ∧ Q .dice
theorem dice_v {W : Hp} {v : V} (h : Rep K W v .dice) : ∃ a, v = .ref a ∧ W a = some (diceO a) := by
  cases h with
  | dice h => exact ⟨_, rfl, h⟩
theorem jgI {W : Hp} : ∀ {vs : List V} {ds : List D}, RepAll K W vs ds → ∀ (j : Nat) (v : V), vs[j]? = some v → ∃ d, d ∈ ds ∧ Rep K W v d
  | [], _, _, j, v, h => by simp at h
  | u :: vs, _, .cons r rs, 0, v, h => by
    cases h
    exact ⟨_, List.mem_cons_self .., r⟩
  | u :: vs, _, .cons r rs, j + 1, v, h => by
    obtain ⟨d, h1, h2⟩ := jgI rs j v (by simpa using h)
    exact ⟨d, List.mem_cons_of_mem _ h1, h2⟩
theorem jgJ {W : Hp} : ∀ {vs : List V} {ds : List D}, RepAll K W vs ds → vs.length = ds.length
  | _, _, .nil => rfl
  | _, _, .cons r rs => by rw [List.length_cons, List.length_cons, jgJ rs]
theorem jlc (F : FnOk P w K mg base CX0 k f fd ps (jkn K)) : FnOk P w K mg base (L2.CX P w) k f fd ps (spD K 2 FPick) := (fn_cx F).imp fun vs H Qh E ⟨W, ds, Q, Z, s, r, hl, ⟨xs, z, h1, h2, q⟩, kk, _⟩ => by
  subst z
  cases r with
  | cons r1 r =>
    cases r with
    | cons r2 r =>
      cases r
      obtain ⟨a, rfl, ha⟩ := dice_v r1
      cases r2 with
      | @lst b us _ g1 g2 g3 =>
        have hlen := jgJ g2
        exact ⟨a, b, us, rfl, s _ _ ha, SqL.of (s _ _ g1), by omega, by omega, fun j x hx => by
          obtain ⟨d, e1, e2⟩ := jgI g2 j x hx
          exact kk _ W H _ (Ex.refl s) e2 (q d e1)⟩
theorem jku {W : Hp} : ∀ {vs : List V} {ns : List Int}, RepAll K W vs (ns.map D.int) → vs = ns.map V.int
  | [], [], _ => rfl
  | v :: vs, z :: zs, .cons r rs => by
    cases r
    rw [jku rs]
    rfl
  | [], z :: zs, h => by cases h
  | v :: vs, [], h => by cases h
theorem jkv {W : Hp} : ∀ ns : List Int, RepAll K W (ns.map V.int) (ns.map D.int)
  | [] => .nil
  | z :: zs => .cons (.int z) (jkv zs)
theorem jhY (F : FnOk P w K mg base CX0 k f fd ps (jkm K)) : FnOk P w K mg base (L2.CX P w) k f fd ps (spD K 2 FDice) := (fn_cx F).imp fun vs H Qh E ⟨W, ds, Q, Z, s, r, hl, ⟨ns, n, z, q⟩, kk, _⟩ => by
  subst z
  cases r with
  | cons r1 r =>
    cases r with
    | cons r2 r =>
      cases r
      cases r2
      cases r1 with
      | @lsk a us _ h1 h2 h3 =>
        rw [jku h2] at h1
        exact ⟨a, ns, n, rfl, s.l h1, fun p hp => kk _ _ _ _ (Ex.new s hp) (.dice upd_same) q⟩
end
end Pu
namespace Pu
open PySem PySem.Spec PyProof.Rows L2 Ly
/-- one clause: its class, the slot of its name, its suite -/
structure Cl where
  c : Value
  nm : Option Nat
  ts : Addr → Value → Option Addr → TS
def NmOk (X : Cx) : Option Str → Option Nat → Prop
  | none, none => True
  | some n, some i => X.N[i]? = some n ∧ X.env.kindOf n = some .local
  | _, _ => False
inductive ClsOk (X : Cx) : List ExceptHandler → List Cl → Prop
  | nil : ClsOk X [] []
  | cons {x : Str} {q : Cl} {n : Option Str} {b1 : Stmt} {su : List Stmt} {p1 p2 : Pos} {hs : List ExceptHandler} {qs : List Cl} (hc : Names X x q.c) (hn : NmOk X n q.nm)
      (hsu : ∀ (a : Addr) (ob : Obj) (cls : Value) (d : Option Addr) (pn : List (Addr × Obj)), Zc cls d ob → (∃ fs, ob.data = .fields fs) → PSs (X.suite a ((a, ob) :: pn)) (b1 :: su) (q.ts a cls d)) (r : ClsOk X hs qs) :
      ClsOk X (.ExceptHandler (some (.Name x p1)) n (b1 :: su) p2 :: hs) (q :: qs)
end Pu
namespace Pu
open PySem PySem.Spec PyProof.Rows L2 Ly
/-- a clause -/
structure HC where
  C : Addr
  nm : Option Nat
  S : Exn → Addr → Value → Option Addr → FS
def exC : Exn → Addr
  | .bare C => C
  | .kept C _ _ => C
section
variable {X : Cx} {K : PySem.W.Frag} {E : XK} {W0 H0 : Hp}
def tDH (K : PySem.W.Frag) (W0 H0 : Hp) (E : XK) (q : HC) (a : Addr) (cls : Value) (d : Option Addr) : TS := fun Dh σ H => ∃ x, tDS K W0 H0 E (q.S x a cls d) Dh σ H
def clOf (K : PySem.W.Frag) (W0 H0 : Hp) (E : XK) (q : HC) : Cl := ⟨.ref q.C, q.nm, tDH K W0 H0 E q⟩
theorem pss_ex {α : Type} {X : Cx} {su : List Stmt} {t : α → TS} (h : ∀ x, PSs X su (t x)) : PSs X su (fun D σ H => ∃ x, t x D σ H) := ⟨fun pins s σ H D I ⟨x, q⟩ => (h x).run pins s σ H D I q⟩
inductive HcOk (X : Cx) (K : PySem.W.Frag) (W0 H0 : Hp) (E : XK) : List ExceptHandler → List HC → Prop
  | nil : HcOk X K W0 H0 E [] []
  | cons {x : Str} {q : HC} {n : Option Str} {b1 : Stmt} {su : List Stmt} {p1 p2 : Pos} {hs : List ExceptHandler} {qs : List HC} (hc : Names X x (.ref q.C)) (hn : NmOk X n q.nm)
      (hsu : ∀ (a : Addr) (ob : Obj) (cls : Value) (d : Option Addr) (pn : List (Addr × Obj)), Zc cls d ob → (∃ fs, ob.data = .fields fs) → ∀ x, PSs (X.suite a ((a, ob) :: pn)) (b1 :: su) (tDS K W0 H0 E (q.S x a cls d))) (r : HcOk X K W0 H0 E hs qs) :
      HcOk X K W0 H0 E (.ExceptHandler (some (.Name x p1)) n (b1 :: su) p2 :: hs) (q :: qs)
theorem HcOk.cls : ∀ {hs : List ExceptHandler} {qs : List HC}, HcOk X K W0 H0 E hs qs → ClsOk X hs (qs.map (clOf K W0 H0 E))
  | _, _, .nil => .nil
  | _, _, .cons hc hn hsu r => .cons (q := clOf K W0 H0 E _) hc hn (fun a ob cls d pn z f => pss_ex (hsu a ob cls d pn z f)) r.cls
end
/-- what is known of a class of errors whose field f is read -/
structure ErF (K : PySem.W.Frag) (C : Addr) (f : Str) : Prop where
  xf : XfC K C
  no : PySem.W.findIn K (.ref C) f = some none
def spXi (C : Addr) (f : Str) : Sp := fun vs H Q _ => ∃ a v, vs = [.ref a, v] ∧ H a = some (exo a C none) ∧ ∀ dx, H dx = none → dx ≠ a → Q .non (upd (upd H dx (exd dx [(f, v)])) a (exo a C (some dx)))
section
variable {X : Cx} {K : PySem.W.Frag} {E : XK} {A : FA} {g : Fn} {o e : Expr} {es : List Expr} {x m y : Str} {C : Addr} {k n i : Nat} {p pos apos : Pos}
/-- repr(None), repr of a number -/
def rRepr : List V → Hp → VK → Prop := fun xs H Q => (xs = [.non] ∧ Q (.str "None") H) ∨ ∃ i : Int, xs = [.int i] ∧ i.natAbs.log2 < 1920 ∧ Q (.str (toString i)) H
theorem c_repr : CallR X (.builtin "repr") rRepr := by
  intro pins s σ H xs us Q I r h
  rcases h with ⟨rfl, q⟩ | ⟨i, rfl, hi, q⟩
  · obtain ⟨u, rfl, ru⟩ := vals1 r
    obtain rfl : u = Value.none := ru
    exact PySem.P.repr_of_none ⟨.str _, H, I.tok _, ⟨_, rfl⟩, q⟩
  · obtain ⟨u, rfl, ru⟩ := vals1 r
    obtain ⟨t, rfl⟩ := ru
    exact PySem.P.repr_of_int hi ⟨.str _, H, I.tok _, ⟨_, rfl⟩, q⟩
def RRepr (ds : List D) (Q : D → Prop) : Prop := (ds = [.non] ∧ Q (.str "None")) ∨ ∃ i : Int, ds = [.int i] ∧ i.natAbs.log2 < 1920 ∧ Q (.str (toString i))
theorem s_repr : CSnd K rRepr RRepr := fun W H xs ds Q Qh s rr h k => by
  rcases h with ⟨z, q⟩ | ⟨i, z, hi, q⟩
  · subst z
    obtain ⟨v, rfl, r⟩ := ts1 rr
    exact .inl ⟨by rw [r.non_inv], k _ W H _ (Ex.refl s) (.str _) q⟩
  · subst z
    obtain ⟨v, rfl, r⟩ := ts1 rr
    exact .inr ⟨i, by rw [r.int_inv], hi, k _ W H _ (Ex.refl s) (.str _) q⟩
end
end Pu
namespace Pu
open PySem PySem.Spec PyProof.Rows L2 Ly
end Pu
namespace Pu
open PySem PySem.Spec PyProof.Rows L2 Ly
end Pu
namespace Pu
open PySem PySem.Spec PyProof.Rows L2 Ly
section
variable {X : Cx} {K : PySem.W.Frag}
def RRep : D → D → (D → Prop) → Prop
  | .lst ds, .int k, Q => 0 ≤ k ∧ k < 2 ^ 63 ∧ ds.length * k.toNat ≤ sizeLine ∧ Q (.lst (List.replicate k.toNat ds).flatten)
  | _, _, _ => False
theorem jgK {W : Hp} {vs : List V} {ds : List D} (r : RepAll K W vs ds) : ∀ n : Nat, RepAll K W (List.replicate n vs).flatten (List.replicate n ds).flatten
  | 0 => .nil
  | n + 1 => by
    rw [List.replicate_succ, List.replicate_succ, List.flatten_cons, List.flatten_cons]
    exact r.app (jgK r n)
theorem s_rep : RSnd K rRep RRep := fun W H x y a b Q Qh s r1 r2 h k => by
  cases a <;> cases b <;> first
    | exact h.elim
    | skip
  obtain ⟨p, vs, e1, h1, h2, h3⟩ := r1.lst_inv s
  obtain ⟨hk, hk2, hl, q⟩ := h
  have e2 := r2.int_inv
  subst e1
  subst e2
  refine ⟨p, _, vs, rfl, rfl, h1, by omega, hk2, by rw [h2.len]; exact hl, fun l hl2 => ?_⟩
  have r3 := jgK h2
  refine k _ _ _ _ (Ex.new s hl2) (.lst upd_same ((r3 _).gx (Gx.new (s.free hl2))) ?_) q
  rw [List.length_flatten, List.map_replicate, h2.len]
  have e : ∀ (n m : Nat), (List.replicate n m).sum = m * n := fun n m => by
    induction n with
    | zero => simp
    | succ n ih => rw [List.replicate_succ, List.sum_cons, ih, Nat.mul_succ]; omega
  rw [e]
  exact hl
end
end Pu
namespace Pu
open PySem PySem.Spec PyProof.Rows L2 Ly
structure FnG (P : Program) (w : World) (K : PySem.W.Frag) (mg : Str → Option Value) (base : Heap) (CX : CXT) (k : Nat) (f : Addr) (fd : FuncData) (ps : List Str) (sp : Sp) : Prop where
  len : ∀ vs H Q E, sp vs H Q E → vs.length = ps.length
  run : ∀ (A : Around) (outer : List PySem.Env) (s : Shared) (H : Hp) (args : Args) (us : List Value) (vs : List V) (Q : VK) (E : XK),
    Room k A → A.guards = some [] → Env0 P w K mg base A outer s H → BindsTo s fd args (ps.zip us) → Vals vs us → sp vs H Q E →
      codeAny (model P w) A (.call (.ref f) args) (CR CX outer P w H s Q E) s
section
variable {P : Program} {w : World} {K : PySem.W.Frag} {mg : Str → Option Value} {base : Heap}
theorem FnG.of {CX : CXT} {k : Nat} {f : Addr} {fd : FuncData} {ps : List Str} {sp : Sp} (F : FnOk P w K mg base CX k f fd ps sp) : FnG P w K mg base CX k f fd ps sp :=
  ⟨F.len, fun A outer s H args us vs Q E hr _ he hb hv hs => F.run A outer s H args us vs Q E hr he hb hv hs⟩
theorem fng_x {x qual : Str} {st : Stmt} {f : Addr} {fd : FuncData} {N ps : List Str} {k : Nat} {sp : Sp} (F : Fun K x qual st f fd) (S : FnScope N ps (defScope st)) (hlen : ∀ vs H Q E, sp vs H Q E → vs.length = ps.length)
    (hbody : ∀ (cdv : Value) (A : Around) (outer : List PySem.Env) (s : Shared) (H : Hp) (vs : List V) (Q : VK) (E : XK), Room k (A.deeper (envOfC qual (defScope st) s.heap.objs.size f cdv)) → A.guards = some [] → sp vs H Q E →
      ∃ t, PSs (cxOf (L2.CX P w) P w K mg base N qual (defScope st) f cdv A outer s H E) (defBody st) t ∧ t { nx := fun _ H' => Q .non H', rt := Q } (L2.start N vs) H) : FnG P w K mg base (L2.CX P w) (k + 1) f fd ps sp := by
  obtain ⟨oc, od, kV, doc, pm, an, cdv, ct, osl, hfd, look, code⟩ := F.ex
  subst hfd
  refine ⟨hlen, fun A outer s H args us vs Q E room gd env bnd rv want => ?_⟩
  have keepB : ∀ b o, base.get? b = some o → s.heap.get? b = some o := fun b o e => (env.bs b o e).1
  have inK : K.In s.heap := env.mod.kin.keeps keepB
  have noLim : s.heap.NoLimit := env.mod.nolimit.keeps keepB
  have kinds : ∀ y ∈ ps.zip us, (defScope st).names.lookup y.1 = some .local ∨ ((defScope st).names.lookup y.1 = some .cell ∧ ((cellsFrom (s.heap.objs.size + 1) (defScope st).names []).lookup y.1).isSome = true) := by
    rintro ⟨n, v⟩ hy
    rcases S.par n (List.of_mem_zip hy).1 with q | q
    · exact .inl q
    · exact .inr ⟨q, PySem.W.cellsFrom_some _ _ _ (.inl q)⟩
  refine codeAny_call_function room.depth (inK _ _ look) rfl S.co S.gen rfl (PySem.W.codeRec_of inK code) (bnd _ _ _ _ ?_)
  refine wpAny_newFunctionEnv_cells S.kind kinds fun ev hev s1 inside => ?_
  subst hev
  refine ⟨noLim.keeps inside.toInCall.keep, codeAny_func ?_⟩
  obtain ⟨t, ht, hq⟩ := hbody cdv A outer s H vs Q E (room.deeper _) gd want
  have I0 := inv_start (CX := L2.CX P w) (E := E) S room.hd env (hlen _ _ _ _ want) rv inside
  refine wpAny_mono (ht.run [] s1 (L2.start N vs) H _ I0 hq) (fun fl s' done => ?_) (fun _ _ z => z)
  cases fl with
  | ret u =>
    obtain ⟨v, σ', H', J, r2, q2⟩ := done
    exact ⟨v, H', J.os, J.bare, J.base, J.hok, r2, q2⟩
  | next =>
    obtain ⟨σ', H', J, q2⟩ := done
    exact ⟨.non, H', J.os, J.bare, J.base, J.hok, rfl, q2⟩
  | brk =>
    obtain ⟨_, _, _, q2⟩ := done
    exact q2.elim
  | cont =>
    obtain ⟨_, _, _, q2⟩ := done
    exact q2.elim
theorem fn_dG {x qual : Str} {st : Stmt} {f : Addr} {fd : FuncData} {N ps : List Str} {k n : Nat} {g : Fn} {S : FS} (F : Fun K x qual st f fd) (Sc : FnScope N ps (defScope st)) (hn : ps.length = n)
    (hbody : ∀ (cdv : Value) (A : Around) (outer : List PySem.Env) (s : Shared) (H : Hp) (E : XK) (W0 : Hp), Room k (A.deeper (envOfC qual (defScope st) s.heap.objs.size f cdv)) → A.guards = some [] →
      PSs (cxOf (L2.CX P w) P w K mg base N qual (defScope st) f cdv A outer s H E) (defBody st) (tDS K W0 H E S)) (hg : ∀ ds Q Z, ds.length = n → g ds Q Z → fnS N.length S ds Q Z) : FnG P w K mg base (L2.CX P w) (k + 1) f fd ps (spD K n g) :=
  fng_x F Sc (fun vs H Q E ⟨W, ds, _, _, _, r, hl, _⟩ => by rw [r.len, hl, hn]) fun cdv A outer s H vs Q E hr gd ⟨W, ds, Qd, Z, sw, r, hl, hf, k, x⟩ =>
    ⟨_, hbody cdv A outer s H E W hr gd, W, startB N.length ds, _, jft sw rfl r, hg ds Qd Z hl hf, ⟨fun W' ρ' σ' H' _ s' q => k _ W' H' _ s'.ex .non q, fun v W' H' d e r q => k v W' H' d e r q, (fun _ _ _ _ _ _ z => z.elim), (fun _ _ _ _ _ _ z => z.elim), x⟩⟩
structure CalG (P : Program) (w : World) (K : PySem.W.Frag) (mg : Str → Option Value) (base : Heap) (x : Str) (k n : Nat) (g : Fn) : Prop where
  ex : ∃ (f : Addr) (fd : FuncData) (ps : List Str), FnG P w K mg base (L2.CX P w) k f fd ps (spD K n g) ∧ mg x = some (.ref f) ∧ PySem.W.keepIn K (.ref f) = true ∧ Binds K fd ps []
end
section
variable {X : Cx} {K : PySem.W.Frag} {E : XK} {A : FA} {g : Fn} {e : Expr} {es : List Expr} {p pos : Pos} {k n : Nat} {x : Str}
theorem run_g {CX : CXT} {f : Addr} {fd : FuncData} {ps : List Str} {sp : Sp} {pins : List (Addr × Obj)} {σ : L2.St} {H : Hp} {s : Shared} {Q : VK} {us : List Value} {vs : List V} (F : FnG X.prog X.w X.K X.mg X.base CX k f fd ps sp) (hr : Room k X.A) (gd : X.A.guards = some [])
    (hb : Binds X.K fd ps []) (hx : Passes CX X E) (I : Inv X pins σ H s) (r : Vals vs us) (h : sp vs H Q E) : wpAny (model X.prog X.w) X.A (call (.ref f) us) (EP X pins σ Q) X.xe s := by
  have hl : us.length = ps.length := by rw [← r.length]; exact F.len _ _ _ _ h
  have hb2 := hb s us I.kIn (by rw [List.append_nil]; exact hl)
  rw [List.append_nil] at hb2
  refine wpAny_call (codeAny_mono (F.run X.A X.stack s H ⟨us, []⟩ us vs Q E hr gd I.env0 hb2 r h) fun res s' hq => ?_)
  cases res with
  | error e => exact hx pins σ H s e s' I hq
  | ok fl =>
    cases fl with
    | ret u => exact I.after hq
    | next => exact hq.elim
    | brk => exact hq.elim
    | cont => exact hq.elim
theorem jld (c : CalG X.prog X.w X.K X.mg X.base x k n g) (hr : Room k X.A) (gd : X.A.guards = some []) (hg : Gl X x) (hx : Passes (L2.CX X.prog X.w) X E) (ha : PA X (e :: es) (tDA K E A)) (hK : X.K = K := by rfl) (hdb : (x == ("__debug__" : Str)) = false := by decide)
    (he : starEach (e :: es) X.env = (false, eval e X.env) :: starEach es X.env := by rfl) (hpl : (backTo pos (starEach es X.env)).any (·.1) = false := by rfl) : PE X (.Call (.Name x p) (e :: es) [] pos) (tD K E (fCall g n A)) := by
  subst hK
  obtain ⟨f, fd, ps, F, hm, hk, hb⟩ := c.ex
  refine ⟨fun pins s σ H Q I h => ?_⟩
  refine wpAny_Call_Name_kw (ld_glob I hg hm ?_ hdb)
  refine PySem.W.callWith_K (h₀ := X.base) I.ok.mod.kin hk (thn (ha.run pos pins s σ H _ I (sp_to h)) fun us s1 ⟨vs, H1, I1, r, q⟩ => ⟨I1.kIn, ?_⟩) he hpl
  have q : spD X.K n g (vs ++ []) H1 Q E := q
  rw [List.append_nil] at q
  exact run_g F hr gd hb hx I1 r q
def jkw (K : PySem.W.Frag) : List V → Hp → VK → Prop := fun xs H Q => ∃ a d, xs = [.ref a] ∧ Dp K H (.ref a) d ∧ d.showable = true ∧ d.hasDict = false ∧ d.shown.length ≤ sizeLine ∧ d.depth ≤ 60 ∧ Q (.str d.shown) H
theorem jle (gd : X.A.guards = some []) (hu : X.A.units + 64 < cLine) (hK : X.K = K := by rfl) : CallR X (.builtin "repr") (jkw K) := by
  subst hK
  intro pins s σ H xs us Q I r h
  obtain ⟨a, d, rfl, dp, h1, h2, h3, h4, q⟩ := h
  obtain ⟨u, rfl, ru⟩ := vals1 r
  cases ru
  obtain ⟨as, rd⟩ := Dp.reads I d _ _ dp rfl
  exact repr_of_reads' rd h1 (fun z => by rw [h2] at z; cases z) gd (by omega) (fun _ _ z => z) (fun h' u tk kk => ⟨.str _, H, I.kept kk, ⟨_, rfl⟩, q⟩) h3
structure ShO (d : D) : Prop where
  sq : ∃ es, seqD d = some es
  lay : (toP d).canLay0 = true
  sho : (toP d).showable = true
  nod : (toP d).hasDict = false
  sz : (toP d).shown.length ≤ sizeLine
  dep : (toP d).depth ≤ 60
def rReprB : List V → Hp → VK → Prop := fun xs H Q => ∃ b, xs = [.bl b] ∧ Q (.str (if b then "True" else "False")) H
def jgL (K : PySem.W.Frag) : List V → Hp → VK → Prop := fun xs H Q => (rRepr xs H Q ∨ rReprB xs H Q) ∨ jkw K xs H Q
theorem jlf (gd : X.A.guards = some []) (hu : X.A.units + 64 < cLine) (hK : X.K = K := by rfl) : CallR X (.builtin "repr") (jgL K) := jbf (jbf c_repr jgs) (jle gd hu hK)
def jkx (ds : List D) (Q : D → Prop) : Prop := (RRepr ds Q ∨ ∃ b, ds = [.bl b] ∧ Q (.str (if b then "True" else "False"))) ∨ ∃ d, ds = [d] ∧ ShO d ∧ Q (.str (toP d).shown)
theorem jlg : CSnd K (jgL K) jkx := fun W H xs ds Q Qh s rr h kk => by
  rcases h with (h | ⟨b, z, q⟩) | ⟨d, z, o, q⟩
  · exact .inl (.inl (s_repr W H xs ds Q Qh s rr h kk))
  · subst z
    obtain ⟨v, rfl, r⟩ := ts1 rr
    exact .inl (.inr ⟨b, by rw [r.bl_inv], kk _ W H _ (Ex.refl s) (.str _) q⟩)
  · subst z
    obtain ⟨v, rfl, r⟩ := ts1 rr
    obtain ⟨es, hes⟩ := o.sq
    obtain ⟨a, vs, rfl, _⟩ := r.seq_inv s hes
    exact .inr ⟨a, _, rfl, (r.full s).dp o.lay, o.sho, o.nod, o.sz, o.dep, kk _ W H _ (Ex.refl s) (.str _) q⟩
end
section
variable {P : Program} {w : World} {K : PySem.W.Frag} {mg mb : Str → Option Value} {k : Nat} {fa a : Addr} {fd : FuncData} {x : Str} {sp : Sp} {s1 : Shared} {vs : List Value} {ns : List Int}
theorem jgM (inK : K.In s1.heap) (hns : s1.heap.Ns mainGlobals mg) (hb : s1.heap.Ns builtinsNs mb) (hbb : ∀ y : Str, y ≠ "__name__" → mb y = bootBuiltins y) (nl : s1.heap.NoLimit) (ng : s1.gens = #[])
    (ha : s1.heap.get? a = some { cls := .type "list", data := .seq vs.toArray }) (hi : IntsAre vs ns) (hl : ns.length ≤ sizeLine) (room : Room k callerA)
    (F : ∀ base : Heap, K.In base → base.Ns mainGlobals mg → FnG P w K mg base (L2.CX P w) k fa fd [x] sp) (bnd : ∀ (s : Shared) (u : Value), BindsTo s fd ⟨[u], []⟩ [(x, u)])
    (want : ∀ H : Hp, Only H → SqL K H a (ns.map V.int) → sp [.ref a] H (fun v _ => v = .bl true) fun _ _ _ => False) :
    codeAny (model P w) callerA (.call (.ref fa) ⟨[.ref a], []⟩) (fun r s' => r = .ok (.ret (.bool true)) ∧ OldK s1.heap s'.heap ∧ s'.os = s1.os ∧ AllBare s'.gens) s1 := by
  have rv := vals_ints hi
  have lenV := hi.length
  have main : ∀ H : Hp, Only H → SqL K H a (ns.map V.int) → HOk P w H s1.heap → (∀ b, H b ≠ none → b = a) → (H a ≠ none → K.lookup a = none) →
      codeAny (model P w) callerA (.call (.ref fa) ⟨[.ref a], []⟩) (fun r s' => r = .ok (.ret (.bool true)) ∧ OldK s1.heap s'.heap ∧ s'.os = s1.os ∧ AllBare s'.gens) s1 := by
    intro H only sq hok onlyA noK
    have notA : ∀ {b : Addr}, b ≠ a → H b = none := fun {b} nb => by
      cases q : H b with
      | none => rfl
      | some u => exact absurd (onlyA b (by rw [q]; simp)) nb
    have dictN : ∀ {b : Addr} {o : Obj} {es : Array DictEntry} {ep : Nat}, s1.heap.get? b = some o → o.data = .dict es ep → H b = none := fun {b o es ep} e d => notA fun z => by
      subst z
      rw [ha] at e
      cases e
      cases (show Data.seq vs.toArray _ = Data.dict es ep from d)
    have nsN : ∀ {b : Addr} {m : Str → Option Value}, s1.heap.Ns b m → (hidT s1.heap H).Ns b m := fun {b m} ⟨o, es, ep, e, d, r⟩ => ⟨o, es, ep, hidT_get e (dictN e d), d, r⟩
    have kN : ∀ b o, K.lookup b = some o → H b = none := fun b o e => by
      cases q : H b with
      | none => rfl
      | some u =>
        have z := onlyA b (by rw [q]; simp)
        subst z
        rw [noK (by rw [q]; simp)] at e
        cases e
    have hKb : K.In (hidT s1.heap H) := fun b o e => hidT_get (inK b o e) (kN b o e)
    have md : Mod K mg (hidT s1.heap H) := ⟨hKb, nsN hns, ⟨mb, nsN hb, hbb⟩, let ⟨mc, n1, n2⟩ := nl; ⟨mc, nsN n1, n2⟩⟩
    have ev : Env0 P w K mg (hidT s1.heap H) callerA [] s1 H := ⟨rfl, md, fun b o e => of_hidT e, Nat.le_of_eq (hidT_size _ _), trivial, (fun b hb => (nomatch (show b ∈ ([] : List Addr) from hb))), hok, .of_eq ng⟩
    refine codeAny_mono ((F _ hKb (nsN hns)).run callerA [] s1 H ⟨[.ref a], []⟩ [.ref a] [.ref a] _ _ room rfl ev (bnd s1 (.ref a)) (.cons rfl .nil) (want H only sq)) fun r s' h => ?_
    cases r with
    | error e =>
      obtain ⟨_, _, _, _, _, _, _, _, _, _, _, _, hE⟩ := h
      exact hE.elim
    | ok fl =>
      cases fl with
      | next => exact h.elim
      | brk => exact h.elim
      | cont => exact h.elim
      | ret u =>
        obtain ⟨v, H', os, bare, un, hok', r', q⟩ := h
        have q : v = .bl true := q
        subst q
        obtain rfl : u = Value.bool true := r'
        refine ⟨rfl, OldK.of_keep fun b o e => ?_, os, bare⟩
        rcases only b with z | ⟨ob, xs, z⟩
        · exact un.keep b o e z (fun y => (nomatch (show b ∈ ([] : List Addr) from y))) (by simp)
        · obtain ⟨e1, _⟩ := hok b _ z
          obtain ⟨e2, _⟩ := hok' b _ (un.frzs b ob _ z)
          rw [e] at e1
          cases e1
          exact e2
  cases hk : K.lookup a with
  | some o =>
    have e := inK a o hk
    rw [ha] at e
    cases e
    exact main (fun _ => none) (fun _ => .inl rfl) (.inr ⟨_, vs.toArray, _, hk, rfl, rfl, rfl, by rw [List.size_toArray, lenV]; exact hl, by simpa using rv⟩) (fun b u z => by cases (show (none : Option HO) = some u from z)) (fun b z => absurd rfl z) fun z => absurd rfl z
  | none =>
    refine main (fun b => if b = a then some (.frz { cls := .type "list", data := .seq vs.toArray } (.lst (ns.map V.int))) else none) (fun b => ?_) (.inl (.inr ⟨_, if_pos rfl⟩)) (fun b u z => ?_) (fun b z => ?_) fun _ => hk
    · by_cases hb : b = a
      · exact .inr ⟨_, _, if_pos hb⟩
      · exact .inl (if_neg hb)
    · by_cases hb : b = a
      · have z := (if_pos hb).symm.trans z
        cases z
        subst hb
        exact ⟨ha, by rw [List.length_map]; exact hl, vs, _, rv, ha⟩
      · have z := (if_neg hb).symm.trans z
        cases z
    · by_cases hb : b = a
      · exact hb
      · exact absurd (if_neg hb) z
end
end Pu
namespace Pu
open PySem PySem.Spec PyProof.Rows L2 Ly
end Pu
namespace Pu
open PySem PySem.Spec PyProof.Rows L2 Ly PySem.W
section
variable {X : Cx} {K : PySem.W.Frag} {E : XK} {W0 H0 : Hp}
theorem Sat.set_comm {W H : Hp} {ρ : Pu.Env} {σ : L2.St} {i j : Nat} (hij : i ≠ j) {a b : B} {x y : Option V} (h : Sat K W0 H0 W ((ρ.set i a).set j b) ((σ.set i x).set j y) H) : Sat K W0 H0 W ((ρ.set j b).set i a) ((σ.set j y).set i x) H := by
  rw [List.set_comm _ _ hij, List.set_comm _ _ hij] at h
  exact h
end
end Pu
namespace Pu
open PySem PySem.Spec PyProof.Rows L2 Ly PySem.W
end Pu
namespace Pu
open PySem PySem.Spec PyProof.Rows L2 Ly
end Pu
namespace Pu
open PySem PySem.Spec PyProof.Rows L2 Ly
end Pu
namespace Pu
open PySem PySem.Spec PyProof.Rows L2 Ly
end Pu
set_option maxHeartbeats 2000000
namespace LzZ
open PySem PySem.Spec PyProof.Rows L2
open PySem.W (kdx_alive)
/-- the tuples made -/
structure LzG (xs ys : Array Value) (lo : Addr) (h : Heap) (as : List Addr) : Prop where
  rise : as.Pairwise (· < ·)
  above : ∀ a ∈ as, lo < a
  pairs : ∀ (j : Nat) (a : Addr), as[j]? = some a → ∃ x y, xs[j]? = some x ∧ ys[j]? = some y ∧ h.get? a = some { cls := .type "tuple", data := .seq #[x, y] }
theorem LzG.there {xs ys : Array Value} {lo : Addr} {h : Heap} {as : List Addr} (g : LzG xs ys lo h as) {a : Addr} (ha : a ∈ as) : a < h.objs.size := by
  obtain ⟨j, hj⟩ := List.mem_iff_getElem?.mp ha
  obtain ⟨_, _, _, _, e⟩ := g.pairs j a hj
  exact Heap.lt_size e
end LzZ
namespace Pu
open PySem PySem.Spec PyProof.Rows L2 Ly
end Pu
set_option maxHeartbeats 1000000
namespace Pu
open PySem PySem.Spec PyProof.Rows L2 Ly
end Pu
namespace Pu
open PySem PySem.Spec PyProof.Rows L2 Ly
end Pu
namespace Pu
open PySem PySem.Spec PyProof.Rows L2 Ly
end Pu
namespace Pu
open PySem PySem.Spec PyProof.Rows L2 Ly
end Pu
namespace Pu
open PySem PySem.Spec PyProof.Rows L2 Ly
end Pu
namespace Pu
open PySem PySem.Spec PyProof.Rows L2 Ly
end Pu
namespace Pu
open PySem PySem.Spec PyProof.Rows L2 Ly
end Pu
namespace Pu
open PySem PySem.Spec PyProof.Rows L2 Ly
end Pu
namespace Pu
open PySem PySem.Spec PyProof.Rows L2 Ly
end Pu
namespace Pu
open PySem PySem.Spec PyProof.Rows L2 Ly
end Pu
namespace Pu
open PySem PySem.Spec PyProof.Rows L2 Ly
end Pu
namespace Pu
open PySem PySem.Spec PyProof.Rows L2 Ly
end Pu
namespace Od
open PySem PySem.Spec PyProof.Rows L2 Ly
section
variable {prog : Program} {w : World} {A : Around} {E : Value → Shared → Prop} {s : Shared}
/-- what the object of a dict shows of its keys -/
def DObj (o : Obj) (ks : List V) : Prop := o.ExactDict ∧ ∃ (es : Array DictEntry) (ep : Nat), o.data = .dict es ep ∧ Paired (fun (k : V) (e : DictEntry) => RelV k e.key) ks es.toList
end
end Od
namespace Od
open PySem PySem.Spec PyProof.Rows L2 Ly
def Fz (H : Hp) (d : Addr) (ks : List V) : Prop := (d == sysModules) = false ∧ ∃ o u, H d = some (.frz o u) ∧ DObj o ks
theorem Fz.gx {H H' : Hp} {d : Addr} {ks : List V} (e : Gx H H') (h : Fz H d ks) : Fz H' d ks := let ⟨a, o, u, b, c⟩ := h; ⟨a, o, u, e _ _ b, c⟩
end Od
namespace Pu
open PySem PySem.Spec PyProof.Rows L2 Ly
end Pu
namespace Pu
open PySem PySem.Spec PyProof.Rows L2 Ly
end Pu
namespace Pu
open PySem PySem.Spec PyProof.Rows L2 Ly
end Pu
namespace Pu
open PySem PySem.Spec PyProof.Rows L2 Ly
end Pu
namespace Pu
open PySem PySem.Spec PyProof.Rows L2 Ly
end Pu
namespace Pu
open PySem PySem.Spec PyProof.Rows L2 Ly
end Pu
namespace Pu
open PySem PySem.Spec PyProof.Rows L2 Ly
end Pu
namespace L2
open PySem PySem.Spec PyProof.Rows
end L2
namespace Pu
open PySem PySem.Spec PyProof.Rows L2 Ly
end Pu
namespace Pu
open PySem PySem.Spec PyProof.Rows L2 Ly
/-- Sat, and no own slot stands at Dd -/
def SatO (K : PySem.W.Frag) (W0 H0 W : Hp) (ρ : Env) (σ : L2.St) (H : Hp) (Dd : Addr) : Prop := Ex W0 H0 W H ∧ σ.length = ρ.length ∧
  ∃ oa : Nat → Option Addr, (∀ i j p, oa i = some p → oa j = some p → i = j) ∧ (∀ i b, ρ[i]? = some b → ∃ s, σ[i]? = some s ∧ BRep K H0 W H (oa i) b s) ∧ ∀ i, oa i = some Dd → ρ.length ≤ i
section
variable {K : PySem.W.Frag} {W0 H0 W H W' H' Hb : Hp} {ρ ρ' : Env} {σ σ' : L2.St} {Dd : Addr} {us us' : List V}
theorem SatO.base (h : SatO K W0 H0 W ρ σ H Dd) (hw : W Dd = none) (hd : H Dd = some (.lst us)) : ∃ Hb, Hb Dd = some (.lst us) ∧ Gx H0 Hb ∧ Sat K W Hb W ρ σ H := by
  obtain ⟨h1, h2, oa, h3, h4, h5⟩ := h
  classical
  let P : Addr → Prop := fun a => H0 a = none ∧ ((∃ i, i < ρ.length ∧ oa i = some a) ∨ ∃ p, H a = some (.own p))
  have hP : ∀ a, P a → (if P a then none else H a) = none := fun a q => if_pos q
  refine ⟨fun a => if P a then none else H a, ?_, fun a o ho => ?_, ⟨fun a o ho => ?_, Gx.refl _, h1.s, fun a o ho => .inl ho⟩, h2, oa, h3, fun i b hb => ?_⟩
  · have : ¬ P Dd := by
      rintro ⟨_, ⟨i, hl, hi⟩ | ⟨p, hp⟩⟩
      · exact absurd (h5 i hi) (Nat.not_le_of_lt hl)
      · rw [hd] at hp; cases hp
    show (if P Dd then none else H Dd) = _
    rw [if_neg this]
    exact hd
  · have : ¬ P a := fun q => by rw [q.1] at ho; cases ho
    show (if P a then none else H a) = _
    rw [if_neg this]
    exact h1.h _ _ ho
  · have ho : (if P a then none else H a) = some o := ho
    by_cases q : P a
    · rw [if_pos q] at ho; cases ho
    · rw [if_neg q] at ho
      exact ho
  · have hl : i < ρ.length := (List.getElem?_eq_some_iff.mp hb).1
    obtain ⟨s, h6, h7⟩ := h4 i b hb
    refine ⟨s, h6, ?_⟩
    cases b with
    | un => exact h7
    | val d => exact h7
    | lst ds =>
      obtain ⟨q, vs, e1, e2, e3, e4, e5⟩ := h7
      exact ⟨q, vs, e1, e2, e3, hP q ⟨e4, .inl ⟨i, hl, e1⟩⟩, e5⟩
    | dic ks ds =>
      obtain ⟨q, vs, e1, e2, e3, e4, e5⟩ := h7
      exact ⟨q, vs, e1, e2, e3, hP q ⟨e4, .inl ⟨i, hl, e1⟩⟩, e5⟩
    | obj a C ns ds =>
      obtain ⟨q, dx, vs, e0, e1, e2, e3, e4, e5, e6, e7, e8⟩ := h7
      exact ⟨q, dx, vs, e0, e1, e2, e3, hP q ⟨e4, .inl ⟨i, hl, e1⟩⟩, e5, e6, hP dx ⟨e7, .inr ⟨q, e6⟩⟩, e8⟩
    | bor q ks ds => exact h7
    | dit ks ds =>
      obtain ⟨q, vs, e1, e2, e3, e4, e5⟩ := h7
      exact ⟨q, vs, e1, e2, e3, hP q ⟨e4, .inl ⟨i, hl, e1⟩⟩, e5⟩
theorem SatO.mut (h : SatO K W0 H0 W ρ σ H Dd) (h0 : H0 Dd = none) (hw : W Dd = none) (hd : H Dd = some (.lst us)) : SatO K W0 H0 W ρ σ (upd H Dd (.lst us')) Dd := by
  obtain ⟨h1, h2, oa, h3, h4, h5⟩ := h
  refine ⟨h1.mut h0 hw, h2, oa, h3, fun i b hb => ?_, h5⟩
  obtain ⟨s, h6, h7⟩ := h4 i b hb
  have hl : i < ρ.length := (List.getElem?_eq_some_iff.mp hb).1
  exact ⟨s, h6, h7.mut (fun z => absurd (h5 i z) (Nat.not_le_of_lt hl)) fun x z => by rw [hd] at z; cases z⟩
end
end Pu
namespace Pu
open PySem PySem.Spec PyProof.Rows L2 Ly
end Pu
namespace Pu
open PySem PySem.Spec PyProof.Rows L2 Ly
end Pu
namespace Pu
open PySem PySem.Spec PyProof.Rows L2 Ly
end Pu
namespace Pu
open PySem PySem.Spec PyProof.Rows L2 Ly
end Pu
namespace Pu
open PySem PySem.Spec PyProof.Rows L2 Ly
end Pu
namespace Pu
open PySem PySem.W PySem.Spec PyProof.Rows L2 Ly
section
variable {X : Cx} {K : PySem.W.Frag} {E : XK} {F G : FE} {e a b : Expr} {te : TE} {p apos cpos pos : Pos}
def encS (q : Str × Int) : PyData := .tuple [.str q.1, .int q.2]
/-- the pair's tuple in the heap -/
def PrAt (h : Heap) (lo : Addr) (v : Value) (q : Str × Int) : Prop := ∃ t t1 t2, v = .ref t ∧ lo < t ∧ h.get? t = some { cls := .type "tuple", data := .seq #[.str q.1 t1, .int q.2 t2] }
theorem PrAt.reads {h h' : Heap} {lo : Addr} {v : Value} {q : Str × Int} (x : PrAt h lo v q) (k : ∀ b o, h.get? b = some o → h'.get? b = some o) : Reads h' v (encS q) [] := by
  obtain ⟨t, t1, t2, rfl, _, e⟩ := x
  exact .tuple (k _ _ e) rfl rfl (.cons (.str q.1 t1) (.cons (.int q.2 t2) .nil))
end
end Pu
namespace Pu
open PySem PySem.W PySem.Spec PyProof.Rows L2 Ly
end Pu
namespace Pu
open PySem PySem.Spec PyProof.Rows L2 Ly
end Pu
namespace Pu
open PySem PySem.Spec PyProof.Rows L2 Ly
inductive TupD : D → Prop
  | str (x : Str) : TupD (.str x)
  | int (i : Int) : TupD (.int i)
  | tup {ds : List D} (h : ∀ d ∈ ds, TupD d) : TupD (.tup ds)
section
variable {K : PySem.W.Frag} {H : Hp}
mutual
theorem Rep.uniq (hI : ∀ a us vs, SqT K H a us → SqT K H a vs → us = vs) : ∀ {v : V} {d : D}, Rep K H v d → ∀ {d' : D}, TupD d → TupD d' → Rep K H v d' → d = d'
  | _, _, .non, _, t, _, _ => nomatch t
  | _, _, .bl _, _, t, _, _ => nomatch t
  | _, _, .int _, _, _, _, r => by cases r; rfl
  | _, _, .str _, _, _, _, r => by cases r; rfl
  | _, _, .lst _ _ _, _, t, _, _ => nomatch t
  | _, _, .tup h hs _, d', t, t', r => by
    cases r with
    | tup h2 hs2 _ =>
      cases t with
      | tup t =>
      cases t' with
      | tup t' =>
      have e := hI _ _ _ (SqT.of h) (SqT.of h2)
      subst e
      rw [RepAll.uniq hI hs t t' hs2]
    | tup0 h2 =>
      have e := hI _ _ _ (SqT.of h) h2.sq
      subst e
      cases hs
      rfl
    | lst => cases t'
    | dic => cases t'
    | obj => cases t'
    | dice => cases t'
    | cls => cases t'
    | exn => cases t'
    | lsk => cases t'
    | dit => cases t'
    | exm => cases t'
    | exf => cases t'
  | _, _, .tup0 h, d', t, t', r => by
    cases r with
    | tup h2 hs2 _ =>
      have e := hI _ _ _ h.sq (SqT.of h2)
      subst e
      cases hs2
      rfl
    | tup0 _ => rfl
    | lst => cases t'
    | dic => cases t'
    | obj => cases t'
    | dice => cases t'
    | cls => cases t'
    | exn => cases t'
    | lsk => cases t'
    | dit => cases t'
    | exm => cases t'
    | exf => cases t'
  | _, _, .dic _ _ _ _, _, t, _, _ => nomatch t
  | _, _, .obj _ _ _, _, t, _, _ => nomatch t
  | _, _, .dice _, _, t, _, _ => nomatch t
  | _, _, .cls _, _, t, _, _ => nomatch t
  | _, _, .exn _ _ _, _, t, _, _ => nomatch t
  | _, _, .lsk _ _ _, _, t, _, _ => nomatch t
  | _, _, .dit _ _ _ _, _, t, _, _ => nomatch t
  | _, _, .exm _ _, _, t, _, _ => nomatch t
  | _, _, .exf _ _ _, _, t, _, _ => nomatch t
theorem RepAll.uniq (hI : ∀ a us vs, SqT K H a us → SqT K H a vs → us = vs) : ∀ {vs : List V} {ds : List D}, RepAll K H vs ds → ∀ {ds' : List D}, (∀ d ∈ ds, TupD d) → (∀ d ∈ ds', TupD d) → RepAll K H vs ds' → ds = ds'
  | _, _, .nil, _, _, _, r => by cases r; rfl
  | _, _, .cons h hs, ds', t, t', r => by
    cases r with
    | cons h2 hs2 =>
      rw [Rep.uniq hI h (t _ (List.mem_cons_self ..)) (t' _ (List.mem_cons_self ..)) h2, RepAll.uniq hI hs (fun d hd => t d (List.mem_cons_of_mem _ hd)) (fun d hd => t' d (List.mem_cons_of_mem _ hd)) hs2]
end
end
section
variable {X : Cx} {K : PySem.W.Frag} {C : Addr} {k n : Nat} {g : Fn}
/-- what the own == says of two instances whose first fields differ -/
def NeTo (K : PySem.W.Frag) (g : Fn) (a b : Addr) (H : Hp) : Prop := ∃ W C ns ns2 x0 y0 xs ys, Gx W H ∧ Rep K W (.ref a) (.obj C ns (x0 :: xs)) ∧ Rep K W (.ref b) (.obj C ns2 (y0 :: ys)) ∧ TupD x0 ∧ TupD y0 ∧ x0 ≠ y0 ∧ g [.obj C ns (x0 :: xs), .obj C ns2 (y0 :: ys)] (fun d => d = .bl false) F0
theorem NeTo.ne {pins : List (Addr × Obj)} {s : Shared} {σ : L2.St} {H : Hp} {a b : Addr} (I : Inv X pins σ H s) (h : NeTo X.K g a b H) : a ≠ b := by
  rintro rfl
  obtain ⟨W, C, ns, ns2, x0, y0, xs, ys, hg, r1, r2, t1, t2, hne, _⟩ := h
  cases r1 with
  | obj k1 k2 k3 =>
  cases r2 with
  | obj k4 k5 k6 =>
  rw [k1] at k4
  cases k4
  generalize List.map Prod.snd _ = vs at k3 k6
  cases k3 with
  | cons p1 p2 =>
  cases k6 with
  | cons p3 p4 =>
  exact hne (Rep.uniq (fun a us vs h1 h2 => I.tuple_inj h1 h2) (p1.gx hg) t1 t2 (p3.gx hg))
end
end Pu
namespace Pu
open PySem PySem.Spec PyProof.Rows L2 Ly
end Pu
namespace Pu
open PySem PySem.Spec PyProof.Rows L2 Ly
end Pu
namespace Pu
open PySem PySem.Spec PyProof.Rows L2 Ly
end Pu
namespace Pu
open PySem PySem.Spec PyProof.Rows L2 Ly
end Pu
namespace Pu
open PySem PySem.Spec PyProof.Rows L2 Ly PySem.W PySem.SeqAt
end Pu
namespace Pu
open PySem PySem.Spec PyProof.Rows L2 Ly
end Pu
namespace Pu
open PySem PySem.Spec PyProof.Rows L2 Ly
end Pu
set_option maxHeartbeats 2000000
namespace Pu
open PySem PySem.Spec PyProof.Rows L2 Ly PySem.W PySem.SeqAt
end Pu
namespace Pu
open PySem PySem.Spec PyProof.Rows L2 Ly PySem.W PySem.SeqAt
end Pu
set_option maxHeartbeats 1000000
namespace Pu
open PySem PySem.Spec PyProof.Rows L2 Ly PySem.W
end Pu
namespace Pu
open PySem PySem.Spec PyProof.Rows L2 Ly
end Pu
namespace Pu
open PySem PySem.Spec PyProof.Rows L2 Ly
end Pu
namespace Pu
open PySem PySem.Spec PyProof.Rows L2 Ly
section
variable {X : Cx} {K : PySem.W.Frag} {E : XK} {F : FE} {e : Expr} {p pos : Pos}
/-- i ** j of small numbers -/
def RPow (x y : D) (Q : D → Prop) : Prop := ∃ i j : Int, x = .int i ∧ y = .int j ∧ CPowW i j ∧ Q (.int (i ^ j.toNat))
theorem s_pow : RSnd K (rI CPowW fun i j => .int (i ^ j.toNat)) RPow := fun W H x y a b Q Qh s r1 r2 ⟨i, j, h1, h2, hc, q⟩ kk => by
  subst h1 h2
  exact ⟨i, j, r1.int_inv, r2.int_inv, hc, kk _ W H _ (Ex.refl s) (.int _) q⟩
end
end Pu
namespace Pu
open PySem PySem.Spec PyProof.Rows L2 Ly
section
variable {X : Cx} {K : PySem.W.Frag}
def rMulS : R2 := fun x y H Q => ∃ z n, x = .str z ∧ y = .int n ∧ MulOk z n ∧ Q (.str (PySem.Txt.mul z n)) H
theorem jdH : OpR X (binaryOp .Mult) rMulS := by
  intro pins s σ H x y v u Q I rx ry h
  obtain ⟨z, n, rfl, rfl, hz, q⟩ := h
  obtain ⟨t, rfl⟩ := rx
  obtain ⟨t', rfl⟩ := ry
  exact SB.mul hz fun t2 k => ⟨.str (PySem.Txt.mul z n), H, I.tok _, ⟨_, rfl⟩, q⟩
def RMulS : D → D → (D → Prop) → Prop
  | .str z, .int n, Q => MulOk z n ∧ Q (.str (PySem.Txt.mul z n))
  | _, _, _ => False
theorem jfc : RSnd K rMulS RMulS := fun W H x y a b Q Qh s r1 r2 h k => by
  cases a <;> cases b <;> first
    | exact h.elim
    | skip
  exact ⟨_, _, r1.str_inv, r2.int_inv, h.1, k _ W H _ (Ex.refl s) (.str _) h.2⟩
end
end Pu
namespace Pu
open PySem PySem.W PySem.Spec PyProof.Rows L2 Ly
mutual
/-- whole numbers, texts, None, bools and tuples of them -/
def onlyT : D → Bool
  | .non => true
  | .bl _ => true
  | .int _ => true
  | .str _ => true
  | .tup ds => jaQ ds
  | _ => false
def jaQ : List D → Bool
  | [] => true
  | d :: ds => onlyT d && jaQ ds
end
def keyP : Key → PyData
  | .inl i => .int i
  | .inr x => .str x
def toX : D → PyData
  | .dit ks ds => .dict ((ks.map fun k => PyData.tuple (k.map keyP)).zip (toPs ds))
  | d => toP d
def okX : D → Bool
  | .dit ks ds => jaQ ds && decide (ks.length = ds.length)
  | d => onlyT d
section
variable {X : Cx} {K : PySem.W.Frag}
mutual
theorem jbs {pins : List (Addr × Obj)} {σ : L2.St} {H W : Hp} {s : Shared} (I : L2.Inv X pins σ H s) (g : Gx W H) : ∀ {d : D} {v : V} {u : Value}, Rep X.K W v d → onlyT d = true → RelV v u → Reads s.heap u (toP d) []
  | .non, _, _, .non, _, r => by cases r; exact .none
  | .bl b, _, _, .bl _, _, r => by cases r; exact .bool b
  | .int i, _, _, .int _, _, r => by obtain ⟨t, rfl⟩ := r; exact .int i t
  | .str x, _, _, .str _, _, r => by obtain ⟨t, rfl⟩ := r; exact .str x t
  | .tup ds, _, _, .tup h hs n, o, r => by
    cases r
    obtain ⟨its, rv, ⟨ob, ho, hc, k, hd⟩, hz⟩ := I.tuple (SqT.of (g _ _ h))
    exact .tuple ho hc hd (by simpa using jeo I g hs (show jaQ ds = true from o) rv)
  | .tup [], _, _, .tup0 h, o, r => by
    cases r
    obtain ⟨its, rv, ⟨ob, ho, hc, k, hd⟩, hz⟩ := I.tuple h.sq
    cases rv
    exact .tuple ho hc hd .nil
theorem jeo {pins : List (Addr × Obj)} {σ : L2.St} {H W : Hp} {s : Shared} (I : L2.Inv X pins σ H s) (g : Gx W H) : ∀ {ds : List D} {vs : List V} {us : List Value}, RepAll X.K W vs ds → jaQ ds = true → Vals vs us → ReadsAll s.heap us (toPs ds) []
  | [], _, _, .nil, _, r => by cases r; exact .nil
  | d :: ds, _, _, .cons h hs, o, r => by
    cases r with
    | cons r rs =>
      have o : (onlyT d && jaQ ds) = true := o
      rw [Bool.and_eq_true] at o
      exact .cons (as := []) (bs := []) (jbs I g h o.1 r) (jeo I g hs o.2 rs)
end
theorem jfl : ∀ {k : List Key} {us : List Value} {h : Heap}, Vals (k.map kV) us → ReadsAll h us (k.map keyP) []
  | [], _, _, .nil => .nil
  | .inl i :: k, _, _, .cons r rs => by obtain ⟨t, rfl⟩ := r; exact .cons (as := []) (bs := []) (.int i t) (jfl rs)
  | .inr x :: k, _, _, .cons r rs => by obtain ⟨t, rfl⟩ := r; exact .cons (as := []) (bs := []) (.str x t) (jfl rs)
theorem jgN {pins : List (Addr × Obj)} {σ : L2.St} {H W : Hp} {s : Shared} (I : L2.Inv X pins σ H s) (g : Gx W H) {d : Addr} {kvs : List (List Key × V)} {ds : List D} (hd : Rd W d (.dT kvs)) (r : RepAll X.K W (kvs.map Prod.snd) ds) (o : jaQ ds = true) :
    Reads s.heap (.ref d) (toX (.dit (kvs.map Prod.fst) ds)) [d] ∧ (d == sysModules) = false := by
  obtain ⟨z, hs, ks, pr, ob, es, ep, ho, hx, hdt, he, hn⟩ := (show ObjOk X.prog X.w H s.heap d (.dT kvs) from (g.rd hd).ok I.hok)
  refine ⟨?_, hs⟩
  have main : ∀ {kvs : List (List Key × V)} {ks : List (List Key × Addr × Value)} {ds : List D}, Paired (fun (p : List Key × V) (q : List Key × Addr × Value) => p.1 = q.1 ∧ H q.2.1 = some (.tup (p.1.map kV)) ∧ RelV p.2 q.2.2) kvs ks → RepAll X.K W (kvs.map Prod.snd) ds → jaQ ds = true →
      ReadsAll s.heap ((ks.map (entryOfKey (tupleKind (mixKind X.prog X.w)))).map (·.key)) ((((kvs.map Prod.fst).map fun k => PyData.tuple (k.map keyP)).zip (toPs ds)).map (·.1)) [] ∧
        ReadsAll s.heap ((ks.map (entryOfKey (tupleKind (mixKind X.prog X.w)))).map (·.val)) ((((kvs.map Prod.fst).map fun k => PyData.tuple (k.map keyP)).zip (toPs ds)).map (·.2)) [] := by
    intro kvs ks ds pr
    induction pr generalizing ds with
    | nil =>
      intro r _
      cases r
      exact ⟨.nil, .nil⟩
    | @cons p q _ _ h _ ih =>
      intro r o
      cases r with
      | @cons _ _ d0 ds0 r rs =>
        have o : (onlyT d0 && jaQ ds0) = true := o
        rw [Bool.and_eq_true] at o
        obtain ⟨k1, k2⟩ := ih rs o.2
        obtain ⟨h1, h2, h3⟩ := h
        obtain ⟨its, rv, ⟨ob, ho, hc, k, hd⟩, hz⟩ := I.tuple (X := X) (SqT.of h2)
        exact ⟨.cons (as := []) (bs := []) (.tuple ho hc hd (by simpa using jfl rv)) k1, .cons (as := []) (bs := []) (jbs I g r o.1 h3) k2⟩
  obtain ⟨k1, k2⟩ := main pr r o
  rw [← he] at k1 k2
  exact .dict ho hx.1 hdt k1 k2
theorem toX_of : ∀ {d : D}, onlyT d = true → toX d = toP d
  | .non, _ => rfl
  | .bl _, _ => rfl
  | .int _, _ => rfl
  | .str _, _ => rfl
  | .tup _, _ => rfl
/-- each item of the list -/
theorem jlh {pins : List (Addr × Obj)} {σ : L2.St} {H W : Hp} {s : Shared} (I : L2.Inv X pins σ H s) (g : Gx W H) {d : D} {v : V} {u : Value} (r : Rep X.K W v d) (o : okX d = true) (rel : RelV v u) : ∃ as, Reads s.heap u (toX d) as ∧ sysModules ∉ as := by
  cases d with
  | dit ks ds =>
    have o : (jaQ ds && decide (ks.length = ds.length)) = true := o
    rw [Bool.and_eq_true] at o
    cases r with
    | @dit a kvs _ _ h1 h2 h3 h4 =>
      subst h2
      cases rel
      obtain ⟨k1, k2⟩ := jgN I g h1 h3 o.1
      refine ⟨_, k1, fun hm => ?_⟩
      have hm : sysModules = a := by simpa using hm
      rw [← hm] at k2
      simp at k2
  | _ =>
    first
      | exact ⟨[], by rw [toX_of (show onlyT _ = true from o)]; exact jbs I g r o rel, by simp⟩
      | cases o
structure ShX (ds : List D) : Prop where
  ne : ds ≠ []
  ok : ∀ d ∈ ds, okX d = true
  sho : PyData.showableAll (ds.map toX) = true
  sz : (PyData.list (ds.map toX)).shown.length ≤ sizeLine
  dep : (PyData.list (ds.map toX)).depth ≤ 60
def jgO (K : PySem.W.Frag) : List V → Hp → VK → Prop := fun vs H Q => ∃ (a : Addr) (us : List V) (W : Hp) (ds : List D), vs = [.ref a] ∧ SqL K H a us ∧ Gx W H ∧ RepAll K W us ds ∧ ShX ds ∧ Q (.str (PyData.list (ds.map toX)).shown) H
theorem jgP {pins : List (Addr × Obj)} {σ : L2.St} {H W : Hp} {s : Shared} (I : L2.Inv X pins σ H s) (g : Gx W H) : ∀ {ds : List D} {vs : List V} {us : List Value}, RepAll X.K W vs ds → (∀ d ∈ ds, okX d = true) → PyData.showableAll (ds.map toX) = true → (∀ t ∈ PyData.shownAll (ds.map toX), t.length ≤ sizeLine) → Vals vs us →
    ∃ bs as, ReadAtMost s.heap (PyData.depthAll (ds.map toX)) bs ∧ ReprAllK X.prog X.w bs s.heap (PyData.depthAll (ds.map toX)) us (PyData.shownAll (ds.map toX)) ∧ ReadsAll s.heap us (ds.map toX) as
  | [], _, _, .nil, _, _, _, r => by
    cases r
    exact ⟨[], [], (fun _ h => nomatch h), .nil, .nil⟩
  | d :: ds, _, _, .cons h hs, ok, sho, sz, r => by
    cases r with
    | cons r rs =>
      rw [List.map_cons, PyData.showableAll, Bool.and_eq_true] at sho
      have e1 : PyData.shownAll ((d :: ds).map toX) = (toX d).shown :: PyData.shownAll (ds.map toX) := by rw [List.map_cons, PyData.shownAll]
      have e2 : PyData.depthAll ((d :: ds).map toX) = max (toX d).depth (PyData.depthAll (ds.map toX)) := by rw [List.map_cons, PyData.depthAll]
      rw [e1] at sz
      obtain ⟨as1, rd, hn⟩ := jlh I g h (ok d (List.mem_cons_self ..)) r
      obtain ⟨b1, hb1, k1⟩ := ReprK.of_reads (prog := X.prog) (w := X.w) rd sho.1 (fun _ => hn) (sz _ (List.mem_cons_self ..))
      obtain ⟨b2, as2, hb2, k2, r2⟩ := jgP I g hs (fun x hx => ok x (List.mem_cons_of_mem _ hx)) sho.2 (fun t ht => sz t (List.mem_cons_of_mem _ ht)) rs
      rw [e1, e2]
      exact ⟨b1 ++ b2, as1 ++ as2, (hb1.mono (Nat.le_max_left _ _)).append (hb2.mono (Nat.le_max_right _ _)),
        .cons ((k1.more fun b hb => List.mem_append_left _ hb).level_le (Nat.le_max_left _ _)) (k2.more_le (fun b hb => List.mem_append_right _ hb) (Nat.le_max_right _ _)), .cons rd r2⟩
theorem jli (gd : X.A.guards = some []) (hu : X.A.units + 64 < cLine) (hK : X.K = K := by rfl) : CallR X (.builtin "repr") (jgO K) := by
  subst hK
  intro pins s σ H xs us0 Q I r h
  obtain ⟨a, us, W, ds, rfl, hs, g, rr, so, q⟩ := h
  obtain ⟨u, rfl, ru⟩ := vals1 r
  cases ru
  obtain ⟨its, rv, ⟨o, n, ho, hc, hd0, hdat⟩, hz⟩ := I.list hs
  have hz' : (listText (PyData.shownAll (ds.map toX))).length ≤ sizeLine := by
    have h := so.sz
    rw [PyData.shown] at h
    exact h
  obtain ⟨bs, as, hb, hk, ra⟩ := jgP I g rr so.ok so.sho (fun t ht => Nat.le_trans (listText_mem_le ht) hz') rv
  have rl : Reads s.heap (.ref a) (.list (ds.map toX)) (a :: as) := .list ho hc hdat (by simpa using ra)
  have hna : a ∉ bs := not_mem_of_deeper rl (by simp only [PyData.depth]; omega) hb
  have hdep : PyData.depthAll (ds.map toX) + 1 ≤ 60 := by
    have h := so.dep
    rw [PyData.depth] at h
    exact h
  refine call_repr_slot (T := "list") (idr := "list.__repr__") (by omega) ⟨o, ho, hc⟩ F.slot_list_repr.toG ?_
  obtain ⟨v1, vs1, rfl⟩ : ∃ v1 vs1, its = v1 :: vs1 := by
    cases rv with
    | nil =>
      cases rr
      exact absurd rfl so.ne
    | cons _ _ => exact ⟨_, _, rfl⟩
  refine call_list_reprK (d := PyData.depthAll (ds.map toX)) (ts := PyData.shownAll (ds.map toX)) ho hc hdat hna (by simpa using hk.length_eq) (fun i y e => hk.item i y (by simpa using e)) gd (fun b _ => Clear.nil b) (by show X.A.units + 1 + _ < cLine; omega) (fun _ _ z => z) (fun h' u tk kk => ?_) hz'
  refine ⟨_, _, rfl, .str _, H, I.kept kk, ⟨_, rfl⟩, ?_⟩
  rw [PyData.shown] at q
  exact q
def jky (ds : List D) (Q : D → Prop) : Prop := ∃ es, ds = [.lst es] ∧ ShX es ∧ Q (.str (PyData.list (es.map toX)).shown)
theorem jlj : CSnd K (jgO K) jky := fun W H vs ds Q Qh s rr ⟨es, z, o, q⟩ kk => by
  subst z
  obtain ⟨v, rfl, r⟩ := ts1 rr
  obtain ⟨a, us, rfl, h1, h2, h3⟩ := r.lst_inv s
  exact ⟨a, us, W, es, rfl, SqL.of h1, s, h2, o, kk _ W H _ (Ex.refl s) (.str _) q⟩
end
end Pu
namespace Pu
open PySem PySem.Spec PyProof.Rows L2 Ly
section
variable {X : Cx} {K : PySem.W.Frag}
def jkz : List V → Hp → VK → Prop := fun xs H Q => ∃ z, xs = [.str z] ∧ (reprText z).length ≤ sizeLine ∧ Q (.str (reprText z)) H
theorem jlk : CallR X (.builtin "repr") jkz := by
  intro pins s σ H xs us Q I r h
  obtain ⟨z, rfl, h1, q⟩ := h
  obtain ⟨u, rfl, ru⟩ := vals1 r
  obtain ⟨t, rfl⟩ := ru
  exact PySem.P.repr_of_str ⟨.str _, H, I.tok _, ⟨_, rfl⟩, q⟩ h1
def jfL (K : PySem.W.Frag) : List V → Hp → VK → Prop := fun xs H Q => jgL K xs H Q ∨ jkz xs H Q
theorem jhZ (gd : X.A.guards = some []) (hu : X.A.units + 64 < cLine) (hK : X.K = K := by rfl) : CallR X (.builtin "repr") (jfL K) := jbf (jlf gd hu hK) jlk
def jgQ (ds : List D) (Q : D → Prop) : Prop := jkx ds Q ∨ ∃ z, ds = [.str z] ∧ (reprText z).length ≤ sizeLine ∧ Q (.str (reprText z))
theorem jia : CSnd K (jfL K) jgQ := fun W H xs ds Q Qh s rr h kk => by
  rcases h with h | ⟨z, e, h1, q⟩
  · exact .inl (jlg W H xs ds Q Qh s rr h kk)
  · subst e
    obtain ⟨v, rfl, r⟩ := ts1 rr
    exact .inr ⟨z, by rw [r.str_inv], h1, kk _ W H _ (Ex.refl s) (.str _) q⟩
end
end Pu
namespace Pu
open PySem PySem.W PySem.Spec PyProof.Rows L2 Ly
section
variable {X : Cx} {K : PySem.W.Frag}
def jfM (K : PySem.W.Frag) : List V → Hp → VK → Prop := fun xs H Q => jfL K xs H Q ∨ jgO K xs H Q
theorem jib (gd : X.A.guards = some []) (hu : X.A.units + 64 < cLine) (hK : X.K = K := by rfl) : CallR X (.builtin "repr") (jfM K) := jbf (jhZ gd hu hK) (jli gd hu hK)
def jgR (ds : List D) (Q : D → Prop) : Prop := jgQ ds Q ∨ jky ds Q
theorem jic : CSnd K (jfM K) jgR := fun W H xs ds Q Qh s rr h kk => by
  rcases h with h | h
  · exact .inl (jia W H xs ds Q Qh s rr h kk)
  · exact .inr (jlj W H xs ds Q Qh s rr h kk)
end
end Pu
namespace Pu
open PySem PySem.W PySem.Spec PyProof.Rows L2 Ly
section
variable {X : Cx} {K : PySem.W.Frag}
def jgS : List V → Hp → VK → Prop := fun xs H Q => ∃ a, xs = [.ref a] ∧ Rd H a (.dK []) ∧ Q (.str "{}") H
theorem jid (gd : X.A.guards = some []) (hu : X.A.units + 64 < cLine) : CallR X (.builtin "repr") jgS := by
  intro pins s σ H xs us Q I r h
  obtain ⟨a, rfl, hd, q⟩ := h
  obtain ⟨u, rfl, ru⟩ := vals1 r
  cases ru
  obtain ⟨_, hs, vs, kv, o, es, ep, ho, hx, hdt, he, hp, _⟩ := (show ObjOk X.prog X.w H s.heap a (.dK []) from hd.ok I.hok)
  cases kv
  have he : es.toList = [] := by
    generalize es.toList = l at hp
    cases hp
    rfl
  have rd : Reads s.heap (.ref a) (.dict []) [a] := by
    refine Reads.dict (as := []) (bs := []) ho hx.1 hdt ?_ ?_
    · rw [he]; exact .nil
    · rw [he]; exact .nil
  have hn : sysModules ∉ [a] := fun hm => by
    have hm : sysModules = a := by simpa using hm
    rw [← hm] at hs
    simp at hs
  exact repr_of_reads' rd rfl (fun _ => hn) gd (by show X.A.units + (0 + 1 + 1) < cLine; omega) (fun _ _ z => z) (fun h' u tk kk => ⟨.str _, H, I.kept kk, ⟨_, rfl⟩, q⟩) (by rw [sizeLine_eq]; decide +kernel)
def jfN (K : PySem.W.Frag) : List V → Hp → VK → Prop := fun xs H Q => jfM K xs H Q ∨ jgS xs H Q
theorem jie (gd : X.A.guards = some []) (hu : X.A.units + 64 < cLine) (hK : X.K = K := by rfl) : CallR X (.builtin "repr") (jfN K) := jbf (jib gd hu hK) (jid gd hu)
def jgT (ds : List D) (Q : D → Prop) : Prop := jgR ds Q ∨ (ds = [.dic [] []] ∧ Q (.str "{}"))
theorem jif : CSnd K (jfN K) jgT := fun W H xs ds Q Qh s rr h kk => by
  rcases h with h | ⟨z, q⟩
  · exact .inl (jic W H xs ds Q Qh s rr h kk)
  · subst z
    obtain ⟨v, rfl, r⟩ := ts1 rr
    obtain ⟨a, kvs, h1, h2, h3, h4⟩ := r.dic_inv s
    cases kvs with
    | nil => subst h1; exact .inr ⟨a, rfl, h2, kk _ W H _ (Ex.refl s) (.str _) q⟩
    | cons _ _ => cases h3
end
end Pu
namespace Pu
open PySem PySem.W PySem.Spec PyProof.Rows L2 Ly
def toY : D → PyData
  | .dic ks ds => .dict ((ks.map keyP).zip (toPs ds))
  | d => toP d
def okY : D → Bool
  | .dic ks ds => jaQ ds && decide (ks.length = ds.length)
  | d => onlyT d
section
variable {X : Cx} {K : PySem.W.Frag}
theorem jfY {pins : List (Addr × Obj)} {σ : L2.St} {H W : Hp} {s : Shared} (I : L2.Inv X pins σ H s) (g : Gx W H) : ∀ {kvs : List (Key × V)} {vs : List (Key × Value)} {es : List DictEntry} {ds : List D}, KV kvs vs → Pairs (L2.mixKind X.prog X.w) es vs → RepAll X.K W (kvs.map Prod.snd) ds → jaQ ds = true →
    ReadsAll s.heap (es.map (·.key)) ((((kvs.map Prod.fst).map keyP).zip (toPs ds)).map (·.1)) [] ∧ ReadsAll s.heap (es.map (·.val)) ((((kvs.map Prod.fst).map keyP).zip (toPs ds)).map (·.2)) []
  | [], [], _, _, .nil, .nil, r, _ => by cases r; exact ⟨.nil, .nil⟩
  | [], _ :: _, _, _, h, _, _, _ => by cases h
  | _ :: _, [], _, _, h, _, _, _ => by cases h
  | q :: ks, v :: vs, en :: es, _, h, .cons h1 h2 h3, r, o => by
    cases h with
    | cons g1 g2 =>
      obtain ⟨g3, g4⟩ := g1
      cases r with
      | @cons _ _ d0 ds0 r rs =>
        have o : (onlyT d0 && jaQ ds0) = true := o
        rw [Bool.and_eq_true] at o
        obtain ⟨k1, k2⟩ := jfY I g g2 h3 rs o.2
        rw [← g3] at h1
        refine ⟨?_, ?_⟩
        · show ReadsAll _ (en.key :: _) (keyP q.1 :: _) ([] ++ [])
          refine .cons ?_ k1
          rcases L2.keyIs_shape (show L2.keyIs q.1 en.key = true from h1) with ⟨i, t, z, e⟩ | ⟨x, t, z, e⟩
          · rw [z, e]; exact .int i t
          · rw [z, e]; exact .str x t
        · show ReadsAll _ (en.val :: _) (toP d0 :: _) ([] ++ [])
          rw [h2]
          exact .cons (jbs I g r o.1 g4) k2
theorem jfv {pins : List (Addr × Obj)} {σ : L2.St} {H W : Hp} {s : Shared} (I : L2.Inv X pins σ H s) (g : Gx W H) {d : Addr} {kvs : List (Key × V)} {ds : List D} (hd : Rd W d (.dK kvs)) (r : RepAll X.K W (kvs.map Prod.snd) ds) (o : jaQ ds = true) :
    Reads s.heap (.ref d) (toY (.dic (kvs.map Prod.fst) ds)) [d] ∧ (d == sysModules) = false := by
  obtain ⟨_, hs, vs, kv, ob, es, ep, ho, hx, hdt, _, hp, _⟩ := (show ObjOk X.prog X.w H s.heap d (.dK kvs) from (g.rd hd).ok I.hok)
  obtain ⟨k1, k2⟩ := jfY I g kv hp r o
  exact ⟨.dict (as := []) (bs := []) ho hx.1 hdt k1 k2, hs⟩
theorem toY_of : ∀ {d : D}, onlyT d = true → toY d = toP d
  | .non, _ => rfl
  | .bl _, _ => rfl
  | .int _, _ => rfl
  | .str _, _ => rfl
  | .tup _, _ => rfl
theorem jll {pins : List (Addr × Obj)} {σ : L2.St} {H W : Hp} {s : Shared} (I : L2.Inv X pins σ H s) (g : Gx W H) {d : D} {v : V} {u : Value} (r : Rep X.K W v d) (o : okY d = true) (rel : RelV v u) : ∃ as, Reads s.heap u (toY d) as ∧ sysModules ∉ as := by
  cases d with
  | dic ks ds =>
    have o : (jaQ ds && decide (ks.length = ds.length)) = true := o
    rw [Bool.and_eq_true] at o
    cases r with
    | @dic a kvs _ _ h1 h2 h3 h4 =>
      subst h2
      cases rel
      obtain ⟨k1, k2⟩ := jfv I g h1 h3 o.1
      refine ⟨_, k1, fun hm => ?_⟩
      have hm : sysModules = a := by simpa using hm
      rw [← hm] at k2
      simp at k2
  | _ =>
    first
      | exact ⟨[], by rw [toY_of (show onlyT _ = true from o)]; exact jbs I g r o rel, by simp⟩
      | cases o
theorem jgU {pins : List (Addr × Obj)} {σ : L2.St} {H W : Hp} {s : Shared} (I : L2.Inv X pins σ H s) (g : Gx W H) : ∀ {ds : List D} {vs : List V} {us : List Value}, RepAll X.K W vs ds → (∀ d ∈ ds, okY d = true) → PyData.showableAll (ds.map toY) = true → (∀ t ∈ PyData.shownAll (ds.map toY), t.length ≤ sizeLine) → Vals vs us →
    ∃ bs as, ReadAtMost s.heap (PyData.depthAll (ds.map toY)) bs ∧ ReprAllK X.prog X.w bs s.heap (PyData.depthAll (ds.map toY)) us (PyData.shownAll (ds.map toY)) ∧ ReadsAll s.heap us (ds.map toY) as
  | [], _, _, .nil, _, _, _, r => by
    cases r
    exact ⟨[], [], (fun _ h => nomatch h), .nil, .nil⟩
  | d :: ds, _, _, .cons h hs, ok, sho, sz, r => by
    cases r with
    | cons r rs =>
      rw [List.map_cons, PyData.showableAll, Bool.and_eq_true] at sho
      have e1 : PyData.shownAll ((d :: ds).map toY) = (toY d).shown :: PyData.shownAll (ds.map toY) := by rw [List.map_cons, PyData.shownAll]
      have e2 : PyData.depthAll ((d :: ds).map toY) = max (toY d).depth (PyData.depthAll (ds.map toY)) := by rw [List.map_cons, PyData.depthAll]
      rw [e1] at sz
      obtain ⟨as1, rd, hn⟩ := jll I g h (ok d (List.mem_cons_self ..)) r
      obtain ⟨b1, hb1, k1⟩ := ReprK.of_reads (prog := X.prog) (w := X.w) rd sho.1 (fun _ => hn) (sz _ (List.mem_cons_self ..))
      obtain ⟨b2, as2, hb2, k2, r2⟩ := jgU I g hs (fun x hx => ok x (List.mem_cons_of_mem _ hx)) sho.2 (fun t ht => sz t (List.mem_cons_of_mem _ ht)) rs
      rw [e1, e2]
      exact ⟨b1 ++ b2, as1 ++ as2, (hb1.mono (Nat.le_max_left _ _)).append (hb2.mono (Nat.le_max_right _ _)),
        .cons ((k1.more fun b hb => List.mem_append_left _ hb).level_le (Nat.le_max_left _ _)) (k2.more_le (fun b hb => List.mem_append_right _ hb) (Nat.le_max_right _ _)), .cons rd r2⟩
structure ShY (ds : List D) : Prop where
  ne : ds ≠ []
  ok : ∀ d ∈ ds, okY d = true
  sho : PyData.showableAll (ds.map toY) = true
  sz : (PyData.list (ds.map toY)).shown.length ≤ sizeLine
  dep : (PyData.list (ds.map toY)).depth ≤ 60
def jkA (K : PySem.W.Frag) : List V → Hp → VK → Prop := fun vs H Q => ∃ (a : Addr) (us : List V) (W : Hp) (ds : List D), vs = [.ref a] ∧ SqL K H a us ∧ Gx W H ∧ RepAll K W us ds ∧ ShY ds ∧ Q (.str (PyData.list (ds.map toY)).shown) H
theorem jlm (gd : X.A.guards = some []) (hu : X.A.units + 64 < cLine) (hK : X.K = K := by rfl) : CallR X (.builtin "repr") (jkA K) := by
  subst hK
  intro pins s σ H xs us0 Q I r h
  obtain ⟨a, us, W, ds, rfl, hs, g, rr, so, q⟩ := h
  obtain ⟨u, rfl, ru⟩ := vals1 r
  cases ru
  obtain ⟨its, rv, ⟨o, n, ho, hc, hd0, hdat⟩, hz⟩ := I.list hs
  have hz' : (listText (PyData.shownAll (ds.map toY))).length ≤ sizeLine := by
    have h := so.sz
    rw [PyData.shown] at h
    exact h
  obtain ⟨bs, as, hb, hk, ra⟩ := jgU I g rr so.ok so.sho (fun t ht => Nat.le_trans (listText_mem_le ht) hz') rv
  have rl : Reads s.heap (.ref a) (.list (ds.map toY)) (a :: as) := .list ho hc hdat (by simpa using ra)
  have hna : a ∉ bs := not_mem_of_deeper rl (by simp only [PyData.depth]; omega) hb
  have hdep : PyData.depthAll (ds.map toY) + 1 ≤ 60 := by
    have h := so.dep
    rw [PyData.depth] at h
    exact h
  refine call_repr_slot (T := "list") (idr := "list.__repr__") (by omega) ⟨o, ho, hc⟩ F.slot_list_repr.toG ?_
  obtain ⟨v1, vs1, rfl⟩ : ∃ v1 vs1, its = v1 :: vs1 := by
    cases rv with
    | nil =>
      cases rr
      exact absurd rfl so.ne
    | cons _ _ => exact ⟨_, _, rfl⟩
  refine call_list_reprK (d := PyData.depthAll (ds.map toY)) (ts := PyData.shownAll (ds.map toY)) ho hc hdat hna (by simpa using hk.length_eq) (fun i y e => hk.item i y (by simpa using e)) gd (fun b _ => Clear.nil b) (by show X.A.units + 1 + _ < cLine; omega) (fun _ _ z => z) (fun h' u tk kk => ?_) hz'
  refine ⟨_, _, rfl, .str _, H, I.kept kk, ⟨_, rfl⟩, ?_⟩
  rw [PyData.shown] at q
  exact q
def jgV (K : PySem.W.Frag) : List V → Hp → VK → Prop := fun vs H Q => ∃ (a : Addr) (kvs : List (Key × V)) (W : Hp) (ds : List D), vs = [.ref a] ∧ Rd W a (.dK kvs) ∧ Gx W H ∧ RepAll K W (kvs.map Prod.snd) ds ∧ jaQ ds = true ∧ (toY (.dic (kvs.map Prod.fst) ds)).showable = true ∧
  (toY (.dic (kvs.map Prod.fst) ds)).shown.length ≤ sizeLine ∧ (toY (.dic (kvs.map Prod.fst) ds)).depth ≤ 60 ∧ Q (.str (toY (.dic (kvs.map Prod.fst) ds)).shown) H
theorem jig (gd : X.A.guards = some []) (hu : X.A.units + 64 < cLine) (hK : X.K = K := by rfl) : CallR X (.builtin "repr") (jgV K) := by
  subst hK
  intro pins s σ H xs us0 Q I r h
  obtain ⟨a, kvs, W, ds, rfl, hd, g, rr, o, h1, h2, h3, q⟩ := h
  obtain ⟨u, rfl, ru⟩ := vals1 r
  cases ru
  obtain ⟨rd, hs⟩ := jfv I g hd rr o
  have hn : sysModules ∉ [a] := fun hm => by
    have hm : sysModules = a := by simpa using hm
    rw [← hm] at hs
    simp at hs
  exact repr_of_reads' rd h1 (fun _ => hn) gd (by show X.A.units + (_ + 1) < cLine; omega) (fun _ _ z => z) (fun h' u tk kk => ⟨.str _, H, I.kept kk, ⟨_, rfl⟩, q⟩) h2
def jgW (K : PySem.W.Frag) : List V → Hp → VK → Prop := fun xs H Q => jfN K xs H Q ∨ (jgV K xs H Q ∨ jkA K xs H Q)
theorem jej (gd : X.A.guards = some []) (hu : X.A.units + 64 < cLine) (hK : X.K = K := by rfl) : CallR X (.builtin "repr") (jgW K) := jbf (jie gd hu hK) (jbf (jig gd hu hK) (jlm gd hu hK))
def jaO (ds : List D) (Q : D → Prop) : Prop := jgT ds Q ∨ ((∃ ks es, ds = [.dic ks es] ∧ jaQ es = true ∧ (toY (.dic ks es)).showable = true ∧ (toY (.dic ks es)).shown.length ≤ sizeLine ∧ (toY (.dic ks es)).depth ≤ 60 ∧ Q (.str (toY (.dic ks es)).shown)) ∨ ∃ es, ds = [.lst es] ∧ ShY es ∧ Q (.str (PyData.list (es.map toY)).shown))
theorem jek : CSnd K (jgW K) jaO := fun W H xs ds Q Qh s rr h kk => by
  rcases h with h | ⟨ks, es, z, o, h1, h2, h3, q⟩ | ⟨es, z, o, q⟩
  · exact .inl (jif W H xs ds Q Qh s rr h kk)
  · subst z
    obtain ⟨v, rfl, r⟩ := ts1 rr
    obtain ⟨a, kvs, rfl, g1, g2, g3, _⟩ := r.dic_inv s
    subst g2
    exact .inr (.inl ⟨a, kvs, H, es, rfl, g1, Gx.refl H, g3.gx s, o, h1, h2, h3, kk _ W H _ (Ex.refl s) (.str _) q⟩)
  · subst z
    obtain ⟨v, rfl, r⟩ := ts1 rr
    obtain ⟨a, us, rfl, h1, h2, h3⟩ := r.lst_inv s
    exact .inr (.inr ⟨a, us, W, es, rfl, SqL.of h1, s, h2, o, kk _ W H _ (Ex.refl s) (.str _) q⟩)
end
end Pu
set_option maxHeartbeats 4000000
namespace Pu
open PySem PySem.Spec PyProof.Rows L2 Ly
/-- C(..) makes a bare error and calls C's own __init__ -/
structure MkF (newId : String) (bmB : List Value) : Prop where
  make : ∀ {prog : Program} {w : World} {A : Around} {R : Result → Shared → Prop} {h : Heap} {g : Array GenState} {d : Drawn} {t : Nat} {os : OsState} {nm q : Str} {C N : Addr} {bs bm : List Value} {hdct : Bool} {sn : List Str} {sub : List Value} {ab : Bool} {col : Option Bool} {dd : Option Addr}
    {k0 k1 k2 k3 k5 : Option Value} {rest : List Value} {fI : Addr}, (∀ X : String, bm.contains (.type X) = bmB.contains (.type X)) → h.get? C = some (excClassObj nm q C N bs bm hdct sn sub ab col dd k0 k1 k2 k3 k5 newId) →
    PySem.W.Looks (model prog w) h (typeLookup (.ref C) "__init__") (some (.ref fI)) → (∀ self, PySem.W.Looks (model prog w) h (bindSpecial (.ref fI) self) (.ref fI, [self])) → rest.length ≤ sizeLine →
    codeAny (model prog w) (A.under (.builtin "type.__call__" ⟨.ref C :: rest, []⟩)) (.call (.ref fI) ⟨.ref (h.objs.size + 1) :: rest, []⟩) (PySem.W.InitBack (h.objs.size + 1) R) ⟨(h.push (PySem.W.kdv_tup rest)).push (PySem.HandSPX.excO C h.objs.size), g, d, t, os⟩ →
    codeAny (model prog w) A (.call (.ref C) ⟨rest, []⟩) R ⟨h, g, d, t, os⟩
theorem jdI {B newId initId : String} {bmB : List Value} (F : ExcBaseFacts B newId initId bmB) : MkF newId bmB := ⟨fun hT hC hi hb hr hq => PySem.HandSPX.call_own F hT hC hi hb hr hq⟩
structure OexB (K : PySem.W.Frag) (C : Addr) (B newId initId : String) (bmB : List Value) : Prop where
  F : MkF newId bmB
  SF : StoreFacts B bmB "object.__setattr__" "object"
  cls : ∃ nm q N bs bm sn sub ab col dd k0 k1 k2 k3 k5, K.lookup C = some (excClassObj nm q C N bs bm true sn sub ab col dd k0 k1 k2 k3 k5 newId) ∧ PySem.W.excTail bmB bm = true
  sa : PySem.W.findIn K (.ref C) "__setattr__" = some (some (.builtin "object.__setattr__"))
  exC : PySem.W.subIn K (.ref C) (.type "BaseException") = some true
  tyC : PySem.W.typeIn K (.ref C) = some (.type "type")
  kC : PySem.W.keepIn K (.ref C) = true
section
open Builtin Builtin.ObjectAttr
variable {prog : Program} {w : World} {A : Around} {R : Result → Shared → Prop} {hp : Heap} {g : Array GenState} {d : Drawn} {t : Nat} {os : OsState} {B newId initId : String} {bmB : List Value}
/-- the first field of an error -/
theorem jln {K : PySem.W.Frag} {name : Str} {tk : Tok} {v : Value} {x C t1 : Addr} {cd : ClassData} (SF : StoreFacts B bmB "object.__setattr__" "object")
    (X : K.In hp) (hx : hp.get? x = some { cls := .ref C, data := .fields #[.ref t1, .none, .none, .none, .bool false, .none] }) (hcd : PySem.W.clsIn K C = some cd) (hm : PySem.W.excOver K C bmB = true) (hh : cd.hasDict = true) (ha : PySem.W.findIn K (.ref C) name = some none)
    (hq : ∀ h' tk' dx, (∀ b o, b ≠ x → hp.get? b = some o → h'.get? b = some o) → hp.objs.size ≤ dx → dx ≠ x → h'.get? x = some { cls := .ref C, dict := some dx, data := .fields #[.ref t1, .none, .none, .none, .bool false, .none] } →
      h'.Ns1 dx (fun y => if y = name then some v else none) → R (.ok (.ret .none)) ⟨h', g, d, tk', os⟩) :
    codeAny (model prog w) A (.call (.builtin "object.__setattr__") ⟨[.ref x, .str name tk, v], []⟩) R ⟨hp, g, d, t, os⟩ := by
  have I : PySem.W.InstAt hp x { cls := .ref C, data := .fields #[.ref t1, .none, .none, .none, .bool false, .none] } C none := ⟨hx, rfl, rfl, trivial⟩
  have hxs : x ≠ hp.objs.size := Nat.ne_of_lt (Heap.lt_size hx)
  refine PySem.W.osa_openX (s := ⟨hp, g, d, t, os⟩) (r := none) SF X I hm (by unfold PySem.W.takerIn; rw [ha]; rfl) fun b => ?_
  show wpAny _ _ (storeInOwnDict (.ref x) (.ref C) (.str name tk) name v b) _ _ _
  have Lc : PySem.W.Looks (model prog w) hp (classData C) cd := PySem.W.looks_clsIn X hcd
  refine wpAny_bind (wpAny_pure (wpAny_bind (PySem.W.instanceDict_exc (s := ⟨hp, g, d, t, os⟩) (t := t1) (c2 := .none) hx Lc hh ?_)))
  have hx1 : (hp.push { cls := .type "dict", data := .dict #[] }).get? x = some { cls := .ref C, data := .fields #[.ref t1, .none, .none, .none, .bool false, .none] } := Heap.get?_push_of_some _ hx
  show wpAny _ _ (storeInDict hp.objs.size (.str name tk) name v) _ _ ⟨(hp.push { cls := .type "dict", data := .dict #[] }).update x fun o => { o with dict := some hp.objs.size }, g, d, t, os⟩
  refine PySem.HandSPX.store_in_new ⟨_, #[], _, (Heap.get?_update_ne _ _ _ _ hxs.symm).trans (Heap.get?_push_at rfl rfl), rfl, fun e he => absurd he (by simp), fun _ => rfl⟩ fun h' tk' hn' hs => ?_
  refine hq h' tk' hp.objs.size (fun b o hb ho => ?_) (Nat.le_refl _) hxs.symm ?_ hn'
  · exact (hs.2 b (Nat.ne_of_lt (Heap.lt_size ho))).trans ((Heap.get?_update_ne _ _ _ _ hb).trans (Heap.get?_push_of_some _ ho))
  · exact (hs.2 x hxs).trans (Heap.get?_update_self _ hx1 rfl)
end
section
variable {X : Cx} {pins : List (Addr × Obj)} {σ : L2.St} {H : Hp} {s : Shared} {a C : Addr} {f : Str} {y : V} {u : Value} {Q : Unit → Shared → Prop} {E : Value → Shared → Prop} {A : Around} {B newId initId : String} {bmB : List Value}
theorem OexB.over {K : PySem.W.Frag} (T : OexB K C B newId initId bmB) : PySem.W.excOver K C bmB = true := by
  obtain ⟨nm, q, N, bs, bm, sn, sub, ab, col, dd, k0, k1, k2, k3, k5, hC, hbm⟩ := T.cls
  unfold PySem.W.excOver PySem.W.clsIn
  rw [hC]
  show (C == C && PySem.W.excTail bmB bm) = true
  rw [hbm, beq_self_eq_true]
  rfl
theorem jih (T : OexB X.K C B newId initId bmB) (I : L2.Inv X pins σ H s) (e : H a = some (exo a C none)) (hno : PySem.W.findIn X.K (.ref C) f = some none) (ry : RelV y u)
    (h : ∀ dx s', H dx = none → dx ≠ a → L2.Inv X pins σ (upd (upd H dx (exd dx [(f, y)])) a (exo a C (some dx))) s' → Q () s') : wpAny (model X.prog X.w) A (setAttr (.ref a) f u) Q E s := by
  obtain ⟨nm, q, N, bs, bm, sn, sub, ab, col, dd, k0, k1, k2, k3, k5, hC, hbm⟩ := T.cls
  have hcl : PySem.W.clsIn X.K C = some { name := nm, bases := bs, mro := .ref C :: bm, ns := N, qualname := q, hasDict := true, slotNames := sn, subclasses := sub, abstract := ab, collection := col, hasDel := false } := by unfold PySem.W.clsIn; rw [hC] <;> rfl
  obtain ⟨t1, ho⟩ := exo_at I.hok e
  obtain ⟨hp, g, d, t, os⟩ := s
  refine PySem.W.set_plain I.kIn (ox := { cls := .ref C, dict := none, data := .fields #[.ref t1, .none, .none, .none, .bool false, .none] }) (od := none) ⟨ho, rfl, rfl, trivial⟩ T.sa ?_
  refine jln T.SF I.kIn ho hcl T.over rfl hno (fun h' tk' dx k dn dne hx hn => ?_)
  have hnd : H dx = none := I.hok.fresh dn
  -- the heap between: the dict laid, the error as it was
  have hm1 : (h'.update a fun _ => { cls := .ref C, dict := none, data := .fields #[.ref t1, .none, .none, .none, .bool false, .none] }).get? a = some { cls := .ref C, dict := none, data := .fields #[.ref t1, .none, .none, .none, .bool false, .none] } := Heap.get?_update_self _ hx rfl
  have hm2 : ∀ b, b ≠ a → (h'.update a fun _ => { cls := .ref C, dict := none, data := .fields #[.ref t1, .none, .none, .none, .bool false, .none] }).get? b = h'.get? b := fun b hb => Heap.get?_update_ne _ _ _ _ hb
  generalize (h'.update a fun _ => { cls := .ref C, dict := none, data := .fields #[.ref t1, .none, .none, .none, .bool false, .none] }) = hm at hm1 hm2
  have J1 : L2.Inv X pins σ (upd H dx (exd dx [(f, y)])) ⟨hm, g, d, tk', os⟩ := I.laid (t' := tk') (a := dx) (o := exd dx [(f, y)]) (h' := hm) (fun b o q => by
    by_cases hb : b = a
    · subst hb
      rw [hm1, ← ho]
      exact q
    · rw [hm2 b hb]
      exact k b o hb q) dn (exd_ok (hn.at fun o q => (hm2 dx dne).trans q) (relO_put (fs := []) ry fun g => True.intro))
  have J2 := J1.write (t' := tk') (x := a) (e := a) (o := exo a C (some dx)) (by rw [upd_ne (Ne.symm dne), e]; exact True.intro) (.inl rfl) (fun b o hb q => (hm2 b hb).symm.trans q) ⟨_, hx⟩ (exo_ok hx)
  exact h dx _ hnd dne J2
end
section
variable {X : Cx} {o e : Expr} {es : List Expr} {to te : TE} {ta : TA} {f : Str} {p p' p1 p2 pos : Pos} {B newId initId : String} {bmB : List Value}
/-- self.f = e in an error's own __init__ -/
def tOstB (K : PySem.W.Frag) (B newId initId : String) (bmB : List Value) (f : Str) (to te : TE) : TS := fun D σ H => te σ H fun y H1 => to σ H1 fun x H2 => ∃ a C : Addr, x = .ref a ∧ OexB K C B newId initId bmB ∧ PySem.W.findIn K (.ref C) f = some none ∧
  H2 a = some (exo a C none) ∧ ∀ dx, H2 dx = none → dx ≠ a → D.nx σ (upd (upd H2 dx (exd dx [(f, y)])) a (exo a C (some dx)))
theorem jcR (ho : PE X o to) (he : PE X e te) (hs : swapsWith e (some (.Attribute o f p')) pos.line X.env = pure false := by rfl) : PS X (.Assign [.Attribute o f p'] e pos) (tOstB X.K B newId initId bmB f to te) :=
  ⟨fun pins s σ H D I h => plainObj_wpAny_Assign_Attribute (thn (he.run pins s σ H _ I h) fun v s1 ⟨y, H1, I1, r1, q1⟩ => thn (ho.run pins s1 σ H1 _ I1 q1) fun u s2 ⟨x, H2, I2, r2, a, C, ex, T, hno, ea, q⟩ => by
    subst ex
    obtain rfl : u = Value.ref a := r2
    exact jih T I2 ea hno r1 fun dx s' n ne J => ⟨σ, _, J, q dx n ne⟩) hs⟩
end
end Pu
set_option maxHeartbeats 1000000
namespace Pu
open PySem PySem.Spec PyProof.Rows L2 Ly
end Pu
namespace Pu
open PySem PySem.Spec PyProof.Rows L2 Ly LamX
def noT (H : Hp) : Hp := fun a => match H a with
  | some (.tbl _) => none
  | o => o
def NoTb (H : Hp) : Prop := ∀ a ps, H a ≠ some (.tbl ps)
section
variable {H H1 H2 H' W W1 W2 W' W0 H0 : Hp} {a : Addr} {o : HO} {T : List (Addr × Str)}
theorem jfw (h : noT H a = some o) : H a = some o ∧ ∀ ps, o ≠ .tbl ps := by
  unfold noT at h
  split at h
  · cases h
  · rename_i n
    exact ⟨h, fun ps z => by subst z; exact n ps h⟩
theorem jaG (h : H a = some o) (n : ∀ ps, o ≠ .tbl ps) : noT H a = some o := by
  unfold noT
  split
  · rename_i ps q
    rw [h] at q
    exact absurd (Option.some.inj q) (n ps)
  · exact h
theorem jii (h : H a = none) : noT H a = none := by
  unfold noT
  rw [h]
theorem noT_no : NoTb (noT H) := fun a ps h => (jfw h).2 ps rfl
theorem NoTb.ne (n : NoTb W) (h : W a = some o) : ∀ ps, o ≠ .tbl ps := fun ps z => n a ps (by rw [h, z])
theorem jgX (n : NoTb W) (g : Gx W H) : Gx W (noT H) := fun a o h => jaG (g a o h) (n.ne h)
theorem jkB : Gx (noT H) H := fun a o h => (jfw h).1
theorem jij (g : Gx (noT H) H') (h : noT H' a = none) : noT H a = none := by
  cases q : noT H a with
  | none => rfl
  | some u =>
    rw [jaG (g a u q) (jfw q).2] at h
    cases h
theorem jgY {u : HO} (h : Rd W a u) (n : ∀ ps, u ≠ .tbl ps) : Rd (noT W) a u := by
  rcases h with h | ⟨o, h⟩
  · exact .inl (jaG h n)
  · exact .inr ⟨o, jaG h (fun ps z => by cases z)⟩
theorem noT_l {K : PySem.W.Frag} {vs : List V} (h : SqL K W a vs) : SqL K (noT W) a vs := by
  rcases h with h | h
  · exact .inl (jgY h (fun ps z => by cases z))
  · exact .inr h
mutual
theorem Rep.noT {K : PySem.W.Frag} {W : Hp} : ∀ {v : V} {d : D}, Rep K W v d → Rep K (Pu.noT W) v d
  | _, _, .non => .non
  | _, _, .bl b => .bl b
  | _, _, .int i => .int i
  | _, _, .str x => .str x
  | _, _, .lst h hs n => .lst (jaG h (fun ps z => by cases z)) (RepAll.noT hs) n
  | _, _, .tup h hs n => .tup (jaG h (fun ps z => by cases z)) (RepAll.noT hs) n
  | _, _, .tup0 h => .tup0 h
  | _, _, .dic h k hs n => .dic (jgY h (fun ps z => by cases z)) k (RepAll.noT hs) n
  | _, _, .obj h k hs => .obj (jaG h (fun ps z => by cases z)) k (RepAll.noT hs)
  | _, _, .dice h => .dice (jaG h (fun ps z => by cases z))
  | _, _, .cls C => .cls C
  | _, _, .exn h k hs => .exn (jaG h (fun ps z => by cases z)) k (RepAll.noT hs)
  | _, _, .lsk h hs n => .lsk (noT_l h) (RepAll.noT hs) n
  | _, _, .dit h k hs n => .dit (jgY h (fun ps z => by cases z)) k (RepAll.noT hs) n
  | _, _, .exm h h2 => .exm (jaG h (fun ps z => by cases z)) (jaG h2 (fun ps z => by cases z))
  | _, _, .exf h h2 r => .exf (jaG h (fun ps z => by cases z)) (jaG h2 (fun ps z => by cases z)) (Rep.noT r)
theorem RepAll.noT {K : PySem.W.Frag} {W : Hp} : ∀ {vs : List V} {ds : List D}, RepAll K W vs ds → RepAll K (Pu.noT W) vs ds
  | _, _, .nil => .nil
  | _, _, .cons h hs => .cons (Rep.noT h) (RepAll.noT hs)
end
/-- the tables may have grown -/
structure ExT (T : List (Addr × Str)) (W H W' H' : Hp) : Prop where
  ex : Ex W (noT H) W' H'
  tb : Tabs T H'
  nt : NoTb W'
theorem ExT.of (n : NoTb W) (t : Tabs T H) (e : Ex W H W' H') : ExT T W H (noT W') H' := ⟨⟨jkB.trans e.h, jgX n e.w, jkB.trans e.s, fun a o h => (e.n a o (jfw h).1).imp id (fun z => z.imp jii id)⟩, t.ext e.h, noT_no⟩
theorem ExT.trans (x : ExT T W H W1 H1) (y : ExT T W1 H1 W2 H2) : ExT T W H W2 H2 := ⟨⟨fun a o h => y.ex.h a o (jaG (x.ex.h a o h) (jfw h).2), x.ex.w.trans y.ex.w, y.ex.s, fun a o h => by
  rcases y.ex.n a o h with h | h
  · exact x.ex.n a o h
  · exact .inr (h.imp (fun z => jij x.ex.h z) id)⟩, y.tb, y.nt⟩
theorem Ex.base (s : Ex W0 H0 W H) (n : NoTb H0) (e : Ex W (noT H) W' H') : Ex W0 H0 W' H' := ⟨fun a o h => e.h a o (jaG (s.h a o h) (n.ne h)), s.w.trans e.w, e.s, fun a o h => by
  rcases e.n a o h with h | h
  · exact s.n a o h
  · refine .inr (h.imp (fun z => ?_) id)
    cases q : H0 a with
    | none => rfl
    | some u =>
      rw [jaG (s.h a u q) (n.ne q)] at z
      cases z⟩
theorem ExT.base (s : Ex W0 H0 W H) (n : NoTb H0) (e : ExT T W H W' H') : Ex W0 H0 W' H' := Ex.base s n e.ex
end
section
variable {K : PySem.W.Frag} {H H1 H2 H' W W1 W2 W' W0 H0 : Hp} {ρ : Env} {σ : L2.St} {i : Nat} {T : List (Addr × Str)}
theorem BRep.noT {o : Option Addr} {b : B} {s : Option V} (h : BRep K H0 W H o b s) : BRep K H0 W (noT H) o b s := by
  cases b with
  | un => exact h
  | val d => exact h
  | lst ds =>
    obtain ⟨p, vs, h1, h2, h3, h4, h5, h6⟩ := h
    exact ⟨p, vs, h1, h2, h3, h4, jaG h5 (fun ps z => by cases z), h6⟩
  | dic ks ds =>
    obtain ⟨p, vs, h1, h2, h3, h4, h5, h6⟩ := h
    exact ⟨p, vs, h1, h2, h3, h4, jaG h5 (fun ps z => by cases z), h6⟩
  | obj a C ns ds =>
    obtain ⟨p, dx, vs, h0, h1, h2, h3, h4, h5, h6, h7⟩ := h
    exact ⟨p, dx, vs, h0, h1, h2, h3, h4, jaG h5 (fun ps z => by cases z), jaG h6 (fun ps z => by cases z), h7⟩
  | bor q ks ds =>
    obtain ⟨h1, h2, h3, od, kvs, h5, h6⟩ := h
    exact ⟨h1, h2, h3, od, kvs, jaG h5 (fun ps z => by cases z), h6⟩
  | dit ks ds =>
    obtain ⟨p, vs, h1, h2, h3, h4, h5, h6⟩ := h
    exact ⟨p, vs, h1, h2, h3, h4, jaG h5 (fun ps z => by cases z), h6⟩
end
def ZN : ZX := fun _ => False
structure OkQ (T : List (Addr × Str)) (K : PySem.W.Frag) (W0 H0 W : Hp) (De : EndsD) (Dh : Ends) : Prop where
  nx : ∀ W' ρ' σ' H', Gx W W' → Sat K W0 H0 W' ρ' σ' H' → NoTb W' → Tabs T H' → De.nx ρ' → Dh.nx σ' H'
  rt : ∀ v W' H' d, Ex W0 H0 W' H' → NoTb W' → Tabs T H' → Rep K W' v d → De.rt d → Dh.rt v H'
  bk : ∀ W' ρ' σ' H', Gx W W' → Sat K W0 H0 W' ρ' σ' H' → NoTb W' → Tabs T H' → De.bk ρ' → Dh.bk σ' H'
  ct : ∀ W' ρ' σ' H', Gx W W' → Sat K W0 H0 W' ρ' σ' H' → NoTb W' → Tabs T H' → De.ct ρ' → Dh.ct σ' H'
  ex : De.ex = ZN
section
variable {X : Cx} {T : List (Addr × Str)} {K : PySem.W.Frag} {E : XK} {W0 H0 : Hp} {F G L : FE} {U V : FT} {A N : FA} {S S' : FS} {tg e a b : Expr} {es : List Expr} {pos pos' : Pos} {st : Stmt} {rest body : List Stmt} {i j : Nat}
theorem OkQ.up {W W1 : Hp} {De : EndsD} {Dh : Ends} (o : OkQ T K W0 H0 W De Dh) (g : Gx W W1) : OkQ T K W0 H0 W1 De Dh := ⟨fun W' ρ' σ' H' h => o.nx W' ρ' σ' H' (g.trans h), o.rt, fun W' ρ' σ' H' h => o.bk W' ρ' σ' H' (g.trans h), fun W' ρ' σ' H' h => o.ct W' ρ' σ' H' (g.trans h), o.ex⟩
end
end Pu
namespace Pu
open PySem PySem.Spec PyProof.Rows L2 Ly LamX
end Pu
namespace Pu
open PySem PySem.Spec PyProof.Rows L2 Ly LamX
theorem Sat.noT {K : PySem.W.Frag} {W0 H0 W H : Hp} {ρ : Env} {σ : L2.St} (s : Sat K W0 H0 W ρ σ H) (n0 : NoTb H0) (n : NoTb W) : Sat K W0 H0 W ρ σ (Pu.noT H) := ⟨⟨jgX n0 s.ex.h, s.ex.w, jgX n s.ex.s, s.ex.n⟩, s.len, by
  obtain ⟨oa, h1, h2⟩ := s.rep
  refine ⟨oa, h1, fun i b hb => ?_⟩
  obtain ⟨v, h3, h4⟩ := h2 i b hb
  exact ⟨v, h3, h4.noT⟩⟩
end Pu
namespace Pu
open PySem PySem.Spec PyProof.Rows L2 Ly
structure CalXB (P : Program) (w : World) (K : PySem.W.Frag) (mg : Str → Option Value) (base : Heap) (B newId initId : String) (bmB : List Value) (x : Str) (C : Addr) (k : Nat) (f : Str) : Prop where
  o : OexB K C B newId initId bmB
  g : mg x = some (.ref C)
  ex : ∃ (fI : Addr) (fd : FuncData) (ps : List Str), PySem.W.findIn K (.ref C) "__init__" = some (some (.ref fI)) ∧ PySem.W.typeIn K (.ref fI) = some (.type "function") ∧ FnOk P w K mg base CX0 k fI fd ps (spXi C f) ∧ Binds K fd ps []
section
variable {X : Cx} {K : PySem.W.Frag} {E : XK} {W0 H0 : Hp} {F : FE} {e : Expr} {x f : Str} {C : Addr} {k : Nat} {p pos pos' : Pos} {B newId initId : String} {bmB : List Value}
theorem jfZ : MkF "LookupError.__new__" lkTail ∧ StoreFacts "LookupError" lkTail "object.__setattr__" "object" := ⟨jdI PySem.F.excBase_LookupError, PySem.F.store_LookupError⟩
theorem jga : MkF "OverflowError.__new__" ofTail ∧ StoreFacts "OverflowError" ofTail "object.__setattr__" "object" := ⟨jdI PySem.F.excBase_OverflowError, PySem.F.store_OverflowError⟩
theorem jgb : MkF "RuntimeError.__new__" rtTail ∧ StoreFacts "RuntimeError" rtTail "object.__setattr__" "object" := ⟨jdI PySem.F.excBase_RuntimeError, PySem.F.store_RuntimeError⟩
theorem jgc : MkF "IndexError.__new__" ixTail ∧ StoreFacts "IndexError" ixTail "object.__setattr__" "object" := ⟨jdI PySem.F.excBase_IndexError, PySem.F.store_IndexError⟩
theorem jgd : MkF "ArithmeticError.__new__" arTail ∧ StoreFacts "ArithmeticError" arTail "object.__setattr__" "object" := ⟨jdI PySem.F.excBase_ArithmeticError, PySem.F.store_ArithmeticError⟩
end
end Pu
set_option maxHeartbeats 4000000
namespace Pu
open PySem PySem.Spec PyProof.Rows L2 Ly
theorem jgZ : StoreFacts "KeyError" keyTail "object.__setattr__" "object" := { PySem.F.store_LookupError with
  mro := by kernel_rfl
  slot := .of (owner := "object") (n := "__setattr__") (by rw [typeLookup_type, builtinLookup_eq_fast]; kernel_rfl) (by decide +kernel) (by decide +kernel) (by decide +kernel) (by first | exact .inl (by decide +kernel) | exact .inr (by decide +kernel)) (by rw [isSubtype_type]; kernel_rfl)
  hasOwner := by decide +kernel
  passes := fun self => by kernel_rfl }
section
variable {prog : Program} {w : World} {A : Around} {h : Heap} {g : Array GenState} {d : Drawn} {t : Nat} {os : OsState} {nm q : Str} {C N : Addr} {bs bm : List Value} {hdct : Bool} {sn : List Str} {sub : List Value} {ab : Bool} {col : Option Bool} {dd : Option Addr} {k0 k1 k2 k3 k5 : Option Value} {B newId initId : String} {bmB : List Value}
theorem jlo (Fb : ExcBaseFacts B newId initId bmB) (iB : (Value.ref C :: bm).contains (.type B) = true) {rest : List Value} {Q : Unit → Shared → Prop} {E : Value → Shared → Prop} {M : Model}
    (oC : h.get? C = some (excClassObj nm q C N bs bm hdct sn sub ab col dd k0 k1 k2 k3 k5 newId)) (hq : Q () ⟨h, g, d, t, os⟩) : wpAny M A (checkBuiltinCall newId ⟨.ref C :: rest, []⟩) Q E ⟨h, g, d, t, os⟩ := by
  have nostar := Fb.noStar
  simp only [checkBuiltinCall, Fb.newKind, Fb.newSplit, Fb.newRow]
  repeat (first | refine wpAny_loadPart_at oC ?_ | (refine wpAny_isSubtype_exc oC ?_; rw [iB]) | refine wpAny_staticBase_exc oC ?_ | refine wpAny_madeBy_exc oC ?_ | simp only [bne_self_eq_false, Bool.false_eq_true, if_false] | wp_step)
  exact hq
theorem jik (Fb : ExcBaseFacts B newId initId bmB) (iB : (Value.ref C :: bm).contains (.type B) = true) (iA : (Value.ref C :: bm).contains (.type "AttributeError") = false) (iN : (Value.ref C :: bm).contains (.type "NameError") = false) {rest : List Value} {R : Result → Shared → Prop}
    (oC : h.get? C = some (excClassObj nm q C N bs bm hdct sn sub ab col dd k0 k1 k2 k3 k5 newId)) (small : rest.length ≤ sizeLine)
    (hq : R (.ok (.ret (.ref (h.objs.size + 1)))) ⟨(h.push (PySem.W.kdv_tup rest)).push (PySem.HandSPX.excO C h.objs.size), g, d, t, os⟩) : codeAny (model prog w) A (.builtin newId ⟨.ref C :: rest, []⟩) R ⟨h, g, d, t, os⟩ := by
  have ends := Fb.ends
  refine codeAny_builtinAt Fb.entry ?_
  (unfold Builtin.«BaseException.__new__»; refine PySem.wpAt_bind ?_)
  (show PySem.wpAt _ _ _ (stack >>= _) _ _ _; refine PySem.wpAt_bind (PySem.wpAt_stack fun p below => PySem.wpAt_of_wpAny ?_))
  wp_walk
  (refine PySem.wpAt_of_wpAny ?_; rw [Fb.owner])
  repeat (first | with_reducible refine wpAny_madeHere_exc Fb.canon oC ?_ | with_reducible refine wpAny_loadPart_at oC ?_ | (with_reducible refine wpAny_isSubtype_exc oC ?_; first | rw [iB] | rw [iA] | rw [iN]) | wp_step)
  show R _ _
  (rw [Heap.size_push]; exact hq)
theorem jil (Fb : ExcBaseFacts B newId initId bmB) (iB : (Value.ref C :: bm).contains (.type B) = true) (iA : (Value.ref C :: bm).contains (.type "AttributeError") = false) (iN : (Value.ref C :: bm).contains (.type "NameError") = false) {rest : List Value} {fI : Addr} {Q : Fin → Shared → Prop} {E : Value → Shared → Prop}
    (oC : h.get? C = some (excClassObj nm q C N bs bm hdct sn sub ab col dd k0 k1 k2 k3 k5 newId)) (li : PySem.W.Looks (model prog w) h (typeLookup (.ref C) "__init__") (some (.ref fI))) (lb : ∀ self, PySem.W.Looks (model prog w) h (bindSpecial (.ref fI) self) (.ref fI, [self])) (small : rest.length ≤ sizeLine)
    (hq : codeAny (model prog w) A (.call (.ref fI) ⟨.ref (h.objs.size + 1) :: rest, []⟩) (fun r s' => match r with | .ok (.ret v) => v = .none ∧ Q (.done (.ret (.ref (h.objs.size + 1)))) s' | .ok _ => False | .error e => E e s') ⟨(h.push (PySem.W.kdv_tup rest)).push (PySem.HandSPX.excO C h.objs.size), g, d, t, os⟩) :
    wpAny (model prog w) A (Builtin.«type.__call__» ⟨.ref C :: rest, []⟩) Q E ⟨h, g, d, t, os⟩ := by
  repeat (first | with_reducible refine wpAny_loadPart_at oC ?_ | with_reducible refine wpAny_madeBy_exc oC ?_ | wp_step)
  refine codeAny_call_builtin_code (Code.quiet_builtin _ Fb.quiet) (jlo Fb iB oC ?_)
  refine jik Fb iB iA iN oC small ?_
  show wpAny _ _ _ _ _ _
  have up : ∀ b o, h.get? b = some o → ((h.push (PySem.W.kdv_tup rest)).push (PySem.HandSPX.excO C h.objs.size)).get? b = some o := fun b o e => Heap.get?_push_of_some _ (Heap.get?_push_of_some _ e)
  have oC1 := up _ _ oC
  have new : ((h.push (PySem.W.kdv_tup rest)).push (PySem.HandSPX.excO C h.objs.size)).get? (h.objs.size + 1) = some (PySem.HandSPX.excO C h.objs.size) := by heap_get
  have iC : (Value.ref C :: bm).contains (.ref C) = true := by simp
  have li1 := li.keeps up
  have lb1 := (lb (.ref (h.objs.size + 1))).keeps up
  unfold isInstance
  repeat (first | with_reducible refine wpAny_loadPart_at new ?_ | (with_reducible refine wpAny_isSubtype_exc oC1 ?_; rw [iC]) | wp_step)
  show wpAny _ _ (typeLookup (.ref C) _) _ _ _
  refine li1.at (wpAny_holding (wpAny_bind (lb1.at ?_)))
  refine wpAny_bind (wpAny_call (codeAny_mono hq fun r s' z => ?_))
  rcases r with e | (v | _ | _ | _) <;> first | exact z | exact z.elim | skip
  obtain ⟨rfl, z⟩ := z
  first | exact wpAny_pure (wpAny_pure z) | (wp_walk; exact z)
/-- a class over KeyError is made by LookupError's maker -/
theorem mk_key : MkF "LookupError.__new__" keyTail := ⟨fun {prog w A R h g d t os nm q C N bs bm hdct sn sub ab col dd k0 k1 k2 k3 k5 rest fI} hT oC li lb small hq => by
  have Fb := PySem.F.excBase_LookupError
  have iB : (Value.ref C :: bm).contains (.type "LookupError") = true := by rw [List.contains_cons, hT, show keyTail.contains (.type "LookupError") = true by decide +kernel, Bool.or_true]
  have iA : (Value.ref C :: bm).contains (.type "AttributeError") = false := by rw [List.contains_cons, hT, show keyTail.contains (.type "AttributeError") = false by decide +kernel]; rfl
  have iN : (Value.ref C :: bm).contains (.type "NameError") = false := by rw [List.contains_cons, hT, show keyTail.contains (.type "NameError") = false by decide +kernel]; rfl
  have tcl := tc_lookup
  have tcb := tc_bind (.ref C)
  have ty : (⟨h, g, d, t, os⟩ : Shared).TypeIs (.ref C) "type" := ⟨_, oC, rfl⟩
  refine codeAny_of_tree ?_
  show wpAny _ _ (callAny (.ref C) _) _ _ _
  repeat (any_goals (first | assumption | with_reducible refine wpAny_loadPart_at oC ?_ | wp_step))
  refine ⟨rfl, codeAny_call_builtin_at (Code.quiet_builtin _ (by decide +kernel)) entry_typeCall (wpAny_check_type_call_sub oC (jil Fb iB iA iN oC li lb small (codeAny_mono hq fun r s' z => ?_)))⟩
  rcases r with e | (v | _ | _ | _) <;> exact z⟩
theorem jge : MkF "LookupError.__new__" keyTail ∧ StoreFacts "KeyError" keyTail "object.__setattr__" "object" := ⟨mk_key, jgZ⟩
theorem jgf : MkF "ValueError.__new__" valTail ∧ StoreFacts "ValueError" valTail "object.__setattr__" "object" := ⟨jdI PySem.F.excBase_ValueError, PySem.F.store_ValueError⟩
end
end Pu
set_option maxHeartbeats 1000000
namespace Pu
open PySem PySem.Spec PyProof.Rows L2 Ly
/-- an own class of errors without an own __init__ -/
structure ErM (K : PySem.W.Frag) (C : Addr) : Prop where
  ex : ∃ (B newId initId : String) (bmB : List Value), ExcBaseFacts B newId initId bmB ∧ PySem.W.excIn K C bmB newId = true
  k : PySem.W.keepIn K (.ref C) = true
section
variable {X : Cx} {C : Addr} {x : Str} {e : Expr} {ta : TE} {p pos : Pos}
theorem exS_ok {P : Program} {w : World} {H : Hp} {h : Heap} {a C t1 : Addr} (he : h.get? a = some ({ cls := .ref C, dict := none, data := .fields #[.ref t1, .none, .none, .none, .bool false, .none] } : Obj)) : ObjOk P w H h a (exS a C t1) :=
  ⟨he, ⟨_, he⟩, fun h1 h2 z k => k _ z⟩
/-- C(e) as a value -/
def tExm (C : Addr) (ta : TE) : TE := fun σ H Q => ta σ H fun v H1 => ∃ m, v = .str m ∧ ∀ a t, H1 a = none → H1 t = none → a ≠ t → Q (.ref a) (upd (upd H1 t (.tup [.str m])) a (exS a C t))
theorem pe_exm (F : ErM X.K C) (gC : X.mg x = some (.ref C)) (hg : Gl X x) (he : PE X e ta) (hs : starEach [e] X.env = (false, eval e X.env) :: starEach [] X.env := by rfl) (hdb : (x == ("__debug__" : Str)) = false := by decide) :
    PE X (.Call (.Name x p) [e] [] pos) (tExm C ta) := by
  obtain ⟨B, newId, initId, bmB, Fb, q⟩ := F.ex
  refine ⟨fun pins s σ H Q I h => wpAny_Call_Name_kw (ld_glob I hg gC ?_ hdb)⟩
  refine PySem.W.callWith_K (h₀ := X.base) I.ok.mod.kin F.k ?_ hs (by rfl)
  rw [hs]
  show wpAny _ _ (spliced ((false, eval e X.env) :: backTo pos (starEach [] X.env))) _ _ s
  refine Calls.spliced_cons (thn (he.run pins s σ H _ I h) fun u s1 ⟨v, H1, I1, r1, m, ev, q1⟩ => Calls.spliced_nil ⟨I1.kIn, ?_⟩)
  subst ev
  obtain ⟨tk, ru⟩ : ∃ tk, u = Value.str m tk := r1
  show wpAny _ _ (call (.ref C) [u]) _ _ _
  obtain ⟨bm, N, nm, qn, bs, hdct, sn, sub, ab, col, dd, k0, k1, k2, k3, k5, mN, hC, hN, hni, T⟩ := exc_obj I1.kIn q
  refine wpAny_call_exc_subT Fb T hC hN hni (fun h' a hm => ?_) (by show 1 ≤ sizeLine; rw [sizeLine_eq]; omega)
  have na : H1 a = none := I1.hok.gone hm.new
  obtain ⟨t, ht, nt, hu⟩ := hm.there
  have nt1 : H1 t = none := I1.hok.gone nt
  have hat : a ≠ t := fun z => by
    rw [z, hu] at ht
    cases ht
  obtain ⟨G, g1, g2⟩ := restrict h' fun b => decide (b ≠ a)
  have gk : ∀ b, b ≠ a → G.get? b = h'.get? b := fun b hb => g1 b (decide_eq_true hb)
  have ga : G.get? a = none := g2 a (decide_eq_false fun z => z rfl)
  have up : ∀ b o, s1.heap.get? b = some o → G.get? b = some o := fun b o z => by
    rw [gk b (fun y => by rw [y, hm.new] at z; cases z)]
    exact hm.keeps b o z
  have up2 : ∀ b o, G.get? b = some o → h'.get? b = some o := fun b o z => by
    rw [← gk b (fun y => by rw [y, ga] at z; cases z)]
    exact z
  have gt : G.get? t = some (PySem.W.kdv_tup [u]) := by
    rw [gk t (Ne.symm hat)]
    exact hu
  have J1 := I1.laidN (h' := G) (a := t) (o := .tup [.str m]) (t' := s1.toks) up nt nt1 (by exact ⟨show 1 ≤ sizeLine by rw [sizeLine_eq]; omega, [u], .cons ⟨tk, ru⟩ .nil, _, gt, rfl, _, rfl⟩)
  have J2 := J1.laidN (h' := h') (a := a) (o := exS a C t) (t' := s1.toks) up2 ga (by rw [upd_ne hat]; exact na) (exS_ok ht)
  exact ⟨.ref a, _, J2, rfl, q1 a t na nt1 hat⟩
end
section
variable {X : Cx} {K : PySem.W.Frag} {E : XK} {F : FE} {C : Addr} {x : Str} {e : Expr} {p pos : Pos}
def fExm (C : Addr) (F : FE) : FE := fun ρ Q Z => F ρ (fun d => ∃ m, d = .str m ∧ Q (.exm C m)) Z
theorem d_exm (c : ErM K C) (gC : X.mg x = some (.ref C)) (hg : Gl X x) (he : PE X e (tD K E F)) (hK : X.K = K := by rfl) (hs : starEach [e] X.env = (false, eval e X.env) :: starEach [] X.env := by rfl) (hdb : (x == ("__debug__" : Str)) = false := by decide) :
    PE X (.Call (.Name x p) [e] [] pos) (tD K E (fExm C F)) := by
  subst hK
  refine (pe_exm c gC hg he hs hdb).mono fun σ H Qh ⟨W0, H0, W, ρ, Q, Z, st, f, k, xc⟩ => ⟨W0, H0, W, ρ, _, Z, st, f, fun v W1 H1 d e1 r ⟨m, z, q⟩ => ?_, xc⟩
  subst z
  cases r
  refine ⟨m, rfl, fun a t ha ht hat => ?_⟩
  have e2 := Ex.new (o := .tup [.str m]) e1.s ht
  have e3 := Ex.new (o := exS a C t) e2.s (by rw [upd_ne hat]; exact ha)
  exact k _ _ _ _ ((e1.trans e2).trans e3) (.exm upd_same (by rw [upd_ne (Ne.symm hat), upd_same])) q
end
def tMkE (C : Addr) (sp : Sp) (ta : TA) : TE := fun σ H Q => ta σ H fun vs H1 => vs.length ≤ 1000 ∧ ∀ a, H1 a = none → sp (.ref a :: vs) (upd H1 a (exo a C none)) (fun v H2 => v = .non ∧ Q (.ref a) H2) (fun _ _ _ => False)
section
variable {X : Cx} {e : Expr} {es : List Expr} {ta : TA} {p pos : Pos} {B newId initId : String} {bmB : List Value}
theorem jlp {CX : CXT} {x : Str} {C fI : Addr} {k : Nat} {fd : FuncData} {ps : List Str} {sp : Sp} (T : OexB X.K C B newId initId bmB) (iC : PySem.W.findIn X.K (.ref C) "__init__" = some (some (.ref fI))) (tI : PySem.W.typeIn X.K (.ref fI) = some (.type "function"))
    (F1 : FnOk X.prog X.w X.K X.mg X.base CX k fI fd ps sp) (hr : Room (k + 1) X.A) (hb : Binds X.K fd ps []) (hx : Passes CX X (fun _ _ _ => False)) (hg : Gl X x) (hm : X.mg x = some (.ref C)) (ha : PA X (e :: es) ta)
    (hdb : (x == ("__debug__" : Str)) = false := by decide) (he : starEach (e :: es) X.env = (false, eval e X.env) :: starEach es X.env := by rfl) (hpl : (backTo pos (starEach es X.env)).any (·.1) = false := by rfl) :
    PE X (.Call (.Name x p) (e :: es) [] pos) (tMkE C sp ta) := by
  refine ⟨fun pins s σ H Q I h => ?_⟩
  obtain ⟨nm, q, N, bs, bm, sn, sub, ab, col, dd, k0, k1, k2, k3, k5, hC, hbm⟩ := T.cls
  refine wpAny_Call_Name_kw (ld_glob I hg hm ?_ hdb)
  refine PySem.W.callWith_K (h₀ := X.base) I.ok.mod.kin T.kC (thn (ha.run pos pins s σ H _ I h) fun us s1 ⟨vs, H1, I1, r1, hz, q1⟩ => ⟨I1.kIn, ?_⟩) he hpl
  obtain ⟨hp, g, dr, tk, os⟩ := s1
  have fresh : H1 (hp.objs.size + 1) = none := I1.hok.fresh (Nat.le_succ _)
  have hq := q1 (hp.objs.size + 1) fresh
  have I2 := I1.laid (t' := tk) (a := hp.objs.size + 1) (o := exo (hp.objs.size + 1) C none) (h' := (hp.push (PySem.W.kdv_tup us)).push (PySem.HandSPX.excO C hp.objs.size)) (fun b o z => Heap.get?_push_of_some _ (Heap.get?_push_of_some _ z)) (Nat.le_succ _) (exo_ok (by heap_get))
  have r2 : Vals (V.ref (hp.objs.size + 1) :: vs) (Value.ref (hp.objs.size + 1) :: us) := .cons rfl r1
  have hl : (Value.ref (hp.objs.size + 1) :: us).length = ps.length := by rw [← F1.len _ _ _ _ hq, r2.length]
  have small : us.length ≤ sizeLine := by
    have := Paired.length r1
    rw [sizeLine_eq]
    omega
  refine wpAny_call (T.F.make (fun Y => PySem.W.excTail_contains Y bm hbm) (I1.kIn _ _ hC) (PySem.W.looks_findIn I1.kIn iC) (fun self => PySem.W.bind_fn I1.kIn self tI) small
    (codeAny_mono (F1.run _ X.stack _ _ ⟨Value.ref (hp.objs.size + 1) :: us, []⟩ (Value.ref (hp.objs.size + 1) :: us) _ _ (fun _ _ _ => False) (hr.make C us []) (I2.env0.make C us []) (by
      have b := hb _ (Value.ref (hp.objs.size + 1) :: us) I2.kIn (by rw [List.append_nil]; exact hl)
      rw [List.append_nil] at b
      exact b) r2 hq) fun r s' hq' => ?_))
  match r, hq' with
  | .error er, hq' => exact hx pins σ _ _ er s' I2 hq'
  | .ok (.ret u), ⟨v, H2, os2, bare2, un2, hok2, rv, ev, q2⟩ =>
    subst ev
    exact ⟨rv, .ref (hp.objs.size + 1), H2, I2.call' (ch := []) os2 un2 hok2 bare2 (fun b z => absurd z (by simp)), rfl, q2⟩
end
section
variable {X : Cx} {K : PySem.W.Frag} {E : XK} {F : FE} {e : Expr} {x f : Str} {C : Addr} {k : Nat} {p pos pos' : Pos} {B newId initId : String} {bmB : List Value}
def fExf (C : Addr) (f : Str) (F : FE) : FE := fun ρ Q Z => F ρ (fun d => Q (.exf C f d)) Z
theorem d_exf (c : CalXB X.prog X.w X.K X.mg X.base B newId initId bmB x C k f) (hr : Room (k + 1) X.A) (hg : Gl X x) (he : PE X e (tD K E F)) (hK : X.K = K := by rfl) (hdb : (x == ("__debug__" : Str)) = false := by decide)
    (hs : starEach [e] X.env = (false, eval e X.env) :: starEach [] X.env := by rfl) (hpl : (backTo pos (starEach [] X.env)).any (·.1) = false := by rfl) : PE X (.Call (.Name x p) [e] [] pos) (tD K E (fExf C f F)) := by
  subst hK
  obtain ⟨fI, fd, ps, h1, h2, h3, h4⟩ := c.ex
  refine (jlp c.o h1 h2 h3 hr h4 pass0 hg c.g (pa_cons he pa_nil hs) hdb hs hpl).mono fun σ H Qh ⟨W0, H0, W, ρ, Q, Z, st, q, k, xc⟩ => ⟨W0, H0, W, ρ, _, Z, st, q, fun v W1 H1 d e1 r z => ⟨show 1 ≤ 1000 by decide, fun a ha => ⟨a, v, rfl, upd_same, fun dx hdx hne => ⟨rfl, ?_⟩⟩⟩, xc⟩
  have hdx' : H1 dx = none := by rw [upd_ne hne] at hdx; exact hdx
  have eH : upd (upd (upd H1 a (exo a C none)) dx (exd dx [(f, v)])) a (exo a C (some dx)) = upd (upd H1 dx (exd dx [(f, v)])) a (exo a C (some dx)) := by
    funext b
    by_cases ha' : b = a
    · rw [ha', upd_same, upd_same]
    · rw [upd_ne ha', upd_ne ha']
      by_cases hd : b = dx
      · rw [hd, upd_same, upd_same]
      · rw [upd_ne hd, upd_ne hd, upd_ne ha']
  rw [eH]
  have e2 := Ex.new (o := exd dx [(f, v)]) e1.s hdx'
  have e3 := Ex.new (o := exo a C (some dx)) e2.s (by rw [upd_ne (Ne.symm hne)]; exact ha)
  exact k _ _ _ _ ((e1.trans e2).trans e3) (.exf upd_same (by rw [upd_ne hne, upd_same]) (r.gx (e2.w.trans e3.w))) z
/-- e.f -/
def fXfv (C : Addr) (f : Str) (F : FE) : FE := fun ρ Q Z => F ρ (fun v => ∃ d, v = .exf C f d ∧ Q d) Z
theorem d_xfv {n : Str} (T : XfC X.K C) (hno : PySem.W.findIn X.K (.ref C) n = some none) (he : PE X e (tD K E F)) (hK : X.K = K := by rfl) (hb : attributeBase e n X.env (eval e X.env) = eval e X.env := by rfl) : PE X (.Attribute e n pos) (tD K E (fXfv C n F)) := by
  subst hK
  refine ⟨fun pins s σ H Qh I ⟨W0, H0, W, ρ, Q, Z, st, f, k, xc⟩ => ?_⟩
  refine attr_of hb (thn (he.run pins s σ H (fun y H1 => ∃ W1 v, Ex W H W1 H1 ∧ Rep X.K W1 y v ∧ ∃ d, v = .exf C n d ∧ Q d) I ⟨W0, H0, W, ρ, _, Z, st, f, fun v W1 H1 d e1 r q => ⟨W1, d, e1, r, q⟩, xc⟩) fun u s1 ⟨y, H1, I1, rx, W1, v, e1, r, d, ev, q⟩ => ?_)
  subst ev
  cases r with
  | @exf a _ dx _ w _ h1 h2 h3 =>
    obtain rfl : u = Value.ref a := rx
    obtain ⟨t1, ho⟩ := exo_at I1.hok (e1.s _ _ h1)
    obtain ⟨mA, hns, rel⟩ := exd_at I1.hok (e1.s _ _ h2)
    obtain ⟨od, hod, hl⟩ := lookIn_ns hns
    have rn := rel n
    rw [show List.lookup n [(n, w)] = some w by simp [List.lookup]] at rn
    obtain ⟨u', hu, ru⟩ := RelO.some_of (v := w) (o := mA n) rn
    have J : PySem.W.InstAt s1.heap a _ C (some od) := ⟨ho, rfl, rfl, hod⟩
    exact HandSPX.exc_get I1.kIn J T.ga T.gg T.exC (PySem.W.findObj_own T.hdC hno rfl (by rw [hl, hu])) (handed_of ru) ⟨w, H1, I1.tok _, ru, k w W1 H1 d e1 h3 q⟩
end
/-- what is asked of a class of errors -/
structure ErX (K : PySem.W.Frag) (C : Addr) : Prop where
  x : XfC K C
  cl : (PySem.W.clsIn K C).isSome = true
  ca : PySem.W.findIn K (.ref C) "__class__" = some (some (.builtin "object.__class__"))
  sp : PySem.W.specialIn K (.builtin "object.__class__") "__get__" = some (some (.builtin "getset_descriptor.__get__"))
  tk : PySem.W.takesIn K (.builtin "object.__class__") = some true
  mr : PySem.W.mroIn K C (.type "object") = some true
/-- .. whose str is that of its one text -/
structure ErS (K : PySem.W.Frag) (C : Addr) : Prop extends ErX K C where
  str : PySem.W.findIn K (.ref C) "__str__" = some (some (.builtin "BaseException.__str__"))
section
variable {X : Cx} {K : PySem.W.Frag} {E : XK} {F : FE}
def rStrX (K : PySem.W.Frag) : List V → Hp → VK → Prop := fun xs H Q => ∃ (a C t : Addr) (m : Str), xs = [.ref a] ∧ H a = some (exS a C t) ∧ H t = some (.tup [.str m]) ∧ ErS K C ∧ Q (.str m) H
theorem c_strX (hu : X.A.units + 65 < cLine) (hK : X.K = K := by rfl) : CallR X (.type "str") (rStrX K) := by
  subst hK
  intro pins s σ H xs us Q I r h
  obtain ⟨a, C, t, m, rfl, h1, h2, o, q⟩ := h
  obtain ⟨u, rfl, ru⟩ := vals1 r
  obtain rfl : u = Value.ref a := ru
  have x1 : ObjOk X.prog X.w H s.heap a (exS a C t) := I.hok a _ h1
  obtain ⟨ho, _, _⟩ := x1
  obtain ⟨_, its, rv, ot, g1, g2, n, g3⟩ := (show ObjOk X.prog X.w H s.heap t (.tup [.str m]) from I.hok t _ h2)
  obtain ⟨u1, rfl, r1⟩ := L2.vals1 rv
  obtain ⟨tk, rfl⟩ : ∃ tk, u1 = Value.str m tk := r1
  exact PySem.P.str_of_C_one (by omega) ⟨I.kIn, _, _, ho, rfl, rfl, rfl⟩ ⟨ot, n, g1, g2, g3⟩ o.str o.x.exC ⟨.str m, H, I, ⟨_, rfl⟩, q⟩
def RStrX (K : PySem.W.Frag) (ds : List D) (Q : D → Prop) : Prop := ∃ C m, ds = [.exm C m] ∧ ErS K C ∧ Q (.str m)
theorem s_strX : CSnd K (rStrX K) (RStrX K) := fun W H xs ds Q Qh s rr ⟨C, m, z, o, q⟩ k => by
  subst z
  obtain ⟨v, rfl, r⟩ := ts1 rr
  cases r with
  | val r =>
    cases r with
    | exm h1 h2 => exact ⟨_, C, _, m, rfl, s _ _ h1, s _ _ h2, o, k _ W H _ (Ex.refl s) (.str _) q⟩
def clsE : D → Option Addr
  | .exm C _ => some C
  | .exf C _ _ => some C
  | _ => none
def rIsx (K : PySem.W.Frag) : List V → Hp → VK → Prop := fun xs H Q => ∃ (a C : Addr) (c : V) (u : Value) (b : Bool), xs = [.ref a, c] ∧ ClsV c u ∧ ErX K C ∧ ((∃ t, H a = some (exS a C t)) ∨ ∃ dx fs, H a = some (exo a C (some dx)) ∧ H dx = some (exd dx fs)) ∧ PySem.W.kitOne K (.ref C) u = some b ∧ Q (.bl b) H
theorem jgg (hK : X.K = K := by rfl) : CallR X (.builtin "isinstance") (rIsx K) := by
  subst hK
  intro pins s σ H xs us Q I r h
  obtain ⟨a, C, c, u, b, rfl, kc, o, hh, e, q⟩ := h
  obtain ⟨u1, u2, rfl, r1, r2⟩ := vals2 r
  have e2 := kc.eq r2
  subst e2
  obtain rfl : u1 = Value.ref a := r1
  rcases hh with ⟨t, h1⟩ | ⟨dx, fs, h1, h2⟩
  · obtain ⟨ho, _, _⟩ := (show ObjOk X.prog X.w H s.heap a (exS a C t) from I.hok a _ h1)
    exact PySem.W.kia_one (PySem.W.kitx_exc (od := none) o.cl o.x.ga o.x.gg o.x.exC o.ca o.sp o.tk o.mr) I.kIn (show PySem.W.InstAt s.heap a _ C none from ⟨ho, rfl, rfl, trivial⟩) e (fun z => nomatch z) fun tk => ⟨.bl b, H, I.tok tk, rfl, q⟩
  · obtain ⟨t1, ho⟩ := exo_at I.hok h1
    obtain ⟨mA, ⟨od, es, ep, g1, g2⟩, rel⟩ := exd_at I.hok h2
    exact PySem.W.kia_one (PySem.W.kitx_exc (od := some od) o.cl o.x.ga o.x.gg o.x.exC o.ca o.sp o.tk o.mr) I.kIn (show PySem.W.InstAt s.heap a _ C (some od) from ⟨ho, rfl, rfl, g1⟩) e (fun z => nomatch z) fun tk => ⟨.bl b, H, I.tok tk, rfl, q⟩
def fIsx (K : PySem.W.Frag) (u : Value) (F : FE) : FE := fun ρ Q Z => F ρ (fun d => ∃ C b, clsE d = some C ∧ ErX K C ∧ PySem.W.kitOne K (.ref C) u = some b ∧ Q (.bl b)) Z
variable {e : Expr} {p pos : Pos}
theorem jkC {c : V} {u : Value} (kc : ClsV c u) {σ : L2.St} {H : Hp} {Qh : VK} (h : tD K E (fIsx K u F) σ H Qh) : tD K E F σ H (fun v H1 => rIsx K [v, c] H1 Qh) := by
  obtain ⟨W0, H0, W, ρ, Q, Z, st, f, k, xc⟩ := h
  refine ⟨W0, H0, W, ρ, _, Z, st, f, fun v W1 H1 d e1 r ⟨C, b, hd, o, hk, q⟩ => ?_, xc⟩
  have fin := k _ W1 H1 _ e1 (.bl b) q
  cases r with
  | exm h1 h2 =>
    cases hd
    exact ⟨_, _, c, u, b, rfl, kc, o, .inl ⟨_, e1.s _ _ h1⟩, hk, fin⟩
  | exf h1 h2 h3 =>
    cases hd
    exact ⟨_, _, c, u, b, rfl, kc, o, .inr ⟨_, _, e1.s _ _ h1, e1.s _ _ h2⟩, hk, fin⟩
  | _ => cases hd
theorem jep {n : String} {y : Str} {p2 : Pos} (hg : Gl X "isinstance") (hm : X.mg "isinstance" = none) (h : PE X e (tD K E F)) (ht : PE X (.Name y p2) (tC (.ty n))) (hK : X.K = K := by rfl)
    (hs : starEach [e, .Name y p2] X.env = (false, eval e X.env) :: starEach [.Name y p2] X.env := by rfl) (hs2 : starEach [.Name y p2] X.env = [(false, eval (.Name y p2) X.env)] := by rfl) (hpl : (backTo pos (starEach [.Name y p2] X.env)).any (·.1) = false := by rfl) :
    PE X (.Call (.Name "isinstance" p) [e, .Name y p2] [] pos) (tD K E (fIsx K (.type n) F)) :=
  (pe_callB (jgg hK) hg hm (by decide +kernel) (pa_cons h (pa_cons ht pa_nil hs2) hs) (by decide) (by decide) hs hpl).mono fun σ H Qh q => jkC (.ty n) q
theorem jba {C' : Addr} {y : Str} {p2 : Pos} (hg : Gl X "isinstance") (hm : X.mg "isinstance" = none) (h : PE X e (tD K E F)) (ht : PE X (.Name y p2) (tC (.ref C'))) (hK : X.K = K := by rfl)
    (hs : starEach [e, .Name y p2] X.env = (false, eval e X.env) :: starEach [.Name y p2] X.env := by rfl) (hs2 : starEach [.Name y p2] X.env = [(false, eval (.Name y p2) X.env)] := by rfl) (hpl : (backTo pos (starEach [.Name y p2] X.env)).any (·.1) = false := by rfl) :
    PE X (.Call (.Name "isinstance" p) [e, .Name y p2] [] pos) (tD K E (fIsx K (.ref C') F)) :=
  (pe_callB (jgg hK) hg hm (by decide +kernel) (pa_cons h (pa_cons ht pa_nil hs2) hs) (by decide) (by decide) hs hpl).mono fun σ H Qh q => jkC (.own C') q
end
end Pu
namespace Pu
open PySem PySem.Spec PyProof.Rows L2 Ly
section
variable {X : Cx} {K : PySem.W.Frag} {E : XK} {F G : FE} {a b : Expr} {pos : Pos}
def fCatN (F G : FE) : FA := fun ρ Q Z => F ρ (fun a => G ρ (fun b => ∃ x y, a = .lst x ∧ b = .lst y ∧ x.length + y.length ≤ sizeLine ∧ Q (x ++ y)) Z) Z
theorem d_catN (ha : PE X a (tDT K E F)) (hb : PE X b (tDT K E G)) (hK : X.K = K := by rfl) : PE X (.BinOp a .Add b pos) (tDN K E (fCatN F G)) := (pe_op (jaZ hK) ha hb).mono fun σ H Qh h => by
  obtain ⟨W0, H0, W, ρ, Q, Z, st, f, k, x⟩ := h
  refine ⟨W0, H0, W, ρ, _, Z, st, f, fun v W1 H1 d e1 r1 g => ?_, x⟩
  refine ⟨W0, H0, W1, ρ, _, Z, st.ext e1, g, fun v2 W2 H2 d2 e2 r2 ⟨xs, ys, z1, z2, hl, q⟩ => ?_, x.ext e1⟩
  subst z1 z2
  obtain ⟨p, vs, e3, h1, h2, h3⟩ := (r1.ext e2).lst_inv e2.s
  obtain ⟨p2, us, e4, h4, h5, h6⟩ := r2.lst_inv e2.s
  have hn : (vs ++ us).length ≤ sizeLine := by rw [List.length_append, h2.len, h5.len]; exact hl
  refine .inr (.inl ⟨p, p2, vs, us, e3, e4, h1, h4, by rw [h2.len, h5.len]; exact hl, fun l hl' => ?_⟩)
  have e5 := Ex.hid (o := .lst (vs ++ us)) e2.s hl'
  exact k l (vs ++ us) W2 _ (xs ++ ys) ((e1.trans e2).trans e5) ((e1.trans e2).h.free hl') (e2.s.free hl') upd_same (h2.app h5) hn q
end
end Pu
namespace K0
open PySem PySem.Spec PyProof.Rows L2 Ly Pu
def top (i : Nat) : Stmt := PySem.Challenge.pw_firstneed_k00_errors_and_what_they_keep.main.body.getD i (.Pass ⟨0, 0, 0, 0⟩)
structure Txt (K : PySem.W.Frag) (mg : Str → Option Value) : Prop where
  z_int : mg "int" = none
  z_bool : mg "bool" = none
  z_str : mg "str" = none
  z_list : mg "list" = none
  z_tuple : mg "tuple" = none
  z_dict : mg "dict" = none
  z_abs : mg "abs" = none
  z_max : mg "max" = none
  z_min : mg "min" = none
  z_range : mg "range" = none
  z_repr : mg "repr" = none
  z_isinstance : mg "isinstance" = none
  z_len : mg "len" = none
  z_ValueError : mg "ValueError" = none
  z_KeyError : mg "KeyError" = none
  z_IndexError : mg "IndexError" = none
  z_LookupError : mg "LookupError" = none
  z_OverflowError : mg "OverflowError" = none
  z_ArithmeticError : mg "ArithmeticError" = none
  z_RuntimeError : mg "RuntimeError" = none
structure Adr where
  cInvalidWord : Addr
  cInvalidTerm : Addr
  cInvalidBook : Addr
  cInvalidProgram : Addr
  cInvalidTable : Addr
  cInvalidLines : Addr
  cInvalidRows : Addr
  cInvalidOperation : Addr
  cNeedError : Addr
  cParseError : Addr
  cUnknownWord : Addr
  cUnknownPlace : Addr
  cNothingToUndo : Addr
  cTooMany : Addr
  cRefused : Addr
  cInvalidNumber : Addr
section
variable {P : Program} {w : World} {K : PySem.W.Frag} {mg : Str → Option Value} {base : Heap} {A : Adr}
def jfd (K : PySem.W.Frag) (A : Adr) : Fn := FPick
def jha (K : PySem.W.Frag) (A : Adr) : Fn := FDice
abbrev jbr : Stmt := top 21
abbrev jgh : List Str := ["_law_error", "_law_told", "_law_one"]
abbrev jfm : List Str := ["_law_error"]
theorem jgi : FnScope jgh jfm (defScope jbr) := ⟨rfl, rfl, rfl, by decide +kernel, rfl, by decide +kernel, by decide +kernel⟩
def jhb (K : PySem.W.Frag) (A : Adr) : FS :=
  (sSeq (sAsg 1 (fNew (fLst (fCons (fIsx K (.ref A.cInvalidWord) (fVar 0)) (fCons (fIsx K (.ref A.cInvalidTerm) (fVar 0)) (fCons (fIsx K (.ref A.cInvalidBook) (fVar 0)) fNil))))))
      (sSeq (sAsg 1 (fOp RAdd (fVarT 1) (fNew (fLst (fCons (fIsx K (.ref A.cInvalidProgram) (fVar 0)) (fCons (fIsx K (.ref A.cInvalidTable) (fVar 0)) (fCons (fIsx K (.ref A.cInvalidLines) (fVar 0)) fNil)))))))
      (sSeq (sAsg 1 (fOp RAdd (fVarT 1) (fNew (fLst (fCons (fIsx K (.ref A.cInvalidRows) (fVar 0)) (fCons (fIsx K (.ref A.cInvalidOperation) (fVar 0)) fNil))))))
      (sSeq (sAsg 1 (fOp RAdd (fVarT 1) (fNew (fLst (fCons (fIsx K (.ref A.cParseError) (fVar 0)) (fCons (fIsx K (.ref A.cNeedError) (fVar 0)) (fCons (fIsx K (.type "ValueError") (fVar 0)) fNil)))))))
      (sRet (fJoin (fC (.str "")) (fNew (fLc (fIt (fVarT 1)) (gN 2) fYes (fIf (fTst (fVar 2)) (fC (.str "x")) (fC (.str "."))) [2]))))))))
def jbu (K : PySem.W.Frag) (A : Adr) : Fn := fnS 3 (jhb K A)
theorem jim {f : Addr} {fd : FuncData} (F : Fun K "_law_kinds" "_law_kinds" jbr f fd) (T : Txt K mg) (g_InvalidBook : mg "InvalidBook" = some (.ref A.cInvalidBook))
    (g_InvalidTerm : mg "InvalidTerm" = some (.ref A.cInvalidTerm))
    (g_InvalidWord : mg "InvalidWord" = some (.ref A.cInvalidWord))
    (g_InvalidLines : mg "InvalidLines" = some (.ref A.cInvalidLines))
    (g_InvalidTable : mg "InvalidTable" = some (.ref A.cInvalidTable))
    (g_InvalidProgram : mg "InvalidProgram" = some (.ref A.cInvalidProgram))
    (g_InvalidOperation : mg "InvalidOperation" = some (.ref A.cInvalidOperation))
    (g_InvalidRows : mg "InvalidRows" = some (.ref A.cInvalidRows))
    (g_NeedError : mg "NeedError" = some (.ref A.cNeedError))
    (g_ParseError : mg "ParseError" = some (.ref A.cParseError)) : FnOk P w K mg base (L2.CX P w) 1 f fd jfm (spD K 1 (jbu K A)) := by
  have nd := jgi.nd
  exact fn_d (k := 0) F jgi rfl (fun cdv Ar outer s H E W0 hr => (d_seq (d_asg (d_n (d_lst (jac (jba (K := K) (by rfl) T.z_isinstance (d_var (pv 0)) (jaH (by rfl) g_InvalidWord)) (jac (jba (K := K) (by rfl) T.z_isinstance (d_var (pv 0)) (jaH (by rfl) g_InvalidTerm)) (jac (jba (K := K) (by rfl) T.z_isinstance (d_var (pv 0)) (jaH (by rfl) g_InvalidBook)) d_nil))))) (pg_name (i := 1) nd rfl (Or.inl rfl)))
      (d_seq (d_asg (d_op (jaZ (K := K)) s_add (jaA (pv 1)) (d_nt (d_lst (jac (jba (K := K) (by rfl) T.z_isinstance (d_var (pv 0)) (jaH (by rfl) g_InvalidProgram)) (jac (jba (K := K) (by rfl) T.z_isinstance (d_var (pv 0)) (jaH (by rfl) g_InvalidTable)) (jac (jba (K := K) (by rfl) T.z_isinstance (d_var (pv 0)) (jaH (by rfl) g_InvalidLines)) d_nil)))))) (pg_name (i := 1) nd rfl (Or.inl rfl)))
      (d_seq (d_asg (d_op (jaZ (K := K)) s_add (jaA (pv 1)) (d_nt (d_lst (jac (jba (K := K) (by rfl) T.z_isinstance (d_var (pv 0)) (jaH (by rfl) g_InvalidRows)) (jac (jba (K := K) (by rfl) T.z_isinstance (d_var (pv 0)) (jaH (by rfl) g_InvalidOperation)) d_nil))))) (pg_name (i := 1) nd rfl (Or.inl rfl)))
      (d_seq (d_asg (d_op (jaZ (K := K)) s_add (jaA (pv 1)) (d_nt (d_lst (jac (jba (K := K) (by rfl) T.z_isinstance (d_var (pv 0)) (jaH (by rfl) g_ParseError)) (jac (jba (K := K) (by rfl) T.z_isinstance (d_var (pv 0)) (jaH (by rfl) g_NeedError)) (jac (jep (K := K) (by rfl) T.z_isinstance (d_var (pv 0)) (pe_ty "ValueError" (by rfl) T.z_ValueError (by decide +kernel))) d_nil)))))) (pg_name (i := 1) nd rfl (Or.inl rfl)))
      (jbI (d_ret (jks (K := K) (d_str pe_str) (d_nt (d_lc (own := [("_law_one", 2)]) (by rfl) nd (d_itC (K := K) (jaA (pv 1))) (blkOk_by (own := [("_law_one", 2)]) (N := jgh) (sc := defScope jbr) (by decide +kernel)) (jcK (by decide)) (fun _ _ _ _ _ => (pg_name (i := 2) nd rfl (Or.inl rfl))) (fun _ _ _ _ _ => jdU) (fun _ _ _ _ _ => (d_if (jgE (d_var (pv 2))) (d_str pe_str) (d_str pe_str))))))))))))) fun _ _ _ _ h => h
abbrev jaU : Stmt := top 22
abbrev jfx : List Str := ["_law_error", "_law_told", "_law_one"]
abbrev jeq : List Str := ["_law_error"]
theorem jfy : FnScope jfx jeq (defScope jaU) := ⟨rfl, rfl, rfl, by decide +kernel, rfl, by decide +kernel, by decide +kernel⟩
def jgj (K : PySem.W.Frag) (A : Adr) : FS :=
  (sSeq (sAsg 1 (fNew (fLst (fCons (fIsx K (.ref A.cUnknownWord) (fVar 0)) (fCons (fIsx K (.ref A.cUnknownPlace) (fVar 0)) (fCons (fIsx K (.ref A.cNothingToUndo) (fVar 0)) fNil))))))
      (sSeq (sAsg 1 (fOp RAdd (fVarT 1) (fNew (fLst (fCons (fIsx K (.ref A.cTooMany) (fVar 0)) (fCons (fIsx K (.ref A.cRefused) (fVar 0)) (fCons (fIsx K (.ref A.cInvalidNumber) (fVar 0)) fNil)))))))
      (sSeq (sAsg 1 (fOp RAdd (fVarT 1) (fNew (fLst (fCons (fIsx K (.type "KeyError") (fVar 0)) (fCons (fIsx K (.type "IndexError") (fVar 0)) (fCons (fIsx K (.type "LookupError") (fVar 0)) fNil)))))))
      (sSeq (sAsg 1 (fOp RAdd (fVarT 1) (fNew (fLst (fCons (fIsx K (.type "OverflowError") (fVar 0)) (fCons (fIsx K (.type "ArithmeticError") (fVar 0)) fNil))))))
      (sRet (fJoin (fC (.str "")) (fNew (fLc (fIt (fOp RAdd (fVarT 1) (fNew (fLst (fCons (fIsx K (.type "RuntimeError") (fVar 0)) fNil))))) (gN 2) fYes (fIf (fTst (fVar 2)) (fC (.str "x")) (fC (.str "."))) [2]))))))))
def jbg (K : PySem.W.Frag) (A : Adr) : Fn := fnS 3 (jgj K A)
theorem jhc {f : Addr} {fd : FuncData} (F : Fun K "_law_others" "_law_others" jaU f fd) (T : Txt K mg) (g_NothingToUndo : mg "NothingToUndo" = some (.ref A.cNothingToUndo))
    (g_UnknownPlace : mg "UnknownPlace" = some (.ref A.cUnknownPlace))
    (g_UnknownWord : mg "UnknownWord" = some (.ref A.cUnknownWord))
    (g_InvalidNumber : mg "InvalidNumber" = some (.ref A.cInvalidNumber))
    (g_Refused : mg "Refused" = some (.ref A.cRefused))
    (g_TooMany : mg "TooMany" = some (.ref A.cTooMany)) : FnOk P w K mg base (L2.CX P w) 1 f fd jeq (spD K 1 (jbg K A)) := by
  have nd := jfy.nd
  exact fn_d (k := 0) F jfy rfl (fun cdv Ar outer s H E W0 hr => (d_seq (d_asg (d_n (d_lst (jac (jba (K := K) (by rfl) T.z_isinstance (d_var (pv 0)) (jaH (by rfl) g_UnknownWord)) (jac (jba (K := K) (by rfl) T.z_isinstance (d_var (pv 0)) (jaH (by rfl) g_UnknownPlace)) (jac (jba (K := K) (by rfl) T.z_isinstance (d_var (pv 0)) (jaH (by rfl) g_NothingToUndo)) d_nil))))) (pg_name (i := 1) nd rfl (Or.inl rfl)))
      (d_seq (d_asg (d_op (jaZ (K := K)) s_add (jaA (pv 1)) (d_nt (d_lst (jac (jba (K := K) (by rfl) T.z_isinstance (d_var (pv 0)) (jaH (by rfl) g_TooMany)) (jac (jba (K := K) (by rfl) T.z_isinstance (d_var (pv 0)) (jaH (by rfl) g_Refused)) (jac (jba (K := K) (by rfl) T.z_isinstance (d_var (pv 0)) (jaH (by rfl) g_InvalidNumber)) d_nil)))))) (pg_name (i := 1) nd rfl (Or.inl rfl)))
      (d_seq (d_asg (d_op (jaZ (K := K)) s_add (jaA (pv 1)) (d_nt (d_lst (jac (jep (K := K) (by rfl) T.z_isinstance (d_var (pv 0)) (pe_ty "KeyError" (by rfl) T.z_KeyError (by decide +kernel))) (jac (jep (K := K) (by rfl) T.z_isinstance (d_var (pv 0)) (pe_ty "IndexError" (by rfl) T.z_IndexError (by decide +kernel))) (jac (jep (K := K) (by rfl) T.z_isinstance (d_var (pv 0)) (pe_ty "LookupError" (by rfl) T.z_LookupError (by decide +kernel))) d_nil)))))) (pg_name (i := 1) nd rfl (Or.inl rfl)))
      (d_seq (d_asg (d_op (jaZ (K := K)) s_add (jaA (pv 1)) (d_nt (d_lst (jac (jep (K := K) (by rfl) T.z_isinstance (d_var (pv 0)) (pe_ty "OverflowError" (by rfl) T.z_OverflowError (by decide +kernel))) (jac (jep (K := K) (by rfl) T.z_isinstance (d_var (pv 0)) (pe_ty "ArithmeticError" (by rfl) T.z_ArithmeticError (by decide +kernel))) d_nil))))) (pg_name (i := 1) nd rfl (Or.inl rfl)))
      (jbI (d_ret (jks (K := K) (d_str pe_str) (d_nt (d_lc (own := [("_law_one", 2)]) (by rfl) nd (d_itC (K := K) (d_t (d_op (jaZ (K := K)) s_add (jaA (pv 1)) (d_nt (d_lst (jac (jep (K := K) (by rfl) T.z_isinstance (d_var (pv 0)) (pe_ty "RuntimeError" (by rfl) T.z_RuntimeError (by decide +kernel))) d_nil)))))) (blkOk_by (own := [("_law_one", 2)]) (N := jfx) (sc := defScope jaU) (by decide +kernel)) (jcK (by decide)) (fun _ _ _ _ _ => (pg_name (i := 2) nd rfl (Or.inl rfl))) (fun _ _ _ _ _ => jdU) (fun _ _ _ _ _ => (d_if (jgE (d_var (pv 2))) (d_str pe_str) (d_str pe_str))))))))))))) fun _ _ _ _ h => h
abbrev jaM : Stmt := top 23
abbrev jbv : List Str := ["_law_dice_here", "_law_thing", "_law_words", "_law_base", "_law_one", "_law_due", "_law_at", "_law_others_here", "_law_kept"]
abbrev jfn : List Str := ["_law_dice_here"]
theorem jgk : FnScope jbv jfn (defScope jaM) := ⟨rfl, rfl, rfl, by decide +kernel, rfl, by decide +kernel, by decide +kernel⟩
def jhd (K : PySem.W.Frag) (A : Adr) : FS :=
  (sSeq (sAsg 1 (fCall (jfd K A) 2 (fCons (fVar 0) (fCons (fNew (fLst (fCons (fC (.int 0)) (fCons (fC (.str "")) (fCons (fC (.str "a")) (fCons (fC .non) (fCons (fTup fNil) (fCons (fTup (fCons (fC (.str "f")) (fCons (fC (.int 3)) fNil))) (fCons (fOp RPow (fC (.int 10)) (fC (.int 30))) (fCons (fC (.bl true)) (fCons (fTup (fCons (fTup (fCons (fC (.str "f")) (fCons (fC (.int 2)) fNil))) (fCons (fC (.str "_")) fNil))) (fCons (fNew (fLst (fCons (fC (.int 1)) fNil))) (fCons (fDic (fDisp [((fC (.str "a")), (fTup fNil))])) fNil))))))))))))) fNil))))
      (sSeq (sAsg 2 (fCall (jfd K A) 2 (fCons (fVar 0) (fCons (fNew (fLst (fCons (fC (.str "")) (fCons (fC (.str "no term")) (fCons (fC (.str "a")) (fCons (fC (.str "rows 3")) fNil)))))) fNil))))
      (sSeq (sNew 3 (fLst (fCons (fExm A.cInvalidWord (fVar 2)) (fCons (fExm A.cInvalidTerm (fVar 2)) (fCons (fExm A.cInvalidBook (fVar 2)) (fCons (fExm A.cInvalidProgram (fVar 2)) (fCons (fExm A.cInvalidTable (fVar 2)) fNil)))))))
      (sSeq (sNew 3 (fCatN (fVarT 3) (fNew (fLst (fCons (fExm A.cInvalidLines (fVar 2)) (fCons (fExm A.cInvalidRows (fVar 2)) (fCons (fExm A.cInvalidOperation (fVar 2)) (fCons (fExm A.cNeedError (fVar 2)) fNil))))))))
      (sSeq (sIf (fOr (fTst (fOp RNe (fNew (fLc (fIt (fVarT 3)) (gN 4) fYes (fCB (RStrX K) (fCons (fVarT 4) fNil)) [4])) (fOp RRep (fNew (fLst (fCons (fVar 2) fNil))) (fC (.int 9))))) (fTst (fOp RNe (fNew (fLc (fIt (fVarT 3)) (gN 4) fYes (fCall (jbg K A) 1 (fCons (fVar 4) fNil)) [4])) (fOp RRep (fNew (fLst (fCons (fOp RMulS (fC (.str ".")) (fC (.int 12))) fNil))) (fC (.int 9)))))) (sRet (fC (.bl false))) sNext)
      (sSeq (sPut 3 (fC (.int 8)) (fExf A.cParseError "line" (fCall (jfd K A) 2 (fCons (fVar 0) (fCons (fNew (fLst (fCons (fC .non) (fCons (fC (.int 0)) (fCons (fC (.int 7)) (fCons (fOp RPow (fC (.int 10)) (fC (.int 20))) fNil)))))) fNil)))))
      (sSeq (sAsg 5 (fNew (fLc (fRng1 (fCons (fC (.int 9)) fNil)) (gN 6) fYes (fOp RAdd (fOp RAdd (fOp RAdd (fOp RMulS (fC (.str ".")) (fVarT 6)) (fC (.str "x"))) (fOp RMulS (fC (.str ".")) (fOp RSub (fC (.int 8)) (fVarT 6)))) (fC (.str "xx"))) [6])))
      (sSeq (sIf (fOr (fTst (fOp RNe (fNew (fLc (fIt (fVarT 3)) (gN 4) fYes (fCall (jbu K A) 1 (fCons (fVar 4) fNil)) [4])) (fVarT 5))) (fTst (fOp RNe (fCall (jbu K A) 1 (fCons (fExm A.cNeedError (fVar 2)) fNil)) (fOp RAdd (fOp RMulS (fC (.str ".")) (fC (.int 9))) (fC (.str "xx")))))) (sRet (fC (.bl false))) sNext)
      (sSeq (sNew 7 (fLst (fCons (fExf A.cUnknownWord "asked" (fVar 1)) (fCons (fExf A.cUnknownPlace "spot" (fVar 1)) (fCons (fExf A.cNothingToUndo "amount" (fVar 1)) (fCons (fExf A.cTooMany "limit" (fVar 1)) (fCons (fExf A.cRefused "cause" (fVar 1)) fNil)))))))
      (sSeq (sApp 7 (fExf A.cInvalidNumber "number" (fVar 1)))
      (sSeq (sAsg 5 (fNew (fLst (fCons (fC (.str "x.....x.x...")) (fCons (fC (.str ".x......x...")) (fCons (fC (.str "..x....xx...")) (fCons (fC (.str "...x.....xx.")) (fCons (fC (.str "....x.....x.")) (fCons (fC (.str ".....x.....x")) fNil)))))))))
      (sSeq (sIf (fOr (fTst (fOp RNe (fNew (fLc (fIt (fVarT 7)) (gN 4) fYes (fCall (jbg K A) 1 (fCons (fVar 4) fNil)) [4])) (fVarT 5))) (fTst (fOp RNe (fNew (fLc (fIt (fVarT 7)) (gN 4) fYes (fCall (jbu K A) 1 (fCons (fVar 4) fNil)) [4])) (fOp RRep (fNew (fLst (fCons (fOp RMulS (fC (.str ".")) (fC (.int 11))) fNil))) (fC (.int 6)))))) (sRet (fC (.bl false))) sNext)
      (sSeq (sIf (fOr (fTst (fOp RNe (fCall (jbg K A) 1 (fCons (fOp RIx (fVarT 3) (fC (.int 8))) fNil)) (fOp RMulS (fC (.str ".")) (fC (.int 12))))) (fTst (fOp RNe (fCB jaO (fCons (fXfv A.cParseError "line" (fExf A.cParseError "line" (fVar 1))) fNil)) (fCB jaO (fCons (fVarT 1) fNil))))) (sRet (fC (.bl false))) sNext)
      (sSeq (sAsg 8 (fNew (fLst (fCons (fXfv A.cUnknownWord "asked" (fOp RIx (fVarT 7) (fC (.int 0)))) (fCons (fXfv A.cUnknownPlace "spot" (fOp RIx (fVarT 7) (fC (.int 1)))) (fCons (fXfv A.cNothingToUndo "amount" (fOp RIx (fVarT 7) (fC (.int 2)))) (fCons (fXfv A.cTooMany "limit" (fOp RIx (fVarT 7) (fC (.int 3)))) (fCons (fXfv A.cRefused "cause" (fOp RIx (fVarT 7) (fC (.int 4)))) (fCons (fXfv A.cInvalidNumber "number" (fOp RIx (fVarT 7) (fC (.int 5)))) fNil)))))))))
      (sRet (fOp REq (fCB jaO (fCons (fVarT 8) fNil)) (fCB jaO (fCons (fOp RRep (fNew (fLst (fCons (fVar 1) fNil))) (fC (.int 6))) fNil))))))))))))))))))
def jdJ (K : PySem.W.Frag) (A : Adr) : Fn := fnS 9 (jhd K A)
theorem jin {f : Addr} {fd : FuncData} (F : Fun K "_law_right" "_law_right" jaM f fd) (T : Txt K mg) (jfz : CalF P w K mg base "_law_pick" 2 2 (jfd K A))
    (jdo : CalF P w K mg base "_law_others" 1 1 (jbg K A))
    (jer : CalF P w K mg base "_law_kinds" 1 1 (jbu K A))
    (Y_InvalidTable : ErM K A.cInvalidTable)
    (Y_InvalidProgram : ErM K A.cInvalidProgram)
    (Y_InvalidBook : ErM K A.cInvalidBook)
    (Y_InvalidTerm : ErM K A.cInvalidTerm)
    (Y_InvalidWord : ErM K A.cInvalidWord)
    (Y_NeedError : ErM K A.cNeedError)
    (Y_InvalidOperation : ErM K A.cInvalidOperation)
    (Y_InvalidRows : ErM K A.cInvalidRows)
    (Y_InvalidLines : ErM K A.cInvalidLines)
    (Z_ParseError : CalXB P w K mg base "ValueError" "ValueError.__new__" "ValueError.__init__" valTail "ParseError" A.cParseError 1 "line")
    (Z_Refused : CalXB P w K mg base "ArithmeticError" "ArithmeticError.__new__" "ArithmeticError.__init__" arTail "Refused" A.cRefused 1 "cause")
    (Z_TooMany : CalXB P w K mg base "OverflowError" "OverflowError.__new__" "OverflowError.__init__" ofTail "TooMany" A.cTooMany 1 "limit")
    (Z_NothingToUndo : CalXB P w K mg base "IndexError" "IndexError.__new__" "IndexError.__init__" ixTail "NothingToUndo" A.cNothingToUndo 1 "amount")
    (Z_UnknownPlace : CalXB P w K mg base "LookupError" "LookupError.__new__" "LookupError.__init__" lkTail "UnknownPlace" A.cUnknownPlace 1 "spot")
    (Z_UnknownWord : CalXB P w K mg base "KeyError" "LookupError.__new__" "KeyError.__init__" keyTail "UnknownWord" A.cUnknownWord 1 "asked")
    (Z_InvalidNumber : CalXB P w K mg base "RuntimeError" "RuntimeError.__new__" "RuntimeError.__init__" rtTail "InvalidNumber" A.cInvalidNumber 1 "number")
    (X_ParseError : ErF K A.cParseError "line")
    (X_InvalidNumber : ErF K A.cInvalidNumber "number")
    (X_Refused : ErF K A.cRefused "cause")
    (X_TooMany : ErF K A.cTooMany "limit")
    (X_NothingToUndo : ErF K A.cNothingToUndo "amount")
    (X_UnknownPlace : ErF K A.cUnknownPlace "spot")
    (X_UnknownWord : ErF K A.cUnknownWord "asked")
    (g_InvalidTable : mg "InvalidTable" = some (.ref A.cInvalidTable))
    (g_InvalidProgram : mg "InvalidProgram" = some (.ref A.cInvalidProgram))
    (g_InvalidBook : mg "InvalidBook" = some (.ref A.cInvalidBook))
    (g_InvalidTerm : mg "InvalidTerm" = some (.ref A.cInvalidTerm))
    (g_InvalidWord : mg "InvalidWord" = some (.ref A.cInvalidWord))
    (g_NeedError : mg "NeedError" = some (.ref A.cNeedError))
    (g_InvalidOperation : mg "InvalidOperation" = some (.ref A.cInvalidOperation))
    (g_InvalidRows : mg "InvalidRows" = some (.ref A.cInvalidRows))
    (g_InvalidLines : mg "InvalidLines" = some (.ref A.cInvalidLines)) : FnG P w K mg base (L2.CX P w) 3 f fd jfn (spD K 1 (jdJ K A)) := by
  have nd := jgk.nd
  exact fn_dG (k := 2) F jgk rfl (fun cdv Ar outer s H E W0 hr gd => (d_seq (d_asg (jcL jfz (hr.mono (by first | decide | omega)) rfl (passes_call (takes_of rfl rfl rfl rfl) fun _ _ _ _ h => h) (jac (d_var (pv 0)) (jac (d_n (d_lst (jac (d_int pe_int) (jac (d_str pe_str) (jac (d_str pe_str) (jac (d_non pe_non) (jac (d_tup d_nil) (jac (d_tup (jac (d_str pe_str) (jac (d_int pe_int) d_nil))) (jac (d_op jel s_pow (d_t (d_int pe_int)) (d_t (d_int pe_int))) (jac (d_bl pe_bl) (jac (d_tup (jac (d_tup (jac (d_str pe_str) (jac (d_int pe_int) d_nil))) (jac (d_str pe_str) d_nil))) (jac (d_n (d_lst (jac (d_int pe_int) d_nil))) (jac (d_dd (d_disp (fs := [((fC (.str "a")), (fTup fNil))]) (pe_disp (pps_cons (d_str pe_str) (d_tup d_nil) pps_nil) (by rfl) (by rfl) (fun z => by cases z) (by decide)))) d_nil))))))))))))) d_nil))) (pg_name (i := 1) nd rfl (Or.inl rfl)))
      (d_seq (d_asg (jcL jfz (hr.mono (by first | decide | omega)) rfl (passes_call (takes_of rfl rfl rfl rfl) fun _ _ _ _ h => h) (jac (d_var (pv 0)) (jac (d_n (d_lst (jac (d_str pe_str) (jac (d_str pe_str) (jac (d_str pe_str) (jac (d_str pe_str) d_nil)))))) d_nil))) (pg_name (i := 2) nd rfl (Or.inl rfl)))
      (d_seq (d_new (d_lst (jac (d_exm (K := K) Y_InvalidWord g_InvalidWord (by rfl) (d_var (pv 2))) (jac (d_exm (K := K) Y_InvalidTerm g_InvalidTerm (by rfl) (d_var (pv 2))) (jac (d_exm (K := K) Y_InvalidBook g_InvalidBook (by rfl) (d_var (pv 2))) (jac (d_exm (K := K) Y_InvalidProgram g_InvalidProgram (by rfl) (d_var (pv 2))) (jac (d_exm (K := K) Y_InvalidTable g_InvalidTable (by rfl) (d_var (pv 2))) d_nil)))))) (pg_name (i := 3) nd rfl (Or.inl rfl)))
      (d_seq (d_new (d_catN (K := K) (jaA (pv 3)) (d_nt (d_lst (jac (d_exm (K := K) Y_InvalidLines g_InvalidLines (by rfl) (d_var (pv 2))) (jac (d_exm (K := K) Y_InvalidRows g_InvalidRows (by rfl) (d_var (pv 2))) (jac (d_exm (K := K) Y_InvalidOperation g_InvalidOperation (by rfl) (d_var (pv 2))) (jac (d_exm (K := K) Y_NeedError g_NeedError (by rfl) (d_var (pv 2))) d_nil))))))) (pg_name (i := 3) nd rfl (Or.inl rfl)))
      (d_seq (d_ifs (PW.pt (d_or (jdR (jdS (K := K) hr.units) s_ne (d_nt (d_lc (own := [("_law_one", 4)]) (by rfl) nd (d_itC (K := K) (jaA (pv 3))) (blkOk_by (own := [("_law_one", 4)]) (N := jbv) (sc := defScope jaM) (by decide +kernel)) (jcK (by decide)) (fun _ _ _ _ _ => (pg_name (i := 4) nd rfl (Or.inl rfl))) (fun _ _ _ _ _ => jdU) (fun _ _ _ _ _ => (d_ct (c_strX (K := K) (hr65 hr)) s_strX (by rfl) T.z_str (by decide +kernel) (jbq (jaA (pv 4)) jdT))))) (d_t (d_op op_rep s_rep (d_nt (d_lst (jac (d_var (pv 2)) d_nil))) (d_t (d_int pe_int)))) (nomark _)) (d_or1 (jdR (jdS (K := K) hr.units) s_ne (d_nt (d_lc (own := [("_law_one", 4)]) (by rfl) nd (d_itC (K := K) (jaA (pv 3))) (blkOk_by (own := [("_law_one", 4)]) (N := jbv) (sc := defScope jaM) (by decide +kernel)) (jcK (by decide)) (fun _ _ _ _ _ => (pg_name (i := 4) nd rfl (Or.inl rfl))) (fun _ _ _ _ _ => jdU) (fun _ _ _ _ _ => (jcL jdo (hr.mono (by first | decide | omega)) rfl passL (jac (d_var (pv 4)) d_nil))))) (d_t (d_op op_rep s_rep (d_nt (d_lst (jac (d_op jdH jfc (d_t (d_str pe_str)) (d_t (d_int pe_int))) d_nil))) (d_t (d_int pe_int)))) (nomark _))))) (jbI (d_ret (d_bl pe_bl))) jfs)
      (d_seq (d_put (ps_asg (d_exf (K := K) Z_ParseError (hr.mono (by first | decide | omega)) (by rfl) (jcL jfz (hr.mono (by first | decide | omega)) rfl (passes_call (takes_of rfl rfl rfl rfl) fun _ _ _ _ h => h) (jac (d_var (pv 0)) (jac (d_n (d_lst (jac (d_non pe_non) (jac (d_int pe_int) (jac (d_int pe_int) (jac (d_op jel s_pow (d_t (d_int pe_int)) (d_t (d_int pe_int))) d_nil)))))) d_nil)))) (pg_sub (pv 3) (d_int pe_int) set_list)))
      (d_seq (jhX (jcK (by decide)) (ps_setLc (i := 5) (own := [("_law_at", 6)]) (by rfl) nd rfl rfl (sw_true rfl rfl rfl (by decide +kernel)) (d_fc (jgF rfl T.z_range (jac (d_int pe_int) d_nil))) (blkOk_by (own := [("_law_at", 6)]) (N := jbv) (sc := defScope jaM) (by decide +kernel)) (fun _ _ _ _ _ => (pg_name (i := 6) nd rfl (Or.inl rfl))) (fun _ _ _ _ _ => jdU) (fun _ _ _ _ _ => (d_op (jaZ (K := K)) s_add (d_t (d_op (jaZ (K := K)) s_add (d_t (d_op (jaZ (K := K)) s_add (d_t (d_op jdH jfc (d_t (d_str pe_str)) (jaA (pv 6)))) (d_t (d_str pe_str)))) (d_t (d_op jdH jfc (d_t (d_str pe_str)) (d_t (d_op op_sub s_sub (d_t (d_int pe_int)) (jaA (pv 6)))))))) (d_t (d_str pe_str))))))
      (d_seq (d_ifs (PW.pt (d_or (jdR (jdS (K := K) hr.units) s_ne (d_nt (d_lc (own := [("_law_one", 4)]) (by rfl) nd (d_itC (K := K) (jaA (pv 3))) (blkOk_by (own := [("_law_one", 4)]) (N := jbv) (sc := defScope jaM) (by decide +kernel)) (jcK (by decide)) (fun _ _ _ _ _ => (pg_name (i := 4) nd rfl (Or.inl rfl))) (fun _ _ _ _ _ => jdU) (fun _ _ _ _ _ => (jcL jer (hr.mono (by first | decide | omega)) rfl passL (jac (d_var (pv 4)) d_nil))))) (jaA (pv 5)) (nomark _)) (d_or1 (jdR (jdS (K := K) hr.units) s_ne (d_t (jcL jer (hr.mono (by first | decide | omega)) rfl (passes_call (takes_of rfl rfl rfl rfl) fun _ _ _ _ h => h) (jac (d_exm (K := K) Y_NeedError g_NeedError (by rfl) (d_var (pv 2))) d_nil))) (d_t (d_op (jaZ (K := K)) s_add (d_t (d_op jdH jfc (d_t (d_str pe_str)) (d_t (d_int pe_int)))) (d_t (d_str pe_str)))) (nomark _))))) (jbI (d_ret (d_bl pe_bl))) jfs)
      (d_seq (d_new (d_lst (jac (d_exf (K := K) Z_UnknownWord (hr.mono (by first | decide | omega)) (by rfl) (d_var (pv 1))) (jac (d_exf (K := K) Z_UnknownPlace (hr.mono (by first | decide | omega)) (by rfl) (d_var (pv 1))) (jac (d_exf (K := K) Z_NothingToUndo (hr.mono (by first | decide | omega)) (by rfl) (d_var (pv 1))) (jac (d_exf (K := K) Z_TooMany (hr.mono (by first | decide | omega)) (by rfl) (d_var (pv 1))) (jac (d_exf (K := K) Z_Refused (hr.mono (by first | decide | omega)) (by rfl) (d_var (pv 1))) d_nil)))))) (pg_name (i := 7) nd rfl (Or.inl rfl)))
      (d_seq (d_app (ps_expr (kpe_bm (K := K) PySem.F.plainAttrs_list PySem.F.slot_list_append PySem.F.type_list_append mt_append (pv 7) (pa_cons (d_exf (K := K) Z_InvalidNumber (hr.mono (by first | decide | omega)) (by rfl) (d_var (pv 1))) pa_nil))))
      (d_seq (d_asg (d_n (d_lst (jac (d_str pe_str) (jac (d_str pe_str) (jac (d_str pe_str) (jac (d_str pe_str) (jac (d_str pe_str) (jac (d_str pe_str) d_nil)))))))) (pg_name (i := 5) nd rfl (Or.inl rfl)))
      (d_seq (d_ifs (PW.pt (d_or (jdR (jdS (K := K) hr.units) s_ne (d_nt (d_lc (own := [("_law_one", 4)]) (by rfl) nd (d_itC (K := K) (jaA (pv 7))) (blkOk_by (own := [("_law_one", 4)]) (N := jbv) (sc := defScope jaM) (by decide +kernel)) (jcK (by decide)) (fun _ _ _ _ _ => (pg_name (i := 4) nd rfl (Or.inl rfl))) (fun _ _ _ _ _ => jdU) (fun _ _ _ _ _ => (jcL jdo (hr.mono (by first | decide | omega)) rfl passL (jac (d_var (pv 4)) d_nil))))) (jaA (pv 5)) (nomark _)) (d_or1 (jdR (jdS (K := K) hr.units) s_ne (d_nt (d_lc (own := [("_law_one", 4)]) (by rfl) nd (d_itC (K := K) (jaA (pv 7))) (blkOk_by (own := [("_law_one", 4)]) (N := jbv) (sc := defScope jaM) (by decide +kernel)) (jcK (by decide)) (fun _ _ _ _ _ => (pg_name (i := 4) nd rfl (Or.inl rfl))) (fun _ _ _ _ _ => jdU) (fun _ _ _ _ _ => (jcL jer (hr.mono (by first | decide | omega)) rfl passL (jac (d_var (pv 4)) d_nil))))) (d_t (d_op op_rep s_rep (d_nt (d_lst (jac (d_op jdH jfc (d_t (d_str pe_str)) (d_t (d_int pe_int))) d_nil))) (d_t (d_int pe_int)))) (nomark _))))) (jbI (d_ret (d_bl pe_bl))) jfs)
      (d_seq (d_ifs (PW.pt (d_or (jdR (jdS (K := K) hr.units) s_ne (d_t (jcL jdo (hr.mono (by first | decide | omega)) rfl (passes_call (takes_of rfl rfl rfl rfl) fun _ _ _ _ h => h) (jac (d_ix (ix_A (K := K)) s_ix (jaA (pv 3)) (d_t (d_int pe_int)) (fun _ _ => rfl)) d_nil))) (d_t (d_op jdH jfc (d_t (d_str pe_str)) (d_t (d_int pe_int)))) (nomark _)) (d_or1 (jdR (jdS (K := K) hr.units) s_ne (d_t (d_cb (jej (K := K) gd (Nat.lt_of_succ_lt (hr65 hr))) jek (by rfl) T.z_repr (by decide +kernel) (jbq (d_t (d_xfv (K := K) X_ParseError.xf X_ParseError.no (d_exf (K := K) Z_ParseError (hr.mono (by first | decide | omega)) (by rfl) (d_var (pv 1))))) jdT))) (d_t (d_cb (jej (K := K) gd (Nat.lt_of_succ_lt (hr65 hr))) jek (by rfl) T.z_repr (by decide +kernel) (jbq (jaA (pv 1)) jdT))) (nomark _))))) (jbI (d_ret (d_bl pe_bl))) jfs)
      (d_seq (d_asg (d_n (d_lst (jac (d_xfv (K := K) X_UnknownWord.xf X_UnknownWord.no (d_ix (ix_A (K := K)) s_ix (jaA (pv 7)) (d_t (d_int pe_int)) (fun _ _ => rfl))) (jac (d_xfv (K := K) X_UnknownPlace.xf X_UnknownPlace.no (d_ix (ix_A (K := K)) s_ix (jaA (pv 7)) (d_t (d_int pe_int)) (fun _ _ => rfl))) (jac (d_xfv (K := K) X_NothingToUndo.xf X_NothingToUndo.no (d_ix (ix_A (K := K)) s_ix (jaA (pv 7)) (d_t (d_int pe_int)) (fun _ _ => rfl))) (jac (d_xfv (K := K) X_TooMany.xf X_TooMany.no (d_ix (ix_A (K := K)) s_ix (jaA (pv 7)) (d_t (d_int pe_int)) (fun _ _ => rfl))) (jac (d_xfv (K := K) X_Refused.xf X_Refused.no (d_ix (ix_A (K := K)) s_ix (jaA (pv 7)) (d_t (d_int pe_int)) (fun _ _ => rfl))) (jac (d_xfv (K := K) X_InvalidNumber.xf X_InvalidNumber.no (d_ix (ix_A (K := K)) s_ix (jaA (pv 7)) (d_t (d_int pe_int)) (fun _ _ => rfl))) d_nil)))))))) (pg_name (i := 8) nd rfl (Or.inl rfl)))
      (jbI (d_ret (d_cmp (jkp (K := K) hr.units) s_eq (d_t (d_cb (jej (K := K) gd (Nat.lt_of_succ_lt (hr65 hr))) jek (by rfl) T.z_repr (by decide +kernel) (jbq (jaA (pv 8)) jdT))) (d_t (d_cb (jej (K := K) gd (Nat.lt_of_succ_lt (hr65 hr))) jek (by rfl) T.z_repr (by decide +kernel) (jbq (d_t (d_op op_rep s_rep (d_nt (d_lst (jac (d_var (pv 1)) d_nil))) (d_t (d_int pe_int)))) jdT))) (nomark _))))))))))))))))))) fun _ _ _ _ h => h
abbrev s_law : Stmt := top 24
abbrev nm_law : List Str := ["_law_script", "_law_spot", "_law_dice_here", "_law_turn"]
abbrev jhe : List Str := ["_law_script"]
theorem jkD : FnScope nm_law jhe (defScope s_law) := ⟨rfl, rfl, rfl, by decide +kernel, rfl, by decide +kernel, by decide +kernel⟩
def S_law (K : PySem.W.Frag) (A : Adr) : FS :=
  (sSeq (sFor (fRng1 (fCons (fCB RMax2 (fCons (fC (.int 1)) (fCons (fCB RMin2 (fCons (fC (.int 8)) (fCons (fCB RLen (fCons (fVarT 0) fNil)) fNil))) fNil))) fNil)) (gN 1) (sSeq (sAsg 2 (fCall (jha K A) 2 (fCons (fVar 0) (fCons (fVar 1) fNil))))
      (sFor (fRng1 (fCons (fC (.int 4)) fNil)) (gN 3) (sIf (fNot (fTst (fCall (jdJ K A) 1 (fCons (fVar 2) fNil)))) (sRet (fC (.bl false))) sNext))))
      (sRet (fOp REq (fNew (fLst (fCons (fXfv A.cParseError "line" (fExf A.cParseError "line" (fC .non))) (fCons (fXfv A.cParseError "line" (fExf A.cParseError "line" (fC (.int 3)))) (fCons (fXfv A.cTooMany "limit" (fExf A.cTooMany "limit" (fC (.int 40)))) fNil))))) (fNew (fLst (fCons (fC .non) (fCons (fC (.int 3)) (fCons (fC (.int 40)) fNil))))))))
def G_law (K : PySem.W.Frag) (A : Adr) : Fn := fnS 4 (S_law K A)
theorem ok_law {f : Addr} {fd : FuncData} (F : Fun K "law" "law" s_law f fd) (T : Txt K mg) (jhf : CalF P w K mg base "_law_dice" 1 2 (jha K A))
    (jfO : CalG P w K mg base "_law_right" 3 1 (jdJ K A))
    (Z_TooMany : CalXB P w K mg base "OverflowError" "OverflowError.__new__" "OverflowError.__init__" ofTail "TooMany" A.cTooMany 1 "limit")
    (X_TooMany : ErF K A.cTooMany "limit")
    (Z_ParseError : CalXB P w K mg base "ValueError" "ValueError.__new__" "ValueError.__init__" valTail "ParseError" A.cParseError 1 "line")
    (X_ParseError : ErF K A.cParseError "line") : FnG P w K mg base (L2.CX P w) 4 f fd jhe (spD K 1 (G_law K A)) := by
  have nd := jkD.nd
  exact fn_dG (k := 3) F jkD rfl (fun cdv Ar outer s H E W0 hr gd => (d_seq (d_for (vs := [1]) (passes_of rfl) rfl (jgF rfl T.z_range (jac (d_cb (call_max2 rfl) s_max2 (by rfl) T.z_max (by decide +kernel) (jbq (d_t (d_int pe_int)) (jbq (d_t (d_cb (call_min2 rfl) s_min2 (by rfl) T.z_min (by decide +kernel) (jbq (d_t (d_int pe_int)) (jbq (d_t (d_cb (c_len (K := K)) s_len (by rfl) T.z_len (by decide +kernel) (jbq (jaA (pv 0)) jdT))) jdT)))) jdT))) d_nil)) (pg_name (i := 1) nd rfl (Or.inl rfl)) (jcK (by decide)) (d_seq (d_asg (jcL jhf (hr.mono (by first | decide | omega)) rfl (passes_call (takes_of rfl rfl rfl rfl) fun _ _ _ _ h => h) (jac (d_var (pv 0)) (jac (d_var (pv 1)) d_nil))) (pg_name (i := 2) nd rfl (Or.inl rfl)))
      (jbI (d_for (vs := [3]) (passes_of rfl) rfl (jgF rfl T.z_range (jac (d_int pe_int) d_nil)) (pg_name (i := 3) nd rfl (Or.inl rfl)) (jcK (by decide)) (jbI (d_ifs (d_not (jgE (jld jfO (hr.mono (by first | decide | omega)) gd rfl (passes_call (takes_of rfl rfl rfl rfl) fun _ _ _ _ h => h) (jac (d_var (pv 2)) d_nil)))) (jbI (d_ret (d_bl pe_bl))) jfs))))))
      (jbI (d_ret (d_cmp (jkp (K := K) hr.units) s_eq (d_nt (d_lst (jac (d_xfv (K := K) X_ParseError.xf X_ParseError.no (d_exf (K := K) Z_ParseError (hr.mono (by first | decide | omega)) (by rfl) (d_non pe_non))) (jac (d_xfv (K := K) X_ParseError.xf X_ParseError.no (d_exf (K := K) Z_ParseError (hr.mono (by first | decide | omega)) (by rfl) (d_int pe_int))) (jac (d_xfv (K := K) X_TooMany.xf X_TooMany.no (d_exf (K := K) Z_TooMany (hr.mono (by first | decide | omega)) (by rfl) (d_int pe_int))) d_nil))))) (d_nt (d_lst (jac (d_non pe_non) (jac (d_int pe_int) (jac (d_int pe_int) d_nil))))) (nomark _)))))) fun _ _ _ _ h => h
end
end K0
namespace K0
open PySem PySem.Spec PyProof.Rows L2 Ly Pu
def csA (A : Adr) : List Addr := [A.cInvalidWord, A.cInvalidTerm, A.cInvalidBook, A.cInvalidProgram, A.cInvalidTable, A.cInvalidLines, A.cInvalidRows, A.cInvalidOperation, A.cNeedError, A.cParseError, A.cUnknownWord, A.cUnknownPlace, A.cNothingToUndo, A.cTooMany, A.cRefused, A.cInvalidNumber]
def kindV (A : Adr) : List Value := [.ref A.cInvalidWord, .ref A.cInvalidTerm, .ref A.cInvalidBook, .ref A.cInvalidProgram, .ref A.cInvalidTable, .ref A.cInvalidLines, .ref A.cInvalidRows, .ref A.cInvalidOperation, .ref A.cParseError, .ref A.cNeedError, .type "ValueError"]
def othV (A : Adr) : List Value := [.ref A.cUnknownWord, .ref A.cUnknownPlace, .ref A.cNothingToUndo, .ref A.cTooMany, .ref A.cRefused, .ref A.cInvalidNumber, .type "KeyError", .type "IndexError", .type "LookupError", .type "OverflowError", .type "ArithmeticError", .type "RuntimeError"]
/-- from a list of places to a row of bits -/
def row (n : Nat) (l : List Nat) : List Bool := (List.range n).map fun i => l.contains i
def dueK : List (List Bool) := [row 11 [0, 9, 10], row 11 [1, 9, 10], row 11 [2, 9, 10], row 11 [3, 9, 10], row 11 [4, 9, 10], row 11 [5, 9, 10], row 11 [6, 9, 10], row 11 [7, 9, 10], row 11 [9, 10], row 11 [8, 9, 10], row 11 [], row 11 [], row 11 [], row 11 [], row 11 [], row 11 []]
def dueO : List (List Bool) := [row 12 [], row 12 [], row 12 [], row 12 [], row 12 [], row 12 [], row 12 [], row 12 [], row 12 [], row 12 [], row 12 [0, 6, 8], row 12 [1, 8], row 12 [2, 7, 8], row 12 [3, 9, 10], row 12 [4, 10], row 12 [5, 11]]
structure EK (K : PySem.W.Frag) (A : Adr) : Prop where
  er : ∀ C ∈ csA A, ErX K C
  es : ∀ C ∈ (csA A).take 9, ErS K C
  kk : ∀ p ∈ (csA A).zip dueK, ∀ q ∈ (kindV A).zip p.2, PySem.W.kitOne K (.ref p.1) q.1 = some q.2
  oo : ∀ p ∈ (csA A).zip dueO, ∀ q ∈ (othV A).zip p.2, PySem.W.kitOne K (.ref p.1) q.1 = some q.2
theorem ex_eq {α : Type} {a : α} {P : α → Prop} : (∃ b, a = b ∧ P b) ↔ P a := ⟨fun ⟨_, e, h⟩ => e ▸ h, fun h => ⟨a, rfl, h⟩⟩
theorem atI_nat {α : Type} (xs : List α) (i : Nat) : atI xs (i : Int) = xs[i]? := by
  unfold atI ixN
  rw [if_pos (by omega)]
  by_cases h : i < xs.length
  · rw [if_pos (by omega)]
    rfl
  · rw [if_neg (by omega), List.getElem?_eq_none (by omega)]
    rfl
theorem jfe {α : Type} {j : Nat} {F : FE} {ρ : Pu.Env} {h f : α → D} : ∀ (l : List α) {Q : List D → Prop}, (∀ a ∈ l, ∀ R : D → Prop, R (f a) → F (ρ.set j (.val (h a))) R F0) → Q (l.map f) → lcD (gN j) fYes F ρ (l.map h) Q
  | [], Q, _, q => q
  | a :: l, Q, hf, q => by
    show F (ρ.set j (.val (h a))) (fun y => lcD (gN j) fYes F ρ (l.map h) fun ys => Q (y :: ys)) F0
    exact hf a (List.mem_cons_self ..) _ (jfe l (fun b hb => hf b (List.mem_cons_of_mem _ hb)) q)
theorem jes {j : Nat} {S : FS} {De : EndsD} (I : Pu.Env → Prop) (ds : List D) (hs : ∀ (d : D) (ρ : Pu.Env) (D' : EndsD), d ∈ ds → I ρ → (∀ ρ', I ρ' → D'.nx ρ') → D'.rt = De.rt → D'.ex = De.ex → S (ρ.set j (.val d)) D') (hd : ∀ ρ, I ρ → De.nx ρ) : ∀ (es : List D) (ρ : Pu.Env), (∀ d ∈ es, d ∈ ds) → I ρ → forD (gN j) S es ρ De
  | [], ρ, _, h => hd ρ h
  | d :: es, ρ, m, h => hs d ρ _ (m d (List.mem_cons_self ..)) h (fun ρ' h' => jes I ds hs hd es ρ' (fun x hx => m x (List.mem_cons_of_mem _ hx)) h') rfl rfl
section
variable {K : PySem.W.Frag} {A : Adr}
theorem jkE {j : Nat} {ρ : Pu.Env} (hj : j < ρ.length) (bs : List Bool) {P : List D → Prop} (q : P (bs.map fun b => .str (if b then "x" else "."))) : lcD (gN j) fYes (fIf (fTst (fVar j)) (fC (.str "x")) (fC (.str "."))) ρ (bs.map .bl) P := by
  refine jfe (f := fun b : Bool => .str (if b then "x" else ".")) bs (fun b _ R r => ?_) q
  have g : (ρ.set j (.val (.bl b)))[j]? = some (.val (.bl b)) := List.getElem?_set_self hj
  refine ⟨_, g, b, rfl, ?_⟩
  cases b <;> exact r
theorem jfo : ∀ bs : List Bool, strsD (bs.map fun b => D.str (if b then "x" else ".")) = some (bs.map fun b => (if b then "x" else "." : Str))
  | [] => rfl
  | b :: bs => by
    show (strsD (bs.map fun b => D.str (if b then "x" else "."))).map (fun l : List Str => (if b then "x" else "." : Str) :: l) = _
    rw [jfo bs]
    rfl
theorem jhg : ∀ bs : List Bool, ((bs.map fun b => (if b then "x" else "." : Str)).map (·.length)).sum = bs.length
  | [] => rfl
  | b :: bs => by
    rw [List.map_cons, List.map_cons, List.sum_cons, jhg bs, List.length_cons]
    cases b
    · show 1 + _ = _
      omega
    · show 1 + _ = _
      omega
theorem jkF {bs : List Bool} (h : bs.length ≤ 100) : ((bs.map fun b => (if b then "x" else "." : Str)).map (·.length)).sum + (bs.map fun b => (if b then "x" else "." : Str)).length * (Str.ofString "").length ≤ 16777216 := by
  rw [jhg]
  show bs.length + _ * 0 ≤ _
  omega
def bitX (bs : List Bool) : Str := Txt.join "" (bs.map fun b => if b then "x" else ".")
theorem kinds_ok {d : D} {C : Addr} {bs : List Bool} (hl : bs.length = 11) (hd : clsE d = some C) (o : ErX K C) (h : ∀ q ∈ (kindV A).zip bs, PySem.W.kitOne K (.ref C) q.1 = some q.2) {Q : D → Prop} {Z : ZX} (q : Q (.str (bitX bs))) : jbu K A [d] Q Z := by
  match bs, hl with
  | [b0, b1, b2, b3, b4, b5, b6, b7, b8, b9, b10], _ =>
    simp only [kindV, List.zip_cons_cons, List.zip_nil_right, List.forall_mem_cons] at h
    obtain ⟨h0, h1, h2, h3, h4, h5, h6, h7, h8, h9, h10, _⟩ := h
    unfold jbu jhb
    simp only [fnS,Pu.startB,sSeq,sAsg,sIf,sRet,sNext,sNew,sApp,sPar,sDem,demB,fVar,fVarT,fC,fOp,fTst,fAnd,fOr,fNot,fNew,fLst,fTup,fNil,fCons,fSl,Pu.oAt,oNo,fCB,fCall,fIf,jfq,fRng1,fIt,fJoin,RLen,RI0,RAdd,RIx,RSl,RIsN,jfu,RIn,gN,bD,List.map_cons,List.map_nil,List.cons_append,List.nil_append,List.length_cons,List.length_nil,List.replicate,Nat.reduceSub,Nat.reduceAdd,List.getElem?_cons_zero,List.getElem?_cons_succ,List.set_cons_zero,List.set_cons_succ,Option.some.injEq,B.val.injEq,D.int.injEq,D.bl.injEq,D.str.injEq,D.tup.injEq,D.lst.injEq,exists_eq_left',exists_eq_left,exists_and_left,ex_eq,true_and,and_true,List.cons.injEq,fIsx,fLc]
    refine ⟨C, hd, o, b0, h0, C, hd, o, b1, h1, C, hd, o, b2, h2, by rw [sizeLine_eq]; decide, ?_⟩
    refine ⟨C, hd, o, b3, h3, C, hd, o, b4, h4, C, hd, o, b5, h5, by rw [sizeLine_eq]; decide, by rw [sizeLine_eq]; decide, ?_⟩
    refine ⟨C, hd, o, b6, h6, C, hd, o, b7, h7, by rw [sizeLine_eq]; decide, by rw [sizeLine_eq]; decide, ?_⟩
    refine ⟨C, hd, o, b8, h8, C, hd, o, b9, h9, C, hd, o, b10, h10, by rw [sizeLine_eq]; decide, by rw [sizeLine_eq]; decide, ?_⟩
    refine ⟨_, rfl, by rw [sizeLine_eq]; exact Nat.le_of_ble_eq_true rfl, ?_⟩
    exact jkE (show 2 < 3 by decide) [b0, b1, b2, b3, b4, b5, b6, b7, b8, b9, b10] ⟨_, rfl, _, jfo _, jkF (Nat.le_of_ble_eq_true rfl), q⟩
theorem jfA {d : D} {C : Addr} {bs : List Bool} (hl : bs.length = 12) (hd : clsE d = some C) (o : ErX K C) (h : ∀ q ∈ (othV A).zip bs, PySem.W.kitOne K (.ref C) q.1 = some q.2) {Q : D → Prop} {Z : ZX} (q : Q (.str (bitX bs))) : jbg K A [d] Q Z := by
  match bs, hl with
  | [b0, b1, b2, b3, b4, b5, b6, b7, b8, b9, b10, b11], _ =>
    simp only [othV, List.zip_cons_cons, List.zip_nil_right, List.forall_mem_cons] at h
    obtain ⟨h0, h1, h2, h3, h4, h5, h6, h7, h8, h9, h10, h11, _⟩ := h
    unfold jbg jgj
    simp only [fnS,Pu.startB,sSeq,sAsg,sIf,sRet,sNext,sNew,sApp,sPar,sDem,demB,fVar,fVarT,fC,fOp,fTst,fAnd,fOr,fNot,fNew,fLst,fTup,fNil,fCons,fSl,Pu.oAt,oNo,fCB,fCall,fIf,jfq,fRng1,fIt,fJoin,RLen,RI0,RAdd,RIx,RSl,RIsN,jfu,RIn,gN,bD,List.map_cons,List.map_nil,List.cons_append,List.nil_append,List.length_cons,List.length_nil,List.replicate,Nat.reduceSub,Nat.reduceAdd,List.getElem?_cons_zero,List.getElem?_cons_succ,List.set_cons_zero,List.set_cons_succ,Option.some.injEq,B.val.injEq,D.int.injEq,D.bl.injEq,D.str.injEq,D.tup.injEq,D.lst.injEq,exists_eq_left',exists_eq_left,exists_and_left,ex_eq,true_and,and_true,List.cons.injEq,fIsx,fLc]
    refine ⟨C, hd, o, b0, h0, C, hd, o, b1, h1, C, hd, o, b2, h2, by rw [sizeLine_eq]; decide, ?_⟩
    refine ⟨C, hd, o, b3, h3, C, hd, o, b4, h4, C, hd, o, b5, h5, by rw [sizeLine_eq]; decide, by rw [sizeLine_eq]; decide, ?_⟩
    refine ⟨C, hd, o, b6, h6, C, hd, o, b7, h7, C, hd, o, b8, h8, by rw [sizeLine_eq]; decide, by rw [sizeLine_eq]; decide, ?_⟩
    refine ⟨C, hd, o, b9, h9, C, hd, o, b10, h10, by rw [sizeLine_eq]; decide, by rw [sizeLine_eq]; decide, ?_⟩
    refine ⟨C, hd, o, b11, h11, by rw [sizeLine_eq]; decide, by rw [sizeLine_eq]; decide, ?_⟩
    refine ⟨_, rfl, by rw [sizeLine_eq]; exact Nat.le_of_ble_eq_true rfl, ?_⟩
    exact jkE (show 2 < 3 by decide) [b0, b1, b2, b3, b4, b5, b6, b7, b8, b9, b10, b11] ⟨_, rfl, _, jfo _, jkF (Nat.le_of_ble_eq_true rfl), q⟩
end
end K0
namespace K0
open PySem PySem.Spec PyProof.Rows L2 Ly Pu
def WS : List Str := ["", "no term", "a", "rows 3"]
def big30 : Int := 1000000000000000000000000000000
def THS : List D := [.int 0, .str "", .str "a", .non, .tup [], .tup [.str "f", .int 3], .int big30, .bl true, .tup [.tup [.str "f", .int 2], .str "_"], .lst [.int 1], .dic [.inr "a"] [.tup []]]
def shoB (d : D) : Bool := (toP d).canLay0 && ((toP d).showable && (!(toP d).hasDict && (decide ((toP d).shown.length ≤ 1000) && decide ((toP d).depth ≤ 60))))
theorem jfB {d : D} (h : ∃ es, seqD d = some es) (b : shoB d = true) : ShO d := by
  unfold shoB at b
  simp only [Bool.and_eq_true, Bool.not_eq_true', decide_eq_true_eq] at b
  obtain ⟨h1, h2, h3, h4, h5⟩ := b
  exact ⟨h, h1, h2, h3, by rw [sizeLine_eq]; omega, h5⟩
theorem r_sho {d : D} (o : ShO d) : ∃ t : Str, ∀ Q : D → Prop, Q (.str t) → jaO [d] Q := ⟨_, fun Q q => .inl (.inl (.inl (.inl (.inr ⟨d, rfl, o, q⟩))))⟩
theorem r_int {i : Int} (h : i.natAbs.log2 < 1920) : ∃ t : Str, ∀ Q : D → Prop, Q (.str t) → jaO [.int i] Q := ⟨_, fun Q q => .inl (.inl (.inl (.inl (.inl (.inl (.inr ⟨i, rfl, h, q⟩))))))⟩
theorem r_non : ∃ t : Str, ∀ Q : D → Prop, Q (.str t) → jaO [.non] Q := ⟨_, fun Q q => .inl (.inl (.inl (.inl (.inl (.inl (.inl ⟨rfl, q⟩))))))⟩
theorem r_bl {b : Bool} : ∃ t : Str, ∀ Q : D → Prop, Q (.str t) → jaO [.bl b] Q := ⟨_, fun Q q => .inl (.inl (.inl (.inl (.inl (.inr ⟨b, rfl, q⟩)))))⟩
theorem r_str {z : Str} (h : (reprText z).length ≤ 1000) : ∃ t : Str, ∀ Q : D → Prop, Q (.str t) → jaO [.str z] Q := ⟨_, fun Q q => .inl (.inl (.inl (.inr ⟨z, rfl, by rw [sizeLine_eq]; omega, q⟩)))⟩
theorem r_dic {ks : List Key} {es : List D} (h : (jaQ es && ((toY (.dic ks es)).showable && (decide ((toY (.dic ks es)).shown.length ≤ 1000) && decide ((toY (.dic ks es)).depth ≤ 60)))) = true) : ∃ t : Str, ∀ Q : D → Prop, Q (.str t) → jaO [.dic ks es] Q := by
  simp only [Bool.and_eq_true, decide_eq_true_eq] at h
  obtain ⟨h1, h2, h3, h4⟩ := h
  exact ⟨_, fun Q q => .inr (.inl ⟨ks, es, rfl, h1, h2, by rw [sizeLine_eq]; omega, h4, q⟩)⟩
theorem r_lsy {es : List D} (hn : es ≠ []) (h : (es.all okY && (PyData.showableAll (es.map toY) && (decide ((PyData.list (es.map toY)).shown.length ≤ 1000) && decide ((PyData.list (es.map toY)).depth ≤ 60)))) = true) : ∃ t : Str, ∀ Q : D → Prop, Q (.str t) → jaO [.lst es] Q := by
  simp only [Bool.and_eq_true, decide_eq_true_eq, List.all_eq_true] at h
  obtain ⟨h1, h2, h3, h4⟩ := h
  exact ⟨_, fun Q q => .inr (.inr ⟨es, rfl, ⟨hn, h1, h2, by rw [sizeLine_eq]; omega, h4⟩, q⟩)⟩
theorem repr_1 : ∀ d ∈ THS, ∃ t : Str, ∀ Q : D → Prop, Q (.str t) → jaO [d] Q := by
  unfold THS
  simp only [List.forall_mem_cons]
  refine ⟨r_int (by decide +kernel), r_str (by decide +kernel), r_str (by decide +kernel), r_non, r_sho (jfB ⟨_, rfl⟩ (by decide +kernel)), r_sho (jfB ⟨_, rfl⟩ (by decide +kernel)), r_int (by decide +kernel), r_bl, r_sho (jfB ⟨_, rfl⟩ (by decide +kernel)), r_sho (jfB ⟨_, rfl⟩ (by decide +kernel)), r_dic (by decide +kernel), fun _ h => nomatch h⟩
theorem repr_6 : ∀ d ∈ THS, ∃ t : Str, ∀ Q : D → Prop, Q (.str t) → jaO [.lst [d, d, d, d, d, d]] Q := by
  unfold THS
  simp only [List.forall_mem_cons]
  refine ⟨?_, ?_, ?_, ?_, ?_, ?_, ?_, ?_, ?_, ?_, r_lsy (by simp) (by decide +kernel), fun _ h => nomatch h⟩ <;> exact r_sho (jfB ⟨_, rfl⟩ (by decide +kernel))
end K0
set_option maxHeartbeats 2000000
namespace K0
open PySem PySem.Spec PyProof.Rows L2 Ly Pu
theorem pow30 : CPowW 10 30 := by
  unfold CPowW
  decide +kernel
theorem pow20 : CPowW 10 20 := by
  unfold CPowW
  decide +kernel
theorem ne_by {a b : D} (hs : sc a b = none) (h1 : SeqAt.shaped (toP a) = true) (h2 : SeqAt.shaped (toP b) = true) (e : PyData.eqv (toP a) (toP b) = true) {Q : D → Prop} (q : Q (.bl false)) : RNe a b Q := by
  unfold RNe
  rw [hs]
  refine ⟨h1, h2, ?_⟩
  rw [e]
  exact q
def w9 (w : Str) : D := .lst [.str w, .str w, .str w, .str w, .str w, .str w, .str w, .str w, .str w]
theorem w9_ok : ∀ w ∈ WS, SeqAt.shaped (toP (w9 w)) = true ∧ PyData.eqv (toP (w9 w)) (toP (w9 w)) = true := by decide +kernel
theorem mul12 : MulOk "." 12 := by
  unfold MulOk
  decide +kernel
theorem mul9 : MulOk "." 9 := by
  unfold MulOk
  decide +kernel
def d12 : Str := Txt.mul "." 12
theorem mulk : ∀ k ∈ List.range 9, MulOk "." (0 + (k : Nat) * 1) ∧ MulOk "." (8 - (0 + (k : Nat) * 1)) := by
  unfold MulOk
  decide +kernel
def dueS (k : Nat) : Str := ((Txt.mul "." (0 + (k : Nat) * 1) ++ "x") ++ Txt.mul "." (8 - (0 + (k : Nat) * 1))) ++ "xx"
theorem jio : ∀ k ∈ List.range 9, (Txt.mul "." (0 + (k : Nat) * 1)).length + (Str.ofString "x").length ≤ 100 ∧ (Txt.mul "." (0 + (k : Nat) * 1) ++ "x" : Str).length + (Txt.mul "." (8 - (0 + (k : Nat) * 1))).length ≤ 100 ∧
    ((Txt.mul "." (0 + (k : Nat) * 1) ++ "x") ++ Txt.mul "." (8 - (0 + (k : Nat) * 1)) : Str).length + (Str.ofString "xx").length ≤ 100 := by decide +kernel
theorem jfP {a b : Str} (e : a = b) {Q : D → Prop} (q : Q (.bl false)) : RNe (.str a) (.str b) Q := by
  show Q (.bl (!decide (a = b)))
  rw [decide_eq_true e]
  exact q
theorem mul11 : MulOk "." 11 := by
  unfold MulOk
  decide +kernel
section
variable {K : PySem.W.Frag} {A : Adr}
/-- the six errors that keep something, with what is due -/
def ers (A : Adr) (th : D) : List D := [.exf A.cUnknownWord "asked" th, .exf A.cUnknownPlace "spot" th, .exf A.cNothingToUndo "amount" th, .exf A.cTooMany "limit" th, .exf A.cRefused "cause" th, .exf A.cInvalidNumber "number" th]
def prs1 (A : Adr) (th : D) : List (D × List Bool) := (ers A th).zip [row 12 [0, 6, 8], row 12 [1, 8], row 12 [2, 7, 8], row 12 [3, 9, 10], row 12 [4, 10], row 12 [5, 11]]
def prs2 (A : Adr) (th : D) : List (D × List Bool) := (ers A th).zip (List.replicate 6 (row 11 []))
def DO1 : D := .lst ([row 12 [0, 6, 8], row 12 [1, 8], row 12 [2, 7, 8], row 12 [3, 9, 10], row 12 [4, 10], row 12 [5, 11]].map fun b => .str (bitX b))
def DO2 : D := .lst [.str "x.....x.x...", .str ".x......x...", .str "..x....xx...", .str "...x.....xx.", .str "....x.....x.", .str ".....x.....x"]
def DK2 : D := .lst ((List.replicate 6 (row 11 [])).map fun b => .str (bitX b))
def d11 : Str := Txt.mul "." 11
def DM2 : D := .lst [.str d11, .str d11, .str d11, .str d11, .str d11, .str d11]
/-- the nine errors with what is due of them, the last but one line kept -/
def prs (A : Adr) (w : Str) (x : D) : List (D × List Bool) := [(.exm A.cInvalidWord w, row 11 [0, 9, 10]), (.exm A.cInvalidTerm w, row 11 [1, 9, 10]), (.exm A.cInvalidBook w, row 11 [2, 9, 10]), (.exm A.cInvalidProgram w, row 11 [3, 9, 10]), (.exm A.cInvalidTable w, row 11 [4, 9, 10]), (.exm A.cInvalidLines w, row 11 [5, 9, 10]),
  (.exm A.cInvalidRows w, row 11 [6, 9, 10]), (.exm A.cInvalidOperation w, row 11 [7, 9, 10]), (.exf A.cParseError "line" x, row 11 [8, 9, 10])]
def Due (K : PySem.W.Frag) (V : List Value) (n : Nat) (p : D × List Bool) : Prop := p.2.length = n ∧ ∃ C, clsE p.1 = some C ∧ ErX K C ∧ ∀ q ∈ V.zip p.2, PySem.W.kitOne K (.ref C) q.1 = some q.2
theorem due_k (EC : EK K A) (i : Nat) {d : D} {C : Addr} {bs : List Bool} (hi : ((csA A).zip dueK)[i]? = some (C, bs)) (hd : clsE d = some C) (hl : bs.length = 11) : Due K (kindV A) 11 (d, bs) :=
  ⟨hl, C, hd, EC.er C (List.of_mem_zip (List.mem_of_getElem? hi)).1, EC.kk (C, bs) (List.mem_of_getElem? hi)⟩
theorem due_o (EC : EK K A) (i : Nat) {d : D} {C : Addr} {bs : List Bool} (hi : ((csA A).zip dueO)[i]? = some (C, bs)) (hd : clsE d = some C) (hl : bs.length = 12) : Due K (othV A) 12 (d, bs) :=
  ⟨hl, C, hd, EC.er C (List.of_mem_zip (List.mem_of_getElem? hi)).1, EC.oo (C, bs) (List.mem_of_getElem? hi)⟩
theorem jgl {ρ : Pu.Env} (h4 : 4 < ρ.length) (l : List (D × List Bool)) (h : ∀ p ∈ l, Due K (kindV A) 11 p) {Q : List D → Prop} (q : Q (l.map fun p => .str (bitX p.2))) : lcD (gN 4) fYes (fCall (jbu K A) 1 (fCons (fVar 4) fNil)) ρ (l.map Prod.fst) Q := by
  refine jfe (f := fun p : D × List Bool => .str (bitX p.2)) l (fun p hp R r => ?_) q
  obtain ⟨hl, C, hd, o, hk⟩ := h p hp
  have g : (ρ.set 4 (.val p.1))[4]? = some (.val p.1) := List.getElem?_set_self h4
  exact ⟨_, g, rfl, kinds_ok hl hd o hk r⟩
theorem jfC {ρ : Pu.Env} (h4 : 4 < ρ.length) (l : List (D × List Bool)) (h : ∀ p ∈ l, Due K (othV A) 12 p) {Q : List D → Prop} (q : Q (l.map fun p => .str (bitX p.2))) : lcD (gN 4) fYes (fCall (jbg K A) 1 (fCons (fVar 4) fNil)) ρ (l.map Prod.fst) Q := by
  refine jfe (f := fun p : D × List Bool => .str (bitX p.2)) l (fun p hp R r => ?_) q
  obtain ⟨hl, C, hd, o, hk⟩ := h p hp
  have g : (ρ.set 4 (.val p.1))[4]? = some (.val p.1) := List.getElem?_set_self h4
  exact ⟨_, g, rfl, jfA hl hd o hk r⟩
def prs0 (A : Adr) (w : Str) : List (D × List Bool) := ((csA A).take 9).map fun C => (.exm C w, row 12 [])
theorem jlq (EC : EK K A) (w : Str) : ∀ p ∈ prs0 A w, Due K (othV A) 12 p := by
  unfold prs0 csA
  simp only [List.take, List.map_cons, List.map_nil, List.forall_mem_cons]
  exact ⟨due_o EC 0 rfl rfl rfl, due_o EC 1 rfl rfl rfl, due_o EC 2 rfl rfl rfl, due_o EC 3 rfl rfl rfl, due_o EC 4 rfl rfl rfl, due_o EC 5 rfl rfl rfl, due_o EC 6 rfl rfl rfl, due_o EC 7 rfl rfl rfl, due_o EC 8 rfl rfl rfl, fun _ h => nomatch h⟩
theorem prs_ok (EC : EK K A) (w : Str) (x : D) : ∀ p ∈ prs A w x, Due K (kindV A) 11 p := by
  unfold prs
  simp only [List.forall_mem_cons]
  exact ⟨due_k EC 0 rfl rfl rfl, due_k EC 1 rfl rfl rfl, due_k EC 2 rfl rfl rfl, due_k EC 3 rfl rfl rfl, due_k EC 4 rfl rfl rfl, due_k EC 5 rfl rfl rfl, due_k EC 6 rfl rfl rfl, due_k EC 7 rfl rfl rfl, due_k EC 9 rfl rfl rfl, fun _ h => nomatch h⟩
theorem jlr (EC : EK K A) (th : D) : ∀ p ∈ prs1 A th, Due K (othV A) 12 p := by
  unfold prs1 ers
  simp only [List.zip_cons_cons, List.zip_nil_right, List.forall_mem_cons]
  exact ⟨due_o EC 10 rfl rfl rfl, due_o EC 11 rfl rfl rfl, due_o EC 12 rfl rfl rfl, due_o EC 13 rfl rfl rfl, due_o EC 14 rfl rfl rfl, due_o EC 15 rfl rfl rfl, fun _ h => nomatch h⟩
theorem jls (EC : EK K A) (th : D) : ∀ p ∈ prs2 A th, Due K (kindV A) 11 p := by
  unfold prs2 ers
  simp only [List.replicate, List.zip_cons_cons, List.zip_nil_right, List.forall_mem_cons]
  exact ⟨due_k EC 10 rfl rfl rfl, due_k EC 11 rfl rfl rfl, due_k EC 12 rfl rfl rfl, due_k EC 13 rfl rfl rfl, due_k EC 14 rfl rfl rfl, due_k EC 15 rfl rfl rfl, fun _ h => nomatch h⟩
def DK : D := .lst ([row 11 [0, 9, 10], row 11 [1, 9, 10], row 11 [2, 9, 10], row 11 [3, 9, 10], row 11 [4, 9, 10], row 11 [5, 9, 10], row 11 [6, 9, 10], row 11 [7, 9, 10], row 11 [8, 9, 10]].map fun b => .str (bitX b))
def DU : D := .lst ((List.range 9).map fun k => .str (dueS k))
def DO0 : D := .lst ((List.replicate 9 (row 12 [])).map fun b => .str (bitX b))
def DM : D := .lst [.str d12, .str d12, .str d12, .str d12, .str d12, .str d12, .str d12, .str d12, .str d12]
theorem right (EC : EK K A) {Q : D → Prop} {Z : ZX} (q : Q (.bl true)) : jdJ K A [.dice] Q Z := by
  unfold jdJ jhd
  simp only [fnS,Pu.startB,sSeq,sAsg,sIf,sRet,sNext,sNew,sApp,sPar,sDem,demB,fVar,fVarT,fC,fOp,fTst,fAnd,fOr,fNot,fNew,fLst,fTup,fNil,fCons,fSl,Pu.oAt,oNo,fCB,fCall,fIf,jfq,fRng1,fIt,fJoin,RLen,RI0,RAdd,RIx,RSl,RIsN,jfu,RIn,gN,bD,List.map_cons,List.map_nil,List.cons_append,List.nil_append,List.length_cons,List.length_nil,List.replicate,Nat.reduceSub,Nat.reduceAdd,List.getElem?_cons_zero,List.getElem?_cons_succ,List.set_cons_zero,List.set_cons_succ,Option.some.injEq,B.val.injEq,D.int.injEq,D.bl.injEq,D.str.injEq,D.tup.injEq,D.lst.injEq,exists_eq_left',exists_eq_left,exists_and_left,ex_eq,true_and,and_true,List.cons.injEq,fExm,fExf,fXfv,jfd,FPick,fCatN,fLc,RStrX,RRep,sPut,RPow,fDic,fDisp,jfW]
  have z5 : ∀ n : Nat, n ≤ 100 → n ≤ sizeLine := fun n h => by rw [sizeLine_eq]; omega
  refine ⟨z5 _ (by decide), z5 _ (by decide), ?_⟩
  refine ⟨pow30, z5 _ (by decide), z5 _ (by decide), z5 _ (by decide), z5 _ (by decide), _, rfl, by decide, z5 _ (by decide), by decide, by decide, fun th hth => ?_⟩
  have hth : th ∈ THS := hth
  refine ⟨z5 _ (by decide), by decide, by decide, fun wd hwd => ?_⟩
  obtain ⟨w, hw, rfl⟩ : ∃ w, w ∈ WS ∧ wd = .str w := by
    simp only [List.mem_cons, List.not_mem_nil, or_false] at hwd
    rcases hwd with rfl | rfl | rfl | rfl
    · exact ⟨_, by decide, rfl⟩
    · exact ⟨_, by decide, rfl⟩
    · exact ⟨_, by decide, rfl⟩
    · exact ⟨_, by decide, rfl⟩
  clear hwd
  refine ⟨w, rfl, w, rfl, w, rfl, w, rfl, w, rfl, z5 _ (by decide), w, rfl, w, rfl, w, rfl, w, rfl, z5 _ (by decide), z5 _ (by decide), ?_⟩
  -- str
  refine ⟨_, rfl, z5 9 (by decide), ?_⟩
  refine jfe (h := fun C => D.exm C w) (f := fun _ => D.str w) ((csA A).take 9) (fun C hC R r => ⟨_, _, rfl, rfl, C, w, rfl, EC.es C hC, r⟩) ?_
  refine ⟨z5 _ (by decide), by decide, by decide, z5 _ (by decide), ?_⟩
  refine ne_by (a := w9 w) (b := w9 w) rfl (w9_ok w hw).1 (w9_ok w hw).1 (w9_ok w hw).2 ⟨_, rfl, ?_⟩
  rw [if_neg (by decide)]
  -- others
  refine ⟨_, rfl, z5 9 (by decide), ?_⟩
  refine jfC ?_ (prs0 A w) (jlq EC w) ?_
  · exact (show 4 < 9 by decide)
  refine ⟨mul12, z5 _ (by decide), by decide, by decide, z5 _ (by decide), ?_⟩
  refine ne_by (a := DO0) (b := DM) rfl (by decide +kernel) (by decide +kernel) (by decide +kernel) ⟨_, rfl, ?_⟩
  rw [if_neg (by decide)]
  -- a line
  refine ⟨pow20, z5 _ (by decide), by decide, by decide, fun x _ => ?_⟩
  refine ⟨_, rfl, 8, rfl, by decide, z5 _ (by decide), ?_⟩
  refine jfe (h := fun k : Nat => D.int (0 + (k : Nat) * 1)) (f := fun k => .str (dueS k)) (List.range 9) (fun k hk R r => ?_) ?_
  · obtain ⟨m1, m2⟩ := mulk k hk
    obtain ⟨l1, l2, l3⟩ := jio k hk
    exact ⟨_, _, rfl, rfl, m1, z5 _ l1, _, _, rfl, rfl, m2, z5 _ l2, z5 _ l3, r⟩
  refine ⟨_, rfl, z5 9 (by decide), ?_⟩
  refine jgl ?_ (prs A w x) (prs_ok EC w x) ?_
  · exact (show 4 < 9 by decide)
  refine ne_by (a := DK) (b := DU) rfl (by decide +kernel) (by decide +kernel) (by decide +kernel) ⟨_, rfl, ?_⟩
  rw [if_neg (by decide)]
  have hN := due_k (d := .exm A.cNeedError w) EC 8 rfl rfl rfl
  obtain ⟨hl, C, hd, o, hk⟩ := hN
  refine ⟨w, rfl, kinds_ok hl hd o hk ?_⟩
  refine ⟨mul9, z5 _ (by decide), ?_⟩
  refine jfP (show bitX (row 11 [9, 10]) = Txt.mul "." 9 ++ "xx" by decide +kernel) ⟨_, rfl, ?_⟩
  rw [if_neg (by decide)]
  -- the errors that keep something
  refine ⟨z5 _ (by decide), _, rfl, (show 5 < sizeLine by rw [sizeLine_eq]; decide), z5 _ (by decide), _, rfl, z5 6 (by decide), ?_⟩
  refine jfC ?_ (prs1 A th) (jlr EC th) ?_
  · exact (show 4 < 9 by decide)
  refine ne_by (a := DO1) (b := DO2) rfl (by decide +kernel) (by decide +kernel) (by decide +kernel) ⟨_, rfl, ?_⟩
  rw [if_neg (by decide)]
  refine ⟨_, rfl, z5 6 (by decide), ?_⟩
  refine jgl ?_ (prs2 A th) (jls EC th) ?_
  · exact (show 4 < 9 by decide)
  refine ⟨mul11, z5 _ (by decide), by decide, by decide, z5 _ (by decide), ?_⟩
  refine ne_by (a := DK2) (b := DM2) rfl (by decide +kernel) (by decide +kernel) (by decide +kernel) ⟨_, rfl, ?_⟩
  rw [if_neg (by decide)]
  have hP := due_o (d := .exf A.cParseError "line" x) EC 9 rfl rfl rfl
  obtain ⟨hl2, C2, hd2, o2, hk2⟩ := hP
  refine ⟨_, rfl, jfA hl2 hd2 o2 hk2 ?_⟩
  refine ⟨mul12, ?_⟩
  refine jfP (show bitX (row 12 []) = Txt.mul "." 12 by decide +kernel) ⟨_, rfl, ?_⟩
  rw [if_neg (by decide)]
  obtain ⟨t1, ht1⟩ := repr_1 th hth
  obtain ⟨t6, ht6⟩ := repr_6 th hth
  refine ⟨th, rfl, ht1 _ (ht1 _ (jfP rfl ⟨_, rfl, ?_⟩))⟩
  rw [if_neg (by decide)]
  refine ⟨_, rfl, _, rfl, _, rfl, _, rfl, _, rfl, _, rfl, _, rfl, _, rfl, _, rfl, _, rfl, _, rfl, _, rfl, z5 _ (by decide), ht6 _ ⟨z5 _ (by decide), by decide, by decide, z5 _ (by decide), ht6 _ ?_⟩⟩
  show Q (.bl (decide (t6 = t6)))
  rw [decide_eq_true rfl]
  exact q
end
end K0
set_option maxHeartbeats 1000000
namespace K0
open PySem PySem.Spec PyProof.Rows L2 Ly Pu
def Il (ns : List Int) (ρ : Pu.Env) : Prop := ∃ o1 o2 o3, ρ = [.val (.lsk (ns.map .int)), o1, o2, o3]
def Il2 (ns : List Int) (ρ : Pu.Env) : Prop := ∃ o1 o3, ρ = [.val (.lsk (ns.map .int)), o1, .val .dice, o3]
def toldL : D := .lst [.non, .int 3, .int 40]
section
variable {K : PySem.W.Frag} {A : Adr}
theorem law_ok (EC : EK K A) {ns : List Int} (hl : ns.length ≤ 63) {Q : D → Prop} {Z : ZX} (q : Q (.bl true)) : G_law K A [.lsk (ns.map .int)] Q Z := by
  unfold G_law S_law
  simp only [fnS,Pu.startB,sSeq,sAsg,sIf,sRet,sNext,sNew,sApp,sPar,sDem,demB,fVar,fVarT,fC,fOp,fTst,fAnd,fOr,fNot,fNew,fLst,fTup,fNil,fCons,fSl,Pu.oAt,oNo,fCB,fCall,fIf,jfq,fRng1,fIt,fJoin,RLen,RI0,RAdd,RIx,RSl,RIsN,jfu,RIn,gN,bD,List.map_cons,List.map_nil,List.cons_append,List.nil_append,List.length_cons,List.length_nil,List.replicate,Nat.reduceSub,Nat.reduceAdd,List.getElem?_cons_zero,List.getElem?_cons_succ,List.set_cons_zero,List.set_cons_succ,Option.some.injEq,B.val.injEq,D.int.injEq,D.bl.injEq,D.str.injEq,D.tup.injEq,D.lst.injEq,exists_eq_left',exists_eq_left,exists_and_left,ex_eq,true_and,and_true,List.cons.injEq,lenD,sFor,RMax2,RMin2,fExf,fXfv]
  refine ⟨_, _, ⟨rfl, rfl⟩, ?_⟩
  refine ⟨_, _, ⟨rfl, rfl⟩, ⟨by rw [List.length_map]; split <;> split <;> omega, by rw [List.length_map]; split <;> split <;> omega⟩, ?_⟩
  refine jes (Il ns) _ (fun d ρ D' hd hρ hn hrt hex => ?_) (fun ρ hρ => ?_) _ _ (fun d hd => hd) ⟨_, _, _, rfl⟩
  · obtain ⟨o1, o2, o3, rfl⟩ := hρ
    obtain ⟨k, _, rfl⟩ := List.mem_map.mp hd
    have e : ((0 : Int) + (k : Nat) * 1) = (k : Int) := by omega
    refine ⟨_, rfl, _, rfl, rfl, ns, k, by rw [e], ?_⟩
    refine ⟨4, rfl, by decide, ?_⟩
    refine jes (Il2 ns) _ (fun d ρ D2 hd hρ hn2 hrt2 hex2 => ?_) (fun ρ hρ => ?_) _ _ (fun d hd => hd) ⟨_, _, rfl⟩
    · obtain ⟨o1, o3, rfl⟩ := hρ
      refine ⟨_, rfl, rfl, right EC ⟨_, rfl, ?_⟩⟩
      show if (!true) = true then _ else _
      rw [if_neg (by decide)]
      exact hn2 _ ⟨_, _, rfl⟩
    · obtain ⟨o1, o3, rfl⟩ := hρ
      exact hn _ ⟨_, _, _, rfl⟩
  · obtain ⟨o1, o2, o3, rfl⟩ := hρ
    simp only [fnS,Pu.startB,sSeq,sAsg,sIf,sRet,sNext,sNew,sApp,sPar,sDem,demB,fVar,fVarT,fC,fOp,fTst,fAnd,fOr,fNot,fNew,fLst,fTup,fNil,fCons,fSl,Pu.oAt,oNo,fCB,fCall,fIf,jfq,fRng1,fIt,fJoin,RLen,RI0,RAdd,RSl,RIsN,jfu,gN,bD,List.map_cons,List.map_nil,List.cons_append,List.nil_append,List.length_cons,List.length_nil,List.replicate,Nat.reduceSub,Nat.reduceAdd,List.getElem?_cons_zero,List.getElem?_cons_succ,List.set_cons_zero,List.set_cons_succ,Option.some.injEq,B.val.injEq,D.int.injEq,D.bl.injEq,D.str.injEq,D.tup.injEq,D.lst.injEq,exists_eq_left',exists_eq_left,exists_and_left,ex_eq,true_and,and_true,List.cons.injEq,List.zip_cons_cons,List.zip_nil_right,List.foldl_cons,List.foldl_nil,wipeB,lenD,itD,Bool.not_true,Bool.not_false,Bool.false_eq_true,Bool.true_eq_false,if_true,if_false,ite_true,ite_false,D.dic.injEq,D.obj.injEq,and_assoc,List.map_map,fExf,fXfv]
    refine ⟨_, rfl, _, rfl, _, rfl, by rw [sizeLine_eq]; decide, by rw [sizeLine_eq]; decide, ?_⟩
    show REq toldL toldL _
    refine ⟨(show SeqAt.shaped (toP toldL) = true by decide +kernel), (show SeqAt.shaped (toP toldL) = true by decide +kernel), ?_⟩
    rw [show PyData.eqv (toP toldL) (toP toldL) = true by decide +kernel]
    exact q
end
end K0
namespace K0Di
open PySem L2 Ly
open K0 (top Txt)
section
variable {P : Program} {w : World} {K : PySem.W.Frag} {mg : Str → Option Value} {base : Heap}
abbrev jcM : Stmt := top 18
abbrev jlt : List Str := ["_law_script", "_law_spot", "_law_cell", "_law_great", "_law_blend"]
abbrev jhh : List Str := ["_law_script", "_law_spot"]
theorem jhi : FnScope jlt jhh (defScope jcM) := ⟨rfl, rfl, rfl, by decide +kernel, rfl, by decide +kernel, by decide +kernel⟩
theorem jip {f : Addr} {fd : FuncData} (F : Fun K "_law_dice" "_law_dice" jcM f fd) (T : Txt K mg) : FnOk P w K mg base CX0 1 f fd ["_law_script", "_law_spot"] (jkV K) := by
  have nd := jhi.nd
  refine F.ok jhi (fun vs H Q E h => ?_) (fun cdv A outer s H vs Q E hr h => ?_)
  · obtain ⟨_, _, _, rfl, _⟩ := h
    rfl
  · obtain ⟨a, ns, n, rfl, hS, k⟩ := h
    refine ⟨_, (pss_cons (ps_set (i := 2) nd rfl (Or.inl rfl) (pe_op op_add (pe_op op_mul pe_int (pv 1)) pe_int))
      (Evl.pss_cut (ps_if (pt_cmpR op_lt (pv 1) (pe_callB (jem (K := K)) (by rfl) T.z_len (by decide +kernel) (pa_cons (pv 0) pa_nil)) (nomark _)) (pss_one (ps_set (i := 2) nd rfl (Or.inl rfl) (pe_ix (kix_list (K := K)) (pv 0) (pv 1) (fun _ _ => rfl)))) pss_nil)
      (pss_cons (ps_set (i := 3) nd rfl (Or.inl rfl) (pe_op op_mod (pe_callTy call_int1 (by rfl) T.z_int (by decide +kernel) (pa_cons (pe_callB call_abs (by rfl) T.z_abs (by decide +kernel) (pa_cons (pv 2) pa_nil)) pa_nil)) (pe_op jel (pe_op jel pe_int pe_int) pe_int)))
      (pss_cons (ps_set (i := 4) nd rfl (Or.inl rfl) (pe_op op_add (pe_op op_add (pe_op op_add (pe_op op_mul (pe_op op_mod (pe_callTy call_int1 (by rfl) T.z_int (by decide +kernel) (pa_cons (pv 3) pa_nil)) pe_int) pe_int) (pe_op op_mul pe_int (pv 1))) (pe_op op_mul pe_int (pe_callTy call_int1 (by rfl) T.z_int (by decide +kernel) (pa_cons (pe_cmpR op_lt (pv 2) pe_int (nomark _)) pa_nil)))) pe_int))
      (pss_one (ps_ret (pe_lst (pa_cons (pe_callB (call_max2 rfl) (by rfl) T.z_max (by decide +kernel) (pa_cons pe_int (pa_cons (pe_op op_sub (pv 3) (pe_op jel pe_int pe_int)) pa_nil))) (pa_cons (pe_op op_mod (pe_callTy call_int1 (by rfl) T.z_int (by decide +kernel) (pa_cons (pv 4) pa_nil)) pe_int) (pa_cons pe_int pa_nil)))))))))), ?_⟩
    -- cell = 53 * spot + 29
    refine ⟨_, rfl, _, _, rfl, rfl, Or.inl ⟨by decide, by decide⟩, _, _, rfl, rfl, ?_⟩
    -- if spot < len(script)
    refine ⟨fun σ H' => ∃ cell : Int, σ = [some (.ref a), some (.int n), some (.int cell), none, none] ∧ H' = H, ?_, ?_⟩
    · refine ⟨_, rfl, _, rfl, a, _, rfl, Or.inl hS, _, _, rfl, rfl, _, rfl, ite2 (fun hc => ?_) (fun hc => ?_)⟩
      · have hc : (n : Int) < ((ns.map V.int).length : Int) := of_decide_eq_true hc
        have hl : n < ns.length := by
          rw [List.length_map] at hc
          omega
        exact ⟨_, rfl, _, rfl, a, _, _, _, rfl, rfl, hS, atI_nat (v := .int ns[n]) (by simp [hl]), ns[n], rfl, rfl⟩
      · exact ⟨_, rfl, rfl⟩
    · rintro σ H' ⟨cell, rfl, rfl⟩
      -- great
      refine ⟨_, rfl, _, rfl, Or.inl ⟨_, rfl, _, _, rfl, rfl, ⟨by decide, by decide +kernel⟩, _, _, rfl, rfl, ⟨by decide, by decide +kernel⟩, _, _, rfl, rfl, by show (0 : Int) < _; decide +kernel, ?_⟩⟩
      -- blend
      refine ⟨_, rfl, Or.inl ⟨_, rfl, _, _, rfl, rfl, by show (0 : Int) < 2305843009213693723; decide, _, _, rfl, rfl, Or.inr ⟨by decide, by decide⟩, _, rfl, _, _, rfl, rfl, Or.inl ⟨by decide, by decide⟩, _, _, rfl, rfl, _, rfl, _, _, rfl, rfl, Or.inr ⟨_, rfl, _, _, rfl, rfl, Or.inl ⟨by decide, by decide⟩, _, _, rfl, rfl, _, _, rfl, rfl, ?_⟩⟩⟩
      -- return
      refine ⟨_, rfl, _, _, rfl, rfl, ⟨by decide, by decide +kernel⟩, _, _, rfl, rfl, _, _, rfl, _, rfl, Or.inl ⟨_, rfl, _, _, rfl, rfl, by show (0 : Int) < 2305843009213693723; decide, by show 3 ≤ sizeLine; decide, fun p hp => ?_⟩⟩
      exact k p _ _ _ hp
theorem jlu {f : Addr} {fd : FuncData} (F : Fun K "_law_dice" "_law_dice" jcM f fd) (T : Txt K mg) : FnOk P w K mg base CX0 1 f fd ["_law_script", "_law_spot"] (jkm K) := by
  refine (jgC (jip F T)).imp fun vs H Q E h => ?_
  obtain ⟨a, ns, n, rfl, hS, k⟩ := h
  refine ⟨a, ns, n, rfl, hS, fun p x y z hp => ⟨p, x, y, z, rfl, upd_same, ?_⟩⟩
  rw [upd_upd]
  exact k p hp
abbrev jcN : Stmt := top 19
abbrev jlv : List Str := ["_law_dice_here", "_law_total", "_law_found", "_law_one", "_law_two"]
abbrev jfQ : List Str := ["_law_dice_here", "_law_total"]
theorem jhj : FnScope jlv jfQ (defScope jcN) := ⟨rfl, rfl, rfl, by decide +kernel, rfl, by decide +kernel, by decide +kernel⟩
theorem jiq {f : Addr} {fd : FuncData} (F : Fun K "_law_roll" "_law_roll" jcN f fd) (T : Txt K mg) : FnOk P w K mg base CX0 1 f fd ["_law_dice_here", "_law_total"] jkW := by
  have nd := jhj.nd
  refine F.ok jhj (fun vs H Q E h => ?_) (fun cdv A outer s H vs Q E hr h => ?_)
  · obtain ⟨_, _, _, _, _, rfl, _⟩ := h
    rfl
  · obtain ⟨p, t, a, b, c, rfl, ht, ht2, hp, k⟩ := h
    refine ⟨_, (pss_cons (ps_if (pt_cmpR op_gt (pe_ix (kix_list (K := K)) (pv 0) pe_int (fun _ _ => rfl)) pe_int (nomark _)) (pss_cons (ps_set (i := 2) nd rfl (Or.inl rfl) (pe_op op_mod (pe_callTy call_int1 (by rfl) T.z_int (by decide +kernel) (pa_cons (pe_ix (kix_list (K := K)) (pv 0) pe_int (fun _ _ => rfl)) pa_nil)) (pv 1)))
      (pss_cons (ps_asg (pe_op op_fdiv (pe_ix (kix_list (K := K)) (pv 0) pe_int (fun _ _ => rfl)) (pv 1)) (pg_sub (pv 0) pe_int set_list))
      (pss_one (ps_ret (pv 2))))) pss_nil)
      (pss_cons (ps_asg (pe_op op_add (pe_ix (kix_list (K := K)) (pv 0) pe_int (fun _ _ => rfl)) pe_int) (pg_sub (pv 0) pe_int set_list))
      (pss_cons (ps_set (i := 3) nd rfl (Or.inl rfl) (pe_op op_mod (pe_callTy call_int1 (by rfl) T.z_int (by decide +kernel) (pa_cons (pe_op op_add (pe_ix (kix_list (K := K)) (pv 0) pe_int (fun _ _ => rfl)) (pe_op op_mul pe_int (pe_ix (kix_list (K := K)) (pv 0) pe_int (fun _ _ => rfl)))) pa_nil)) pe_int))
      (pss_cons (ps_set (i := 4) nd rfl (Or.inl rfl) (pe_op op_add (pe_op op_mul (pe_op op_mod (pe_callTy call_int1 (by rfl) T.z_int (by decide +kernel) (pa_cons (pe_op op_mul (pv 3) (pv 3)) pa_nil)) pe_int) (pv 3)) (pe_op op_mul pe_int (pe_ix (kix_list (K := K)) (pv 0) pe_int (fun _ _ => rfl)))))
      (pss_cons (ps_set (i := 4) nd rfl (Or.inl rfl) (pe_op op_mod (pe_callTy call_int1 (by rfl) T.z_int (by decide +kernel) (pa_cons (pv 4) pa_nil)) pe_int))
      (pss_one (ps_ret (pe_op op_mod (pe_callTy call_int1 (by rfl) T.z_int (by decide +kernel) (pa_cons (pe_op op_fdiv (pv 4) pe_int) pa_nil)) (pv 1))))))))), ?_⟩
    have hL : SqL K H p [.int a, .int b, .int c] := SqL.of hp
    have h0 : (0 : Int) < 2305843009213693951 := by decide
    have h1 : (0 : Int) < 2305843009213693921 := by decide
    have h2 : (0 : Int) < 2305843009213693723 := by decide
    have hnn : ∀ x : Int, 0 ≤ x % t := fun x => Int.emod_nonneg _ (by omega)
    have hlt : ∀ x : Int, x % t < t := fun x => Int.emod_lt_of_pos _ ht
    refine ⟨_, rfl, p, _, _, _, rfl, rfl, hL, rfl, _, _, rfl, rfl, _, rfl, ite2 (fun _ => ?_) (fun _ => ?_)⟩
    · refine ⟨_, rfl, p, _, _, _, rfl, rfl, hL, rfl, Or.inl ⟨_, rfl, _, rfl, _, _, rfl, rfl, ht, ?_⟩⟩
      refine ⟨_, rfl, p, _, _, _, rfl, rfl, hL, rfl, _, rfl, _, _, rfl, rfl, ⟨ht, ht2⟩, _, rfl, p, _, _, _, rfl, rfl, hp, rfl, ?_⟩
      exact ⟨_, rfl, k _ _ _ _ (hnn _) (hlt _)⟩
    · refine ⟨_, rfl, p, _, _, _, rfl, rfl, hL, rfl, _, _, rfl, rfl, _, rfl, p, _, _, _, rfl, rfl, hp, rfl, ?_⟩
      have hL2 : SqL K (upd H p (.lst ([.int a, .int b, .int c].set 2 (.int (c + 1))))) p [.int a, .int b, .int (c + 1)] := SqL.of upd_same
      refine ⟨_, rfl, p, _, _, _, rfl, rfl, hL2, rfl, _, rfl, p, _, _, _, rfl, rfl, hL2, rfl, _, _, rfl, rfl, Or.inl ⟨by decide, by decide⟩, _, _, rfl, rfl, Or.inl ⟨_, rfl, _, _, rfl, rfl, h0, ?_⟩⟩
      have hone : ∀ x : Int, -(2 ^ 64) < x % 2305843009213693951 ∧ x % 2305843009213693951 < 2 ^ 64 := fun x => ⟨by have := Int.emod_nonneg x (b := 2305843009213693951) (by decide); omega, by have := Int.emod_lt_of_pos x h0; omega⟩
      refine ⟨_, rfl, _, rfl, _, _, rfl, rfl, Or.inl (hone _), Or.inl ⟨_, rfl, _, _, rfl, rfl, h1, _, rfl, _, _, rfl, rfl, Or.inr (hone _), _, rfl, p, _, _, _, rfl, rfl, hL2, rfl, _, _, rfl, rfl, Or.inl ⟨by decide, by decide⟩, _, _, rfl, rfl, ?_⟩⟩
      refine ⟨_, rfl, Or.inl ⟨_, rfl, _, _, rfl, rfl, h2, ?_⟩⟩
      refine ⟨_, rfl, _, _, rfl, rfl, ⟨by decide, by decide⟩, Or.inl ⟨_, rfl, _, rfl, _, _, rfl, rfl, ht, ?_⟩⟩
      exact k _ _ _ _ (hnn _) (hlt _)
theorem jlw {f : Addr} {fd : FuncData} (F : Fun K "_law_roll" "_law_roll" jcN f fd) (T : Txt K mg) : FnOk P w K mg base CX0 1 f fd ["_law_dice_here", "_law_total"] jgD := by
  refine (jkU (jiq F T)).imp fun vs H Q E h => ?_
  obtain ⟨p, t, rfl, h1, h2, hp, k⟩ := h
  refine ⟨rfl, p, hp, fun a b c => ⟨p, t, a, b, c, rfl, h1, h2, upd_same, fun r a' b' c' h3 h4 => ⟨⟨a', b', c', upd_same⟩, ?_⟩⟩⟩
  rw [upd_upd, upd_upd, upd_id hp]
  exact k r h3 h4
abbrev jdp : Stmt := top 20
abbrev jlx : List Str := ["_law_dice_here", "_law_items"]
abbrev jhk : List Str := ["_law_dice_here", "_law_items"]
theorem jly : FnScope jlx jhk (defScope jdp) := ⟨rfl, rfl, rfl, by decide +kernel, rfl, by decide +kernel, by decide +kernel⟩
theorem jlz {f : Addr} {fd : FuncData} (F : Fun K "_law_pick" "_law_pick" jdp f fd) (T : Txt K mg) (C_roll : Cal P w K mg base "_law_roll" 1 ["_law_dice_here", "_law_total"] jgD) : FnOk P w K mg base CX0 2 f fd ["_law_dice_here", "_law_items"] (jkn K) := by
  refine F.ok jly (fun vs H Q E h => ?_) (fun cdv A outer s H vs Q E hr h => ?_)
  · obtain ⟨_, _, _, rfl, _⟩ := h
    rfl
  · obtain ⟨p, l, xs, rfl, hp, hl, h1, h2, k⟩ := h
    refine ⟨_, (pss_one (ps_ret (pe_ix (kix_list (K := K)) (pv 1) (pe_cal C_roll (hr.mono (by first | decide | omega)) rfl (pa_cons (pv 0) (pa_cons (pe_callB (jem (K := K)) (by rfl) T.z_len (by decide +kernel) (pa_cons (pv 1) pa_nil)) pa_nil))) (fun _ _ => rfl)))), ?_⟩
    refine ⟨_, rfl, _, rfl, _, rfl, l, _, rfl, Or.inl hl, p, _, rfl, by omega, by omega, hp, fun r h3 h4 => ?_⟩
    have e : r = (r.toNat : Int) := by omega
    have hx : xs[r.toNat]? = some (xs[r.toNat]'(by omega)) := by simp
    exact ⟨l, _, _, _, rfl, rfl, hl, at_of e hx, k _ _ hx⟩
end
end K0Di
namespace K0
open PySem PySem.Spec PyProof.Rows L2 Ly Pu
section
variable {P : Program} {w : World} {K : PySem.W.Frag} {mg : Str → Option Value} {base : Heap} {A : Adr}
def spLaw (K : PySem.W.Frag) : Sp := fun vs H Q _ => ∃ (a : Addr) (ns : List Int), vs = [.ref a] ∧ SqL K H a (ns.map V.int) ∧ ns.length ≤ 63 ∧ ∀ H', Q (.bl true) H'
theorem jkG (EC : EK K A) {vs : List V} {H : Hp} {Q : VK} {E : XK} (h : spLaw K vs H Q E) : spD K 1 (G_law K A) vs H Q E := by
  obtain ⟨a, ns, hv, hS, hl, kk⟩ := h
  exact ⟨H, [.lsk (ns.map .int)], fun d => d = .bl true, fun _ => False, Gx.refl _, by
    subst hv
    exact .cons (.lsk hS (jkv ns) (by rw [List.length_map, sizeLine_eq]; omega)) .nil, rfl, law_ok EC hl rfl, fun v W' H' d e r z => (by subst z; cases r; exact kk H'), fun _ _ _ _ _ _ _ z => z.elim⟩
theorem jlA (EC : EK K A) {k : Nat} {f : Addr} {fd : FuncData} {ps : List Str} (F : FnG P w K mg base (L2.CX P w) k f fd ps (spD K 1 (G_law K A))) : FnG P w K mg base (L2.CX P w) k f fd ps (spLaw K) :=
  ⟨fun vs H Q E h => F.len vs H Q E (jkG EC h), fun A outer s H args us vs Q E hr gd he hb hv hs => F.run A outer s H args us vs Q E hr gd he hb hv (jkG EC hs)⟩
theorem jao {C : Addr} (h : erB K C = true) : ErX K C := by
  unfold erB at h
  simp only [Bool.and_eq_true] at h
  obtain ⟨h1, h3, h4, h5, h6, h7⟩ := h
  exact ⟨xfB_ok h1, h3, jkl h4, jkl h5, jkk h6, jkk h7⟩
abbrev jan : Stmt := inClass (top 10) 0
abbrev jdq : List Str := ["self", "line"]
abbrev jaP : List Str := ["self", "line"]
theorem jbm : FnScope jdq jaP (defScope jan) := ⟨rfl, rfl, rfl, by decide +kernel, rfl, by decide +kernel, by decide +kernel⟩
theorem jet {f CP : Addr} {fd : FuncData} {B newId initId : String} {bmB : List Value} (F : Fun K "__init__" "ParseError.__init__" jan f fd) (O : OexB K CP B newId initId bmB) (no : PySem.W.findIn K (.ref CP) "line" = some none) : FnOk P w K mg base CX0 1 f fd jaP (spXi CP "line") := by
  have nd := jbm.nd
  refine F.ok jbm (fun vs H Q E h => ?_) (fun cdv A outer s H vs Q E hr h => ?_)
  · obtain ⟨_, _, rfl, _⟩ := h
    rfl
  · obtain ⟨a, v, rfl, ha, k⟩ := h
    exact ⟨_, pss_one (jcR (B := B) (newId := newId) (initId := initId) (bmB := bmB) (pv 0) (pv 1)), _, rfl, _, rfl, a, CP, rfl, O, no, ha, fun dx h1 h2 => k dx h1 h2⟩
abbrev jam : Stmt := inClass (top 11) 0
abbrev jcS : List Str := ["self", "asked"]
abbrev jaN : List Str := ["self", "asked"]
theorem jbh : FnScope jcS jaN (defScope jam) := ⟨rfl, rfl, rfl, by decide +kernel, rfl, by decide +kernel, by decide +kernel⟩
theorem jdV {f CP : Addr} {fd : FuncData} {B newId initId : String} {bmB : List Value} (F : Fun K "__init__" "UnknownWord.__init__" jam f fd) (O : OexB K CP B newId initId bmB) (no : PySem.W.findIn K (.ref CP) "asked" = some none) : FnOk P w K mg base CX0 1 f fd jaN (spXi CP "asked") := by
  have nd := jbh.nd
  refine F.ok jbh (fun vs H Q E h => ?_) (fun cdv A outer s H vs Q E hr h => ?_)
  · obtain ⟨_, _, rfl, _⟩ := h
    rfl
  · obtain ⟨a, v, rfl, ha, k⟩ := h
    exact ⟨_, pss_one (jcR (B := B) (newId := newId) (initId := initId) (bmB := bmB) (pv 0) (pv 1)), _, rfl, _, rfl, a, CP, rfl, O, no, ha, fun dx h1 h2 => k dx h1 h2⟩
abbrev jal : Stmt := inClass (top 12) 0
abbrev jcl : List Str := ["self", "spot"]
abbrev jaI : List Str := ["self", "spot"]
theorem jbb : FnScope jcl jaI (defScope jal) := ⟨rfl, rfl, rfl, by decide +kernel, rfl, by decide +kernel, by decide +kernel⟩
theorem jdK {f CP : Addr} {fd : FuncData} {B newId initId : String} {bmB : List Value} (F : Fun K "__init__" "UnknownPlace.__init__" jal f fd) (O : OexB K CP B newId initId bmB) (no : PySem.W.findIn K (.ref CP) "spot" = some none) : FnOk P w K mg base CX0 1 f fd jaI (spXi CP "spot") := by
  have nd := jbb.nd
  refine F.ok jbb (fun vs H Q E h => ?_) (fun cdv A outer s H vs Q E hr h => ?_)
  · obtain ⟨_, _, rfl, _⟩ := h
    rfl
  · obtain ⟨a, v, rfl, ha, k⟩ := h
    exact ⟨_, pss_one (jcR (B := B) (newId := newId) (initId := initId) (bmB := bmB) (pv 0) (pv 1)), _, rfl, _, rfl, a, CP, rfl, O, no, ha, fun dx h1 h2 => k dx h1 h2⟩
abbrev jai : Stmt := inClass (top 13) 0
abbrev jbJ : List Str := ["self", "amount"]
abbrev jaE : List Str := ["self", "amount"]
theorem jaV : FnScope jbJ jaE (defScope jai) := ⟨rfl, rfl, rfl, by decide +kernel, rfl, by decide +kernel, by decide +kernel⟩
theorem jdr {f CP : Addr} {fd : FuncData} {B newId initId : String} {bmB : List Value} (F : Fun K "__init__" "NothingToUndo.__init__" jai f fd) (O : OexB K CP B newId initId bmB) (no : PySem.W.findIn K (.ref CP) "amount" = some none) : FnOk P w K mg base CX0 1 f fd jaE (spXi CP "amount") := by
  have nd := jaV.nd
  refine F.ok jaV (fun vs H Q E h => ?_) (fun cdv A outer s H vs Q E hr h => ?_)
  · obtain ⟨_, _, rfl, _⟩ := h
    rfl
  · obtain ⟨a, v, rfl, ha, k⟩ := h
    exact ⟨_, pss_one (jcR (B := B) (newId := newId) (initId := initId) (bmB := bmB) (pv 0) (pv 1)), _, rfl, _, rfl, a, CP, rfl, O, no, ha, fun dx h1 h2 => k dx h1 h2⟩
abbrev jat : Stmt := inClass (top 14) 0
abbrev jeu : List Str := ["self", "limit"]
abbrev jbi : List Str := ["self", "limit"]
theorem jbK : FnScope jeu jbi (defScope jat) := ⟨rfl, rfl, rfl, by decide +kernel, rfl, by decide +kernel, by decide +kernel⟩
theorem jfD {f CP : Addr} {fd : FuncData} {B newId initId : String} {bmB : List Value} (F : Fun K "__init__" "TooMany.__init__" jat f fd) (O : OexB K CP B newId initId bmB) (no : PySem.W.findIn K (.ref CP) "limit" = some none) : FnOk P w K mg base CX0 1 f fd jbi (spXi CP "limit") := by
  have nd := jbK.nd
  refine F.ok jbK (fun vs H Q E h => ?_) (fun cdv A outer s H vs Q E hr h => ?_)
  · obtain ⟨_, _, rfl, _⟩ := h
    rfl
  · obtain ⟨a, v, rfl, ha, k⟩ := h
    exact ⟨_, pss_one (jcR (B := B) (newId := newId) (initId := initId) (bmB := bmB) (pv 0) (pv 1)), _, rfl, _, rfl, a, CP, rfl, O, no, ha, fun dx h1 h2 => k dx h1 h2⟩
abbrev jau : Stmt := inClass (top 15) 0
abbrev jev : List Str := ["self", "cause"]
abbrev jbj : List Str := ["self", "cause"]
theorem jbL : FnScope jev jbj (defScope jau) := ⟨rfl, rfl, rfl, by decide +kernel, rfl, by decide +kernel, by decide +kernel⟩
theorem jfE {f CP : Addr} {fd : FuncData} {B newId initId : String} {bmB : List Value} (F : Fun K "__init__" "Refused.__init__" jau f fd) (O : OexB K CP B newId initId bmB) (no : PySem.W.findIn K (.ref CP) "cause" = some none) : FnOk P w K mg base CX0 1 f fd jbj (spXi CP "cause") := by
  have nd := jbL.nd
  refine F.ok jbL (fun vs H Q E h => ?_) (fun cdv A outer s H vs Q E hr h => ?_)
  · obtain ⟨_, _, rfl, _⟩ := h
    rfl
  · obtain ⟨a, v, rfl, ha, k⟩ := h
    exact ⟨_, pss_one (jcR (B := B) (newId := newId) (initId := initId) (bmB := bmB) (pv 0) (pv 1)), _, rfl, _, rfl, a, CP, rfl, O, no, ha, fun dx h1 h2 => k dx h1 h2⟩
abbrev jaj : Stmt := inClass (top 16) 0
abbrev jbM : List Str := ["self", "number"]
abbrev jaF : List Str := ["self", "number"]
theorem jaW : FnScope jbM jaF (defScope jaj) := ⟨rfl, rfl, rfl, by decide +kernel, rfl, by decide +kernel, by decide +kernel⟩
theorem jds {f CP : Addr} {fd : FuncData} {B newId initId : String} {bmB : List Value} (F : Fun K "__init__" "InvalidNumber.__init__" jaj f fd) (O : OexB K CP B newId initId bmB) (no : PySem.W.findIn K (.ref CP) "number" = some none) : FnOk P w K mg base CX0 1 f fd jaF (spXi CP "number") := by
  have nd := jaW.nd
  refine F.ok jaW (fun vs H Q E h => ?_) (fun cdv A outer s H vs Q E hr h => ?_)
  · obtain ⟨_, _, rfl, _⟩ := h
    rfl
  · obtain ⟨a, v, rfl, ha, k⟩ := h
    exact ⟨_, pss_one (jcR (B := B) (newId := newId) (initId := initId) (bmB := bmB) (pv 0) (pv 1)), _, rfl, _, rfl, a, CP, rfl, O, no, ha, fun dx h1 h2 => k dx h1 h2⟩
end
end K0
namespace Pu
open PySem PySem.Spec PyProof.Rows L2 Ly
theorem walk_ofGR {l : PySem.W.OpenLaw} {n k : Nat} {q : Program} {loose : List Str} {XP : (Str → Option Value) → Heap → Prop} {YP : World → Heap → Prop} {d : DefRec} {Y : PySem.W.Frag → Prop} {sp : PySem.W.Frag → Sp} {x : Str}
    (hn : l.most = some n) (hn2 : n ≤ sizeLine) (hdf : d.params.defaults = []) (hr : Room k callerA) (hY : ∀ (w : World) (h : Heap), YP w h → ∃ K : PySem.W.Frag, K.In h ∧ Y K)
    (F : ∀ (w : World) (mg : Str → Option Value) (fa : Addr) (h : Heap) (K : PySem.W.Frag), K.In h → Y K → h.Ns mainGlobals mg → mg d.name = some (.ref fa) →
      ∃ fd : FuncData, (∀ (s : Shared) (u : Value), BindsTo s fd ⟨[u], []⟩ [(x, u)]) ∧ ∀ base : Heap, K.In base → base.Ns mainGlobals mg → FnG l.prog w K mg base (L2.CX l.prog w) k fa fd [x] (sp K))
    (hsp : ∀ (K : PySem.W.Frag) (H : Hp) (a : Addr) (ns : List Int), ns.length ≤ n → Only H → SqL K H a (ns.map V.int) → sp K [.ref a] H (fun v _ => v = .bl true) fun _ _ _ => False) :
    PySem.W.WalkO q loose XP YP l.row.toRowW d [] (fun f vs => PySem.call f vs) := by
  refine Att.attach_call hn hdf fun w s0 s1 mg mb fa o pm cd doc a vs ns G Y ho hd hcd hmg hobj hints hlen hg => ?_
  obtain ⟨K, inK, y⟩ := hY w _ Y
  obtain ⟨fd, hb, hF⟩ := F w mg fa _ K inK y G.T.g hmg
  exact jgM inK G.T.g G.T.b G.T.builtins G.T.nolimit hg hobj hints (Nat.le_trans hlen hn2) hr hF hb (fun H hO hS => hsp K H a ns hlen hO hS)
end Pu
namespace K0
open PySem.W (findIn isFn codeIn keepIn fnIn nsIn specialIn fnOf Frag readsIn kitOne subIn)
open PySem PySem.Spec PyProof.Rows L2 Ly Pu K0Di
theorem all_mk {l : PySem.W.OpenLaw} {w : World} {K : Frag} {h : Heap} {mg : Str → Option Value} {fa E0 E1 E2 E3 E4 E5 E6 E7 E8 E9 E10 E11 E12 E13 E14 E15 jax jav jas jap jaC jaD jaq jhl jhm jhn jfR jfp jfS f_law : Addr} (X : K.In h) (G : h.Ns mainGlobals mg) (hfa : mg "law" = some (.ref fa))
    {jdt jdu : Option Addr} {jdv : Array (Option Value)} {jdw jdx jdy jdz jbn jdA : Value}
    {jcT jcU : Option Addr} {jcV : Array (Option Value)} {jcW jcX jcY jcZ jbk jda : Value}
    {jcm jcn : Option Addr} {jco : Array (Option Value)} {jcp jcq jcr jcs jbc jct : Value}
    {jbN jbO : Option Addr} {jbP : Array (Option Value)} {jbQ jbR jbS jbT jaX jbU : Value}
    {jew jex : Option Addr} {jey : Array (Option Value)} {jez jeA jeB jeC jbV jeD : Value}
    {jeE jeF : Option Addr} {jeG : Array (Option Value)} {jeH jeI jeJ jeK jbW jeL : Value}
    {jbX jbY : Option Addr} {jbZ : Array (Option Value)} {jca jcb jcc jcd jaY jce : Value}
    {jlB jlC : Option Addr} {jlD : Array (Option Value)} {jlE jlF jlG jlH jho jlI : Value}
    {jlJ jlK : Option Addr} {jlL : Array (Option Value)} {jlM jlN jlO jlP jhp jlQ : Value}
    {jlR jlS : Option Addr} {jlT : Array (Option Value)} {jlU jlV jlW jlX jhq jlY : Value}
    {jir jis : Option Addr} {jit : Array (Option Value)} {jiu jiv jiw jix jgm jiy : Value}
    {jhr jhs : Option Addr} {jht : Array (Option Value)} {jhu jhv jhw jhx jfF jhy : Value}
    {jiz jiA : Option Addr} {jiB : Array (Option Value)} {jiC jiD jiE jiF jgn jiG : Value}
    {od_law jkH : Option Addr} {sl_law : Array (Option Value)} {oc_law jkI jkJ jkK jhz jkL : Value}
    (a_E0 : nsIn K mainGlobals "InvalidWord" = some (some (.ref E0)))
    (a_E1 : nsIn K mainGlobals "InvalidTerm" = some (some (.ref E1)))
    (a_E2 : nsIn K mainGlobals "InvalidBook" = some (some (.ref E2)))
    (a_E3 : nsIn K mainGlobals "InvalidProgram" = some (some (.ref E3)))
    (a_E4 : nsIn K mainGlobals "InvalidTable" = some (some (.ref E4)))
    (a_E5 : nsIn K mainGlobals "InvalidLines" = some (some (.ref E5)))
    (a_E6 : nsIn K mainGlobals "InvalidRows" = some (some (.ref E6)))
    (a_E7 : nsIn K mainGlobals "InvalidOperation" = some (some (.ref E7)))
    (a_E8 : nsIn K mainGlobals "NeedError" = some (some (.ref E8)))
    (a_E9 : nsIn K mainGlobals "ParseError" = some (some (.ref E9)))
    (a_E10 : nsIn K mainGlobals "UnknownWord" = some (some (.ref E10)))
    (a_E11 : nsIn K mainGlobals "UnknownPlace" = some (some (.ref E11)))
    (a_E12 : nsIn K mainGlobals "NothingToUndo" = some (some (.ref E12)))
    (a_E13 : nsIn K mainGlobals "TooMany" = some (some (.ref E13)))
    (a_E14 : nsIn K mainGlobals "Refused" = some (some (.ref E14)))
    (a_E15 : nsIn K mainGlobals "InvalidNumber" = some (some (.ref E15)))
    (jdL : findIn K (.ref E9) "__init__" = some (some (.ref jax)))
    (jgv : isFn K (.ref jax) = true)
    (jdM : K.lookup jax = some ⟨jdw, jdt, .func (fnOf "__init__" "ParseError.__init__" (defArgs jan) (defBody jan) (defScope jan) .none jdx jdy jdz jdu jbn jdA), jdv⟩)
    (jdN : codeIn K jbn "ParseError.__init__" = true)
    (jdO : keepIn K (.ref jax) = true)
    (jgw : fnIn K jax = true)
    (jdB : findIn K (.ref E10) "__init__" = some (some (.ref jav)))
    (jgo : isFn K (.ref jav) = true)
    (jdC : K.lookup jav = some ⟨jcW, jcT, .func (fnOf "__init__" "UnknownWord.__init__" (defArgs jam) (defBody jam) (defScope jam) .none jcX jcY jcZ jcU jbk jda), jcV⟩)
    (jdD : codeIn K jbk "UnknownWord.__init__" = true)
    (jdE : keepIn K (.ref jav) = true)
    (jgp : fnIn K jav = true)
    (jdb : findIn K (.ref E11) "__init__" = some (some (.ref jas)))
    (jfT : isFn K (.ref jas) = true)
    (jdc : K.lookup jas = some ⟨jcp, jcm, .func (fnOf "__init__" "UnknownPlace.__init__" (defArgs jal) (defBody jal) (defScope jal) .none jcq jcr jcs jcn jbc jct), jco⟩)
    (jdd : codeIn K jbc "UnknownPlace.__init__" = true)
    (jde : keepIn K (.ref jas) = true)
    (jfU : fnIn K jas = true)
    (jcu : findIn K (.ref E12) "__init__" = some (some (.ref jap)))
    (jfH : isFn K (.ref jap) = true)
    (jcv : K.lookup jap = some ⟨jbQ, jbN, .func (fnOf "__init__" "NothingToUndo.__init__" (defArgs jai) (defBody jai) (defScope jai) .none jbR jbS jbT jbO jaX jbU), jbP⟩)
    (jcw : codeIn K jaX "NothingToUndo.__init__" = true)
    (jcx : keepIn K (.ref jap) = true)
    (jfI : fnIn K jap = true)
    (jeN : findIn K (.ref E13) "__init__" = some (some (.ref jaC)))
    (jhO : isFn K (.ref jaC) = true)
    (jeO : K.lookup jaC = some ⟨jez, jew, .func (fnOf "__init__" "TooMany.__init__" (defArgs jat) (defBody jat) (defScope jat) .none jeA jeB jeC jex jbV jeD), jey⟩)
    (jeP : codeIn K jbV "TooMany.__init__" = true)
    (jeQ : keepIn K (.ref jaC) = true)
    (jhP : fnIn K jaC = true)
    (jeR : findIn K (.ref E14) "__init__" = some (some (.ref jaD)))
    (jhQ : isFn K (.ref jaD) = true)
    (jeS : K.lookup jaD = some ⟨jeH, jeE, .func (fnOf "__init__" "Refused.__init__" (defArgs jau) (defBody jau) (defScope jau) .none jeI jeJ jeK jeF jbW jeL), jeG⟩)
    (jeT : codeIn K jbW "Refused.__init__" = true)
    (jeU : keepIn K (.ref jaD) = true)
    (jhR : fnIn K jaD = true)
    (jcy : findIn K (.ref E15) "__init__" = some (some (.ref jaq)))
    (jfJ : isFn K (.ref jaq) = true)
    (jcz : K.lookup jaq = some ⟨jca, jbX, .func (fnOf "__init__" "InvalidNumber.__init__" (defArgs jaj) (defBody jaj) (defScope jaj) .none jcb jcc jcd jbY jaY jce), jbZ⟩)
    (jcA : codeIn K jaY "InvalidNumber.__init__" = true)
    (jcB : keepIn K (.ref jaq) = true)
    (jfK : fnIn K jaq = true)
    (xk_E0 : keepIn K (.ref E0) = true)
    (er_E0 : Pu.erB K E0 = true)
    (kk_E0 : Pu.kitsB K E0 [.ref E0, .ref E1, .ref E2, .ref E3, .ref E4, .ref E5, .ref E6, .ref E7, .ref E9, .ref E8, .type "ValueError"] [Bool.true, Bool.false, Bool.false, Bool.false, Bool.false, Bool.false, Bool.false, Bool.false, Bool.false, Bool.true, Bool.true] = true)
    (ko_E0 : Pu.kitsB K E0 [.ref E10, .ref E11, .ref E12, .ref E13, .ref E14, .ref E15, .type "KeyError", .type "IndexError", .type "LookupError", .type "OverflowError", .type "ArithmeticError", .type "RuntimeError"] [Bool.false, Bool.false, Bool.false, Bool.false, Bool.false, Bool.false, Bool.false, Bool.false, Bool.false, Bool.false, Bool.false, Bool.false] = true)
    (st_E0 : findIn K (.ref E0) "__str__" = some (some (.builtin "BaseException.__str__")))
    (yi_E0 : PySem.W.excIn K E0 Pu.valTail "ValueError.__new__" = true)
    (xk_E1 : keepIn K (.ref E1) = true)
    (er_E1 : Pu.erB K E1 = true)
    (kk_E1 : Pu.kitsB K E1 [.ref E0, .ref E1, .ref E2, .ref E3, .ref E4, .ref E5, .ref E6, .ref E7, .ref E9, .ref E8, .type "ValueError"] [Bool.false, Bool.true, Bool.false, Bool.false, Bool.false, Bool.false, Bool.false, Bool.false, Bool.false, Bool.true, Bool.true] = true)
    (ko_E1 : Pu.kitsB K E1 [.ref E10, .ref E11, .ref E12, .ref E13, .ref E14, .ref E15, .type "KeyError", .type "IndexError", .type "LookupError", .type "OverflowError", .type "ArithmeticError", .type "RuntimeError"] [Bool.false, Bool.false, Bool.false, Bool.false, Bool.false, Bool.false, Bool.false, Bool.false, Bool.false, Bool.false, Bool.false, Bool.false] = true)
    (st_E1 : findIn K (.ref E1) "__str__" = some (some (.builtin "BaseException.__str__")))
    (yi_E1 : PySem.W.excIn K E1 Pu.valTail "ValueError.__new__" = true)
    (xk_E2 : keepIn K (.ref E2) = true)
    (er_E2 : Pu.erB K E2 = true)
    (kk_E2 : Pu.kitsB K E2 [.ref E0, .ref E1, .ref E2, .ref E3, .ref E4, .ref E5, .ref E6, .ref E7, .ref E9, .ref E8, .type "ValueError"] [Bool.false, Bool.false, Bool.true, Bool.false, Bool.false, Bool.false, Bool.false, Bool.false, Bool.false, Bool.true, Bool.true] = true)
    (ko_E2 : Pu.kitsB K E2 [.ref E10, .ref E11, .ref E12, .ref E13, .ref E14, .ref E15, .type "KeyError", .type "IndexError", .type "LookupError", .type "OverflowError", .type "ArithmeticError", .type "RuntimeError"] [Bool.false, Bool.false, Bool.false, Bool.false, Bool.false, Bool.false, Bool.false, Bool.false, Bool.false, Bool.false, Bool.false, Bool.false] = true)
    (st_E2 : findIn K (.ref E2) "__str__" = some (some (.builtin "BaseException.__str__")))
    (yi_E2 : PySem.W.excIn K E2 Pu.valTail "ValueError.__new__" = true)
    (xk_E3 : keepIn K (.ref E3) = true)
    (er_E3 : Pu.erB K E3 = true)
    (kk_E3 : Pu.kitsB K E3 [.ref E0, .ref E1, .ref E2, .ref E3, .ref E4, .ref E5, .ref E6, .ref E7, .ref E9, .ref E8, .type "ValueError"] [Bool.false, Bool.false, Bool.false, Bool.true, Bool.false, Bool.false, Bool.false, Bool.false, Bool.false, Bool.true, Bool.true] = true)
    (ko_E3 : Pu.kitsB K E3 [.ref E10, .ref E11, .ref E12, .ref E13, .ref E14, .ref E15, .type "KeyError", .type "IndexError", .type "LookupError", .type "OverflowError", .type "ArithmeticError", .type "RuntimeError"] [Bool.false, Bool.false, Bool.false, Bool.false, Bool.false, Bool.false, Bool.false, Bool.false, Bool.false, Bool.false, Bool.false, Bool.false] = true)
    (st_E3 : findIn K (.ref E3) "__str__" = some (some (.builtin "BaseException.__str__")))
    (yi_E3 : PySem.W.excIn K E3 Pu.valTail "ValueError.__new__" = true)
    (xk_E4 : keepIn K (.ref E4) = true)
    (er_E4 : Pu.erB K E4 = true)
    (kk_E4 : Pu.kitsB K E4 [.ref E0, .ref E1, .ref E2, .ref E3, .ref E4, .ref E5, .ref E6, .ref E7, .ref E9, .ref E8, .type "ValueError"] [Bool.false, Bool.false, Bool.false, Bool.false, Bool.true, Bool.false, Bool.false, Bool.false, Bool.false, Bool.true, Bool.true] = true)
    (ko_E4 : Pu.kitsB K E4 [.ref E10, .ref E11, .ref E12, .ref E13, .ref E14, .ref E15, .type "KeyError", .type "IndexError", .type "LookupError", .type "OverflowError", .type "ArithmeticError", .type "RuntimeError"] [Bool.false, Bool.false, Bool.false, Bool.false, Bool.false, Bool.false, Bool.false, Bool.false, Bool.false, Bool.false, Bool.false, Bool.false] = true)
    (st_E4 : findIn K (.ref E4) "__str__" = some (some (.builtin "BaseException.__str__")))
    (yi_E4 : PySem.W.excIn K E4 Pu.valTail "ValueError.__new__" = true)
    (xk_E5 : keepIn K (.ref E5) = true)
    (er_E5 : Pu.erB K E5 = true)
    (kk_E5 : Pu.kitsB K E5 [.ref E0, .ref E1, .ref E2, .ref E3, .ref E4, .ref E5, .ref E6, .ref E7, .ref E9, .ref E8, .type "ValueError"] [Bool.false, Bool.false, Bool.false, Bool.false, Bool.false, Bool.true, Bool.false, Bool.false, Bool.false, Bool.true, Bool.true] = true)
    (ko_E5 : Pu.kitsB K E5 [.ref E10, .ref E11, .ref E12, .ref E13, .ref E14, .ref E15, .type "KeyError", .type "IndexError", .type "LookupError", .type "OverflowError", .type "ArithmeticError", .type "RuntimeError"] [Bool.false, Bool.false, Bool.false, Bool.false, Bool.false, Bool.false, Bool.false, Bool.false, Bool.false, Bool.false, Bool.false, Bool.false] = true)
    (st_E5 : findIn K (.ref E5) "__str__" = some (some (.builtin "BaseException.__str__")))
    (yi_E5 : PySem.W.excIn K E5 Pu.valTail "ValueError.__new__" = true)
    (xk_E6 : keepIn K (.ref E6) = true)
    (er_E6 : Pu.erB K E6 = true)
    (kk_E6 : Pu.kitsB K E6 [.ref E0, .ref E1, .ref E2, .ref E3, .ref E4, .ref E5, .ref E6, .ref E7, .ref E9, .ref E8, .type "ValueError"] [Bool.false, Bool.false, Bool.false, Bool.false, Bool.false, Bool.false, Bool.true, Bool.false, Bool.false, Bool.true, Bool.true] = true)
    (ko_E6 : Pu.kitsB K E6 [.ref E10, .ref E11, .ref E12, .ref E13, .ref E14, .ref E15, .type "KeyError", .type "IndexError", .type "LookupError", .type "OverflowError", .type "ArithmeticError", .type "RuntimeError"] [Bool.false, Bool.false, Bool.false, Bool.false, Bool.false, Bool.false, Bool.false, Bool.false, Bool.false, Bool.false, Bool.false, Bool.false] = true)
    (st_E6 : findIn K (.ref E6) "__str__" = some (some (.builtin "BaseException.__str__")))
    (yi_E6 : PySem.W.excIn K E6 Pu.valTail "ValueError.__new__" = true)
    (xk_E7 : keepIn K (.ref E7) = true)
    (er_E7 : Pu.erB K E7 = true)
    (kk_E7 : Pu.kitsB K E7 [.ref E0, .ref E1, .ref E2, .ref E3, .ref E4, .ref E5, .ref E6, .ref E7, .ref E9, .ref E8, .type "ValueError"] [Bool.false, Bool.false, Bool.false, Bool.false, Bool.false, Bool.false, Bool.false, Bool.true, Bool.false, Bool.true, Bool.true] = true)
    (ko_E7 : Pu.kitsB K E7 [.ref E10, .ref E11, .ref E12, .ref E13, .ref E14, .ref E15, .type "KeyError", .type "IndexError", .type "LookupError", .type "OverflowError", .type "ArithmeticError", .type "RuntimeError"] [Bool.false, Bool.false, Bool.false, Bool.false, Bool.false, Bool.false, Bool.false, Bool.false, Bool.false, Bool.false, Bool.false, Bool.false] = true)
    (st_E7 : findIn K (.ref E7) "__str__" = some (some (.builtin "BaseException.__str__")))
    (yi_E7 : PySem.W.excIn K E7 Pu.valTail "ValueError.__new__" = true)
    (xk_E8 : keepIn K (.ref E8) = true)
    (er_E8 : Pu.erB K E8 = true)
    (kk_E8 : Pu.kitsB K E8 [.ref E0, .ref E1, .ref E2, .ref E3, .ref E4, .ref E5, .ref E6, .ref E7, .ref E9, .ref E8, .type "ValueError"] [Bool.false, Bool.false, Bool.false, Bool.false, Bool.false, Bool.false, Bool.false, Bool.false, Bool.false, Bool.true, Bool.true] = true)
    (ko_E8 : Pu.kitsB K E8 [.ref E10, .ref E11, .ref E12, .ref E13, .ref E14, .ref E15, .type "KeyError", .type "IndexError", .type "LookupError", .type "OverflowError", .type "ArithmeticError", .type "RuntimeError"] [Bool.false, Bool.false, Bool.false, Bool.false, Bool.false, Bool.false, Bool.false, Bool.false, Bool.false, Bool.false, Bool.false, Bool.false] = true)
    (st_E8 : findIn K (.ref E8) "__str__" = some (some (.builtin "BaseException.__str__")))
    (yi_E8 : PySem.W.excIn K E8 Pu.valTail "ValueError.__new__" = true)
    (xk_E9 : keepIn K (.ref E9) = true)
    (er_E9 : Pu.erB K E9 = true)
    (kk_E9 : Pu.kitsB K E9 [.ref E0, .ref E1, .ref E2, .ref E3, .ref E4, .ref E5, .ref E6, .ref E7, .ref E9, .ref E8, .type "ValueError"] [Bool.false, Bool.false, Bool.false, Bool.false, Bool.false, Bool.false, Bool.false, Bool.false, Bool.true, Bool.true, Bool.true] = true)
    (ko_E9 : Pu.kitsB K E9 [.ref E10, .ref E11, .ref E12, .ref E13, .ref E14, .ref E15, .type "KeyError", .type "IndexError", .type "LookupError", .type "OverflowError", .type "ArithmeticError", .type "RuntimeError"] [Bool.false, Bool.false, Bool.false, Bool.false, Bool.false, Bool.false, Bool.false, Bool.false, Bool.false, Bool.false, Bool.false, Bool.false] = true)
    (xb_E9 : subIn K (.ref E9) (.type "BaseException") = some true)
    (xt_E9 : PySem.W.typeIn K (.ref E9) = some (.type "type"))
    (ex_E9 : Pu.excBT "ValueError.__new__" Pu.valTail K E9 = true)
    (sa_E9 : findIn K (.ref E9) "__setattr__" = some (some (.builtin "object.__setattr__")))
    (no_E9 : findIn K (.ref E9) "line" = some none)
    (ti_E9 : PySem.W.typeIn K (.ref jax) = some (.type "function"))
    (xk_E10 : keepIn K (.ref E10) = true)
    (er_E10 : Pu.erB K E10 = true)
    (kk_E10 : Pu.kitsB K E10 [.ref E0, .ref E1, .ref E2, .ref E3, .ref E4, .ref E5, .ref E6, .ref E7, .ref E9, .ref E8, .type "ValueError"] [Bool.false, Bool.false, Bool.false, Bool.false, Bool.false, Bool.false, Bool.false, Bool.false, Bool.false, Bool.false, Bool.false] = true)
    (ko_E10 : Pu.kitsB K E10 [.ref E10, .ref E11, .ref E12, .ref E13, .ref E14, .ref E15, .type "KeyError", .type "IndexError", .type "LookupError", .type "OverflowError", .type "ArithmeticError", .type "RuntimeError"] [Bool.true, Bool.false, Bool.false, Bool.false, Bool.false, Bool.false, Bool.true, Bool.false, Bool.true, Bool.false, Bool.false, Bool.false] = true)
    (xb_E10 : subIn K (.ref E10) (.type "BaseException") = some true)
    (xt_E10 : PySem.W.typeIn K (.ref E10) = some (.type "type"))
    (ex_E10 : Pu.excBT "LookupError.__new__" Pu.keyTail K E10 = true)
    (sa_E10 : findIn K (.ref E10) "__setattr__" = some (some (.builtin "object.__setattr__")))
    (no_E10 : findIn K (.ref E10) "asked" = some none)
    (ti_E10 : PySem.W.typeIn K (.ref jav) = some (.type "function"))
    (xk_E11 : keepIn K (.ref E11) = true)
    (er_E11 : Pu.erB K E11 = true)
    (kk_E11 : Pu.kitsB K E11 [.ref E0, .ref E1, .ref E2, .ref E3, .ref E4, .ref E5, .ref E6, .ref E7, .ref E9, .ref E8, .type "ValueError"] [Bool.false, Bool.false, Bool.false, Bool.false, Bool.false, Bool.false, Bool.false, Bool.false, Bool.false, Bool.false, Bool.false] = true)
    (ko_E11 : Pu.kitsB K E11 [.ref E10, .ref E11, .ref E12, .ref E13, .ref E14, .ref E15, .type "KeyError", .type "IndexError", .type "LookupError", .type "OverflowError", .type "ArithmeticError", .type "RuntimeError"] [Bool.false, Bool.true, Bool.false, Bool.false, Bool.false, Bool.false, Bool.false, Bool.false, Bool.true, Bool.false, Bool.false, Bool.false] = true)
    (xb_E11 : subIn K (.ref E11) (.type "BaseException") = some true)
    (xt_E11 : PySem.W.typeIn K (.ref E11) = some (.type "type"))
    (ex_E11 : Pu.excBT "LookupError.__new__" Pu.lkTail K E11 = true)
    (sa_E11 : findIn K (.ref E11) "__setattr__" = some (some (.builtin "object.__setattr__")))
    (no_E11 : findIn K (.ref E11) "spot" = some none)
    (ti_E11 : PySem.W.typeIn K (.ref jas) = some (.type "function"))
    (xk_E12 : keepIn K (.ref E12) = true)
    (er_E12 : Pu.erB K E12 = true)
    (kk_E12 : Pu.kitsB K E12 [.ref E0, .ref E1, .ref E2, .ref E3, .ref E4, .ref E5, .ref E6, .ref E7, .ref E9, .ref E8, .type "ValueError"] [Bool.false, Bool.false, Bool.false, Bool.false, Bool.false, Bool.false, Bool.false, Bool.false, Bool.false, Bool.false, Bool.false] = true)
    (ko_E12 : Pu.kitsB K E12 [.ref E10, .ref E11, .ref E12, .ref E13, .ref E14, .ref E15, .type "KeyError", .type "IndexError", .type "LookupError", .type "OverflowError", .type "ArithmeticError", .type "RuntimeError"] [Bool.false, Bool.false, Bool.true, Bool.false, Bool.false, Bool.false, Bool.false, Bool.true, Bool.true, Bool.false, Bool.false, Bool.false] = true)
    (xb_E12 : subIn K (.ref E12) (.type "BaseException") = some true)
    (xt_E12 : PySem.W.typeIn K (.ref E12) = some (.type "type"))
    (ex_E12 : Pu.excBT "IndexError.__new__" Pu.ixTail K E12 = true)
    (sa_E12 : findIn K (.ref E12) "__setattr__" = some (some (.builtin "object.__setattr__")))
    (no_E12 : findIn K (.ref E12) "amount" = some none)
    (ti_E12 : PySem.W.typeIn K (.ref jap) = some (.type "function"))
    (xk_E13 : keepIn K (.ref E13) = true)
    (er_E13 : Pu.erB K E13 = true)
    (kk_E13 : Pu.kitsB K E13 [.ref E0, .ref E1, .ref E2, .ref E3, .ref E4, .ref E5, .ref E6, .ref E7, .ref E9, .ref E8, .type "ValueError"] [Bool.false, Bool.false, Bool.false, Bool.false, Bool.false, Bool.false, Bool.false, Bool.false, Bool.false, Bool.false, Bool.false] = true)
    (ko_E13 : Pu.kitsB K E13 [.ref E10, .ref E11, .ref E12, .ref E13, .ref E14, .ref E15, .type "KeyError", .type "IndexError", .type "LookupError", .type "OverflowError", .type "ArithmeticError", .type "RuntimeError"] [Bool.false, Bool.false, Bool.false, Bool.true, Bool.false, Bool.false, Bool.false, Bool.false, Bool.false, Bool.true, Bool.true, Bool.false] = true)
    (xb_E13 : subIn K (.ref E13) (.type "BaseException") = some true)
    (xt_E13 : PySem.W.typeIn K (.ref E13) = some (.type "type"))
    (ex_E13 : Pu.excBT "OverflowError.__new__" Pu.ofTail K E13 = true)
    (sa_E13 : findIn K (.ref E13) "__setattr__" = some (some (.builtin "object.__setattr__")))
    (no_E13 : findIn K (.ref E13) "limit" = some none)
    (ti_E13 : PySem.W.typeIn K (.ref jaC) = some (.type "function"))
    (xk_E14 : keepIn K (.ref E14) = true)
    (er_E14 : Pu.erB K E14 = true)
    (kk_E14 : Pu.kitsB K E14 [.ref E0, .ref E1, .ref E2, .ref E3, .ref E4, .ref E5, .ref E6, .ref E7, .ref E9, .ref E8, .type "ValueError"] [Bool.false, Bool.false, Bool.false, Bool.false, Bool.false, Bool.false, Bool.false, Bool.false, Bool.false, Bool.false, Bool.false] = true)
    (ko_E14 : Pu.kitsB K E14 [.ref E10, .ref E11, .ref E12, .ref E13, .ref E14, .ref E15, .type "KeyError", .type "IndexError", .type "LookupError", .type "OverflowError", .type "ArithmeticError", .type "RuntimeError"] [Bool.false, Bool.false, Bool.false, Bool.false, Bool.true, Bool.false, Bool.false, Bool.false, Bool.false, Bool.false, Bool.true, Bool.false] = true)
    (xb_E14 : subIn K (.ref E14) (.type "BaseException") = some true)
    (xt_E14 : PySem.W.typeIn K (.ref E14) = some (.type "type"))
    (ex_E14 : Pu.excBT "ArithmeticError.__new__" Pu.arTail K E14 = true)
    (sa_E14 : findIn K (.ref E14) "__setattr__" = some (some (.builtin "object.__setattr__")))
    (no_E14 : findIn K (.ref E14) "cause" = some none)
    (ti_E14 : PySem.W.typeIn K (.ref jaD) = some (.type "function"))
    (xk_E15 : keepIn K (.ref E15) = true)
    (er_E15 : Pu.erB K E15 = true)
    (kk_E15 : Pu.kitsB K E15 [.ref E0, .ref E1, .ref E2, .ref E3, .ref E4, .ref E5, .ref E6, .ref E7, .ref E9, .ref E8, .type "ValueError"] [Bool.false, Bool.false, Bool.false, Bool.false, Bool.false, Bool.false, Bool.false, Bool.false, Bool.false, Bool.false, Bool.false] = true)
    (ko_E15 : Pu.kitsB K E15 [.ref E10, .ref E11, .ref E12, .ref E13, .ref E14, .ref E15, .type "KeyError", .type "IndexError", .type "LookupError", .type "OverflowError", .type "ArithmeticError", .type "RuntimeError"] [Bool.false, Bool.false, Bool.false, Bool.false, Bool.false, Bool.true, Bool.false, Bool.false, Bool.false, Bool.false, Bool.false, Bool.true] = true)
    (xb_E15 : subIn K (.ref E15) (.type "BaseException") = some true)
    (xt_E15 : PySem.W.typeIn K (.ref E15) = some (.type "type"))
    (ex_E15 : Pu.excBT "RuntimeError.__new__" Pu.rtTail K E15 = true)
    (sa_E15 : findIn K (.ref E15) "__setattr__" = some (some (.builtin "object.__setattr__")))
    (no_E15 : findIn K (.ref E15) "number" = some none)
    (ti_E15 : PySem.W.typeIn K (.ref jaq) = some (.type "function"))
    (a_dice : nsIn K mainGlobals "_law_dice" = some (some (.ref jhl)))
    (l_dice : K.lookup jhl = some ⟨jlE, jlB, .func (fnOf "_law_dice" "_law_dice" (defArgs jcM) (defBody jcM) (defScope jcM) .none jlF jlG jlH jlC jho jlI), jlD⟩)
    (c_dice : codeIn K jho "_law_dice" = true)
    (jkM : keepIn K (.ref jhl) = true)
    (a_roll : nsIn K mainGlobals "_law_roll" = some (some (.ref jhm)))
    (l_roll : K.lookup jhm = some ⟨jlM, jlJ, .func (fnOf "_law_roll" "_law_roll" (defArgs jcN) (defBody jcN) (defScope jcN) .none jlN jlO jlP jlK jhp jlQ), jlL⟩)
    (c_roll : codeIn K jhp "_law_roll" = true)
    (jkN : keepIn K (.ref jhm) = true)
    (a_pick : nsIn K mainGlobals "_law_pick" = some (some (.ref jhn)))
    (l_pick : K.lookup jhn = some ⟨jlU, jlR, .func (fnOf "_law_pick" "_law_pick" (defArgs jdp) (defBody jdp) (defScope jdp) .none jlV jlW jlX jlS jhq jlY), jlT⟩)
    (c_pick : codeIn K jhq "_law_pick" = true)
    (jkO : keepIn K (.ref jhn) = true)
    (jlZ : nsIn K mainGlobals "_law_kinds" = some (some (.ref jfR)))
    (jma : K.lookup jfR = some ⟨jiu, jir, .func (fnOf "_law_kinds" "_law_kinds" (defArgs jbr) (defBody jbr) (defScope jbr) .none jiv jiw jix jis jgm jiy), jit⟩)
    (jmb : codeIn K jgm "_law_kinds" = true)
    (jhA : keepIn K (.ref jfR) = true)
    (jiH : nsIn K mainGlobals "_law_others" = some (some (.ref jfp)))
    (jiI : K.lookup jfp = some ⟨jhu, jhr, .func (fnOf "_law_others" "_law_others" (defArgs jaU) (defBody jaU) (defScope jaU) .none jhv jhw jhx jhs jfF jhy), jht⟩)
    (jiJ : codeIn K jfF "_law_others" = true)
    (jgq : keepIn K (.ref jfp) = true)
    (jmc : nsIn K mainGlobals "_law_right" = some (some (.ref jfS)))
    (jmd : K.lookup jfS = some ⟨jiC, jiz, .func (fnOf "_law_right" "_law_right" (defArgs jaM) (defBody jaM) (defScope jaM) .none jiD jiE jiF jiA jgn jiG), jiB⟩)
    (jme : codeIn K jgn "_law_right" = true)
    (jhB : keepIn K (.ref jfS) = true)
    (a_law : nsIn K mainGlobals "law" = some (some (.ref f_law)))
    (l_law : K.lookup f_law = some ⟨oc_law, od_law, .func (fnOf "law" "law" (defArgs s_law) (defBody s_law) (defScope s_law) .none jkI jkJ jkK jkH jhz jkL), sl_law⟩)
    (c_law : codeIn K jhz "law" = true)
    (k_law : keepIn K (.ref f_law) = true)
    (z_int : nsIn K mainGlobals "int" = some none)
    (z_bool : nsIn K mainGlobals "bool" = some none)
    (z_str : nsIn K mainGlobals "str" = some none)
    (z_list : nsIn K mainGlobals "list" = some none)
    (z_tuple : nsIn K mainGlobals "tuple" = some none)
    (z_dict : nsIn K mainGlobals "dict" = some none)
    (z_abs : nsIn K mainGlobals "abs" = some none)
    (z_max : nsIn K mainGlobals "max" = some none)
    (z_min : nsIn K mainGlobals "min" = some none)
    (z_range : nsIn K mainGlobals "range" = some none)
    (z_repr : nsIn K mainGlobals "repr" = some none)
    (z_isinstance : nsIn K mainGlobals "isinstance" = some none)
    (z_len : nsIn K mainGlobals "len" = some none)
    (z_ValueError : nsIn K mainGlobals "ValueError" = some none)
    (z_KeyError : nsIn K mainGlobals "KeyError" = some none)
    (z_IndexError : nsIn K mainGlobals "IndexError" = some none)
    (z_LookupError : nsIn K mainGlobals "LookupError" = some none)
    (z_OverflowError : nsIn K mainGlobals "OverflowError" = some none)
    (z_ArithmeticError : nsIn K mainGlobals "ArithmeticError" = some none)
    (z_RuntimeError : nsIn K mainGlobals "RuntimeError" = some none) :
    ∃ fd : FuncData, (∀ (s : Shared) (v : Value), BindsTo s fd ⟨[v], []⟩ [("_law_script", v)]) ∧ ∀ base : Heap, K.In base → base.Ns mainGlobals mg → FnG l.prog w K mg base (L2.CX l.prog w) 4 fa fd ["_law_script"] (spLaw K) := by
  have e := hfa.symm.trans (PySem.W.mg_of X G a_law)
  cases e
  have T : Txt K mg := ⟨PySem.W.mg_none_of X G z_int, PySem.W.mg_none_of X G z_bool, PySem.W.mg_none_of X G z_str, PySem.W.mg_none_of X G z_list, PySem.W.mg_none_of X G z_tuple, PySem.W.mg_none_of X G z_dict, PySem.W.mg_none_of X G z_abs, PySem.W.mg_none_of X G z_max, PySem.W.mg_none_of X G z_min, PySem.W.mg_none_of X G z_range, PySem.W.mg_none_of X G z_repr, PySem.W.mg_none_of X G z_isinstance, PySem.W.mg_none_of X G z_len, PySem.W.mg_none_of X G z_ValueError, PySem.W.mg_none_of X G z_KeyError, PySem.W.mg_none_of X G z_IndexError, PySem.W.mg_none_of X G z_LookupError, PySem.W.mg_none_of X G z_OverflowError, PySem.W.mg_none_of X G z_ArithmeticError, PySem.W.mg_none_of X G z_RuntimeError⟩
  have jkP := fun_mk (st := jcM) l_dice c_dice jkM
  have m_dice := PySem.W.mg_of X G a_dice
  have b_dice := jkP.binds (ps := jhh) fun _ _ _ _ _ _ us hl => match us, hl with | [_, _], _ => rfl
  have jkQ := fun_mk (st := jcN) l_roll c_roll jkN
  have m_roll := PySem.W.mg_of X G a_roll
  have b_roll := jkQ.binds (ps := jfQ) fun _ _ _ _ _ _ us hl => match us, hl with | [_, _], _ => rfl
  have jkR := fun_mk (st := jdp) l_pick c_pick jkO
  have m_pick := PySem.W.mg_of X G a_pick
  have b_pick := jkR.binds (ps := jhk) fun _ _ _ _ _ _ us hl => match us, hl with | [_, _], _ => rfl
  have jhC := fun_mk (st := jbr) jma jmb jhA
  have jmf := PySem.W.mg_of X G jlZ
  have jmg := jhC.binds (ps := jfm) fun _ _ _ _ _ _ us hl => match us, hl with | [_], _ => rfl
  have jgr := fun_mk (st := jaU) jiI jiJ jgq
  have jiK := PySem.W.mg_of X G jiH
  have jiL := jgr.binds (ps := jeq) fun _ _ _ _ _ _ us hl => match us, hl with | [_], _ => rfl
  have jhD := fun_mk (st := jaM) jmd jme jhB
  have jmh := PySem.W.mg_of X G jmc
  have jmi := jhD.binds (ps := jfn) fun _ _ _ _ _ _ us hl => match us, hl with | [_], _ => rfl
  have F_law := fun_mk (st := s_law) l_law c_law k_law
  have m_law := PySem.W.mg_of X G a_law
  have b_law := F_law.binds (ps := jhe) fun _ _ _ _ _ _ us hl => match us, hl with | [_], _ => rfl
  have jbt := fun_mk (st := jan) jdM jdN jdO
  have jdP := jbt.binds (ps := jaP) fun _ _ _ _ _ _ us hl => match us, hl with | [_, _], _ => rfl
  have jbo := fun_mk (st := jam) jdC jdD jdE
  have jdF := jbo.binds (ps := jaN) fun _ _ _ _ _ _ us hl => match us, hl with | [_, _], _ => rfl
  have jbl := fun_mk (st := jal) jdc jdd jde
  have jdf := jbl.binds (ps := jaI) fun _ _ _ _ _ _ us hl => match us, hl with | [_, _], _ => rfl
  have jbd := fun_mk (st := jai) jcv jcw jcx
  have jcC := jbd.binds (ps := jaE) fun _ _ _ _ _ _ us hl => match us, hl with | [_, _], _ => rfl
  have jcO := fun_mk (st := jat) jeO jeP jeQ
  have jeV := jcO.binds (ps := jbi) fun _ _ _ _ _ _ us hl => match us, hl with | [_, _], _ => rfl
  have jcP := fun_mk (st := jau) jeS jeT jeU
  have jeW := jcP.binds (ps := jbj) fun _ _ _ _ _ _ us hl => match us, hl with | [_, _], _ => rfl
  have jbe := fun_mk (st := jaj) jcz jcA jcB
  have jcD := jbe.binds (ps := jaF) fun _ _ _ _ _ _ us hl => match us, hl with | [_, _], _ => rfl
  have m_E0 := PySem.W.mg_of X G a_E0
  have m_E1 := PySem.W.mg_of X G a_E1
  have m_E2 := PySem.W.mg_of X G a_E2
  have m_E3 := PySem.W.mg_of X G a_E3
  have m_E4 := PySem.W.mg_of X G a_E4
  have m_E5 := PySem.W.mg_of X G a_E5
  have m_E6 := PySem.W.mg_of X G a_E6
  have m_E7 := PySem.W.mg_of X G a_E7
  have m_E8 := PySem.W.mg_of X G a_E8
  have m_E9 := PySem.W.mg_of X G a_E9
  have m_E10 := PySem.W.mg_of X G a_E10
  have m_E11 := PySem.W.mg_of X G a_E11
  have m_E12 := PySem.W.mg_of X G a_E12
  have m_E13 := PySem.W.mg_of X G a_E13
  have m_E14 := PySem.W.mg_of X G a_E14
  have m_E15 := PySem.W.mg_of X G a_E15
  refine ⟨fnOf "law" "law" (defArgs s_law) (defBody s_law) (defScope s_law) .none jkI jkJ jkK jkH jhz jkL, fun s v => .of_eq rfl, fun base _ _ => ?_⟩
  obtain ⟨A, e0, e1, e2, e3, e4, e5, e6, e7, e8, e9, e10, e11, e12, e13, e14, e15⟩ : ∃ A : Adr, A.cInvalidWord = E0 ∧ A.cInvalidTerm = E1 ∧ A.cInvalidBook = E2 ∧ A.cInvalidProgram = E3 ∧ A.cInvalidTable = E4 ∧ A.cInvalidLines = E5 ∧ A.cInvalidRows = E6 ∧ A.cInvalidOperation = E7 ∧ A.cNeedError = E8 ∧ A.cParseError = E9 ∧ A.cUnknownWord = E10 ∧ A.cUnknownPlace = E11 ∧ A.cNothingToUndo = E12 ∧ A.cTooMany = E13 ∧ A.cRefused = E14 ∧ A.cInvalidNumber = E15 := ⟨⟨E0, E1, E2, E3, E4, E5, E6, E7, E8, E9, E10, E11, E12, E13, E14, E15⟩, rfl, rfl, rfl, rfl, rfl, rfl, rfl, rfl, rfl, rfl, rfl, rfl, rfl, rfl, rfl, rfl⟩
  subst e0 e1 e2 e3 e4 e5 e6 e7 e8 e9 e10 e11 e12 e13 e14 e15
  have EC : EK K A := ⟨by
    unfold csA
    simp only [List.forall_mem_cons]
    exact ⟨jao er_E0, jao er_E1, jao er_E2, jao er_E3, jao er_E4, jao er_E5, jao er_E6, jao er_E7, jao er_E8, jao er_E9, jao er_E10, jao er_E11, jao er_E12, jao er_E13, jao er_E14, jao er_E15, fun _ h => nomatch h⟩, by
    unfold csA
    simp only [List.take, List.forall_mem_cons]
    exact ⟨⟨jao er_E0, st_E0⟩, ⟨jao er_E1, st_E1⟩, ⟨jao er_E2, st_E2⟩, ⟨jao er_E3, st_E3⟩, ⟨jao er_E4, st_E4⟩, ⟨jao er_E5, st_E5⟩, ⟨jao er_E6, st_E6⟩, ⟨jao er_E7, st_E7⟩, ⟨jao er_E8, st_E8⟩, fun _ h => nomatch h⟩, by
    unfold csA dueK
    simp only [List.zip_cons_cons, List.zip_nil_right, List.forall_mem_cons]
    exact ⟨jak kk_E0, jak kk_E1, jak kk_E2, jak kk_E3, jak kk_E4, jak kk_E5, jak kk_E6, jak kk_E7, jak kk_E8, jak kk_E9, jak kk_E10, jak kk_E11, jak kk_E12, jak kk_E13, jak kk_E14, jak kk_E15, fun _ h => nomatch h⟩, by
    unfold csA dueO
    simp only [List.zip_cons_cons, List.zip_nil_right, List.forall_mem_cons]
    exact ⟨jak ko_E0, jak ko_E1, jak ko_E2, jak ko_E3, jak ko_E4, jak ko_E5, jak ko_E6, jak ko_E7, jak ko_E8, jak ko_E9, jak ko_E10, jak ko_E11, jak ko_E12, jak ko_E13, jak ko_E14, jak ko_E15, fun _ h => nomatch h⟩⟩
  have ER_InvalidWord := jao er_E0
  have Y_InvalidWord : ErM K A.cInvalidWord := ⟨⟨_, _, _, _, PySem.F.excBase_ValueError, yi_E0⟩, xk_E0⟩
  have ER_InvalidTerm := jao er_E1
  have Y_InvalidTerm : ErM K A.cInvalidTerm := ⟨⟨_, _, _, _, PySem.F.excBase_ValueError, yi_E1⟩, xk_E1⟩
  have ER_InvalidBook := jao er_E2
  have Y_InvalidBook : ErM K A.cInvalidBook := ⟨⟨_, _, _, _, PySem.F.excBase_ValueError, yi_E2⟩, xk_E2⟩
  have ER_InvalidProgram := jao er_E3
  have Y_InvalidProgram : ErM K A.cInvalidProgram := ⟨⟨_, _, _, _, PySem.F.excBase_ValueError, yi_E3⟩, xk_E3⟩
  have ER_InvalidTable := jao er_E4
  have Y_InvalidTable : ErM K A.cInvalidTable := ⟨⟨_, _, _, _, PySem.F.excBase_ValueError, yi_E4⟩, xk_E4⟩
  have ER_InvalidLines := jao er_E5
  have Y_InvalidLines : ErM K A.cInvalidLines := ⟨⟨_, _, _, _, PySem.F.excBase_ValueError, yi_E5⟩, xk_E5⟩
  have ER_InvalidRows := jao er_E6
  have Y_InvalidRows : ErM K A.cInvalidRows := ⟨⟨_, _, _, _, PySem.F.excBase_ValueError, yi_E6⟩, xk_E6⟩
  have ER_InvalidOperation := jao er_E7
  have Y_InvalidOperation : ErM K A.cInvalidOperation := ⟨⟨_, _, _, _, PySem.F.excBase_ValueError, yi_E7⟩, xk_E7⟩
  have ER_NeedError := jao er_E8
  have Y_NeedError : ErM K A.cNeedError := ⟨⟨_, _, _, _, PySem.F.excBase_ValueError, yi_E8⟩, xk_E8⟩
  have ER_ParseError := jao er_E9
  have OX_ParseError : OexB K A.cParseError "ValueError" "ValueError.__new__" "ValueError.__init__" valTail := ⟨jgf.1, jgf.2, jcQ ex_E9, sa_E9, xb_E9, xt_E9, xk_E9⟩
  have Z_ParseError : CalXB l.prog w K mg base "ValueError" "ValueError.__new__" "ValueError.__init__" valTail "ParseError" A.cParseError 1 "line" := ⟨OX_ParseError, m_E9, ⟨_, _, _, jdL, ti_E9, jet jbt OX_ParseError no_E9, jdP⟩⟩
  have X_ParseError : ErF K A.cParseError "line" := ⟨ER_ParseError.x, no_E9⟩
  have ER_UnknownWord := jao er_E10
  have OX_UnknownWord : OexB K A.cUnknownWord "KeyError" "LookupError.__new__" "KeyError.__init__" keyTail := ⟨jge.1, jge.2, jcQ ex_E10, sa_E10, xb_E10, xt_E10, xk_E10⟩
  have Z_UnknownWord : CalXB l.prog w K mg base "KeyError" "LookupError.__new__" "KeyError.__init__" keyTail "UnknownWord" A.cUnknownWord 1 "asked" := ⟨OX_UnknownWord, m_E10, ⟨_, _, _, jdB, ti_E10, jdV jbo OX_UnknownWord no_E10, jdF⟩⟩
  have X_UnknownWord : ErF K A.cUnknownWord "asked" := ⟨ER_UnknownWord.x, no_E10⟩
  have ER_UnknownPlace := jao er_E11
  have OX_UnknownPlace : OexB K A.cUnknownPlace "LookupError" "LookupError.__new__" "LookupError.__init__" lkTail := ⟨jfZ.1, jfZ.2, jcQ ex_E11, sa_E11, xb_E11, xt_E11, xk_E11⟩
  have Z_UnknownPlace : CalXB l.prog w K mg base "LookupError" "LookupError.__new__" "LookupError.__init__" lkTail "UnknownPlace" A.cUnknownPlace 1 "spot" := ⟨OX_UnknownPlace, m_E11, ⟨_, _, _, jdb, ti_E11, jdK jbl OX_UnknownPlace no_E11, jdf⟩⟩
  have X_UnknownPlace : ErF K A.cUnknownPlace "spot" := ⟨ER_UnknownPlace.x, no_E11⟩
  have ER_NothingToUndo := jao er_E12
  have OX_NothingToUndo : OexB K A.cNothingToUndo "IndexError" "IndexError.__new__" "IndexError.__init__" ixTail := ⟨jgc.1, jgc.2, jcQ ex_E12, sa_E12, xb_E12, xt_E12, xk_E12⟩
  have Z_NothingToUndo : CalXB l.prog w K mg base "IndexError" "IndexError.__new__" "IndexError.__init__" ixTail "NothingToUndo" A.cNothingToUndo 1 "amount" := ⟨OX_NothingToUndo, m_E12, ⟨_, _, _, jcu, ti_E12, jdr jbd OX_NothingToUndo no_E12, jcC⟩⟩
  have X_NothingToUndo : ErF K A.cNothingToUndo "amount" := ⟨ER_NothingToUndo.x, no_E12⟩
  have ER_TooMany := jao er_E13
  have OX_TooMany : OexB K A.cTooMany "OverflowError" "OverflowError.__new__" "OverflowError.__init__" ofTail := ⟨jga.1, jga.2, jcQ ex_E13, sa_E13, xb_E13, xt_E13, xk_E13⟩
  have Z_TooMany : CalXB l.prog w K mg base "OverflowError" "OverflowError.__new__" "OverflowError.__init__" ofTail "TooMany" A.cTooMany 1 "limit" := ⟨OX_TooMany, m_E13, ⟨_, _, _, jeN, ti_E13, jfD jcO OX_TooMany no_E13, jeV⟩⟩
  have X_TooMany : ErF K A.cTooMany "limit" := ⟨ER_TooMany.x, no_E13⟩
  have ER_Refused := jao er_E14
  have OX_Refused : OexB K A.cRefused "ArithmeticError" "ArithmeticError.__new__" "ArithmeticError.__init__" arTail := ⟨jgd.1, jgd.2, jcQ ex_E14, sa_E14, xb_E14, xt_E14, xk_E14⟩
  have Z_Refused : CalXB l.prog w K mg base "ArithmeticError" "ArithmeticError.__new__" "ArithmeticError.__init__" arTail "Refused" A.cRefused 1 "cause" := ⟨OX_Refused, m_E14, ⟨_, _, _, jeR, ti_E14, jfE jcP OX_Refused no_E14, jeW⟩⟩
  have X_Refused : ErF K A.cRefused "cause" := ⟨ER_Refused.x, no_E14⟩
  have ER_InvalidNumber := jao er_E15
  have OX_InvalidNumber : OexB K A.cInvalidNumber "RuntimeError" "RuntimeError.__new__" "RuntimeError.__init__" rtTail := ⟨jgb.1, jgb.2, jcQ ex_E15, sa_E15, xb_E15, xt_E15, xk_E15⟩
  have Z_InvalidNumber : CalXB l.prog w K mg base "RuntimeError" "RuntimeError.__new__" "RuntimeError.__init__" rtTail "InvalidNumber" A.cInvalidNumber 1 "number" := ⟨OX_InvalidNumber, m_E15, ⟨_, _, _, jcy, ti_E15, jds jbe OX_InvalidNumber no_E15, jcD⟩⟩
  have X_InvalidNumber : ErF K A.cInvalidNumber "number" := ⟨ER_InvalidNumber.x, no_E15⟩
  have C_roll0 : Cal l.prog w K mg base "_law_roll" 1 jfQ jgD := ⟨⟨_, _, jlw jkQ T, m_roll, jkN, b_roll⟩⟩
  have jfz : CalF l.prog w K mg base "_law_pick" 2 2 (jfd K A) := ⟨⟨_, _, _, jlc (jlz jkR T C_roll0), m_pick, jkO, b_pick⟩⟩
  have jhf : CalF l.prog w K mg base "_law_dice" 1 2 (jha K A) := ⟨⟨_, _, _, jhY (jlu jkP T), m_dice, jkM, b_dice⟩⟩
  have jer : CalF l.prog w K mg base "_law_kinds" 1 1 (jbu K A) := ⟨⟨_, _, _, jim jhC T m_E2 m_E1 m_E0 m_E5 m_E4 m_E3 m_E7 m_E6 m_E8 m_E9, jmf, jhA, jmg⟩⟩
  have jdo : CalF l.prog w K mg base "_law_others" 1 1 (jbg K A) := ⟨⟨_, _, _, jhc jgr T m_E12 m_E11 m_E10 m_E15 m_E14 m_E13, jiK, jgq, jiL⟩⟩
  have jfO : CalG l.prog w K mg base "_law_right" 3 1 (jdJ K A) := ⟨⟨_, _, _, jin jhD T jfz jdo jer Y_InvalidTable Y_InvalidProgram Y_InvalidBook Y_InvalidTerm Y_InvalidWord Y_NeedError Y_InvalidOperation Y_InvalidRows Y_InvalidLines Z_ParseError Z_Refused Z_TooMany Z_NothingToUndo Z_UnknownPlace Z_UnknownWord Z_InvalidNumber X_ParseError X_InvalidNumber X_Refused X_TooMany X_NothingToUndo X_UnknownPlace X_UnknownWord m_E4 m_E3 m_E2 m_E1 m_E0 m_E8 m_E7 m_E6 m_E5, jmh, jhB, jmi⟩⟩
  exact jlA EC (ok_law F_law T jhf jfO Z_TooMany X_TooMany Z_ParseError X_ParseError)
theorem d2 {a b c : Bool} (h : (a && (b && c)) = true) : c = true := ba2 (ba2 h)
theorem d4 {a b c d e : Bool} (h : (a && (b && (c && (d && e)))) = true) : e = true := d2 (d2 h)
theorem d8 {a b c d e f g i j : Bool} (h : (a && (b && (c && (d && (e && (f && (g && (i && j)))))))) = true) : j = true := d4 (d4 h)
abbrev fnL (o : Option Obj) (nm q : Str) (ar : Arguments) (b : List Stmt) (sc : Scope) : Option Obj := some ⟨ocOf o, odOf o, .func (fnOf nm q ar b sc .none (fdOf o).kwdefaults (fdOf o).doc (fdOf o).pyModule (fdOf o).annotations (fdOf o).code (fdOf o).closureTuple), slOf o⟩
section
variable {K : Frag} (hp : prtH K = expd)
include hp
theorem h_a_E0 (hc : chk0 K = true) : nsIn K mainGlobals "InvalidWord" = some (some (.ref (q_E0 K))) := jay (ba1 hc)
theorem h_a_E1 (hc : chk0 K = true) : nsIn K mainGlobals "InvalidTerm" = some (some (.ref (q_E1 K))) := jay (ba1 (ba2 hc))
theorem h_a_E2 (hc : chk0 K = true) : nsIn K mainGlobals "InvalidBook" = some (some (.ref (q_E2 K))) := jay (ba1 (d2 hc))
theorem h_a_E3 (hc : chk0 K = true) : nsIn K mainGlobals "InvalidProgram" = some (some (.ref (q_E3 K))) := jay (ba1 (d2 (ba2 hc)))
theorem h_a_E4 (hc : chk0 K = true) : nsIn K mainGlobals "InvalidTable" = some (some (.ref (q_E4 K))) := jay (ba1 (d4 hc))
theorem h_a_E5 (hc : chk0 K = true) : nsIn K mainGlobals "InvalidLines" = some (some (.ref (q_E5 K))) := jay (ba1 (d4 (ba2 hc)))
theorem h_a_E6 (hc : chk0 K = true) : nsIn K mainGlobals "InvalidRows" = some (some (.ref (q_E6 K))) := jay (ba1 (d4 (d2 hc)))
theorem h_a_E7 (hc : chk0 K = true) : nsIn K mainGlobals "InvalidOperation" = some (some (.ref (q_E7 K))) := jay (ba1 (d4 (d2 (ba2 hc))))
theorem h_a_E8 (hc : chk0 K = true) : nsIn K mainGlobals "NeedError" = some (some (.ref (q_E8 K))) := jay (ba1 (d8 hc))
theorem h_a_E9 (hc : chk0 K = true) : nsIn K mainGlobals "ParseError" = some (some (.ref (q_E9 K))) := jay (ba1 (d8 (ba2 hc)))
theorem jmj (hc : chk0 K = true) : nsIn K mainGlobals "UnknownWord" = some (some (.ref (q_E10 K))) := jay (ba1 (d8 (d2 hc)))
theorem jmk (hc : chk0 K = true) : nsIn K mainGlobals "UnknownPlace" = some (some (.ref (q_E11 K))) := jay (ba1 (d8 (d2 (ba2 hc))))
theorem jml (hc : chk0 K = true) : nsIn K mainGlobals "NothingToUndo" = some (some (.ref (q_E12 K))) := jay (ba1 (d8 (d4 hc)))
theorem jmm (hc : chk0 K = true) : nsIn K mainGlobals "TooMany" = some (some (.ref (q_E13 K))) := jay (ba1 (d8 (d4 (ba2 hc))))
theorem jmn (hc : chk0 K = true) : nsIn K mainGlobals "Refused" = some (some (.ref (q_E14 K))) := jay (ba1 (d8 (d4 (d2 hc))))
theorem jmo (hc : chk0 K = true) : nsIn K mainGlobals "InvalidNumber" = some (some (.ref (q_E15 K))) := jay (d8 (d4 (d2 (ba2 hc))))
theorem jdg (hc : chk1 K = true) : findIn K (.ref (q_E9 K)) "__init__" = some (some (.ref (jaf K))) := jay (ba1 hc)
theorem jdh (hc : chk1 K = true) : isFn K (.ref (jaf K)) = true := (ba1 (ba2 hc))
theorem jdi (hc : chk1 K = true) : K.lookup (jaf K) = fnL (K.lookup (jaf K)) "__init__" "ParseError.__init__" (defArgs jan) (defBody jan) (defScope jan) := of_fn (ba1 (d2 hc)) (Option.some.inj (nthEq hp 0))
theorem jdj (hc : chk1 K = true) : codeIn K (fdOf (K.lookup (jaf K))).code "ParseError.__init__" = true := (ba1 (d2 (ba2 hc)))
theorem jdk (hc : chk1 K = true) : keepIn K (.ref (jaf K)) = true := (ba1 (d4 hc))
theorem jdl (hc : chk1 K = true) : fnIn K (jaf K) = true := (ba1 (d4 (ba2 hc)))
theorem jcE (hc : chk1 K = true) : findIn K (.ref (q_E10 K)) "__init__" = some (some (.ref (jae K))) := jay (ba1 (d4 (d2 hc)))
theorem jcF (hc : chk1 K = true) : isFn K (.ref (jae K)) = true := (ba1 (d4 (d2 (ba2 hc))))
theorem jcG (hc : chk1 K = true) : K.lookup (jae K) = fnL (K.lookup (jae K)) "__init__" "UnknownWord.__init__" (defArgs jam) (defBody jam) (defScope jam) := of_fn (ba1 (d8 hc)) (Option.some.inj (nthEq hp 1))
theorem jcH (hc : chk1 K = true) : codeIn K (fdOf (K.lookup (jae K))).code "UnknownWord.__init__" = true := (ba1 (d8 (ba2 hc)))
theorem jcI (hc : chk1 K = true) : keepIn K (.ref (jae K)) = true := (ba1 (d8 (d2 hc)))
theorem jcJ (hc : chk1 K = true) : fnIn K (jae K) = true := (ba1 (d8 (d2 (ba2 hc))))
theorem jcf (hc : chk1 K = true) : findIn K (.ref (q_E11 K)) "__init__" = some (some (.ref (jad K))) := jay (ba1 (d8 (d4 hc)))
theorem jcg (hc : chk1 K = true) : isFn K (.ref (jad K)) = true := (ba1 (d8 (d4 (ba2 hc))))
theorem jch (hc : chk1 K = true) : K.lookup (jad K) = fnL (K.lookup (jad K)) "__init__" "UnknownPlace.__init__" (defArgs jal) (defBody jal) (defScope jal) := of_fn (ba1 (d8 (d4 (d2 hc)))) (Option.some.inj (nthEq hp 2))
theorem jci (hc : chk1 K = true) : codeIn K (fdOf (K.lookup (jad K))).code "UnknownPlace.__init__" = true := (d8 (d4 (d2 (ba2 hc))))
theorem jcj (hc : chk2 K = true) : keepIn K (.ref (jad K)) = true := (ba1 hc)
theorem jck (hc : chk2 K = true) : fnIn K (jad K) = true := (ba1 (ba2 hc))
theorem jbw (hc : chk2 K = true) : findIn K (.ref (q_E12 K)) "__init__" = some (some (.ref (jaa K))) := jay (ba1 (d2 hc))
theorem jbx (hc : chk2 K = true) : isFn K (.ref (jaa K)) = true := (ba1 (d2 (ba2 hc)))
theorem jby (hc : chk2 K = true) : K.lookup (jaa K) = fnL (K.lookup (jaa K)) "__init__" "NothingToUndo.__init__" (defArgs jai) (defBody jai) (defScope jai) := of_fn (ba1 (d4 hc)) (Option.some.inj (nthEq hp 3))
theorem jbz (hc : chk2 K = true) : codeIn K (fdOf (K.lookup (jaa K))).code "NothingToUndo.__init__" = true := (ba1 (d4 (ba2 hc)))
theorem jbA (hc : chk2 K = true) : keepIn K (.ref (jaa K)) = true := (ba1 (d4 (d2 hc)))
theorem jbB (hc : chk2 K = true) : fnIn K (jaa K) = true := (ba1 (d4 (d2 (ba2 hc))))
theorem jdW (hc : chk2 K = true) : findIn K (.ref (q_E13 K)) "__init__" = some (some (.ref (jag K))) := jay (ba1 (d8 hc))
theorem jdX (hc : chk2 K = true) : isFn K (.ref (jag K)) = true := (ba1 (d8 (ba2 hc)))
theorem jdY (hc : chk2 K = true) : K.lookup (jag K) = fnL (K.lookup (jag K)) "__init__" "TooMany.__init__" (defArgs jat) (defBody jat) (defScope jat) := of_fn (ba1 (d8 (d2 hc))) (Option.some.inj (nthEq hp 4))
theorem jdZ (hc : chk2 K = true) : codeIn K (fdOf (K.lookup (jag K))).code "TooMany.__init__" = true := (ba1 (d8 (d2 (ba2 hc))))
theorem jea (hc : chk2 K = true) : keepIn K (.ref (jag K)) = true := (ba1 (d8 (d4 hc)))
theorem jeb (hc : chk2 K = true) : fnIn K (jag K) = true := (ba1 (d8 (d4 (ba2 hc))))
theorem jec (hc : chk2 K = true) : findIn K (.ref (q_E14 K)) "__init__" = some (some (.ref (jah K))) := jay (ba1 (d8 (d4 (d2 hc))))
theorem jed (hc : chk2 K = true) : isFn K (.ref (jah K)) = true := (d8 (d4 (d2 (ba2 hc))))
theorem jee (hc : chk3 K = true) : K.lookup (jah K) = fnL (K.lookup (jah K)) "__init__" "Refused.__init__" (defArgs jau) (defBody jau) (defScope jau) := of_fn (ba1 hc) (Option.some.inj (nthEq hp 5))
theorem jef (hc : chk3 K = true) : codeIn K (fdOf (K.lookup (jah K))).code "Refused.__init__" = true := (ba1 (ba2 hc))
theorem jeg (hc : chk3 K = true) : keepIn K (.ref (jah K)) = true := (ba1 (d2 hc))
theorem jeh (hc : chk3 K = true) : fnIn K (jah K) = true := (ba1 (d2 (ba2 hc)))
theorem jbC (hc : chk3 K = true) : findIn K (.ref (q_E15 K)) "__init__" = some (some (.ref (jab K))) := jay (ba1 (d4 hc))
theorem jbD (hc : chk3 K = true) : isFn K (.ref (jab K)) = true := (ba1 (d4 (ba2 hc)))
theorem jbE (hc : chk3 K = true) : K.lookup (jab K) = fnL (K.lookup (jab K)) "__init__" "InvalidNumber.__init__" (defArgs jaj) (defBody jaj) (defScope jaj) := of_fn (ba1 (d4 (d2 hc))) (Option.some.inj (nthEq hp 6))
theorem jbF (hc : chk3 K = true) : codeIn K (fdOf (K.lookup (jab K))).code "InvalidNumber.__init__" = true := (ba1 (d4 (d2 (ba2 hc))))
theorem jbG (hc : chk3 K = true) : keepIn K (.ref (jab K)) = true := (ba1 (d8 hc))
theorem jbH (hc : chk3 K = true) : fnIn K (jab K) = true := (ba1 (d8 (ba2 hc)))
theorem jmp (hc : chk3 K = true) : keepIn K (.ref (q_E0 K)) = true := (ba1 (d8 (d2 hc)))
theorem jmq (hc : chk3 K = true) : Pu.erB K (q_E0 K) = true := (ba1 (d8 (d2 (ba2 hc))))
theorem jmr (hc : chk3 K = true) : Pu.kitsB K (q_E0 K) [.ref (q_E0 K), .ref (q_E1 K), .ref (q_E2 K), .ref (q_E3 K), .ref (q_E4 K), .ref (q_E5 K), .ref (q_E6 K), .ref (q_E7 K), .ref (q_E9 K), .ref (q_E8 K), .type "ValueError"] [Bool.true, Bool.false, Bool.false, Bool.false, Bool.false, Bool.false, Bool.false, Bool.false, Bool.false, Bool.true, Bool.true] = true := (ba1 (d8 (d4 hc)))
theorem jms (hc : chk3 K = true) : Pu.kitsB K (q_E0 K) [.ref (q_E10 K), .ref (q_E11 K), .ref (q_E12 K), .ref (q_E13 K), .ref (q_E14 K), .ref (q_E15 K), .type "KeyError", .type "IndexError", .type "LookupError", .type "OverflowError", .type "ArithmeticError", .type "RuntimeError"] [Bool.false, Bool.false, Bool.false, Bool.false, Bool.false, Bool.false, Bool.false, Bool.false, Bool.false, Bool.false, Bool.false, Bool.false] = true := (ba1 (d8 (d4 (ba2 hc))))
theorem jmt (hc : chk3 K = true) : findIn K (.ref (q_E0 K)) "__str__" = some (some (.builtin "BaseException.__str__")) := of_bi (ba1 (d8 (d4 (d2 hc))))
theorem jmu (hc : chk3 K = true) : PySem.W.excIn K (q_E0 K) Pu.valTail "ValueError.__new__" = true := (d8 (d4 (d2 (ba2 hc))))
theorem jmv (hc : chk4 K = true) : keepIn K (.ref (q_E1 K)) = true := (ba1 hc)
theorem jmw (hc : chk4 K = true) : Pu.erB K (q_E1 K) = true := (ba1 (ba2 hc))
theorem jmx (hc : chk4 K = true) : Pu.kitsB K (q_E1 K) [.ref (q_E0 K), .ref (q_E1 K), .ref (q_E2 K), .ref (q_E3 K), .ref (q_E4 K), .ref (q_E5 K), .ref (q_E6 K), .ref (q_E7 K), .ref (q_E9 K), .ref (q_E8 K), .type "ValueError"] [Bool.false, Bool.true, Bool.false, Bool.false, Bool.false, Bool.false, Bool.false, Bool.false, Bool.false, Bool.true, Bool.true] = true := (ba1 (d2 hc))
theorem jmy (hc : chk4 K = true) : Pu.kitsB K (q_E1 K) [.ref (q_E10 K), .ref (q_E11 K), .ref (q_E12 K), .ref (q_E13 K), .ref (q_E14 K), .ref (q_E15 K), .type "KeyError", .type "IndexError", .type "LookupError", .type "OverflowError", .type "ArithmeticError", .type "RuntimeError"] [Bool.false, Bool.false, Bool.false, Bool.false, Bool.false, Bool.false, Bool.false, Bool.false, Bool.false, Bool.false, Bool.false, Bool.false] = true := (ba1 (d2 (ba2 hc)))
theorem jmz (hc : chk4 K = true) : findIn K (.ref (q_E1 K)) "__str__" = some (some (.builtin "BaseException.__str__")) := of_bi (ba1 (d4 hc))
theorem jmA (hc : chk4 K = true) : PySem.W.excIn K (q_E1 K) Pu.valTail "ValueError.__new__" = true := (ba1 (d4 (ba2 hc)))
theorem jmB (hc : chk4 K = true) : keepIn K (.ref (q_E2 K)) = true := (ba1 (d4 (d2 hc)))
theorem jmC (hc : chk4 K = true) : Pu.erB K (q_E2 K) = true := (ba1 (d4 (d2 (ba2 hc))))
theorem jmD (hc : chk4 K = true) : Pu.kitsB K (q_E2 K) [.ref (q_E0 K), .ref (q_E1 K), .ref (q_E2 K), .ref (q_E3 K), .ref (q_E4 K), .ref (q_E5 K), .ref (q_E6 K), .ref (q_E7 K), .ref (q_E9 K), .ref (q_E8 K), .type "ValueError"] [Bool.false, Bool.false, Bool.true, Bool.false, Bool.false, Bool.false, Bool.false, Bool.false, Bool.false, Bool.true, Bool.true] = true := (ba1 (d8 hc))
theorem jmE (hc : chk4 K = true) : Pu.kitsB K (q_E2 K) [.ref (q_E10 K), .ref (q_E11 K), .ref (q_E12 K), .ref (q_E13 K), .ref (q_E14 K), .ref (q_E15 K), .type "KeyError", .type "IndexError", .type "LookupError", .type "OverflowError", .type "ArithmeticError", .type "RuntimeError"] [Bool.false, Bool.false, Bool.false, Bool.false, Bool.false, Bool.false, Bool.false, Bool.false, Bool.false, Bool.false, Bool.false, Bool.false] = true := (ba1 (d8 (ba2 hc)))
theorem jmF (hc : chk4 K = true) : findIn K (.ref (q_E2 K)) "__str__" = some (some (.builtin "BaseException.__str__")) := of_bi (ba1 (d8 (d2 hc)))
theorem jmG (hc : chk4 K = true) : PySem.W.excIn K (q_E2 K) Pu.valTail "ValueError.__new__" = true := (ba1 (d8 (d2 (ba2 hc))))
theorem jmH (hc : chk4 K = true) : keepIn K (.ref (q_E3 K)) = true := (ba1 (d8 (d4 hc)))
theorem jmI (hc : chk4 K = true) : Pu.erB K (q_E3 K) = true := (ba1 (d8 (d4 (ba2 hc))))
theorem jmJ (hc : chk4 K = true) : Pu.kitsB K (q_E3 K) [.ref (q_E0 K), .ref (q_E1 K), .ref (q_E2 K), .ref (q_E3 K), .ref (q_E4 K), .ref (q_E5 K), .ref (q_E6 K), .ref (q_E7 K), .ref (q_E9 K), .ref (q_E8 K), .type "ValueError"] [Bool.false, Bool.false, Bool.false, Bool.true, Bool.false, Bool.false, Bool.false, Bool.false, Bool.false, Bool.true, Bool.true] = true := (ba1 (d8 (d4 (d2 hc))))
theorem jmK (hc : chk4 K = true) : Pu.kitsB K (q_E3 K) [.ref (q_E10 K), .ref (q_E11 K), .ref (q_E12 K), .ref (q_E13 K), .ref (q_E14 K), .ref (q_E15 K), .type "KeyError", .type "IndexError", .type "LookupError", .type "OverflowError", .type "ArithmeticError", .type "RuntimeError"] [Bool.false, Bool.false, Bool.false, Bool.false, Bool.false, Bool.false, Bool.false, Bool.false, Bool.false, Bool.false, Bool.false, Bool.false] = true := (d8 (d4 (d2 (ba2 hc))))
theorem jmL (hc : chk5 K = true) : findIn K (.ref (q_E3 K)) "__str__" = some (some (.builtin "BaseException.__str__")) := of_bi (ba1 hc)
theorem jmM (hc : chk5 K = true) : PySem.W.excIn K (q_E3 K) Pu.valTail "ValueError.__new__" = true := (ba1 (ba2 hc))
theorem jmN (hc : chk5 K = true) : keepIn K (.ref (q_E4 K)) = true := (ba1 (d2 hc))
theorem jmO (hc : chk5 K = true) : Pu.erB K (q_E4 K) = true := (ba1 (d2 (ba2 hc)))
theorem jmP (hc : chk5 K = true) : Pu.kitsB K (q_E4 K) [.ref (q_E0 K), .ref (q_E1 K), .ref (q_E2 K), .ref (q_E3 K), .ref (q_E4 K), .ref (q_E5 K), .ref (q_E6 K), .ref (q_E7 K), .ref (q_E9 K), .ref (q_E8 K), .type "ValueError"] [Bool.false, Bool.false, Bool.false, Bool.false, Bool.true, Bool.false, Bool.false, Bool.false, Bool.false, Bool.true, Bool.true] = true := (ba1 (d4 hc))
theorem jmQ (hc : chk5 K = true) : Pu.kitsB K (q_E4 K) [.ref (q_E10 K), .ref (q_E11 K), .ref (q_E12 K), .ref (q_E13 K), .ref (q_E14 K), .ref (q_E15 K), .type "KeyError", .type "IndexError", .type "LookupError", .type "OverflowError", .type "ArithmeticError", .type "RuntimeError"] [Bool.false, Bool.false, Bool.false, Bool.false, Bool.false, Bool.false, Bool.false, Bool.false, Bool.false, Bool.false, Bool.false, Bool.false] = true := (ba1 (d4 (ba2 hc)))
theorem jmR (hc : chk5 K = true) : findIn K (.ref (q_E4 K)) "__str__" = some (some (.builtin "BaseException.__str__")) := of_bi (ba1 (d4 (d2 hc)))
theorem jmS (hc : chk5 K = true) : PySem.W.excIn K (q_E4 K) Pu.valTail "ValueError.__new__" = true := (ba1 (d4 (d2 (ba2 hc))))
theorem jmT (hc : chk5 K = true) : keepIn K (.ref (q_E5 K)) = true := (ba1 (d8 hc))
theorem jmU (hc : chk5 K = true) : Pu.erB K (q_E5 K) = true := (ba1 (d8 (ba2 hc)))
theorem jmV (hc : chk5 K = true) : Pu.kitsB K (q_E5 K) [.ref (q_E0 K), .ref (q_E1 K), .ref (q_E2 K), .ref (q_E3 K), .ref (q_E4 K), .ref (q_E5 K), .ref (q_E6 K), .ref (q_E7 K), .ref (q_E9 K), .ref (q_E8 K), .type "ValueError"] [Bool.false, Bool.false, Bool.false, Bool.false, Bool.false, Bool.true, Bool.false, Bool.false, Bool.false, Bool.true, Bool.true] = true := (ba1 (d8 (d2 hc)))
theorem jmW (hc : chk5 K = true) : Pu.kitsB K (q_E5 K) [.ref (q_E10 K), .ref (q_E11 K), .ref (q_E12 K), .ref (q_E13 K), .ref (q_E14 K), .ref (q_E15 K), .type "KeyError", .type "IndexError", .type "LookupError", .type "OverflowError", .type "ArithmeticError", .type "RuntimeError"] [Bool.false, Bool.false, Bool.false, Bool.false, Bool.false, Bool.false, Bool.false, Bool.false, Bool.false, Bool.false, Bool.false, Bool.false] = true := (ba1 (d8 (d2 (ba2 hc))))
theorem jmX (hc : chk5 K = true) : findIn K (.ref (q_E5 K)) "__str__" = some (some (.builtin "BaseException.__str__")) := of_bi (ba1 (d8 (d4 hc)))
theorem jmY (hc : chk5 K = true) : PySem.W.excIn K (q_E5 K) Pu.valTail "ValueError.__new__" = true := (ba1 (d8 (d4 (ba2 hc))))
theorem jmZ (hc : chk5 K = true) : keepIn K (.ref (q_E6 K)) = true := (ba1 (d8 (d4 (d2 hc))))
theorem jna (hc : chk5 K = true) : Pu.erB K (q_E6 K) = true := (d8 (d4 (d2 (ba2 hc))))
theorem jnb (hc : chk6 K = true) : Pu.kitsB K (q_E6 K) [.ref (q_E0 K), .ref (q_E1 K), .ref (q_E2 K), .ref (q_E3 K), .ref (q_E4 K), .ref (q_E5 K), .ref (q_E6 K), .ref (q_E7 K), .ref (q_E9 K), .ref (q_E8 K), .type "ValueError"] [Bool.false, Bool.false, Bool.false, Bool.false, Bool.false, Bool.false, Bool.true, Bool.false, Bool.false, Bool.true, Bool.true] = true := (ba1 hc)
theorem jnc (hc : chk6 K = true) : Pu.kitsB K (q_E6 K) [.ref (q_E10 K), .ref (q_E11 K), .ref (q_E12 K), .ref (q_E13 K), .ref (q_E14 K), .ref (q_E15 K), .type "KeyError", .type "IndexError", .type "LookupError", .type "OverflowError", .type "ArithmeticError", .type "RuntimeError"] [Bool.false, Bool.false, Bool.false, Bool.false, Bool.false, Bool.false, Bool.false, Bool.false, Bool.false, Bool.false, Bool.false, Bool.false] = true := (ba1 (ba2 hc))
theorem jnd (hc : chk6 K = true) : findIn K (.ref (q_E6 K)) "__str__" = some (some (.builtin "BaseException.__str__")) := of_bi (ba1 (d2 hc))
theorem jne (hc : chk6 K = true) : PySem.W.excIn K (q_E6 K) Pu.valTail "ValueError.__new__" = true := (ba1 (d2 (ba2 hc)))
theorem jnf (hc : chk6 K = true) : keepIn K (.ref (q_E7 K)) = true := (ba1 (d4 hc))
theorem jng (hc : chk6 K = true) : Pu.erB K (q_E7 K) = true := (ba1 (d4 (ba2 hc)))
theorem jnh (hc : chk6 K = true) : Pu.kitsB K (q_E7 K) [.ref (q_E0 K), .ref (q_E1 K), .ref (q_E2 K), .ref (q_E3 K), .ref (q_E4 K), .ref (q_E5 K), .ref (q_E6 K), .ref (q_E7 K), .ref (q_E9 K), .ref (q_E8 K), .type "ValueError"] [Bool.false, Bool.false, Bool.false, Bool.false, Bool.false, Bool.false, Bool.false, Bool.true, Bool.false, Bool.true, Bool.true] = true := (ba1 (d4 (d2 hc)))
theorem jni (hc : chk6 K = true) : Pu.kitsB K (q_E7 K) [.ref (q_E10 K), .ref (q_E11 K), .ref (q_E12 K), .ref (q_E13 K), .ref (q_E14 K), .ref (q_E15 K), .type "KeyError", .type "IndexError", .type "LookupError", .type "OverflowError", .type "ArithmeticError", .type "RuntimeError"] [Bool.false, Bool.false, Bool.false, Bool.false, Bool.false, Bool.false, Bool.false, Bool.false, Bool.false, Bool.false, Bool.false, Bool.false] = true := (ba1 (d4 (d2 (ba2 hc))))
theorem jnj (hc : chk6 K = true) : findIn K (.ref (q_E7 K)) "__str__" = some (some (.builtin "BaseException.__str__")) := of_bi (ba1 (d8 hc))
theorem jnk (hc : chk6 K = true) : PySem.W.excIn K (q_E7 K) Pu.valTail "ValueError.__new__" = true := (ba1 (d8 (ba2 hc)))
theorem jnl (hc : chk6 K = true) : keepIn K (.ref (q_E8 K)) = true := (ba1 (d8 (d2 hc)))
theorem jnm (hc : chk6 K = true) : Pu.erB K (q_E8 K) = true := (ba1 (d8 (d2 (ba2 hc))))
theorem jnn (hc : chk6 K = true) : Pu.kitsB K (q_E8 K) [.ref (q_E0 K), .ref (q_E1 K), .ref (q_E2 K), .ref (q_E3 K), .ref (q_E4 K), .ref (q_E5 K), .ref (q_E6 K), .ref (q_E7 K), .ref (q_E9 K), .ref (q_E8 K), .type "ValueError"] [Bool.false, Bool.false, Bool.false, Bool.false, Bool.false, Bool.false, Bool.false, Bool.false, Bool.false, Bool.true, Bool.true] = true := (ba1 (d8 (d4 hc)))
theorem jno (hc : chk6 K = true) : Pu.kitsB K (q_E8 K) [.ref (q_E10 K), .ref (q_E11 K), .ref (q_E12 K), .ref (q_E13 K), .ref (q_E14 K), .ref (q_E15 K), .type "KeyError", .type "IndexError", .type "LookupError", .type "OverflowError", .type "ArithmeticError", .type "RuntimeError"] [Bool.false, Bool.false, Bool.false, Bool.false, Bool.false, Bool.false, Bool.false, Bool.false, Bool.false, Bool.false, Bool.false, Bool.false] = true := (ba1 (d8 (d4 (ba2 hc))))
theorem jnp (hc : chk6 K = true) : findIn K (.ref (q_E8 K)) "__str__" = some (some (.builtin "BaseException.__str__")) := of_bi (ba1 (d8 (d4 (d2 hc))))
theorem jnq (hc : chk6 K = true) : PySem.W.excIn K (q_E8 K) Pu.valTail "ValueError.__new__" = true := (d8 (d4 (d2 (ba2 hc))))
theorem jnr (hc : chk7 K = true) : keepIn K (.ref (q_E9 K)) = true := (ba1 hc)
theorem jns (hc : chk7 K = true) : Pu.erB K (q_E9 K) = true := (ba1 (ba2 hc))
theorem jnt (hc : chk7 K = true) : Pu.kitsB K (q_E9 K) [.ref (q_E0 K), .ref (q_E1 K), .ref (q_E2 K), .ref (q_E3 K), .ref (q_E4 K), .ref (q_E5 K), .ref (q_E6 K), .ref (q_E7 K), .ref (q_E9 K), .ref (q_E8 K), .type "ValueError"] [Bool.false, Bool.false, Bool.false, Bool.false, Bool.false, Bool.false, Bool.false, Bool.false, Bool.true, Bool.true, Bool.true] = true := (ba1 (d2 hc))
theorem jnu (hc : chk7 K = true) : Pu.kitsB K (q_E9 K) [.ref (q_E10 K), .ref (q_E11 K), .ref (q_E12 K), .ref (q_E13 K), .ref (q_E14 K), .ref (q_E15 K), .type "KeyError", .type "IndexError", .type "LookupError", .type "OverflowError", .type "ArithmeticError", .type "RuntimeError"] [Bool.false, Bool.false, Bool.false, Bool.false, Bool.false, Bool.false, Bool.false, Bool.false, Bool.false, Bool.false, Bool.false, Bool.false] = true := (ba1 (d2 (ba2 hc)))
theorem jnv (hc : chk7 K = true) : subIn K (.ref (q_E9 K)) (.type "BaseException") = some true := of_ob (ba1 (d4 hc))
theorem jnw (hc : chk7 K = true) : PySem.W.typeIn K (.ref (q_E9 K)) = some (.type "type") := of_ty (ba1 (d4 (ba2 hc)))
theorem jnx (hc : chk7 K = true) : Pu.excBT "ValueError.__new__" Pu.valTail K (q_E9 K) = true := (ba1 (d4 (d2 hc)))
theorem jny (hc : chk7 K = true) : findIn K (.ref (q_E9 K)) "__setattr__" = some (some (.builtin "object.__setattr__")) := of_bi (ba1 (d4 (d2 (ba2 hc))))
theorem jnz (hc : chk7 K = true) : findIn K (.ref (q_E9 K)) "line" = some none := jar (ba1 (d8 hc))
theorem jnA (hc : chk7 K = true) : PySem.W.typeIn K (.ref (jaf K)) = some (.type "function") := of_ty (ba1 (d8 (ba2 hc)))
theorem jiM (hc : chk7 K = true) : keepIn K (.ref (q_E10 K)) = true := (ba1 (d8 (d2 hc)))
theorem jiN (hc : chk7 K = true) : Pu.erB K (q_E10 K) = true := (ba1 (d8 (d2 (ba2 hc))))
theorem jiO (hc : chk7 K = true) : Pu.kitsB K (q_E10 K) [.ref (q_E0 K), .ref (q_E1 K), .ref (q_E2 K), .ref (q_E3 K), .ref (q_E4 K), .ref (q_E5 K), .ref (q_E6 K), .ref (q_E7 K), .ref (q_E9 K), .ref (q_E8 K), .type "ValueError"] [Bool.false, Bool.false, Bool.false, Bool.false, Bool.false, Bool.false, Bool.false, Bool.false, Bool.false, Bool.false, Bool.false] = true := (ba1 (d8 (d4 hc)))
theorem jiP (hc : chk7 K = true) : Pu.kitsB K (q_E10 K) [.ref (q_E10 K), .ref (q_E11 K), .ref (q_E12 K), .ref (q_E13 K), .ref (q_E14 K), .ref (q_E15 K), .type "KeyError", .type "IndexError", .type "LookupError", .type "OverflowError", .type "ArithmeticError", .type "RuntimeError"] [Bool.true, Bool.false, Bool.false, Bool.false, Bool.false, Bool.false, Bool.true, Bool.false, Bool.true, Bool.false, Bool.false, Bool.false] = true := (ba1 (d8 (d4 (ba2 hc))))
theorem jiQ (hc : chk7 K = true) : subIn K (.ref (q_E10 K)) (.type "BaseException") = some true := of_ob (ba1 (d8 (d4 (d2 hc))))
theorem jiR (hc : chk7 K = true) : PySem.W.typeIn K (.ref (q_E10 K)) = some (.type "type") := of_ty (d8 (d4 (d2 (ba2 hc))))
theorem jiS (hc : chk8 K = true) : Pu.excBT "LookupError.__new__" Pu.keyTail K (q_E10 K) = true := (ba1 hc)
theorem jiT (hc : chk8 K = true) : findIn K (.ref (q_E10 K)) "__setattr__" = some (some (.builtin "object.__setattr__")) := of_bi (ba1 (ba2 hc))
theorem jiU (hc : chk8 K = true) : findIn K (.ref (q_E10 K)) "asked" = some none := jar (ba1 (d2 hc))
theorem jiV (hc : chk8 K = true) : PySem.W.typeIn K (.ref (jae K)) = some (.type "function") := of_ty (ba1 (d2 (ba2 hc)))
theorem jiW (hc : chk8 K = true) : keepIn K (.ref (q_E11 K)) = true := (ba1 (d4 hc))
theorem jiX (hc : chk8 K = true) : Pu.erB K (q_E11 K) = true := (ba1 (d4 (ba2 hc)))
theorem jiY (hc : chk8 K = true) : Pu.kitsB K (q_E11 K) [.ref (q_E0 K), .ref (q_E1 K), .ref (q_E2 K), .ref (q_E3 K), .ref (q_E4 K), .ref (q_E5 K), .ref (q_E6 K), .ref (q_E7 K), .ref (q_E9 K), .ref (q_E8 K), .type "ValueError"] [Bool.false, Bool.false, Bool.false, Bool.false, Bool.false, Bool.false, Bool.false, Bool.false, Bool.false, Bool.false, Bool.false] = true := (ba1 (d4 (d2 hc)))
theorem jiZ (hc : chk8 K = true) : Pu.kitsB K (q_E11 K) [.ref (q_E10 K), .ref (q_E11 K), .ref (q_E12 K), .ref (q_E13 K), .ref (q_E14 K), .ref (q_E15 K), .type "KeyError", .type "IndexError", .type "LookupError", .type "OverflowError", .type "ArithmeticError", .type "RuntimeError"] [Bool.false, Bool.true, Bool.false, Bool.false, Bool.false, Bool.false, Bool.false, Bool.false, Bool.true, Bool.false, Bool.false, Bool.false] = true := (ba1 (d4 (d2 (ba2 hc))))
theorem jja (hc : chk8 K = true) : subIn K (.ref (q_E11 K)) (.type "BaseException") = some true := of_ob (ba1 (d8 hc))
theorem jjb (hc : chk8 K = true) : PySem.W.typeIn K (.ref (q_E11 K)) = some (.type "type") := of_ty (ba1 (d8 (ba2 hc)))
theorem jjc (hc : chk8 K = true) : Pu.excBT "LookupError.__new__" Pu.lkTail K (q_E11 K) = true := (ba1 (d8 (d2 hc)))
theorem jjd (hc : chk8 K = true) : findIn K (.ref (q_E11 K)) "__setattr__" = some (some (.builtin "object.__setattr__")) := of_bi (ba1 (d8 (d2 (ba2 hc))))
theorem jje (hc : chk8 K = true) : findIn K (.ref (q_E11 K)) "spot" = some none := jar (ba1 (d8 (d4 hc)))
theorem jjf (hc : chk8 K = true) : PySem.W.typeIn K (.ref (jad K)) = some (.type "function") := of_ty (ba1 (d8 (d4 (ba2 hc))))
theorem jjg (hc : chk8 K = true) : keepIn K (.ref (q_E12 K)) = true := (ba1 (d8 (d4 (d2 hc))))
theorem jjh (hc : chk8 K = true) : Pu.erB K (q_E12 K) = true := (d8 (d4 (d2 (ba2 hc))))
theorem jji (hc : chk9 K = true) : Pu.kitsB K (q_E12 K) [.ref (q_E0 K), .ref (q_E1 K), .ref (q_E2 K), .ref (q_E3 K), .ref (q_E4 K), .ref (q_E5 K), .ref (q_E6 K), .ref (q_E7 K), .ref (q_E9 K), .ref (q_E8 K), .type "ValueError"] [Bool.false, Bool.false, Bool.false, Bool.false, Bool.false, Bool.false, Bool.false, Bool.false, Bool.false, Bool.false, Bool.false] = true := (ba1 hc)
theorem jjj (hc : chk9 K = true) : Pu.kitsB K (q_E12 K) [.ref (q_E10 K), .ref (q_E11 K), .ref (q_E12 K), .ref (q_E13 K), .ref (q_E14 K), .ref (q_E15 K), .type "KeyError", .type "IndexError", .type "LookupError", .type "OverflowError", .type "ArithmeticError", .type "RuntimeError"] [Bool.false, Bool.false, Bool.true, Bool.false, Bool.false, Bool.false, Bool.false, Bool.true, Bool.true, Bool.false, Bool.false, Bool.false] = true := (ba1 (ba2 hc))
theorem jjk (hc : chk9 K = true) : subIn K (.ref (q_E12 K)) (.type "BaseException") = some true := of_ob (ba1 (d2 hc))
theorem jjl (hc : chk9 K = true) : PySem.W.typeIn K (.ref (q_E12 K)) = some (.type "type") := of_ty (ba1 (d2 (ba2 hc)))
theorem jjm (hc : chk9 K = true) : Pu.excBT "IndexError.__new__" Pu.ixTail K (q_E12 K) = true := (ba1 (d4 hc))
theorem jjn (hc : chk9 K = true) : findIn K (.ref (q_E12 K)) "__setattr__" = some (some (.builtin "object.__setattr__")) := of_bi (ba1 (d4 (ba2 hc)))
theorem jjo (hc : chk9 K = true) : findIn K (.ref (q_E12 K)) "amount" = some none := jar (ba1 (d4 (d2 hc)))
theorem jjp (hc : chk9 K = true) : PySem.W.typeIn K (.ref (jaa K)) = some (.type "function") := of_ty (ba1 (d4 (d2 (ba2 hc))))
theorem jjq (hc : chk9 K = true) : keepIn K (.ref (q_E13 K)) = true := (ba1 (d8 hc))
theorem jjr (hc : chk9 K = true) : Pu.erB K (q_E13 K) = true := (ba1 (d8 (ba2 hc)))
theorem jjs (hc : chk9 K = true) : Pu.kitsB K (q_E13 K) [.ref (q_E0 K), .ref (q_E1 K), .ref (q_E2 K), .ref (q_E3 K), .ref (q_E4 K), .ref (q_E5 K), .ref (q_E6 K), .ref (q_E7 K), .ref (q_E9 K), .ref (q_E8 K), .type "ValueError"] [Bool.false, Bool.false, Bool.false, Bool.false, Bool.false, Bool.false, Bool.false, Bool.false, Bool.false, Bool.false, Bool.false] = true := (ba1 (d8 (d2 hc)))
theorem jjt (hc : chk9 K = true) : Pu.kitsB K (q_E13 K) [.ref (q_E10 K), .ref (q_E11 K), .ref (q_E12 K), .ref (q_E13 K), .ref (q_E14 K), .ref (q_E15 K), .type "KeyError", .type "IndexError", .type "LookupError", .type "OverflowError", .type "ArithmeticError", .type "RuntimeError"] [Bool.false, Bool.false, Bool.false, Bool.true, Bool.false, Bool.false, Bool.false, Bool.false, Bool.false, Bool.true, Bool.true, Bool.false] = true := (ba1 (d8 (d2 (ba2 hc))))
theorem jju (hc : chk9 K = true) : subIn K (.ref (q_E13 K)) (.type "BaseException") = some true := of_ob (ba1 (d8 (d4 hc)))
theorem jjv (hc : chk9 K = true) : PySem.W.typeIn K (.ref (q_E13 K)) = some (.type "type") := of_ty (ba1 (d8 (d4 (ba2 hc))))
theorem jjw (hc : chk9 K = true) : Pu.excBT "OverflowError.__new__" Pu.ofTail K (q_E13 K) = true := (ba1 (d8 (d4 (d2 hc))))
theorem jjx (hc : chk9 K = true) : findIn K (.ref (q_E13 K)) "__setattr__" = some (some (.builtin "object.__setattr__")) := of_bi (d8 (d4 (d2 (ba2 hc))))
theorem jjy (hc : chk10 K = true) : findIn K (.ref (q_E13 K)) "limit" = some none := jar (ba1 hc)
theorem jjz (hc : chk10 K = true) : PySem.W.typeIn K (.ref (jag K)) = some (.type "function") := of_ty (ba1 (ba2 hc))
theorem jjA (hc : chk10 K = true) : keepIn K (.ref (q_E14 K)) = true := (ba1 (d2 hc))
theorem jjB (hc : chk10 K = true) : Pu.erB K (q_E14 K) = true := (ba1 (d2 (ba2 hc)))
theorem jjC (hc : chk10 K = true) : Pu.kitsB K (q_E14 K) [.ref (q_E0 K), .ref (q_E1 K), .ref (q_E2 K), .ref (q_E3 K), .ref (q_E4 K), .ref (q_E5 K), .ref (q_E6 K), .ref (q_E7 K), .ref (q_E9 K), .ref (q_E8 K), .type "ValueError"] [Bool.false, Bool.false, Bool.false, Bool.false, Bool.false, Bool.false, Bool.false, Bool.false, Bool.false, Bool.false, Bool.false] = true := (ba1 (d4 hc))
theorem jjD (hc : chk10 K = true) : Pu.kitsB K (q_E14 K) [.ref (q_E10 K), .ref (q_E11 K), .ref (q_E12 K), .ref (q_E13 K), .ref (q_E14 K), .ref (q_E15 K), .type "KeyError", .type "IndexError", .type "LookupError", .type "OverflowError", .type "ArithmeticError", .type "RuntimeError"] [Bool.false, Bool.false, Bool.false, Bool.false, Bool.true, Bool.false, Bool.false, Bool.false, Bool.false, Bool.false, Bool.true, Bool.false] = true := (ba1 (d4 (ba2 hc)))
theorem jjE (hc : chk10 K = true) : subIn K (.ref (q_E14 K)) (.type "BaseException") = some true := of_ob (ba1 (d4 (d2 hc)))
theorem jjF (hc : chk10 K = true) : PySem.W.typeIn K (.ref (q_E14 K)) = some (.type "type") := of_ty (ba1 (d4 (d2 (ba2 hc))))
theorem jjG (hc : chk10 K = true) : Pu.excBT "ArithmeticError.__new__" Pu.arTail K (q_E14 K) = true := (ba1 (d8 hc))
theorem jjH (hc : chk10 K = true) : findIn K (.ref (q_E14 K)) "__setattr__" = some (some (.builtin "object.__setattr__")) := of_bi (ba1 (d8 (ba2 hc)))
theorem jjI (hc : chk10 K = true) : findIn K (.ref (q_E14 K)) "cause" = some none := jar (ba1 (d8 (d2 hc)))
theorem jjJ (hc : chk10 K = true) : PySem.W.typeIn K (.ref (jah K)) = some (.type "function") := of_ty (ba1 (d8 (d2 (ba2 hc))))
theorem jjK (hc : chk10 K = true) : keepIn K (.ref (q_E15 K)) = true := (ba1 (d8 (d4 hc)))
theorem jjL (hc : chk10 K = true) : Pu.erB K (q_E15 K) = true := (ba1 (d8 (d4 (ba2 hc))))
theorem jjM (hc : chk10 K = true) : Pu.kitsB K (q_E15 K) [.ref (q_E0 K), .ref (q_E1 K), .ref (q_E2 K), .ref (q_E3 K), .ref (q_E4 K), .ref (q_E5 K), .ref (q_E6 K), .ref (q_E7 K), .ref (q_E9 K), .ref (q_E8 K), .type "ValueError"] [Bool.false, Bool.false, Bool.false, Bool.false, Bool.false, Bool.false, Bool.false, Bool.false, Bool.false, Bool.false, Bool.false] = true := (ba1 (d8 (d4 (d2 hc))))
theorem jjN (hc : chk10 K = true) : Pu.kitsB K (q_E15 K) [.ref (q_E10 K), .ref (q_E11 K), .ref (q_E12 K), .ref (q_E13 K), .ref (q_E14 K), .ref (q_E15 K), .type "KeyError", .type "IndexError", .type "LookupError", .type "OverflowError", .type "ArithmeticError", .type "RuntimeError"] [Bool.false, Bool.false, Bool.false, Bool.false, Bool.false, Bool.true, Bool.false, Bool.false, Bool.false, Bool.false, Bool.false, Bool.true] = true := (d8 (d4 (d2 (ba2 hc))))
theorem jjO (hc : chk11 K = true) : subIn K (.ref (q_E15 K)) (.type "BaseException") = some true := of_ob (ba1 hc)
theorem jjP (hc : chk11 K = true) : PySem.W.typeIn K (.ref (q_E15 K)) = some (.type "type") := of_ty (ba1 (ba2 hc))
theorem jjQ (hc : chk11 K = true) : Pu.excBT "RuntimeError.__new__" Pu.rtTail K (q_E15 K) = true := (ba1 (d2 hc))
theorem jjR (hc : chk11 K = true) : findIn K (.ref (q_E15 K)) "__setattr__" = some (some (.builtin "object.__setattr__")) := of_bi (ba1 (d2 (ba2 hc)))
theorem jjS (hc : chk11 K = true) : findIn K (.ref (q_E15 K)) "number" = some none := jar (ba1 (d4 hc))
theorem jjT (hc : chk11 K = true) : PySem.W.typeIn K (.ref (jab K)) = some (.type "function") := of_ty (ba1 (d4 (ba2 hc)))
theorem jjU (hc : chk11 K = true) : nsIn K mainGlobals "_law_dice" = some (some (.ref (jaR K))) := jay (ba1 (d4 (d2 hc)))
theorem jjV (hc : chk11 K = true) : K.lookup (jaR K) = fnL (K.lookup (jaR K)) "_law_dice" "_law_dice" (defArgs jcM) (defBody jcM) (defScope jcM) := of_fn (ba1 (d4 (d2 (ba2 hc)))) (Option.some.inj (nthEq hp 7))
theorem jjW (hc : chk11 K = true) : codeIn K (fdOf (K.lookup (jaR K))).code "_law_dice" = true := (ba1 (d8 hc))
theorem jjX (hc : chk11 K = true) : keepIn K (.ref (jaR K)) = true := (ba1 (d8 (ba2 hc)))
theorem jjY (hc : chk11 K = true) : nsIn K mainGlobals "_law_roll" = some (some (.ref (jaS K))) := jay (ba1 (d8 (d2 hc)))
theorem jjZ (hc : chk11 K = true) : K.lookup (jaS K) = fnL (K.lookup (jaS K)) "_law_roll" "_law_roll" (defArgs jcN) (defBody jcN) (defScope jcN) := of_fn (ba1 (d8 (d2 (ba2 hc)))) (Option.some.inj (nthEq hp 8))
theorem jka (hc : chk11 K = true) : codeIn K (fdOf (K.lookup (jaS K))).code "_law_roll" = true := (ba1 (d8 (d4 hc)))
theorem jkb (hc : chk11 K = true) : keepIn K (.ref (jaS K)) = true := (ba1 (d8 (d4 (ba2 hc))))
theorem jkc (hc : chk11 K = true) : nsIn K mainGlobals "_law_pick" = some (some (.ref (jaT K))) := jay (ba1 (d8 (d4 (d2 hc))))
theorem jkd (hc : chk11 K = true) : K.lookup (jaT K) = fnL (K.lookup (jaT K)) "_law_pick" "_law_pick" (defArgs jdp) (defBody jdp) (defScope jdp) := of_fn (d8 (d4 (d2 (ba2 hc)))) (Option.some.inj (nthEq hp 9))
theorem jke (hc : chk12 K = true) : codeIn K (fdOf (K.lookup (jaT K))).code "_law_pick" = true := (ba1 hc)
theorem jkf (hc : chk12 K = true) : keepIn K (.ref (jaT K)) = true := (ba1 (ba2 hc))
theorem jhE (hc : chk12 K = true) : nsIn K mainGlobals "_law_kinds" = some (some (.ref (jaJ K))) := jay (ba1 (d2 hc))
theorem jhF (hc : chk12 K = true) : K.lookup (jaJ K) = fnL (K.lookup (jaJ K)) "_law_kinds" "_law_kinds" (defArgs jbr) (defBody jbr) (defScope jbr) := of_fn (ba1 (d2 (ba2 hc))) (Option.some.inj (nthEq hp 10))
theorem jhG (hc : chk12 K = true) : codeIn K (fdOf (K.lookup (jaJ K))).code "_law_kinds" = true := (ba1 (d4 hc))
theorem jhH (hc : chk12 K = true) : keepIn K (.ref (jaJ K)) = true := (ba1 (d4 (ba2 hc)))
theorem jgx (hc : chk12 K = true) : nsIn K mainGlobals "_law_others" = some (some (.ref (jaB K))) := jay (ba1 (d4 (d2 hc)))
theorem jgy (hc : chk12 K = true) : K.lookup (jaB K) = fnL (K.lookup (jaB K)) "_law_others" "_law_others" (defArgs jaU) (defBody jaU) (defScope jaU) := of_fn (ba1 (d4 (d2 (ba2 hc)))) (Option.some.inj (nthEq hp 11))
theorem jgz (hc : chk12 K = true) : codeIn K (fdOf (K.lookup (jaB K))).code "_law_others" = true := (ba1 (d8 hc))
theorem jgA (hc : chk12 K = true) : keepIn K (.ref (jaB K)) = true := (ba1 (d8 (ba2 hc)))
theorem jhI (hc : chk12 K = true) : nsIn K mainGlobals "_law_right" = some (some (.ref (jaK K))) := jay (ba1 (d8 (d2 hc)))
theorem jhJ (hc : chk12 K = true) : K.lookup (jaK K) = fnL (K.lookup (jaK K)) "_law_right" "_law_right" (defArgs jaM) (defBody jaM) (defScope jaM) := of_fn (ba1 (d8 (d2 (ba2 hc)))) (Option.some.inj (nthEq hp 12))
theorem jhK (hc : chk12 K = true) : codeIn K (fdOf (K.lookup (jaK K))).code "_law_right" = true := (ba1 (d8 (d4 hc)))
theorem jhL (hc : chk12 K = true) : keepIn K (.ref (jaK K)) = true := (ba1 (d8 (d4 (ba2 hc))))
theorem jnB (hc : chk12 K = true) : nsIn K mainGlobals "law" = some (some (.ref (jbp K))) := jay (ba1 (d8 (d4 (d2 hc))))
theorem jnC (hc : chk12 K = true) : K.lookup (jbp K) = fnL (K.lookup (jbp K)) "law" "law" (defArgs s_law) (defBody s_law) (defScope s_law) := of_fn (d8 (d4 (d2 (ba2 hc)))) (Option.some.inj (nthEq hp 13))
theorem jnD (hc : chk13 K = true) : codeIn K (fdOf (K.lookup (jbp K))).code "law" = true := (ba1 hc)
theorem jnE (hc : chk13 K = true) : keepIn K (.ref (jbp K)) = true := (ba1 (ba2 hc))
theorem jnF (hc : chk13 K = true) : nsIn K mainGlobals "int" = some none := jar (ba1 (d2 hc))
theorem jkg (hc : chk13 K = true) : nsIn K mainGlobals "bool" = some none := jar (ba1 (d2 (ba2 hc)))
theorem jnG (hc : chk13 K = true) : nsIn K mainGlobals "str" = some none := jar (ba1 (d4 hc))
theorem jkh (hc : chk13 K = true) : nsIn K mainGlobals "list" = some none := jar (ba1 (d4 (ba2 hc)))
theorem jhM (hc : chk13 K = true) : nsIn K mainGlobals "tuple" = some none := jar (ba1 (d4 (d2 hc)))
theorem jki (hc : chk13 K = true) : nsIn K mainGlobals "dict" = some none := jar (ba1 (d4 (d2 (ba2 hc))))
theorem jnH (hc : chk13 K = true) : nsIn K mainGlobals "abs" = some none := jar (ba1 (d8 hc))
theorem jnI (hc : chk13 K = true) : nsIn K mainGlobals "max" = some none := jar (ba1 (d8 (ba2 hc)))
theorem jnJ (hc : chk13 K = true) : nsIn K mainGlobals "min" = some none := jar (ba1 (d8 (d2 hc)))
theorem jhN (hc : chk13 K = true) : nsIn K mainGlobals "range" = some none := jar (ba1 (d8 (d2 (ba2 hc))))
theorem jkj (hc : chk13 K = true) : nsIn K mainGlobals "repr" = some none := jar (ba1 (d8 (d4 hc)))
theorem jeX (hc : chk13 K = true) : nsIn K mainGlobals "isinstance" = some none := jar (ba1 (d8 (d4 (ba2 hc))))
theorem jnK (hc : chk13 K = true) : nsIn K mainGlobals "len" = some none := jar (ba1 (d8 (d4 (d2 hc))))
theorem jeY (hc : chk13 K = true) : nsIn K mainGlobals "ValueError" = some none := jar (d8 (d4 (d2 (ba2 hc))))
theorem jfG (hc : chk14 K = true) : nsIn K mainGlobals "KeyError" = some none := jar (ba1 hc)
theorem jeZ (hc : chk14 K = true) : nsIn K mainGlobals "IndexError" = some none := jar (ba1 (ba2 hc))
theorem jeM (hc : chk14 K = true) : nsIn K mainGlobals "LookupError" = some none := jar (ba1 (d2 hc))
theorem jdQ (hc : chk14 K = true) : nsIn K mainGlobals "OverflowError" = some none := jar (ba1 (d2 (ba2 hc)))
theorem jdm (hc : chk14 K = true) : nsIn K mainGlobals "ArithmeticError" = some none := jar (ba1 (d4 hc))
theorem jei (hc : chk14 K = true) : nsIn K mainGlobals "RuntimeError" = some none := jar (d4 (ba2 hc))
end
theorem all_of {l : PySem.W.OpenLaw} {w : World} {K : Frag} {h : Heap} {mg : Str → Option Value} {fa : Addr} (X : K.In h) (G : h.Ns mainGlobals mg) (hfa : mg "law" = some (.ref fa)) (hc : chk K = true) (hp : prtH K = expd) :
    ∃ fd : FuncData, (∀ (s : Shared) (v : Value), BindsTo s fd ⟨[v], []⟩ [("_law_script", v)]) ∧ ∀ base : Heap, K.In base → base.Ns mainGlobals mg → FnG l.prog w K mg base (L2.CX l.prog w) 4 fa fd ["_law_script"] (spLaw K) := by
  have c0 : chk0 K = true := (ba1 hc)
  have c1 : chk1 K = true := (ba1 (ba2 hc))
  have c2 : chk2 K = true := (ba1 (ba2 (ba2 hc)))
  have c3 : chk3 K = true := (ba1 (ba2 (ba2 (ba2 hc))))
  have c4 : chk4 K = true := (ba1 (ba2 (ba2 (ba2 (ba2 hc)))))
  have c5 : chk5 K = true := (ba1 (ba2 (ba2 (ba2 (ba2 (ba2 hc))))))
  have c6 : chk6 K = true := (ba1 (ba2 (ba2 (ba2 (ba2 (ba2 (ba2 hc)))))))
  have c7 : chk7 K = true := (ba1 (ba2 (ba2 (ba2 (ba2 (ba2 (ba2 (ba2 hc))))))))
  have c8 : chk8 K = true := (ba1 (ba2 (ba2 (ba2 (ba2 (ba2 (ba2 (ba2 (ba2 hc)))))))))
  have c9 : chk9 K = true := (ba1 (ba2 (ba2 (ba2 (ba2 (ba2 (ba2 (ba2 (ba2 (ba2 hc))))))))))
  have c10 : chk10 K = true := (ba1 (ba2 (ba2 (ba2 (ba2 (ba2 (ba2 (ba2 (ba2 (ba2 (ba2 hc)))))))))))
  have c11 : chk11 K = true := (ba1 (ba2 (ba2 (ba2 (ba2 (ba2 (ba2 (ba2 (ba2 (ba2 (ba2 (ba2 hc))))))))))))
  have c12 : chk12 K = true := (ba1 (ba2 (ba2 (ba2 (ba2 (ba2 (ba2 (ba2 (ba2 (ba2 (ba2 (ba2 (ba2 hc)))))))))))))
  have c13 : chk13 K = true := (ba1 (ba2 (ba2 (ba2 (ba2 (ba2 (ba2 (ba2 (ba2 (ba2 (ba2 (ba2 (ba2 (ba2 hc))))))))))))))
  have c14 : chk14 K = true := (ba2 (ba2 (ba2 (ba2 (ba2 (ba2 (ba2 (ba2 (ba2 (ba2 (ba2 (ba2 (ba2 (ba2 hc))))))))))))))
  exact all_mk X G hfa (h_a_E0 hp c0) (h_a_E1 hp c0) (h_a_E2 hp c0) (h_a_E3 hp c0) (h_a_E4 hp c0) (h_a_E5 hp c0) (h_a_E6 hp c0) (h_a_E7 hp c0) (h_a_E8 hp c0) (h_a_E9 hp c0) (jmj hp c0) (jmk hp c0) (jml hp c0) (jmm hp c0) (jmn hp c0) (jmo hp c0) (jdg hp c1) (jdh hp c1) (jdi hp c1) (jdj hp c1) (jdk hp c1) (jdl hp c1) (jcE hp c1) (jcF hp c1) (jcG hp c1) (jcH hp c1) (jcI hp c1) (jcJ hp c1) (jcf hp c1) (jcg hp c1) (jch hp c1) (jci hp c1) (jcj hp c2) (jck hp c2) (jbw hp c2) (jbx hp c2) (jby hp c2) (jbz hp c2) (jbA hp c2) (jbB hp c2) (jdW hp c2) (jdX hp c2) (jdY hp c2) (jdZ hp c2) (jea hp c2) (jeb hp c2) (jec hp c2) (jed hp c2) (jee hp c3) (jef hp c3) (jeg hp c3) (jeh hp c3) (jbC hp c3) (jbD hp c3) (jbE hp c3) (jbF hp c3) (jbG hp c3) (jbH hp c3) (jmp hp c3) (jmq hp c3) (jmr hp c3) (jms hp c3) (jmt hp c3) (jmu hp c3) (jmv hp c4) (jmw hp c4) (jmx hp c4) (jmy hp c4) (jmz hp c4) (jmA hp c4) (jmB hp c4) (jmC hp c4) (jmD hp c4) (jmE hp c4) (jmF hp c4) (jmG hp c4) (jmH hp c4) (jmI hp c4) (jmJ hp c4) (jmK hp c4) (jmL hp c5) (jmM hp c5) (jmN hp c5) (jmO hp c5) (jmP hp c5) (jmQ hp c5) (jmR hp c5) (jmS hp c5) (jmT hp c5) (jmU hp c5) (jmV hp c5) (jmW hp c5) (jmX hp c5) (jmY hp c5) (jmZ hp c5) (jna hp c5) (jnb hp c6) (jnc hp c6) (jnd hp c6) (jne hp c6) (jnf hp c6) (jng hp c6) (jnh hp c6) (jni hp c6) (jnj hp c6) (jnk hp c6) (jnl hp c6) (jnm hp c6) (jnn hp c6) (jno hp c6) (jnp hp c6) (jnq hp c6) (jnr hp c7) (jns hp c7) (jnt hp c7) (jnu hp c7) (jnv hp c7) (jnw hp c7) (jnx hp c7) (jny hp c7) (jnz hp c7) (jnA hp c7) (jiM hp c7) (jiN hp c7) (jiO hp c7) (jiP hp c7) (jiQ hp c7) (jiR hp c7) (jiS hp c8) (jiT hp c8) (jiU hp c8) (jiV hp c8) (jiW hp c8) (jiX hp c8) (jiY hp c8) (jiZ hp c8) (jja hp c8) (jjb hp c8) (jjc hp c8) (jjd hp c8) (jje hp c8) (jjf hp c8) (jjg hp c8) (jjh hp c8) (jji hp c9) (jjj hp c9) (jjk hp c9) (jjl hp c9) (jjm hp c9) (jjn hp c9) (jjo hp c9) (jjp hp c9) (jjq hp c9) (jjr hp c9) (jjs hp c9) (jjt hp c9) (jju hp c9) (jjv hp c9) (jjw hp c9) (jjx hp c9) (jjy hp c10) (jjz hp c10) (jjA hp c10) (jjB hp c10) (jjC hp c10) (jjD hp c10) (jjE hp c10) (jjF hp c10) (jjG hp c10) (jjH hp c10) (jjI hp c10) (jjJ hp c10) (jjK hp c10) (jjL hp c10) (jjM hp c10) (jjN hp c10) (jjO hp c11) (jjP hp c11) (jjQ hp c11) (jjR hp c11) (jjS hp c11) (jjT hp c11) (jjU hp c11) (jjV hp c11) (jjW hp c11) (jjX hp c11) (jjY hp c11) (jjZ hp c11) (jka hp c11) (jkb hp c11) (jkc hp c11) (jkd hp c11) (jke hp c12) (jkf hp c12) (jhE hp c12) (jhF hp c12) (jhG hp c12) (jhH hp c12) (jgx hp c12) (jgy hp c12) (jgz hp c12) (jgA hp c12) (jhI hp c12) (jhJ hp c12) (jhK hp c12) (jhL hp c12) (jnB hp c12) (jnC hp c12) (jnD hp c13) (jnE hp c13) (jnF hp c13) (jkg hp c13) (jnG hp c13) (jkh hp c13) (jhM hp c13) (jki hp c13) (jnH hp c13) (jnI hp c13) (jnJ hp c13) (jhN hp c13) (jkj hp c13) (jeX hp c13) (jnK hp c13) (jeY hp c13) (jfG hp c14) (jeZ hp c14) (jeM hp c14) (jdQ hp c14) (jdm hp c14) (jei hp c14)
end K0
open PySem PySem.W PySem.Calls PyProof.Rows
set_option maxRecDepth 100000 in
set_option maxHeartbeats 0 in
theorem PySem.Challenge.cw_firstneed_k00_errors_and_what_they_keep_holds : PySem.Challenge.rw_firstneed_k00_errors_and_what_they_keep.Holds := by
  w_on; o_law
  refine HandSHeadRun.head_any (r := OpenLaw.row PySem.Challenge.rw_firstneed_k00_errors_and_what_they_keep) (q := view (OpenLaw.row PySem.Challenge.rw_firstneed_k00_errors_and_what_they_keep).prog [24]) (H := K0.hk) (ob := Pu.obR 900 K0.chk K0.prtH) (M := 6000) (loose := K0.hnames) (d := HandSHeadRun.topDef (OpenLaw.row PySem.Challenge.rw_firstneed_k00_errors_and_what_they_keep).prog 24) (kwd := []) Pu.obR_eq
    (by kernel_rfl) (fun s => by kernel_rfl) K0.run (by kernel_rfl) (by kernel_rfl) (by kernel_rfl) (by rfl) (by first | assumption | decide +kernel) (by decide +kernel) ⟨rfl, rfl, rfl, rfl, rfl, by decide +kernel⟩ ?hw ?hc
  case hw => w_witness2
  case hc =>
    refine Pu.walk_ofGR (l := PySem.Challenge.rw_firstneed_k00_errors_and_what_they_keep) (n := 63) (k := 4) (x := "_law_script") (Y := fun K => K0.chk K = true ∧ K0.prtH K = K0.expd) (sp := K0.spLaw) rfl (by decide) (by kernel_rfl) ⟨rfl, by decide, by decide⟩ (fun w h Y => Y) ?F (fun K H a ns hl _ hS => ⟨a, ns, rfl, hS, hl, fun _ => rfl⟩)
    intro w mg fa h K KX Y G hmg0
    have hmg : mg ("law" : PySem.Str) = some (.ref fa) := by
      have e : (HandSHeadRun.topDef (OpenLaw.row PySem.Challenge.rw_firstneed_k00_errors_and_what_they_keep).prog 24).name = ("law" : PySem.Str) := by kernel_rfl
      rw [← e]
      exact hmg0
    exact K0.all_of KX G hmg Y.1 Y.2
