import PyProof.Rows.All
import Wide.All
import OpenK.AllK
import Wide.FinOn
import HandS.Head0
import HandS.Head1
import HandS.Head2
import HandS.HeadHook1
import HandS.HeadHook2
import HandS.ExcInit
import HandS.Words
import KE.KStateDown
import HandS.ForMost
import HandS.IsInst
import HandS.Evl
import HandS.Walk
import HandS.Star
import HandS.Style
import HandS.TupAny
import HandS.DictComp
import HandS.Deep
import KE.GoesMore
import KE.GoesEnum
import HandS.Codes
import HandS.Zip
import HandS.ForExc
import HandS.OwnEq
import HandS.ClsMeth
import HandS.Property
import OpenK.KOps
import OpenK.KMeth
import HandS.TryOnly
import HandS.WordsExc
import HandS.RaiseMore
import HandS.More
import HandS.Dict
import HandS.Conv
import HandS.ListItems
import HandS.Exc
import HandS.TryMany
import HandS.ExcField
import PyProof.ReprRoads
import KE.KCallOwn
import HandS.Finally
import KE.SortData
import PyProof.Rows.CallKwBuiltin
import KE.KMinKey
import HandS.SortKw
import KE.KDictZip
import PyProof.WalksMore
import HandS.SetKeys
import HandS.Strs
import PyProof.Rows.SetFrom
import KE.KDictList
import KE.KEqNest
import HandS.SetTxt0
import HandS.Set
import HandS.NoneIn
import HandS.Defaults
import HandS.FStr
import KE.KFmtOwn
import KE.KeyNested
import PyProof.DictWalks
import HandS.Text
import PyProof.SliceList
import KE.KTryMore
import HandS.ReplaceLit
import HandS.TupMul
import KE.KEqDict
import HandS.DictTup
import PyProof.NeKinds
import HandS.List
import HandS.Iter
import HandS.Comp
import HandS.TupSets
import HandS.SetFor
import HandS.TupLe
import KE.KDictWalk
import HandS.Small
import HandS.TupLen
import KE.KIntText
import PyProof.StrLawsTight
import HandS.ExcCtx
import HandS.SuiteRaise
import HandS.RaiseFrom
import HandS.Lambda
import HandS.EndTab
import PySem.Challenge.RW_firstneed_k70_whole_numbers_states_and_t
set_option Elab.async false
set_option maxRecDepth 100000
set_option maxHeartbeats 1000000
set_option linter.all false
namespace Pu
open PySem PySem.Spec PyProof.Rows L2
theorem ba1 {a b : Bool} (h : (a && b) = true) : a = true := (Bool.and_eq_true_iff.mp h).1
theorem ba2 {a b : Bool} (h : (a && b) = true) : b = true := (Bool.and_eq_true_iff.mp h).2
def refOf : Option (Option Value) → Addr
  | some (some (.ref a)) => a
  | _ => 0
def hasRef : Option (Option Value) → Bool
  | some (some (.ref _)) => true
  | _ => false
theorem of_ref {o : Option (Option Value)} (h : hasRef o = true) : o = some (some (.ref (refOf o))) := by
  unfold hasRef at h
  split at h
  · rfl
  · cases h
def isNon2 : Option (Option Value) → Bool
  | some none => true
  | _ => false
theorem of_non2 {o : Option (Option Value)} (h : isNon2 o = true) : o = some none := by
  unfold isNon2 at h
  split at h
  · rfl
  · cases h
def isBi (s : String) : Option (Option Value) → Bool
  | some (some (.builtin t)) => t == s
  | _ => false
theorem of_bi {s : String} {o : Option (Option Value)} (h : isBi s o = true) : o = some (some (.builtin s)) := by
  unfold isBi at h
  split at h
  · rw [eq_of_beq h]
  · cases h
def isOB (b : Bool) : Option Bool → Bool
  | some c => c == b
  | _ => false
theorem of_ob {b : Bool} {o : Option Bool} (h : isOB b o = true) : o = some b := by
  unfold isOB at h
  split at h
  · rw [eq_of_beq h]
  · cases h
def isTyO (s : String) : Option Value → Bool
  | some (.type t) => t == s
  | _ => false
theorem of_ty {s : String} {o : Option Value} (h : isTyO s o = true) : o = some (.type s) := by
  unfold isTyO at h
  split at h
  · rw [eq_of_beq h]
  · cases h
def isInt (n : Int) : Option (Option Value) → Bool
  | some (some (.int m _)) => m == n
  | _ => false
def tokI : Option (Option Value) → Tok
  | some (some (.int _ t)) => t
  | _ => 0
theorem of_int {n : Int} {o : Option (Option Value)} (h : isInt n o = true) : o = some (some (.int n (tokI o))) := by
  unfold isInt at h
  split at h
  · rw [eq_of_beq h]; rfl
  · cases h
def isStr (x : Str) : Option (Option Value) → Bool
  | some (some (.str y _)) => y == x
  | _ => false
def tokS : Option (Option Value) → Tok
  | some (some (.str _ t)) => t
  | _ => 0
theorem of_str {x : Str} {o : Option (Option Value)} (h : isStr x o = true) : o = some (some (.str x (tokS o))) := by
  unfold isStr at h
  split at h
  · rw [eq_of_beq h]; rfl
  · cases h
def ocOf : Option Obj → Value
  | some o => o.cls
  | none => .none
def odOf : Option Obj → Option Addr
  | some o => o.dict
  | none => none
def slOf : Option Obj → Array (Option Value)
  | some o => o.slots
  | none => #[]
def fn0 : FuncData := PySem.W.fnOf Str.empty Str.empty ⟨[], [], none, [], [], none, []⟩ [] { kind := .function, names := [], isGenerator := false, isCoroutine := false } .none .none .none .none none .none .none
def fdOf : Option Obj → FuncData
  | some ⟨_, _, .func f, _⟩ => f
  | _ => fn0
def bodyOf : FuncBody → List Stmt
  | .stmts b => b
  | _ => []
def isStmts : FuncBody → Bool
  | .stmts _ => true
  | _ => false
def isFnO : Option Obj → Bool
  | some ⟨_, _, .func f, _⟩ => isStmts f.body && (f.globals == mainGlobals && (f.closure.isEmpty && f.builtins == builtinsNs))
  | _ => false
def isNonV0 : Value → Bool
  | .none => true
  | _ => false
def isRefV : Value → Bool
  | .ref _ => true
  | _ => false
def refV : Value → Addr
  | .ref a => a
  | _ => 0
abbrev FnT : Type := Str × Str × Arguments × List Stmt × Scope
abbrev mkT (a q : Str) (ar : Arguments) (b : List Stmt) (sc : Scope) : FnT := (a, q, ar, b, sc)
def fnT (o : Option Obj) : FnT := ((fdOf o).name, (fdOf o).qualname, (fdOf o).params, bodyOf (fdOf o).body, (fdOf o).scope)
theorem of_fnG {o : Option Obj} {nm q : Str} {ar : Arguments} {b : List Stmt} {sc : Scope} (h : isFnO o = true) (p : fnT o = (nm, q, ar, b, sc)) :
    o = some ⟨ocOf o, odOf o, .func (PySem.W.fnOf nm q ar b sc (fdOf o).defaults (fdOf o).kwdefaults (fdOf o).doc (fdOf o).pyModule (fdOf o).annotations (fdOf o).code (fdOf o).closureTuple), slOf o⟩ := by
  unfold isFnO at h
  split at h
  · rename_i c d f sl
    have p : (f.name, f.qualname, f.params, bodyOf f.body, f.scope) = (nm, q, ar, b, sc) := p
    obtain ⟨n1, q1, a1, b1, s1, g1, c1, d1, k1, dc1, pm1, an1, cd1, ct1, bi1⟩ := f
    have h1 := ba1 h
    have h2 := eq_of_beq (ba1 (ba2 h))
    have h3 := ba1 (ba2 (ba2 h))
    have h4 := eq_of_beq (ba2 (ba2 (ba2 h)))
    try simp only at h1 h2 h3 h4 p
    cases b1 with
    | stmts bb =>
      cases c1 with
      | nil =>
        obtain ⟨rfl, rfl, rfl, rfl, rfl⟩ : n1 = nm ∧ q1 = q ∧ a1 = ar ∧ bb = b ∧ s1 = sc := ⟨congrArg (·.1) p, congrArg (·.2.1) p, congrArg (·.2.2.1) p, congrArg (·.2.2.2.1) p, congrArg (·.2.2.2.2) p⟩
        subst h2 h4
        rfl
      | cons _ _ => cases h3
    | expr _ => cases h1
  · cases h
theorem of_fn {o : Option Obj} {nm q : Str} {ar : Arguments} {b : List Stmt} {sc : Scope} (h : (isFnO o && isNonV0 (fdOf o).defaults) = true) (p : fnT o = (nm, q, ar, b, sc)) :
    o = some ⟨ocOf o, odOf o, .func (PySem.W.fnOf nm q ar b sc .none (fdOf o).kwdefaults (fdOf o).doc (fdOf o).pyModule (fdOf o).annotations (fdOf o).code (fdOf o).closureTuple), slOf o⟩ := by
  have e := of_fnG (ba1 h) p
  have h2 := ba2 h
  generalize (fdOf o).defaults = dv at e h2
  cases dv with
  | none => exact e
  | _ => cases h2
theorem nthEq {α : Type} {l l' : List α} (h : l = l') (i : Nat) : l[i]? = l'[i]? := by rw [h]
def downs : Nat → List Addr
  | 0 => []
  | n + 1 => n :: downs n
/-- the module's names first: most facts look there -/
def hotO : Option Obj → Bool
  | some ⟨.none, _, _, _⟩ => false
  | some ⟨_, _, .seq _ _, _⟩ => false
  | some _ => true
  | none => false
/-- objects that facts look at stand first: no tuples, no parts of codes -/
def addrs (g : Addr → Option Obj) (N : Nat) : List Addr := mainGlobals :: ((downs N).filter (fun a => hotO (g a)) ++ downs N)
def hkR (N : Nat) (chk : PySem.W.Frag → Bool) (prt : PySem.W.Frag → List FnT) (exp : List FnT) : PySem.W.Hook where
  α := Bool × List FnT
  obs s := (chk (He.frG s.heap.get? (addrs s.heap.get? N)), prt (He.frG s.heap.get? (addrs s.heap.get? N)))
  val _ := (true, exp)
  says _ h := ∃ K : PySem.W.Frag, K.In h ∧ chk K = true ∧ prt K = exp
  of _ _ e := ⟨_, He.frG_in, congrArg Prod.fst e, congrArg Prod.snd e⟩
  keeps _ _ _ := fun ⟨K, i, p⟩ k => ⟨K, fun a o l => k a o (i a o l), p⟩
def obR (N : Nat) (chk : PySem.W.Frag → Bool) (prt : PySem.W.Frag → List FnT) (s : PySem.W.SharedT) : Bool × List FnT := (chk (He.frG (HandSHeadRun.getT s) (addrs (HandSHeadRun.getT s) N)), prt (He.frG (HandSHeadRun.getT s) (addrs (HandSHeadRun.getT s) N)))
theorem obR_eq {N : Nat} {chk : PySem.W.Frag → Bool} {prt : PySem.W.Frag → List FnT} {exp : List FnT} (s : PySem.W.SharedT) : obR N chk prt s = (hkR N chk prt exp).obs s.abs := by
  have e : HandSHeadRun.getT s = s.abs.heap.get? := funext (HandSHeadRun.getT_eq s)
  unfold obR
  rw [e]
  rfl
end Pu
set_option Elab.async false
set_option maxRecDepth 100000
set_option maxHeartbeats 1000000
set_option linter.all false
namespace Pu
open PySem PySem.Spec PyProof.Rows L2
def slB : List (Option Value) → Bool
  | [_, _, _, _, some (.builtin n), _] => n == "ValueError.__new__"
  | _ => false
def mroB (C : Addr) : List Value → Bool
  | .ref D :: bm => D == C && PySem.HandSPX.refsVE bm
  | _ => false
def excB (K : PySem.W.Frag) (C : Addr) : Bool := match K.lookup C with
  | some ⟨.type t, _, .cls cd, sl⟩ => t == "type" && (slB sl.toList && (mroB C cd.mro && (cd.hasDict && !cd.hasDel)))
  | _ => false
theorem of_exB {K : PySem.W.Frag} {C : Addr} (h : excB K C = true) : ∃ nm q N bs bm sn sub ab col dd k0 k1 k2 k3 k5, K.lookup C = some (excClassObj nm q C N bs bm true sn sub ab col dd k0 k1 k2 k3 k5 "ValueError.__new__") ∧ PySem.HandSPX.refsVE bm = true := by
  unfold excB at h
  split at h
  · rename_i t d cd sl e
    have h1 := eq_of_beq (ba1 h)
    have h2 := ba1 (ba2 h)
    have h3 := ba1 (ba2 (ba2 h))
    have h4 := ba1 (ba2 (ba2 (ba2 h)))
    have h5 := ba2 (ba2 (ba2 (ba2 h)))
    subst h1
    obtain ⟨nm, bs, mro, N, q, hd, sn, sub, ab, col, hdel⟩ := cd
    obtain ⟨sl⟩ := sl
    simp only at h2 h3 h4 h5
    subst h4
    have h5 : hdel = false := by cases hdel <;> first | rfl | cases h5
    subst h5
    unfold slB at h2
    split at h2
    · have h2 := eq_of_beq h2
      subst h2
      unfold mroB at h3
      split at h3
      · rename_i D bm
        have h6 := eq_of_beq (ba1 h3)
        subst h6
        exact ⟨_, _, _, _, _, _, _, _, _, _, _, _, _, _, _, e, ba2 h3⟩
      · cases h3
    · cases h2
  · cases h
end Pu
set_option Elab.async false
set_option maxRecDepth 100000
set_option maxHeartbeats 1000000
set_option linter.all false
namespace Pu
open PySem PySem.Spec PyProof.Rows L2
/-- the fragment without the objects at ps -/
def cutK (K : PySem.W.Frag) (ps : List Addr) : PySem.W.Frag := K.filter fun e => !ps.contains e.1
/-- the table of the code object at c -/
def tabOf (K : PySem.W.Frag) (c : Addr) : Addr := match K.lookup c with
  | some o => (match o.data with
    | .fields vs => (match (vs[11]? : Option Value) with
      | some (Value.ref P) => P
      | _ => 0)
    | _ => 0)
  | none => 0
def isStrV : Value → Bool
  | .str _ _ => true
  | _ => false
def isIntV : Value → Bool
  | .int _ _ => true
  | _ => false
def isBlV : Value → Bool
  | .bool _ => true
  | _ => false
def codeHdB (K : PySem.W.Frag) (c : Addr) : Bool := match K.lookup c with
  | some o => (match o.cls with
    | .type t => t == "code"
    | _ => false) && (match o.data with
    | .fields vs => (match (vs[11]? : Option Value) with
      | some (Value.ref P) => !(c == P)
      | _ => false) && isStrV (vs.getD 18 .none) && isIntV (vs.getD 7 .none) && isBlV (vs.getD 9 .none) && isIntV (vs.getD 10 .none)
    | _ => false)
  | none => false
def isTbO : Option Obj → Bool
  | some o => (match o.cls with
    | .none => true
    | _ => false) && (match o.data with
    | .fields vs => vs.size == 0
    | _ => false) && o.dict.isNone && o.slots.size == 0
  | none => false
def nodB : List Addr → Bool
  | [] => true
  | a :: l => !l.contains a && nodB l
def tcs (nms : List Str) (K : PySem.W.Frag) : List Addr := nms.map fun nm => refV (fdOf (K.lookup (refOf (PySem.W.nsIn K mainGlobals nm)))).code
def KTof (nms : List Str) (K : PySem.W.Frag) : PySem.W.Frag := cutK K ((tcs nms K).map (tabOf K))
def chkTb (nms : List Str) (K : PySem.W.Frag) : Bool := (tcs nms K).all (fun c => isTbO (K.lookup (tabOf K c)) && codeHdB K c) && (nodB ((tcs nms K).map (tabOf K)) && tcs nms (KTof nms K) == tcs nms K)
end Pu
set_option Elab.async false
set_option maxRecDepth 100000
set_option maxHeartbeats 1000000
set_option linter.all false
namespace K70
open PySem PySem.Spec PyProof.Rows L2 Pu
def topR (i : Nat) : Stmt := PySem.Challenge.pw_firstneed_k70_whole_numbers_states_and_t.main.body.getD i (.Pass ⟨0, 0, 0, 0⟩)
def q_CT (K : PySem.W.Frag) : Addr := refOf (PySem.W.nsIn K mainGlobals "InvalidTable")
def q_CO (K : PySem.W.Frag) : Addr := refOf (PySem.W.nsIn K mainGlobals "InvalidOperation")
def q_CE (K : PySem.W.Frag) : Addr := refOf (PySem.W.nsIn K mainGlobals "ParseError")
def q_f_ParseError_init (K : PySem.W.Frag) : Addr := refOf (PySem.W.findIn K (.ref (q_CE K)) "__init__")
def q_f_dice (K : PySem.W.Frag) : Addr := refOf (PySem.W.nsIn K mainGlobals "_law_dice")
def q_f_roll (K : PySem.W.Frag) : Addr := refOf (PySem.W.nsIn K mainGlobals "_law_roll")
def q_f_pick (K : PySem.W.Frag) : Addr := refOf (PySem.W.nsIn K mainGlobals "_law_pick")
def q_f_some (K : PySem.W.Frag) : Addr := refOf (PySem.W.nsIn K mainGlobals "_law_some")
def q_f_got (K : PySem.W.Frag) : Addr := refOf (PySem.W.nsIn K mainGlobals "_law_got")
def q_f_is_integer (K : PySem.W.Frag) : Addr := refOf (PySem.W.nsIn K mainGlobals "is_integer")
def q_f_is_within (K : PySem.W.Frag) : Addr := refOf (PySem.W.nsIn K mainGlobals "is_within")
def q_f_number_of (K : PySem.W.Frag) : Addr := refOf (PySem.W.nsIn K mainGlobals "number_of")
def q_f_require_string (K : PySem.W.Frag) : Addr := refOf (PySem.W.nsIn K mainGlobals "require_string")
def q_f_are_numbers (K : PySem.W.Frag) : Addr := refOf (PySem.W.nsIn K mainGlobals "are_numbers")
def q_f_is_rising (K : PySem.W.Frag) : Addr := refOf (PySem.W.nsIn K mainGlobals "is_rising")
def q_f_numbers_text (K : PySem.W.Frag) : Addr := refOf (PySem.W.nsIn K mainGlobals "numbers_text")
def q_f_numbers_of (K : PySem.W.Frag) : Addr := refOf (PySem.W.nsIn K mainGlobals "numbers_of")
def q_f_write_numbers (K : PySem.W.Frag) : Addr := refOf (PySem.W.nsIn K mainGlobals "write_numbers")
def q_f_read_numbers (K : PySem.W.Frag) : Addr := refOf (PySem.W.nsIn K mainGlobals "read_numbers")
def q_f_is_state_row (K : PySem.W.Frag) : Addr := refOf (PySem.W.nsIn K mainGlobals "is_state_row")
def q_f_state_text (K : PySem.W.Frag) : Addr := refOf (PySem.W.nsIn K mainGlobals "state_text")
def q_f_state_of (K : PySem.W.Frag) : Addr := refOf (PySem.W.nsIn K mainGlobals "state_of")
def q_f_write_state (K : PySem.W.Frag) : Addr := refOf (PySem.W.nsIn K mainGlobals "write_state")
def q_f_read_state (K : PySem.W.Frag) : Addr := refOf (PySem.W.nsIn K mainGlobals "read_state")
def q_f_is_table_row (K : PySem.W.Frag) : Addr := refOf (PySem.W.nsIn K mainGlobals "is_table_row")
def q_f_write_table (K : PySem.W.Frag) : Addr := refOf (PySem.W.nsIn K mainGlobals "write_table")
def q_f_table_row_of (K : PySem.W.Frag) : Addr := refOf (PySem.W.nsIn K mainGlobals "table_row_of")
def q_f_read_table (K : PySem.W.Frag) : Addr := refOf (PySem.W.nsIn K mainGlobals "read_table")
def q_f_rising (K : PySem.W.Frag) : Addr := refOf (PySem.W.nsIn K mainGlobals "_law_rising")
def q_f_a_state (K : PySem.W.Frag) : Addr := refOf (PySem.W.nsIn K mainGlobals "_law_a_state")
def q_f_line (K : PySem.W.Frag) : Addr := refOf (PySem.W.nsIn K mainGlobals "_law_line")
def q_f_state_line (K : PySem.W.Frag) : Addr := refOf (PySem.W.nsIn K mainGlobals "_law_state_line")
def q_f_due_numbers (K : PySem.W.Frag) : Addr := refOf (PySem.W.nsIn K mainGlobals "_law_due_numbers")
def q_f_is_rising' (K : PySem.W.Frag) : Addr := refOf (PySem.W.nsIn K mainGlobals "_law_is_rising")
def q_f_due_state (K : PySem.W.Frag) : Addr := refOf (PySem.W.nsIn K mainGlobals "_law_due_state")
def q_f_due_table (K : PySem.W.Frag) : Addr := refOf (PySem.W.nsIn K mainGlobals "_law_due_table")
def q_f_bent (K : PySem.W.Frag) : Addr := refOf (PySem.W.nsIn K mainGlobals "_law_bent")
def q_f_strings_right (K : PySem.W.Frag) : Addr := refOf (PySem.W.nsIn K mainGlobals "_law_strings_right")
def q_f_right (K : PySem.W.Frag) : Addr := refOf (PySem.W.nsIn K mainGlobals "_law_right")
def q_f_law (K : PySem.W.Frag) : Addr := refOf (PySem.W.nsIn K mainGlobals "law")
def q_tc_strings_right (K : PySem.W.Frag) : Addr := refV ((fdOf (K.lookup (q_f_strings_right K))).code)
def chk0 (K : PySem.W.Frag) : Bool := hasRef (PySem.W.nsIn K mainGlobals "InvalidTable") && (hasRef (PySem.W.nsIn K mainGlobals "InvalidOperation") && (hasRef (PySem.W.nsIn K mainGlobals "ParseError") && (hasRef (PySem.W.findIn K (.ref (q_CE K)) "__init__") && (PySem.W.isFn K (.ref (q_f_ParseError_init K)) && ((isFnO (K.lookup (q_f_ParseError_init K)) && isNonV0 (fdOf (K.lookup (q_f_ParseError_init K))).defaults) && (PySem.W.codeIn K (fdOf (K.lookup (q_f_ParseError_init K))).code "ParseError.__init__" && (PySem.W.keepIn K (.ref (q_f_ParseError_init K)) && (PySem.W.fnIn K (q_f_ParseError_init K) && (PySem.W.excIn K (q_CT K) [.type "ValueError", .type "Exception", .type "BaseException", .type "object"] "ValueError.__new__" && (PySem.W.keepIn K (.ref (q_CT K)) && (isOB true (PySem.W.subIn K (.ref (q_CT K)) (.type "BaseException")) && (isTyO "type" (PySem.W.typeIn K (.ref (q_CT K))) && (PySem.W.isClsIn K (q_CT K) && (isOB true (PySem.W.subIn K (.ref (q_CT K)) (.ref (q_CT K))) && (PySem.W.excIn K (q_CO K) [.type "ValueError", .type "Exception", .type "BaseException", .type "object"] "ValueError.__new__")))))))))))))))
def chk1 (K : PySem.W.Frag) : Bool := PySem.W.keepIn K (.ref (q_CO K)) && (isOB true (PySem.W.subIn K (.ref (q_CO K)) (.type "BaseException")) && (isTyO "type" (PySem.W.typeIn K (.ref (q_CO K))) && (PySem.W.isClsIn K (q_CO K) && (isOB true (PySem.W.subIn K (.ref (q_CO K)) (.ref (q_CO K))) && (PySem.W.keepIn K (.ref (q_CE K)) && (isOB true (PySem.W.subIn K (.ref (q_CE K)) (.type "BaseException")) && (isTyO "type" (PySem.W.typeIn K (.ref (q_CE K))) && (PySem.W.isClsIn K (q_CE K) && (isOB true (PySem.W.subIn K (.ref (q_CE K)) (.ref (q_CE K))) && (Pu.excB K (q_CE K) && (isBi "object.__setattr__" (PySem.W.findIn K (.ref (q_CE K)) "__setattr__") && (isBi "BaseException.__getattribute__" (PySem.W.findIn K (.ref (q_CE K)) "__getattribute__") && (isNon2 (PySem.W.findIn K (.ref (q_CE K)) "__getattr__") && (PySem.W.hasDictIn K (q_CE K) && (isNon2 (PySem.W.findIn K (.ref (q_CE K)) "line"))))))))))))))))
def chk2 (K : PySem.W.Frag) : Bool := isTyO "function" (PySem.W.typeIn K (.ref (q_f_ParseError_init K))) && (hasRef (PySem.W.nsIn K mainGlobals "_law_dice") && ((isFnO (K.lookup (q_f_dice K)) && isNonV0 (fdOf (K.lookup (q_f_dice K))).defaults) && (PySem.W.codeIn K (fdOf (K.lookup (q_f_dice K))).code "_law_dice" && (PySem.W.keepIn K (.ref (q_f_dice K)) && (hasRef (PySem.W.nsIn K mainGlobals "_law_roll") && ((isFnO (K.lookup (q_f_roll K)) && isNonV0 (fdOf (K.lookup (q_f_roll K))).defaults) && (PySem.W.codeIn K (fdOf (K.lookup (q_f_roll K))).code "_law_roll" && (PySem.W.keepIn K (.ref (q_f_roll K)) && (hasRef (PySem.W.nsIn K mainGlobals "_law_pick") && ((isFnO (K.lookup (q_f_pick K)) && isNonV0 (fdOf (K.lookup (q_f_pick K))).defaults) && (PySem.W.codeIn K (fdOf (K.lookup (q_f_pick K))).code "_law_pick" && (PySem.W.keepIn K (.ref (q_f_pick K)) && (hasRef (PySem.W.nsIn K mainGlobals "_law_some") && ((isFnO (K.lookup (q_f_some K)) && isNonV0 (fdOf (K.lookup (q_f_some K))).defaults) && (PySem.W.codeIn K (fdOf (K.lookup (q_f_some K))).code "_law_some")))))))))))))))
def chk3 (K : PySem.W.Frag) : Bool := PySem.W.keepIn K (.ref (q_f_some K)) && (hasRef (PySem.W.nsIn K mainGlobals "_law_got") && ((isFnO (K.lookup (q_f_got K)) && isNonV0 (fdOf (K.lookup (q_f_got K))).defaults) && (PySem.W.codeIn K (fdOf (K.lookup (q_f_got K))).code "_law_got" && (PySem.W.keepIn K (.ref (q_f_got K)) && (hasRef (PySem.W.nsIn K mainGlobals "is_integer") && ((isFnO (K.lookup (q_f_is_integer K)) && isNonV0 (fdOf (K.lookup (q_f_is_integer K))).defaults) && (PySem.W.codeIn K (fdOf (K.lookup (q_f_is_integer K))).code "is_integer" && (PySem.W.keepIn K (.ref (q_f_is_integer K)) && (hasRef (PySem.W.nsIn K mainGlobals "is_within") && ((isFnO (K.lookup (q_f_is_within K)) && isNonV0 (fdOf (K.lookup (q_f_is_within K))).defaults) && (PySem.W.codeIn K (fdOf (K.lookup (q_f_is_within K))).code "is_within" && (PySem.W.keepIn K (.ref (q_f_is_within K)) && (hasRef (PySem.W.nsIn K mainGlobals "number_of") && ((isFnO (K.lookup (q_f_number_of K)) && isNonV0 (fdOf (K.lookup (q_f_number_of K))).defaults) && (PySem.W.codeIn K (fdOf (K.lookup (q_f_number_of K))).code "number_of")))))))))))))))
def chk4 (K : PySem.W.Frag) : Bool := PySem.W.keepIn K (.ref (q_f_number_of K)) && (hasRef (PySem.W.nsIn K mainGlobals "require_string") && ((isFnO (K.lookup (q_f_require_string K)) && isNonV0 (fdOf (K.lookup (q_f_require_string K))).defaults) && (PySem.W.codeIn K (fdOf (K.lookup (q_f_require_string K))).code "require_string" && (PySem.W.keepIn K (.ref (q_f_require_string K)) && (hasRef (PySem.W.nsIn K mainGlobals "are_numbers") && ((isFnO (K.lookup (q_f_are_numbers K)) && isNonV0 (fdOf (K.lookup (q_f_are_numbers K))).defaults) && (PySem.W.codeIn K (fdOf (K.lookup (q_f_are_numbers K))).code "are_numbers" && (PySem.W.keepIn K (.ref (q_f_are_numbers K)) && (hasRef (PySem.W.nsIn K mainGlobals "is_rising") && ((isFnO (K.lookup (q_f_is_rising K)) && isNonV0 (fdOf (K.lookup (q_f_is_rising K))).defaults) && (PySem.W.codeIn K (fdOf (K.lookup (q_f_is_rising K))).code "is_rising" && (PySem.W.keepIn K (.ref (q_f_is_rising K)) && (hasRef (PySem.W.nsIn K mainGlobals "numbers_text") && ((isFnO (K.lookup (q_f_numbers_text K)) && isNonV0 (fdOf (K.lookup (q_f_numbers_text K))).defaults) && (PySem.W.codeIn K (fdOf (K.lookup (q_f_numbers_text K))).code "numbers_text")))))))))))))))
def chk5 (K : PySem.W.Frag) : Bool := PySem.W.keepIn K (.ref (q_f_numbers_text K)) && (hasRef (PySem.W.nsIn K mainGlobals "numbers_of") && ((isFnO (K.lookup (q_f_numbers_of K)) && isNonV0 (fdOf (K.lookup (q_f_numbers_of K))).defaults) && (PySem.W.codeIn K (fdOf (K.lookup (q_f_numbers_of K))).code "numbers_of" && (PySem.W.keepIn K (.ref (q_f_numbers_of K)) && (hasRef (PySem.W.nsIn K mainGlobals "write_numbers") && ((isFnO (K.lookup (q_f_write_numbers K)) && isNonV0 (fdOf (K.lookup (q_f_write_numbers K))).defaults) && (PySem.W.codeIn K (fdOf (K.lookup (q_f_write_numbers K))).code "write_numbers" && (PySem.W.keepIn K (.ref (q_f_write_numbers K)) && (hasRef (PySem.W.nsIn K mainGlobals "read_numbers") && ((isFnO (K.lookup (q_f_read_numbers K)) && isNonV0 (fdOf (K.lookup (q_f_read_numbers K))).defaults) && (PySem.W.codeIn K (fdOf (K.lookup (q_f_read_numbers K))).code "read_numbers" && (PySem.W.keepIn K (.ref (q_f_read_numbers K)) && (hasRef (PySem.W.nsIn K mainGlobals "is_state_row") && ((isFnO (K.lookup (q_f_is_state_row K)) && isNonV0 (fdOf (K.lookup (q_f_is_state_row K))).defaults) && (PySem.W.codeIn K (fdOf (K.lookup (q_f_is_state_row K))).code "is_state_row")))))))))))))))
def chk6 (K : PySem.W.Frag) : Bool := PySem.W.keepIn K (.ref (q_f_is_state_row K)) && (hasRef (PySem.W.nsIn K mainGlobals "state_text") && ((isFnO (K.lookup (q_f_state_text K)) && isNonV0 (fdOf (K.lookup (q_f_state_text K))).defaults) && (PySem.W.codeIn K (fdOf (K.lookup (q_f_state_text K))).code "state_text" && (PySem.W.keepIn K (.ref (q_f_state_text K)) && (hasRef (PySem.W.nsIn K mainGlobals "state_of") && ((isFnO (K.lookup (q_f_state_of K)) && isNonV0 (fdOf (K.lookup (q_f_state_of K))).defaults) && (PySem.W.codeIn K (fdOf (K.lookup (q_f_state_of K))).code "state_of" && (PySem.W.keepIn K (.ref (q_f_state_of K)) && (hasRef (PySem.W.nsIn K mainGlobals "write_state") && ((isFnO (K.lookup (q_f_write_state K)) && isNonV0 (fdOf (K.lookup (q_f_write_state K))).defaults) && (PySem.W.codeIn K (fdOf (K.lookup (q_f_write_state K))).code "write_state" && (PySem.W.keepIn K (.ref (q_f_write_state K)) && (hasRef (PySem.W.nsIn K mainGlobals "read_state") && ((isFnO (K.lookup (q_f_read_state K)) && isNonV0 (fdOf (K.lookup (q_f_read_state K))).defaults) && (PySem.W.codeIn K (fdOf (K.lookup (q_f_read_state K))).code "read_state")))))))))))))))
def chk7 (K : PySem.W.Frag) : Bool := PySem.W.keepIn K (.ref (q_f_read_state K)) && (hasRef (PySem.W.nsIn K mainGlobals "is_table_row") && ((isFnO (K.lookup (q_f_is_table_row K)) && isNonV0 (fdOf (K.lookup (q_f_is_table_row K))).defaults) && (PySem.W.codeIn K (fdOf (K.lookup (q_f_is_table_row K))).code "is_table_row" && (PySem.W.keepIn K (.ref (q_f_is_table_row K)) && (hasRef (PySem.W.nsIn K mainGlobals "write_table") && ((isFnO (K.lookup (q_f_write_table K)) && isNonV0 (fdOf (K.lookup (q_f_write_table K))).defaults) && (PySem.W.codeIn K (fdOf (K.lookup (q_f_write_table K))).code "write_table" && (PySem.W.keepIn K (.ref (q_f_write_table K)) && (hasRef (PySem.W.nsIn K mainGlobals "table_row_of") && ((isFnO (K.lookup (q_f_table_row_of K)) && isNonV0 (fdOf (K.lookup (q_f_table_row_of K))).defaults) && (PySem.W.codeIn K (fdOf (K.lookup (q_f_table_row_of K))).code "table_row_of" && (PySem.W.keepIn K (.ref (q_f_table_row_of K)) && (hasRef (PySem.W.nsIn K mainGlobals "read_table") && ((isFnO (K.lookup (q_f_read_table K)) && isNonV0 (fdOf (K.lookup (q_f_read_table K))).defaults) && (PySem.W.codeIn K (fdOf (K.lookup (q_f_read_table K))).code "read_table")))))))))))))))
def chk8 (K : PySem.W.Frag) : Bool := PySem.W.keepIn K (.ref (q_f_read_table K)) && (hasRef (PySem.W.nsIn K mainGlobals "_law_rising") && ((isFnO (K.lookup (q_f_rising K)) && isNonV0 (fdOf (K.lookup (q_f_rising K))).defaults) && (PySem.W.codeIn K (fdOf (K.lookup (q_f_rising K))).code "_law_rising" && (PySem.W.keepIn K (.ref (q_f_rising K)) && (hasRef (PySem.W.nsIn K mainGlobals "_law_a_state") && ((isFnO (K.lookup (q_f_a_state K)) && isNonV0 (fdOf (K.lookup (q_f_a_state K))).defaults) && (PySem.W.codeIn K (fdOf (K.lookup (q_f_a_state K))).code "_law_a_state" && (PySem.W.keepIn K (.ref (q_f_a_state K)) && (hasRef (PySem.W.nsIn K mainGlobals "_law_line") && ((isFnO (K.lookup (q_f_line K)) && isNonV0 (fdOf (K.lookup (q_f_line K))).defaults) && (PySem.W.codeIn K (fdOf (K.lookup (q_f_line K))).code "_law_line" && (PySem.W.keepIn K (.ref (q_f_line K)) && (hasRef (PySem.W.nsIn K mainGlobals "_law_state_line") && ((isFnO (K.lookup (q_f_state_line K)) && isNonV0 (fdOf (K.lookup (q_f_state_line K))).defaults) && (PySem.W.codeIn K (fdOf (K.lookup (q_f_state_line K))).code "_law_state_line")))))))))))))))
def chk9 (K : PySem.W.Frag) : Bool := PySem.W.keepIn K (.ref (q_f_state_line K)) && (hasRef (PySem.W.nsIn K mainGlobals "_law_due_numbers") && ((isFnO (K.lookup (q_f_due_numbers K)) && isNonV0 (fdOf (K.lookup (q_f_due_numbers K))).defaults) && (PySem.W.codeIn K (fdOf (K.lookup (q_f_due_numbers K))).code "_law_due_numbers" && (PySem.W.keepIn K (.ref (q_f_due_numbers K)) && (hasRef (PySem.W.nsIn K mainGlobals "_law_is_rising") && ((isFnO (K.lookup (q_f_is_rising' K)) && isNonV0 (fdOf (K.lookup (q_f_is_rising' K))).defaults) && (PySem.W.codeIn K (fdOf (K.lookup (q_f_is_rising' K))).code "_law_is_rising" && (PySem.W.keepIn K (.ref (q_f_is_rising' K)) && (hasRef (PySem.W.nsIn K mainGlobals "_law_due_state") && ((isFnO (K.lookup (q_f_due_state K)) && isNonV0 (fdOf (K.lookup (q_f_due_state K))).defaults) && (PySem.W.codeIn K (fdOf (K.lookup (q_f_due_state K))).code "_law_due_state" && (PySem.W.keepIn K (.ref (q_f_due_state K)) && (hasRef (PySem.W.nsIn K mainGlobals "_law_due_table") && ((isFnO (K.lookup (q_f_due_table K)) && isNonV0 (fdOf (K.lookup (q_f_due_table K))).defaults) && (PySem.W.codeIn K (fdOf (K.lookup (q_f_due_table K))).code "_law_due_table")))))))))))))))
def chk10 (K : PySem.W.Frag) : Bool := PySem.W.keepIn K (.ref (q_f_due_table K)) && (hasRef (PySem.W.nsIn K mainGlobals "_law_bent") && ((isFnO (K.lookup (q_f_bent K)) && isNonV0 (fdOf (K.lookup (q_f_bent K))).defaults) && (PySem.W.codeIn K (fdOf (K.lookup (q_f_bent K))).code "_law_bent" && (PySem.W.keepIn K (.ref (q_f_bent K)) && (hasRef (PySem.W.nsIn K mainGlobals "_law_strings_right") && ((isFnO (K.lookup (q_f_strings_right K)) && isNonV0 (fdOf (K.lookup (q_f_strings_right K))).defaults) && (PySem.W.codeIn K (fdOf (K.lookup (q_f_strings_right K))).code "_law_strings_right" && (PySem.W.keepIn K (.ref (q_f_strings_right K)) && (hasRef (PySem.W.nsIn K mainGlobals "_law_right") && ((isFnO (K.lookup (q_f_right K)) && isNonV0 (fdOf (K.lookup (q_f_right K))).defaults) && (PySem.W.codeIn K (fdOf (K.lookup (q_f_right K))).code "_law_right" && (PySem.W.keepIn K (.ref (q_f_right K)) && (hasRef (PySem.W.nsIn K mainGlobals "law") && ((isFnO (K.lookup (q_f_law K)) && isNonV0 (fdOf (K.lookup (q_f_law K))).defaults) && (PySem.W.codeIn K (fdOf (K.lookup (q_f_law K))).code "law")))))))))))))))
def chk11 (K : PySem.W.Frag) : Bool := PySem.W.keepIn K (.ref (q_f_law K)) && (isRefV ((fdOf (K.lookup (q_f_strings_right K))).code) && (isNon2 (PySem.W.nsIn K mainGlobals "set") && (isNon2 (PySem.W.nsIn K mainGlobals "len") && (isNon2 (PySem.W.nsIn K mainGlobals "int") && (isNon2 (PySem.W.nsIn K mainGlobals "bool") && (isNon2 (PySem.W.nsIn K mainGlobals "str") && (isNon2 (PySem.W.nsIn K mainGlobals "list") && (isNon2 (PySem.W.nsIn K mainGlobals "tuple") && (isNon2 (PySem.W.nsIn K mainGlobals "dict") && (isNon2 (PySem.W.nsIn K mainGlobals "abs") && (isNon2 (PySem.W.nsIn K mainGlobals "max") && (isNon2 (PySem.W.nsIn K mainGlobals "min") && (isNon2 (PySem.W.nsIn K mainGlobals "range") && (isNon2 (PySem.W.nsIn K mainGlobals "repr") && (isNon2 (PySem.W.nsIn K mainGlobals "isinstance"))))))))))))))))
def chk12 (K : PySem.W.Frag) : Bool := isNon2 (PySem.W.nsIn K mainGlobals "all") && (isNon2 (PySem.W.nsIn K mainGlobals "any") && (isNon2 (PySem.W.nsIn K mainGlobals "sorted") && (isNon2 (PySem.W.nsIn K mainGlobals "enumerate") && (isNon2 (PySem.W.nsIn K mainGlobals "zip") && (isInt (10 ^ 60) (PySem.W.nsIn K mainGlobals "LONGEST") && (isInt (60) (PySem.W.nsIn K mainGlobals "MAX_DIGITS") && (isStr "0123456789" (PySem.W.nsIn K mainGlobals "DIGITS") && (isStr "-" (PySem.W.nsIn K mainGlobals "NOTHING") && (isStr "none" (PySem.W.nsIn K mainGlobals "NONE") && (isStr " | " (PySem.W.nsIn K mainGlobals "BAR") && (isStr "; " (PySem.W.nsIn K mainGlobals "BETWEEN"))))))))))))
def chk (K : PySem.W.Frag) : Bool := chk0 K && (chk1 K && (chk2 K && (chk3 K && (chk4 K && (chk5 K && (chk6 K && (chk7 K && (chk8 K && (chk9 K && (chk10 K && (chk11 K && (chk12 K))))))))))))
def prtH (K : PySem.W.Frag) : List FnT := [fnT (K.lookup (q_f_ParseError_init K)), fnT (K.lookup (q_f_dice K)), fnT (K.lookup (q_f_roll K)), fnT (K.lookup (q_f_pick K)), fnT (K.lookup (q_f_some K)), fnT (K.lookup (q_f_got K)), fnT (K.lookup (q_f_is_integer K)), fnT (K.lookup (q_f_is_within K)), fnT (K.lookup (q_f_number_of K)), fnT (K.lookup (q_f_require_string K)), fnT (K.lookup (q_f_are_numbers K)), fnT (K.lookup (q_f_is_rising K)), fnT (K.lookup (q_f_numbers_text K)), fnT (K.lookup (q_f_numbers_of K)), fnT (K.lookup (q_f_write_numbers K)), fnT (K.lookup (q_f_read_numbers K)), fnT (K.lookup (q_f_is_state_row K)), fnT (K.lookup (q_f_state_text K)), fnT (K.lookup (q_f_state_of K)), fnT (K.lookup (q_f_write_state K)), fnT (K.lookup (q_f_read_state K)), fnT (K.lookup (q_f_is_table_row K)), fnT (K.lookup (q_f_write_table K)), fnT (K.lookup (q_f_table_row_of K)), fnT (K.lookup (q_f_read_table K)), fnT (K.lookup (q_f_rising K)), fnT (K.lookup (q_f_a_state K)), fnT (K.lookup (q_f_line K)), fnT (K.lookup (q_f_state_line K)), fnT (K.lookup (q_f_due_numbers K)), fnT (K.lookup (q_f_is_rising' K)), fnT (K.lookup (q_f_due_state K)), fnT (K.lookup (q_f_due_table K)), fnT (K.lookup (q_f_bent K)), fnT (K.lookup (q_f_strings_right K)), fnT (K.lookup (q_f_right K)), fnT (K.lookup (q_f_law K))]
abbrev tnms : List Str := ["_law_strings_right"]
def chkA (K : PySem.W.Frag) : Bool := chkTb tnms K && chk (KTof tnms K)
def prtA (K : PySem.W.Frag) : List FnT := prtH (KTof tnms K)
def expd : List FnT := [mkT "__init__" "ParseError.__init__" (defArgs (inClass (topR 8) 0)) (defBody (inClass (topR 8) 0)) (defScope (inClass (topR 8) 0)), mkT "_law_dice" "_law_dice" (defArgs (topR 34)) (defBody (topR 34)) (defScope (topR 34)), mkT "_law_roll" "_law_roll" (defArgs (topR 35)) (defBody (topR 35)) (defScope (topR 35)), mkT "_law_pick" "_law_pick" (defArgs (topR 36)) (defBody (topR 36)) (defScope (topR 36)), mkT "_law_some" "_law_some" (defArgs (topR 37)) (defBody (topR 37)) (defScope (topR 37)), mkT "_law_got" "_law_got" (defArgs (topR 47)) (defBody (topR 47)) (defScope (topR 47)), mkT "is_integer" "is_integer" (defArgs (topR 2)) (defBody (topR 2)) (defScope (topR 2)), mkT "is_within" "is_within" (defArgs (topR 3)) (defBody (topR 3)) (defScope (topR 3)), mkT "number_of" "number_of" (defArgs (topR 16)) (defBody (topR 16)) (defScope (topR 16)), mkT "require_string" "require_string" (defArgs (topR 17)) (defBody (topR 17)) (defScope (topR 17)), mkT "are_numbers" "are_numbers" (defArgs (topR 18)) (defBody (topR 18)) (defScope (topR 18)), mkT "is_rising" "is_rising" (defArgs (topR 19)) (defBody (topR 19)) (defScope (topR 19)), mkT "numbers_text" "numbers_text" (defArgs (topR 20)) (defBody (topR 20)) (defScope (topR 20)), mkT "numbers_of" "numbers_of" (defArgs (topR 21)) (defBody (topR 21)) (defScope (topR 21)), mkT "write_numbers" "write_numbers" (defArgs (topR 22)) (defBody (topR 22)) (defScope (topR 22)), mkT "read_numbers" "read_numbers" (defArgs (topR 23)) (defBody (topR 23)) (defScope (topR 23)), mkT "is_state_row" "is_state_row" (defArgs (topR 24)) (defBody (topR 24)) (defScope (topR 24)), mkT "state_text" "state_text" (defArgs (topR 25)) (defBody (topR 25)) (defScope (topR 25)), mkT "state_of" "state_of" (defArgs (topR 26)) (defBody (topR 26)) (defScope (topR 26)), mkT "write_state" "write_state" (defArgs (topR 27)) (defBody (topR 27)) (defScope (topR 27)), mkT "read_state" "read_state" (defArgs (topR 28)) (defBody (topR 28)) (defScope (topR 28)), mkT "is_table_row" "is_table_row" (defArgs (topR 29)) (defBody (topR 29)) (defScope (topR 29)), mkT "write_table" "write_table" (defArgs (topR 30)) (defBody (topR 30)) (defScope (topR 30)), mkT "table_row_of" "table_row_of" (defArgs (topR 31)) (defBody (topR 31)) (defScope (topR 31)), mkT "read_table" "read_table" (defArgs (topR 32)) (defBody (topR 32)) (defScope (topR 32)), mkT "_law_rising" "_law_rising" (defArgs (topR 38)) (defBody (topR 38)) (defScope (topR 38)), mkT "_law_a_state" "_law_a_state" (defArgs (topR 39)) (defBody (topR 39)) (defScope (topR 39)), mkT "_law_line" "_law_line" (defArgs (topR 40)) (defBody (topR 40)) (defScope (topR 40)), mkT "_law_state_line" "_law_state_line" (defArgs (topR 41)) (defBody (topR 41)) (defScope (topR 41)), mkT "_law_due_numbers" "_law_due_numbers" (defArgs (topR 42)) (defBody (topR 42)) (defScope (topR 42)), mkT "_law_is_rising" "_law_is_rising" (defArgs (topR 43)) (defBody (topR 43)) (defScope (topR 43)), mkT "_law_due_state" "_law_due_state" (defArgs (topR 44)) (defBody (topR 44)) (defScope (topR 44)), mkT "_law_due_table" "_law_due_table" (defArgs (topR 45)) (defBody (topR 45)) (defScope (topR 45)), mkT "_law_bent" "_law_bent" (defArgs (topR 46)) (defBody (topR 46)) (defScope (topR 46)), mkT "_law_strings_right" "_law_strings_right" (defArgs (topR 48)) (defBody (topR 48)) (defScope (topR 48)), mkT "_law_right" "_law_right" (defArgs (topR 49)) (defBody (topR 49)) (defScope (topR 49)), mkT "law" "law" (defArgs (topR 50)) (defBody (topR 50)) (defScope (topR 50))]
def names0 : List PySem.Str := ["LONGEST", "is_integer", "is_within", "NeedError", "InvalidTable", "InvalidOperation", "ParseError", "MAX_DIGITS", "DIGITS", "NOTHING", "NONE", "BAR", "BETWEEN", "number_of", "require_string", "are_numbers", "is_rising", "numbers_text", "numbers_of", "write_numbers", "read_numbers", "is_state_row", "state_text", "state_of", "write_state", "read_state", "is_table_row", "write_table", "table_row_of", "read_table"]
def names1 : List PySem.Str := ["_law_dice", "_law_roll", "_law_pick", "_law_some", "_law_rising", "_law_a_state", "_law_line", "_law_state_line", "_law_due_numbers", "_law_is_rising", "_law_due_state", "_law_due_table", "_law_bent", "_law_got", "_law_strings_right", "_law_right"]
def hnames : List PySem.Str := names0 ++ names1
abbrev RR : PySem.W.OpenRow := PySem.W.OpenLaw.row PySem.Challenge.rw_firstneed_k70_whole_numbers_states_and_t
abbrev hk : PySem.W.Hook := hkR 900 chkA prtA expd
theorem run (w : World) : HandSHeadRun.RunEq RR (PySem.W.view RR.prog [50]) hk (obR 900 chkA prtA) 9000 hnames w := by
  intro os
  kernel_rfl
end K70
set_option Elab.async false
set_option maxRecDepth 100000
namespace Ly
open PySem PySem.Spec PyProof.Rows L2
def Gx (H H' : Hp) : Prop := ∀ a o, H a = some o → H' a = some o
theorem Gx.refl (H : Hp) : Gx H H := fun _ _ h => h
theorem Gx.trans {H H1 H2 : Hp} (a : Gx H H1) (b : Gx H1 H2) : Gx H H2 := fun x o h => b x o (a x o h)
theorem Gx.new {H : Hp} {p : Addr} {o : HO} (h : H p = none) : Gx H (upd H p o) := fun a u e => by
  rw [upd_ne (ne_of_none e h)]
  exact e
theorem Gx.mut {H H' : Hp} {p : Addr} {o : HO} (e : Gx H H') (h : H p = none) : Gx H (upd H' p o) := fun a u ha => by
  rw [upd_ne (ne_of_none ha h)]
  exact e a u ha
theorem Gx.free {H H' : Hp} {p : Addr} (e : Gx H H') (h : H' p = none) : H p = none := by
  cases q : H p with
  | none => rfl
  | some o =>
    rw [e p o q] at h
    cases h
theorem Gx.rd {H H' : Hp} {a : Addr} {u : HO} (e : Gx H H') (h : Rd H a u) : Rd H' a u := by
  rcases h with h | ⟨o, h⟩
  · exact Or.inl (e a _ h)
  · exact Or.inr ⟨o, e a _ h⟩
theorem Gx.l {K : PySem.W.Frag} {H H' : Hp} {a : Addr} {xs : List V} (e : Gx H H') (h : SqL K H a xs) : SqL K H' a xs := by
  rcases h with h | h
  · exact Or.inl (e.rd h)
  · exact Or.inr h
theorem Gx.t {K : PySem.W.Frag} {H H' : Hp} {a : Addr} {xs : List V} (e : Gx H H') (h : SqT K H a xs) : SqT K H' a xs := by
  rcases h with h | h
  · exact Or.inl (e.rd h)
  · exact Or.inr h
def diceP (p : Addr) : Heap → Prop := fun h => ∃ (a b c : Int) (t u v : Tok) (n : Nat), h.get? p = some { cls := .type "list", data := .seq #[.int a t, .int b u, .int c v] n }
def diceO (p : Addr) : HO := .ext (diceP p)
abbrev three (a b c : Int) : HO := .lst [.int a, .int b, .int c]
section
variable {P : Program} {w : World} {H H1 : Hp} {h h1 : Heap} {p : Addr} {fs ex : List Addr}
theorem hok_hide {a b c : Int} (x : HOk P w H h) (e : H p = some (three a b c)) : HOk P w (upd H p (diceO p)) h := by
  intro q o eq
  by_cases hq : q = p
  · subst hq
    rw [upd_same] at eq
    cases eq
    obtain ⟨_, its, n, r, g⟩ := x q _ e
    cases r with
    | cons ra r =>
      cases r with
      | cons rb r =>
        cases r with
        | cons rc r =>
          cases r
          obtain ⟨t, rfl⟩ := ra
          obtain ⟨u, rfl⟩ := rb
          obtain ⟨v, rfl⟩ := rc
          refine ⟨⟨a, b, c, t, u, v, n, g⟩, ⟨_, g⟩, ?_⟩
          rintro h1 h2 ⟨a, b, c, t, u, v, n, g⟩ k
          exact ⟨a, b, c, t, u, v, n, k _ g⟩
  · rw [upd_ne hq] at eq
    refine (x q o eq).stay (fun _ _ _ z => z) (fun b z => ?_) fun b xs z => ?_
    · rw [upd_ne]
      · exact z
      · intro z2
        subst z2
        rw [e] at z
        cases z
    · rw [upd_ne]
      · exact z
      · intro z2
        subst z2
        rw [e] at z
        cases z
theorem hok_show (x : HOk P w H h) (e : H p = some (diceO p)) : ∃ a b c, HOk P w (upd H p (three a b c)) h := by
  obtain ⟨⟨a, b, c, t, u, v, n, g⟩, _, _⟩ := x p _ e
  refine ⟨a, b, c, fun q o eq => ?_⟩
  by_cases hq : q = p
  · subst hq
    rw [upd_same] at eq
    cases eq
    refine ⟨by show 3 ≤ sizeLine; decide, [.int a t, .int b u, .int c v], n, .cons ⟨t, rfl⟩ (.cons ⟨u, rfl⟩ (.cons ⟨v, rfl⟩ .nil)), g⟩
  · rw [upd_ne hq] at eq
    refine (x q o eq).stay (fun _ _ _ z => z) (fun b z => ?_) fun b xs z => ?_
    · rw [upd_ne]
      · exact z
      · intro z2
        subst z2
        rw [e] at z
        cases z
    · rw [upd_ne]
      · exact z
      · intro z2
        subst z2
        rw [e] at z
        cases z
theorem un_hide {xs : List V} (u : Un fs ex H H1 h h1) (e : H1 p = some (.lst xs)) : Un fs ex H (upd H1 p (diceO p)) h h1 where
  keep := u.keep
  slot := u.slot
  free := fun b o g n hx => by
    have z := u.free b o g n hx
    rw [upd_ne (fun q => by subst q; rw [e] at z; cases z)]
    exact z
  there := u.there
  tups := fun b ys g => by
    have z := u.tups b ys g
    rw [upd_ne (fun q => by subst q; rw [e] at z; cases z)]
    exact z
  frzs := fun b o v g => by
    have z := u.frzs b o v g
    rw [upd_ne (fun q => by subst q; rw [e] at z; cases z)]
    exact z
  tbls := fun b ps g => by
    obtain ⟨m, z⟩ := u.tbls b ps g
    refine ⟨m, ?_⟩
    rw [upd_ne (fun q => by subst q; rw [e] at z; cases z)]
    exact z
theorem un_show {o : HO} (u : Un fs ex (upd H p o) H1 h h1) (e : H p = some (diceO p)) : Un fs ex H H1 h h1 where
  keep := fun b o g n => u.keep b o g (by rw [upd_ne (fun q => by subst q; rw [e] at n; cases n)]; exact n)
  slot := fun b o g n => u.slot b o g (by rw [upd_ne (fun q => by subst q; rw [e] at n; cases n)]; exact n)
  free := fun b o g n => u.free b o g (by rw [upd_ne (fun q => by subst q; rw [e] at n; cases n)]; exact n)
  there := u.there
  tups := fun b ys g => u.tups b ys (by rw [upd_ne (fun q => by subst q; rw [e] at g; cases g)]; exact g)
  frzs := fun b o v g => u.frzs b o v (by rw [upd_ne (fun q => by subst q; rw [e] at g; cases g)]; exact g)
  tbls := fun b ps g => u.tbls b ps (by rw [upd_ne (fun q => by subst q; rw [e] at g; cases g)]; exact g)
end
section
variable {P : Program} {w : World} {K : PySem.W.Frag} {mg : Str → Option Value} {base : Heap} {k : Nat} {f : Addr} {fd : FuncData} {ps : List Str} {sp : Sp} {CX : CXT}
/-- a def that reads and writes dice, seen from without -/
theorem fn_dice (F : FnOk P w K mg base CX0 k f fd ps sp) : FnOk P w K mg base CX0 k f fd ps (fun vs H Q E => vs.length = ps.length ∧ ∃ p, H p = some (diceO p) ∧
    ∀ a b c, sp vs (upd H p (three a b c)) (fun v H' => (∃ a' b' c', H' p = some (three a' b' c')) ∧ Q v (upd H' p (diceO p))) E) := by
  refine ⟨fun vs H Q E h => h.1, fun A outer s H args us vs Q E hr he hb hv hs => ?_⟩
  obtain ⟨_, p, hp, hs⟩ := hs
  obtain ⟨a, b, c, hok⟩ := hok_show he.hok hp
  have he' : Env0 P w K mg base A outer s (upd H p (three a b c)) := ⟨he.frames, he.mod, fun q o g => by
    obtain ⟨z1, z2⟩ := he.bs q o g
    refine ⟨z1, ?_⟩
    rw [upd_ne (fun y => by subst y; rw [hp] at z2; cases z2)]
    exact z2, he.bsz, he.funs, fun q g => by
    have z2 := he.frf q g
    rw [upd_ne (fun y => by subst y; rw [hp] at z2; cases z2)]
    exact z2, hok, he.bare⟩
  refine codeAny_mono (F.run A outer s _ args us vs _ E hr he' hb hv (hs a b c)) fun r s' h => ?_
  match r, h with
  | .ok (.ret u), h =>
    obtain ⟨v, H', os, bare, un, hok', rv, ⟨a', b', c', e'⟩, q⟩ := h
    exact ⟨v, upd H' p (diceO p), os, bare, un_hide (un_show un hp) e', hok_hide hok' e', rv, q⟩
/-- a def that makes dice -/
theorem fn_mkdice (F : FnOk P w K mg base CX0 k f fd ps sp) : FnOk P w K mg base CX0 k f fd ps (fun vs H Q E => sp vs H (fun v H' => ∃ p a b c, v = .ref p ∧ H' p = some (three a b c) ∧ Q (.ref p) (upd H' p (diceO p))) E) := by
  refine ⟨fun vs H Q E h => F.len _ _ _ _ h, fun A outer s H args us vs Q E hr he hb hv hs => ?_⟩
  refine codeAny_mono (F.run A outer s _ args us vs _ E hr he hb hv hs) fun r s' h => ?_
  match r, h with
  | .ok (.ret u), h =>
    obtain ⟨v, H', os, bare, un, hok', rv, p, a, b, c, rfl, e, q⟩ := h
    exact ⟨.ref p, upd H' p (diceO p), os, bare, un_hide un e, hok_hide hok' e, rv, q⟩
end
theorem upd_id {H : Hp} {p : Addr} {o : HO} (h : H p = some o) : upd H p o = H := by
  funext q
  by_cases e : q = p
  · subst e
    rw [upd_same, h]
  · rw [upd_ne e]
structure Cal (P : Program) (w : World) (K : PySem.W.Frag) (mg : Str → Option Value) (base : Heap) (x : Str) (k : Nat) (ps : List Str) (sp : Sp) : Prop where
  ex : ∃ (f : Addr) (fd : FuncData), FnOk P w K mg base CX0 k f fd ps sp ∧ mg x = some (.ref f) ∧ PySem.W.keepIn K (.ref f) = true ∧ Binds K fd ps []
section
variable {X : Cx} {k : Nat} {ps : List Str} {sp : Sp} {x : Str} {p pos : Pos} {e : Expr} {es : List Expr} {t : TA}
theorem pe_cal (C : Cal X.prog X.w X.K X.mg X.base x k ps sp) (hr : Room k X.A) (hg : Gl X x) (ha : PA X (e :: es) t) (hdb : (x == ("__debug__" : Str)) = false := by decide)
    (he : starEach (e :: es) X.env = (false, eval e X.env) :: starEach es X.env := by rfl) (hpl : (backTo pos (starEach es X.env)).any (·.1) = false := by rfl) :
    PE X (.Call (.Name x p) (e :: es) [] pos) (tCall sp [] E0 t) := by
  obtain ⟨f, fd, F, hm, hk, hb⟩ := C.ex
  exact pe_call F hr hg hm hk hb .nil pass0 ha hdb he hpl
end
section
variable {X : Cx}
def CPowW (i j : Int) : Prop := 0 ≤ j ∧ (Builtin.Int.intBits i : Int) * j ≤ 2 ^ 27
theorem op_powW : OpR X (binaryOp .Pow) (rI CPowW fun i j => .int (i ^ j.toNat)) := opI fun _ _ _ _ _ _ _ hc q => pow_int hc.1 hc.2 q
theorem call_reprB : CallR X (.builtin "repr") (fun xs H Q => ∃ b, xs = [.bl b] ∧ Q (.str (if b then "True" else "False")) H) := by
  intro pins s σ H xs us Q I r h
  obtain ⟨b, rfl, q⟩ := h
  obtain ⟨u, rfl, ru⟩ := vals1 r
  obtain rfl : u = Value.bool b := ru
  exact PySem.P.repr_of_bool ⟨.str _, H, I.tok _, ⟨_, rfl⟩, q⟩
end
abbrev Ty := V → Hp → Prop
def Mono (Φ : Ty) : Prop := ∀ v H H', Gx H H' → Φ v H → Φ v H'
def EvG (te : TE) (σ : L2.St) (H : Hp) (Φ : Ty) : Prop := ∀ H1, Gx H H1 → ∀ Q : VK, (∀ v H2, Gx H1 H2 → Φ v H2 → Q v H2) → te σ H1 Q
section
variable {σ : L2.St} {H H' : Hp} {te ta tb : TE} {tr : TA} {Φ Φ' : Ty} {v : V} {Q : VK}
theorem EvG.mono (e : Gx H H') (h : EvG te σ H Φ) : EvG te σ H' Φ := fun H1 a Q q => h H1 (e.trans a) Q q
theorem EvG.imp (h : EvG te σ H Φ) (i : ∀ v H2, Gx H H2 → Φ v H2 → Φ' v H2) : EvG te σ H Φ' := fun H1 a Q q => h H1 a Q fun v H2 e f => q v H2 e (i v H2 (a.trans e) f)
/-- all of one kind -/
def AllT (Φ : Ty) (n : Nat) : List V → Hp → Prop := fun vs H => vs.length = n ∧ ∀ x ∈ vs, Φ x H
theorem AllT.mono {n : Nat} {vs : List V} (m : Mono Φ) (e : Gx H H') (h : AllT Φ n vs H) : AllT Φ n vs H' := ⟨h.1, fun x hx => m _ _ _ e (h.2 x hx)⟩
end
/-- heaps in which all stays but what lists hold -/
def Kx (H H' : Hp) : Prop := ∀ a o, H a = some o → H' a = some o ∨ ∃ xs ys, o = .lst xs ∧ H' a = some (.lst ys)
theorem Gx.k {H H' : Hp} (e : Gx H H') : Kx H H' := fun a o h => .inl (e a o h)
theorem Kx.refl (H : Hp) : Kx H H := fun _ _ h => .inl h
theorem Kx.trans {H H1 H2 : Hp} (a : Kx H H1) (b : Kx H1 H2) : Kx H H2 := fun x o h => by
  rcases a x o h with h1 | ⟨xs, ys, e, h1⟩
  · exact b x o h1
  · rcases b x _ h1 with h2 | ⟨xs2, ys2, _, h2⟩
    · exact .inr ⟨xs, ys, e, h2⟩
    · exact .inr ⟨xs, ys2, e, h2⟩
theorem Kx.put {H : Hp} {p : Addr} {xs ys : List V} (h : H p = some (.lst xs)) : Kx H (upd H p (.lst ys)) := fun a o e => by
  by_cases q : a = p
  · subst q
    rw [h] at e
    cases e
    exact .inr ⟨xs, ys, rfl, upd_same⟩
  · exact .inl (by rw [upd_ne q]; exact e)
theorem Kx.keep {H H' : Hp} (e : Kx H H') {a : Addr} {o : HO} (h : H a = some o) (n : ∀ xs, o ≠ .lst xs) : H' a = some o := by
  rcases e a o h with h1 | ⟨xs, _, z, _⟩
  · exact h1
  · exact absurd z (n xs)
theorem Kx.tup {H H' : Hp} (e : Kx H H') {a : Addr} {xs : List V} (h : H a = some (.tup xs)) : H' a = some (.tup xs) := e.keep h fun _ z => by cases z
theorem Kx.dice {H H' : Hp} (e : Kx H H') {a : Addr} (h : H a = some (diceO a)) : H' a = some (diceO a) := e.keep h fun _ z => by cases z
/-- true whatever lists hold -/
def Firm (Φ : Ty) : Prop := ∀ v H H', Kx H H' → Φ v H → Φ v H'
theorem Firm.mono {Φ : Ty} (h : Firm Φ) : Mono Φ := fun v H H' e f => h v H H' e.k f
inductive Kd | non | bl | int | str | lst | tup | dic | own
  deriving DecidableEq
/-- the answer of isinstance of such a value and a built-in type -/
def kdIs : Kd → String → Bool
  | .bl, n => n == "bool" || n == "int"
  | .int, n => n == "int"
  | .str, n => n == "str"
  | .lst, n => n == "list"
  | .tup, n => n == "tuple"
  | .dic, n => n == "dict"
  | _, _ => false
/-- the built-in types that are asked for -/
def asked : List String := ["int", "bool", "str", "list", "tuple", "dict"]
/-- a class of the text whose instances are none of these -/
structure Own (K : PySem.W.Frag) (C : Addr) : Prop where
  cl : Cls K C
  ha : PySem.W.findIn K (.ref C) "__class__" = some (some (.builtin "object.__class__"))
  hn : PySem.W.specialIn K (.builtin "object.__class__") "__get__" = some (some (.builtin "getset_descriptor.__get__"))
  htk : PySem.W.takesIn K (.builtin "object.__class__") = some true
  hm : PySem.W.mroIn K C (.type "object") = some true
  no : ∀ n ∈ asked, PySem.W.kitOne K (.ref C) (.type n) = some false
/-- a plain value of a built-in type, or an instance -/
inductive Pl (K : PySem.W.Frag) (H : Hp) : V → Kd → Prop
  | non : Pl K H .non .non
  | bl (b : Bool) : Pl K H (.bl b) .bl
  | int (i : Int) : Pl K H (.int i) .int
  | str (x : Str) : Pl K H (.str x) .str
  | lst {a : Addr} {xs : List V} (e : H a = some (.lst xs)) : Pl K H (.ref a) .lst
  | tup {a : Addr} {xs : List V} (e : H a = some (.tup xs)) : Pl K H (.ref a) .tup
  | dK {a : Addr} {kvs : List (Key × V)} (e : H a = some (.dK kvs)) : Pl K H (.ref a) .dic
  | own {a C dx : Addr} {fs : List (Str × V)} (e : H a = some (.ins C dx fs)) (o : Own K C) : Pl K H (.ref a) .own
theorem Pl.firm {K : PySem.W.Frag} {k : Kd} : Firm (fun v H => Pl K H v k) := fun v H H' e h => by
  cases h with
  | non => exact .non
  | bl b => exact .bl b
  | int i => exact .int i
  | str x => exact .str x
  | lst h =>
    rcases e _ _ h with h1 | ⟨_, _, _, h1⟩
    · exact .lst h1
    · exact .lst h1
  | tup h => exact .tup (e.tup h)
  | dK h => exact .dK (e.keep h fun _ z => by cases z)
  | own h o => exact .own (e.keep h fun _ z => by cases z) o
theorem Pl.gx {K : PySem.W.Frag} {H H' : Hp} {v : V} {k : Kd} (e : Gx H H') (h : Pl K H v k) : Pl K H' v k := Pl.firm v H H' e.k h
section
variable {X : Cx} {x : Str} {pos : Pos}
theorem pe_ty (n : String) (hg : Gl X x) (hm : X.mg x = none) (hv : bootBuiltins x = some (.type n)) (hn : x ≠ "__name__" := by decide) (hd : (x == ("__debug__" : Str)) = false := by decide) : PE X (.Name x pos) (tC (.ty n)) := pe_bltn hg hm hv rfl hn hd
theorem pe_gint {i : Int} {t : Tok} (hg : Gl X x) (hm : X.mg x = some (.int i t)) (hd : (x == ("__debug__" : Str)) = false := by decide) : PE X (.Name x pos) (tC (.int i)) := pe_glob hg hm ⟨t, rfl⟩ hd
theorem pe_gstr {i : Str} {t : Tok} (hg : Gl X x) (hm : X.mg x = some (.str i t)) (hd : (x == ("__debug__" : Str)) = false := by decide) : PE X (.Name x pos) (tC (.str i)) := pe_glob hg hm ⟨t, rfl⟩ hd
end
def EvN (te : TE) (σ : L2.St) (H : Hp) (Φ : Addr → Hp → Prop) : Prop := ∀ H1, Gx H H1 → ∀ Q : VK, (∀ p H2, Gx H1 H2 → H1 p = none → Φ p H2 → Q (.ref p) H2) → te σ H1 Q
section
variable {K : PySem.W.Frag} {σ : L2.St} {H H' : Hp} {te ta tb : TE} {tr : TA} {Φ Φ' : Ty} {v : V} {Q : VK}
theorem EvN.g {Φ : Addr → Hp → Prop} (h : EvN te σ H Φ) (k : ∀ p H1 H2, Gx H H1 → H1 p = none → Gx H1 H2 → Φ p H2 → Φ' (.ref p) H2) : EvG te σ H Φ' := fun H1 e Q q => h H1 e Q fun p H2 e2 n f => q _ H2 e2 (k p H1 H2 e n e2 f)
/-- a list of things of one kind, at a place -/
def Lof (Φ : Ty) (n : Nat) : Addr → Hp → Prop := fun p H => ∃ xs, H p = some (.lst xs) ∧ AllT Φ n xs H
def LofT (Φ : Ty) (n : Nat) : Ty := fun v H => ∃ p, v = .ref p ∧ Lof Φ n p H
theorem Lof.mono {n : Nat} {p : Addr} (m : Mono Φ) (e : Gx H H') (h : Lof Φ n p H) : Lof Φ n p H' := by
  obtain ⟨xs, h1, h2⟩ := h
  exact ⟨xs, e _ _ h1, h2.mono m e⟩
theorem LofT.mono {n : Nat} (m : Mono Φ) : Mono (LofT Φ n) := fun _ _ _ e ⟨p, h1, h2⟩ => ⟨p, h1, h2.mono m e⟩
end
def spDice0 (K : PySem.W.Frag) : Sp := fun vs H Q _ => ∃ (a : Addr) (ns : List Int) (n : Nat), vs = [.ref a, .int n] ∧ SqL K H a (ns.map V.int) ∧
  ∀ p x y z, H p = none → Q (.ref p) (upd H p (three x y z))
def spDice (K : PySem.W.Frag) : Sp := fun vs H Q _ => ∃ (a : Addr) (ns : List Int) (n : Nat), vs = [.ref a, .int n] ∧ SqL K H a (ns.map V.int) ∧
  ∀ p, H p = none → Q (.ref p) (upd H p (diceO p))
def spRoll0 : Sp := fun vs H Q _ => ∃ (p : Addr) (t a b c : Int), vs = [.ref p, .int t] ∧ 0 < t ∧ t < 1073741824 ∧ H p = some (three a b c) ∧
  ∀ r a' b' c', 0 ≤ r → r < t → Q (.int r) (upd H p (three a' b' c'))
def spRoll : Sp := fun vs H Q _ => ∃ (p : Addr) (t : Int), vs = [.ref p, .int t] ∧ 0 < t ∧ t < 1073741824 ∧ H p = some (diceO p) ∧ ∀ r, 0 ≤ r → r < t → Q (.int r) H
def spPick (K : PySem.W.Frag) : Sp := fun vs H Q _ => ∃ (p l : Addr) (xs : List V), vs = [.ref p, .ref l] ∧ H p = some (diceO p) ∧ SqL K H l xs ∧ 0 < xs.length ∧ xs.length < 1073741824 ∧ ∀ (j : Nat) x, xs[j]? = some x → Q x H
section
variable {K : PySem.W.Frag} {σ : L2.St} {H H' : Hp} {td tl : TE} {Φ : Ty} {p : Addr}
def DiceT : Ty := fun v H => ∃ p, v = .ref p ∧ H p = some (diceO p)
theorem DiceT.mono : Mono DiceT := fun _ _ _ e ⟨p, h1, h2⟩ => ⟨p, h1, e _ _ h2⟩
end
/-- what a comprehension gives: the items whose test holds, in order -/
inductive LcR (B : Nat → Bool → Prop) (R : Nat → Ty) (H : Hp) : Nat → List V → Prop
  | nil : LcR B R H 0 []
  | keep {n : Nat} {ys : List V} {y : V} : LcR B R H n ys → B n true → R n y H → LcR B R H (n + 1) (ys ++ [y])
  | skip {n : Nat} {ys : List V} : LcR B R H n ys → B n false → LcR B R H (n + 1) ys
theorem LcR.firm {B : Nat → Bool → Prop} {R : Nat → Ty} {H H' : Hp} (m : ∀ i, Firm (R i)) (e : Kx H H') {n : Nat} {ys : List V} (h : LcR B R H n ys) : LcR B R H' n ys := by
  induction h with
  | nil => exact .nil
  | keep _ b r ih => exact .keep ih b (m _ _ _ _ e r)
  | skip _ b ih => exact .skip ih b
theorem LcR.gx {B : Nat → Bool → Prop} {R : Nat → Ty} {H H' : Hp} (m : ∀ i, Mono (R i)) (e : Gx H H') {n : Nat} {ys : List V} (h : LcR B R H n ys) : LcR B R H' n ys := by
  induction h with
  | nil => exact .nil
  | keep _ b r ih => exact .keep ih b (m _ _ _ _ e r)
  | skip _ b ih => exact .skip ih b
theorem LcR.len {B : Nat → Bool → Prop} {R : Nat → Ty} {H : Hp} {n : Nat} {ys : List V} (h : LcR B R H n ys) : ys.length ≤ n := by
  induction h with
  | nil => exact Nat.le_refl 0
  | keep _ _ _ ih =>
    rw [List.length_append]
    show _ + 1 ≤ _
    omega
  | skip _ _ ih => omega
/-- without a test: item by item -/
theorem LcR.all {B : Nat → Bool → Prop} {R : Nat → Ty} {H : Hp} {n : Nat} {ys : List V} (h : LcR B R H n ys) (hB : ∀ i, ¬ B i false) : ys.length = n ∧ ∀ i y, ys[i]? = some y → R i y H := by
  induction h with
  | nil => exact ⟨rfl, fun i y e => by simp at e⟩
  | @keep n ys y _ _ r ih =>
    refine ⟨by rw [List.length_append, ih.1]; rfl, fun i z e => ?_⟩
    by_cases hi : i < ys.length
    · rw [List.getElem?_append_left hi] at e
      exact ih.2 i z e
    · rw [List.getElem?_append_right (by omega)] at e
      have h0 : i - ys.length = 0 := by
        cases q : i - ys.length with
        | zero => rfl
        | succ m => rw [q] at e; simp at e
      rw [h0] at e
      cases e
      have : i = n := by rw [← ih.1]; omega
      rw [this]
      exact r
  | skip _ b _ => exact absurd b (hB _)
section
variable {K : PySem.W.Frag} {σ : L2.St} {H : Hp} {te : TE} {wi : TI} {g : TG} {tt : TT} {vs : List Nat} {n : Nat}
theorem wipe1 {j : Nat} {x : Option V} : wipe ((wipe σ [j]).set j x) [j] = wipe σ [j] := by
  show ((σ.set j none).set j x).set j none = σ.set j none
  rw [List.set_set, List.set_set]
end
theorem EvN.imp {σ : L2.St} {H : Hp} {te : TE} {Φ Φ' : Addr → Hp → Prop} (h : EvN te σ H Φ) (i : ∀ p H2, Gx H H2 → Φ p H2 → Φ' p H2) : EvN te σ H Φ' := fun H1 a Q q => h H1 a Q fun p H2 e n f => q p H2 e n (i p H2 (a.trans e) f)
def isI : V → Bool
  | .int i => decide (-(10 ^ 60) < i) && decide (i < 10 ^ 60)
  | _ => false
def wthn (x : V) (lo hi : Int) : Bool := match x with
  | .int i => isI x && (decide (lo ≤ i) && decide (i ≤ hi))
  | _ => false
def letters : List Nat := (("abcdefghijklmnopqrstuvwxyz" : Str)).cps.toList
def isW : V → Bool
  | .str z => (decide (1 ≤ (z.length : Int)) && decide ((z.length : Int) ≤ 8)) && z.cps.toList.all fun c => decide (c ∈ letters)
  | _ => false
def isNode2 (s n : V) : Bool := wthn n 0 3 && (isW s || (decide (s = .str "_" ∨ s = .str "#") && decide (n = .int 0)))
/-- no text too long -/
def Small (x : V) : Prop := ∀ z, x = .str z → z.length ≤ 100000
/-- a value, and whether it is a node -/
inductive NodeIn (K : PySem.W.Frag) (H : Hp) : V → Bool → Prop
  | other {x : V} {k : Kd} : Pl K H x k → k ≠ .tup → NodeIn K H x false
  | size {a : Addr} {xs : List V} : H a = some (.tup xs) → xs.length ≠ 2 → NodeIn K H (.ref a) false
  | pair {a : Addr} {s n : V} {ks kn : Kd} : H a = some (.tup [s, n]) → Pl K H s ks → Pl K H n kn → Small s → NodeIn K H (.ref a) (isNode2 s n)
def AtT : List Ty → List V → Hp → Prop
  | [], [], _ => True
  | Φ :: Φs, v :: vs, H => Φ v H ∧ AtT Φs vs H
  | _, _, _ => False
theorem AtT.mono {H H' : Hp} (e : Gx H H') : ∀ {Φs : List Ty} {vs : List V}, (∀ Φ ∈ Φs, Mono Φ) → AtT Φs vs H → AtT Φs vs H'
  | [], [], _, h => h
  | Φ :: Φs, v :: vs, m, h => ⟨m Φ (List.mem_cons_self ..) _ _ _ e h.1, AtT.mono e (fun Φ hp => m Φ (List.mem_cons_of_mem _ hp)) h.2⟩
  | [], _ :: _, _, h => h.elim
  | _ :: _, [], _, h => h.elim
theorem AtT.len {H : Hp} : ∀ {Φs : List Ty} {vs : List V}, AtT Φs vs H → vs.length = Φs.length
  | [], [], _ => rfl
  | Φ :: Φs, v :: vs, h => by rw [List.length_cons, List.length_cons, AtT.len h.2]
  | [], _ :: _, h => h.elim
  | _ :: _, [], h => h.elim
theorem AtT.get {H : Hp} : ∀ {Φs : List Ty} {vs : List V} {i : Nat} {x : V}, AtT Φs vs H → vs[i]? = some x → ∃ Φ, Φs[i]? = some Φ ∧ Φ x H
  | [], [], _, _, _, e => by simp at e
  | Φ :: Φs, v :: vs, 0, x, h, e => by
    simp at e
    subst e
    exact ⟨Φ, rfl, h.1⟩
  | Φ :: Φs, v :: vs, i + 1, x, h, e => by
    obtain ⟨Ψ, h1, h2⟩ := AtT.get (i := i) (x := x) h.2 (by simpa using e)
    exact ⟨Ψ, by simpa using h1, h2⟩
  | [], _ :: _, _, _, h, _ => h.elim
  | _ :: _, [], _, _, h, _ => h.elim
section
variable {K : PySem.W.Frag} {σ : L2.St} {H : Hp} {ta : TE} {tr : TA} {Φ : Ty} {Φs : List Ty}
def TupA (Φs : List Ty) : Addr → Hp → Prop := fun p H => ∃ xs, H p = some (.tup xs) ∧ AtT Φs xs H
def LstA (Φs : List Ty) : Addr → Hp → Prop := fun p H => ∃ xs, H p = some (.lst xs) ∧ AtT Φs xs H
def TupT (Φs : List Ty) : Ty := fun v H => ∃ p, v = .ref p ∧ TupA Φs p H
def LstT (Φs : List Ty) : Ty := fun v H => ∃ p, v = .ref p ∧ LstA Φs p H
theorem TupT.mono (m : ∀ Φ ∈ Φs, Mono Φ) : Mono (TupT Φs) := fun _ _ _ e ⟨p, z, xs, h1, h2⟩ => ⟨p, z, xs, e _ _ h1, h2.mono e m⟩
theorem LstT.mono (m : ∀ Φ ∈ Φs, Mono Φ) : Mono (LstT Φs) := fun _ _ _ e ⟨p, z, xs, h1, h2⟩ => ⟨p, z, xs, e _ _ h1, h2.mono e m⟩
end
theorem NodeIn.mono {K : PySem.W.Frag} {b : Bool} : Mono (fun v H => NodeIn K H v b) := fun v H H' e h => by
  cases h with
  | other p hk => exact .other (p.gx e) hk
  | size h hl => exact .size (e _ _ h) hl
  | pair h ps pn sm => exact .pair (e _ _ h) (ps.gx e) (pn.gx e) sm
/-- is this value that? -/
abbrev Eq1 (x : V) : Ty := fun v _ => v = x
theorem Eq1.mono {x : V} : Mono (Eq1 x) := fun _ _ _ _ h => h
theorem Eq1.firm {x : V} : Firm (Eq1 x) := fun _ _ _ _ h => h
mutual
theorem Dp.gx {K : PySem.W.Frag} {H H' : Hp} (e : Gx H H') : ∀ {v : V} {d : PyData}, Dp K H v d → Dp K H' v d
  | _, _, .non => .non
  | _, _, .bl b => .bl b
  | _, _, .int i => .int i
  | _, _, .str x => .str x
  | _, _, .lst h hs => .lst (e.l h) (DpAll.gx e hs)
  | _, _, .tup h hs => .tup (e.t h) (DpAll.gx e hs)
theorem DpAll.gx {K : PySem.W.Frag} {H H' : Hp} (e : Gx H H') : ∀ {vs : List V} {ds : List PyData}, DpAll K H vs ds → DpAll K H' vs ds
  | _, _, .nil => .nil
  | _, _, .cons h hs => .cons (Dp.gx e h) (DpAll.gx e hs)
end
def DatT (K : PySem.W.Frag) (d : PyData) : Ty := fun v H => Dp K H v d
theorem DatT.mono {K : PySem.W.Frag} {d : PyData} : Mono (DatT K d) := fun _ _ _ e h => Dp.gx e h
theorem DpAll.len {K : PySem.W.Frag} {H : Hp} : ∀ {vs : List V} {ds : List PyData}, DpAll K H vs ds → vs.length = ds.length
  | _, _, .nil => rfl
  | _, _, .cons _ hs => by rw [List.length_cons, List.length_cons, DpAll.len hs]
theorem erase_perm : ∀ {ls : List V} {k : Nat} {y : V}, ls[k]? = some y → (y :: ls.eraseIdx k).Perm ls
  | [], _, _, h => by simp at h
  | a :: ls, 0, y, h => by
    simp at h
    subst h
    exact List.Perm.refl _
  | a :: ls, k + 1, y, h => by
    have ih := erase_perm (ls := ls) (k := k) (y := y) (by simpa using h)
    exact (List.Perm.swap a y _).trans (ih.cons a)
def spSome (K : PySem.W.Frag) : Sp := fun vs H Q _ => ∃ (d l : Addr) (xs : List V) (n : Int), vs = [.ref d, .ref l, .int n] ∧ H d = some (diceO d) ∧ SqL K H l xs ∧ 0 ≤ n ∧ xs.length ≤ 1000 ∧
  ∀ p ys rest H', Gx H H' → H p = none → H' p = some (.lst ys) → (ys.length : Int) = (if (xs.length : Int) < n then (xs.length : Int) else n) → (ys ++ rest).Perm xs → Q (.ref p) H'
section
variable {X : Cx} {K : PySem.W.Frag}
theorem kix_list (hK : X.K = K := by rfl) : IxR X (rIxL K) := by subst hK; exact ix_list
theorem kop_eqD (hu : X.A.units + 64 < cLine) (hK : X.K = K := by rfl) : OpR X (compareOp .Eq) (rEqD K) := by subst hK; exact op_eqD hu
theorem kop_neD (hu : X.A.units + 64 < cLine) (hK : X.K = K := by rfl) : OpR X (compareOp .NotEq) (rNeD K) := by subst hK; exact op_neD hu
def rLenK (K : PySem.W.Frag) : List V → Hp → VK → Prop := fun xs H Q => ∃ p ys, xs = [.ref p] ∧ (SqL K H p ys ∨ SqT K H p ys) ∧ Q (.int ys.length) H
def rListK (K : PySem.W.Frag) : List V → Hp → VK → Prop := fun xs H Q => ∃ p ys, xs = [.ref p] ∧ (SqL K H p ys ∨ SqT K H p ys) ∧ ∀ l, H l = none → Q (.ref l) (upd H l (.lst ys))
def rTupK (K : PySem.W.Frag) : List V → Hp → VK → Prop := fun xs H Q => ∃ p ys, xs = [.ref p] ∧ ((SqL K H p ys ∧ ∀ l, H l = none → Q (.ref l) (upd H l (.tup ys))) ∨ (SqT K H p ys ∧ Q (.ref p) H))
theorem kcall_len (hK : X.K = K := by rfl) : CallR X (.builtin "len") (rLenK K) := by subst hK; exact call_len_seq
theorem kcall_list (hK : X.K = K := by rfl) : CallR X (.type "list") (rListK K) := by subst hK; exact call_list_of
theorem kcall_tuple (hK : X.K = K := by rfl) : CallR X (.type "tuple") (rTupK K) := by subst hK; exact call_tuple_of
theorem kcall_isi (hK : X.K = K := by rfl) : CallR X (.builtin "isinstance") (rIsi K) := by subst hK; exact call_isi
theorem kcr_all (hc : X.calm = true) (hK : X.K = K := by rfl) : CallR X (.builtin "all") (rAll K) := by subst hK; exact cr_all hc
variable {tg l : Expr} {tl : TE}
section
variable {o e : Expr} {es : List Expr} {to te : TE} {t : TA} {name : Str} {apos cpos pos : Pos} {T id : String} {r : V → List V → Hp → VK → Prop}
theorem kpe_bm (pa : PlainAttrs T) (slot : Slot T name id) (hty : typeOf (.builtin id) = pure (.type "method_descriptor")) (hm : MtR X id r) (ho : PE X o to) (ha : PA X (e :: es) t) (hK : X.K = K := by rfl)
    (hbase : attributeBase o name X.env (eval o X.env) = eval o X.env := by rfl)
    (hfew : ((backTo cpos (starEach (e :: es) X.env)).all (fun x => !x.1) && (backToKw cpos (keywordEach [] X.env)).all (fun x => x.1.isSome)
      && decide ((e :: es).length + ([] : List Keyword).length + (if ([] : List Keyword).isEmpty then 0 else 1) < 30)) = true := by rfl)
    (hline : (apos.endLine == cpos.line) = true := by rfl) (hs : starEach (e :: es) X.env = (false, eval e X.env) :: starEach es X.env := by rfl) (hplain : (backTo cpos (starEach es X.env)).any (·.1) = false := by rfl) :
    PE X (.Call (.Attribute o name apos) (e :: es) [] cpos) (tBM K T r to t) := by
  subst hK
  exact pe_bm pa slot hty hm ho ha hbase hfew hline hs hplain
def rJoinK (K : PySem.W.Frag) : V → List V → Hp → VK → Prop := fun x xs H Q => ∃ a p, ∃ ys : List Str, x = .str a ∧ xs = [.ref p] ∧ (SqL K H p (ys.map V.str) ∨ SqT K H p (ys.map V.str)) ∧
      (ys.map (·.length)).sum + ys.length * a.length ≤ 16777216 ∧ Q (.str (Txt.join a ys)) H
theorem kpe_join (ho : PE X o to) (he : PE X e te) (hK : X.K = K := by rfl) (hs : starEach [e] X.env = [(false, eval e X.env)] := by rfl) (hbase : attributeBase o "join" X.env (eval o X.env) = eval o X.env := by rfl) (hline : (apos.endLine == pos.line) = true := by rfl) :
    PE X (.Call (.Attribute o "join" apos) [e] [] pos) (tM1 (rJoinK K) to te) := by
  subst hK
  exact pe_join ho he hs hbase hline
end
end
theorem yes_ite {σ : L2.St} {H : Hp} {A B : Hp → Prop} (h : A H) : tYes σ H (fun b H => if b = true then A H else B H) := by
  show if true = true then A H else B H
  rw [if_pos rfl]
  exact h
def StrT (P : Str → Prop) : Ty := fun v _ => ∃ z, v = .str z ∧ P z
theorem StrT.firm {P : Str → Prop} : Firm (StrT P) := fun _ _ _ _ h => h
/-- some data -/
def DatP (K : PySem.W.Frag) (P : PyData → Prop) : Ty := fun v H => ∃ d, Dp K H v d ∧ SeqAt.shaped d = true ∧ P d
section
variable {K : PySem.W.Frag} {σ : L2.St} {H : Hp} {ta tb : TE} {P R : PyData → Prop}
theorem DatP.mono : Mono (DatP K P) := fun _ _ _ e ⟨d, h1, h2, h3⟩ => ⟨d, Dp.gx e h1, h2, h3⟩
end
theorem Dp.ints {K : PySem.W.Frag} {H : Hp} : ∀ (l : List Nat), DpAll K H (l.map fun (n : Nat) => V.int (n : Int)) (l.map fun (n : Nat) => PyData.int (n : Int))
  | [] => .nil
  | n :: l => .cons (.int _) (Dp.ints l)
abbrev intsV (l : List Nat) : List V := l.map fun (n : Nat) => V.int (n : Int)
section
variable {K : PySem.W.Frag} {σ : L2.St} {H : Hp} {ta tb tc te tl : TE} {tr : TA} {tz : TS} {D : Ends} {Φ : Ty}
/-- a list whose items are known -/
def LstK (K : PySem.W.Frag) (xs : List V) : Ty := fun v H => ∃ p, v = .ref p ∧ SqL K H p xs
def TupK (K : PySem.W.Frag) (xs : List V) : Ty := fun v H => ∃ p, v = .ref p ∧ SqT K H p xs
theorem LstK.mono {xs : List V} : Mono (LstK K xs) := fun _ _ _ e ⟨p, z, h⟩ => ⟨p, z, e.l h⟩
theorem TupK.mono {xs : List V} : Mono (TupK K xs) := fun _ _ _ e ⟨p, z, h⟩ => ⟨p, z, e.t h⟩
end
theorem Kx.rdT {H H' : Hp} {a : Addr} {xs : List V} (e : Kx H H') (h : Rd H a (.tup xs)) : Rd H' a (.tup xs) := by
  rcases h with h | ⟨o, h⟩
  · exact .inl (e.tup h)
  · exact .inr ⟨o, e.keep h fun _ z => by cases z⟩
theorem Kx.t {K : PySem.W.Frag} {H H' : Hp} {a : Addr} {xs : List V} (e : Kx H H') (h : SqT K H a xs) : SqT K H' a xs := by
  rcases h with h | h
  · exact .inl (e.rdT h)
  · exact .inr h
theorem ints_of {ys : List V} {n : Nat} {f : Nat → Nat} (hl : ys.length = n) (h : ∀ (i : Nat) (y : V), ys[i]? = some y → y = V.int ((f i : Nat) : Int)) : ys = intsV ((List.range n).map f) := by
  apply List.ext_getElem?
  intro i
  unfold intsV
  rw [List.map_map, List.getElem?_map]
  cases q : ys[i]? with
  | some y =>
    have hi : i < n := by rw [← hl]; exact (List.getElem?_eq_some_iff.mp q).1
    rw [h i y q, List.getElem?_range hi]
    rfl
  | none =>
    have : ys.length ≤ i := List.getElem?_eq_none_iff.mp q
    rw [List.getElem?_eq_none (by rw [List.length_range]; omega)]
    rfl
theorem kpg_tup {X : Cx} {K : PySem.W.Frag} {es : List Expr} {k : Nat} {t : TGs} {n : Nat} {pos : Pos} (hc : X.calm = true) (h : PGs X es t) (hK : X.K = K := by rfl)
    (hn : (assignEach es X.env).length = n := by rfl) (hst : (assignEach es X.env).findIdx? (·.1) = none := by rfl) : PG X (.Tuple es k pos) (gTup K n t) := by
  subst hK
  exact pg_tup hc h hn hst
theorem putK_len {κ : Type} [DecidableEq κ] (kvs : List (κ × V)) (k : κ) (v : V) : (putK kvs k v).length ≤ kvs.length + 1 := by
  unfold putK
  split
  · rw [List.length_map]
    omega
  · rw [List.length_append]
    exact Nat.le_refl _
end Ly
set_option Elab.async false
set_option maxRecDepth 100000
set_option linter.all false
namespace Pu
open PySem PySem.Spec PyProof.Rows L2 Ly
inductive D where
  | non | bl (b : Bool) | int (i : Int) | str (x : Str)
  | lst (ds : List D) | tup (ds : List D)
  | dic (ks : List Key) (ds : List D)
  | obj (C : Addr) (ns : List Str) (ds : List D)
  | dice
  | cls (C : Addr)
  | exn (a dd : Addr) (ns : List Str) (ds : List D)
  | lsk (ds : List D)
  | dit (ks : List (List Key)) (ds : List D)
mutual
/-- v is d, by what is seen of the heap -/
inductive Rep (K : PySem.W.Frag) (W : Hp) : V → D → Prop
  | non : Rep K W .non .non
  | bl (b : Bool) : Rep K W (.bl b) (.bl b)
  | int (i : Int) : Rep K W (.int i) (.int i)
  | str (x : Str) : Rep K W (.str x) (.str x)
  | lst {a : Addr} {vs : List V} {ds : List D} : W a = some (.lst vs) → RepAll K W vs ds → vs.length ≤ sizeLine → Rep K W (.ref a) (.lst ds)
  | tup {a : Addr} {vs : List V} {ds : List D} : W a = some (.tup vs) → RepAll K W vs ds → vs.length ≤ sizeLine → Rep K W (.ref a) (.tup ds)
  | dic {a : Addr} {kvs : List (Key × V)} {ks : List Key} {ds : List D} : Rd W a (.dK kvs) → kvs.map Prod.fst = ks → RepAll K W (kvs.map Prod.snd) ds → kvs.length ≤ sizeLine → Rep K W (.ref a) (.dic ks ds)
  | obj {a C dx : Addr} {fs : List (Str × V)} {ns : List Str} {ds : List D} : W a = some (.ins C dx fs) → fs.map Prod.fst = ns → RepAll K W (fs.map Prod.snd) ds → Rep K W (.ref a) (.obj C ns ds)
  | dice {a : Addr} : W a = some (diceO a) → Rep K W (.ref a) .dice
  | cls (C : Addr) : Rep K W (.ref C) (.cls C)
  | exn {a dd : Addr} {fs : List (Str × V)} {ns : List Str} {ds : List D} : W dd = some (.xd fs) → fs.map Prod.fst = ns → RepAll K W (fs.map Prod.snd) ds → Rep K W (.ref a) (.exn a dd ns ds)
  | lsk {a : Addr} {vs : List V} {ds : List D} : SqL K W a vs → RepAll K W vs ds → vs.length ≤ sizeLine → Rep K W (.ref a) (.lsk ds)
  | dit {a : Addr} {kvs : List (List Key × V)} {ks : List (List Key)} {ds : List D} : Rd W a (.dT kvs) → kvs.map Prod.fst = ks → RepAll K W (kvs.map Prod.snd) ds → kvs.length ≤ sizeLine → Rep K W (.ref a) (.dit ks ds)
inductive RepAll (K : PySem.W.Frag) (W : Hp) : List V → List D → Prop
  | nil : RepAll K W [] []
  | cons {v : V} {vs : List V} {d : D} {ds : List D} : Rep K W v d → RepAll K W vs ds → RepAll K W (v :: vs) (d :: ds)
end
/-- what is read stays readable -/
def Le (W W' : Hp) : Prop := (∀ a vs, W a = some (.lst vs) → W' a = some (.lst vs)) ∧ (∀ a u, (∀ o v, u ≠ .frz o v) → Rd W a u → Rd W' a u) ∧ (∀ a C dx fs, W a = some (.ins C dx fs) → W' a = some (.ins C dx fs)) ∧ (∀ a, W a = some (diceO a) → W' a = some (diceO a)) ∧ (∀ a fs, W a = some (.xd fs) → W' a = some (.xd fs)) ∧ ∀ a vs, W a = some (.tup vs) → W' a = some (.tup vs)
theorem Gx.le {W W' : Hp} (e : Gx W W') : Le W W' := ⟨fun _ _ h => e _ _ h, fun _ _ _ h => e.rd h, fun _ _ _ _ h => e _ _ h, fun _ h => e _ _ h, fun _ _ h => e _ _ h, fun _ _ h => e _ _ h⟩
theorem Le.t {K : PySem.W.Frag} {W W' : Hp} (e : Le W W') {a : Addr} {vs : List V} (h : SqT K W a vs) : SqT K W' a vs := by
  rcases h with h | h
  · exact .inl (e.2.1 _ _ (fun _ _ z => by cases z) h)
  · exact .inr h
theorem Le.l {K : PySem.W.Frag} {W W' : Hp} (e : Le W W') {a : Addr} {vs : List V} (h : SqL K W a vs) : SqL K W' a vs := by
  rcases h with h | h
  · exact .inl (e.2.1 _ _ (fun _ _ z => by cases z) h)
  · exact .inr h
mutual
theorem Rep.le {K : PySem.W.Frag} {W W' : Hp} (e : Le W W') : ∀ {v : V} {d : D}, Rep K W v d → Rep K W' v d
  | _, _, .non => .non
  | _, _, .bl b => .bl b
  | _, _, .int i => .int i
  | _, _, .str x => .str x
  | _, _, .lst h hs n => .lst (e.1 _ _ h) (RepAll.le e hs) n
  | _, _, .tup h hs n => .tup (e.2.2.2.2.2 _ _ h) (RepAll.le e hs) n
  | _, _, .dic h k hs n => .dic (e.2.1 _ _ (fun _ _ z => by cases z) h) k (RepAll.le e hs) n
  | _, _, .obj h k hs => .obj (e.2.2.1 _ _ _ _ h) k (RepAll.le e hs)
  | _, _, .dice h => .dice (e.2.2.2.1 _ h)
  | _, _, .cls C => .cls C
  | _, _, .exn h k hs => .exn (e.2.2.2.2.1 _ _ h) k (RepAll.le e hs)
  | _, _, .lsk h hs n => .lsk (e.l h) (RepAll.le e hs) n
  | _, _, .dit h k hs n => .dit (e.2.1 _ _ (fun _ _ z => by cases z) h) k (RepAll.le e hs) n
theorem RepAll.le {K : PySem.W.Frag} {W W' : Hp} (e : Le W W') : ∀ {vs : List V} {ds : List D}, RepAll K W vs ds → RepAll K W' vs ds
  | _, _, .nil => .nil
  | _, _, .cons h hs => .cons (Rep.le e h) (RepAll.le e hs)
end
section
variable {K : PySem.W.Frag} {W W' : Hp}
theorem Rep.gx (e : Gx W W') {v : V} {d : D} (h : Rep K W v d) : Rep K W' v d := h.le (Gx.le e)
theorem RepAll.gx (e : Gx W W') {vs : List V} {ds : List D} (h : RepAll K W vs ds) : RepAll K W' vs ds := h.le (Gx.le e)
theorem RepAll.len : ∀ {vs : List V} {ds : List D}, RepAll K W vs ds → vs.length = ds.length
  | _, _, .nil => rfl
  | _, _, .cons _ hs => by rw [List.length_cons, List.length_cons, RepAll.len hs]
theorem RepAll.get : ∀ {vs : List V} {ds : List D} {i : Nat} {v : V}, RepAll K W vs ds → vs[i]? = some v → ∃ d, ds[i]? = some d ∧ Rep K W v d
  | _, _, _, _, .nil, e => by simp at e
  | _, _, 0, _, .cons h _, e => by simp at e; subst e; exact ⟨_, rfl, h⟩
  | _, _, i + 1, v, .cons _ hs, e => by
    obtain ⟨d, h1, h2⟩ := RepAll.get (i := i) (v := v) hs (by simpa using e)
    exact ⟨d, by simpa using h1, h2⟩
theorem RepAll.getD : ∀ {vs : List V} {ds : List D} {i : Nat} {d : D}, RepAll K W vs ds → ds[i]? = some d → ∃ v, vs[i]? = some v ∧ Rep K W v d
  | _, _, _, _, .nil, e => by simp at e
  | _, _, 0, _, .cons h _, e => by simp at e; subst e; exact ⟨_, rfl, h⟩
  | _, _, i + 1, v, .cons _ hs, e => by
    obtain ⟨d, h1, h2⟩ := RepAll.getD (i := i) (d := v) hs (by simpa using e)
    exact ⟨d, by simpa using h1, h2⟩
theorem RepAll.app : ∀ {vs us : List V} {ds es : List D}, RepAll K W vs ds → RepAll K W us es → RepAll K W (vs ++ us) (ds ++ es)
  | _, _, _, _, .nil, h => h
  | _, _, _, _, .cons h hs, k => .cons h (RepAll.app hs k)
theorem RepAll.one {v : V} {d : D} (h : Rep K W v d) : RepAll K W [v] [d] := .cons h .nil
theorem RepAll.take : ∀ {vs : List V} {ds : List D} (n : Nat), RepAll K W vs ds → RepAll K W (vs.take n) (ds.take n)
  | _, _, 0, _ => .nil
  | _, _, _ + 1, .nil => .nil
  | _, _, n + 1, .cons h hs => .cons h (RepAll.take n hs)
theorem RepAll.drop : ∀ {vs : List V} {ds : List D} (n : Nat), RepAll K W vs ds → RepAll K W (vs.drop n) (ds.drop n)
  | _, _, 0, h => h
  | _, _, _ + 1, .nil => .nil
  | _, _, n + 1, .cons _ hs => RepAll.drop n hs
theorem RepAll.set {v : V} {d : D} (h : Rep K W v d) : ∀ {vs : List V} {ds : List D} (n : Nat), RepAll K W vs ds → RepAll K W (vs.set n v) (ds.set n d)
  | _, _, _, .nil => .nil
  | _, _, 0, .cons _ hs => .cons h hs
  | _, _, n + 1, .cons k hs => .cons k (RepAll.set h n hs)
theorem RepAll.eraseIdx : ∀ {vs : List V} {ds : List D} (n : Nat), RepAll K W vs ds → RepAll K W (vs.eraseIdx n) (ds.eraseIdx n)
  | _, _, _, .nil => .nil
  | _, _, 0, .cons _ hs => hs
  | _, _, n + 1, .cons k hs => .cons k (RepAll.eraseIdx n hs)
theorem RepAll.map {α : Type} {f : α → V} {g : α → D} (h : ∀ x, Rep K W (f x) (g x)) : ∀ l : List α, RepAll K W (l.map f) (l.map g)
  | [] => .nil
  | x :: l => .cons (h x) (RepAll.map h l)
end
/-- new, or a tuple: nobody changes a tuple -/
def Nw (H : Hp) (a : Addr) (o : HO) : Prop := H a = none ∨ ∃ vs, o = .tup vs
structure Ex (W H W' H' : Hp) : Prop where
  h : Gx H H'
  w : Gx W W'
  s : Gx W' H'
  n : ∀ a o, W' a = some o → W a = some o ∨ Nw H a o
section
variable {W H W1 H1 W2 H2 : Hp} {p : Addr} {o : HO}
theorem Ex.refl (s : Gx W H) : Ex W H W H := ⟨Gx.refl _, Gx.refl _, s, fun _ _ h => .inl h⟩
theorem Ex.trans (a : Ex W H W1 H1) (b : Ex W1 H1 W2 H2) : Ex W H W2 H2 := ⟨a.h.trans b.h, a.w.trans b.w, b.s, fun x o h => by
  rcases b.n x o h with h | h
  · exact a.n x o h
  · exact .inr (h.imp (fun h => a.h.free h) id)⟩
theorem gx_upd {W H : Hp} (s : Gx W H) (p : Addr) (o : HO) : Gx (upd W p o) (upd H p o) := fun a u h => by
  by_cases e : a = p
  · subst e
    rw [upd_same] at h ⊢
    exact h
  · rw [upd_ne e] at h ⊢
    exact s _ _ h
theorem Ex.new (s : Gx W H) (hp : H p = none) : Ex W H (upd W p o) (upd H p o) := ⟨Gx.new hp, Gx.new (s.free hp), gx_upd s p o, fun a u h => by
  by_cases e : a = p
  · subst e
    exact .inr (.inl hp)
  · rw [upd_ne e] at h
    exact .inl h⟩
/-- a new thing that is not seen -/
theorem Ex.hid (s : Gx W H) (hp : H p = none) : Ex W H W (upd H p o) := ⟨Gx.new hp, Gx.refl _, s.trans (Gx.new hp), fun a u h => .inl h⟩
/-- .. and then it is -/
theorem Ex.see {W' H' : Hp} (e : Ex W H W' H') (hp : H p = none) (hw : W' p = none) (h' : H' p = some o) : Ex W H (upd W' p o) H' := ⟨e.h, e.w.trans (Gx.new hw), fun a u h => by
  by_cases q : a = p
  · subst q
    rw [upd_same] at h
    rw [← h]
    exact h'
  · rw [upd_ne q] at h
    exact e.s _ _ h, fun a u h => by
  by_cases q : a = p
  · subst q
    exact .inr (.inl hp)
  · rw [upd_ne q] at h
    exact e.n _ _ h⟩
/-- what is hidden and no tuple stays hidden -/
theorem Ex.hide {W' H' : Hp} (e : Ex W H W' H') (hw : W p = none) (hp : H p = some o) (hu : ∀ vs, o ≠ .tup vs) : W' p = none := by
  cases q : W' p with
  | none => rfl
  | some u' =>
    rcases e.n p u' q with z | z | ⟨vs, z⟩
    · rw [hw] at z; cases z
    · rw [hp] at z; cases z
    · subst z
      have h1 := e.s _ _ q
      rw [e.h _ _ hp] at h1
      exact absurd (Option.some.inj h1) (hu vs)
/-- a tuple that is there may be seen -/
theorem Ex.adopt (s : Gx W H) {vs : List V} (hp : H p = some (.tup vs)) : Ex W H (upd W p (.tup vs)) H := ⟨Gx.refl _, fun a u h => by
  by_cases e : a = p
  · subst e
    rw [s _ _ h] at hp
    cases hp
    exact upd_same
  · rw [upd_ne e]
    exact h, fun a u h => by
  by_cases e : a = p
  · subst e
    rw [upd_same] at h
    rw [← h]
    exact hp
  · rw [upd_ne e] at h
    exact s _ _ h, fun a u h => by
  by_cases e : a = p
  · subst e
    rw [upd_same] at h
    cases h
    exact .inr (.inr ⟨vs, rfl⟩)
  · rw [upd_ne e] at h
    exact .inl h⟩
end
inductive B where
  | un | val (d : D)
  | lst (ds : List D)
  | dic (ks : List Key) (ds : List D)
  | obj (a C : Addr) (ns : List Str) (ds : List D)
  | bor (a : Addr) (ks : List Key) (ds : List D)
  | dit (ks : List (List Key)) (ds : List D)
abbrev Env := List B
/-- what stands in a slot: o its own thing's place -/
def BRep (K : PySem.W.Frag) (H0 W H : Hp) (o : Option Addr) : B → Option V → Prop
  | .un, _ => o = none
  | .val d, s => o = none ∧ ∃ v, s = some v ∧ Rep K W v d
  | .lst ds, s => ∃ p vs, o = some p ∧ s = some (.ref p) ∧ W p = none ∧ H0 p = none ∧ H p = some (.lst vs) ∧ RepAll K W vs ds ∧ vs.length ≤ sizeLine
  | .dic ks ds, s => ∃ p kvs, o = some p ∧ s = some (.ref p) ∧ W p = none ∧ H0 p = none ∧ H p = some (.dK kvs) ∧ kvs.map Prod.fst = ks ∧ RepAll K W (kvs.map Prod.snd) ds ∧ kvs.length ≤ sizeLine
  | .obj a C ns ds, s => ∃ p dx fs, p = a ∧ o = some p ∧ s = some (.ref p) ∧ W p = none ∧ H0 p = none ∧ H p = some (.ins C dx fs) ∧ H dx = some (.own p) ∧ H0 dx = none ∧ fs.map Prod.fst = ns ∧ RepAll K W (fs.map Prod.snd) ds ∧ ns.length ≤ 100
  | .bor q ks ds, s => o = some q ∧ s = some (.ref q) ∧ W q = none ∧ ∃ od kvs, H q = some (.frz od (.dK kvs)) ∧ kvs.map Prod.fst = ks ∧ RepAll K W (kvs.map Prod.snd) ds ∧ kvs.length ≤ sizeLine
  | .dit ks ds, s => ∃ p kvs, o = some p ∧ s = some (.ref p) ∧ W p = none ∧ H0 p = none ∧ H p = some (.dT kvs) ∧ kvs.map Prod.fst = ks ∧ RepAll K W (kvs.map Prod.snd) ds ∧ kvs.length ≤ sizeLine
structure Sat (K : PySem.W.Frag) (W0 H0 W : Hp) (ρ : Env) (σ : L2.St) (H : Hp) : Prop where
  ex : Ex W0 H0 W H
  len : σ.length = ρ.length
  rep : ∃ oa : Nat → Option Addr, (∀ i j p, oa i = some p → oa j = some p → i = j) ∧ ∀ i b, ρ[i]? = some b → ∃ s, σ[i]? = some s ∧ BRep K H0 W H (oa i) b s
section
variable {K : PySem.W.Frag} {W0 H0 W H W' H' : Hp} {ρ : Env} {σ : L2.St} {i : Nat}
theorem BRep.ext {o : Option Addr} {b : B} {s : Option V} (e : Ex W H W' H') (h : BRep K H0 W H o b s) : BRep K H0 W' H' o b s := by
  have hid : ∀ {p : Addr} {u : HO}, (∀ vs, u ≠ .tup vs) → W p = none → H p = some u → W' p = none := fun hu hw hp => e.hide hw hp hu
  cases b with
  | un => exact h
  | val d =>
    obtain ⟨h1, v, h2, h3⟩ := h
    exact ⟨h1, v, h2, h3.gx e.w⟩
  | lst ds =>
    obtain ⟨p, vs, h1, h2, h3, h4, h5, h6, h7⟩ := h
    exact ⟨p, vs, h1, h2, hid (fun _ z => by cases z) h3 h5, h4, e.h _ _ h5, h6.gx e.w, h7⟩
  | dic ks ds =>
    obtain ⟨p, vs, h1, h2, h3, h4, h5, h6, h7, h8⟩ := h
    exact ⟨p, vs, h1, h2, hid (fun _ z => by cases z) h3 h5, h4, e.h _ _ h5, h6, h7.gx e.w, h8⟩
  | obj a C ns ds =>
    obtain ⟨p, dx, vs, h0, h1, h2, h3, h4, h5, h6, h7, h8, h9⟩ := h
    exact ⟨p, dx, vs, h0, h1, h2, hid (fun _ z => by cases z) h3 h5, h4, e.h _ _ h5, e.h _ _ h6, h7, h8, h9.1.gx e.w, h9.2⟩
  | bor q ks ds =>
    obtain ⟨h1, h2, h3, od, kvs, h5, h6, h7, h8⟩ := h
    exact ⟨h1, h2, hid (fun _ z => by cases z) h3 h5, od, kvs, e.h _ _ h5, h6, h7.gx e.w, h8⟩
  | dit ks ds =>
    obtain ⟨p, vs, h1, h2, h3, h4, h5, h6, h7, h8⟩ := h
    exact ⟨p, vs, h1, h2, hid (fun _ z => by cases z) h3 h5, h4, e.h _ _ h5, h6, h7.gx e.w, h8⟩
theorem Sat.ext (h : Sat K W0 H0 W ρ σ H) (e : Ex W H W' H') : Sat K W0 H0 W' ρ σ H' := ⟨h.ex.trans e, h.len, by
  obtain ⟨oa, h1, h2⟩ := h.rep
  refine ⟨oa, h1, fun i b hb => ?_⟩
  obtain ⟨s, h3, h4⟩ := h2 i b hb
  exact ⟨s, h3, h4.ext e⟩⟩
theorem Sat.see (h : Sat K W0 H0 W ρ σ H) : Gx W H := h.ex.s
theorem Sat.val (h : Sat K W0 H0 W ρ σ H) {d : D} (hi : ρ[i]? = some (.val d)) : ∃ v, σ[i]? = some (some v) ∧ Rep K W v d := by
  obtain ⟨oa, _, h2⟩ := h.rep
  obtain ⟨s, h3, _, v, h4, h5⟩ := h2 i _ hi
  exact ⟨v, by rw [h3, h4], h5⟩
theorem Sat.own (h : Sat K W0 H0 W ρ σ H) {ds : List D} (hi : ρ[i]? = some (.lst ds)) : ∃ p vs, σ[i]? = some (some (.ref p)) ∧ W p = none ∧ H0 p = none ∧ H p = some (.lst vs) ∧ RepAll K W vs ds ∧ vs.length ≤ sizeLine := by
  obtain ⟨oa, _, h2⟩ := h.rep
  obtain ⟨s, h3, p, vs, _, h4, h5⟩ := h2 i _ hi
  exact ⟨p, vs, by rw [h3, h4], h5⟩
def setO (oa : Nat → Option Addr) (i : Nat) (o : Option Addr) : Nat → Option Addr := fun j => if j = i then o else oa j
theorem setO_same {oa : Nat → Option Addr} {o : Option Addr} : setO oa i o i = o := if_pos rfl
theorem setO_ne {oa : Nat → Option Addr} {o : Option Addr} {j : Nat} (h : j ≠ i) : setO oa i o j = oa j := if_neg h
/-- one slot anew: b with its own place o -/
theorem sat_set {oa : Nat → Option Addr} {b : B} {s : Option V} {o : Option Addr} (ex : Ex W0 H0 W' H') (len : σ.length = ρ.length) (h1 : ∀ i j p, oa i = some p → oa j = some p → i = j) (hn : ∀ j p, o = some p → j ≠ i → j < ρ.length → oa j ≠ some p)
    (h2 : ∀ j b, j ≠ i → ρ[j]? = some b → ∃ s, σ[j]? = some s ∧ BRep K H0 W' H' (oa j) b s) (r : BRep K H0 W' H' o b s) : Sat K W0 H0 W' (ρ.set i b) (σ.set i s) H' := ⟨ex, by rw [List.length_set, List.length_set]; exact len, by
  refine ⟨fun j => if j < ρ.length then setO oa i o j else none, fun a c p ha hc => ?_, fun j b' hb => ?_⟩
  · dsimp only at ha hc
    by_cases la : a < ρ.length
    · rw [if_pos la] at ha
      by_cases lc : c < ρ.length
      · rw [if_pos lc] at hc
        by_cases qa : a = i
        · rw [qa, setO_same] at ha
          by_cases qc : c = i
          · rw [qa, qc]
          · rw [setO_ne qc] at hc
            exact absurd hc (hn c p ha qc lc)
        · rw [setO_ne qa] at ha
          by_cases qc : c = i
          · rw [qc, setO_same] at hc
            exact absurd ha (hn a p hc qa la)
          · rw [setO_ne qc] at hc
            exact h1 a c p ha hc
      · rw [if_neg lc] at hc; cases hc
    · rw [if_neg la] at ha; cases ha
  · have hj : j < ρ.length := by
      have := (List.getElem?_eq_some_iff.mp hb).1
      rw [List.length_set] at this
      exact this
    dsimp only
    rw [if_pos hj]
    by_cases q : j = i
    · subst q
      rw [List.getElem?_set_self hj] at hb
      cases hb
      rw [setO_same]
      exact ⟨s, by rw [List.getElem?_set_self (by rw [len]; exact hj)], r⟩
    · rw [List.getElem?_set_ne (Ne.symm q)] at hb
      obtain ⟨s', h3, h4⟩ := h2 j b' q hb
      rw [setO_ne q]
      exact ⟨s', by rw [List.getElem?_set_ne (Ne.symm q)]; exact h3, h4⟩⟩
/-- a value stored -/
theorem Sat.set (h : Sat K W0 H0 W ρ σ H) {v : V} {d : D} (r : Rep K W v d) : Sat K W0 H0 W (ρ.set i (.val d)) (σ.set i (some v)) H := by
  obtain ⟨oa, h1, h2⟩ := h.rep
  exact sat_set (o := none) h.ex h.len h1 (fun _ _ z => by cases z) (fun j b _ hb => h2 j b hb) ⟨rfl, v, rfl, r⟩
theorem Sat.wipe1 (h : Sat K W0 H0 W ρ σ H) : Sat K W0 H0 W (ρ.set i .un) (σ.set i none) H := by
  obtain ⟨oa, h1, h2⟩ := h.rep
  exact sat_set (o := none) h.ex h.len h1 (fun _ _ z => by cases z) (fun j b _ hb => h2 j b hb) rfl
theorem BRep.place {o : Option Addr} {p : Addr} {b : B} {s : Option V} (h : BRep K H0 W H o b s) (e : o = some p) : (∃ u, H p = some u) ∧ W p = none := by
  cases b with
  | un => rw [show o = none from h] at e; cases e
  | val d => rw [h.1] at e; cases e
  | lst ds =>
    obtain ⟨q, vs, h1, h2, h3, h4, h5, _⟩ := h
    rw [h1] at e; cases e
    exact ⟨⟨_, h5⟩, h3⟩
  | dic ks ds =>
    obtain ⟨q, vs, h1, h2, h3, h4, h5, _⟩ := h
    rw [h1] at e; cases e
    exact ⟨⟨_, h5⟩, h3⟩
  | obj a C ns ds =>
    obtain ⟨q, dx, vs, _, h1, h2, h3, h4, h5, _⟩ := h
    rw [h1] at e; cases e
    exact ⟨⟨_, h5⟩, h3⟩
  | bor q ks ds =>
    obtain ⟨h1, h2, h3, od, kvs, h5, _⟩ := h
    rw [h1] at e; cases e
    exact ⟨⟨_, h5⟩, h3⟩
  | dit ks ds =>
    obtain ⟨q, vs, h1, h2, h3, h4, h5, _⟩ := h
    rw [h1] at e; cases e
    exact ⟨⟨_, h5⟩, h3⟩
/-- a new own thing stored -/
theorem Sat.put (h : Sat K W0 H0 W ρ σ H) {p : Addr} {b : B} (e : Ex W H W' H') (hp : H p = none) (r : BRep K H0 W' H' (some p) b (some (.ref p))) : Sat K W0 H0 W' (ρ.set i b) (σ.set i (some (.ref p))) H' := by
  obtain ⟨oa, h1, h2⟩ := h.rep
  refine sat_set (o := some p) (h.ex.trans e) h.len h1 (fun j q z hj hl hq => ?_) (fun j b _ hb => ?_) r
  · cases z
    obtain ⟨s, _, h4⟩ := h2 j _ (List.getElem?_eq_getElem hl)
    obtain ⟨⟨u, h5⟩, _⟩ := h4.place hq
    rw [hp] at h5; cases h5
  · obtain ⟨s, h3, h4⟩ := h2 j b hb
    exact ⟨s, h3, h4.ext e⟩
/-- what an own thing's change leaves -/
theorem BRep.mut {o : Option Addr} {p : Addr} {u : HO} {b : B} {s : Option V} (h : BRep K H0 W H o b s) (ho : o ≠ some p) (hown : ∀ x, H p ≠ some (.own x)) : BRep K H0 W (upd H p u) o b s := by
  cases b with
  | un => exact h
  | val d => exact h
  | lst ds =>
    obtain ⟨q, vs, h1, h2, h3, h4, h5, h6⟩ := h
    exact ⟨q, vs, h1, h2, h3, h4, by rw [upd_ne (fun z => ho (by rw [h1, z]))]; exact h5, h6⟩
  | dic ks ds =>
    obtain ⟨q, vs, h1, h2, h3, h4, h5, h6⟩ := h
    exact ⟨q, vs, h1, h2, h3, h4, by rw [upd_ne (fun z => ho (by rw [h1, z]))]; exact h5, h6⟩
  | obj a C ns ds =>
    obtain ⟨q, dx, vs, h0, h1, h2, h3, h4, h5, h6, h7⟩ := h
    exact ⟨q, dx, vs, h0, h1, h2, h3, h4, by rw [upd_ne (fun z => ho (by rw [h1, z]))]; exact h5, by rw [upd_ne (fun z => hown q (by rw [← z]; exact h6))]; exact h6, h7⟩
  | bor q ks ds =>
    obtain ⟨h1, h2, h3, od, kvs, h5, h6⟩ := h
    exact ⟨h1, h2, h3, od, kvs, by rw [upd_ne (fun z => ho (by rw [h1, z]))]; exact h5, h6⟩
  | dit ks ds =>
    obtain ⟨q, vs, h1, h2, h3, h4, h5, h6⟩ := h
    exact ⟨q, vs, h1, h2, h3, h4, by rw [upd_ne (fun z => ho (by rw [h1, z]))]; exact h5, h6⟩
theorem Ex.mut {p : Addr} {u : HO} (e : Ex W0 H0 W H) (h0 : H0 p = none) (hw : W p = none) : Ex W0 H0 W (upd H p u) := ⟨e.h.mut h0, e.w, fun a o h => by
  by_cases q : a = p
  · subst q
    rw [hw] at h; cases h
  · rw [upd_ne q]
    exact e.s _ _ h, e.n⟩
/-- an own list changed -/
theorem Sat.chg (h : Sat K W0 H0 W ρ σ H) {ds es : List D} {p : Addr} {us : List V} (hi : ρ[i]? = some (.lst ds)) (hs : σ[i]? = some (some (.ref p))) (r : RepAll K W us es) (hn : us.length ≤ sizeLine) : Sat K W0 H0 W (ρ.set i (.lst es)) σ (upd H p (.lst us)) := by
  obtain ⟨oa, h1, h2⟩ := h.rep
  obtain ⟨s, h3, q, vs, h4, h5, h6, h7, h8, _⟩ := h2 i _ hi
  have hq : q = p := by
    rw [h3, h5] at hs
    cases hs
    rfl
  subst hq
  have hσ : σ.set i (some (.ref q)) = σ := by
    apply List.ext_getElem?
    intro j
    by_cases e : j = i
    · subst e
      rw [List.getElem?_set_self (List.getElem?_eq_some_iff.mp hs).1, hs]
    · rw [List.getElem?_set_ne (Ne.symm e)]
  rw [← hσ]
  refine sat_set (o := some q) (Ex.mut h.ex h7 h6) h.len h1 (fun j p z hj _ hp => ?_) (fun j b hj hb => ?_) ⟨q, us, rfl, rfl, h6, h7, upd_same, r, hn⟩
  · cases z
    exact hj (h1 j i q hp h4)
  · obtain ⟨s', h9, h10⟩ := h2 j b hb
    exact ⟨s', h9, h10.mut (fun z => hj (h1 j i q z h4)) fun x z => by rw [h8] at z; cases z⟩
end
end Pu
set_option Elab.async false
set_option maxRecDepth 100000
set_option linter.all false
namespace Pu
open PySem PySem.Spec PyProof.Rows L2 Ly
inductive Exn where
  | bare (C : Addr)
  | kept (C : Addr) (ns : List Str) (ds : List D)
inductive XRep (K : PySem.W.Frag) (W : Hp) : Exn → Value → Option Addr → Prop
  | bare (C : Addr) : XRep K W (.bare C) (.ref C) none
  | kept {C a : Addr} {fs : List (Str × V)} {ns : List Str} {ds : List D} : W a = some (.xd fs) → fs.map Prod.fst = ns → RepAll K W (fs.map Prod.snd) ds → XRep K W (.kept C ns ds) (.ref C) (some a)
def XC (K : PySem.W.Frag) (E : XK) (W H : Hp) (Z : Exn → Prop) : Prop := ∀ x cls dd W' H', Ex W H W' H' → XRep K W' x cls dd → Z x → E cls dd H'
theorem XC.ext {K : PySem.W.Frag} {E : XK} {W H W' H' : Hp} {Z : Exn → Prop} (h : XC K E W H Z) (e : Ex W H W' H') : XC K E W' H' Z := fun x cls dd W2 H2 e2 => h x cls dd W2 H2 (e.trans e2)
inductive RepT (K : PySem.W.Frag) (W H : Hp) : V → D → Prop
  | val {v : V} {d : D} : Rep K W v d → RepT K W H v d
  | lst {a : Addr} {vs : List V} {ds : List D} : H a = some (.lst vs) → RepAll K W vs ds → vs.length ≤ sizeLine → RepT K W H (.ref a) (.lst ds)
  | dic {a : Addr} {kvs : List (Key × V)} {ks : List Key} {ds : List D} : Rd H a (.dK kvs) → kvs.map Prod.fst = ks → RepAll K W (kvs.map Prod.snd) ds → kvs.length ≤ sizeLine → RepT K W H (.ref a) (.dic ks ds)
  | obj {a C dx : Addr} {fs : List (Str × V)} {ns : List Str} {ds : List D} : H a = some (.ins C dx fs) → fs.map Prod.fst = ns → RepAll K W (fs.map Prod.snd) ds → RepT K W H (.ref a) (.obj C ns ds)
  | dit {a : Addr} {kvs : List (List Key × V)} {ks : List (List Key)} {ds : List D} : Rd H a (.dT kvs) → kvs.map Prod.fst = ks → RepAll K W (kvs.map Prod.snd) ds → kvs.length ≤ sizeLine → RepT K W H (.ref a) (.dit ks ds)
inductive RepTs (K : PySem.W.Frag) (W H : Hp) : List V → List D → Prop
  | nil : RepTs K W H [] []
  | cons {v : V} {vs : List V} {d : D} {ds : List D} : RepT K W H v d → RepTs K W H vs ds → RepTs K W H (v :: vs) (d :: ds)
section
variable {K : PySem.W.Frag} {W H W' H' : Hp}
theorem RepT.full {v : V} {d : D} (s : Gx W H) (h : RepT K W H v d) : Rep K H v d := by
  cases h with
  | val h => exact h.gx s
  | lst h hs n => exact .lst h (hs.gx s) n
  | dic h k hs n => exact .dic h k (hs.gx s) n
  | obj h k hs => exact .obj h k (hs.gx s)
  | dit h k hs n => exact .dit h k (hs.gx s) n
theorem RepT.ext {v : V} {d : D} (e : Ex W H W' H') (h : RepT K W H v d) : RepT K W' H' v d := by
  cases h with
  | val h => exact .val (h.gx e.w)
  | lst h hs n => exact .lst (e.h _ _ h) (hs.gx e.w) n
  | dic h k hs n => exact .dic (e.h.rd h) k (hs.gx e.w) n
  | obj h k hs => exact .obj (e.h _ _ h) k (hs.gx e.w)
  | dit h k hs n => exact .dit (e.h.rd h) k (hs.gx e.w) n
theorem RepTs.ext {vs : List V} {ds : List D} (e : Ex W H W' H') (h : RepTs K W H vs ds) : RepTs K W' H' vs ds := by
  induction h with
  | nil => exact .nil
  | cons h _ ih => exact .cons (h.ext e) ih
theorem RepAll.ts {vs : List V} {ds : List D} : ∀ {vs : List V} {ds : List D}, RepAll K W vs ds → RepTs K W H vs ds
  | _, _, .nil => .nil
  | _, _, .cons h hs => .cons (.val h) (RepAll.ts (vs := []) (ds := []) hs)
/-- a sequence's items -/
theorem RepT.lst_inv {v : V} {ds : List D} (s : Gx W H) (h : RepT K W H v (.lst ds)) : ∃ a vs, v = .ref a ∧ H a = some (.lst vs) ∧ RepAll K W vs ds ∧ vs.length ≤ sizeLine := by
  cases h with
  | val h =>
    cases h with
    | lst h hs n => exact ⟨_, _, rfl, s _ _ h, hs, n⟩
  | lst h hs n => exact ⟨_, _, rfl, h, hs, n⟩
theorem RepT.tup_inv {v : V} {ds : List D} (s : Gx W H) (h : RepT K W H v (.tup ds)) : ∃ a vs, v = .ref a ∧ SqT K H a vs ∧ RepAll K W vs ds ∧ vs.length ≤ sizeLine := by
  cases h with
  | val h =>
    cases h with
    | tup h hs n => exact ⟨_, _, rfl, SqT.of (s _ _ h), hs, n⟩
theorem RepT.dic_inv {v : V} {ks : List Key} {ds : List D} (s : Gx W H) (h : RepT K W H v (.dic ks ds)) : ∃ a kvs, v = .ref a ∧ Rd H a (.dK kvs) ∧ kvs.map Prod.fst = ks ∧ RepAll K W (kvs.map Prod.snd) ds ∧ kvs.length ≤ sizeLine := by
  cases h with
  | val h =>
    cases h with
    | dic h k hs n => exact ⟨_, _, rfl, s.rd h, k, hs, n⟩
  | dic h k hs n => exact ⟨_, _, rfl, h, k, hs, n⟩
theorem RepT.dit_inv {v : V} {ks : List (List Key)} {ds : List D} (s : Gx W H) (h : RepT K W H v (.dit ks ds)) : ∃ a kvs, v = .ref a ∧ Rd H a (.dT kvs) ∧ kvs.map Prod.fst = ks ∧ RepAll K W (kvs.map Prod.snd) ds ∧ kvs.length ≤ sizeLine := by
  cases h with
  | val h =>
    cases h with
    | dit h k hs n => exact ⟨_, _, rfl, s.rd h, k, hs, n⟩
  | dit h k hs n => exact ⟨_, _, rfl, h, k, hs, n⟩
theorem RepT.int_inv {v : V} {i : Int} (h : RepT K W H v (.int i)) : v = .int i := by
  cases h with
  | val h => cases h; rfl
theorem RepT.str_inv {v : V} {i : Str} (h : RepT K W H v (.str i)) : v = .str i := by
  cases h with
  | val h => cases h; rfl
theorem RepT.bl_inv {v : V} {i : Bool} (h : RepT K W H v (.bl i)) : v = .bl i := by
  cases h with
  | val h => cases h; rfl
theorem RepT.non_inv {v : V} (h : RepT K W H v .non) : v = .non := by
  cases h with
  | val h => cases h; rfl
/-- items of a list or a tuple -/
def seqD : D → Option (List D)
  | .lst ds => some ds
  | .tup ds => some ds
  | _ => none
theorem RepT.seq_inv {v : V} {d : D} {ds : List D} (s : Gx W H) (h : RepT K W H v d) (hd : seqD d = some ds) : ∃ a vs, v = .ref a ∧ (SqL K H a vs ∨ SqT K H a vs) ∧ RepAll K W vs ds ∧ vs.length ≤ sizeLine := by
  cases d with
  | lst es =>
    cases hd
    obtain ⟨a, vs, h1, h2, h3⟩ := h.lst_inv s
    exact ⟨a, vs, h1, .inl (SqL.of h2), h3⟩
  | tup es =>
    cases hd
    obtain ⟨a, vs, h1, h2, h3⟩ := h.tup_inv s
    exact ⟨a, vs, h1, .inr h2, h3⟩
  | _ => cases hd
end
abbrev ZX := Exn → Prop
abbrev FE := Env → (D → Prop) → ZX → Prop
abbrev FT := Env → (Bool → Prop) → ZX → Prop
abbrev FA := Env → (List D → Prop) → ZX → Prop
def tD (K : PySem.W.Frag) (E : XK) (F : FE) : TE := fun σ H Qh => ∃ W0 H0 W ρ Q Z, Sat K W0 H0 W ρ σ H ∧ F ρ Q Z ∧ (∀ v W' H' d, Ex W H W' H' → Rep K W' v d → Q d → Qh v H') ∧ XC K E W H Z
def tDT (K : PySem.W.Frag) (E : XK) (F : FE) : TE := fun σ H Qh => ∃ W0 H0 W ρ Q Z, Sat K W0 H0 W ρ σ H ∧ F ρ Q Z ∧ (∀ v W' H' d, Ex W H W' H' → RepT K W' H' v d → Q d → Qh v H') ∧ XC K E W H Z
def tDN (K : PySem.W.Frag) (E : XK) (F : FA) : TE := fun σ H Qh => ∃ W0 H0 W ρ Q Z, Sat K W0 H0 W ρ σ H ∧ F ρ Q Z ∧
  (∀ p vs W' H' ds, Ex W H W' H' → H p = none → W' p = none → H' p = some (.lst vs) → RepAll K W' vs ds → vs.length ≤ sizeLine → Q ds → Qh (.ref p) H') ∧ XC K E W H Z
def tDB (K : PySem.W.Frag) (E : XK) (F : FT) : TT := fun σ H Qh => ∃ W0 H0 W ρ Q Z, Sat K W0 H0 W ρ σ H ∧ F ρ Q Z ∧ (∀ b W' H', Ex W H W' H' → Q b → Qh b H') ∧ XC K E W H Z
def tDA (K : PySem.W.Frag) (E : XK) (F : FA) : TA := fun σ H Qh => ∃ W0 H0 W ρ Q Z, Sat K W0 H0 W ρ σ H ∧ F ρ Q Z ∧ (∀ vs W' H' ds, Ex W H W' H' → RepAll K W' vs ds → Q ds → Qh vs H') ∧ XC K E W H Z
def tDAT (K : PySem.W.Frag) (E : XK) (F : FA) : TA := fun σ H Qh => ∃ W0 H0 W ρ Q Z, Sat K W0 H0 W ρ σ H ∧ F ρ Q Z ∧ (∀ vs W' H' ds, Ex W H W' H' → RepTs K W' H' vs ds → Q ds → Qh vs H') ∧ XC K E W H Z
theorem _root_.L2.PE.mono {X : Cx} {e : Expr} {t u : TE} (h : PE X e t) (m : ∀ σ H Q, u σ H Q → t σ H Q) : PE X e u := ⟨fun pins s σ H Q I q => h.run pins s σ H Q I (m _ _ _ q)⟩
theorem _root_.L2.PT.mono {X : Cx} {e : Expr} {t u : TT} (h : PT X e t) (m : ∀ σ H Q, u σ H Q → t σ H Q) : PT X e u := ⟨fun pins s σ H Q I q => h.run pins s σ H Q I (m _ _ _ q)⟩
theorem _root_.L2.PW.mono {X : Cx} {e : Expr} {t u : TT} (h : PW X e t) (m : ∀ σ H Q, u σ H Q → t σ H Q) : PW X e u := ⟨fun wh pins s σ H Q I q => h.run wh pins s σ H Q I (m _ _ _ q)⟩
theorem _root_.L2.PA.mono {X : Cx} {e : List Expr} {t u : TA} (h : PA X e t) (m : ∀ σ H Q, u σ H Q → t σ H Q) : PA X e u := ⟨fun pos pins s σ H Q I q => h.run pos pins s σ H Q I (m _ _ _ q)⟩
def bD : B → Option D
  | .val d => some d
  | .lst ds => some (.lst ds)
  | .dic ks ds => some (.dic ks ds)
  | .obj _ C ns ds => some (.obj C ns ds)
  | .bor _ ks ds => some (.dic ks ds)
  | .dit ks ds => some (.dit ks ds)
  | .un => none
def fVar (i : Nat) : FE := fun ρ Q _ => ∃ d, ρ[i]? = some (.val d) ∧ Q d
def fVarT (i : Nat) : FE := fun ρ Q _ => ∃ b d, ρ[i]? = some b ∧ bD b = some d ∧ Q d
def fC (d : D) : FE := fun _ Q _ => Q d
section
variable {X : Cx} {K : PySem.W.Frag} {E : XK} {F G : FE} {N : FA} {e a b : Expr} {i : Nat} {pos : Pos}
theorem d_var {x : Str} (h : PE X (.Name x pos) (tVar i)) : PE X (.Name x pos) (tD K E (fVar i)) := h.mono fun σ H Qh ⟨W0, H0, W, ρ, Q, Z, st, ⟨d, hi, q⟩, k, _⟩ => by
  obtain ⟨v, h1, h2⟩ := st.val hi
  exact ⟨v, h1, k v W H d (Ex.refl st.see) h2 q⟩
theorem d_varT {x : Str} (h : PE X (.Name x pos) (tVar i)) : PE X (.Name x pos) (tDT K E (fVarT i)) := h.mono fun σ H Qh ⟨W0, H0, W, ρ, Q, Z, st, ⟨b, d, hi, hd, q⟩, k, _⟩ => by
  obtain ⟨oa, _, h2⟩ := st.rep
  obtain ⟨s, h3, h4⟩ := h2 i b hi
  cases b with
  | un => cases hd
  | val d' =>
    cases hd
    obtain ⟨_, v, h5, h6⟩ := h4
    exact ⟨v, by rw [h3, h5], k v W H d (Ex.refl st.see) (.val h6) q⟩
  | lst ds =>
    cases hd
    obtain ⟨p, vs, _, h5, _, _, h6, h7, h8⟩ := h4
    exact ⟨.ref p, by rw [h3, h5], k _ W H _ (Ex.refl st.see) (.lst h6 h7 h8) q⟩
  | dic ks ds =>
    cases hd
    obtain ⟨p, vs, _, h5, _, _, h6, h7, h8, h9⟩ := h4
    exact ⟨.ref p, by rw [h3, h5], k _ W H _ (Ex.refl st.see) (.dic (.inl h6) h7 h8 h9) q⟩
  | obj a C ns ds =>
    cases hd
    obtain ⟨p, dx, vs, _, _, h5, _, _, h6, _, _, h7, h8, _⟩ := h4
    exact ⟨.ref p, by rw [h3, h5], k _ W H _ (Ex.refl st.see) (.obj h6 h7 h8) q⟩
  | bor p ks ds =>
    cases hd
    obtain ⟨_, h5, _, od, kvs, h6, h7, h8, h9⟩ := h4
    exact ⟨.ref p, by rw [h3, h5], k _ W H _ (Ex.refl st.see) (.dic (.inr ⟨od, h6⟩) h7 h8 h9) q⟩
  | dit ks ds =>
    cases hd
    obtain ⟨p, vs, _, h5, _, _, h6, h7, h8, h9⟩ := h4
    exact ⟨.ref p, by rw [h3, h5], k _ W H _ (Ex.refl st.see) (.dit (.inl h6) h7 h8 h9) q⟩
theorem d_c {v : V} {d : D} (h : PE X e (tC v)) (r : ∀ W, Rep K W v d) : PE X e (tD K E (fC d)) := h.mono fun σ H Qh ⟨W0, H0, W, ρ, Q, Z, st, q, k, _⟩ => k v W H d (Ex.refl st.see) (r W) q
theorem d_int {n : Int} (h : PE X e (tC (.int n))) : PE X e (tD K E (fC (.int n))) := d_c h fun _ => .int n
theorem d_str {n : Str} (h : PE X e (tC (.str n))) : PE X e (tD K E (fC (.str n))) := d_c h fun _ => .str n
theorem d_bl {n : Bool} (h : PE X e (tC (.bl n))) : PE X e (tD K E (fC (.bl n))) := d_c h fun _ => .bl n
theorem d_non (h : PE X e (tC .non)) : PE X e (tD K E (fC .non)) := d_c h fun _ => .non
/-- a value may be read -/
theorem d_t (h : PE X e (tD K E F)) : PE X e (tDT K E F) := h.mono fun σ H Qh ⟨W0, H0, W, ρ, Q, Z, st, f, k, x⟩ => ⟨W0, H0, W, ρ, Q, Z, st, f, fun v W' H' d e r q => k v W' H' d e (.val r) q, x⟩
/-- a new list is a value -/
def fNew (F : FA) : FE := fun ρ Q Z => F ρ (fun ds => Q (.lst ds)) Z
theorem d_n (h : PE X e (tDN K E N)) : PE X e (tD K E (fNew N)) := h.mono fun σ H Qh ⟨W0, H0, W, ρ, Q, Z, st, f, k, x⟩ => ⟨W0, H0, W, ρ, _, Z, st, f, fun p vs W' H' ds e hp hw h' r n q =>
  k _ _ H' _ (e.see hp hw h') (.lst upd_same (r.gx (Gx.new hw)) n) q, x⟩
theorem d_nt (h : PE X e (tDN K E N)) : PE X e (tDT K E (fNew N)) := d_t (d_n h)
/-- an operation by values -/
def RSnd (K : PySem.W.Frag) (r : R2) (R : D → D → (D → Prop) → Prop) : Prop := ∀ W H x y a b Q Qh, Gx W H → RepT K W H x a → RepT K W H y b → R a b Q → (∀ v W' H' d, Ex W H W' H' → Rep K W' v d → Q d → Qh v H') → r x y H Qh
def fOp (R : D → D → (D → Prop) → Prop) (F G : FE) : FE := fun ρ Q Z => F ρ (fun a => G ρ (fun b => R a b Q) Z) Z
theorem op_to {r : R2} {R : D → D → (D → Prop) → Prop} (hR : RSnd K r R) {σ : L2.St} {H : Hp} {Qh : VK} (h : tD K E (fOp R F G) σ H Qh) : tOp r (tDT K E F) (tDT K E G) σ H Qh := by
  obtain ⟨W0, H0, W, ρ, Q, Z, st, f, k, x⟩ := h
  refine ⟨W0, H0, W, ρ, _, Z, st, f, fun v W1 H1 d e1 r1 g => ?_, x⟩
  refine ⟨W0, H0, W1, ρ, _, Z, st.ext e1, g, fun v2 W2 H2 d2 e2 r2 q => ?_, x.ext e1⟩
  exact hR W2 H2 v v2 d d2 Q Qh e2.s (r1.ext e2) r2 q fun v3 W3 H3 d3 e3 r3 q3 => k v3 W3 H3 d3 ((e1.trans e2).trans e3) r3 q3
theorem d_op {op : Operator} {r : R2} {R : D → D → (D → Prop) → Prop} (ho : OpR X (binaryOp op) r) (hR : RSnd K r R) (ha : PE X a (tDT K E F)) (hb : PE X b (tDT K E G)) : PE X (.BinOp a op b pos) (tD K E (fOp R F G)) := (pe_op ho ha hb).mono fun _ _ _ h => op_to hR h
theorem d_cmp {op : CmpOp} {r : R2} {R : D → D → (D → Prop) → Prop} (ho : OpR X (compareOp op) r) (hR : RSnd K r R) (ha : PE X a (tDT K E F)) (hb : PE X b (tDT K E G)) (hm : behindInMarks op b = false) : PE X (.Compare a [op] [b] pos) (tD K E (fOp R F G)) := (pe_cmpR ho ha hb hm).mono fun _ _ _ h => op_to hR h
theorem d_ix {r : R2} {R : D → D → (D → Prop) → Prop} (hr : IxR X r) (hR : RSnd K r R) (ha : PE X a (tDT K E F)) (hb : PE X b (tDT K E G)) (hs : PlainIx b) : PE X (.Subscript a b pos) (tD K E (fOp R F G)) := (pe_ix hr ha hb hs).mono fun _ _ _ h => op_to hR h
/-- a value that is a truth value, as a test -/
def fTst (F : FE) : FT := fun ρ Q Z => F ρ (fun d => ∃ b, d = .bl b ∧ Q b) Z
theorem tst_to {σ : L2.St} {H : Hp} {Qh : Bool → Hp → Prop} (h : tDB K E (fTst F) σ H Qh) : tD K E F σ H fun x H1 => ∃ c, x = .bl c ∧ Qh c H1 := by
  obtain ⟨W0, H0, W, ρ, Q, Z, st, f, k, x⟩ := h
  refine ⟨W0, H0, W, ρ, _, Z, st, f, fun v W' H' d e r ⟨b, z, q⟩ => ?_, x⟩
  subst z
  cases r
  exact ⟨b, rfl, k b W' H' e q⟩
theorem d_test (h : PE X e (tD K E F)) (he : ∀ whole, isTrue e X.env whole = (do let v ← whole; standAt e.pos; holding [v] (truthy v)) := by intro _; rfl) : PT X e (tDB K E (fTst F)) := (pt_val h he).mono fun _ _ _ h => tst_to h
theorem d_tcmp {op : CmpOp} {r : R2} {R : D → D → (D → Prop) → Prop} (ho : OpR X (compareOp op) r) (hR : RSnd K r R) (ha : PE X a (tDT K E F)) (hb : PE X b (tDT K E G)) (hm : behindInMarks op b = false) : PT X (.Compare a [op] [b] pos) (tDB K E (fTst (fOp R F G))) :=
  (pt_cmpR ho ha hb hm).mono fun σ H Qh h => op_to hR (tst_to h)
end
end Pu
set_option Elab.async false
set_option maxRecDepth 100000
set_option linter.all false
set_option maxHeartbeats 1000000
namespace Pu
open PySem PySem.Spec PyProof.Rows L2 Ly
mutual
def toP : D → PyData
  | .non => .none
  | .bl b => .bool b
  | .int i => .int i
  | .str x => .str x
  | .lst ds => .list (toPs ds)
  | .tup ds => .tuple (toPs ds)
  | _ => .dict []
def toPs : List D → List PyData
  | [] => []
  | d :: ds => toP d :: toPs ds
end
mutual
theorem Rep.dp {K : PySem.W.Frag} {W : Hp} : ∀ {v : V} {d : D}, Rep K W v d → (toP d).canLay0 = true → Dp K W v (toP d)
  | _, _, .non, _ => .non
  | _, _, .bl b, _ => .bl b
  | _, _, .int i, _ => .int i
  | _, _, .str x, _ => .str x
  | _, _, .lst h hs _, z => .lst (SqL.of h) (RepAll.dp hs (by simpa [toP, PyData.canLay0] using z))
  | _, _, .tup h hs _, z => .tup (SqT.of h) (RepAll.dp hs (by simpa [toP, PyData.canLay0] using z))
  | _, _, .dic .., z => by simp [toP, PyData.canLay0] at z
  | _, _, .obj .., z => by simp [toP, PyData.canLay0] at z
  | _, _, .dice .., z => by simp [toP, PyData.canLay0] at z
  | _, _, .cls .., z => by simp [toP, PyData.canLay0] at z
  | _, _, .exn .., z => by simp [toP, PyData.canLay0] at z
  | _, _, .lsk .., z => by simp [toP, PyData.canLay0] at z
  | _, _, .dit .., z => by simp [toP, PyData.canLay0] at z
theorem RepAll.dp {K : PySem.W.Frag} {W : Hp} : ∀ {vs : List V} {ds : List D}, RepAll K W vs ds → PyData.canLayAll0 (toPs ds) = true → DpAll K W vs (toPs ds)
  | _, _, .nil, _ => .nil
  | _, _, .cons h hs, z => by
    rw [toPs, PyData.canLayAll0, Bool.and_eq_true] at z
    exact .cons (Rep.dp h z.1) (RepAll.dp hs z.2)
end
/-- may be compared as data -/
def shp (d : D) : Prop := SeqAt.shaped (toP d) = true
theorem shp_lay {d : D} (h : shp d) : (toP d).canLay0 = true := by
  unfold shp SeqAt.shaped at h
  rw [Bool.and_eq_true] at h
  exact h.1
/-- == of scalars -/
def sc : D → D → Option Bool
  | .int i, .int j => some (decide (i = j))
  | .str i, .str j => some (decide (i = j))
  | .bl i, .bl j => some (decide (i = j))
  | .non, .non => some true
  | .non, .int _ => some false | .int _, .non => some false | .non, .bl _ => some false | .bl _, .non => some false | .non, .str _ => some false | .str _, .non => some false
  | .int _, .str _ => some false | .str _, .int _ => some false | .bl _, .str _ => some false | .str _, .bl _ => some false
  | _, _ => none
def REq (a b : D) (Q : D → Prop) : Prop := match sc a b with
  | some c => Q (.bl c)
  | none => shp a ∧ shp b ∧ Q (.bl (PyData.eqv (toP a) (toP b)))
def RNe (a b : D) (Q : D → Prop) : Prop := match sc a b with
  | some c => Q (.bl (!c))
  | none => shp a ∧ shp b ∧ Q (.bl (!PyData.eqv (toP a) (toP b)))
section
variable {K : PySem.W.Frag} {X : Cx}
theorem sc_v {W H : Hp} {x y : V} {a b : D} {c : Bool} (r1 : RepT K W H x a) (r2 : RepT K W H y b) (h : sc a b = some c) : scal x y = true ∧ decide (x = y) = c := by
  cases a <;> cases b <;> first
    | (cases h; done)
    | skip
  all_goals
    first
    | (rw [r1.int_inv, r2.int_inv]; cases h; exact ⟨rfl, by simp⟩)
    | (rw [r1.str_inv, r2.str_inv]; cases h; exact ⟨rfl, by simp⟩)
    | (rw [r1.bl_inv, r2.bl_inv]; cases h; exact ⟨rfl, by simp⟩)
    | (rw [r1.non_inv, r2.non_inv]; cases h; exact ⟨rfl, by simp⟩)
    | (rw [r1.non_inv, r2.int_inv]; cases h; exact ⟨rfl, by simp⟩)
    | (rw [r1.int_inv, r2.non_inv]; cases h; exact ⟨rfl, by simp⟩)
    | (rw [r1.non_inv, r2.bl_inv]; cases h; exact ⟨rfl, by simp⟩)
    | (rw [r1.bl_inv, r2.non_inv]; cases h; exact ⟨rfl, by simp⟩)
    | (rw [r1.non_inv, r2.str_inv]; cases h; exact ⟨rfl, by simp⟩)
    | (rw [r1.str_inv, r2.non_inv]; cases h; exact ⟨rfl, by simp⟩)
    | (rw [r1.int_inv, r2.str_inv]; cases h; exact ⟨rfl, by simp⟩)
    | (rw [r1.str_inv, r2.int_inv]; cases h; exact ⟨rfl, by simp⟩)
    | (rw [r1.bl_inv, r2.str_inv]; cases h; exact ⟨rfl, by simp⟩)
    | (rw [r1.str_inv, r2.bl_inv]; cases h; exact ⟨rfl, by simp⟩)
def rEqA (K : PySem.W.Frag) : R2 := fun x y H Q => rEq x y H Q ∨ rEqD K x y H Q
def rNeA (K : PySem.W.Frag) : R2 := fun x y H Q => rNe x y H Q ∨ rNeD K x y H Q
theorem op_eqA (hu : X.A.units + 64 < cLine) (hK : X.K = K := by rfl) : OpR X (compareOp .Eq) (rEqA K) := OpR.or op_eq (kop_eqD hu hK)
theorem op_neA (hu : X.A.units + 64 < cLine) (hK : X.K = K := by rfl) : OpR X (compareOp .NotEq) (rNeA K) := OpR.or op_ne (kop_neD hu hK)
theorem s_eq : RSnd K (rEqA K) REq := fun W H x y a b Q Qh s r1 r2 h k => by
  unfold REq at h
  cases q : sc a b with
  | some c =>
    rw [q] at h
    obtain ⟨h1, h2⟩ := sc_v r1 r2 q
    refine .inl ⟨h1, ?_⟩
    rw [h2]
    exact k _ W H _ (Ex.refl s) (.bl c) h
  | none =>
    rw [q] at h
    obtain ⟨ha, hb, h⟩ := h
    exact .inr ⟨_, _, (r1.full s).dp (shp_lay ha), (r2.full s).dp (shp_lay hb), ha, hb, k _ W H _ (Ex.refl s) (.bl _) h⟩
theorem s_ne : RSnd K (rNeA K) RNe := fun W H x y a b Q Qh s r1 r2 h k => by
  unfold RNe at h
  cases q : sc a b with
  | some c =>
    rw [q] at h
    obtain ⟨h1, h2⟩ := sc_v r1 r2 q
    refine .inl ⟨h1, ?_⟩
    rw [h2]
    exact k _ W H _ (Ex.refl s) (.bl _) h
  | none =>
    rw [q] at h
    obtain ⟨ha, hb, h⟩ := h
    exact .inr ⟨_, _, (r1.full s).dp (shp_lay ha), (r2.full s).dp (shp_lay hb), ha, hb, k _ W H _ (Ex.refl s) (.bl _) h⟩
def RAdd : D → D → (D → Prop) → Prop
  | .int i, .int j, Q => Q (.int (i + j))
  | .str x, .str y, Q => x.length + y.length ≤ sizeLine ∧ Q (.str (x ++ y))
  | .lst x, .lst y, Q => x.length + y.length ≤ sizeLine ∧ Q (.lst (x ++ y))
  | .tup x, .tup y, Q => x.length + y.length ≤ sizeLine ∧ Q (.tup (x ++ y))
  | _, _, _ => False
def rAddS : R2 := fun x y H Q => ∃ i j, x = .str i ∧ y = .str j ∧ i.length + j.length ≤ sizeLine ∧ Q (.str (i ++ j)) H
def rAddA (K : PySem.W.Frag) : R2 := fun x y H Q => (rI0 (fun i j => .int (i + j)) x y H Q ∨ rAddS x y H Q) ∨ (rCat x y H Q ∨ rCatA K x y H Q)
theorem op_addA (hK : X.K = K := by rfl) : OpR X (binaryOp .Add) (rAddA K) := by
  subst hK
  exact OpR.or (OpR.or op_add op_add_str) (OpR.or op_cat op_catA)
theorem s_add : RSnd K (rAddA K) RAdd := fun W H x y a b Q Qh s r1 r2 h k => by
  cases a <;> cases b <;> first
    | exact h.elim
    | skip
  · exact .inl (.inl ⟨_, _, r1.int_inv, r2.int_inv, k _ W H _ (Ex.refl s) (.int _) h⟩)
  · exact .inl (.inr ⟨_, _, r1.str_inv, r2.str_inv, h.1, k _ W H _ (Ex.refl s) (.str _) h.2⟩)
  · obtain ⟨p, vs, e1, h1, h2, h3⟩ := r1.lst_inv s
    obtain ⟨q, us, e2, h4, h5, h6⟩ := r2.lst_inv s
    refine .inr (.inl ⟨p, q, vs, us, e1, e2, h1, h4, by rw [h2.len, h5.len]; exact h.1, fun l hl => k _ _ _ _ (Ex.new s hl) (.lst upd_same ((h2.app h5).gx (Gx.new (s.free hl))) ?_) h.2⟩)
    rw [List.length_append, h2.len, h5.len]
    exact h.1
  · obtain ⟨p, vs, e1, h1, h2, h3⟩ := r1.tup_inv s
    obtain ⟨q, us, e2, h4, h5, h6⟩ := r2.tup_inv s
    rename_i xs ys
    have hn : vs.length + us.length ≤ sizeLine := by rw [h2.len, h5.len]; exact h.1
    refine .inr (.inr ⟨p, q, vs, us, e1, e2, h1, h4, hn, fun z => ?_, fun _ z => ?_, fun _ _ l hl => k _ _ _ _ (Ex.new s hl) (.tup upd_same ((h2.app h5).gx (Gx.new (s.free hl))) (by rw [List.length_append]; exact hn)) h.2⟩)
    · subst z
      cases h2
      cases r2 with
      | val r2 =>
        subst e2
        exact k _ W H _ (Ex.refl s) r2 h.2
    · subst z
      cases h5
      cases r1 with
      | val r1 =>
        subst e1
        have h7 := h.2
        rw [List.append_nil] at h7
        exact k _ W H _ (Ex.refl s) r1 h7
def RI0 (g : Int → Int → D) : D → D → (D → Prop) → Prop
  | .int i, .int j, Q => Q (g i j)
  | _, _, _ => False
theorem s_I0 {f : Int → Int → V} {g : Int → Int → D} (hg : ∀ W i j, Rep K W (f i j) (g i j)) : RSnd K (rI0 f) (RI0 g) := fun W H x y a b Q Qh s r1 r2 h k => by
  cases a <;> cases b <;> first
    | exact h.elim
    | skip
  exact ⟨_, _, r1.int_inv, r2.int_inv, k _ W H _ (Ex.refl s) (hg W _ _) h⟩
abbrev RLt := RI0 fun i j => .bl (decide (i < j))
abbrev RLe := RI0 fun i j => .bl (decide (i ≤ j))
abbrev RGt := RI0 fun i j => .bl (decide (j < i))
theorem s_lt : RSnd K (rI0 fun i j => .bl (decide (i < j))) RLt := s_I0 fun _ _ _ => .bl _
theorem s_le : RSnd K (rI0 fun i j => .bl (decide (i ≤ j))) RLe := s_I0 fun _ _ _ => .bl _
theorem s_gt : RSnd K (rI0 fun i j => .bl (decide (j < i))) RGt := s_I0 fun _ _ _ => .bl _
/-- is None -/
def isN : D → Bool
  | .non => true
  | _ => false
def RIsN (a b : D) (Q : D → Prop) : Prop := b = .non ∧ Q (.bl (isN a))
def RNotN (a b : D) (Q : D → Prop) : Prop := b = .non ∧ Q (.bl (!isN a))
theorem isN_v {W H : Hp} {x : V} {a : D} (r : RepT K W H x a) : decide (x = .non) = isN a := by
  cases r with
  | val r => cases r <;> simp [isN]
  | _ => simp [isN]
theorem s_isN : RSnd K (fun x y H Q => y = .non ∧ Q (.bl (decide (x = .non))) H) RIsN := fun W H x y a b Q Qh s r1 r2 h k => by
  obtain ⟨rfl, h⟩ := h
  exact ⟨r2.non_inv, k _ W H _ (Ex.refl s) (.bl _) (by rw [isN_v r1]; exact h)⟩
theorem s_notN : RSnd K (fun x y H Q => y = .non ∧ Q (.bl (!decide (x = .non))) H) RNotN := fun W H x y a b Q Qh s r1 r2 h k => by
  obtain ⟨rfl, h⟩ := h
  exact ⟨r2.non_inv, k _ W H _ (Ex.refl s) (.bl _) (by rw [isN_v r1]; exact h)⟩
def flD : D → Bool
  | .non => true
  | .bl _ => true
  | .int _ => true
  | .str _ => true
  | _ => false
def eqF : D → D → Bool
  | .non, .non => true
  | .bl a, .bl b => a == b
  | .bl a, .int b => (if a then 1 else 0) == b
  | .int a, .bl b => a == (if b then 1 else 0)
  | .int a, .int b => a == b
  | .str a, .str b => a == b
  | _, _ => false
/-- a flat value in a list or tuple of flat ones; data in a list of data; a sign in a text -/
def RIn (neg : Bool) (a b : D) (Q : D → Prop) : Prop := match b with
  | .lst ds => (flD a = true ∧ ds.all flD = true ∧ Q (.bl (neg != ds.any fun y => eqF y a))) ∨ (shp a ∧ shp b ∧ Q (.bl (neg != ds.any fun y => PyData.eqv (toP y) (toP a))))
  | .tup ds => flD a = true ∧ ds.all flD = true ∧ Q (.bl (neg != ds.any fun y => eqF y a))
  | .str z => ∃ x, a = .str x ∧ Q (.bl (neg != !(Builtin.Str.occurrences z x 0 z.length 1).isEmpty))
  | _ => False
theorem flat_v {W : Hp} {x : V} {a : D} (r : Rep K W x a) (h : flD a = true) : flatV x = true := by
  cases r <;> first | rfl | cases h
theorem eqF_v {W : Hp} {x y : V} {a b : D} (r : Rep K W x a) (q : Rep K W y b) (h : flD a = true) (h2 : flD b = true) : eqV x y = eqF a b := by
  cases r <;> first
    | (cases h; done)
    | (cases q <;> first | (cases h2; done) | rfl)
theorem any_v {W : Hp} {x : V} {a : D} (r : Rep K W x a) (h : flD a = true) : ∀ {vs : List V} {ds : List D}, RepAll K W vs ds → ds.all flD = true → vs.all flatV = true ∧ inV x vs = ds.any fun y => eqF y a
  | _, _, .nil, _ => ⟨rfl, rfl⟩
  | _, _, .cons q hs, z => by
    rw [List.all_cons, Bool.and_eq_true] at z
    obtain ⟨h1, h2⟩ := any_v r h hs z.2
    refine ⟨by rw [List.all_cons, h1, flat_v q z.1]; rfl, ?_⟩
    unfold inV at h2 ⊢
    rw [List.any_cons, List.any_cons, h2, eqF_v q r z.1 h]
def rInS (neg : Bool) : R2 := fun x y H Q => ∃ i j, x = .str i ∧ y = .str j ∧ Q (.bl (neg != !(Builtin.Str.occurrences j i 0 j.length 1).isEmpty)) H
def rInA (K : PySem.W.Frag) : R2 := fun x y H Q => (rIn K false x y H Q ∨ rInD K x y H Q) ∨ rInS false x y H Q
def rNotInA (K : PySem.W.Frag) : R2 := fun x y H Q => (rIn K true x y H Q ∨ rNotInD K x y H Q) ∨ rInS true x y H Q
theorem op_notIn_str : OpR X (compareOp .NotIn) (rInS true) := by
  intro pins s σ H x y v u Q I rx ry h
  obtain ⟨i, j, rfl, rfl, q⟩ := h
  obtain ⟨t, rfl⟩ := rx
  obtain ⟨t', rfl⟩ := ry
  exact notIn_str (fin_bl I q (by cases (Builtin.Str.occurrences j i 0 j.length 1).isEmpty <;> rfl))
theorem op_inA (hu : X.A.units + 65 < cLine) (hK : X.K = K := by rfl) : OpR X (compareOp .In) (rInA K) := by
  subst hK
  exact OpR.or (OpR.or op_in_seq (op_inD hu)) (fun pins s σ H x y v u Q I rx ry h => op_in_str pins s σ H x y v u Q I rx ry (by
    obtain ⟨i, j, h1, h2, h3⟩ := h
    refine ⟨i, j, h1, h2, ?_⟩
    rw [Bool.false_bne] at h3
    exact h3))
theorem op_notInA (hu : X.A.units + 65 < cLine) (hK : X.K = K := by rfl) : OpR X (compareOp .NotIn) (rNotInA K) := by
  subst hK
  exact OpR.or (OpR.or op_notIn_seq (op_notInD hu)) op_notIn_str
theorem anyP : ∀ (ds : List D) (a : D), ((toPs ds).any fun z => PyData.eqv z (toP a)) = ds.any fun y => PyData.eqv (toP y) (toP a)
  | [], _ => rfl
  | d :: ds, a => by rw [toPs, List.any_cons, List.any_cons, anyP ds a]
theorem s_in : RSnd K (rInA K) (RIn false) := fun W H x y a b Q Qh s r1 r2 h k => by
  cases b with
  | lst ds =>
    obtain ⟨p, vs, e, h1, h2, h3⟩ := r2.lst_inv s
    rcases h with ⟨f1, f2, h⟩ | ⟨f1, f2, h⟩
    · obtain ⟨h4, h5⟩ := any_v (r1.full s) f1 (h2.gx s) f2
      refine .inl (.inl ⟨p, vs, e, .inl (SqL.of h1), flat_v (r1.full s) f1, h4, k _ W H _ (Ex.refl s) (.bl _) ?_⟩)
      rw [h5]
      rw [Bool.false_bne] at h
      exact h
    · refine .inl (.inr ⟨_, toPs ds, (r1.full s).dp (shp_lay f1), (r2.full s).dp (shp_lay f2), f1, f2, k _ W H _ (Ex.refl s) (.bl _) ?_⟩)
      rw [anyP]
      rw [Bool.false_bne] at h
      exact h
  | tup ds =>
    obtain ⟨p, vs, e, h1, h2, h3⟩ := r2.tup_inv s
    obtain ⟨f1, f2, h⟩ := h
    obtain ⟨h4, h5⟩ := any_v (r1.full s) f1 (h2.gx s) f2
    refine .inl (.inl ⟨p, vs, e, .inr h1, flat_v (r1.full s) f1, h4, k _ W H _ (Ex.refl s) (.bl _) ?_⟩)
    rw [h5]
    rw [Bool.false_bne] at h
    exact h
  | str z =>
    obtain ⟨x', rfl, h⟩ := h
    exact .inr ⟨_, _, r1.str_inv, r2.str_inv, k _ W H _ (Ex.refl s) (.bl _) h⟩
  | _ => exact h.elim
theorem s_notIn : RSnd K (rNotInA K) (RIn true) := fun W H x y a b Q Qh s r1 r2 h k => by
  cases b with
  | lst ds =>
    obtain ⟨p, vs, e, h1, h2, h3⟩ := r2.lst_inv s
    rcases h with ⟨f1, f2, h⟩ | ⟨f1, f2, h⟩
    · obtain ⟨h4, h5⟩ := any_v (r1.full s) f1 (h2.gx s) f2
      refine .inl (.inl ⟨p, vs, e, .inl (SqL.of h1), flat_v (r1.full s) f1, h4, k _ W H _ (Ex.refl s) (.bl _) ?_⟩)
      rw [if_pos rfl, h5]
      rw [Bool.true_bne] at h
      exact h
    · refine .inl (.inr ⟨_, toPs ds, (r1.full s).dp (shp_lay f1), (r2.full s).dp (shp_lay f2), f1, f2, k _ W H _ (Ex.refl s) (.bl _) ?_⟩)
      rw [anyP]
      rw [Bool.true_bne] at h
      exact h
  | tup ds =>
    obtain ⟨p, vs, e, h1, h2, h3⟩ := r2.tup_inv s
    obtain ⟨f1, f2, h⟩ := h
    obtain ⟨h4, h5⟩ := any_v (r1.full s) f1 (h2.gx s) f2
    refine .inl (.inl ⟨p, vs, e, .inr h1, flat_v (r1.full s) f1, h4, k _ W H _ (Ex.refl s) (.bl _) ?_⟩)
    rw [if_pos rfl, h5]
    rw [Bool.true_bne] at h
    exact h
  | str z =>
    obtain ⟨x', rfl, h⟩ := h
    exact .inr ⟨_, _, r1.str_inv, r2.str_inv, k _ W H _ (Ex.refl s) (.bl _) h⟩
  | _ => exact h.elim
def RIx : D → D → (D → Prop) → Prop
  | .lst ds, .int i, Q => ∃ d, atI ds i = some d ∧ Q d
  | .tup ds, .int i, Q => ∃ d, atI ds i = some d ∧ Q d
  | .str z, .int i, Q => z.length ≤ sizeLine ∧ ∃ c, atI z.cps.toList i = some c ∧ Q (.str ⟨#[c]⟩)
  | _, _, _ => False
def rIxA (K : PySem.W.Frag) : R2 := fun x y H Q => (rIxL K x y H Q ∨ rIxT K x y H Q) ∨ rIxS x y H Q
theorem ix_A (hK : X.K = K := by rfl) : IxR X (rIxA K) := by
  subst hK
  exact IxR.or (IxR.or ix_list ix_tup) ix_str
theorem at_v {W : Hp} {vs : List V} {ds : List D} {i : Int} {d : D} (r : RepAll K W vs ds) (h : atI ds i = some d) : ∃ v, atI vs i = some v ∧ Rep K W v d := by
  unfold atI at h ⊢
  rw [r.len]
  cases q : ixN ds.length i with
  | none => rw [q] at h; cases h
  | some j =>
    rw [q] at h
    exact r.getD h
theorem s_ix : RSnd K (rIxA K) RIx := fun W H x y a b Q Qh s r1 r2 h k => by
  cases a <;> cases b <;> first
    | exact h.elim
    | skip
  · obtain ⟨z, c, h1, h2⟩ := h
    exact .inr ⟨_, _, c, r1.str_inv, r2.int_inv, z, h1, k _ W H _ (Ex.refl s) (.str _) h2⟩
  · obtain ⟨p, vs, e1, h1, h2, h3⟩ := r1.lst_inv s
    obtain ⟨d, h4, h5⟩ := h
    obtain ⟨v, h6, h7⟩ := at_v h2 h4
    exact .inl (.inl ⟨p, vs, _, v, e1, r2.int_inv, SqL.of h1, h6, k _ W H _ (Ex.refl s) h7 h5⟩)
  · obtain ⟨p, vs, e1, h1, h2, h3⟩ := r1.tup_inv s
    obtain ⟨d, h4, h5⟩ := h
    obtain ⟨v, h6, h7⟩ := at_v h2 h4
    exact .inl (.inr ⟨p, vs, _, v, e1, r2.int_inv, h1, h6, k _ W H _ (Ex.refl s) h7 h5⟩)
end
end Pu
set_option Elab.async false
set_option maxRecDepth 100000
set_option maxHeartbeats 2000000
namespace Ly
open PySem PySem.Spec PyProof.Rows L2
open AutoSeq1 (wpAny_loadPart')
end Ly
set_option Elab.async false
set_option maxRecDepth 100000
set_option linter.all false
namespace Pu
open PySem PySem.Spec PyProof.Rows L2 Ly
section
variable {X : Cx} {K : PySem.W.Frag} {E : XK} {F G L : FE} {N : FA} {T U : FT} {A A' : FA} {e a b c : Expr} {es rest : List Expr} {i : Nat} {pos : Pos}
def fAnd (T U : FT) : FT := fun ρ Q Z => T ρ (fun c => if c = true then U ρ Q Z else Q false) Z
def fOr (T U : FT) : FT := fun ρ Q Z => T ρ (fun c => if c = true then Q true else U ρ Q Z) Z
def fNot (T : FT) : FT := fun ρ Q Z => T ρ (fun c => Q (!c)) Z
theorem d_and1 (h : PT X a (tDB K E T)) : PW X (.BoolOp .And [a] pos) (tDB K E T) := pw_and1 h
theorem d_or1 (h : PT X a (tDB K E T)) : PW X (.BoolOp .Or [a] pos) (tDB K E T) := pw_or1 h
theorem d_and (ha : PT X a (tDB K E T)) (hb : PW X (.BoolOp .And (b :: rest) pos) (tDB K E U)) : PW X (.BoolOp .And (a :: b :: rest) pos) (tDB K E (fAnd T U)) := (pw_and ha hb).mono fun σ H Qh ⟨W0, H0, W, ρ, Q, Z, st, f, k, x⟩ =>
  ⟨W0, H0, W, ρ, _, Z, st, f, fun c W1 H1 e1 q => by
    cases c with
    | true =>
      rw [if_pos rfl] at q
      exact iteT ⟨W0, H0, W1, ρ, Q, Z, st.ext e1, q, fun c W2 H2 e2 q2 => k c W2 H2 (e1.trans e2) q2, x.ext e1⟩
    | false =>
      rw [if_neg (by decide)] at q
      exact iteF (k false W1 H1 e1 q), x⟩
theorem d_or (ha : PT X a (tDB K E T)) (hb : PW X (.BoolOp .Or (b :: rest) pos) (tDB K E U)) : PW X (.BoolOp .Or (a :: b :: rest) pos) (tDB K E (fOr T U)) := (pw_or ha hb).mono fun σ H Qh ⟨W0, H0, W, ρ, Q, Z, st, f, k, x⟩ =>
  ⟨W0, H0, W, ρ, _, Z, st, f, fun c W1 H1 e1 q => by
    cases c with
    | true =>
      rw [if_pos rfl] at q
      exact iteT (k true W1 H1 e1 q)
    | false =>
      rw [if_neg (by decide)] at q
      exact iteF ⟨W0, H0, W1, ρ, Q, Z, st.ext e1, q, fun c W2 H2 e2 q2 => k c W2 H2 (e1.trans e2) q2, x.ext e1⟩, x⟩
theorem d_not (h : PT X a (tDB K E T)) : PT X (.UnaryOp .Not a pos) (tDB K E (fNot T)) := (pt_not h).mono fun σ H Qh ⟨W0, H0, W, ρ, Q, Z, st, f, k, x⟩ => ⟨W0, H0, W, ρ, _, Z, st, f, fun c W1 H1 e1 q => k _ W1 H1 e1 q, x⟩
def fAndV (F G : FE) : FE := fun ρ Q Z => F ρ (fun d => ∃ c, d = .bl c ∧ if c = true then G ρ Q Z else Q (.bl false)) Z
def fNotV (F : FE) : FE := fun ρ Q Z => F ρ (fun d => ∃ c, d = .bl c ∧ Q (.bl (!c))) Z
theorem d_one {op : BoolOp} (h : PE X a (tD K E F)) : PE X (.BoolOp op [a] pos) (tD K E F) := pe_one h
theorem d_andV (ha : PE X a (tD K E F)) (hb : PE X (.BoolOp .And (b :: rest) pos) (tD K E G)) : PE X (.BoolOp .And (a :: b :: rest) pos) (tD K E (fAndV F G)) := (pe_and ha hb).mono fun σ H Qh ⟨W0, H0, W, ρ, Q, Z, st, f, k, x⟩ =>
  ⟨W0, H0, W, ρ, _, Z, st, f, fun v W1 H1 d e1 r ⟨c, z, q⟩ => by
    subst z
    cases r
    refine ⟨c, rfl, ?_⟩
    cases c with
    | true =>
      rw [if_pos rfl] at q
      exact iteT ⟨W0, H0, W1, ρ, Q, Z, st.ext e1, q, fun c W2 H2 d e2 r2 q2 => k c W2 H2 d (e1.trans e2) r2 q2, x.ext e1⟩
    | false =>
      rw [if_neg (by decide)] at q
      exact iteF (k _ W1 H1 _ e1 (.bl _) q), x⟩
theorem d_notV (ha : PE X a (tD K E F)) : PE X (.UnaryOp .Not a pos) (tD K E (fNotV F)) := (pe_not ha).mono fun σ H Qh ⟨W0, H0, W, ρ, Q, Z, st, f, k, x⟩ =>
  ⟨W0, H0, W, ρ, _, Z, st, f, fun v W1 H1 d e1 r ⟨c, z, q⟩ => by
    subst z
    cases r
    exact ⟨c, rfl, k _ W1 H1 _ e1 (.bl _) q⟩, x⟩
def fIf (T : FT) (F G : FE) : FE := fun ρ Q Z => T ρ (fun c => if c = true then F ρ Q Z else G ρ Q Z) Z
theorem d_if (hc : PT X c (tDB K E T)) (ha : PE X a (tD K E F)) (hb : PE X b (tD K E G)) : PE X (.IfExp c a b pos) (tD K E (fIf T F G)) := (pe_ifExp hc ha hb).mono fun σ H Qh ⟨W0, H0, W, ρ, Q, Z, st, f, k, x⟩ =>
  ⟨W0, H0, W, ρ, _, Z, st, f, fun c W1 H1 e1 q => by
    cases c with
    | true =>
      rw [if_pos rfl] at q
      exact iteT ⟨W0, H0, W1, ρ, Q, Z, st.ext e1, q, fun c W2 H2 d e2 r2 q2 => k c W2 H2 d (e1.trans e2) r2 q2, x.ext e1⟩
    | false =>
      rw [if_neg (by decide)] at q
      exact iteF ⟨W0, H0, W1, ρ, Q, Z, st.ext e1, q, fun c W2 H2 d e2 r2 q2 => k c W2 H2 d (e1.trans e2) r2 q2, x.ext e1⟩, x⟩
def fChain (R R' : D → D → (D → Prop) → Prop) (F G L : FE) : FE := fun ρ Q Z => F ρ (fun a => G ρ (fun b => R a b fun z => ∃ k, z = .bl k ∧ if k = true then L ρ (fun c => R' b c Q) Z else Q (.bl false)) Z) Z
theorem chain_to {r r' : R2} {R R' : D → D → (D → Prop) → Prop} (hR : RSnd K r R) (hR' : RSnd K r' R') {σ : L2.St} {H : Hp} {Qh : VK} (h : tD K E (fChain R R' F G L) σ H Qh) : tChain r r' (tDT K E F) (tDT K E G) (tDT K E L) σ H Qh := by
  obtain ⟨W0, H0, W, ρ, Q, Z, st, f, k, x⟩ := h
  refine ⟨W0, H0, W, ρ, _, Z, st, f, fun v W1 H1 d e1 r1 g => ?_, x⟩
  refine ⟨W0, H0, W1, ρ, _, Z, st.ext e1, g, fun v2 W2 H2 d2 e2 r2 q => ?_, x.ext e1⟩
  refine hR W2 H2 v v2 d d2 _ _ e2.s (r1.ext e2) r2 q fun v3 W3 H3 d3 e3 r3 ⟨kk, z, q3⟩ => ?_
  subst z
  cases r3
  refine ⟨kk, rfl, ?_⟩
  cases kk with
  | true =>
    rw [if_pos rfl] at q3
    refine iteT ⟨W0, H0, W3, ρ, _, Z, st.ext ((e1.trans e2).trans e3), q3, fun v4 W4 H4 d4 e4 r4 q4 => ?_, x.ext ((e1.trans e2).trans e3)⟩
    exact hR' W4 H4 _ _ _ _ _ _ e4.s (r2.ext (e3.trans e4)) r4 q4 fun v5 W5 H5 d5 e5 r5 q5 => k v5 W5 H5 d5 ((((e1.trans e2).trans e3).trans e4).trans e5) r5 q5
  | false =>
    rw [if_neg (by decide)] at q3
    exact iteF (k _ W3 H3 _ ((e1.trans e2).trans e3) (.bl _) q3)
theorem d_chain {op op' : CmpOp} {r r' : R2} {R R' : D → D → (D → Prop) → Prop} (ho : OpR X (compareOp op) r) (ho' : OpR X (compareOp op') r') (hR : RSnd K r R) (hR' : RSnd K r' R') (ha : PE X a (tDT K E F)) (hb : PE X b (tDT K E G)) (hc : PE X c (tDT K E L))
    (hm : lastMarks [op, op'] [b, c] = false := by with_unfolding_all rfl) : PE X (.Compare a [op, op'] [b, c] pos) (tD K E (fChain R R' F G L)) := (pe_chain ho ho' ha hb hc hm).mono fun _ _ _ h => chain_to hR hR' h
theorem d_tchain {op op' : CmpOp} {r r' : R2} {R R' : D → D → (D → Prop) → Prop} (ho : OpR X (compareOp op) r) (ho' : OpR X (compareOp op') r') (hR : RSnd K r R) (hR' : RSnd K r' R') (ha : PE X a (tDT K E F)) (hb : PE X b (tDT K E G)) (hc : PE X c (tDT K E L))
    (hm : lastMarks [op, op'] [b, c] = false := by with_unfolding_all rfl) : PT X (.Compare a [op, op'] [b, c] pos) (tDB K E (fTst (fChain R R' F G L))) := (pt_chain ho ho' ha hb hc hm).mono fun _ _ _ h => chain_to hR hR' (tst_to h)
def fNeg (F : FE) : FE := fun ρ Q Z => F ρ (fun d => ∃ i, d = .int i ∧ Q (.int (-i))) Z
theorem d_neg (h : PE X a (tD K E F)) : PE X (.UnaryOp .USub a pos) (tD K E (fNeg F)) := (pe_un un_neg h).mono fun σ H Qh ⟨W0, H0, W, ρ, Q, Z, st, f, k, x⟩ => ⟨W0, H0, W, ρ, _, Z, st, f, fun v W1 H1 d e1 r ⟨i, z, q⟩ => by
  subst z
  cases r
  exact ⟨i, rfl, k _ W1 H1 _ e1 (.int _) q⟩, x⟩
def fNil : FA := fun _ Q _ => Q []
def fCons (F : FE) (A : FA) : FA := fun ρ Q Z => F ρ (fun d => A ρ (fun ds => Q (d :: ds)) Z) Z
theorem d_nil : PA X [] (tDA K E fNil) := pa_nil.mono fun σ H Qh ⟨W0, H0, W, ρ, Q, Z, st, f, k, x⟩ => k [] W H [] (Ex.refl st.see) .nil f
theorem d_nilT : PA X [] (tDAT K E fNil) := pa_nil.mono fun σ H Qh ⟨W0, H0, W, ρ, Q, Z, st, f, k, x⟩ => k [] W H [] (Ex.refl st.see) .nil f
theorem d_cons (ha : PE X e (tD K E F)) (hr : PA X es (tDA K E A)) (hs : starEach (e :: es) X.env = (false, eval e X.env) :: starEach es X.env := by rfl) : PA X (e :: es) (tDA K E (fCons F A)) := (pa_cons ha hr hs).mono fun σ H Qh ⟨W0, H0, W, ρ, Q, Z, st, f, k, x⟩ =>
  ⟨W0, H0, W, ρ, _, Z, st, f, fun v W1 H1 d e1 r q => ⟨W0, H0, W1, ρ, _, Z, st.ext e1, q, fun vs W2 H2 ds e2 rs q2 => k _ W2 H2 _ (e1.trans e2) (.cons (r.gx e2.w) rs) q2, x.ext e1⟩, x⟩
theorem d_consT (ha : PE X e (tDT K E F)) (hr : PA X es (tDAT K E A)) (hs : starEach (e :: es) X.env = (false, eval e X.env) :: starEach es X.env := by rfl) : PA X (e :: es) (tDAT K E (fCons F A)) := (pa_cons ha hr hs).mono fun σ H Qh ⟨W0, H0, W, ρ, Q, Z, st, f, k, x⟩ =>
  ⟨W0, H0, W, ρ, _, Z, st, f, fun v W1 H1 d e1 r q => ⟨W0, H0, W1, ρ, _, Z, st.ext e1, q, fun vs W2 H2 ds e2 rs q2 => k _ W2 H2 _ (e1.trans e2) (.cons (r.ext e2) rs) q2, x.ext e1⟩, x⟩
def fTup (A : FA) : FE := fun ρ Q Z => A ρ (fun ds => ds.length ≤ sizeLine ∧ Q (.tup ds)) Z
def fLst (A : FA) : FA := fun ρ Q Z => A ρ (fun ds => ds.length ≤ sizeLine ∧ Q ds) Z
theorem d_tup {x1} (h : PA X es (tDA K E A)) : PE X (.Tuple es x1 pos) (tD K E (fTup A)) := (pe_tup h).mono fun σ H Qh ⟨W0, H0, W, ρ, Q, Z, st, f, k, x⟩ => ⟨W0, H0, W, ρ, _, Z, st, f, fun vs W1 H1 ds e1 r ⟨n, q⟩ =>
  ⟨by rw [r.len]; exact n, fun p hp => k _ _ _ _ (e1.trans (Ex.new e1.s hp)) (.tup upd_same (r.gx (Gx.new (e1.s.free hp))) (by rw [r.len]; exact n)) q⟩, x⟩
theorem d_lst (h : PA X es (tDA K E A)) : PE X (.List es pos) (tDN K E (fLst A)) := (pe_lst h).mono fun σ H Qh ⟨W0, H0, W, ρ, Q, Z, st, f, k, x⟩ => ⟨W0, H0, W, ρ, _, Z, st, f, fun vs W1 H1 ds e1 r ⟨n, q⟩ =>
  ⟨by rw [r.len]; exact n, fun p hp => k p vs W1 _ ds (e1.trans (Ex.hid e1.s hp)) (e1.h.free hp) (e1.s.free hp) upd_same r (by rw [r.len]; exact n) q⟩, x⟩
abbrev FO := Env → (Option Int → Prop) → ZX → Prop
def tDO (K : PySem.W.Frag) (E : XK) (O : FO) : TO := fun σ H Qh => ∃ W0 H0 W ρ Q Z, Sat K W0 H0 W ρ σ H ∧ O ρ Q Z ∧ (∀ o W' H', Ex W H W' H' → Q o → Qh o H') ∧ XC K E W H Z
def oNo : FO := fun _ Q _ => Q none
def oAt (F : FE) : FO := fun ρ Q Z => F ρ (fun d => ∃ i, d = .int i ∧ Q (some i)) Z
theorem _root_.L2.PO.mono {X : Cx} {e : Option Expr} {t u : TO} (h : PO X e t) (m : ∀ σ H Q, u σ H Q → t σ H Q) : PO X e u := ⟨fun pins s σ H Q I q => h.run pins s σ H Q I (m _ _ _ q)⟩
theorem d_ono : PO X none (tDO K E oNo) := po_none.mono fun σ H Qh ⟨W0, H0, W, ρ, Q, Z, st, f, k, x⟩ => k none W H (Ex.refl st.see) f
theorem d_oat (h : PE X e (tD K E F)) : PO X (some e) (tDO K E (oAt F)) := (po_some h).mono fun σ H Qh ⟨W0, H0, W, ρ, Q, Z, st, f, k, x⟩ => ⟨W0, H0, W, ρ, _, Z, st, f, fun v W1 H1 d e1 r ⟨i, z, q⟩ => by
  subst z
  cases r
  exact ⟨i, rfl, k _ W1 H1 e1 q⟩, x⟩
def cutD (xs : List D) (lo hi : Option Int) : List D := (xs.drop (HT.sIx xs.length 0 lo)).take (HT.sIx xs.length xs.length hi - HT.sIx xs.length 0 lo)
theorem RepAll.cut {W : Hp} {vs : List V} {ds : List D} (h : RepAll K W vs ds) (lo hi : Option Int) : RepAll K W (cutV vs lo hi) (cutD ds lo hi) := by
  unfold cutV cutD
  rw [h.len]
  exact (h.drop _).take _
def RSl (a : D) (lo hi : Option Int) (Q : D → Prop) : Prop := match a with
  | .lst ds => Q (.lst (cutD ds lo hi))
  | .tup ds => Q (.tup (cutD ds lo hi))
  | .str z => z.length ≤ sizeLine ∧ Q (.str (Txt.slice z lo hi))
  | _ => False
def rSlAll (K : PySem.W.Frag) : V → Option Int → Option Int → Hp → VK → Prop := fun x lo hi H Q => (rSlL K x lo hi H Q ∨ rSlA K x lo hi H Q) ∨ C8.rSlX x lo hi H Q
theorem sl_All (hK : X.K = K := by rfl) : SlR X (rSlAll K) := by
  subst hK
  exact SlR.or (SlR.or sl_list sl_tupA) C8.sl_txt
def fSl (F : FE) (O P : FO) : FE := fun ρ Q Z => F ρ (fun a => O ρ (fun lo => P ρ (fun hi => RSl a lo hi Q) Z) Z) Z
theorem whole_cut {α : Type} {n : Nat} (xs : List α) (hn : xs.length = n) (lo hi : Option Int) (h : HT.sIx n 0 lo = 0 ∧ HT.sIx n n hi = n) : (xs.drop (HT.sIx n 0 lo)).take (HT.sIx n n hi - HT.sIx n 0 lo) = xs := by
  rw [h.1, h.2, List.drop_zero, Nat.sub_zero, List.take_of_length_le (by omega)]
theorem d_slice {lo hi : Option Expr} {O P : FO} {p2 : Pos} (he : PE X e (tDT K E F)) (hl : PO X lo (tDO K E O)) (hu : PO X hi (tDO K E P)) (hK : X.K = K := by rfl) : PE X (.Subscript e (.Slice lo hi none p2) pos) (tD K E (fSl F O P)) := (pe_slice (sl_All hK) he hl hu).mono fun σ H Qh ⟨W0, H0, W, ρ, Q, Z, st, f, k, x⟩ => by
  refine ⟨W0, H0, W, ρ, _, Z, st, f, fun v W1 H1 d e1 r1 q1 => ?_, x⟩
  refine ⟨W0, H0, W1, ρ, _, Z, st.ext e1, q1, fun lo W2 H2 e2 q2 => ?_, x.ext e1⟩
  refine ⟨W0, H0, W2, ρ, _, Z, st.ext (e1.trans e2), q2, fun hi W3 H3 e3 q3 => ?_, x.ext (e1.trans e2)⟩
  have e13 := (e1.trans e2).trans e3
  have r3 := r1.ext (e2.trans e3)
  cases d with
  | lst ds =>
    obtain ⟨p, vs, h1, h2, h3, h4⟩ := r3.lst_inv e3.s
    exact .inl (.inl ⟨p, vs, h1, SqL.of h2, fun q hq => k _ _ _ _ (e13.trans (Ex.new e3.s hq)) (.lst upd_same ((h3.cut lo hi).gx (Gx.new (e3.s.free hq))) (Nat.le_trans (cutV_length _ _ _) h4)) q3⟩)
  | tup ds =>
    obtain ⟨p, vs, h1, h2, h3, h4⟩ := r3.tup_inv e3.s
    refine .inl (.inr ⟨p, vs, h1, h2, fun z => ?_, fun _ q hq => k _ _ _ _ (e13.trans (Ex.new e3.s hq)) (.tup upd_same ((h3.cut lo hi).gx (Gx.new (e3.s.free hq))) (Nat.le_trans (cutV_length _ _ _) h4)) q3⟩)
    have z2 : cutD ds lo hi = ds := by
      unfold cutD
      rw [h3.len] at z
      exact whole_cut ds rfl lo hi z
    have q3 : Q (.tup (cutD ds lo hi)) := q3
    rw [z2] at q3
    cases r3 with
    | val r3 =>
      subst h1
      exact k _ W3 H3 _ e13 r3 q3
  | str z => exact .inr ⟨z, r3.str_inv, q3.1, k _ W3 H3 _ e13 (.str _) q3.2⟩
  | _ => exact False.elim q3
def lookD : List Str → List D → Str → Option D
  | n :: ns, d :: ds, f => if f == n then some d else lookD ns ds f
  | _, _, _ => none
theorem look_v {W : Hp} {f : Str} {d : D} : ∀ {fs : List (Str × V)} {ds : List D}, RepAll K W (fs.map Prod.snd) ds → lookD (fs.map Prod.fst) ds f = some d → ∃ v, fs.lookup f = some v ∧ Rep K W v d
  | [], _, _, h => by cases h
  | (n, v) :: fs, d' :: ds, .cons r rs, h => by
    simp only [List.map_cons, lookD] at h
    rw [List.lookup_cons]
    cases q : f == n with
    | true =>
      rw [q, if_pos rfl] at h
      cases h
      exact ⟨v, rfl, r⟩
    | false =>
      rw [q, if_neg (by decide)] at h
      exact look_v rs h
end
end Pu
set_option Elab.async false
set_option maxRecDepth 100000
set_option linter.all false
namespace Pu
open PySem PySem.Spec PyProof.Rows L2 Ly RZ
/-- J walks ds while what is seen stays -/
def IterF (K : PySem.W.Frag) (W : Hp) (J : It) (ds : List D) : Prop := ∃ G Y, Walk J ds.length G Y ∧ (∀ H3, Gx W H3 → G H3) ∧
  ∀ i H3 x H4 W3, i < ds.length → Gx W W3 → Gx W3 H3 → Y i H3 x H4 → ∃ W4 d, ds[i]? = some d ∧ Ex W3 H3 W4 H4 ∧ Rep K W4 x d
/-- .. while all of the heap stays -/
def IterC (K : PySem.W.Frag) (W H : Hp) (J : It) (ds : List D) : Prop := ∃ G Y, Walk J ds.length G Y ∧ (∀ H3, Gx H H3 → G H3) ∧
  ∀ i H3 x H4 W3, i < ds.length → Gx H H3 → Gx W W3 → Gx W3 H3 → Y i H3 x H4 → ∃ W4 d, ds[i]? = some d ∧ Ex W3 H3 W4 H4 ∧ Rep K W4 x d
def tDI (K : PySem.W.Frag) (E : XK) (A : FA) : TI := fun σ H R => ∃ W0 H0 W ρ Q Z, Sat K W0 H0 W ρ σ H ∧ A ρ Q Z ∧ (∀ J W' H' ds, Ex W H W' H' → IterC K W' H' J ds → Q ds → R J H') ∧ XC K E W H Z
def tDF (K : PySem.W.Frag) (E : XK) (A : FA) : TI := fun σ H R => ∃ W0 H0 W ρ Q Z, Sat K W0 H0 W ρ σ H ∧ A ρ Q Z ∧ (∀ J W' H' ds, Ex W H W' H' → IterF K W' J ds → Q ds → R J H') ∧ XC K E W H Z
theorem _root_.L2.PI.mono {X : Cx} {tg e : Expr} {t u : TI} (h : PI X tg e t) (m : ∀ σ H R, u σ H R → t σ H R) : PI X tg e u := ⟨fun pins s σ H Q I q => h.run pins s σ H Q I (m _ _ _ q)⟩
section
variable {X : Cx} {K : PySem.W.Frag} {E : XK} {F G L : FE} {T U : FT} {A : FA} {tg e a b : Expr} {es : List Expr} {pos : Pos}
theorem iter_list {W H : Hp} {p : Addr} {vs : List V} {ds : List D} (h : W p = some (.lst vs)) (r : RepAll K W vs ds) : IterF K W (Itl K p) ds :=
  ⟨fun H => SqL K H p vs, YAt vs, by rw [← r.len]; exact walk_list, fun H3 e => SqL.of (e _ _ h), fun i H3 x H4 W3 hi e s y => by
    obtain ⟨rfl, hx⟩ := y
    obtain ⟨d, h1, h2⟩ := r.get hx
    exact ⟨W3, d, h1, Ex.refl s, h2.gx e⟩⟩
theorem iter_listC {W H : Hp} {p : Addr} {vs : List V} {ds : List D} (h : H p = some (.lst vs)) (r : RepAll K W vs ds) : IterC K W H (Itl K p) ds :=
  ⟨fun H => SqL K H p vs, YAt vs, by rw [← r.len]; exact walk_list, fun H3 e => SqL.of (e _ _ h), fun i H3 x H4 W3 hi _ e s y => by
    obtain ⟨rfl, hx⟩ := y
    obtain ⟨d, h1, h2⟩ := r.get hx
    exact ⟨W3, d, h1, Ex.refl s, h2.gx e⟩⟩
theorem iter_tup {W : Hp} {p : Addr} {vs : List V} {ds : List D} (h : SqT K W p vs) (r : RepAll K W vs ds) : IterF K W (Itt K p) ds :=
  ⟨fun H => SqT K H p vs, YAt vs, by rw [← r.len]; exact walk_tup, fun H3 e => e.t h, fun i H3 x H4 W3 hi e s y => by
    obtain ⟨rfl, hx⟩ := y
    obtain ⟨d, h1, h2⟩ := r.get hx
    exact ⟨W3, d, h1, Ex.refl s, h2.gx e⟩⟩
def signsD (z : Str) : List D := z.cps.toList.map fun c => .str ⟨#[c]⟩
theorem iter_str {W : Hp} {z : Str} : IterF K W (Its z) (signsD z) :=
  ⟨_, _, by unfold signsD; rw [List.length_map, Array.length_toList]; exact walk_str (z := z), fun _ _ => trivial, fun i H3 x H4 W3 hi e s y => by
    obtain ⟨rfl, c, hc, rfl⟩ := y
    exact ⟨W3, .str ⟨#[c]⟩, by unfold signsD; rw [List.getElem?_map]; simp [hc], Ex.refl s, .str _⟩⟩
theorem IterF.c {W H : Hp} {J : It} {ds : List D} (s : Gx W H) (h : IterF K W J ds) : IterC K W H J ds := by
  obtain ⟨G, Y, h1, h2, h3⟩ := h
  exact ⟨G, Y, h1, fun H3 e => h2 H3 (s.trans e), fun i H3 x H4 W3 hi _ => h3 i H3 x H4 W3 hi⟩
def iAny (K : PySem.W.Frag) (tl : TE) : TI := fun σ H R => tl σ H fun x H1 => (∃ a, x = .ref a ∧ (∃ xs, SqL K H1 a xs) ∧ R (Itl K a) H1) ∨ (∃ a, x = .ref a ∧ (∃ xs, SqT K H1 a xs) ∧ R (Itt K a) H1) ∨ ∃ z, x = .str z ∧ R (Its z) H1
theorem pi_any {l : Expr} {tl : TE} (hl : PE X l tl) (hK : X.K = K := by rfl) : PI X tg l (iAny K tl) := by
  subst hK
  refine ⟨fun pins s σ H R I h => ?_⟩
  refine thn (hl.run pins s σ H _ I h) fun v s1 ⟨x, H1, I1, r1, q1⟩ => ?_
  rcases q1 with ⟨a, e, ⟨xs, hq⟩, q⟩ | ⟨a, e, ⟨xs, hq⟩, q⟩ | ⟨z, e, q⟩
  · subst e
    cases r1
    obtain ⟨its, rv, p, hz⟩ := I1.list hq
    refine wpAny_pyIter_list p.isList ?_
    refine ⟨s1.heap.objs.size, [s1.heap.objs.size], _, _, H1, rfl, I1.kept (t' := s1.toks) fun b o e => Heap.get?_push_of_some _ e, turn_list a _, ⟨_, Heap.get?_push_size _ rfl, rfl, rfl⟩, fun b hb => ?_, q⟩
    have e : b = s1.heap.objs.size := by simpa using hb
    subst e
    exact I1.fpOk (Nat.le_refl _) (I1.hok.fresh (Nat.le_refl _))
  · subst e
    cases r1
    obtain ⟨its, rv, p, hz⟩ := I1.tuple hq
    refine wpAny_pyIter_tuple (show s1.heap.IsTuple a its.toArray from p) ?_
    refine ⟨s1.heap.objs.size, [s1.heap.objs.size], _, _, H1, rfl, I1.kept (t' := s1.toks) fun b o e => Heap.get?_push_of_some _ e, turn_tuple a _, ⟨_, Heap.get?_push_size _ rfl, rfl, rfl⟩, fun b hb => ?_, q⟩
    have e : b = s1.heap.objs.size := by simpa using hb
    subst e
    exact I1.fpOk (Nat.le_refl _) (I1.hok.fresh (Nat.le_refl _))
  · subst e
    obtain ⟨t, rfl⟩ := r1
    cases ha : z.cps.all (· < 128)
    · exact wpAny_pyIter_wide ha (pi_one (tk := s1.toks) I1 _ (turn_str _ z t "str_iterator" (.inr rfl)) ⟨_, Heap.get?_push_size _ rfl, rfl, rfl⟩ q)
    · exact wpAny_pyIter_ascii ha (pi_one (tk := s1.toks) I1 _ (turn_str _ z t "str_ascii_iterator" (.inl rfl)) ⟨_, Heap.get?_push_size _ rfl, rfl, rfl⟩ q)
/-- the items of what is walked -/
def itD : D → Option (List D)
  | .lst ds => some ds
  | .tup ds => some ds
  | .str z => if z.length ≤ sizeLine then some (signsD z) else none
  | _ => none
def fIt (F : FE) : FA := fun ρ Q Z => F ρ (fun d => ∃ ds, itD d = some ds ∧ Q ds) Z
theorem d_itC (h : PE X e (tDT K E F)) (hK : X.K = K := by rfl) : PI X tg e (tDI K E (fIt F)) := (pi_any h hK).mono fun σ H R ⟨W0, H0, W, ρ, Q, Z, st, f, k, x⟩ => ⟨W0, H0, W, ρ, _, Z, st, f, fun v W1 H1 d e1 r ⟨ds, hd, q⟩ => (by
  cases d with
  | lst es =>
    cases hd
    obtain ⟨p, vs, h1, h2, h3, h4⟩ := r.lst_inv e1.s
    exact .inl ⟨p, h1, ⟨vs, SqL.of h2⟩, k _ W1 H1 _ e1 (iter_listC h2 h3) q⟩
  | tup es =>
    cases hd
    cases r with
    | val r =>
      cases r with
      | tup h2 h3 h4 => have h2 := SqT.of (K := K) h2; exact .inr (.inl ⟨_, rfl, ⟨_, e1.s.t h2⟩, k _ W1 H1 _ e1 ((iter_tup h2 h3).c e1.s) q⟩)
  | str z =>
    have hd : (if z.length ≤ sizeLine then some (signsD z) else none) = some ds := hd
    by_cases hz : z.length ≤ sizeLine
    · rw [if_pos hz] at hd
      cases hd
      exact .inr (.inr ⟨z, r.str_inv, k _ W1 H1 _ e1 (iter_str.c e1.s) q⟩)
    · rw [if_neg hz] at hd
      cases hd
  | _ => cases hd), x⟩
theorem d_itF (h : PE X e (tD K E F)) (hK : X.K = K := by rfl) : PI X tg e (tDF K E (fIt F)) := (pi_any h hK).mono fun σ H R ⟨W0, H0, W, ρ, Q, Z, st, f, k, x⟩ => ⟨W0, H0, W, ρ, _, Z, st, f, fun v W1 H1 d e1 r ⟨ds, hd, q⟩ => (by
  cases d with
  | lst es =>
    cases hd
    cases r with
    | lst h2 h3 h4 => exact .inl ⟨_, rfl, ⟨_, SqL.of (e1.s _ _ h2)⟩, k _ W1 H1 _ e1 (iter_list (H := H1) h2 h3) q⟩
  | tup es =>
    cases hd
    cases r with
    | tup h2 h3 h4 => have h2 := SqT.of (K := K) h2; exact .inr (.inl ⟨_, rfl, ⟨_, e1.s.t h2⟩, k _ W1 H1 _ e1 (iter_tup h2 h3) q⟩)
  | str z =>
    have hd : (if z.length ≤ sizeLine then some (signsD z) else none) = some ds := hd
    by_cases hz : z.length ≤ sizeLine
    · rw [if_pos hz] at hd
      cases hd
      cases r
      exact .inr (.inr ⟨z, rfl, k _ W1 H1 _ e1 iter_str q⟩)
    · rw [if_neg hz] at hd
      cases hd
  | _ => cases hd), x⟩
/-- ranges -/
def rngD (lo : Int) (c : Int) (n : Nat) : List D := (List.range n).map fun k => .int (lo + (k : Nat) * c)
def fRng1 (A : FA) : FA := fun ρ Q Z => A ρ (fun as => ∃ j, as = [.int j] ∧ (-1000000 ≤ j ∧ j ≤ 1000000) ∧ Q (rngD 0 1 j.toNat)) Z
theorem iter_rng {W : Hp} {lo : Int} {n : Nat} : IterF K W (Itr lo n) (rngD lo 1 n) :=
  ⟨_, _, by unfold rngD; rw [List.length_map, List.length_range]; exact walk_range (lo := lo) (n := n), fun _ _ => trivial, fun i H3 x H4 W3 hi e s y => by
    obtain ⟨rfl, rfl⟩ := y
    have hi : i < n := by
      unfold rngD at hi
      rw [List.length_map, List.length_range] at hi
      exact hi
    refine ⟨W3, .int (lo + (i : Nat) * 1), by unfold rngD; rw [List.getElem?_map, List.getElem?_range hi]; rfl, Ex.refl s, ?_⟩
    rw [Int.mul_one]
    exact .int _⟩
theorem ints1 {W : Hp} {vs : List V} {i : Int} (r : RepAll K W vs [.int i]) : vs = [.int i] := by
  cases r with
  | cons r rs => cases r; cases rs; rfl
theorem rng1_to {σ : L2.St} {H : Hp} {R : It → Hp → Prop} (h : tDF K E (fRng1 A) σ H R) : iRng1 (tDA K E A) σ H R := by
  obtain ⟨W0, H0, W, ρ, Q, Z, st, f, k, x⟩ := h
  refine ⟨W0, H0, W, ρ, _, Z, st, f, fun vs W1 H1 ds e1 r ⟨j, z, hb, q⟩ => ?_, x⟩
  subst z
  exact ⟨j, ints1 r, by omega, by omega, k _ W1 H1 _ e1 iter_rng q⟩
/-- what a for may walk, a comprehension may -/
theorem df_di {σ : L2.St} {H : Hp} {R : It → Hp → Prop} (h : tDI K E A σ H R) : tDF K E A σ H R := by
  obtain ⟨W0, H0, W, ρ, Q, Z, st, f, k, x⟩ := h
  exact ⟨W0, H0, W, ρ, Q, Z, st, f, fun J W' H' ds e i q => k J W' H' ds e (i.c e.s) q, x⟩
theorem d_fc (h : PI X tg e (tDF K E A)) : PI X tg e (tDI K E A) := h.mono fun _ _ _ q => df_di q
theorem d_rng1 {p : Pos} (hg : Gl X "range") (hm : X.mg "range" = none) (ha : PA X [a] (tDA K E A)) (hs : starEach [a] X.env = [(false, eval a X.env)] := by rfl) : PI X tg (.Call (.Name "range" p) [a] [] pos) (tDF K E (fRng1 A)) := (pi_range1 hg hm ha hs).mono fun _ _ _ h => rng1_to h
/-- pairs -/
def pairsD : List D → List D → List D
  | a :: as, b :: bs => .tup [a, b] :: pairsD as bs
  | _, _ => []
theorem pairsD_len : ∀ as bs : List D, (pairsD as bs).length = min as.length bs.length
  | [], _ => by simp [pairsD]
  | _ :: _, [] => by simp [pairsD]
  | a :: as, b :: bs => by simp [pairsD, pairsD_len as bs]
theorem pairsD_get : ∀ (as bs : List D) (i : Nat) (a b : D), as[i]? = some a → bs[i]? = some b → (pairsD as bs)[i]? = some (.tup [a, b])
  | [], _, _, _, _, h, _ => by simp at h
  | _ :: _, [], _, _, _, _, h => by simp at h
  | a :: as, b :: bs, 0, x, y, h, h2 => by simp at h h2; subst h; subst h2; rfl
  | a :: as, b :: bs, i + 1, x, y, h, h2 => by
    rw [pairsD, List.getElem?_cons_succ]
    exact pairsD_get as bs i x y (by simpa using h) (by simpa using h2)
theorem pair_new {W3 H3 H4 : Hp} {x : V} {T : Addr} {v w : V} {a b : D} (s : Gx W3 H3) (hx : x = .ref T) (hT : H3 T = none) (h4 : H4 = upd H3 T (.tup [v, w])) (r1 : Rep K W3 v a) (r2 : Rep K W3 w b) : ∃ W4, Ex W3 H3 W4 H4 ∧ Rep K W4 x (.tup [a, b]) := by
  subst h4
  subst hx
  have e := Gx.new (o := .tup [v, w]) (s.free hT)
  exact ⟨_, Ex.new s hT, .tup upd_same (.cons (r1.gx e) (.cons (r2.gx e) .nil)) (by show 2 ≤ sizeLine; decide)⟩
/-- zip of two lists or of two tuples -/
def fZip (A : FA) : FA := fun ρ Q Z => A ρ (fun as => ∃ xs ys, (as = [.lst xs, .lst ys] ∨ as = [.tup xs, .tup ys]) ∧ Q (pairsD xs ys)) Z
theorem zip_to {σ : L2.St} {H : Hp} {R : It → Hp → Prop} (h : tDF K E (fZip A) σ H R) : iZipA K (tDA K E A) σ H R := by
  obtain ⟨W0, H0, W, ρ, Q, Z, st, f, k, x⟩ := h
  refine ⟨W0, H0, W, ρ, _, Z, st, f, fun vs W1 H1 ds e1 r ⟨xs, ys, z, q⟩ => ?_, x⟩
  rcases z with z | z
  · subst z
    cases r with
    | cons r1 r =>
      cases r with
      | cons r2 r =>
        cases r
        cases r1 with
        | lst h1 h2 h3 =>
          cases r2 with
          | lst h4 h5 h6 =>
            refine ⟨_, _, _, _, rfl, .inl ⟨SqL.of (e1.s _ _ h1), SqL.of (e1.s _ _ h4), k _ W1 H1 _ e1 ⟨_, _, walk_zip (by rw [pairsD_len, h2.len, h5.len]), fun H3 e => ⟨SqL.of (e _ _ h1), SqL.of (e _ _ h4)⟩, fun i H3 x H4 W3 hi e s y => ?_⟩ q⟩⟩
            obtain ⟨T, v, w, y1, y2, y3, y4, y5⟩ := y
            obtain ⟨a, g1, g2⟩ := h2.get y4
            obtain ⟨b, g3, g4⟩ := h5.get y5
            obtain ⟨W4, g5, g6⟩ := pair_new s y1 y2 y3 (g2.gx e) (g4.gx e)
            exact ⟨W4, _, pairsD_get _ _ i _ _ g1 g3, g5, g6⟩
  · subst z
    cases r with
    | cons r1 r =>
      cases r with
      | cons r2 r =>
        cases r
        cases r1 with
        | @tup a1 us _ h1 h2 h3 =>
          have h1 := SqT.of (K := K) h1
          cases r2 with
          | @tup a2 ws _ h4 h5 h6 =>
            have h4 := SqT.of (K := K) h4
            refine ⟨_, _, _, _, rfl, .inr ⟨e1.s.t h1, e1.s.t h4, k _ W1 H1 _ e1 ⟨fun H => SqT K H _ us ∧ SqT K H _ ws, YPair (fun i => us[i]?) (fun i => ws[i]?), ⟨fun i H hi q => ?_, fun H q => ?_, fun i H v H' hi q y => ?_⟩, fun H3 e => ⟨e.t h1, e.t h4⟩, fun i H3 x H4 W3 hi e s y => ?_⟩ q⟩⟩
            · rw [pairsD_len, ← h2.len, ← h5.len] at hi
              have g1 : i < us.length := by omega
              have g2 : i < ws.length := by omega
              exact ⟨us, ws, us[i], ws[i], q.1, q.2, by simp [g1], by simp [g2]⟩
            · rw [pairsD_len, ← h2.len, ← h5.len]
              exact ⟨us, ws, q.1, q.2, by omega⟩
            · obtain ⟨T, x, z, g1, g2, g3, g4, g5⟩ := y
              exact ⟨T, x, z, g1, g2, g3, g4 us q.1, g5 ws q.2⟩
            · obtain ⟨T, v, w, y1, y2, y3, y4, y5⟩ := y
              obtain ⟨a, g1, g2⟩ := h2.get y4
              obtain ⟨b, g3, g4⟩ := h5.get y5
              obtain ⟨W4, g5, g6⟩ := pair_new s y1 y2 y3 (g2.gx e) (g4.gx e)
              exact ⟨W4, _, pairsD_get _ _ i _ _ g1 g3, g5, g6⟩
theorem d_zip {p tpos : Pos} {elts : List Expr} {kk : Nat} (hg : Gl X "zip") (hm : X.mg "zip" = none) (ha : PA X [a, b] (tDA K E A)) (hK : X.K = K := by rfl) (hs : starEach [a, b] X.env = (false, eval a X.env) :: starEach [b] X.env := by rfl) (hpl : (backTo pos (starEach [b] X.env)).any (·.1) = false := by rfl) :
    PI X (.Tuple elts kk tpos) (.Call (.Name "zip" p) [a, b] [] pos) (tDF K E (fZip A)) := by
  subst hK
  exact (pi_zipA hg hm ha hs hpl).mono fun _ _ _ h => zip_to h
/-- enumerate of a tuple -/
def enumD (i : Nat) : List D → List D
  | [] => []
  | d :: ds => .tup [.int (i : Nat), d] :: enumD (i + 1) ds
theorem enumD_len : ∀ (ds : List D) (i : Nat), (enumD i ds).length = ds.length
  | [], _ => rfl
  | d :: ds, i => by rw [enumD, List.length_cons, List.length_cons, enumD_len ds]
theorem enumD_get : ∀ (ds : List D) (j i : Nat) (d : D), ds[i]? = some d → (enumD j ds)[i]? = some (.tup [.int ((j + i : Nat) : Int), d])
  | [], _, _, _, h => by simp at h
  | d :: ds, j, 0, x, h => by simp at h; subst h; rfl
  | d :: ds, j, i + 1, x, h => by
    rw [enumD, List.getElem?_cons_succ, enumD_get ds (j + 1) i x (by simpa using h), show j + 1 + i = j + (i + 1) by omega]
abbrev FG := D → Env → (Env → Prop) → Prop
/-- a target: the slots it stores are among vs -/
def GSnd (K : PySem.W.Frag) (gh : TG) (g : FG) (vs : List Nat) : Prop := ∀ W0 H0 W ρ σ H x d k Q, Sat K W0 H0 W ρ σ H → Rep K W x d → g d ρ k → (∀ ρ2 σ2, Sat K W0 H0 W ρ2 σ2 H → wipe σ2 vs = wipe σ vs → k ρ2 → Q σ2 H) → gh x σ H Q
def gN (i : Nat) : FG := fun d ρ k => k (ρ.set i (.val d))
def gT (is : List Nat) : FG := fun d ρ k => ∃ ds, d = .tup ds ∧ ds.length = is.length ∧ k ((is.zip ds).foldl (fun ρ p => ρ.set p.1 (.val p.2)) ρ)
theorem wipe_set {σ : L2.St} {x : Option V} {j : Nat} : ∀ {vs : List Nat}, j ∈ vs → wipe (σ.set j x) vs = wipe σ vs
  | [], h => by cases h
  | v :: vs, h => by
    by_cases hj : j ∈ vs
    · show (wipe (σ.set j x) vs).set v none = (wipe σ vs).set v none
      rw [wipe_set hj]
    · have hv : j = v := by
        rcases List.mem_cons.mp h with h | h
        · exact h
        · exact absurd h hj
      subst hv
      show (wipe (σ.set j x) vs).set j none = (wipe σ vs).set j none
      have : ∀ {us : List Nat}, j ∉ us → wipe (σ.set j x) us = (wipe σ us).set j x := fun {us} => by
        induction us with
        | nil => intro _; rfl
        | cons u us ih =>
          intro hn
          show (wipe (σ.set j x) us).set u none = ((wipe σ us).set u none).set j x
          rw [ih (fun z => hn (List.mem_cons_of_mem _ z)), List.set_comm _ _ (fun z => hn (by rw [← z]; exact List.mem_cons_self ..))]
      rw [this hj, List.set_set]
theorem g_name {j : Nat} {vs : List Nat} (hj : j ∈ vs) : GSnd K (gName j) (gN j) vs := fun W0 H0 W ρ σ H x d k Q st r g q => q _ _ (st.set r) (wipe_set hj) g
theorem g_pair {i j : Nat} {vs : List Nat} (hi : i ∈ vs) (hj : j ∈ vs) : GSnd K (gTup K 2 (gCons (gName i) (gCons (gName j) gNil))) (gT [i, j]) vs := fun W0 H0 W ρ σ H x d k Q st r ⟨ds, z, hl, g⟩ q => by
  subst z
  cases r with
  | tup h1 h2 h3 =>
    have h1 := SqT.of (K := K) h1
    cases h2 with
    | nil => cases hl
    | cons r1 h2 =>
      cases h2 with
      | nil => cases hl
      | cons r2 h2 =>
        cases h2 with
        | cons _ _ => simp at hl
        | nil => exact ⟨_, _, rfl, st.see.t h1, rfl, _, _, rfl, _, _, rfl, rfl, q _ _ ((st.set r1).set r2) (by rw [wipe_set hj, wipe_set hi]) g⟩
abbrev F0 : ZX := fun _ => False
def wipeB (ρ : Env) : List Nat → Env
  | [] => ρ
  | v :: vs => (wipeB ρ vs).set v .un
theorem Sat.wipe {W0 H0 W H : Hp} {ρ : Env} {σ : L2.St} (h : Sat K W0 H0 W ρ σ H) : ∀ vs : List Nat, Sat K W0 H0 W (wipeB ρ vs) (L2.wipe σ vs) H
  | [] => h
  | v :: vs => (Sat.wipe h vs).wipe1
theorem wipe_wipe {σ : L2.St} : ∀ vs : List Nat, L2.wipe (L2.wipe σ vs) vs = L2.wipe σ vs := by
  intro vs
  have key : ∀ (us ws : List Nat), (∀ u ∈ us, u ∈ ws) → L2.wipe (L2.wipe σ us) ws = L2.wipe σ ws := by
    intro us
    induction us with
    | nil => intro ws _; rfl
    | cons u us ih =>
      intro ws hs
      show L2.wipe ((L2.wipe σ us).set u none) ws = _
      rw [wipe_set (hs u (List.mem_cons_self ..))]
      exact ih ws fun v hv => hs v (List.mem_cons_of_mem _ hv)
  exact key vs vs fun _ h => h
def lcD (g : FG) (T : FT) (F : FE) (ρ : Env) : List D → (List D → Prop) → Prop
  | [], Q => Q []
  | d :: ds, Q => g d ρ fun ρ2 => T ρ2 (fun b => if b = true then F ρ2 (fun y => lcD g T F ρ ds fun ys => Q (y :: ys)) F0 else lcD g T F ρ ds Q) F0
def fLc (A : FA) (g : FG) (T : FT) (F : FE) (vs : List Nat) : FA := fun ρ Q Z => A ρ (fun ds => ds.length ≤ sizeLine ∧ lcD g T F (wipeB ρ vs) ds Q) Z
theorem xc0 {W H : Hp} : XC K E0 W H F0 := fun _ _ _ _ _ _ _ z => z.elim
theorem lc_to {wi : TI} {gh : TG} {tt : TT} {te : TE} {g : FG} {vs : List Nat} {σ : L2.St} {H : Hp} {Qh : VK} (hw : ∀ σ H R, tDI K E A σ H R → wi σ H R) (gs : GSnd K gh g vs) (ht : ∀ σ H Q, tDB K E0 T σ H Q → tt σ H Q) (he : ∀ σ H Q, tD K E0 F σ H Q → te σ H Q)
    (h : tDN K E (fLc A g T F vs) σ H Qh) : tLc wi gh tt te vs σ H Qh := by
  obtain ⟨W0, H0, W, ρ, Q, Z, st, f, k, x⟩ := h
  refine hw _ _ _ ⟨W0, H0, W, ρ, _, Z, st, f, fun J W1 H1 ds e1 ⟨G, Y, hW, hG, hY⟩ ⟨hn, q⟩ => ?_, x⟩
  intro Dd hD
  refine lc_it hW (fun i H' => ∃ W' us acc, i ≤ ds.length ∧ Ex W1 H1 W' H' ∧ W' Dd = none ∧ H' Dd = some (.lst us) ∧ RepAll K W' us acc ∧ us.length ≤ i ∧ lcD g T F (wipeB ρ vs) (ds.drop i) fun ys => Q (acc ++ ys)) ?_ ?_ ?_ ?_
  · exact ⟨W1, [], [], Nat.zero_le _, Ex.hid e1.s hD, e1.s.free hD, upd_same, .nil, Nat.le_refl _, q⟩
  · rintro i H' _ ⟨W', us, acc, _, e2, _⟩
    exact hG H' e2.h
  · rintro i v H3 H4 hi ⟨W3, us, acc, _, e3, hw3, hd3, r3, l3, q3⟩ y
    obtain ⟨W4, d, hd, e4, r4⟩ := hY i H3 v H4 W3 hi e3.h e3.w e3.s y
    have e5 := e3.trans e4
    have hw4 : ∀ {W' H' : Hp}, Ex W3 H3 W' H' → W' Dd = none := fun {W' H'} e => e.hide hw3 hd3 (fun _ z => by cases z)
    have hdr : ds.drop i = d :: ds.drop (i + 1) := by
      rw [List.drop_eq_getElem_cons hi]
      congr 1
      rw [List.getElem?_eq_getElem hi] at hd
      exact Option.some.inj hd
    rw [hdr] at q3
    have stw : Sat K W0 H0 W4 (wipeB ρ vs) (L2.wipe σ vs) H4 := (st.ext (e1.trans e5)).wipe vs
    refine gs W0 H0 W4 _ _ H4 v d _ _ stw r4 q3 fun ρ2 σ2 st2 hw2 q4 => ⟨by rw [hw2, wipe_wipe], ?_⟩
    refine ht _ _ _ ⟨W0, H0, W4, ρ2, _, F0, st2, q4, fun b W5 H5 e6 q5 => ?_, xc0⟩
    cases b with
    | true =>
      rw [if_pos rfl] at q5
      refine iteT (he _ _ _ ⟨W0, H0, W5, ρ2, _, F0, st2.ext e6, q5, fun u W6 H6 d6 e7 r6 q6 => ?_, xc0⟩)
      have e8 := (e4.trans e6).trans e7
      have hd6 := e8.h _ _ hd3
      refine ⟨us, hd6, by omega, W6, us ++ [u], acc ++ [d6], hi, Ex.mut (e3.trans e8) hD (hw4 e8), hw4 e8, upd_same, (r3.gx e8.w).app (.one r6), by rw [List.length_append]; show us.length + 1 ≤ i + 1; omega, ?_⟩
      have : (fun ys => Q (acc ++ [d6] ++ ys)) = fun ys => Q (acc ++ (d6 :: ys)) := by
        funext ys
        rw [List.append_assoc]
        rfl
      rw [this]
      exact q6
    | false =>
      rw [if_neg (by decide)] at q5
      have e8 := e4.trans e6
      exact iteF ⟨W5, us, acc, hi, e3.trans e8, hw4 e8, e8.h _ _ hd3, r3.gx e8.w, by omega, q5⟩
  · rintro H3 ⟨W3, us, acc, _, e3, hw3, hd3, r3, l3, q3⟩
    rw [List.drop_length] at q3
    have q3 : Q (acc ++ []) := q3
    rw [List.append_nil] at q3
    exact k Dd us W3 H3 acc (e1.trans e3) (e1.h.free hD) hw3 hd3 r3 (by omega) q3
theorem d_lc {elt tg iter : Expr} {ifs : List Expr} {scope : Scope} {own : List (Str × Nat)} {gh : TG} {g : FG} (hc : X.calm = true) (hN : X.N.Nodup) (hi : PI X tg iter (tDI K E A)) (ok : BlkOk X.N X.env.scope scope own) (gs : GSnd K gh g (own.map (·.2)))
    (hg : ∀ (s : Shared) (H : Hp) (C : Addr) (cl : List (Str × Addr)) (fp : List Addr), PG (X.blk s H scope (compEnvC scope cl C X.env) fp) tg gh) (ht : ∀ (s : Shared) (H : Hp) (C : Addr) (cl : List (Str × Addr)) (fp : List Addr), PTs (X.blk s H scope (compEnvC scope cl C X.env) fp) ifs (tDB K E0 T))
    (he : ∀ (s : Shared) (H : Hp) (C : Addr) (cl : List (Str × Addr)) (fp : List Addr), PE (X.blk s H scope (compEnvC scope cl C X.env) fp) elt (tD K E0 F)) (hs : ∀ x, foldedSetIterable iter X.env x = pure x := by intro _; rfl) :
    PE X (.ListComp elt [⟨tg, iter, ifs, 0⟩] scope pos) (tDN K E (fLc A g T F (own.map (·.2)))) := (pe_lc hc hN hi ok hg ht he hs).mono fun _ _ _ h => lc_to (fun _ _ _ q => q) gs (fun _ _ _ q => q) (fun _ _ _ q => q) h
def fYes : FT := fun _ Q _ => Q true
theorem d_pts0 : PTs X [] (tDB K E fYes) := ⟨fun pins s σ H Q I ⟨W0, H0, W, ρ, Q', Z, st, f, k, x⟩ => pts_nil.run pins s σ H Q I (k true W H (Ex.refl st.see) f)⟩
theorem d_pts1 {c : Expr} (h : PT X c (tDB K E T)) : PTs X [c] (tDB K E T) := pts_one h
end
end Pu
set_option Elab.async false
set_option maxRecDepth 100000
namespace TM
open PySem L2 Ly
abbrev Nd := Str × Nat
/-- the stack of the roots that wait for a word (the leftmost last), and the children of each place, from the right -/
def chF : List Nat → Nat → Option (List Nat × List (List Nat))
  | [], _ => some ([], [])
  | a :: as, off => match chF as (off + 1) with
    | none => none
    | some (w, f) => if w.length < a then none else some (w.take (w.length - a) ++ [off], (w.drop (w.length - a)).reverse :: f)
/-- the children of all places, or none -/
def chOf (nds : List Nd) : Option (List (List Nat)) := match chF (nds.map (·.2)) 0 with
  | some (w, f) => if w = [0] then some f else none
  | none => none
/-- words and arities in the order of their first places, or none if a word has two -/
def arF : List Nd → List Nd → Option (List Nd)
  | [], acc => some acc
  | (w, a) :: r, acc => match acc.lookup w with
    | none => arF r (acc ++ [(w, a)])
    | some b => if b = a then arF r acc else none
def plc (nds : List Nd) (w : Str) : List Nat := (List.range nds.length).filter fun i => (nds[i]?.map (·.1)) == some w
/-- a node -/
def NodeV (K : PySem.W.Frag) (n : Nd) : Ty := fun v H => ∃ p, v = .ref p ∧ SqT K H p [.str n.1, .int n.2]
/-- a tuple of nodes -/
def Nodes (K : PySem.W.Frag) (H : Hp) (nds : List Nd) (xs : List V) : Prop := xs.length = nds.length ∧ ∀ (i : Nat) (n : Nd), nds[i]? = some n → ∃ x, xs[i]? = some x ∧ NodeV K n x H
structure NodesAt (K : PySem.W.Frag) (H : Hp) (a : Addr) (nds : List Nd) : Prop where
  ex : ∃ xs, SqT K H a xs ∧ Nodes K H nds xs
theorem NodeV.gx {K : PySem.W.Frag} {H H' : Hp} {n : Nd} {v : V} (e : Gx H H') (h : NodeV K n v H) : NodeV K n v H' := by
  obtain ⟨p, z, q⟩ := h
  exact ⟨p, z, e.t q⟩
theorem Nodes.gx {K : PySem.W.Frag} {H H' : Hp} {nds : List Nd} {xs : List V} (e : Gx H H') (h : Nodes K H nds xs) : Nodes K H' nds xs := ⟨h.1, fun i n q => by
  obtain ⟨x, h1, h2⟩ := h.2 i n q
  exact ⟨x, h1, h2.gx e⟩⟩
/-- a tuple of indices -/
def IntsT (K : PySem.W.Frag) (l : List Nat) : Ty := fun v H => ∃ p, v = .ref p ∧ SqT K H p (intsV l)
/-- the children of all places: a list of tuples -/
def ChL (K : PySem.W.Frag) (H : Hp) (cs : List (List Nat)) (ys : List V) : Prop := ys.length = cs.length ∧ ∀ (i : Nat) (c : List Nat), cs[i]? = some c → ∃ y, ys[i]? = some y ∧ IntsT K c y H
theorem IntsT.firm {K : PySem.W.Frag} {l : List Nat} : Firm (IntsT K l) := fun _ _ _ e ⟨p, z, h⟩ => ⟨p, z, e.t h⟩
/-- the children of all places: a tuple of tuples -/
def ChT (K : PySem.W.Frag) (H : Hp) (a : Addr) (cs : List (List Nat)) : Prop := ∃ ys, SqT K H a ys ∧ ChL K H cs ys
theorem ChL.firm {K : PySem.W.Frag} {H H' : Hp} {cs : List (List Nat)} {ys : List V} (e : Kx H H') (h : ChL K H cs ys) : ChL K H' cs ys := ⟨h.1, fun i c q => by
  obtain ⟨y, h1, h2⟩ := h.2 i c q
  exact ⟨y, h1, IntsT.firm _ _ _ e h2⟩⟩
theorem ChT.firm {K : PySem.W.Frag} {H H' : Hp} {a : Addr} {cs : List (List Nat)} (e : Kx H H') (h : ChT K H a cs) : ChT K H' a cs := by
  obtain ⟨ys, h1, h2⟩ := h
  exact ⟨ys, e.t h1, h2.firm e⟩
def kvD (l : List Nd) : List (Key × V) := l.map fun n => ((Sum.inr n.1 : Key), V.int (n.2 : Int))
/-- a dict of words, ascending -/
def Asc (l l' : List Nd) : Prop := l'.Perm l ∧ PyProof.Rows.sortedS (l'.map (·.1)) = true
def isLeaf (w : Str) : Bool := decide (w = "_" ∨ w = "#")
/-- a node as it must be -/
def GoodNd (n : Nd) : Prop := isNode2 (.str n.1) (.int (n.2 : Int)) = true ∧ n.1.length ≤ 1000
/-- a value, and whether it is a row of nodes of a term -/
inductive RowIn (K : PySem.W.Frag) (H : Hp) : V → Bool → Prop
  | other {x : V} {k : Kd} : Pl K H x k → k ≠ .tup → RowIn K H x false
  | size {a : Addr} {xs : List V} : H a = some (.tup xs) → xs.length < 1 ∨ 40 < xs.length → RowIn K H (.ref a) false
  | items {a : Addr} {xs : List V} {bs : List Bool} : H a = some (.tup xs) → (1 ≤ xs.length ∧ xs.length ≤ 40) → bs.length = xs.length ∧ (∀ (i : Nat) (x : V), xs[i]? = some x → ∃ b, bs[i]? = some b ∧ NodeIn K H x b) ∧ bs.all id = false → RowIn K H (.ref a) false
  | nodes {a : Addr} {nds : List Nd} : (∃ xs, H a = some (.tup xs) ∧ xs.length = nds.length ∧ ∀ (i : Nat) (n : Nd), nds[i]? = some n → ∃ p, xs[i]? = some (.ref p) ∧ H p = some (.tup [.str n.1, .int (n.2 : Int)])) → (1 ≤ nds.length ∧ nds.length ≤ 40) → (∀ n ∈ nds, GoodNd n) → RowIn K H (.ref a) ((chOf nds).isSome && (arF nds []).isSome)
end TM
set_option Elab.async false
set_option maxRecDepth 100000
namespace TM
open PySem L2 Ly
inductive Tr where
  | nd (w : Str) (ts : List Tr)
mutual
def Tr.nodes : Tr → List Nd
  | .nd w ts => (w, ts.length) :: nodesL ts
def nodesL : List Tr → List Nd
  | [] => []
  | t :: ts => t.nodes ++ nodesL ts
end
def Tr.size (t : Tr) : Nat := t.nodes.length
/-- the places of the roots of a row of trees that begins at a place -/
def roots : List Tr → Nat → List Nat
  | [], _ => []
  | t :: ts, off => off :: roots ts (off + t.size)
mutual
def Tr.ch : Tr → Nat → List (List Nat)
  | .nd _ ts, off => roots ts (off + 1) :: chL ts (off + 1)
def chL : List Tr → Nat → List (List Nat)
  | [], _ => []
  | t :: ts, off => t.ch off ++ chL ts (off + t.size)
end
mutual
def Tr.ends : Tr → Nat → List Nat
  | .nd _ ts, off => (off + 1 + (nodesL ts).length) :: endsL ts (off + 1)
def endsL : List Tr → Nat → List Nat
  | [], _ => []
  | t :: ts, off => t.ends off ++ endsL ts (off + t.size)
end
/-- the tree s stands at the place p of a row -/
def Sub (nds : List Nd) (cs : List (List Nat)) (p : Nat) (s : Tr) : Prop := s.nodes <+: nds.drop p ∧ s.ch p <+: cs.drop p
theorem get_of_prefix {α : Type} {x : α} {r l : List α} {p : Nat} (h : x :: r <+: l.drop p) : l[p]? = some x := by
  obtain ⟨q, hq⟩ := h
  have : (l.drop p)[0]? = some x := by rw [← hq]; rfl
  rw [List.getElem?_drop] at this
  simpa using this
theorem Sub.at {nds : List Nd} {cs : List (List Nat)} {p : Nat} {w : Str} {ts : List Tr} (h : Sub nds cs p (.nd w ts)) : nds[p]? = some (w, ts.length) ∧ cs[p]? = some (roots ts (p + 1)) := ⟨get_of_prefix h.1, get_of_prefix h.2⟩
theorem ChT.gx {K : PySem.W.Frag} {H H' : Hp} {a : Addr} {cs : List (List Nat)} (e : Gx H H') (h : ChT K H a cs) : ChT K H' a cs := h.firm e.k
theorem NodesAt.gx {K : PySem.W.Frag} {H H' : Hp} {a : Addr} {nds : List Nd} (e : Gx H H') (h : NodesAt K H a nds) : NodesAt K H' a nds := by
  obtain ⟨xs, h1, h2⟩ := h.ex
  exact ⟨⟨xs, e.t h1, h2.gx e⟩⟩
end TM
set_option Elab.async false
set_option maxRecDepth 100000
set_option maxHeartbeats 1000000
namespace TM
open PySem L2 Ly
/-- heaps in which all stays but lists and instances -/
def Sx (H H' : Hp) : Prop := ∀ a o, H a = some o → (∀ xs, o ≠ .lst xs) → (∀ C dx fs, o ≠ .ins C dx fs) → H' a = some o
theorem Sx.refl (H : Hp) : Sx H H := fun _ _ h _ _ => h
theorem Sx.trans {H H1 H2 : Hp} (a : Sx H H1) (b : Sx H1 H2) : Sx H H2 := fun x o h h1 h2 => b x o (a x o h h1 h2) h1 h2
theorem Sx.t {K : PySem.W.Frag} {H H' : Hp} {a : Addr} {xs : List V} (e : Sx H H') (h : SqT K H a xs) : SqT K H' a xs := by
  rcases h with (h | ⟨o, h⟩) | h
  · exact .inl (.inl (e _ _ h (fun _ z => by cases z) fun _ _ _ z => by cases z))
  · exact .inl (.inr ⟨o, e _ _ h (fun _ z => by cases z) fun _ _ _ z => by cases z⟩)
  · exact .inr h
/-- a row of nodes told: the tuple and its nodes, tracked -/
def RowAt (H : Hp) (a : Addr) (nds : List Nd) : Prop := ∃ xs, H a = some (.tup xs) ∧ xs.length = nds.length ∧ ∀ (i : Nat) (n : Nd), nds[i]? = some n → ∃ p, xs[i]? = some (.ref p) ∧ H p = some (.tup [.str n.1, .int (n.2 : Int)])
theorem RowAt.nodes {K : PySem.W.Frag} {H : Hp} {a : Addr} {nds : List Nd} (h : RowAt H a nds) : NodesAt K H a nds := by
  obtain ⟨xs, h1, h2, h3⟩ := h
  refine ⟨⟨xs, SqT.of h1, h2, fun i n q => ?_⟩⟩
  obtain ⟨p, h4, h5⟩ := h3 i n q
  exact ⟨_, h4, p, rfl, SqT.of h5⟩
theorem RowAt.firm {H H' : Hp} {a : Addr} {nds : List Nd} (e : Kx H H') (h : RowAt H a nds) : RowAt H' a nds := by
  obtain ⟨xs, h1, h2, h3⟩ := h
  refine ⟨xs, e.tup h1, h2, fun i n q => ?_⟩
  obtain ⟨p, h4, h5⟩ := h3 i n q
  exact ⟨p, h4, e.tup h5⟩
theorem RowAt.gx {H H' : Hp} {a : Addr} {nds : List Nd} (e : Gx H H') (h : RowAt H a nds) : RowAt H' a nds := h.firm e.k
/-- the attributes of a term -/
def tfs (n c e s u l : Addr) : List (Str × V) := [("own_nodes", .ref n), ("own_children", .ref c), ("own_ends", .ref e), ("own_symbols", .ref s), ("own_unknown", .ref u), ("own_lost", .ref l)]
/-- what a tree needs to be a term -/
structure Good (t : Tr) : Prop where
  nodes : ∀ n ∈ t.nodes, GoodNd n
  size : t.size ≤ 40
  ar : ∃ l, arF t.nodes [] = some l
/-- the parts of a term -/
structure TermB (K : PySem.W.Frag) (H : Hp) (n c e s u l : Addr) (t : Tr) : Prop where
  nd : RowAt H n t.nodes
  ch : ChT K H c (t.ch 0)
  en : SqT K H e (intsV (t.ends 0))
  sy : ∃ r r', arF t.nodes [] = some r ∧ Asc (r.filter fun n => !isLeaf n.1) r' ∧ H s = some (.dK (kvD r'))
  un : SqT K H u (intsV (plc t.nodes "_"))
  lo : SqT K H l (intsV (plc t.nodes "#"))
structure TermAt (K : PySem.W.Frag) (C : Addr) (H : Hp) (a : Addr) (t : Tr) : Prop where
  ex : ∃ dx n c e s u l, H a = some (.ins C dx (tfs n c e s u l)) ∧ TermB K H n c e s u l t
  good : Good t
theorem TermAt.firm {K : PySem.W.Frag} {C : Addr} {H H' : Hp} {a : Addr} {t : Tr} (x : Kx H H') (h : TermAt K C H a t) : TermAt K C H' a t := by
  obtain ⟨⟨dx, n, c, e, s, u, l, h1, h2⟩, g⟩ := h
  refine ⟨⟨dx, n, c, e, s, u, l, x.keep h1 (fun _ z => by cases z), ?_⟩, g⟩
  obtain ⟨h1, h2, h3, ⟨r, r', h4, h5, h6⟩, h7, h8⟩ := h2
  exact ⟨h1.firm x, h2.firm x, x.t h3, ⟨r, r', h4, h5, x.keep h6 (fun _ z => by cases z)⟩, x.t h7, x.t h8⟩
theorem TermAt.gx {K : PySem.W.Frag} {C : Addr} {H H' : Hp} {a : Addr} {t : Tr} (x : Gx H H') (h : TermAt K C H a t) : TermAt K C H' a t := h.firm x.k
def TermT (K : PySem.W.Frag) (C : Addr) (t : Tr) : Ty := fun v H => ∃ a, v = .ref a ∧ TermAt K C H a t
theorem TermT.firm {K : PySem.W.Frag} {C : Addr} {t : Tr} : Firm (TermT K C t) := fun _ _ _ e ⟨a, z, h⟩ => ⟨a, z, h.firm e⟩
end TM
namespace Ly
open PySem PySem.Spec PyProof.Rows L2
/-- a class of errors over ValueError without __init__ -/
structure ExC (K : PySem.W.Frag) (mg : Str → Option Value) (nm : Str) (C : Addr) : Prop where
  x : PySem.W.excIn K C [.type "ValueError", .type "Exception", .type "BaseException", .type "object"] "ValueError.__new__" = true
  g : mg nm = some (.ref C)
  k : PySem.W.keepIn K (.ref C) = true
  b : PySem.W.subIn K (.ref C) (.type "BaseException") = some true
  t : PySem.W.typeIn K (.ref C) = some (.type "type")
end Ly
namespace TM
open PySem L2 Ly
/-- what the text has of the class Term -/
structure TermC (K : PySem.W.Frag) (mg : Str → Option Value) (C CN CI : Addr) : Prop where
  cl : Cls K C
  n1 : NoAttr K C "own_nodes"
  n2 : NoAttr K C "own_children"
  n3 : NoAttr K C "own_ends"
  n4 : NoAttr K C "own_symbols"
  n5 : NoAttr K C "own_unknown"
  n6 : NoAttr K C "own_lost"
  gT : mg "Term" = some (.ref C)
  own : Own K C
  isT : PySem.W.kitOne K (.ref C) (.ref C) = some true
  clN : Cls K CN
  nN : NoAttr K CN "told_nodes"
  gN : mg "Nodes" = some (.ref CN)
  ownN : Own K CN
  isN : PySem.W.kitOne K (.ref CN) (.ref CN) = some true
  noTN : PySem.W.kitOne K (.ref C) (.ref CN) = some false
  noN : ∀ n ∈ ["NoneType", "bool", "int", "str", "list", "tuple", "dict"], PySem.W.kitOne K (.type n) (.ref CN) = some false
  noT : ∀ n ∈ ["NoneType", "bool", "int", "str", "list", "tuple", "dict"], PySem.W.kitOne K (.type n) (.ref C) = some false
  inv : ExC K mg "InvalidTerm" CI
def kdTy : Kd → String
  | .non => "NoneType"
  | .bl => "bool"
  | .int => "int"
  | .str => "str"
  | .lst => "list"
  | .tup => "tuple"
  | .dic => "dict"
  | .own => "object"
theorem kd_ty {K : PySem.W.Frag} {H : Hp} {v : V} {k : Kd} (h : Pl K H v k) (hk : k ≠ .own) : TyX K H v (.type (kdTy k)) ∧ kdTy k ∈ ["NoneType", "bool", "int", "str", "list", "tuple", "dict"] := by
  cases h with
  | non => exact ⟨.base .non, by decide⟩
  | bl b => exact ⟨.base (.bl b), by decide⟩
  | int i => exact ⟨.base (.int i), by decide⟩
  | str x => exact ⟨.base (.str x), by decide⟩
  | lst e => exact ⟨.base (.lst e), by decide⟩
  | tup e => exact ⟨.base (.tup e), by decide⟩
  | dK e => exact ⟨.base (.dK e), by decide⟩
  | own e o => exact absurd rfl hk
/-- all but one thing stays -/
def Gxa (a : Addr) (H H' : Hp) : Prop := ∀ b o, b ≠ a → H b = some o → H' b = some o
end TM
namespace TM
open PySem L2 Ly
theorem Gxa.refl (a : Addr) (H : Hp) : Gxa a H H := fun _ _ _ h => h
theorem Gxa.gx {a : Addr} {H H1 H2 : Hp} (e : Gxa a H H1) (g : Gx H1 H2) : Gxa a H H2 := fun b o n h => g _ _ (e b o n h)
theorem Gxa.put {a : Addr} {H H1 : Hp} {o : HO} (e : Gxa a H H1) : Gxa a H (upd H1 a o) := fun b u n h => by
  rw [upd_ne n]
  exact e b u n h
/-- from the place where an instance is made -/
theorem Gxa.made {x dx C : Addr} {H H' : Hp} (hx : H x = none) (hd : H dx = none) (e : Gxa x (upd (upd H dx (.own x)) x (.ins C dx [])) H') : Gx H H' := fun b o h => by
  have n1 : b ≠ x := fun z => by rw [z, hx] at h; cases h
  have n2 : b ≠ dx := fun z => by rw [z, hd] at h; cases h
  exact e b o n1 (by rw [upd_ne n1, upd_ne n2]; exact h)
end TM
namespace TM
open PySem L2 Ly
section
variable {n c e s u l : V}
abbrev fs3 (n c e : V) : List (Str × V) := [("own_nodes", n), ("own_children", c), ("own_ends", e)]
abbrev fs4 (n c e s : V) : List (Str × V) := [("own_nodes", n), ("own_children", c), ("own_ends", e), ("own_symbols", s)]
end
end TM
namespace TM
open PySem L2 Ly
theorem RowIn.gx {K : PySem.W.Frag} {H H' : Hp} {x : V} {b : Bool} (e : Gx H H') (h : RowIn K H x b) : RowIn K H' x b := by
  cases h with
  | other p q => exact .other (p.gx e) q
  | size p q => exact .size (e _ _ p) q
  | items p q r => exact .items (e _ _ p) q ⟨r.1, fun i x hx => by
      obtain ⟨b, h1, h2⟩ := r.2.1 i x hx
      exact ⟨b, h1, NodeIn.mono _ _ _ e h2⟩, r.2.2⟩
  | nodes p q r =>
    obtain ⟨xs, h1, h2, h3⟩ := p
    refine .nodes ⟨xs, e _ _ h1, h2, fun i n hn => ?_⟩ q r
    obtain ⟨p, h4, h5⟩ := h3 i n hn
    exact ⟨p, h4, e _ _ h5⟩
end TM
set_option Elab.async false
set_option maxRecDepth 100000
set_option maxHeartbeats 1000000
namespace Ly
open PySem PySem.Spec PyProof.Rows L2
end Ly
namespace Ly
open PySem PySem.Spec PyProof.Rows L2
end Ly
namespace TM
open PySem L2 Ly
/-- items that are nodes -/
def RowL (H : Hp) (xs : List V) (nds : List Nd) : Prop := xs.length = nds.length ∧ ∀ (i : Nat) (n : Nd), nds[i]? = some n → ∃ p, xs[i]? = some (.ref p) ∧ H p = some (.tup [.str n.1, .int (n.2 : Int)])
theorem RowL.nil {H : Hp} : RowL H [] [] := ⟨rfl, fun i n h => by cases h⟩
theorem RowL.gx {H H' : Hp} {xs : List V} {nds : List Nd} (e : Gx H H') (h : RowL H xs nds) : RowL H' xs nds := ⟨h.1, fun i n q => by
  obtain ⟨p, h1, h2⟩ := h.2 i n q
  exact ⟨p, h1, e _ _ h2⟩⟩
theorem RowL.app {H : Hp} {xs ys : List V} {nds mds : List Nd} (h : RowL H xs nds) (k : RowL H ys mds) : RowL H (xs ++ ys) (nds ++ mds) := by
  refine ⟨by rw [List.length_append, List.length_append, h.1, k.1], fun i n q => ?_⟩
  by_cases hi : i < nds.length
  · rw [List.getElem?_append_left hi] at q
    rw [List.getElem?_append_left (by rw [h.1]; exact hi)]
    exact h.2 i n q
  · rw [List.getElem?_append_right (by omega)] at q
    rw [List.getElem?_append_right (by rw [h.1]; omega), h.1]
    exact k.2 _ n q
theorem RowL.one {H : Hp} {p : Addr} {n : Nd} (h : H p = some (.tup [.str n.1, .int (n.2 : Int)])) : RowL H [.ref p] [n] := ⟨rfl, fun i m q => by
  cases i with
  | zero => cases q; exact ⟨p, rfl, h⟩
  | succ i => cases q⟩
/-- a value that is a term, or surely none -/
inductive IsTerm (K : PySem.W.Frag) (C : Addr) (H : Hp) : V → Option Tr → Prop
  | term {a : Addr} {t : Tr} : TermAt K C H a t → IsTerm K C H (.ref a) (some t)
  | none {x : V} {kd : Kd} : Pl K H x kd → kd ≠ .own → IsTerm K C H x none
theorem IsTerm.gx {K : PySem.W.Frag} {C : Addr} {H H' : Hp} {x : V} {o : Option Tr} (e : Gx H H') (h : IsTerm K C H x o) : IsTerm K C H' x o := by
  cases h with
  | term h => exact .term (h.gx e)
  | none p k => exact .none (p.gx e) k
theorem IsTerm.ty {K : PySem.W.Frag} {mg : Str → Option Value} {C CN CI : Addr} (TC : TermC K mg C CN CI) {H : Hp} {x : V} {o : Option Tr} (h : IsTerm K C H x o) : ∃ t, TyX K H x t ∧ PySem.W.kitOne K t (.ref C) = some o.isSome := by
  cases h with
  | term h =>
    obtain ⟨⟨dx, n, c, e, s, u, l, h1, _⟩, _⟩ := h
    exact ⟨_, .base (.ins h1 TC.cl TC.own.ha TC.own.hn TC.own.htk TC.own.hm), TC.isT⟩
  | none p k => exact ⟨_, (kd_ty p k).1, TC.noT _ (kd_ty p k).2⟩
/-- what build is given: the word, the arguments; the term, or none -/
inductive BuildIn (K : PySem.W.Frag) (C : Addr) (H : Hp) : V → List V → Option Tr → Prop
  | word {x : V} {kd : Kd} {xs : List V} : Pl K H x kd → Small x → isNode2 x (.int (xs.length : Int)) = false → BuildIn K C H x xs none
  | arg {x : V} {kd : Kd} {xs : List V} {os : List (Option Tr)} : Pl K H x kd → Small x → isNode2 x (.int (xs.length : Int)) = true → os.length = xs.length → (∀ (i : Nat) (y : V), xs[i]? = some y → ∃ o, os[i]? = some o ∧ IsTerm K C H y o) → os.all Option.isSome = false → BuildIn K C H x xs none
  | made {w : Str} {xs : List V} {ts : List Tr} : w.length ≤ 1000 → isNode2 (.str w) (.int (ts.length : Int)) = true → xs.length = ts.length → (∀ (i : Nat) (t : Tr), ts[i]? = some t → ∃ a, xs[i]? = some (.ref a) ∧ TermAt K C H a t) → Good (.nd w ts) → BuildIn K C H (.str w) xs (some (.nd w ts))
  | bad {w : Str} {xs : List V} {ts : List Tr} : w.length ≤ 1000 → isNode2 (.str w) (.int (ts.length : Int)) = true → xs.length = ts.length → (∀ (i : Nat) (t : Tr), ts[i]? = some t → ∃ a, xs[i]? = some (.ref a) ∧ TermAt K C H a t) → 40 < Tr.size (.nd w ts) ∨ arF (Tr.nodes (.nd w ts)) [] = none → BuildIn K C H (.str w) xs none
end TM
namespace TM
open PySem L2 Ly
end TM
namespace TM
open PySem L2 Ly
end TM
namespace Ly
open PySem PySem.Spec PyProof.Rows L2
end Ly
namespace TM
open PySem L2 Ly
theorem BuildIn.gx {K : PySem.W.Frag} {C : Addr} {H H' : Hp} {x : V} {xs : List V} {o : Option Tr} (e : Gx H H') (h : BuildIn K C H x xs o) : BuildIn K C H' x xs o := by
  cases h with
  | word p s b => exact .word (p.gx e) s b
  | arg p s b l k a => exact .arg (p.gx e) s b l (fun i y hy => by
      obtain ⟨o, h1, h2⟩ := k i y hy
      exact ⟨o, h1, h2.gx e⟩) a
  | made w b l k g => exact .made w b l (fun i t ht => by
      obtain ⟨a, h1, h2⟩ := k i t ht
      exact ⟨a, h1, h2.gx e⟩) g
  | bad w b l k g => exact .bad w b l (fun i t ht => by
      obtain ⟨a, h1, h2⟩ := k i t ht
      exact ⟨a, h1, h2.gx e⟩) g
end TM
set_option Elab.async false
set_option maxRecDepth 100000
set_option linter.all false
namespace Pu
open PySem PySem.Spec PyProof.Rows L2 Ly
structure EndsD where
  nx : Env → Prop
  rt : D → Prop
  bk : Env → Prop := fun _ => False
  ct : Env → Prop := fun _ => False
  ex : ZX
abbrev FS := Env → EndsD → Prop
structure Ok (K : PySem.W.Frag) (W0 H0 : Hp) (E : XK) (W : Hp) (De : EndsD) (Dh : Ends) : Prop where
  nx : ∀ W' ρ' σ' H', Gx W W' → Sat K W0 H0 W' ρ' σ' H' → De.nx ρ' → Dh.nx σ' H'
  rt : ∀ v W' H' d, Ex W0 H0 W' H' → Rep K W' v d → De.rt d → Dh.rt v H'
  bk : ∀ W' ρ' σ' H', Gx W W' → Sat K W0 H0 W' ρ' σ' H' → De.bk ρ' → Dh.bk σ' H'
  ct : ∀ W' ρ' σ' H', Gx W W' → Sat K W0 H0 W' ρ' σ' H' → De.ct ρ' → Dh.ct σ' H'
  ex : XC K E W0 H0 De.ex
def tDS (K : PySem.W.Frag) (W0 H0 : Hp) (E : XK) (S : FS) : TS := fun Dh σ H => ∃ W ρ De, Sat K W0 H0 W ρ σ H ∧ S ρ De ∧ Ok K W0 H0 E W De Dh
theorem _root_.L2.PS.mono {X : Cx} {st : Stmt} {t u : TS} (h : PS X st t) (m : ∀ D σ H, u D σ H → t D σ H) : PS X st u := ⟨fun pins s σ H D I q => h.run pins s σ H D I (m _ _ _ q)⟩
theorem _root_.L2.PSs.mono {X : Cx} {st : List Stmt} {t u : TS} (h : PSs X st t) (m : ∀ D σ H, u D σ H → t D σ H) : PSs X st u := ⟨fun pins s σ H D I q => h.run pins s σ H D I (m _ _ _ q)⟩
section
variable {X : Cx} {K : PySem.W.Frag} {E : XK} {W0 H0 : Hp} {F G L : FE} {T U : FT} {A N : FA} {S S' : FS} {tg e a b : Expr} {es : List Expr} {pos pos' : Pos} {st : Stmt} {rest body : List Stmt} {i j : Nat}
theorem Ok.up {De : EndsD} {Dh : Ends} {W W1 : Hp} (o : Ok K W0 H0 E W De Dh) (e : Gx W W1) : Ok K W0 H0 E W1 De Dh := ⟨fun W' ρ' σ' H' g => o.nx W' ρ' σ' H' (e.trans g), o.rt, fun W' ρ' σ' H' g => o.bk W' ρ' σ' H' (e.trans g), fun W' ρ' σ' H' g => o.ct W' ρ' σ' H' (e.trans g), o.ex⟩
theorem Ok.xc {De : EndsD} {Dh : Ends} {W H Wb : Hp} {ρ : Env} {σ : L2.St} (o : Ok K W0 H0 E Wb De Dh) (s : Sat K W0 H0 W ρ σ H) : XC K E W H De.ex := o.ex.ext s.ex
def sNext : FS := fun ρ De => De.nx ρ
def sSeq (S S' : FS) : FS := fun ρ De => S ρ { De with nx := fun ρ' => S' ρ' De }
theorem d_snil : PSs X [] (tDS K W0 H0 E sNext) := pss_nil.mono fun D σ H ⟨W, ρ, De, s, q, o⟩ => o.nx W ρ σ H (Gx.refl W) s q
theorem d_seq (h1 : PS X st (tDS K W0 H0 E S)) (h2 : PSs X rest (tDS K W0 H0 E S')) : PSs X (st :: rest) (tDS K W0 H0 E (sSeq S S')) := (pss_cons h1 h2).mono fun D σ H ⟨W, ρ, De, s, q, o⟩ =>
  ⟨W, ρ, _, s, q, ⟨fun W' ρ' σ' H' g s' q' => ⟨W', ρ', De, s', q', o.up g⟩, o.rt, o.bk, o.ct, o.ex⟩⟩
theorem d_sone (h1 : PS X st (tDS K W0 H0 E S)) : PSs X [st] (tDS K W0 H0 E S) := pss_one h1
def sRet (F : FE) : FS := fun ρ De => F ρ De.rt De.ex
theorem d_ret (h : PE X e (tD K E F)) : PS X (.Return (some e) pos) (tDS K W0 H0 E (sRet F)) := (ps_ret h).mono fun D σ H ⟨W, ρ, De, s, q, o⟩ => ⟨W0, H0, W, ρ, _, _, s, q, fun v W' H' d e r z => o.rt v W' H' d (s.ex.trans e) r z, o.xc s⟩
def sIf (T : FT) (S S' : FS) : FS := fun ρ De => T ρ (fun b => if b = true then S ρ De else S' ρ De) De.ex
theorem d_ifs {c : Expr} {u v : List Stmt} (hc : PT X c (tDB K E T)) (ha : PSs X u (tDS K W0 H0 E S)) (hb : PSs X v (tDS K W0 H0 E S')) : PS X (.If c u v pos) (tDS K W0 H0 E (sIf T S S')) := (ps_if hc ha hb).mono fun D σ H ⟨W, ρ, De, s, q, o⟩ =>
  ⟨W0, H0, W, ρ, _, _, s, q, fun b W' H' e z => by
    cases b with
    | true =>
      rw [if_pos rfl] at z
      exact iteT ⟨W', ρ, De, s.ext e, z, o.up e.w⟩
    | false =>
      rw [if_neg (by decide)] at z
      exact iteF ⟨W', ρ, De, s.ext e, z, o.up e.w⟩, o.xc s⟩
/-- x = a value -/
def sAsg (i : Nat) (F : FE) : FS := fun ρ De => F ρ (fun d => De.nx (ρ.set i (.val d))) De.ex
theorem d_asg (he : PE X e (tD K E F)) (hg : PG X tg (gName i)) (hs : swapsWithSole [tg] e pos.line X.env = pure false := by rfl) (hw : swappedStores [tg] e X.env = pure none := by rfl)
    (h1 : (assignEach [tg] X.env).map (·.2) = [assign tg X.env] := by rfl) : PS X (.Assign [tg] e pos) (tDS K W0 H0 E (sAsg i F)) := (ps_asg he hg hs hw h1).mono fun D σ H ⟨W, ρ, De, s, q, o⟩ =>
  ⟨W0, H0, W, ρ, _, _, s, q, fun v W' H' d e r z => o.nx W' _ _ H' e.w ((s.ext e).set r) z, o.xc s⟩
/-- x = a new list -/
def sNew (i : Nat) (N : FA) : FS := fun ρ De => N ρ (fun ds => De.nx (ρ.set i (.lst ds))) De.ex
theorem d_new (he : PE X e (tDN K E N)) (hg : PG X tg (gName i)) (hs : swapsWithSole [tg] e pos.line X.env = pure false := by rfl) (hw : swappedStores [tg] e X.env = pure none := by rfl)
    (h1 : (assignEach [tg] X.env).map (·.2) = [assign tg X.env] := by rfl) : PS X (.Assign [tg] e pos) (tDS K W0 H0 E (sNew i N)) := (ps_asg he hg hs hw h1).mono fun D σ H ⟨W, ρ, De, s, q, o⟩ =>
  ⟨W0, H0, W, ρ, _, _, s, q, fun p vs W' H' ds e hp hw h' r n z => o.nx W' _ _ H' e.w (s.put (b := .lst ds) e hp ⟨p, vs, rfl, rfl, hw, s.ex.h.free hp, h', r, n⟩) z, o.xc s⟩
/-- a, b = x, y -/
def sPar (i j : Nat) (A : FA) : FS := fun ρ De => A ρ (fun ds => ∃ d f, ds = [d, f] ∧ De.nx ((ρ.set i (.val d)).set j (.val f))) De.ex
theorem d_par {st : Stmt} (h : PS X st (tPar i j (tDA K E A))) : PS X st (tDS K W0 H0 E (sPar i j A)) := h.mono fun D σ H ⟨W, ρ, De, s, q, o⟩ =>
  ⟨W0, H0, W, ρ, _, _, s, q, fun vs W' H' ds e r ⟨d, f, z, q⟩ => by
    subst z
    cases r with
    | cons r1 r =>
      cases r with
      | cons r2 r =>
        cases r
        exact ⟨_, _, rfl, o.nx W' _ _ H' e.w (((s.ext e).set r1).set r2) q⟩, o.xc s⟩
/-- a list is given away ahead of a statement -/
def demB (i : Nat) (ρ : Env) : Env := match ρ[i]? with
  | some (.lst ds) => ρ.set i (.val (.lst ds))
  | _ => ρ
def sDem (i : Nat) (S : FS) : FS := fun ρ De => S (demB i ρ) De
/-- x.append(v), x.extend(v) of an own list -/
def sApp (i : Nat) (F : FE) : FS := fun ρ De => ∃ ds, ρ[i]? = some (.lst ds) ∧ F ρ (fun d => ds.length < sizeLine ∧ De.nx (ρ.set i (.lst (ds ++ [d])))) De.ex
theorem d_app {st : Stmt} (h : PS X st (tDrop (tBM K "list" rAppend (tVar i) (tCons (tD K E F) tNil)))) : PS X st (tDS K W0 H0 E (sApp i F)) := h.mono fun D σ H ⟨W, ρ, De, s, ⟨ds, hi, q⟩, o⟩ => by
  obtain ⟨p, vs, h1, _, _, h4, _⟩ := s.own hi
  refine ⟨.ref p, h1, .inl ⟨rfl, vs, SqL.of h4⟩, W0, H0, W, ρ, _, _, s, q, fun v W1 H1 d e1 r1 ⟨hn, q1⟩ => ?_, o.xc s⟩
  have s1 := s.ext e1
  obtain ⟨p', us, g1, g2, g3, g4, g5, g6⟩ := s1.own hi
  rw [h1] at g1
  cases g1
  refine ⟨p, us, v, rfl, rfl, g4, by rw [g5.len]; exact hn, ?_⟩
  exact o.nx W1 _ σ _ e1.w (s1.chg hi h1 (g5.app (.one r1)) (by rw [List.length_append, g5.len]; exact hn)) q1
def forD (g : FG) (S : FS) : List D → Env → EndsD → Prop
  | [], ρ, De => De.nx ρ
  | d :: ds, ρ, De => g d ρ fun ρ2 => S ρ2 { De with nx := fun ρ3 => forD g S ds ρ3 De, ct := fun ρ3 => forD g S ds ρ3 De, bk := De.nx }
def sFor (A : FA) (g : FG) (S : FS) : FS := fun ρ De => A ρ (fun ds => forD g S ds ρ De) De.ex
theorem d_for {iter : Expr} {gh : TG} {g : FG} {vs : List Nat} (hp : PassesOwn (model X.prog X.w) X.A X.env X.xe) (hc : X.calm = true) (hi : PI X tg iter (tDF K E A)) (hg : PG X tg gh) (gs : GSnd K gh g vs) (hb : PSs X body (tDS K W0 H0 E S))
    (hs : ∀ x, foldedSetIterable iter X.env x = pure x := by intro _; rfl) : PS X (.For tg iter body [] pos) (tDS K W0 H0 E (sFor A g S)) := (ps_for hp hc hi hg hb hs).mono fun D σ H ⟨W, ρ, De, s, q, o⟩ => by
  refine ⟨W0, H0, W, ρ, _, _, s, q, fun J W1 H1 ds e1 ⟨G, Y, hW, hG, hY⟩ q1 => ?_, o.xc s⟩
  refine for_it hW (D := D) (fun i σ' H' => ∃ W' ρ', Gx W1 W' ∧ Sat K W0 H0 W' ρ' σ' H' ∧ forD g S (ds.drop i) ρ' De) ⟨W1, ρ, Gx.refl _, s.ext e1, q1⟩ ?_ ?_ ?_
  · rintro i σ' H' _ ⟨W', ρ', e2, s2, _⟩
    exact hG H' (e2.trans s2.see)
  · rintro i x σ' H2 H3 hi ⟨W2, ρ2, e2, s2, q2⟩ y
    obtain ⟨W3, d, hd, e3, r3⟩ := hY i H2 x H3 W2 hi e2 s2.see y
    have hdr : ds.drop i = d :: ds.drop (i + 1) := by
      rw [List.drop_eq_getElem_cons hi]
      congr 1
      rw [List.getElem?_eq_getElem hi] at hd
      exact Option.some.inj hd
    rw [hdr] at q2
    refine gs W0 H0 W3 ρ2 σ' H3 x d _ _ (s2.ext e3) r3 q2 fun ρ3 σ3 s3 _ q3 => ?_
    exact ⟨W3, ρ3, _, s3, q3, ⟨fun W' ρ' σ' H' g s' q' => ⟨W', ρ', (e2.trans e3.w).trans g, s', q'⟩, o.rt, fun W' ρ' σ' H' g s' q' => o.nx W' ρ' σ' H' (((e1.w.trans e2).trans e3.w).trans g) s' q', fun W' ρ' σ' H' g s' q' => ⟨W', ρ', (e2.trans e3.w).trans g, s', q'⟩, o.ex⟩⟩
  · rintro σ' H' ⟨W', ρ', e2, s2, q2⟩
    rw [List.drop_length] at q2
    exact o.nx W' ρ' σ' H' (e1.w.trans e2) s2 q2
end
end Pu
set_option Elab.async false
set_option maxRecDepth 100000
set_option linter.all false
namespace Pu
open PySem PySem.Spec PyProof.Rows L2 Ly
abbrev Fn := List D → (D → Prop) → ZX → Prop
def spD (K : PySem.W.Frag) (n : Nat) (f : Fn) : Sp := fun vs H Qh E => ∃ W ds Q Z, Gx W H ∧ RepAll K W vs ds ∧ ds.length = n ∧ f ds Q Z ∧ (∀ v W' H' d, Ex W H W' H' → Rep K W' v d → Q d → Qh v H') ∧ XC K E W H Z
def startB (n : Nat) (ds : List D) : Env := ds.map .val ++ List.replicate (n - ds.length) .un
def fnS (n : Nat) (S : FS) : Fn := fun ds Q Z => S (startB n ds) { nx := fun _ => Q .non, rt := Q, ex := Z }
section
variable {K : PySem.W.Frag}
theorem rep_start {W H : Hp} {n : Nat} {N : List Str} {vs : List V} {ds : List D} (s : Gx W H) (hN : N.length = n) (r : RepAll K W vs ds) : Sat K W H W (startB n ds) (L2.start N vs) H := by
  refine ⟨Ex.refl s, ?_, fun _ => none, (fun _ _ _ z => by cases z), fun i b hb => ?_⟩
  · unfold startB L2.start
    simp [r.len, hN]
  · unfold startB at hb
    unfold L2.start
    by_cases hi : i < ds.length
    · rw [List.getElem?_append_left (by simpa using hi), List.getElem?_map, List.getElem?_eq_getElem hi] at hb
      cases hb
      obtain ⟨v, h1, h2⟩ := r.getD (List.getElem?_eq_getElem hi)
      refine ⟨some v, ?_, rfl, v, rfl, h2⟩
      rw [List.getElem?_append_left (by rw [List.length_map, r.len]; exact hi), List.getElem?_map, h1]
      rfl
    · rw [List.getElem?_append_right (by simpa using Nat.le_of_not_lt hi), List.length_map] at hb
      have hlt : i - ds.length < n - ds.length := by
        have := (List.getElem?_eq_some_iff.mp hb).1
        rw [List.length_replicate] at this
        exact this
      rw [List.getElem?_replicate_of_lt hlt] at hb
      cases hb
      refine ⟨none, ?_, rfl⟩
      rw [List.getElem?_append_right (by rw [List.length_map, r.len]; omega), List.length_map, r.len, hN, List.getElem?_replicate_of_lt hlt]
end
section
variable {P : Program} {w : World} {K : PySem.W.Frag} {mg : Str → Option Value} {base : Heap}
/-- a def by its body -/
theorem fn_d {x qual : Str} {st : Stmt} {f : Addr} {fd : FuncData} {N ps : List Str} {k n : Nat} {g : Fn} {S : FS} (F : Fun K x qual st f fd) (Sc : FnScope N ps (defScope st)) (hn : ps.length = n)
    (hbody : ∀ (cdv : Value) (A : Around) (outer : List PySem.Env) (s : Shared) (H : Hp) (E : XK) (W0 : Hp), Room k (A.deeper (envOfC qual (defScope st) s.heap.objs.size f cdv)) →
      PSs (cxOf (L2.CX P w) P w K mg base N qual (defScope st) f cdv A outer s H E) (defBody st) (tDS K W0 H E S)) (hg : ∀ ds Q Z, ds.length = n → g ds Q Z → fnS N.length S ds Q Z) : FnOk P w K mg base (L2.CX P w) (k + 1) f fd ps (spD K n g) :=
  F.okX Sc (fun vs H Q E ⟨W, ds, _, _, _, r, hl, _⟩ => by rw [r.len, hl, hn]) fun cdv A outer s H vs Q E hr ⟨W, ds, Qd, Z, sw, r, hl, hf, k, x⟩ =>
    ⟨_, hbody cdv A outer s H E W hr, W, startB N.length ds, _, rep_start sw rfl r, hg ds Qd Z hl hf, ⟨fun W' ρ' σ' H' _ s' q => k _ W' H' _ s'.ex .non q, fun v W' H' d e r q => k v W' H' d e r q, (fun _ _ _ _ _ _ z => z.elim), (fun _ _ _ _ _ _ z => z.elim), x⟩⟩
/-- nothing raised is within all that may be -/
theorem fn_cx {k : Nat} {f : Addr} {fd : FuncData} {ps : List Str} {sp : Sp} (F : FnOk P w K mg base CX0 k f fd ps sp) : FnOk P w K mg base (L2.CX P w) k f fd ps sp :=
  ⟨F.len, fun A outer s H args us vs Q E hr he hb hv hs => codeAny_mono (F.run A outer s H args us vs Q E hr he hb hv hs) fun r s' h => by
    cases r with
    | error e => exact False.elim h
    | ok fl => cases fl <;> exact h⟩
/-- a def for its callers -/
structure CalF (P : Program) (w : World) (K : PySem.W.Frag) (mg : Str → Option Value) (base : Heap) (x : Str) (k n : Nat) (g : Fn) : Prop where
  ex : ∃ (f : Addr) (fd : FuncData) (ps : List Str), FnOk P w K mg base (L2.CX P w) k f fd ps (spD K n g) ∧ mg x = some (.ref f) ∧ PySem.W.keepIn K (.ref f) = true ∧ Binds K fd ps []
end
section
variable {X : Cx} {K : PySem.W.Frag} {E : XK} {W0 H0 : Hp} {F G L : FE} {T U : FT} {A N : FA} {S S' : FS} {g : Fn} {tg e a b o : Expr} {es : List Expr} {p pos apos : Pos} {i j k n : Nat} {x m f : Str} {C : Addr}
def fCall (g : Fn) (n : Nat) (A : FA) : FE := fun ρ Q Z => A ρ (fun ds => ds.length = n ∧ g ds Q Z) Z
theorem sp_to {σ : L2.St} {H : Hp} {Qh : VK} (h : tD K E (fCall g n A) σ H Qh) : tCall (spD K n g) [] E (tDA K E A) σ H Qh := by
  obtain ⟨W0, H0, W, ρ, Q, Z, st, f, k, x⟩ := h
  refine ⟨W0, H0, W, ρ, _, Z, st, f, fun vs W1 H1 ds e1 r ⟨hl, q⟩ => ?_, x⟩
  show spD K n g (vs ++ []) H1 Qh E
  rw [List.append_nil]
  exact ⟨W1, ds, Q, Z, e1.s, r, hl, q, fun v W2 H2 d e2 r2 q2 => k v W2 H2 d (e1.trans e2) r2 q2, x.ext e1⟩
theorem d_call (c : CalF X.prog X.w X.K X.mg X.base x k n g) (hr : Room k X.A) (hg : Gl X x) (hx : Passes (L2.CX X.prog X.w) X E) (ha : PA X (e :: es) (tDA K E A)) (hK : X.K = K := by rfl) (hdb : (x == ("__debug__" : Str)) = false := by decide)
    (he : starEach (e :: es) X.env = (false, eval e X.env) :: starEach es X.env := by rfl) (hpl : (backTo pos (starEach es X.env)).any (·.1) = false := by rfl) : PE X (.Call (.Name x p) (e :: es) [] pos) (tD K E (fCall g n A)) := by
  subst hK
  obtain ⟨f, fd, ps, F, hm, hk, hb⟩ := c.ex
  exact (pe_call F hr hg hm hk hb .nil hx ha hdb he hpl).mono fun _ _ _ h => sp_to h
end
end Pu
set_option Elab.async false
set_option maxRecDepth 100000
set_option linter.all false
namespace Pu
open PySem PySem.Spec PyProof.Rows L2 Ly
section
variable {X : Cx} {K : PySem.W.Frag} {E : XK} {W0 H0 : Hp} {F G L : FE} {T U : FT} {A N : FA} {S S' : FS} {g : Fn} {tg e a b o : Expr} {es : List Expr} {p pos apos : Pos} {i j k n : Nat} {x m f : Str} {C : Addr}
def CSnd (K : PySem.W.Frag) (r : List V → Hp → VK → Prop) (R : List D → (D → Prop) → Prop) : Prop := ∀ W H xs ds Q Qh, Gx W H → RepTs K W H xs ds → R ds Q → (∀ v W' H' d, Ex W H W' H' → Rep K W' v d → Q d → Qh v H') → r xs H Qh
def CSndN (K : PySem.W.Frag) (r : List V → Hp → VK → Prop) (R : List D → (List D → Prop) → Prop) : Prop := ∀ W H xs ds Q Qh, Gx W H → RepTs K W H xs ds → R ds Q →
  (∀ p vs W' H' ds, Ex W H W' H' → H p = none → W' p = none → H' p = some (.lst vs) → RepAll K W' vs ds → vs.length ≤ sizeLine → Q ds → Qh (.ref p) H') → r xs H Qh
def fCB (R : List D → (D → Prop) → Prop) (A : FA) : FE := fun ρ Q Z => A ρ (fun ds => R ds Q) Z
def fCBN (R : List D → (List D → Prop) → Prop) (A : FA) : FA := fun ρ Q Z => A ρ (fun ds => R ds Q) Z
variable {r : List V → Hp → VK → Prop} {R : List D → (D → Prop) → Prop} {RN : List D → (List D → Prop) → Prop} {idn Tn : String}
theorem cb_to (hR : CSnd K r R) {σ : L2.St} {H : Hp} {Qh : VK} (h : tD K E (fCB R A) σ H Qh) : tCB r (tDAT K E A) σ H Qh := by
  obtain ⟨W0, H0, W, ρ, Q, Z, st, f, k, x⟩ := h
  exact ⟨W0, H0, W, ρ, _, Z, st, f, fun vs W1 H1 ds e1 r1 q => hR W1 H1 vs ds Q Qh e1.s r1 q fun v W2 H2 d e2 r2 q2 => k v W2 H2 d (e1.trans e2) r2 q2, x⟩
theorem cbn_to (hR : CSndN K r RN) {σ : L2.St} {H : Hp} {Qh : VK} (h : tDN K E (fCBN RN A) σ H Qh) : tCB r (tDAT K E A) σ H Qh := by
  obtain ⟨W0, H0, W, ρ, Q, Z, st, f, k, x⟩ := h
  exact ⟨W0, H0, W, ρ, _, Z, st, f, fun vs W1 H1 ds e1 r1 q => hR W1 H1 vs ds Q Qh e1.s r1 q fun p vs W2 H2 ds e2 hp hw h' r2 n q2 => k p vs W2 H2 ds (e1.trans e2) (e1.h.free hp) hw h' r2 n q2, x⟩
theorem d_cb (hc : CallR X (.builtin idn) r) (hR : CSnd K r R) (hg : Gl X x) (hm : X.mg x = none) (hv : bootBuiltins x = some (.builtin idn)) (ha : PA X (e :: es) (tDAT K E A)) (hn : x ≠ "__name__" := by decide) (hdb : (x == ("__debug__" : Str)) = false := by decide)
    (hs : starEach (e :: es) X.env = (false, eval e X.env) :: starEach es X.env := by rfl) (hpl : (backTo pos (starEach es X.env)).any (·.1) = false := by rfl) : PE X (.Call (.Name x p) (e :: es) [] pos) (tD K E (fCB R A)) :=
  (pe_callB hc hg hm hv ha hn hdb hs hpl).mono fun _ _ _ h => cb_to hR h
theorem d_ct (hc : CallR X (.type Tn) r) (hR : CSnd K r R) (hg : Gl X x) (hm : X.mg x = none) (hv : bootBuiltins x = some (.type Tn)) (ha : PA X (e :: es) (tDAT K E A)) (hn : x ≠ "__name__" := by decide) (hdb : (x == ("__debug__" : Str)) = false := by decide)
    (hs : starEach (e :: es) X.env = (false, eval e X.env) :: starEach es X.env := by rfl) (hpl : (backTo pos (starEach es X.env)).any (·.1) = false := by rfl) : PE X (.Call (.Name x p) (e :: es) [] pos) (tD K E (fCB R A)) :=
  (pe_callTy hc hg hm hv ha hn hdb hs hpl).mono fun _ _ _ h => cb_to hR h
theorem d_ctN (hc : CallR X (.type Tn) r) (hR : CSndN K r RN) (hg : Gl X x) (hm : X.mg x = none) (hv : bootBuiltins x = some (.type Tn)) (ha : PA X (e :: es) (tDAT K E A)) (hn : x ≠ "__name__" := by decide) (hdb : (x == ("__debug__" : Str)) = false := by decide)
    (hs : starEach (e :: es) X.env = (false, eval e X.env) :: starEach es X.env := by rfl) (hpl : (backTo pos (starEach es X.env)).any (·.1) = false := by rfl) : PE X (.Call (.Name x p) (e :: es) [] pos) (tDN K E (fCBN RN A)) :=
  (pe_callTy hc hg hm hv ha hn hdb hs hpl).mono fun _ _ _ h => cbn_to hR h
theorem d_cbN (hc : CallR X (.builtin idn) r) (hR : CSndN K r RN) (hg : Gl X x) (hm : X.mg x = none) (hv : bootBuiltins x = some (.builtin idn)) (ha : PA X (e :: es) (tDAT K E A)) (hn : x ≠ "__name__" := by decide) (hdb : (x == ("__debug__" : Str)) = false := by decide)
    (hs : starEach (e :: es) X.env = (false, eval e X.env) :: starEach es X.env := by rfl) (hpl : (backTo pos (starEach es X.env)).any (·.1) = false := by rfl) : PE X (.Call (.Name x p) (e :: es) [] pos) (tDN K E (fCBN RN A)) :=
  (pe_callB hc hg hm hv ha hn hdb hs hpl).mono fun _ _ _ h => cbn_to hR h
theorem ts1 {W H : Hp} {xs : List V} {d : D} (h : RepTs K W H xs [d]) : ∃ v, xs = [v] ∧ RepT K W H v d := by
  cases h with
  | cons r rs => cases rs; exact ⟨_, rfl, r⟩
theorem ts2 {W H : Hp} {xs : List V} {d d' : D} (h : RepTs K W H xs [d, d']) : ∃ v v', xs = [v, v'] ∧ RepT K W H v d ∧ RepT K W H v' d' := by
  cases h with
  | cons r rs =>
    obtain ⟨v', z, r'⟩ := ts1 rs
    subst z
    exact ⟨_, v', rfl, r, r'⟩
/-- len -/
def lenD : D → Option Nat
  | .lst ds => some ds.length
  | .tup ds => some ds.length
  | .dic ks _ => some ks.length
  | .lsk ds => some ds.length
  | .str z => if z.length ≤ sizeLine then some z.length else none
  | _ => none
def RLen (ds : List D) (Q : D → Prop) : Prop := ∃ d n, ds = [d] ∧ lenD d = some n ∧ Q (.int (n : Nat))
def rLenA (K : PySem.W.Frag) : List V → Hp → VK → Prop := fun xs H Q => (rLenK K xs H Q ∨ ∃ z, xs = [.str z] ∧ z.length ≤ sizeLine ∧ Q (.int z.length) H) ∨ ∃ a kvs, xs = [V.ref a] ∧ Rd H a (.dK kvs) ∧ Q (.int kvs.length) H
theorem callR_or {r r' : List V → Hp → VK → Prop} {v : Value} (h : CallR X v r) (h' : CallR X v r') : CallR X v (fun xs H Q => r xs H Q ∨ r' xs H Q) := fun pins s σ H xs us Q I rv q => by
  rcases q with q | q
  · exact h pins s σ H xs us Q I rv q
  · exact h' pins s σ H xs us Q I rv q
theorem call_lenDR : CallR X (.builtin "len") (fun xs H Q => ∃ a kvs, xs = [V.ref a] ∧ Rd H a (.dK kvs) ∧ Q (.int kvs.length) H) := by
  intro pins s σ H xs us Q I r h
  obtain ⟨a, kvs, rfl, ha, q⟩ := h
  obtain ⟨u, rfl, ru⟩ := vals1 r
  cases ru
  exact d_len I ha fun t s' I' => ⟨.int kvs.length, H, I', ⟨t, rfl⟩, q⟩
theorem c_len (hK : X.K = K := by rfl) : CallR X (.builtin "len") (rLenA K) := callR_or (callR_or (kcall_len hK) call_len_str) call_lenDR
theorem s_len : CSnd K (rLenA K) RLen := fun W H xs ds Q Qh s rr ⟨d, n, z, hd, q⟩ k => by
  subst z
  obtain ⟨v, rfl, r⟩ := ts1 rr
  cases d with
  | lst ds =>
    cases hd
    obtain ⟨p, vs, h1, h2, h3, h4⟩ := r.lst_inv s
    subst h1
    refine .inl (.inl ⟨p, vs, rfl, .inl (SqL.of h2), ?_⟩)
    rw [h3.len]
    exact k _ W H _ (Ex.refl s) (.int _) q
  | tup ds =>
    cases hd
    obtain ⟨p, vs, h1, h2, h3, h4⟩ := r.tup_inv s
    subst h1
    refine .inl (.inl ⟨p, vs, rfl, .inr h2, ?_⟩)
    rw [h3.len]
    exact k _ W H _ (Ex.refl s) (.int _) q
  | str z =>
    have hd : (if z.length ≤ sizeLine then some z.length else none) = some n := hd
    by_cases hz : z.length ≤ sizeLine
    · rw [if_pos hz] at hd
      cases hd
      rw [r.str_inv]
      exact .inl (.inr ⟨z, rfl, hz, k _ W H _ (Ex.refl s) (.int _) q⟩)
    · rw [if_neg hz] at hd
      cases hd
  | dic ks ds =>
    cases hd
    obtain ⟨p, vs, h1, h2, h3, h4, h5⟩ := r.dic_inv s
    subst h1
    refine .inr ⟨p, vs, rfl, h2, ?_⟩
    rw [← List.length_map (f := Prod.fst), h3]
    exact k _ W H _ (Ex.refl s) (.int _) q
  | lsk ds =>
    cases hd
    cases r with
    | val r =>
      cases r with
      | @lsk p vs _ h2 h3 h4 =>
        refine .inl (.inl ⟨p, vs, rfl, .inl (s.l h2), ?_⟩)
        rw [h3.len]
        exact k _ W H _ (Ex.refl s) (.int _) q
  | _ => cases hd
/-- list(x): a new list -/
def RList (ds : List D) (Q : List D → Prop) : Prop := ∃ d xs, ds = [d] ∧ seqD d = some xs ∧ Q xs
theorem s_list : CSndN K (rListK K) RList := fun W H xs ds Q Qh s rr ⟨d, ys, z, hd, q⟩ k => by
  subst z
  obtain ⟨v, rfl, r⟩ := ts1 rr
  obtain ⟨p, vs, h1, h2, h3, h4⟩ := r.seq_inv s hd
  subst h1
  exact ⟨p, vs, rfl, h2, fun l hl => k l vs W _ ys (Ex.hid s hl) hl (s.free hl) upd_same h3 h4 q⟩
/-- tuple(x) -/
def RTuple (ds : List D) (Q : D → Prop) : Prop := ∃ d xs, ds = [d] ∧ seqD d = some xs ∧ Q (.tup xs)
theorem s_tuple : CSnd K (rTupK K) RTuple := fun W H xs ds Q Qh s rr ⟨d, ys, z, hd, q⟩ k => by
  subst z
  obtain ⟨v, rfl, r⟩ := ts1 rr
  cases d with
  | lst es =>
    cases hd
    obtain ⟨p, vs, h1, h2, h3, h4⟩ := r.lst_inv s
    subst h1
    exact ⟨p, vs, rfl, .inl ⟨SqL.of h2, fun l hl => k _ _ _ _ (Ex.new s hl) (.tup upd_same (h3.gx (Gx.new (s.free hl))) h4) q⟩⟩
  | tup es =>
    cases hd
    cases r with
    | val r =>
      cases r with
      | tup h1 h2 h3 => exact ⟨_, _, rfl, .inr ⟨SqT.of (s _ _ h1), k _ W H _ (Ex.refl s) (.tup h1 h2 h3) q⟩⟩
  | _ => cases hd
/-- all, any of truth values -/
def blsD : List D → Option (List Bool)
  | [] => some []
  | .bl b :: ds => (blsD ds).map (b :: ·)
  | _ => none
theorem bls_v {W : Hp} : ∀ {ds : List D} {vs : List V} {bs : List Bool}, RepAll K W vs ds → blsD ds = some bs → vs = bs.map V.bl
  | [], _, _, .nil, h => by cases h; rfl
  | d :: ds, _, bs, .cons r rs, h => by
    cases d with
    | bl b =>
      have h : (blsD ds).map (b :: ·) = some bs := h
      cases q : blsD ds with
      | none => rw [q] at h; cases h
      | some cs =>
        rw [q] at h
        cases h
        cases r
        rw [bls_v rs q]
        rfl
    | _ => cases h
def RAll (ds : List D) (Q : D → Prop) : Prop := ∃ xs bs, ds = [.lst xs] ∧ blsD xs = some bs ∧ Q (.bl (bs.all id))
theorem s_all : CSnd K (rAll K) RAll := fun W H xs ds Q Qh s rr ⟨ys, bs, z, hb, q⟩ k => by
  subst z
  obtain ⟨v, rfl, r⟩ := ts1 rr
  obtain ⟨p, vs, h1, h2, h3, h4⟩ := r.lst_inv s
  subst h1
  exact ⟨p, bs, rfl, by rw [← bls_v h3 hb]; exact SqL.of h2, k _ W H _ (Ex.refl s) (.bl _) q⟩
/-- max, min of two numbers -/
def RMax2 (ds : List D) (Q : D → Prop) : Prop := ∃ i j : Int, ds = [.int i, .int j] ∧ Q (.int (if j > i then j else i))
def RMin2 (ds : List D) (Q : D → Prop) : Prop := ∃ i j : Int, ds = [.int i, .int j] ∧ Q (.int (if j < i then j else i))
theorem s_max2 : CSnd K (fun xs H Q => ∃ i j, xs = [.int i, .int j] ∧ Q (.int (if j > i then j else i)) H) RMax2 := fun W H xs ds Q Qh s rr ⟨i, j, z, q⟩ k => by
  subst z
  obtain ⟨v, v', rfl, r, r'⟩ := ts2 rr
  exact ⟨i, j, by rw [r.int_inv, r'.int_inv], k _ W H _ (Ex.refl s) (.int _) q⟩
theorem s_min2 : CSnd K (fun xs H Q => ∃ i j, xs = [.int i, .int j] ∧ Q (.int (if j < i then j else i)) H) RMin2 := fun W H xs ds Q Qh s rr ⟨i, j, z, q⟩ k => by
  subst z
  obtain ⟨v, v', rfl, r, r'⟩ := ts2 rr
  exact ⟨i, j, by rw [r.int_inv, r'.int_inv], k _ W H _ (Ex.refl s) (.int _) q⟩
def kdD : D → Kd
  | .non => .non
  | .bl _ => .bl
  | .int _ => .int
  | .str _ => .str
  | .lst _ => .lst
  | .tup _ => .tup
  | .dic _ _ => .dic
  | _ => .own
def okI (K : PySem.W.Frag) : D → Prop
  | .obj C _ _ => Own K C
  | .dice => False
  | .cls _ => False
  | .exn _ _ _ _ => False
  | .lsk _ => False
  | .dit _ _ => False
  | _ => True
def seven : List String := ["NoneType", "bool", "int", "str", "list", "tuple", "dict"]
theorem ty_of {H : Hp} {v : V} {d : D} (r : Rep K H v d) (o : okI K d) : (∃ t ∈ seven, TyX K H v (.type t) ∧ (∀ C ns ds, d ≠ .obj C ns ds) ∧ ∀ n ∈ asked, kitB t n = some (kdIs (kdD d) n)) ∨ ∃ C ns ds, d = .obj C ns ds ∧ TyX K H v (.ref C) ∧ Own K C := by
  cases r with
  | non => exact .inl ⟨_, by decide, .base .non, (by intros; simp), show ∀ n ∈ asked, kitB "NoneType" n = some (kdIs .non n) by decide +kernel⟩
  | bl b => exact .inl ⟨_, by decide, .base (.bl b), (by intros; simp), show ∀ n ∈ asked, kitB "bool" n = some (kdIs .bl n) by decide +kernel⟩
  | int i => exact .inl ⟨_, by decide, .base (.int i), (by intros; simp), show ∀ n ∈ asked, kitB "int" n = some (kdIs .int n) by decide +kernel⟩
  | str x => exact .inl ⟨_, by decide, .base (.str x), (by intros; simp), show ∀ n ∈ asked, kitB "str" n = some (kdIs .str n) by decide +kernel⟩
  | lst h _ _ => exact .inl ⟨_, by decide, .base (.lst h), (by intros; simp), show ∀ n ∈ asked, kitB "list" n = some (kdIs .lst n) by decide +kernel⟩
  | tup h _ _ =>
    refine .inl ⟨"tuple", by decide, ?_, (by intros; simp), show ∀ n ∈ asked, kitB "tuple" n = some (kdIs .tup n) by decide +kernel⟩
    exact .base (.tup h)
  | dic h _ _ _ =>
    refine .inl ⟨"dict", by decide, ?_, (by intros; simp), show ∀ n ∈ asked, kitB "dict" n = some (kdIs .dic n) by decide +kernel⟩
    rcases h with h | ⟨o, h⟩
    · exact .base (.dK h)
    · exact .fDict h
  | obj h _ _ => exact .inr ⟨_, _, _, rfl, .base (.ins h o.cl o.ha o.hn o.htk o.hm), o⟩
  | dice => exact o.elim
  | cls => exact o.elim
  | exn => exact o.elim
  | lsk => exact o.elim
  | dit => exact o.elim
def fIsi (K : PySem.W.Frag) (n : String) (F : FE) : FE := fun ρ Q Z => F ρ (fun d => okI K d ∧ Q (.bl (kdIs (kdD d) n))) Z
theorem d_isi {n : String} {y : Str} {p2 : Pos} (hn : n ∈ asked) (hg : Gl X "isinstance") (hm : X.mg "isinstance" = none) (h : PE X e (tDT K E F)) (ht : PE X (.Name y p2) (tC (.ty n))) (hK : X.K = K := by rfl)
    (hs : starEach [e, .Name y p2] X.env = (false, eval e X.env) :: starEach [.Name y p2] X.env := by rfl) (hs2 : starEach [.Name y p2] X.env = [(false, eval (.Name y p2) X.env)] := by rfl) (hpl : (backTo pos (starEach [.Name y p2] X.env)).any (·.1) = false := by rfl) :
    PE X (.Call (.Name "isinstance" p) [e, .Name y p2] [] pos) (tD K E (fIsi K n F)) := by
  refine (pe_callB (kcall_isi hK) hg hm (by decide +kernel) (pa_cons h (pa_cons ht pa_nil hs2) hs) (by decide) (by decide) hs hpl).mono fun σ H Qh ⟨W0, H0, W, ρ, Q, Z, st, f, k, x⟩ => ⟨W0, H0, W, ρ, _, Z, st, f, fun v W1 H1 d e1 r ⟨o, q⟩ => ?_, x⟩
  have fin := k _ W1 H1 _ e1 (.bl _) q
  rcases ty_of (r.full e1.s) o with ⟨t, _, h1, _, h2⟩ | ⟨C, ns, ds, z, h1, h2⟩
  · exact ⟨v, .ty n, .type t, .type n, _, rfl, .ty n, h1, kit_ty (h2 n hn), fin⟩
  · subst z
    refine ⟨v, .ty n, .ref C, .type n, false, rfl, .ty n, h1, h2.no n hn, ?_⟩
    have : kdIs (kdD (.obj C ns ds)) n = false := by
      show kdIs .own n = false
      rfl
    rw [this] at fin
    exact fin
def strsD : List D → Option (List Str)
  | [] => some []
  | .str b :: ds => (strsD ds).map (b :: ·)
  | _ => none
theorem strs_v {W : Hp} : ∀ {ds : List D} {vs : List V} {bs : List Str}, RepAll K W vs ds → strsD ds = some bs → vs = bs.map V.str
  | [], _, _, .nil, h => by cases h; rfl
  | d :: ds, _, bs, .cons r rs, h => by
    cases d with
    | str b =>
      have h : (strsD ds).map (b :: ·) = some bs := h
      cases q : strsD ds with
      | none => rw [q] at h; cases h
      | some cs =>
        rw [q] at h
        cases h
        cases r
        rw [strs_v rs q]
        rfl
    | _ => cases h
theorem strsD_map {α : Type} (f : α → Str) : ∀ l : List α, strsD (l.map fun x => .str (f x)) = some (l.map f)
  | [] => rfl
  | x :: l => by
    show (strsD (l.map fun x => .str (f x))).map (f x :: ·) = _
    rw [strsD_map f l]
    rfl
def fJoin (F G : FE) : FE := fun ρ Q Z => F ρ (fun a => ∃ s, a = .str s ∧ G ρ (fun d => ∃ xs ys, seqD d = some xs ∧ strsD xs = some ys ∧ (ys.map (·.length)).sum + ys.length * s.length ≤ 16777216 ∧ Q (.str (Txt.join s ys))) Z) Z
theorem d_join (ho : PE X o (tD K E F)) (he : PE X e (tDT K E G)) (hK : X.K = K := by rfl) (hs : starEach [e] X.env = [(false, eval e X.env)] := by rfl) (hbase : attributeBase o "join" X.env (eval o X.env) = eval o X.env := by rfl) (hline : (apos.endLine == pos.line) = true := by rfl) :
    PE X (.Call (.Attribute o "join" apos) [e] [] pos) (tD K E (fJoin F G)) := (kpe_join ho he hK hs hbase hline).mono fun σ H Qh ⟨W0, H0, W, ρ, Q, Z, st, f, k, x⟩ => by
  refine ⟨W0, H0, W, ρ, _, Z, st, f, fun v W1 H1 d e1 r ⟨s, z, q⟩ => ?_, x⟩
  subst z
  cases r
  refine ⟨⟨s, rfl⟩, W0, H0, W1, ρ, _, Z, st.ext e1, q, fun v2 W2 H2 d2 e2 r2 ⟨xs, ys, h1, h2, h3, q2⟩ => ?_, x.ext e1⟩
  obtain ⟨p, vs, g1, g2, g3, g4⟩ := r2.seq_inv e2.s h1
  subst g1
  rw [strs_v g3 h2] at g2
  exact ⟨s, p, ys, rfl, rfl, g2, h3, k _ W2 H2 _ (e1.trans e2) (.str _) q2⟩
end
end Pu
set_option Elab.async false
set_option maxRecDepth 100000
set_option linter.all false
namespace Pu
open PySem PySem.Spec PyProof.Rows L2 Ly
section
variable {X : Cx} {K : PySem.W.Frag} {E : XK} {W0 H0 : Hp} {F G L : FE} {T U : FT} {A N : FA} {S S' : FS} {g : Fn} {tg e a b o : Expr} {es : List Expr} {p pos apos : Pos} {i j k n : Nat} {x m f : Str} {C : Addr} {st : Stmt} {body : List Stmt}
theorem d_setLcV {gh : TG} {gg : FG} {vs : List Nat} (gs : GSnd K gh gg vs) (h : PS X st (tAsg (tLc (tDI K E A) gh (tDB K E0 T) (tD K E0 F) vs) (gName i))) : PS X st (tDS K W0 H0 E (sAsg i (fNew (fLc A gg T F vs)))) := h.mono fun D σ H ⟨W, ρ, De, s, q, o⟩ =>
  lc_to (K := K) (E := E) (A := A) (T := T) (F := F) (g := gg) (fun _ _ _ q => q) gs (fun _ _ _ q => q) (fun _ _ _ q => q) ⟨W0, H0, W, ρ, _, _, s, q, fun p vs W' H' ds e hp hw h' r n z =>
    o.nx _ _ _ H' (e.w.trans (Gx.new hw)) ((s.ext (e.see hp hw h')).set (.lst upd_same (r.gx (Gx.new hw)) n)) z, o.xc s⟩
/-- raise C('..') -/
def sRaise (C : Addr) : FS := fun _ De => De.ex (.bare C)
theorem d_raise (h : PS X st (fun _ σ H => E (.ref C) none H)) : PS X st (tDS K W0 H0 E (sRaise C)) := h.mono fun D σ H ⟨W, ρ, De, s, q, o⟩ => o.ex _ _ _ W H s.ex (.bare C) q
/-- an expression whose value is dropped -/
def sDrop (F : FE) : FS := fun ρ De => F ρ (fun _ => De.nx ρ) De.ex
theorem d_drop (h : PE X e (tD K E F)) (hs : swapsWith e none pos.line X.env = pure false := by rfl) : PS X (.Expr e pos) (tDS K W0 H0 E (sDrop F)) := (ps_expr h hs).mono fun D σ H ⟨W, ρ, De, s, q, o⟩ =>
  ⟨W0, H0, W, ρ, _, _, s, q, fun v W' H' d e r z => o.nx W' ρ σ H' e.w (s.ext e) z, o.xc s⟩
end
theorem hr65 {k : Nat} {A : Around} (hr : Room k A) : A.units + 65 < cLine := by have := hr.un; omega
theorem hr1 {k : Nat} {A : Around} (hr : Room k A) : A.units + 1 < cLine := by have := hr.un; omega
end Pu
set_option Elab.async false
set_option maxRecDepth 100000
set_option linter.all false
namespace Pu
open PySem PySem.Spec PyProof.Rows L2 Ly
def keyD : D → Option Key
  | .int i => some (.inl i)
  | .str x => some (.inr x)
  | _ => none
def kD : Key → D
  | .inl i => .int i
  | .inr x => .str x
section
variable {K : PySem.W.Frag} {W H : Hp}
theorem key_v {v : V} {d : D} {k : Key} (r : Rep K W v d) (h : keyD d = some k) : v = kV k := by
  cases r <;> cases h <;> rfl
theorem rep_kV (k : Key) : Rep K W (kV k) (kD k) := by
  cases k with
  | inl i => exact .int i
  | inr x => exact .str x
end
end Pu
set_option Elab.async false
set_option maxRecDepth 100000
set_option linter.all false
namespace Pu
open PySem PySem.Spec PyProof.Rows L2 Ly
section
variable {K : PySem.W.Frag} {E : XK} {F G L Fk Fv : FE} {T : FT} {A : FA} {g : FG} {vs : List Nat}
/-- a comprehension's turns, once its source is there -/
theorem lc_body {gh : TG} {tt : TT} {te : TE} {σ : L2.St} {W0 H0 W1 H1 : Hp} {ρ : Env} {J : It} {ds : List D} {Q : List D → Prop} {Qh : VK} (gs : GSnd K gh g vs) (ht : ∀ σ H Q, tDB K E0 T σ H Q → tt σ H Q) (he : ∀ σ H Q, tD K E0 F σ H Q → te σ H Q)
    (st : Sat K W0 H0 W1 ρ σ H1) (it : IterC K W1 H1 J ds) (hn : ds.length ≤ sizeLine) (q : lcD g T F (wipeB ρ vs) ds Q)
    (k : ∀ p us W' H' es, Ex W1 H1 W' H' → H1 p = none → W' p = none → H' p = some (.lst us) → RepAll K W' us es → us.length ≤ sizeLine → Q es → Qh (.ref p) H') :
    ∀ D, H1 D = none → ∃ W : Nat → Nat → Hp → Prop, (∃ m, W 0 m (upd H1 D (.lst []))) ∧ ∀ i m H, W i m H →
      (J.stop i H ∧ Qh (.ref D) H) ∨ (J.go i H ∧ ∃ Nx : Hp → Prop, (∀ H', Nx H' → ∃ m', m' < m ∧ W (i + 1) m' H') ∧ ∀ x H', J.yld i H x H' → gh x (wipe σ vs) H' fun σ2 H2 => wipe σ2 vs = wipe σ vs ∧ tt σ2 H2 fun b H3 =>
        if b = true then te σ2 H3 fun y H4 => ∃ acc, H4 D = some (.lst acc) ∧ acc.length < sizeLine ∧ Nx (upd H4 D (.lst (acc ++ [y]))) else Nx H3) := by
  obtain ⟨G, Y, hW, hG, hY⟩ := it
  intro Dd hD
  refine lc_it hW (fun i H' => ∃ W' us acc, i ≤ ds.length ∧ Ex W1 H1 W' H' ∧ W' Dd = none ∧ H' Dd = some (.lst us) ∧ RepAll K W' us acc ∧ us.length ≤ i ∧ lcD g T F (wipeB ρ vs) (ds.drop i) fun ys => Q (acc ++ ys)) ?_ ?_ ?_ ?_
  · exact ⟨W1, [], [], Nat.zero_le _, Ex.hid st.see hD, st.see.free hD, upd_same, .nil, Nat.le_refl _, q⟩
  · rintro i H' _ ⟨W', us, acc, _, e2, _⟩
    exact hG H' e2.h
  · rintro i v H3 H4 hi ⟨W3, us, acc, _, e3, hw3, hd3, r3, l3, q3⟩ y
    obtain ⟨W4, d, hd, e4, r4⟩ := hY i H3 v H4 W3 hi e3.h e3.w e3.s y
    have e5 := e3.trans e4
    have hw4 : ∀ {W' H' : Hp}, Ex W3 H3 W' H' → W' Dd = none := fun {W' H'} e => e.hide hw3 hd3 (fun _ z => by cases z)
    have hdr : ds.drop i = d :: ds.drop (i + 1) := by
      rw [List.drop_eq_getElem_cons hi]
      congr 1
      rw [List.getElem?_eq_getElem hi] at hd
      exact Option.some.inj hd
    rw [hdr] at q3
    have stw : Sat K W0 H0 W4 (wipeB ρ vs) (L2.wipe σ vs) H4 := (st.ext e5).wipe vs
    refine gs W0 H0 W4 _ _ H4 v d _ _ stw r4 q3 fun ρ2 σ2 st2 hw2 q4 => ⟨by rw [hw2, wipe_wipe], ?_⟩
    refine ht _ _ _ ⟨W0, H0, W4, ρ2, _, F0, st2, q4, fun b W5 H5 e6 q5 => ?_, xc0⟩
    cases b with
    | true =>
      rw [if_pos rfl] at q5
      refine iteT (he _ _ _ ⟨W0, H0, W5, ρ2, _, F0, st2.ext e6, q5, fun u W6 H6 d6 e7 r6 q6 => ?_, xc0⟩)
      have e8 := (e4.trans e6).trans e7
      have hd6 := e8.h _ _ hd3
      refine ⟨us, hd6, by omega, W6, us ++ [u], acc ++ [d6], hi, Ex.mut (e3.trans e8) hD (hw4 e8), hw4 e8, upd_same, (r3.gx e8.w).app (.one r6), by rw [List.length_append]; show us.length + 1 ≤ i + 1; omega, ?_⟩
      have : (fun ys => Q (acc ++ [d6] ++ ys)) = fun ys => Q (acc ++ (d6 :: ys)) := by
        funext ys
        rw [List.append_assoc]
        rfl
      rw [this]
      exact q6
    | false =>
      rw [if_neg (by decide)] at q5
      have e8 := e4.trans e6
      exact iteF ⟨W5, us, acc, hi, e3.trans e8, hw4 e8, e8.h _ _ hd3, r3.gx e8.w, by omega, q5⟩
  · rintro H3 ⟨W3, us, acc, _, e3, hw3, hd3, r3, l3, q3⟩
    rw [List.drop_length] at q3
    have q3 : Q (acc ++ []) := q3
    rw [List.append_nil] at q3
    exact k Dd us W3 H3 acc e3 hD hw3 hd3 r3 (by omega) q3
end
section
variable {K : PySem.W.Frag} {E : XK} {F G L Fk Fv : FE} {T : FT} {A : FA} {g : FG} {vs : List Nat} {te : TE} {f : Str} {i : Nat}
/-- with a dict locked or unlocked -/
def lk (d : Addr) (u : HO) (H : Hp) : Hp := fun a => if a = d then (H d).map fun _ => u else H a
theorem lk_at {d : Addr} {u o : HO} {H : Hp} (h : H d = some o) : lk d u H = upd H d u := by
  funext a
  unfold lk upd
  by_cases q : a = d
  · rw [if_pos q, if_pos q, h]
    rfl
  · rw [if_neg q, if_neg q]
theorem lk_ne {d a : Addr} {u : HO} {H : Hp} (h : a ≠ d) : lk d u H a = H a := if_neg h
theorem lk_none {d a : Addr} {u : HO} {H : Hp} : lk d u H a = none ↔ H a = none := by
  unfold lk
  by_cases q : a = d
  · rw [if_pos q, q]
    cases H d <;> simp
  · rw [if_neg q]
theorem lk_gx {d : Addr} {u : HO} {W H : Hp} (e : Gx W H) : Gx (lk d u W) (lk d u H) := fun a o h => by
  by_cases q : a = d
  · subst q
    unfold lk at h ⊢
    rw [if_pos rfl] at h ⊢
    cases z : W a with
    | none => rw [z] at h; cases h
    | some o' =>
      rw [z] at h
      rw [e _ _ z]
      exact h
  · rw [lk_ne q] at h ⊢
    exact e _ _ h
theorem lk_ex {d : Addr} {u : HO} {W H W' H' : Hp} (hd : ∀ vs, H' d ≠ some (.tup vs)) (e : Ex W H W' H') : Ex (lk d u W) (lk d u H) (lk d u W') (lk d u H') := ⟨lk_gx e.h, lk_gx e.w, lk_gx e.s, fun a o h => by
  by_cases q : a = d
  · subst q
    unfold lk at h
    rw [if_pos rfl] at h
    cases z : W' a with
    | none => rw [z] at h; cases h
    | some o' =>
      rw [z] at h
      cases h
      rcases e.n _ _ z with z2 | z2 | ⟨vs, z2⟩
      · left
        unfold lk
        rw [if_pos rfl, z2]
        rfl
      · exact .inr (.inl (lk_none.mpr z2))
      · exact absurd (by rw [← z2]; exact e.s _ _ z) (hd vs)
  · rw [lk_ne q] at h ⊢
    unfold Nw
    rw [lk_ne q]
    exact e.n _ _ h⟩
variable {mk : Addr → Obj → List (Key × V) → It} {its : List Key → List D → List D}
end
theorem _root_.L2.PE.or {X : Cx} {e : Expr} {t u : TE} (h : PE X e t) (h2 : PE X e u) : PE X e (fun σ H Q => t σ H Q ∨ u σ H Q) := ⟨fun pins s σ H Q I q => by
  rcases q with q | q
  · exact h.run pins s σ H Q I q
  · exact h2.run pins s σ H Q I q⟩
end Pu
set_option Elab.async false
set_option maxRecDepth 100000
set_option linter.all false
namespace Pu
open PySem PySem.Spec PyProof.Rows L2 Ly
end Pu
set_option Elab.async false
set_option maxRecDepth 100000
set_option maxHeartbeats 1000000
namespace TM
open PySem L2 Ly
mutual
def PT (H : Hp) : Tr → V → Prop
  | .nd w ts, v => ∃ p q vs, v = .ref p ∧ H p = some (.tup [.str w, .ref q]) ∧ H q = some (.tup vs) ∧ PTL H ts vs
def PTL (H : Hp) : List Tr → List V → Prop
  | [], vs => vs = []
  | t :: ts, vs => ∃ v r, vs = v :: r ∧ PT H t v ∧ PTL H ts r
end
mutual
theorem PT.firm {H H' : Hp} (e : Kx H H') (t : Tr) : ∀ v, PT H t v → PT H' t v := by
  cases t with
  | nd w ts =>
    intro v h
    unfold PT at h ⊢
    obtain ⟨p, q, vs, z, h1, h2, h3⟩ := h
    exact ⟨p, q, vs, z, e.tup h1, e.tup h2, PTL.firm e ts vs h3⟩
theorem PTL.firm {H H' : Hp} (e : Kx H H') (ts : List Tr) : ∀ vs, PTL H ts vs → PTL H' ts vs := by
  cases ts with
  | nil =>
    intro vs h
    unfold PTL at h ⊢
    exact h
  | cons t ts =>
    intro vs h
    unfold PTL at h ⊢
    obtain ⟨v, r, z, h1, h2⟩ := h
    exact ⟨v, r, z, PT.firm e t v h1, PTL.firm e ts r h2⟩
end
theorem PT.gx {H H' : Hp} (e : Gx H H') {t : Tr} {v : V} (h : PT H t v) : PT H' t v := PT.firm e.k t v h
theorem PTL.gx {H H' : Hp} (e : Gx H H') {ts : List Tr} {vs : List V} (h : PTL H ts vs) : PTL H' ts vs := PTL.firm e.k ts vs h
theorem PT.ex {H : Hp} {w : Str} {ts : List Tr} {v : V} (h : PT H (.nd w ts) v) : ∃ p q vs, v = .ref p ∧ H p = some (.tup [.str w, .ref q]) ∧ H q = some (.tup vs) ∧ PTL H ts vs := by
  unfold PT at h
  exact h
theorem PTL.nil {H : Hp} : PTL H [] [] := by
  unfold PTL
  rfl
theorem PTL.cons {H : Hp} {t : Tr} {ts : List Tr} {v : V} {vs : List V} (h : PT H t v) (k : PTL H ts vs) : PTL H (t :: ts) (v :: vs) := by
  unfold PTL
  exact ⟨v, vs, rfl, h, k⟩
theorem PTL.len {H : Hp} : ∀ {ts : List Tr} {vs : List V}, PTL H ts vs → vs.length = ts.length
  | [], vs, h => by
    unfold PTL at h
    rw [h]
    rfl
  | t :: ts, vs, h => by
    unfold PTL at h
    obtain ⟨v, r, rfl, _, h⟩ := h
    rw [List.length_cons, List.length_cons, PTL.len h]
theorem PTL.get {H : Hp} : ∀ {ts : List Tr} {vs : List V}, PTL H ts vs → ∀ {i : Nat} {v : V}, vs[i]? = some v → ∃ t, ts[i]? = some t ∧ PT H t v
  | [], vs, h, i, v, q => by
    unfold PTL at h
    subst h
    cases q
  | t :: ts, vs, h, i, v, q => by
    unfold PTL at h
    obtain ⟨x, r, rfl, h1, h2⟩ := h
    cases i with
    | zero => cases q; exact ⟨t, rfl, h1⟩
    | succ i => exact PTL.get h2 (i := i) q
theorem PTL.of {H : Hp} {P : Tr → Prop} : ∀ {vs : List V}, (∀ v ∈ vs, ∃ t, PT H t v ∧ P t) → ∃ ts, PTL H ts vs ∧ ∀ t ∈ ts, P t
  | [], _ => ⟨[], PTL.nil, fun t h => by cases h⟩
  | v :: vs, h => by
    obtain ⟨t, h1, h2⟩ := h v (List.mem_cons_self ..)
    obtain ⟨ts, h3, h4⟩ := PTL.of fun u hu => h u (List.mem_cons_of_mem _ hu)
    refine ⟨t :: ts, h3.cons h1, fun u hu => ?_⟩
    rcases List.mem_cons.mp hu with rfl | hu
    · exact h2
    · exact h4 u hu
/-- words of a table, or leaves -/
def Fit (D : List Nd) (ls : List Str) (t : Tr) : Prop := ∀ n ∈ t.nodes, n ∈ D ∨ (n.1 ∈ ls ∧ n.2 = 0)
theorem mem_nodesL {n : Nd} : ∀ {ts : List Tr}, n ∈ nodesL ts → ∃ t ∈ ts, n ∈ t.nodes
  | t :: ts, h => by
    rcases List.mem_append.mp (show n ∈ t.nodes ++ nodesL ts from h) with q | q
    · exact ⟨t, List.mem_cons_self .., q⟩
    · obtain ⟨u, h1, h2⟩ := mem_nodesL q
      exact ⟨u, List.mem_cons_of_mem _ h1, h2⟩
theorem Fit.nd {D : List Nd} {ls : List Str} {w : Str} {ts : List Tr} (h : (w, ts.length) ∈ D ∨ (w ∈ ls ∧ ts.length = 0)) (k : ∀ t ∈ ts, Fit D ls t) : Fit D ls (.nd w ts) := fun n hn => by
  rcases List.mem_cons.mp (show n ∈ (w, ts.length) :: nodesL ts from hn) with rfl | q
  · exact h
  · obtain ⟨t, h1, h2⟩ := mem_nodesL q
    exact k t h1 n h2
end TM
namespace TM
open PySem L2 Ly
def LstE (xs : List V) : Ty := fun v H => ∃ p, v = .ref p ∧ H p = some (.lst xs)
theorem LstE.mono {xs : List V} : Mono (LstE xs) := fun _ _ _ e ⟨p, z, h⟩ => ⟨p, z, e _ _ h⟩
end TM
namespace TM
open PySem L2 Ly
end TM
namespace Ly
open PySem L2
end Ly
set_option Elab.async false
set_option maxRecDepth 100000
set_option linter.all false
namespace Pu
open PySem PySem.Spec PyProof.Rows L2 Ly
end Pu
set_option Elab.async false
set_option maxRecDepth 100000
set_option linter.all false
namespace Pu
open PySem PySem.Spec PyProof.Rows L2 Ly
section
variable {P : Program} {w : World} {K : PySem.W.Frag} {mg : Str → Option Value} {base : Heap} {k : Nat} {f : Addr} {fd : FuncData} {ps : List Str}
def FRoll : Fn := fun ds Q _ => ∃ t : Int, ds = [.dice, .int t] ∧ 0 < t ∧ t < 1073741824 ∧ ∀ r, 0 ≤ r → r < t → Q (.int r)
def FPick : Fn := fun ds Q _ => ∃ xs : List D, ds = [.dice, .lst xs] ∧ 0 < xs.length ∧ xs.length < 1073741824 ∧ ∀ x ∈ xs, Q x
def FDice : Fn := fun ds Q _ => ∃ (ns : List Int) (n : Nat), ds = [.lsk (ns.map .int), .int (n : Int)] ∧ Q .dice
theorem dice_v {W : Hp} {v : V} (h : Rep K W v .dice) : ∃ a, v = .ref a ∧ W a = some (diceO a) := by
  cases h with
  | dice h => exact ⟨_, rfl, h⟩
theorem all_get {W : Hp} : ∀ {vs : List V} {ds : List D}, RepAll K W vs ds → ∀ (j : Nat) (v : V), vs[j]? = some v → ∃ d, d ∈ ds ∧ Rep K W v d
  | [], _, _, j, v, h => by simp at h
  | u :: vs, _, .cons r rs, 0, v, h => by
    cases h
    exact ⟨_, List.mem_cons_self .., r⟩
  | u :: vs, _, .cons r rs, j + 1, v, h => by
    obtain ⟨d, h1, h2⟩ := all_get rs j v (by simpa using h)
    exact ⟨d, List.mem_cons_of_mem _ h1, h2⟩
theorem all_len {W : Hp} : ∀ {vs : List V} {ds : List D}, RepAll K W vs ds → vs.length = ds.length
  | _, _, .nil => rfl
  | _, _, .cons r rs => by rw [List.length_cons, List.length_cons, all_len rs]
theorem fn_roll (F : FnOk P w K mg base CX0 k f fd ps spRoll) : FnOk P w K mg base (L2.CX P w) k f fd ps (spD K 2 FRoll) := (fn_cx F).imp fun vs H Qh E ⟨W, ds, Q, Z, s, r, hl, ⟨t, z, h1, h2, q⟩, kk, _⟩ => by
  subst z
  cases r with
  | cons r1 r =>
    cases r with
    | cons r2 r =>
      cases r
      cases r2
      obtain ⟨a, rfl, ha⟩ := dice_v r1
      exact ⟨a, t, rfl, h1, h2, s _ _ ha, fun r g1 g2 => kk _ W H _ (Ex.refl s) (.int r) (q r g1 g2)⟩
theorem fn_pick (F : FnOk P w K mg base CX0 k f fd ps (spPick K)) : FnOk P w K mg base (L2.CX P w) k f fd ps (spD K 2 FPick) := (fn_cx F).imp fun vs H Qh E ⟨W, ds, Q, Z, s, r, hl, ⟨xs, z, h1, h2, q⟩, kk, _⟩ => by
  subst z
  cases r with
  | cons r1 r =>
    cases r with
    | cons r2 r =>
      cases r
      obtain ⟨a, rfl, ha⟩ := dice_v r1
      cases r2 with
      | @lst b us _ g1 g2 g3 =>
        have hlen := all_len g2
        exact ⟨a, b, us, rfl, s _ _ ha, SqL.of (s _ _ g1), by omega, by omega, fun j x hx => by
          obtain ⟨d, e1, e2⟩ := all_get g2 j x hx
          exact kk _ W H _ (Ex.refl s) e2 (q d e1)⟩
theorem ints_w {W : Hp} : ∀ {vs : List V} {ns : List Int}, RepAll K W vs (ns.map D.int) → vs = ns.map V.int
  | [], [], _ => rfl
  | v :: vs, z :: zs, .cons r rs => by
    cases r
    rw [ints_w rs]
    rfl
  | [], z :: zs, h => by cases h
  | v :: vs, [], h => by cases h
theorem v_ints {W : Hp} : ∀ ns : List Int, RepAll K W (ns.map V.int) (ns.map D.int)
  | [] => .nil
  | z :: zs => .cons (.int z) (v_ints zs)
theorem fn_diceD (F : FnOk P w K mg base CX0 k f fd ps (spDice K)) : FnOk P w K mg base (L2.CX P w) k f fd ps (spD K 2 FDice) := (fn_cx F).imp fun vs H Qh E ⟨W, ds, Q, Z, s, r, hl, ⟨ns, n, z, q⟩, kk, _⟩ => by
  subst z
  cases r with
  | cons r1 r =>
    cases r with
    | cons r2 r =>
      cases r
      cases r2
      cases r1 with
      | @lsk a us _ h1 h2 h3 =>
        rw [ints_w h2] at h1
        exact ⟨a, ns, n, rfl, s.l h1, fun p hp => kk _ _ _ _ (Ex.new s hp) (.dice upd_same) q⟩
end
end Pu
set_option Elab.async false
set_option maxRecDepth 100000
set_option linter.all false
namespace Pu
open PySem PySem.Spec PyProof.Rows L2 Ly
/-- one clause: its class, the slot of its name, its suite -/
structure Cl where
  c : Value
  nm : Option Nat
  ts : Addr → Value → Option Addr → TS
def shut (D : Ends) : Option Nat → Ends
  | none => D
  | some i => { nx := fun σ H => D.nx (σ.set i none) H, rt := D.rt, bk := fun σ H => D.bk (σ.set i none) H, ct := fun σ H => D.ct (σ.set i none) H }
def put1 (a : Addr) : Option Nat → L2.St → L2.St
  | none, σ => σ
  | some i, σ => σ.set i (some (.ref a))
def wCls (K : PySem.W.Frag) (Wo : WX) (D : Ends) : List Cl → WX
  | [] => Wo
  | q :: r => fun cls d σ H => ∃ b, PySem.W.exmOne K cls q.c = some b ∧ (b = true → ∀ a, H a = none → q.ts a cls d (shut D q.nm) (put1 a q.nm σ) H) ∧ (b = false → wCls K Wo D r cls d σ H)
def NmOk (X : Cx) : Option Str → Option Nat → Prop
  | none, none => True
  | some n, some i => X.N[i]? = some n ∧ X.env.kindOf n = some .local
  | _, _ => False
inductive ClsOk (X : Cx) : List ExceptHandler → List Cl → Prop
  | nil : ClsOk X [] []
  | cons {x : Str} {q : Cl} {n : Option Str} {b1 : Stmt} {su : List Stmt} {p1 p2 : Pos} {hs : List ExceptHandler} {qs : List Cl} (hc : Names X x q.c) (hn : NmOk X n q.nm)
      (hsu : ∀ (a : Addr) (ob : Obj) (cls : Value) (d : Option Addr) (pn : List (Addr × Obj)), Zc cls d ob → (∃ fs, ob.data = .fields fs) → PSs (X.suite a ((a, ob) :: pn)) (b1 :: su) (q.ts a cls d)) (r : ClsOk X hs qs) :
      ClsOk X (.ExceptHandler (some (.Name x p1)) n (b1 :: su) p2 :: hs) (q :: qs)
section
variable {X : Cx} {body : List Stmt} {h1 : ExceptHandler} {hs : List ExceptHandler} {qs : List Cl} {pos : Pos} {tb : WX → TS} {Wo : WX}
theorem ps_tries (st : X.stack = X.env :: X.outer) (fr : X.env.frame = some X.env.locals) (nd : X.N.Nodup) (tk : Takes X Wo)
    (hb : ∀ (W : WX) (pn : List (Addr × Obj)) (xe : Value → Shared → Prop), Takes (X.tr pn xe) W →
      PassesOwn (model X.prog X.w) X.A X.env xe → PSs (X.tr pn xe) body (tb W))
    (hh : ClsOk X (h1 :: hs) qs) : PS X (.Try body (h1 :: hs) [] [] pos) (fun D σ H => tb (wCls X.K Wo D qs) D σ H) := by
  refine ⟨fun pins s σ H D I h => ?_⟩
  have ok := I.ok
  have frs' : X.A.frames = some (X.env :: X.outer) := ok.frames.trans (congrArg some st)
  refine wpAny_Try_except ?_
  refine wpAny_mono ((hb (wCls X.K Wo D qs) (X.pn ++ pins) _ (fun u z caught => ?_) PassesOwn.looking).run [] s σ H D (I.toTry _) h) (fun fl z done => ?_) (fun _ _ y => y)
  · obtain ⟨a, B, z0, pins', σ', H', cls, d, rfl, J', nb, up, sky, na, os, ag, wish⟩ := caught
    have J : Inv X pins σ' H' z0 := J'.ofTry ok
    have sky2 : Sky B (X.env :: X.outer) a (Zc cls d) X.env.locals z.heap := st ▸ sky
    show wpAny (model X.prog X.w) X.A (noteFrame (.ref a) X.env) _ _ _
    refine Sky.land Zc.steady frs' fr sky2 fun g3 fl3 up3 => ?_
    have J3 : Inv X pins σ' H' { z with heap := g3 } :=
      J.landed nb fl3.1 (up.trans up3) os ag
    obtain ⟨ob3, fs3, at3, zc3, dt3⟩ := fl3.there
    have off : a ∉ frs (X.env :: X.outer) := fun hm => by
      obtain ⟨_, ob', at', no⟩ := fl3.2.2.1.mem hm
      rw [at3] at at'
      cases at'
      exact no _ dt3
    have nL : a ≠ X.env.locals := fun y => off (List.mem_filterMap.mpr ⟨X.env, List.mem_cons_self, fr.trans (congrArg some y.symm)⟩)
    have nF : a ∉ X.fs := fun hm => by
      obtain ⟨e, he, q⟩ := List.mem_filterMap.mp hm
      exact off (List.mem_filterMap.mpr ⟨e, List.mem_cons_of_mem _ he, q⟩)
    have S3 := J3.suite at3 dt3 na nL nF
    have go : ∀ {hs' : List ExceptHandler} {qs' : List Cl}, ClsOk X hs' qs' → wCls X.K Wo D qs' cls d σ' H' →
        wpAny (model X.prog X.w) X.A (handleBy (.ref a) X.env hs') (SP X pins D) X.xe { z with heap := g3 } := by
      intro hs' qs' hk
      induction hk with
      | nil =>
        intro wi
        refine wpAny_handleBy_nil ?_
        obtain ⟨_, _, _, ob, fs, T, _, _, at_, _, dt, f1, _⟩ := id fl3
        unfold PySem.passOn
        refine wpAny_bind (wpAny_field at_ dt f1 ?_)
        rw [if_neg (show ¬ (Value.ref T == Value.none) = true by simp)]
        have fin : wpAny (model X.prog X.w) X.A (setFlight (.ref a) X.env.frame)
            (fun _ y => wpAny (model X.prog X.w) X.A (throw (.ref a) : Sem Flow) (SP X pins D) X.xe y) X.xe { z with heap := g3 } := by
          rw [fr]
          refine HandSPX.setFlight_upZ fl3 fun g4 hh4 up4 => wpAny_throw (tk _ _ ?_)
          exact ⟨a, B, z0, pins, σ', H', cls, d, rfl, J, nb, (up.trans up3).trans up4, .inr (.inr (st ▸ hh4)), na, os, ag, wi⟩
        first
          | exact wpAny_bind (wpAny_pure (wpAny_bind fin))
          | exact wpAny_bind fin
      | @cons x q n b1 su p1 p2 hs2 qs2 hc hn hsu r ih =>
        intro wi
        obtain ⟨b, hb1, hyes, hno⟩ := wi
        refine wpAny_handleBy_cons (codeAny_handlers_test ?_) (by intro y; cases y)
        have LT : PySem.W.Looks (model X.prog X.w) g3 (typeOf (.ref a)) cls :=
          fun _ _ _ _ k y => wpAny_typeOf_ref (k _ _ at3) (zc3.1.symm ▸ y)
        have LM := PySem.W.exm_one (M := model X.prog X.w) J3.kIn LT hb1
        have test : ∀ {Q : Value → Shared → Prop} {E : Value → Shared → Prop}, Q q.c { z with heap := g3 } →
            wpAny (model X.prog X.w) (X.A.mark (some (.ref a))) (eval (.Name x p1) X.env) Q E { z with heap := g3 } := fun {Q E} y => by
          obtain ⟨hg, hdb, hm | ⟨hm, hv, hnn⟩⟩ := hc
          · exact ld_glob (X := X.suite a ((a, ob3) :: (X.pn ++ pins))) S3 hg hm y hdb
          · exact ld_blt (X := X.suite a ((a, ob3) :: (X.pn ++ pins))) S3 hg hm hv y hnn hdb
        refine test (LM.here ?_)
        cases b with
        | false =>
          show wpAny _ X.A (handleBy (.ref a) X.env hs2) _ _ _
          exact ih (hno rfl)
        | true =>
          have wy := hyes rfl a na
          revert hn hsu wy
          obtain ⟨qc, qn, qt⟩ := q
          dsimp only
          intro hn hsu wy
          cases qn with
          | none =>
            cases n with
            | some n => exact hn.elim
            | none =>
            refine codeAny_handlers_suite ?_
            refine HandSPX.lands_againZ fl3 fun g4 fl4 up4 => ?_
            have J4 : Inv X pins σ' H' { z with heap := g4 } :=
              J.landed nb fl4.1 ((up.trans up3).trans up4) os ag
            obtain ⟨ob4, fs4, at4, zc4, dt4⟩ := fl4.there
            have S4 := J4.suite at4 dt4 na nL nF
            refine wpAny_mono ((hsu a ob4 cls d (X.pn ++ pins) zc4 ⟨_, dt4⟩).run [] _ _ H' _ S4 wy) (fun f y dn => ?_) (fun _ _ y => False.elim y)
            cases f with
            | ret u =>
              obtain ⟨v6, σ6, H6, S6, r6, q6⟩ := dn
              exact ⟨v6, σ6, H6, S6.unsuite ok, r6, q6⟩
            | _ =>
              obtain ⟨σ6, H6, S6, q6⟩ := dn
              exact ⟨σ6, H6, S6.unsuite ok, q6⟩
          | some i =>
            cases n with
            | none => exact hn.elim
            | some n =>
            obtain ⟨hi, hln⟩ := hn
            refine codeAny_handlers_suite_as ?_
            refine HandSPX.lands_againZ fl3 fun g4 fl4 up4 => ?_
            have J4 : Inv X pins σ' H' { z with heap := g4 } :=
              J.landed nb fl4.1 ((up.trans up3).trans up4) os ag
            obtain ⟨ob4, fs4, at4, zc4, dt4⟩ := fl4.there
            have S4 := J4.suite at4 dt4 na nL nF
            refine store_ok (X := X.suite a ((a, ob4) :: (X.pn ++ pins))) (v := .ref a) S4 nd hi (.inl hln) rfl (fun z5 S5 => ?_) (.inr hln)
            refine wpAny_mono ((hsu a ob4 cls d (X.pn ++ pins) zc4 ⟨_, dt4⟩).run [] z5 _ H' _ S5 wy) (fun f y dn => ?_) (fun _ _ y => False.elim y)
            have fin : ∀ {σ6 : L2.St} {H6 : Hp} {R : Shared → Prop}, Inv (X.suite a ((a, ob4) :: (X.pn ++ pins))) [] σ6 H6 y → (∀ z7, Inv X pins (σ6.set i none) H6 z7 → R z7) →
                wpAny (model X.prog X.w) X.A (do bindName X.env n .none; unbindBehindTheSuite X.env n p2) (fun _ z7 => R z7) X.xe y :=
              fun S6 hq => gone_ok (S6.unsuite ok) nd hi hln hq
            cases f with
            | ret u =>
              obtain ⟨v6, σ6, H6, S6, r6, q6⟩ := dn
              exact fin S6 fun z7 J7 => ⟨_, _, _, J7, r6, q6⟩
            | _ =>
              obtain ⟨σ6, H6, S6, q6⟩ := dn
              exact fin S6 fun z7 J7 => ⟨_, _, J7, q6⟩
    exact go hh wish
  · cases fl with
    | next =>
      obtain ⟨σ', H', J', y⟩ := done
      exact wpAny_execs_nil ⟨σ', H', J'.ofTry ok, y⟩
    | ret u =>
      obtain ⟨v, σ', H', J', r, y⟩ := done
      exact ⟨v, σ', H', J'.ofTry ok, r, y⟩
    | _ =>
      obtain ⟨σ', H', J', y⟩ := done
      exact ⟨σ', H', J'.ofTry ok, y⟩
end
end Pu
set_option Elab.async false
set_option maxRecDepth 100000
set_option linter.all false
namespace Pu
open PySem PySem.Spec PyProof.Rows L2 Ly
/-- a clause -/
structure HC where
  C : Addr
  nm : Option Nat
  S : Exn → Addr → Value → Option Addr → FS
def exC : Exn → Addr
  | .bare C => C
  | .kept C _ _ => C
def exV (a : Addr) (d : Option Addr) : Exn → D
  | .bare _ => .cls a
  | .kept _ ns ds => .exn a (d.getD 0) ns ds
def slotE (n : Nat) (a : Addr) (d : Option Addr) (x : Exn) : Option Nat → Pu.Env
  | none => List.replicate n .un
  | some i => (List.replicate n .un).set i (.val (exV a d x))
def backE (De : EndsD) : EndsD := { nx := fun _ => False, rt := De.rt, ex := fun _ => False }
def xShape : Exn → Value → Option Addr → Prop
  | .bare C, cls, d => cls = .ref C ∧ d = none
  | .kept C _ _, cls, d => cls = .ref C ∧ ∃ dd, d = some dd
def hchain (K : PySem.W.Frag) (n : Nat) (De : EndsD) : List HC → ZX
  | [] => De.ex
  | q :: r => fun x => ∃ b, PySem.W.exmOne K (.ref (exC x)) (.ref q.C) = some b ∧ if b = true then ∀ a cls d, xShape x cls d → q.S x a cls d (slotE n a d x q.nm) (backE De) else hchain K n De r x
def sTry (K : PySem.W.Frag) (S : FS) (hs : List HC) : FS := fun ρ De => S ρ { De with ex := hchain K ρ.length De hs }
section
variable {X : Cx} {K : PySem.W.Frag} {E : XK} {W0 H0 : Hp}
def tDH (K : PySem.W.Frag) (W0 H0 : Hp) (E : XK) (q : HC) (a : Addr) (cls : Value) (d : Option Addr) : TS := fun Dh σ H => ∃ x, tDS K W0 H0 E (q.S x a cls d) Dh σ H
def clOf (K : PySem.W.Frag) (W0 H0 : Hp) (E : XK) (q : HC) : Cl := ⟨.ref q.C, q.nm, tDH K W0 H0 E q⟩
theorem pss_ex {α : Type} {X : Cx} {su : List Stmt} {t : α → TS} (h : ∀ x, PSs X su (t x)) : PSs X su (fun D σ H => ∃ x, t x D σ H) := ⟨fun pins s σ H D I ⟨x, q⟩ => (h x).run pins s σ H D I q⟩
inductive HcOk (X : Cx) (K : PySem.W.Frag) (W0 H0 : Hp) (E : XK) : List ExceptHandler → List HC → Prop
  | nil : HcOk X K W0 H0 E [] []
  | cons {x : Str} {q : HC} {n : Option Str} {b1 : Stmt} {su : List Stmt} {p1 p2 : Pos} {hs : List ExceptHandler} {qs : List HC} (hc : Names X x (.ref q.C)) (hn : NmOk X n q.nm)
      (hsu : ∀ (a : Addr) (ob : Obj) (cls : Value) (d : Option Addr) (pn : List (Addr × Obj)), Zc cls d ob → (∃ fs, ob.data = .fields fs) → ∀ x, PSs (X.suite a ((a, ob) :: pn)) (b1 :: su) (tDS K W0 H0 E (q.S x a cls d))) (r : HcOk X K W0 H0 E hs qs) :
      HcOk X K W0 H0 E (.ExceptHandler (some (.Name x p1)) n (b1 :: su) p2 :: hs) (q :: qs)
theorem HcOk.cls : ∀ {hs : List ExceptHandler} {qs : List HC}, HcOk X K W0 H0 E hs qs → ClsOk X hs (qs.map (clOf K W0 H0 E))
  | _, _, .nil => .nil
  | _, _, .cons hc hn hsu r => .cons (q := clOf K W0 H0 E _) hc hn (fun a ob cls d pn z f => pss_ex (hsu a ob cls d pn z f)) r.cls
theorem rep_un {n : Nat} {σ : L2.St} {W H : Hp} (e : Pu.Ex W0 H0 W H) (hl : σ.length = n) : Sat K W0 H0 W (List.replicate n .un) σ H := by
  refine ⟨e, by rw [List.length_replicate]; exact hl, fun _ => none, fun _ _ _ z => (by cases z), fun i b hb => ?_⟩
  have hi : i < n := by
    have := (List.getElem?_eq_some_iff.mp hb).1
    rw [List.length_replicate] at this
    exact this
  rw [List.getElem?_replicate_of_lt hi] at hb
  cases hb
  exact ⟨_, List.getElem?_eq_getElem (by rw [hl]; exact hi), rfl⟩
theorem xrep_v {W : Hp} {x : Exn} {cls : Value} {d : Option Addr} (r : XRep K W x cls d) (a : Addr) : cls = .ref (exC x) ∧ xShape x cls d ∧ Rep K W (.ref a) (exV a d x) := by
  cases r with
  | bare C => exact ⟨rfl, ⟨rfl, rfl⟩, .cls a⟩
  | kept h1 h2 h3 => exact ⟨rfl, ⟨rfl, _, rfl⟩, .exn h1 h2 h3⟩
theorem chain_w {n : Nat} {De : EndsD} {Dh : Ends} {W : Hp} (ok : Ok K W0 H0 E W De Dh) {x : Exn} {cls : Value} {dd : Option Addr} {W' H' : Hp} (e : Pu.Ex W0 H0 W' H') (r : XRep K W' x cls dd) {σ : L2.St} (hl : σ.length = n) :
    ∀ {hs : List HC}, hchain K n De hs x → wCls K (fun cls d _ H => E cls d H) Dh (hs.map (clOf K W0 H0 E)) cls dd σ H'
  | [], h => ok.ex x cls dd W' H' e r h
  | q :: hs, ⟨b, hb, h⟩ => by
    refine ⟨b, by rw [(xrep_v r 0).1]; exact hb, fun z a ha => ?_, fun z => ?_⟩
    · subst z
      rw [if_pos rfl] at h
      obtain ⟨_, sh, rv⟩ := xrep_v r a
      refine ⟨x, W', slotE n a dd x q.nm, backE De, ?_, h a cls dd sh, ⟨fun _ _ _ _ _ _ z => z.elim, fun v W2 H2 d e2 r2 z => ?_, (fun _ _ _ _ _ _ z => z.elim), (fun _ _ _ _ _ _ z => z.elim), fun _ _ _ _ _ _ _ z => z.elim⟩⟩
      · show Sat K W0 H0 W' (slotE n a dd x q.nm) (put1 a q.nm σ) H'
        cases q.nm with
        | none => exact rep_un e hl
        | some i => exact (rep_un e hl).set rv
      · show (shut Dh q.nm).rt v H2
        cases q.nm with
        | none => exact ok.rt v W2 H2 d e2 r2 z
        | some i => exact ok.rt v W2 H2 d e2 r2 z
    · subst z
      rw [if_neg (by decide)] at h
      exact chain_w ok e r hl h
/-- error.f -/
def fXf (cls : Value) (d : Option Addr) (C : Addr) (a : Addr) (f : Str) (F : FE) : FE := fun ρ Q Z => F ρ (fun v => ∃ dd ns ds u, v = .exn a dd ns ds ∧ cls = .ref C ∧ d = some dd ∧ lookD ns ds f = some u ∧ Q u) Z
theorem d_xf {a C : Addr} {oe : Obj} {cls : Value} {d : Option Addr} {pn : List (Addr × Obj)} {e : Expr} {F : FE} {pos : Pos} {n : Str} (T : XfC X.K C) (hno : PySem.W.findIn X.K (.ref C) n = some none) (hz : Zc cls d oe) (hf : ∃ vs, oe.data = .fields vs)
    (he : PE (X.suite a ((a, oe) :: pn)) e (tD K E F)) (hb : attributeBase e n X.env (eval e X.env) = eval e X.env := by rfl) : PE (X.suite a ((a, oe) :: pn)) (.Attribute e n pos) (tD K E (fXf cls d C a n F)) :=
  (pe_xf T hno hz hf he hb).mono fun σ H Qh ⟨W0, H0, W, ρ, Q, Z, st, f, k, x⟩ => ⟨W0, H0, W, ρ, _, Z, st, f, fun v W1 H1 d e1 r ⟨dd, ns, ds, u, z, hc, hd, hl, q⟩ => by
    subst z
    cases r with
    | @exn _ _ fs _ _ h1 h2 h3 =>
      subst h2
      obtain ⟨v, h4, h5⟩ := look_v h3 hl
      exact ⟨rfl, hc, dd, fs, v, hd, e1.s _ _ h1, h4, k v W1 H1 u e1 h5 q⟩, x⟩
end
/-- what is known of a class of errors whose field f is read -/
structure ErF (K : PySem.W.Frag) (C : Addr) (f : Str) : Prop where
  xf : XfC K C
  no : PySem.W.findIn K (.ref C) f = some none
def spXi (C : Addr) (f : Str) : Sp := fun vs H Q _ => ∃ a v, vs = [.ref a, v] ∧ H a = some (exo a C none) ∧ ∀ dx, H dx = none → dx ≠ a → Q .non (upd (upd H dx (exd dx [(f, v)])) a (exo a C (some dx)))
structure CalX (P : Program) (w : World) (K : PySem.W.Frag) (mg : Str → Option Value) (base : Heap) (x : Str) (C : Addr) (k : Nat) (f : Str) : Prop where
  o : OexC K C
  g : mg x = some (.ref C)
  ex : ∃ (fI : Addr) (fd : FuncData) (ps : List Str), PySem.W.findIn K (.ref C) "__init__" = some (some (.ref fI)) ∧ PySem.W.typeIn K (.ref fI) = some (.type "function") ∧ FnOk P w K mg base CX0 k fI fd ps (spXi C f) ∧ Binds K fd ps []
def sRaiseK (C : Addr) (f : Str) (F : FE) : FS := fun ρ De => F ρ (fun d => De.ex (.kept C [f] [d])) De.ex
section
variable {X : Cx} {K : PySem.W.Frag} {E : XK} {W0 H0 : Hp} {F : FE} {e : Expr} {x f : Str} {C : Addr} {k : Nat} {p pos pos' : Pos}
theorem mk_heap {H1 : Hp} {a dx C : Addr} {f : Str} {v : V} (ha : H1 a = none) (hd : dx ≠ a) : upd (del (upd (upd (upd H1 a (exo a C none)) dx (exd dx [(f, v)])) a (exo a C (some dx))) a) dx (.xd [(f, v)]) = upd H1 dx (.xd [(f, v)]) := by
  funext b
  by_cases e1 : b = dx
  · subst e1
    rw [upd_same, upd_same]
  · rw [upd_ne e1, upd_ne e1]
    by_cases e2 : b = a
    · subst e2
      rw [del_same, ha]
    · rw [del_ne e2, upd_ne e2, upd_ne e1, upd_ne e2]
theorem d_raiseK (c : CalX X.prog X.w X.K X.mg X.base x C k f) (hc : X.calm = true) (tk : Takes X (fun cls d _ H => E cls d H)) (hr : Room (k + 1) X.A) (hg : Gl X x) (he : PE X e (tD K E F)) (hK : X.K = K := by rfl) (hdb : (x == ("__debug__" : Str)) = false := by decide)
    (hs : starEach [e] X.env = (false, eval e X.env) :: starEach [] X.env := by rfl) (hpl : (backTo pos (starEach [] X.env)).any (·.1) = false := by rfl) : PS X (.Raise (some (.Call (.Name x p) [e] [] pos)) none pos') (tDS K W0 H0 E (sRaiseK C f F)) := by
  obtain ⟨fI, fd, ps, h1, h2, h3, h4⟩ := c.ex
  refine (ps_raise hc tk (pmk_oex c.o h1 h2 h3 hr h4 .nil pass0 hg c.g (pa_cons he pa_nil hs) hdb hs hpl)).mono fun D σ H ⟨W, ρ, De, s, q, o⟩ => ?_
  refine ⟨W0, H0, W, ρ, _, _, s, q, fun v W1 H1 d e1 r1 z => ⟨(show 1 ≤ 1000 by decide), fun a ha => ?_⟩, o.xc s⟩
  refine ⟨a, v, rfl, upd_same, fun dx hdx hne => ⟨rfl, dx, [(f, v)], upd_same, ?_, ?_, ?_⟩⟩
  · rw [upd_ne hne, upd_same]
  · rw [upd_ne hne] at hdx
    exact hdx
  · rw [mk_heap ha hne]
    have hdx' : H1 dx = none := by rw [upd_ne hne] at hdx; exact hdx
    have e2 := Ex.new (o := .xd [(f, v)]) e1.s hdx'
    exact o.ex _ _ _ _ _ ((s.ex.trans e1).trans e2) (.kept upd_same rfl (.one (r1.gx e2.w))) z
end
section
variable {X : Cx} {K : PySem.W.Frag} {E : XK} {A : FA} {g : Fn} {o e : Expr} {es : List Expr} {x m y : Str} {C : Addr} {k n i : Nat} {p pos apos : Pos}
/-- repr(None), repr of a number -/
def rRepr : List V → Hp → VK → Prop := fun xs H Q => (xs = [.non] ∧ Q (.str "None") H) ∨ ∃ i : Int, xs = [.int i] ∧ i.natAbs.log2 < 1920 ∧ Q (.str (toString i)) H
theorem c_repr : CallR X (.builtin "repr") rRepr := by
  intro pins s σ H xs us Q I r h
  rcases h with ⟨rfl, q⟩ | ⟨i, rfl, hi, q⟩
  · obtain ⟨u, rfl, ru⟩ := vals1 r
    obtain rfl : u = Value.none := ru
    exact PySem.P.repr_of_none ⟨.str _, H, I.tok _, ⟨_, rfl⟩, q⟩
  · obtain ⟨u, rfl, ru⟩ := vals1 r
    obtain ⟨t, rfl⟩ := ru
    exact PySem.P.repr_of_int hi ⟨.str _, H, I.tok _, ⟨_, rfl⟩, q⟩
def RRepr (ds : List D) (Q : D → Prop) : Prop := (ds = [.non] ∧ Q (.str "None")) ∨ ∃ i : Int, ds = [.int i] ∧ i.natAbs.log2 < 1920 ∧ Q (.str (toString i))
theorem s_repr : CSnd K rRepr RRepr := fun W H xs ds Q Qh s rr h k => by
  rcases h with ⟨z, q⟩ | ⟨i, z, hi, q⟩
  · subst z
    obtain ⟨v, rfl, r⟩ := ts1 rr
    exact .inl ⟨by rw [r.non_inv], k _ W H _ (Ex.refl s) (.str _) q⟩
  · subst z
    obtain ⟨v, rfl, r⟩ := ts1 rr
    exact .inr ⟨i, by rw [r.int_inv], hi, k _ W H _ (Ex.refl s) (.str _) q⟩
end
end Pu
set_option Elab.async false
set_option maxRecDepth 100000
set_option linter.all false
namespace Pu
open PySem PySem.Spec PyProof.Rows L2 Ly
end Pu
set_option Elab.async false
set_option maxRecDepth 100000
set_option linter.all false
namespace Pu
open PySem PySem.Spec PyProof.Rows L2 Ly
end Pu
set_option Elab.async false
set_option maxRecDepth 100000
set_option linter.all false
namespace Pu
open PySem PySem.Spec PyProof.Rows L2 Ly
end Pu
set_option Elab.async false
set_option maxRecDepth 100000
set_option linter.all false
namespace Pu
open PySem PySem.Spec PyProof.Rows L2 Ly
structure FnG (P : Program) (w : World) (K : PySem.W.Frag) (mg : Str → Option Value) (base : Heap) (CX : CXT) (k : Nat) (f : Addr) (fd : FuncData) (ps : List Str) (sp : Sp) : Prop where
  len : ∀ vs H Q E, sp vs H Q E → vs.length = ps.length
  run : ∀ (A : Around) (outer : List PySem.Env) (s : Shared) (H : Hp) (args : Args) (us : List Value) (vs : List V) (Q : VK) (E : XK),
    Room k A → A.guards = some [] → Env0 P w K mg base A outer s H → BindsTo s fd args (ps.zip us) → Vals vs us → sp vs H Q E →
      codeAny (model P w) A (.call (.ref f) args) (CR CX outer P w H s Q E) s
section
variable {P : Program} {w : World} {K : PySem.W.Frag} {mg : Str → Option Value} {base : Heap}
theorem FnG.of {CX : CXT} {k : Nat} {f : Addr} {fd : FuncData} {ps : List Str} {sp : Sp} (F : FnOk P w K mg base CX k f fd ps sp) : FnG P w K mg base CX k f fd ps sp :=
  ⟨F.len, fun A outer s H args us vs Q E hr _ he hb hv hs => F.run A outer s H args us vs Q E hr he hb hv hs⟩
end
section
variable {X : Cx} {K : PySem.W.Frag} {E : XK} {A : FA} {g : Fn} {e : Expr} {es : List Expr} {p pos : Pos} {k n : Nat} {x : Str}
theorem run_g {CX : CXT} {f : Addr} {fd : FuncData} {ps : List Str} {sp : Sp} {pins : List (Addr × Obj)} {σ : L2.St} {H : Hp} {s : Shared} {Q : VK} {us : List Value} {vs : List V} (F : FnG X.prog X.w X.K X.mg X.base CX k f fd ps sp) (hr : Room k X.A) (gd : X.A.guards = some [])
    (hb : Binds X.K fd ps []) (hx : Passes CX X E) (I : Inv X pins σ H s) (r : Vals vs us) (h : sp vs H Q E) : wpAny (model X.prog X.w) X.A (call (.ref f) us) (EP X pins σ Q) X.xe s := by
  have hl : us.length = ps.length := by rw [← r.length]; exact F.len _ _ _ _ h
  have hb2 := hb s us I.kIn (by rw [List.append_nil]; exact hl)
  rw [List.append_nil] at hb2
  refine wpAny_call (codeAny_mono (F.run X.A X.stack s H ⟨us, []⟩ us vs Q E hr gd I.env0 hb2 r h) fun res s' hq => ?_)
  cases res with
  | error e => exact hx pins σ H s e s' I hq
  | ok fl =>
    cases fl with
    | ret u => exact I.after hq
    | next => exact hq.elim
    | brk => exact hq.elim
    | cont => exact hq.elim
def rReprL (K : PySem.W.Frag) : List V → Hp → VK → Prop := fun xs H Q => ∃ a d, xs = [.ref a] ∧ Dp K H (.ref a) d ∧ d.showable = true ∧ d.hasDict = false ∧ d.shown.length ≤ sizeLine ∧ d.depth ≤ 60 ∧ Q (.str d.shown) H
theorem c_reprL (gd : X.A.guards = some []) (hu : X.A.units + 64 < cLine) (hK : X.K = K := by rfl) : CallR X (.builtin "repr") (rReprL K) := by
  subst hK
  intro pins s σ H xs us Q I r h
  obtain ⟨a, d, rfl, dp, h1, h2, h3, h4, q⟩ := h
  obtain ⟨u, rfl, ru⟩ := vals1 r
  cases ru
  obtain ⟨as, rd⟩ := Dp.reads I d _ _ dp rfl
  exact repr_of_reads' rd h1 (fun z => by rw [h2] at z; cases z) gd (by omega) (fun _ _ z => z) (fun h' u tk kk => ⟨.str _, H, I.kept kk, ⟨_, rfl⟩, q⟩) h3
structure ShO (d : D) : Prop where
  sq : ∃ es, seqD d = some es
  lay : (toP d).canLay0 = true
  sho : (toP d).showable = true
  nod : (toP d).hasDict = false
  sz : (toP d).shown.length ≤ sizeLine
  dep : (toP d).depth ≤ 60
def rReprB : List V → Hp → VK → Prop := fun xs H Q => ∃ b, xs = [.bl b] ∧ Q (.str (if b then "True" else "False")) H
def rReprA (K : PySem.W.Frag) : List V → Hp → VK → Prop := fun xs H Q => (rRepr xs H Q ∨ rReprB xs H Q) ∨ rReprL K xs H Q
theorem c_reprA (gd : X.A.guards = some []) (hu : X.A.units + 64 < cLine) (hK : X.K = K := by rfl) : CallR X (.builtin "repr") (rReprA K) := callR_or (callR_or c_repr call_reprB) (c_reprL gd hu hK)
def RReprA (ds : List D) (Q : D → Prop) : Prop := (RRepr ds Q ∨ ∃ b, ds = [.bl b] ∧ Q (.str (if b then "True" else "False"))) ∨ ∃ d, ds = [d] ∧ ShO d ∧ Q (.str (toP d).shown)
theorem s_reprA : CSnd K (rReprA K) RReprA := fun W H xs ds Q Qh s rr h kk => by
  rcases h with (h | ⟨b, z, q⟩) | ⟨d, z, o, q⟩
  · exact .inl (.inl (s_repr W H xs ds Q Qh s rr h kk))
  · subst z
    obtain ⟨v, rfl, r⟩ := ts1 rr
    exact .inl (.inr ⟨b, by rw [r.bl_inv], kk _ W H _ (Ex.refl s) (.str _) q⟩)
  · subst z
    obtain ⟨v, rfl, r⟩ := ts1 rr
    obtain ⟨es, hes⟩ := o.sq
    obtain ⟨a, vs, rfl, _⟩ := r.seq_inv s hes
    exact .inr ⟨a, _, rfl, (r.full s).dp o.lay, o.sho, o.nod, o.sz, o.dep, kk _ W H _ (Ex.refl s) (.str _) q⟩
end
end Pu
set_option Elab.async false
set_option maxRecDepth 100000
set_option linter.all false
set_option maxHeartbeats 1000000
namespace Pu
open PySem PySem.Spec PyProof.Rows L2 Ly
end Pu
set_option Elab.async false
set_option maxRecDepth 100000
set_option linter.all false
set_option maxHeartbeats 1000000
namespace Pu
open PySem PySem.Spec PyProof.Rows L2 Ly PySem.W
section
variable {X : Cx} {K : PySem.W.Frag} {E : XK} {W0 H0 : Hp}
theorem rep_each {W : Hp} {R : V → D → Prop} (h : ∀ v d, Rep K W v d → R v d) : ∀ {vs : List V} {ds : List D}, RepAll K W vs ds → EachIs R vs ds
  | _, _, .nil => .nil
  | _, _, .cons r rs => .cons (h _ _ r) (rep_each h rs)
theorem each_vals {R : V → D → Prop} : ∀ {vs : List V} {us : List Value} {ds : List D}, Vals vs us → EachIs R vs ds → EachIs (fun u d => ∃ v, R v d ∧ RelV v u) us ds
  | _, _, _, .nil, .nil => .nil
  | _, _, _, .cons r rs, .cons h hs => .cons ⟨_, h, r⟩ (each_vals rs hs)
theorem vals_each {R : V → D → Prop} : ∀ {us : List Value} {ds : List D}, EachIs (fun u d => ∃ v, R v d ∧ RelV v u) us ds → ∃ vs, Vals vs us ∧ EachIs R vs ds
  | _, _, .nil => ⟨[], .nil, .nil⟩
  | _, _, .cons ⟨v, h, r⟩ hs => by
    obtain ⟨vs, h1, h2⟩ := vals_each hs
    exact ⟨v :: vs, .cons r h1, .cons h h2⟩
theorem each_rep {W : Hp} : ∀ {vs : List V} {ds : List D}, EachIs (Rep K W) vs ds → RepAll K W vs ds
  | _, _, .nil => .nil
  | _, _, .cons h hs => .cons h (each_rep hs)
structure SrtO (xs : List D) : Prop where
  lay : ∀ x ∈ xs, (toP x).canLay0 = true
  ali : AllAlike (xs.map toP)
  srt : Sortable (xs.map toP)
  dep : ∀ x ∈ xs, (toP x).depth ≤ 60
def sortD (xs : List D) : List D := xs.mergeSort (dataLe false toP)
def rSortDt (K : PySem.W.Frag) : List V → Hp → VK → Prop := fun vs H Q => ∃ (a : Addr) (us : List V) (W : Hp) (xs : List D), vs = [.ref a] ∧ SqL K H a us ∧ Gx W H ∧ RepAll K W us xs ∧ SrtO xs ∧ ∀ us' p, RepAll K W us' (sortD xs) → H p = none → Q (.ref p) (upd H p (.lst us'))
theorem each_mem {α β : Type} {R S : α → β → Prop} : ∀ {as : List α} {bs : List β}, EachIs R as bs → (∀ a b, b ∈ bs → R a b → S a b) → EachIs S as bs
  | _, _, .nil, _ => .nil
  | _, _, .cons h hs, k => .cons (k _ _ (List.mem_cons_self ..) h) (each_mem hs fun a b m => k a b (List.mem_cons_of_mem _ m))
theorem c_sortDt (hu : X.A.units + 64 < cLine) (hK : X.K = K := by rfl) : CallR X (.builtin "sorted") (rSortDt K) := by
  subst hK
  intro pins s σ H vs us Q I r h
  obtain ⟨a, xs, W, ds, rfl, hs, sw, rp, so, q⟩ := h
  obtain ⟨its, rv, hl, hz⟩ := I.list hs
  rw [Vals.ref1 r]
  have e := each_vals rv (rep_each (R := Rep X.K W) (fun _ _ h => h) rp)
  have len1 := rp.len
  refine sorted_data (enc := toP) hl.isList e (each_mem e fun u d m ⟨v, rv', ru⟩ => Dp.reads I (toP d) v u ((rv'.gx sw).dp (so.lay d m)) ru) so.ali so.srt (by rw [← len1]; exact hz) (fun d m => by have := so.dep d m; omega) fun out hlen ho => ?_
  obtain ⟨vs', hv, hr⟩ := vals_each ho
  obtain ⟨ep, he⟩ := PyProof.Rows.sortedAll_at s.heap its out.toArray
  refine ⟨.ref _, upd H (s.heap.objs.size + 1) (.lst vs'), I.laid (t' := s.toks) (fun _ _ => PyProof.Rows.sortedAll_old) (Nat.le_succ _) ⟨?_, out, ep, hv, he⟩, rfl, q vs' _ (each_rep hr) (I.hok.fresh (Nat.le_succ _))⟩
  rw [hv.length, hlen, ← len1]
  exact hz
def RSortDt (ds : List D) (Q : List D → Prop) : Prop := ∃ xs, ds = [.lst xs] ∧ SrtO xs ∧ Q (sortD xs)
theorem s_sortDt : CSndN K (rSortDt K) RSortDt := fun W H xs ds Q Qh s rr ⟨ys, z, o, q⟩ k => by
  subst z
  obtain ⟨v, rfl, r⟩ := ts1 rr
  obtain ⟨a, vs, rfl, h2, h3, h4⟩ := r.lst_inv s
  exact ⟨a, vs, W, ys, rfl, SqL.of h2, s, h3, o, fun us' p r2 hp => k p us' W _ _ (Ex.hid s hp) hp (s.free hp) upd_same r2 (by rw [r2.len, sortD, List.length_mergeSort, ← h3.len]; exact h4) q⟩
theorem Sat.set_comm {W H : Hp} {ρ : Pu.Env} {σ : L2.St} {i j : Nat} (hij : i ≠ j) {a b : B} {x y : Option V} (h : Sat K W0 H0 W ((ρ.set i a).set j b) ((σ.set i x).set j y) H) : Sat K W0 H0 W ((ρ.set j b).set i a) ((σ.set j y).set i x) H := by
  rw [List.set_comm _ _ hij, List.set_comm _ _ hij] at h
  exact h
end
end Pu
set_option Elab.async false
set_option maxRecDepth 100000
set_option linter.all false
set_option maxHeartbeats 1000000
namespace Pu
open PySem PySem.Spec PyProof.Rows L2 Ly PySem.W
end Pu
set_option Elab.async false
set_option maxRecDepth 100000
set_option linter.all false
set_option maxHeartbeats 1000000
namespace Pu
open PySem PySem.Spec PyProof.Rows L2 Ly
end Pu
set_option Elab.async false
set_option maxRecDepth 100000
namespace Pu
open PySem PySem.Spec PyProof.Rows L2 Ly
end Pu
set_option Elab.async false
set_option maxRecDepth 100000
set_option linter.all false
namespace Pu
open PySem PySem.Spec PyProof.Rows L2 Ly
end Pu
set_option Elab.async false
set_option linter.all false
set_option maxRecDepth 100000
set_option maxHeartbeats 2000000
namespace LzZ
open PySem PySem.Spec PyProof.Rows L2
open PySem.W (kdx_alive)
/-- the tuples made -/
structure LzG (xs ys : Array Value) (lo : Addr) (h : Heap) (as : List Addr) : Prop where
  rise : as.Pairwise (· < ·)
  above : ∀ a ∈ as, lo < a
  pairs : ∀ (j : Nat) (a : Addr), as[j]? = some a → ∃ x y, xs[j]? = some x ∧ ys[j]? = some y ∧ h.get? a = some { cls := .type "tuple", data := .seq #[x, y] }
theorem LzG.there {xs ys : Array Value} {lo : Addr} {h : Heap} {as : List Addr} (g : LzG xs ys lo h as) {a : Addr} (ha : a ∈ as) : a < h.objs.size := by
  obtain ⟨j, hj⟩ := List.mem_iff_getElem?.mp ha
  obtain ⟨_, _, _, _, e⟩ := g.pairs j a hj
  exact Heap.lt_size e
end LzZ
set_option Elab.async false
set_option linter.all false
set_option maxRecDepth 100000
set_option Elab.async false
set_option maxRecDepth 100000
set_option linter.all false
namespace Pu
open PySem PySem.Spec PyProof.Rows L2 Ly
end Pu
set_option Elab.async false
set_option maxRecDepth 100000
set_option maxHeartbeats 1000000
set_option linter.all false
namespace Pu
open PySem PySem.Spec PyProof.Rows L2 Ly
end Pu
set_option Elab.async false
set_option maxRecDepth 100000
set_option linter.all false
namespace Pu
open PySem PySem.Spec PyProof.Rows L2 Ly
section
variable {P : Program} {w : World} {K : PySem.W.Frag} {mg : Str → Option Value} {base : Heap} {k : Nat} {f : Addr} {fd : FuncData} {ps : List Str}
/-- drawn items of a list, each place at most once -/
def FSome : Fn := fun ds Q _ => ∃ (xs : List D) (n : Int), ds = [.dice, .lst xs, .int n] ∧ 0 ≤ n ∧ xs.length ≤ 1000 ∧ ∀ ys rest, (ys ++ rest).Perm xs → (ys.length : Int) = (if (xs.length : Int) < n then (xs.length : Int) else n) → Q (.lst ys)
theorem rep_perm {W : Hp} {us vs : List V} (p : us.Perm vs) : ∀ {ds : List D}, RepAll K W vs ds → ∃ es, es.Perm ds ∧ RepAll K W us es := by
  induction p with
  | nil => intro ds h; exact ⟨ds, List.Perm.refl _, h⟩
  | cons x p ih =>
    intro ds h
    cases h with
    | cons r rs =>
      obtain ⟨es, q, r'⟩ := ih rs
      exact ⟨_ :: es, q.cons _, .cons r r'⟩
  | swap x y l =>
    intro ds h
    cases h with
    | cons r rs =>
      cases rs with
      | cons r2 rs => exact ⟨_ :: _ :: _, List.Perm.swap _ _ _, .cons r2 (.cons r rs)⟩
  | trans p q ih1 ih2 =>
    intro ds h
    obtain ⟨es, e1, e2⟩ := ih2 h
    obtain ⟨fs, f1, f2⟩ := ih1 e2
    exact ⟨fs, f1.trans e1, f2⟩
theorem rep_app {W : Hp} : ∀ {us vs : List V} {ds : List D}, RepAll K W (us ++ vs) ds → ∃ es fs, ds = es ++ fs ∧ RepAll K W us es ∧ RepAll K W vs fs
  | [], vs, ds, h => ⟨[], ds, rfl, .nil, h⟩
  | u :: us, vs, _, .cons r rs => by
    obtain ⟨es, fs, e, h1, h2⟩ := rep_app (us := us) rs
    exact ⟨_ :: es, fs, by rw [e]; rfl, .cons r h1, h2⟩
theorem fn_some (F : FnOk P w K mg base CX0 k f fd ps (spSome K)) : FnOk P w K mg base (L2.CX P w) k f fd ps (spD K 3 FSome) := (fn_cx F).imp fun vs H Qh E ⟨W, ds, Q, Z, s, r, hl, ⟨xs, n, z, h0, h1, q⟩, kk, _⟩ => by
  subst z
  cases r with
  | cons r1 r =>
    cases r with
    | cons r2 r =>
      cases r with
      | cons r3 r =>
        cases r
        cases r3
        obtain ⟨a, rfl, ha⟩ := dice_v r1
        cases r2 with
        | @lst b us _ g1 g2 g3 =>
          have hlen := all_len g2
          refine ⟨a, b, us, n, rfl, s _ _ ha, SqL.of (s _ _ g1), h0, by omega, fun p ys rest H' e hp h' hn pm => ?_⟩
          obtain ⟨es, e1, e2⟩ := rep_perm pm g2
          obtain ⟨es1, es2, e3, e4, e5⟩ := rep_app e2
          subst e3
          have hw : W p = none := s.free hp
          have ex : Ex W H (upd W p (.lst ys)) H' := Ex.see ⟨e, Gx.refl _, s.trans e, fun _ _ h => .inl h⟩ hp hw h'
          have hle : ys.length ≤ us.length := by
            have := pm.length_eq
            rw [List.length_append] at this
            omega
          exact kk _ _ _ _ ex (.lst upd_same (e4.gx (Gx.new hw)) (by rw [sizeLine_eq]; omega)) (q es1 es2 e1 (by rw [← all_len e4, ← hlen]; exact hn))
end
end Pu
set_option Elab.async false
set_option maxRecDepth 100000
set_option maxHeartbeats 1000000
set_option linter.all false
namespace Pu
open PySem PySem.Spec PyProof.Rows L2 Ly
end Pu
set_option Elab.async false
set_option maxRecDepth 100000
set_option maxHeartbeats 1000000
set_option linter.all false
set_option Elab.async false
set_option maxRecDepth 100000
set_option maxHeartbeats 1000000
set_option linter.all false
namespace Pu
open PySem PySem.Spec PyProof.Rows L2 Ly
end Pu
set_option Elab.async false
set_option maxRecDepth 100000
set_option maxHeartbeats 1000000
set_option linter.all false
namespace Pu
open PySem PySem.Spec PyProof.Rows L2 Ly
end Pu
set_option Elab.async false
set_option maxRecDepth 100000
set_option maxHeartbeats 1000000
set_option linter.all false
namespace Pu
open PySem PySem.Spec PyProof.Rows L2 Ly
end Pu
set_option Elab.async false
set_option maxRecDepth 100000
set_option maxHeartbeats 1000000
set_option linter.all false
namespace Pu
open PySem PySem.Spec PyProof.Rows L2 Ly
end Pu
set_option Elab.async false
set_option maxRecDepth 100000
set_option maxHeartbeats 1000000
set_option linter.all false
namespace Pu
open PySem PySem.Spec PyProof.Rows L2 Ly
end Pu
set_option Elab.async false
set_option maxRecDepth 100000
set_option maxHeartbeats 1000000
set_option linter.all false
namespace Pu
open PySem PySem.Spec PyProof.Rows L2 Ly
/-- str(i) -/
def RStrI (ds : List D) (Q : D → Prop) : Prop := ∃ i : Int, ds = [.int i] ∧ i.natAbs.log2 < 1920 ∧ Q (.str (toString i))
theorem s_strI {K : PySem.W.Frag} : CSnd K (fun xs H Q => ∃ i, xs = [.int i] ∧ i.natAbs.log2 < 1920 ∧ Q (.str (toString i)) H) RStrI := fun W H xs ds Q Qh s rr ⟨i, z, hi, q⟩ k => by
  subst z
  obtain ⟨v, z, r⟩ := ts1 rr
  subst z
  cases r with
  | val r =>
    cases r
    exact ⟨i, rfl, hi, k _ W H _ (Ex.refl s) (.str _) q⟩
end Pu
set_option Elab.async false
set_option maxRecDepth 100000
set_option maxHeartbeats 1000000
set_option linter.all false
namespace Pu
open PySem PySem.Spec PyProof.Rows L2 Ly
end Pu
set_option Elab.async false
set_option maxRecDepth 100000
set_option maxHeartbeats 1000000
set_option linter.all false
namespace Pu
open PySem PySem.Spec PyProof.Rows L2 Ly
end Pu
set_option Elab.async false
set_option maxRecDepth 100000
set_option maxHeartbeats 1000000
set_option linter.all false
namespace Pu
open PySem PySem.Spec PyProof.Rows L2 Ly
section
variable {X : Cx} {K : PySem.W.Frag} {E : XK} {C : Addr} {k : Nat} {g : Fn} {F : FE} {e v1 v2 : Expr} {rest : List Expr} {pos : Pos}
/-- {e}: a text or a number -/
def fFmt (F : FE) : FE := fun ρ Q Z => F ρ (fun d => (∃ y, d = .str y ∧ y.length ≤ sizeLine ∧ Q (.str y)) ∨ ∃ i, d = .int i ∧ i.natAbs.log2 < 1920 ∧ Q (.str (toString i))) Z
theorem d_fmt (he : PE X e (tD K E F)) : PE X (.FormattedValue e (-1) none pos) (tD K E (fFmt F)) := (pe_fmt he).mono fun σ H Qh ⟨W0, H0, W, ρ, Q, Z, st, f, k, x⟩ => by
  refine ⟨W0, H0, W, ρ, _, Z, st, f, fun v W1 H1 d e1 r q => ?_, x⟩
  rcases q with ⟨y, z, hy, q⟩ | ⟨i, z, hi, q⟩
  · subst z
    cases r
    exact .inl ⟨y, rfl, hy, k _ W1 H1 _ e1 (.str _) q⟩
  · subst z
    cases r
    exact .inr ⟨i, rfl, hi, k _ W1 H1 _ e1 (.str _) q⟩
def fJs : List FE → Str → FE
  | [], acc => fun _ Q _ => Q (.str acc)
  | F :: Fs, acc => fun ρ Q Z => F ρ (fun d => ∃ y, d = .str y ∧ (acc ++ y).length ≤ sizeLine ∧ fJs Fs (acc ++ y) ρ Q Z) Z
inductive PFs (X : Cx) (K : PySem.W.Frag) (E : XK) : List Expr → List FE → Prop where
  | nil : PFs X K E [] []
  | cons {e : Expr} {F : FE} {es : List Expr} {Fs : List FE} (h : PE X e (tD K E F)) (r : PFs X K E es Fs) : PFs X K E (e :: es) (F :: Fs)
theorem PFs.pj {es : List Expr} {Fs : List FE} (h : PFs X K E es Fs) : PJ X es (Fs.map (tD K E)) := by
  induction h with
  | nil => exact .nil
  | cons h _ ih => exact .cons h ih
theorem js_to {σ : L2.St} {Qh : VK} {W0 H0 : Hp} {ρ : Env} {Q : D → Prop} {Z : ZX} : ∀ (Fs : List FE) (acc : Str) (W H : Hp), Sat K W0 H0 W ρ σ H → fJs Fs acc ρ Q Z → (∀ v W' H' d, Ex W H W' H' → Rep K W' v d → Q d → Qh v H') → XC K E W H Z →
    tJs (Fs.map (tD K E)) acc σ H fun out H1 => Qh (.str out) H1
  | [], acc, W, H, st, q, kk, x => kk _ W H _ (Ex.refl st.see) (.str _) q
  | F :: Fs, acc, W, H, st, q, kk, x => by
    refine ⟨W0, H0, W, ρ, _, Z, st, q, fun v W1 H1 d e1 r ⟨y, z, hy, q2⟩ => ?_, x⟩
    subst z
    cases r
    exact ⟨y, rfl, hy, js_to Fs _ W1 H1 (st.ext e1) q2 (fun v W' H' d e r q => kk v W' H' d (e1.trans e) r q) (x.ext e1)⟩
/-- f'..' of two parts or more -/
theorem d_js {Fs : List FE} (h : PFs X K E (v1 :: v2 :: rest) Fs) : PE X (.JoinedStr (v1 :: v2 :: rest) pos) (tD K E (fJs Fs Str.empty)) := (pe_joined h.pj).mono fun σ H Qh ⟨W0, H0, W, ρ, Q, Z, st, f, k, x⟩ => js_to Fs _ W H st f k x
end
end Pu
set_option Elab.async false
set_option maxRecDepth 100000
namespace Od
open PySem PySem.Spec PyProof.Rows L2 Ly
section
variable {prog : Program} {w : World} {A : Around} {E : Value → Shared → Prop} {s : Shared}
/-- what the object of a dict shows of its keys -/
def DObj (o : Obj) (ks : List V) : Prop := o.ExactDict ∧ ∃ (es : Array DictEntry) (ep : Nat), o.data = .dict es ep ∧ Paired (fun (k : V) (e : DictEntry) => RelV k e.key) ks es.toList
end
end Od
set_option Elab.async false
set_option maxRecDepth 100000
namespace Od
open PySem PySem.Spec PyProof.Rows L2 Ly
def Fz (H : Hp) (d : Addr) (ks : List V) : Prop := (d == sysModules) = false ∧ ∃ o u, H d = some (.frz o u) ∧ DObj o ks
theorem Fz.gx {H H' : Hp} {d : Addr} {ks : List V} (e : Gx H H') (h : Fz H d ks) : Fz H' d ks := let ⟨a, o, u, b, c⟩ := h; ⟨a, o, u, e _ _ b, c⟩
end Od
set_option Elab.async false
set_option maxRecDepth 100000
set_option Elab.async false
set_option maxRecDepth 100000
set_option maxHeartbeats 1000000
set_option linter.all false
namespace Pu
open PySem PySem.Spec PyProof.Rows L2 Ly
end Pu
set_option Elab.async false
set_option maxRecDepth 100000
set_option maxHeartbeats 1000000
set_option linter.all false
namespace Pu
open PySem PySem.Spec PyProof.Rows L2 Ly
section
variable {X : Cx} {K : PySem.W.Frag} {E : XK} {F G : FE} {e o : Expr} {te : TE} {pos apos : Pos}
def fSplit (F G : FE) : FA := fun ρ Q Z => F ρ (fun a => ∃ z, a = .str z ∧ G ρ (fun b => ∃ y, b = .str y ∧ (y.length == 0) = false ∧ z.length + 2 ≤ sizeLine ∧ (Txt.split z y).length ≤ sizeLine ∧ Q ((Txt.split z y).map .str)) Z) Z
theorem strs_rep {W : Hp} : ∀ ys : List Str, RepAll K W (ys.map V.str) (ys.map D.str)
  | [] => .nil
  | y :: ys => .cons (.str y) (strs_rep ys)
end
def RIntS (ds : List D) (Q : D → Prop) : Prop := ∃ z n, ds = [.str z] ∧ PySem.intText? z = some n ∧ z.length ≤ 640 ∧ Q (.int n)
theorem s_intS {K : PySem.W.Frag} : CSnd K (fun xs H Q => ∃ a n, xs = [.str a] ∧ PySem.intText? a = some n ∧ a.length ≤ 640 ∧ Q (.int n) H) RIntS := fun W H xs ds Q Qh s rr ⟨z, n, e, hn, hl, q⟩ k => by
  subst e
  obtain ⟨v, rfl, r⟩ := ts1 rr
  cases r with
  | val r =>
    cases r
    exact ⟨z, n, rfl, hn, hl, k _ W H _ (Ex.refl s) (.int _) q⟩
end Pu
set_option Elab.async false
set_option maxRecDepth 100000
set_option maxHeartbeats 1000000
set_option linter.all false
namespace Pu
open PySem PySem.Spec PyProof.Rows L2 Ly
end Pu
set_option Elab.async false
set_option maxRecDepth 100000
set_option maxHeartbeats 1000000
set_option linter.all false
namespace Pu
open PySem PySem.Spec PyProof.Rows L2 Ly
end Pu
set_option Elab.async false
set_option maxRecDepth 100000
set_option maxHeartbeats 1000000
set_option linter.all false
namespace Pu
open PySem PySem.Spec PyProof.Rows L2 Ly
section
variable {X : Cx} {K : PySem.W.Frag} {E : XK} {F G : FE} {A : FA} {g : Fn} {e o : Expr} {es : List Expr} {m x : Str} {C : Addr} {k n : Nat} {p pos apos : Pos}
theorem d_split (ho : PE X o (tD K E F)) (he : PE X e (tD K E G)) (hs : starEach [e] X.env = [(false, eval e X.env)] := by rfl) (hbase : attributeBase o "split" X.env (eval o X.env) = eval o X.env := by rfl) (hline : (apos.endLine == pos.line) = true := by rfl) :
    PE X (.Call (.Attribute o "split" apos) [e] [] pos) (tDN K E (fSplit F G)) := (pe_split ho he hs hbase hline).mono fun σ H Qh ⟨W0, H0, W, ρ, Q, Z, st, f, k, x⟩ => by
  refine ⟨W0, H0, W, ρ, _, Z, st, f, fun v W1 H1 d e1 r ⟨z, hz, q⟩ => ?_, x⟩
  subst hz
  cases r
  refine ⟨⟨z, rfl⟩, W0, H0, W1, ρ, _, Z, st.ext e1, q, fun v2 W2 H2 d2 e2 r2 ⟨y, hy, h0, hl, hn, q2⟩ => ?_, x.ext e1⟩
  subst hy
  cases r2
  exact ⟨z, y, rfl, rfl, h0, hl, fun p hp => k p _ W2 _ _ ((e1.trans e2).trans (Ex.hid e2.s hp)) ((e1.trans e2).h.free hp) (e2.s.free hp) upd_same (strs_rep _) (by rw [List.length_map]; exact hn) q2⟩
end
end Pu
set_option Elab.async false
set_option maxRecDepth 100000
set_option maxHeartbeats 1000000
set_option linter.all false
namespace Pu
open PySem PySem.Spec PyProof.Rows L2 Ly
end Pu
set_option Elab.async false
set_option maxRecDepth 100000
set_option maxHeartbeats 1000000
set_option linter.all false
namespace Pu
open PySem PySem.Spec PyProof.Rows L2 Ly
end Pu
set_option Elab.async false
set_option linter.all false
set_option maxRecDepth 100000
set_option maxHeartbeats 1000000
namespace L2
open PySem PySem.Spec PyProof.Rows
end L2
set_option Elab.async false
set_option maxRecDepth 100000
set_option maxHeartbeats 1000000
set_option linter.all false
namespace Pu
open PySem PySem.Spec PyProof.Rows L2 Ly
end Pu
set_option Elab.async false
set_option maxRecDepth 100000
set_option maxHeartbeats 1000000
set_option linter.all false
namespace Pu
open PySem PySem.Spec PyProof.Rows L2 Ly
/-- Sat, and no own slot stands at Dd -/
def SatO (K : PySem.W.Frag) (W0 H0 W : Hp) (ρ : Env) (σ : L2.St) (H : Hp) (Dd : Addr) : Prop := Ex W0 H0 W H ∧ σ.length = ρ.length ∧
  ∃ oa : Nat → Option Addr, (∀ i j p, oa i = some p → oa j = some p → i = j) ∧ (∀ i b, ρ[i]? = some b → ∃ s, σ[i]? = some s ∧ BRep K H0 W H (oa i) b s) ∧ ∀ i, oa i = some Dd → ρ.length ≤ i
section
variable {K : PySem.W.Frag} {W0 H0 W H W' H' Hb : Hp} {ρ ρ' : Env} {σ σ' : L2.St} {Dd : Addr} {us us' : List V}
theorem SatO.base (h : SatO K W0 H0 W ρ σ H Dd) (hw : W Dd = none) (hd : H Dd = some (.lst us)) : ∃ Hb, Hb Dd = some (.lst us) ∧ Gx H0 Hb ∧ Sat K W Hb W ρ σ H := by
  obtain ⟨h1, h2, oa, h3, h4, h5⟩ := h
  classical
  let P : Addr → Prop := fun a => H0 a = none ∧ ((∃ i, i < ρ.length ∧ oa i = some a) ∨ ∃ p, H a = some (.own p))
  have hP : ∀ a, P a → (if P a then none else H a) = none := fun a q => if_pos q
  refine ⟨fun a => if P a then none else H a, ?_, fun a o ho => ?_, ⟨fun a o ho => ?_, Gx.refl _, h1.s, fun a o ho => .inl ho⟩, h2, oa, h3, fun i b hb => ?_⟩
  · have : ¬ P Dd := by
      rintro ⟨_, ⟨i, hl, hi⟩ | ⟨p, hp⟩⟩
      · exact absurd (h5 i hi) (Nat.not_le_of_lt hl)
      · rw [hd] at hp; cases hp
    show (if P Dd then none else H Dd) = _
    rw [if_neg this]
    exact hd
  · have : ¬ P a := fun q => by rw [q.1] at ho; cases ho
    show (if P a then none else H a) = _
    rw [if_neg this]
    exact h1.h _ _ ho
  · have ho : (if P a then none else H a) = some o := ho
    by_cases q : P a
    · rw [if_pos q] at ho; cases ho
    · rw [if_neg q] at ho
      exact ho
  · have hl : i < ρ.length := (List.getElem?_eq_some_iff.mp hb).1
    obtain ⟨s, h6, h7⟩ := h4 i b hb
    refine ⟨s, h6, ?_⟩
    cases b with
    | un => exact h7
    | val d => exact h7
    | lst ds =>
      obtain ⟨q, vs, e1, e2, e3, e4, e5⟩ := h7
      exact ⟨q, vs, e1, e2, e3, hP q ⟨e4, .inl ⟨i, hl, e1⟩⟩, e5⟩
    | dic ks ds =>
      obtain ⟨q, vs, e1, e2, e3, e4, e5⟩ := h7
      exact ⟨q, vs, e1, e2, e3, hP q ⟨e4, .inl ⟨i, hl, e1⟩⟩, e5⟩
    | obj a C ns ds =>
      obtain ⟨q, dx, vs, e0, e1, e2, e3, e4, e5, e6, e7, e8⟩ := h7
      exact ⟨q, dx, vs, e0, e1, e2, e3, hP q ⟨e4, .inl ⟨i, hl, e1⟩⟩, e5, e6, hP dx ⟨e7, .inr ⟨q, e6⟩⟩, e8⟩
    | bor q ks ds => exact h7
    | dit ks ds =>
      obtain ⟨q, vs, e1, e2, e3, e4, e5⟩ := h7
      exact ⟨q, vs, e1, e2, e3, hP q ⟨e4, .inl ⟨i, hl, e1⟩⟩, e5⟩
theorem SatO.mut (h : SatO K W0 H0 W ρ σ H Dd) (h0 : H0 Dd = none) (hw : W Dd = none) (hd : H Dd = some (.lst us)) : SatO K W0 H0 W ρ σ (upd H Dd (.lst us')) Dd := by
  obtain ⟨h1, h2, oa, h3, h4, h5⟩ := h
  refine ⟨h1.mut h0 hw, h2, oa, h3, fun i b hb => ?_, h5⟩
  obtain ⟨s, h6, h7⟩ := h4 i b hb
  have hl : i < ρ.length := (List.getElem?_eq_some_iff.mp hb).1
  exact ⟨s, h6, h7.mut (fun z => absurd (h5 i z) (Nat.not_le_of_lt hl)) fun x z => by rw [hd] at z; cases z⟩
end
end Pu
set_option Elab.async false
set_option maxRecDepth 100000
set_option maxHeartbeats 1000000
set_option linter.all false
namespace Pu
open PySem PySem.Spec PyProof.Rows L2 Ly
end Pu
set_option Elab.async false
set_option maxRecDepth 100000
set_option linter.all false
set_option maxHeartbeats 1000000
namespace Pu
open PySem PySem.Spec PyProof.Rows L2 Ly
end Pu
namespace Pu
open PySem PySem.Spec PyProof.Rows L2 Ly
end Pu
set_option Elab.async false
set_option maxRecDepth 100000
set_option linter.all false
set_option maxHeartbeats 1000000
namespace Pu
open PySem PySem.Spec PyProof.Rows L2 Ly
section
variable {X : Cx} {K : PySem.W.Frag} {E : XK} {A : FA} {e : Expr}
def fEnumL (A : FA) : FA := fun ρ Q Z => A ρ (fun as => ∃ xs, as = [.lst xs] ∧ Q (enumD 0 xs)) Z
theorem enumL_to {σ : L2.St} {H : Hp} {R : It → Hp → Prop} (h : tDF K E (fEnumL A) σ H R) : iEnum K (tDA K E A) σ H R := by
  obtain ⟨W0, H0, W, ρ, Q, Z, st, f, k, x⟩ := h
  refine ⟨W0, H0, W, ρ, _, Z, st, f, fun vs W1 H1 ds e1 r ⟨xs, z, q⟩ => ?_, x⟩
  subst z
  cases r with
  | cons r1 r =>
    cases r
    cases r1 with
    | lst h1 h2 h3 =>
      refine ⟨_, _, rfl, SqL.of (e1.s _ _ h1), k _ W1 H1 _ e1 ⟨_, _, by rw [enumD_len, ← h2.len]; exact walk_enum, fun H3 e => SqL.of (e _ _ h1), fun i H3 x H4 W3 hi e s y => ?_⟩ q⟩
      obtain ⟨T, v, w, y1, y2, y3, y4, y5⟩ := y
      cases y4
      obtain ⟨b, g3, g4⟩ := h2.get y5
      obtain ⟨W4, g5, g6⟩ := pair_new s y1 y2 y3 (.int _) (g4.gx e)
      exact ⟨W4, _, by rw [enumD_get _ 0 i _ g3, Nat.zero_add], g5, g6⟩
theorem d_enumL {p tpos : Pos} {elts : List Expr} {kk : Nat} (hg : Gl X "enumerate") (hm : X.mg "enumerate" = none) (ha : PA X [e] (tDA K E A)) (hK : X.K = K := by rfl) (hs : starEach [e] X.env = [(false, eval e X.env)] := by rfl) :
    PI X (.Tuple elts kk tpos) (.Call (.Name "enumerate" p) [e] [] pos) (tDF K E (fEnumL A)) := by
  subst hK
  exact (pi_enum hg hm ha hs).mono fun _ _ _ h => enumL_to h
end
end Pu
set_option Elab.async false
set_option maxRecDepth 100000
set_option linter.all false
set_option maxHeartbeats 1000000
namespace Pu
open PySem PySem.Spec PyProof.Rows L2 Ly
end Pu
set_option Elab.async false
set_option maxRecDepth 100000
set_option linter.all false
set_option maxHeartbeats 1000000
namespace Pu
open PySem PySem.W PySem.Spec PyProof.Rows L2 Ly
section
variable {X : Cx} {K : PySem.W.Frag} {E : XK} {F G : FE} {e a b : Expr} {te : TE} {p apos cpos pos : Pos}
def encS (q : Str × Int) : PyData := .tuple [.str q.1, .int q.2]
/-- the pair's tuple in the heap -/
def PrAt (h : Heap) (lo : Addr) (v : Value) (q : Str × Int) : Prop := ∃ t t1 t2, v = .ref t ∧ lo < t ∧ h.get? t = some { cls := .type "tuple", data := .seq #[.str q.1 t1, .int q.2 t2] }
theorem PrAt.reads {h h' : Heap} {lo : Addr} {v : Value} {q : Str × Int} (x : PrAt h lo v q) (k : ∀ b o, h.get? b = some o → h'.get? b = some o) : Reads h' v (encS q) [] := by
  obtain ⟨t, t1, t2, rfl, _, e⟩ := x
  exact .tuple (k _ _ e) rfl rfl (.cons (.str q.1 t1) (.cons (.int q.2 t2) .nil))
end
end Pu
set_option Elab.async false
set_option maxRecDepth 100000
set_option linter.all false
set_option maxHeartbeats 1000000
namespace Pu
open PySem PySem.W PySem.Spec PyProof.Rows L2 Ly
end Pu
set_option Elab.async false
set_option maxRecDepth 100000
set_option linter.all false
set_option maxHeartbeats 1000000
namespace Pu
open PySem PySem.Spec PyProof.Rows L2 Ly
end Pu
set_option Elab.async false
set_option maxRecDepth 100000
set_option maxHeartbeats 1000000
set_option linter.all false
set_option pp.maxSteps 3000
namespace Pu
open PySem PySem.Spec PyProof.Rows L2 Ly
inductive TupD : D → Prop
  | str (x : Str) : TupD (.str x)
  | int (i : Int) : TupD (.int i)
  | tup {ds : List D} (h : ∀ d ∈ ds, TupD d) : TupD (.tup ds)
section
variable {K : PySem.W.Frag} {H : Hp}
mutual
theorem Rep.uniq (hI : ∀ a us vs, SqT K H a us → SqT K H a vs → us = vs) : ∀ {v : V} {d : D}, Rep K H v d → ∀ {d' : D}, TupD d → TupD d' → Rep K H v d' → d = d'
  | _, _, .non, _, t, _, _ => nomatch t
  | _, _, .bl _, _, t, _, _ => nomatch t
  | _, _, .int _, _, _, _, r => by cases r; rfl
  | _, _, .str _, _, _, _, r => by cases r; rfl
  | _, _, .lst _ _ _, _, t, _, _ => nomatch t
  | _, _, .tup h hs _, d', t, t', r => by
    cases r with
    | tup h2 hs2 _ =>
      cases t with
      | tup t =>
      cases t' with
      | tup t' =>
      have e := hI _ _ _ (SqT.of h) (SqT.of h2)
      subst e
      rw [RepAll.uniq hI hs t t' hs2]
    | lst => cases t'
    | dic => cases t'
    | obj => cases t'
    | dice => cases t'
    | cls => cases t'
    | exn => cases t'
    | lsk => cases t'
    | dit => cases t'
  | _, _, .dic _ _ _ _, _, t, _, _ => nomatch t
  | _, _, .obj _ _ _, _, t, _, _ => nomatch t
  | _, _, .dice _, _, t, _, _ => nomatch t
  | _, _, .cls _, _, t, _, _ => nomatch t
  | _, _, .exn _ _ _, _, t, _, _ => nomatch t
  | _, _, .lsk _ _ _, _, t, _, _ => nomatch t
  | _, _, .dit _ _ _ _, _, t, _, _ => nomatch t
theorem RepAll.uniq (hI : ∀ a us vs, SqT K H a us → SqT K H a vs → us = vs) : ∀ {vs : List V} {ds : List D}, RepAll K H vs ds → ∀ {ds' : List D}, (∀ d ∈ ds, TupD d) → (∀ d ∈ ds', TupD d) → RepAll K H vs ds' → ds = ds'
  | _, _, .nil, _, _, _, r => by cases r; rfl
  | _, _, .cons h hs, ds', t, t', r => by
    cases r with
    | cons h2 hs2 =>
      rw [Rep.uniq hI h (t _ (List.mem_cons_self ..)) (t' _ (List.mem_cons_self ..)) h2, RepAll.uniq hI hs (fun d hd => t d (List.mem_cons_of_mem _ hd)) (fun d hd => t' d (List.mem_cons_of_mem _ hd)) hs2]
end
end
section
variable {X : Cx} {K : PySem.W.Frag} {C : Addr} {k n : Nat} {g : Fn}
/-- what the own == says of two instances whose first fields differ -/
def NeTo (K : PySem.W.Frag) (g : Fn) (a b : Addr) (H : Hp) : Prop := ∃ W C ns ns2 x0 y0 xs ys, Gx W H ∧ Rep K W (.ref a) (.obj C ns (x0 :: xs)) ∧ Rep K W (.ref b) (.obj C ns2 (y0 :: ys)) ∧ TupD x0 ∧ TupD y0 ∧ x0 ≠ y0 ∧ g [.obj C ns (x0 :: xs), .obj C ns2 (y0 :: ys)] (fun d => d = .bl false) F0
theorem NeTo.ne {pins : List (Addr × Obj)} {s : Shared} {σ : L2.St} {H : Hp} {a b : Addr} (I : Inv X pins σ H s) (h : NeTo X.K g a b H) : a ≠ b := by
  rintro rfl
  obtain ⟨W, C, ns, ns2, x0, y0, xs, ys, hg, r1, r2, t1, t2, hne, _⟩ := h
  cases r1 with
  | obj k1 k2 k3 =>
  cases r2 with
  | obj k4 k5 k6 =>
  rw [k1] at k4
  cases k4
  generalize List.map Prod.snd _ = vs at k3 k6
  cases k3 with
  | cons p1 p2 =>
  cases k6 with
  | cons p3 p4 =>
  exact hne (Rep.uniq (fun a us vs h1 h2 => I.tuple_inj h1 h2) (p1.gx hg) t1 t2 (p3.gx hg))
end
end Pu
set_option Elab.async false
set_option maxRecDepth 100000
set_option maxHeartbeats 1000000
set_option linter.all false
set_option pp.maxSteps 3000
namespace Pu
open PySem PySem.Spec PyProof.Rows L2 Ly
end Pu
set_option Elab.async false
set_option maxRecDepth 100000
set_option maxHeartbeats 1000000
set_option linter.all false
set_option pp.maxSteps 3000
namespace Pu
open PySem PySem.Spec PyProof.Rows L2 Ly
def keyDs : List D → Option (List Key)
  | [] => some []
  | d :: ds => match keyD d, keyDs ds with
    | some k, some r => some (k :: r)
    | _, _ => none
def keyTD : D → Option (List Key)
  | .tup ds => keyDs ds
  | _ => none
def valDt : List (List Key) → List D → List Key → Option D
  | k' :: ks, d :: ds, k => if k' = k then some d else valDt ks ds k
  | _, _, _ => none
def putKst (ks : List (List Key)) (k : List Key) : List (List Key) := if (ks.any fun x => decide (x = k)) = true then ks else ks ++ [k]
def putDst (ks : List (List Key)) (ds : List D) (k : List Key) (d : D) : List D := if (ks.any fun x => decide (x = k)) = true then List.zipWith (fun x y => if x = k then d else y) ks ds else ds ++ [d]
section
variable {K : PySem.W.Frag} {W H : Hp}
theorem keys_vs : ∀ {vs : List V} {ds : List D} {k : List Key}, RepAll K W vs ds → keyDs ds = some k → vs = k.map kV
  | _, _, k, .nil, h => by cases h; rfl
  | _, _, k, .cons (d := d) (ds := ds) r rs, h => by
    unfold keyDs at h
    cases c : keyD d with
    | none => rw [c] at h; cases h
    | some k0 =>
      cases c2 : keyDs ds with
      | none => rw [c, c2] at h; cases h
      | some r0 =>
        rw [c, c2] at h
        cases h
        rw [key_v r c, keys_vs rs c2]
        rfl
theorem key_vt {v : V} {d : D} {k : List Key} (r : Rep K W v d) (h : keyTD d = some k) : ∃ b, v = .ref b ∧ W b = some (.tup (k.map kV)) := by
  cases r with
  | @tup a vs ds h1 h2 h3 =>
    have := keys_vs h2 (show keyDs ds = some k from h)
    subst this
    exact ⟨a, rfl, h1⟩
  | _ => cases h
theorem rep_kts : ∀ k : List Key, RepAll K W (k.map kV) (k.map kD)
  | [] => .nil
  | k :: r => .cons (rep_kV k) (rep_kts r)
theorem val_vt {k : List Key} : ∀ {kvs : List (List Key × V)} {ds : List D}, RepAll K W (kvs.map Prod.snd) ds → (valV kvs k = none ∧ valDt (kvs.map Prod.fst) ds k = none) ∨ ∃ v d, valV kvs k = some v ∧ valDt (kvs.map Prod.fst) ds k = some d ∧ Rep K W v d
  | [], _, _ => .inl ⟨rfl, rfl⟩
  | (k', v) :: kvs, d :: ds, .cons r rs => by
    unfold valV
    rw [List.find?_cons, List.map_cons]
    by_cases h : k' = k
    · refine .inr ⟨v, d, ?_, ?_, r⟩
      · rw [decide_eq_true h]
        rfl
      · show (if k' = k then some d else _) = some d
        rw [if_pos h]
    · rw [decide_eq_false h]
      have e : valDt (k' :: kvs.map Prod.fst) (d :: ds) k = valDt (kvs.map Prod.fst) ds k := by
        show (if k' = k then some d else _) = _
        rw [if_neg h]
      rw [e]
      exact val_vt rs
theorem any_kt {k : List Key} : ∀ kvs : List (List Key × V), (kvs.any fun kv => decide (kv.1 = k)) = ((kvs.map Prod.fst).any fun x => decide (x = k))
  | [] => rfl
  | p :: kvs => by rw [List.any_cons, List.map_cons, List.any_cons, any_kt kvs]
theorem rep_putt {k : List Key} {v : V} {d : D} {kvs : List (List Key × V)} {ds : List D} (r : Rep K W v d) (rs : RepAll K W (kvs.map Prod.snd) ds) : (putK kvs k v).map Prod.fst = putKst (kvs.map Prod.fst) k ∧ RepAll K W ((putK kvs k v).map Prod.snd) (putDst (kvs.map Prod.fst) ds k d) := by
  unfold putK putKst putDst
  rw [any_kt]
  by_cases h : ((kvs.map Prod.fst).any fun x => decide (x = k)) = true
  · rw [if_pos h, if_pos h, if_pos h]
    clear h
    have : ∀ {kvs : List (List Key × V)} {ds : List D}, RepAll K W (kvs.map Prod.snd) ds → (kvs.map fun kv => if kv.1 = k then (kv.1, v) else kv).map Prod.fst = kvs.map Prod.fst ∧ RepAll K W ((kvs.map fun kv => if kv.1 = k then (kv.1, v) else kv).map Prod.snd) (List.zipWith (fun x y => if x = k then d else y) (kvs.map Prod.fst) ds) := by
      intro kvs
      induction kvs with
      | nil =>
        intro ds h
        cases h
        exact ⟨rfl, .nil⟩
      | cons p kvs ih =>
        intro ds h
        cases h with
        | cons r1 rs =>
          obtain ⟨h1, h2⟩ := ih rs
          refine ⟨?_, ?_⟩
          · rw [List.map_cons, List.map_cons, h1, List.map_cons]
            congr 1
            split <;> rfl
          · rw [List.map_cons, List.map_cons, List.map_cons, List.zipWith_cons_cons]
            refine .cons ?_ h2
            split
            · exact r
            · exact r1
    exact this rs
  · rw [if_neg h, if_neg h, if_neg h]
    refine ⟨by rw [List.map_append]; rfl, ?_⟩
    rw [List.map_append]
    exact rs.app (.one r)
end
section
variable {X : Cx} {K : PySem.W.Frag} {E : XK} {W0 H0 : Hp} {F G L : FE} {T U : FT} {A N : FA} {S S' : FS} {g : Fn} {tg e a b o : Expr} {es : List Expr} {p pos apos : Pos} {i j k n : Nat} {x m f : Str} {C : Addr} {st : Stmt} {body : List Stmt}
def fGetT (F G : FE) : FE := fun ρ Q Z => F ρ (fun d => ∃ ks ds, d = .dit ks ds ∧ G ρ (fun y => ∃ k v, keyTD y = some k ∧ valDt ks ds k = some v ∧ Q v) Z) Z
theorem d_getT (hu : X.A.units + 1 < cLine) (ho : PE X o (tDT K E F)) (hi : PE X a (tD K E G)) (hs : NoSl a) : PE X (.Subscript o a pos) (tD K E (fGetT F G)) := (pe_dget hu ho hi hs).mono fun σ H Qh ⟨W0, H0, W, ρ, Q, Z, st, f, k, x⟩ => by
  refine ⟨W0, H0, W, ρ, _, Z, st, f, fun v W1 H1 d e1 r ⟨ks, ds, z, q⟩ => ?_, x⟩
  subst z
  refine ⟨W0, H0, W1, ρ, _, Z, st.ext e1, q, fun v2 W2 H2 d2 e2 r2 ⟨kk, u, hk, hv, q2⟩ => ?_, x.ext e1⟩
  obtain ⟨ad, kvs, h1, h2, h3, h4, h5⟩ := (r.ext e2).dit_inv e2.s
  subst h3
  rcases val_vt (k := kk) h4 with ⟨g1, g2⟩ | ⟨w, d', g1, g2, g3⟩
  · rw [hv] at g2; cases g2
  · rw [hv] at g2
    cases g2
    obtain ⟨b, hb1, hb2⟩ := key_vt r2 hk
    exact ⟨ad, w, h1, .inr ⟨kvs, kk, b, h2, hb1, e2.s _ _ hb2, g1.symm⟩, k _ W2 H2 _ (e1.trans e2) g3 q2⟩
/-- an expression that makes a dict -/
abbrev FDt := Env → (List (List Key) → List D → Prop) → ZX → Prop
def tDDt (K : PySem.W.Frag) (E : XK) (F : FDt) : TE := fun σ H Qh => ∃ W0 H0 W ρ Q Z, Sat K W0 H0 W ρ σ H ∧ F ρ Q Z ∧
  (∀ p kvs W' H' ds, Ex W H W' H' → H p = none → W' p = none → H' p = some (.dT kvs) → RepAll K W' (kvs.map Prod.snd) ds → kvs.length ≤ sizeLine → Q (kvs.map Prod.fst) ds → Qh (.ref p) H') ∧ XC K E W H Z
variable {Fd : FDt}
def fDit0 : FDt := fun _ Q _ => Q [] []
theorem d_dit0 (h : PE X e tDNewT) : PE X e (tDDt K E fDit0) := h.mono fun σ H Qh ⟨W0, H0, W, ρ, Q, Z, st, f, k, x⟩ p hp => k p [] W _ [] (Ex.hid st.see hp) hp (st.see.free hp) upd_same .nil (by decide) f
def sNewT (i : Nat) (F : FDt) : FS := fun ρ De => F ρ (fun ks ds => De.nx (ρ.set i (.dit ks ds))) De.ex
theorem d_newT (he : PE X e (tDDt K E Fd)) (hg : PG X tg (gName i)) (hs : swapsWithSole [tg] e pos.line X.env = pure false := by rfl) (hw : swappedStores [tg] e X.env = pure none := by rfl)
    (h1 : (assignEach [tg] X.env).map (·.2) = [assign tg X.env] := by rfl) : PS X (.Assign [tg] e pos) (tDS K W0 H0 E (sNewT i Fd)) := (ps_asg he hg hs hw h1).mono fun D σ H ⟨W, ρ, De, s, q, o⟩ =>
  ⟨W0, H0, W, ρ, _, _, s, q, fun p vs W' H' ds e hp hw h' r n z => o.nx W' _ _ H' e.w (s.put (b := .dit _ ds) e hp ⟨p, vs, rfl, rfl, hw, s.ex.h.free hp, h', rfl, r, n⟩) z, o.xc s⟩
/-- x[k] = v of an own dict -/
def sPutT (i : Nat) (G F : FE) : FS := fun ρ De => F ρ (fun d => ∃ ks ds, ρ[i]? = some (.dit ks ds) ∧ G ρ (fun y => ∃ k, keyTD y = some k ∧ ks.length < sizeLine ∧ De.nx (ρ.set i (.dit (putKst ks k) (putDst ks ds k d)))) De.ex) De.ex
theorem Sat.chgT {W H : Hp} {ρ : Env} {σ : L2.St} (h : Sat K W0 H0 W ρ σ H) {p : Addr} {ks ms : List (List Key)} {ds es : List D} {kvs : List (List Key × V)} (hi : ρ[i]? = some (.dit ks ds)) (hs : σ[i]? = some (some (.ref p))) (k : kvs.map Prod.fst = ms) (r : RepAll K W (kvs.map Prod.snd) es) (hn : kvs.length ≤ sizeLine) : Sat K W0 H0 W (ρ.set i (.dit ms es)) σ (upd H p (.dT kvs)) := by
  obtain ⟨oa, h1, h2⟩ := h.rep
  obtain ⟨s, h3, q, vs, h4, h5, h6, h7, h8, _⟩ := h2 i _ hi
  have hq : q = p := by
    rw [h3, h5] at hs
    cases hs
    rfl
  subst hq
  have hσ : σ.set i (some (.ref q)) = σ := by
    apply List.ext_getElem?
    intro j
    by_cases e : j = i
    · subst e
      rw [List.getElem?_set_self (List.getElem?_eq_some_iff.mp hs).1, hs]
    · rw [List.getElem?_set_ne (Ne.symm e)]
  rw [← hσ]
  refine sat_set (o := some q) (Ex.mut h.ex h7 h6) h.len h1 (fun j p z hj _ hp => ?_) (fun j b hj hb => ?_) ⟨q, kvs, rfl, rfl, h6, h7, upd_same, k, r, hn⟩
  · cases z
    exact hj (h1 j i q hp h4)
  · obtain ⟨s', h11, h12⟩ := h2 j b hb
    exact ⟨s', h11, h12.mut (fun z => hj (h1 j i q z h4)) fun x z => by rw [h8] at z; cases z⟩
theorem Sat.ownT {W H : Hp} {ρ : Env} {σ : L2.St} (h : Sat K W0 H0 W ρ σ H) {ks : List (List Key)} {ds : List D} (hi : ρ[i]? = some (.dit ks ds)) : ∃ p kvs, σ[i]? = some (some (.ref p)) ∧ H p = some (.dT kvs) ∧ kvs.map Prod.fst = ks ∧ RepAll K W (kvs.map Prod.snd) ds ∧ kvs.length ≤ sizeLine := by
  obtain ⟨oa, _, h2⟩ := h.rep
  obtain ⟨s, h3, p, kvs, _, h4, _, _, h5⟩ := h2 i _ hi
  exact ⟨p, kvs, by rw [h3, h4], h5⟩
theorem d_putT (h : PS X st (sDPut (tVar i) (tD K E G) (tD K E F))) : PS X st (tDS K W0 H0 E (sPutT i G F)) := h.mono fun D σ H ⟨W, ρ, De, s, q, o⟩ => by
  refine ⟨W0, H0, W, ρ, _, _, s, q, fun v W1 H1 d e1 r1 ⟨ks, ds, hi, q1⟩ => ?_, o.xc s⟩
  have s1 := s.ext e1
  obtain ⟨p, kvs, h1, _⟩ := s1.ownT hi
  refine ⟨.ref p, h1, W0, H0, W1, ρ, _, _, s1, q1, fun y W2 H2 dk e2 r2 ⟨kk, hk, hn, q2⟩ => ?_, o.xc s1⟩
  have s2 := s1.ext e2
  obtain ⟨p', us, g1, g2, g3, g4, g5⟩ := s2.ownT hi
  rw [h1] at g1
  cases g1
  subst g3
  have hl : us.length < sizeLine := by
    rw [List.length_map] at hn
    exact hn
  obtain ⟨h6, h7⟩ := rep_putt (k := kk) (r1.gx e2.w) g4
  obtain ⟨b, hb1, hb2⟩ := key_vt r2 hk
  refine ⟨p, _, rfl, .inr ⟨us, kk, b, g2, hb1, e2.s _ _ hb2, hl, rfl⟩, ?_⟩
  exact o.nx W2 _ σ _ (e1.trans e2).w (s2.chgT hi h1 h6 h7 (by have := Ly.putK_len us kk v; omega)) q2
/-- an own dict is given away -/
theorem Sat.demT {W H : Hp} {ρ : Env} {σ : L2.St} (h : Sat K W0 H0 W ρ σ H) {ks : List (List Key)} {ds : List D} (hi : ρ[i]? = some (.dit ks ds)) : ∃ W', Gx W W' ∧ Sat K W0 H0 W' (ρ.set i (.val (.dit ks ds))) σ H := by
  obtain ⟨oa, h1, h2⟩ := h.rep
  obtain ⟨s, h3, q, vs, h4, h5, h6, h7, h8, h9, h10, h11⟩ := h2 i _ hi
  have hσ : σ.set i (some (.ref q)) = σ := by
    apply List.ext_getElem?
    intro j
    by_cases e : j = i
    · subst e
      rw [List.getElem?_set_self (List.getElem?_eq_some_iff.mp h3).1, h3, h5]
    · rw [List.getElem?_set_ne (Ne.symm e)]
  refine ⟨upd W q (.dT vs), Gx.new h6, ?_⟩
  have e2 : Gx W (upd W q (.dT vs)) := Gx.new h6
  rw [← hσ]
  refine sat_set (o := none) (Ex.see h.ex h7 h6 h8) h.len h1 (fun _ _ z => by cases z) (fun j b hj hb => ?_) ⟨rfl, _, rfl, .dit (.inl upd_same) h9 (h10.gx e2) h11⟩
  obtain ⟨s', h11, h12⟩ := h2 j b hb
  refine ⟨s', h11, ?_⟩
  have hne : ∀ p, oa j = some p → p ≠ q := fun p hp z => hj (h1 j i q (by rw [hp, z]) h4)
  cases b with
  | un => exact h12
  | val d =>
    obtain ⟨k1, v, k2, k3⟩ := h12
    exact ⟨k1, v, k2, k3.gx e2⟩
  | lst es =>
    obtain ⟨p, us, k1, k2, k3, k4, k5, k6, k7⟩ := h12
    exact ⟨p, us, k1, k2, by rw [upd_ne (hne p k1)]; exact k3, k4, k5, k6.gx e2, k7⟩
  | dic ks es =>
    obtain ⟨p, us, k1, k2, k3, k4, k5, k6, k7, k8⟩ := h12
    exact ⟨p, us, k1, k2, by rw [upd_ne (hne p k1)]; exact k3, k4, k5, k6, k7.gx e2, k8⟩
  | obj a C ns es =>
    obtain ⟨p, dx, us, k0, k1, k2, k3, k4, k5, k6, k7, k8, k9, k10⟩ := h12
    exact ⟨p, dx, us, k0, k1, k2, by rw [upd_ne (hne p k1)]; exact k3, k4, k5, k6, k7, k8, k9.gx e2, k10⟩
  | bor p ks es =>
    obtain ⟨k1, k2, k3, od, kvs, k5, k6, k7, k8⟩ := h12
    exact ⟨k1, k2, by rw [upd_ne (hne p k1)]; exact k3, od, kvs, k5, k6, k7.gx e2, k8⟩
  | dit ks es =>
    obtain ⟨p, us, k1, k2, k3, k4, k5, k6, k7, k8⟩ := h12
    exact ⟨p, us, k1, k2, by rw [upd_ne (hne p k1)]; exact k3, k4, k5, k6, k7.gx e2, k8⟩
def demBT (i : Nat) (ρ : Env) : Env := match ρ[i]? with
  | some (.dit ks ds) => ρ.set i (.val (.dit ks ds))
  | _ => ρ
def sDemT (i : Nat) (S : FS) : FS := fun ρ De => S (demBT i ρ) De
theorem d_demT (i : Nat) (h : PS X st (tDS K W0 H0 E S)) : PS X st (tDS K W0 H0 E (sDemT i S)) := h.mono fun D σ H ⟨W, ρ, De, s, q, o⟩ => by
  unfold sDemT demBT at q
  split at q
  · rename_i ks ds hi
    obtain ⟨W', g, s'⟩ := s.demT hi
    exact ⟨W', _, De, s', q, o.up g⟩
  · exact ⟨W, ρ, De, s, q, o⟩
theorem adopt_keys {W H : Hp} : ∀ {kvs : List (List Key × V)} {bs : List Addr}, Gx W H → IsKeys H kvs bs → (∀ k ∈ kvs.map Prod.fst, k.length ≤ sizeLine) → ∃ W', Ex W H W' H ∧ RepAll K W' (bs.map V.ref) (kvs.map fun kv => .tup (kv.1.map kD))
  | _, _, s, .nil, _ => ⟨W, Ex.refl s, .nil⟩
  | kv :: kvs, b :: bs, s, .cons h t, hl => by
    have e1 := Ex.adopt s h
    obtain ⟨W', e2, r⟩ := adopt_keys e1.s t fun k hk => hl k (List.mem_cons_of_mem _ hk)
    refine ⟨W', e1.trans e2, .cons (.tup (e2.w _ _ upd_same) (rep_kts _) ?_) r⟩
    rw [List.length_map]
    exact hl _ (List.mem_cons_self ..)
def rListDt : List V → Hp → VK → Prop := fun xs H Q => ∃ d kvs, xs = [V.ref d] ∧ Rd H d (.dT kvs) ∧ ∀ p bs, H p = none → IsKeys H kvs bs → Q (.ref p) (upd H p (.lst (bs.map V.ref)))
theorem c_listDt (hc : X.calm = true) : CallR X (.type "list") rListDt := call_list_dT hc
def RListDt (ds : List D) (Q : List D → Prop) : Prop := ∃ ks es, ds = [.dit ks es] ∧ (∀ k ∈ ks, k.length ≤ sizeLine) ∧ Q (ks.map fun k => .tup (k.map kD))
theorem keys_len : ∀ {kvs : List (List Key × V)} {bs : List Addr} {H : Hp}, IsKeys H kvs bs → bs.length = kvs.length
  | _, _, _, .nil => rfl
  | _, _, _, .cons _ t => by rw [List.length_cons, List.length_cons, keys_len t]
theorem s_listDt : CSndN K rListDt RListDt := fun W H xs ds Q Qh s rr ⟨ks, es, z, hk, q⟩ k => by
  subst z
  obtain ⟨v, rfl, r⟩ := ts1 rr
  obtain ⟨a, kvs, rfl, h2, rfl, h4, h5⟩ := r.dit_inv s
  refine ⟨a, kvs, rfl, h2, fun l bs hl hb => ?_⟩
  obtain ⟨W', e, rk⟩ := adopt_keys (K := K) s hb hk
  refine k l _ W' _ _ (e.trans (Ex.hid e.s hl)) hl (e.s.free hl) upd_same rk (by rw [List.length_map, keys_len hb]; exact h5) ?_
  rw [List.map_map] at q
  exact q
end
end Pu
set_option Elab.async false
set_option maxRecDepth 100000
set_option maxHeartbeats 1000000
set_option linter.all false
set_option pp.maxSteps 3000
namespace Pu
open PySem PySem.Spec PyProof.Rows L2 Ly
end Pu
set_option Elab.async false
set_option maxRecDepth 100000
set_option maxHeartbeats 1000000
set_option linter.all false
set_option pp.maxSteps 3000
namespace Pu
open PySem PySem.Spec PyProof.Rows L2 Ly
end Pu
set_option Elab.async false
set_option maxRecDepth 100000
set_option maxHeartbeats 1000000
set_option linter.all false
set_option pp.maxSteps 3000
namespace Pu
open PySem PySem.Spec PyProof.Rows L2 Ly PySem.W PySem.SeqAt
section
variable {prog : Program} {w : World} {A : Around} {E : Value → Shared → Prop} {s : Shared}
theorem call_tuple_lt {Q : Value → Shared → Prop} {l b : Addr} {items items2 : Array Value} {e r : Nat → Bool} (hl : s.heap.IsTuple l items) (hb : s.heap.IsTuple b items2)
    (he : ∀ j (h1 : j < items.size) (h2 : j < items2.size), EqAt A.in1 s items[j] items2[j] (e j)) (hr : ∀ j (h1 : j < items.size) (h2 : j < items2.size), e j = false → RcLt A.in1 s items[j] items2[j] (r j))
    (h : Q (.bool (firstLt e r (decide (items.size < items2.size)) (List.range (min items.size items2.size)))) s) : wpAny (model prog w) A (call (.builtin "tuple.__lt__") [.ref l, .ref b]) Q E s := by
  obtain ⟨⟨cls, dd, data, sl⟩, ho, hc, n, hd⟩ := id hl
  obtain ⟨⟨cls2, dd2, data2, sl2⟩, ho2, hc2, n2, hd2⟩ := id hb
  simp only at hc hd hc2 hd2
  subst hc hd hc2 hd2
  exact call_meets PySem.F.slot_tuple_lt ⟨_, ho, rfl⟩ PySem.F.entry_tuple_lt (PySem.F.args_tuple_lt_2 _ _) (tuple_ltAt l b items items2 n n2 dd dd2 sl sl2 e r) ⟨ho, ho2, he, hr, h⟩
theorem oneLt_tup {f : Bool} {xs ys : List PyData} {a b : Value} {as bs : List Addr} {Q : Bool → Shared → Prop} (ra : Reads s.heap a (.tuple xs) as) (rb : Reads s.heap b (.tuple ys) bs) (h : alike (.tuple xs) (.tuple ys) = true)
    (hu : A.units + min (PyData.tuple xs).depth (PyData.tuple ys).depth < cLine) (hq : Q (dataLt (.tuple xs) (.tuple ys)) s) : wpAny (model prog w) A (oneLt' f a b) Q E s := by
  cases f with
  | false => exact oneLt_alike (fun z => by cases z) ra rb h (fun z => by cases z) hu hq
  | true =>
    have hal : alikeAll xs ys = true := by simpa [alike] using h
    cases ra with
    | @tuple l o vs n _ as₁ h1 h2 h3 h4 =>
      cases rb with
      | @tuple l' o' vs' n' _ bs₁ k1 k2 k3 k4 =>
        have n1 : vs.size = xs.length := by simpa using ReadsAll.length _ _ _ h4
        have n2 : vs'.size = ys.length := by simpa using ReadsAll.length _ _ _ k4
        rw [dataLt_tuple, ← firstLt_toks xs ys hal, ← n1, ← n2] at hq
        rw [oneLt'_eq]
        simp only [if_true]
        refine wpAny_bind (wpAny_cRoomFor (room_here hu) ?_)
        refine wpAny_bind (wpAny_callSpecialIfBound?_slot (T := "tuple") ⟨_, h1, h2⟩ PySem.F.slot_tuple_lt (call_tuple_lt (e := pairEq xs ys) (r := fun j => dataLt (xs.getD j .none) (ys.getD j .none)) ⟨_, h1, h2, _, h3⟩ ⟨_, k1, k2, _, k3⟩ (fun j j1 j2 => ?_) (fun j j1 j2 hj => ?_) ?_))
        · have := eqAt_alikeAll xs ys A.in1 s vs.toList vs'.toList _ _ h4 k4 hal (room_in hu) j (by simpa using j1) (by simpa using j2)
          simpa using this
        · have := rcLt_alikeAll xs ys A.in1 s vs.toList vs'.toList _ _ h4 k4 hal (room_in hu) j (by simpa using j1) (by simpa using j2) hj
          simpa using this
        · exact wpAny_truthy_bool hq
/-- tuples, and the first item of each, if there is one -/
inductive TupFs (h : Heap) : List Value → List (Option Value) → Prop
  | nil : TupFs h [] []
  | cons {a : Addr} {o : Obj} {xs : Array Value} {n : Nat} {vs : List Value} {fs : List (Option Value)} (ho : h.get? a = some o) (hc : o.cls = .type "tuple") (hd : o.data = .seq xs n) (r : TupFs h vs fs) : TupFs h (.ref a :: vs) (xs[0]? :: fs)
theorem tup_firsts {M : Model} : ∀ {vs : List Value} {fs : List (Option Value)} {Q : List (Option Value) → Shared → Prop}, TupFs s.heap vs fs → Q fs s → wpAny M A (vs.mapM firstOfTuple') Q E s
  | _, _, _, .nil, h => by rw [List.mapM_nil]; exact wpAny_pure h
  | _, _, Q, .cons ho hc hd t, h => by
    rw [List.mapM_cons]
    refine wpAny_bind ?_
    rw [kas_first_eq]
    refine wpAny_bind (Looks.here (show Looks M s.heap (typeOf (.ref _)) _ from (Looks.ld ho).andThen .now) ?_)
    rw [hc, if_neg (by first | decide | simp)]
    refine wpAny_bind (listItems_at ho hd (wpAny_pure ?_))
    exact wpAny_bind (tup_firsts (Q := fun bs s' => wpAny M A (pure (_ :: bs)) Q E s') t (wpAny_pure h))
theorem tup_looks {M : Model} : ∀ {vs : List Value} {fs : List (Option Value)}, TupFs s.heap vs fs → ∀ v ∈ vs, Looks M s.heap (typeOf v) (.type "tuple")
  | _, _, .cons ho hc hd t, v, hv => by
    rcases List.mem_cons.mp hv with rfl | hv
    · exact hc ▸ (show Looks M s.heap (typeOf (.ref _)) _ from (Looks.ld ho).andThen .now)
    · exact tup_looks t v hv
theorem tup_kind0 {M : Model} {vs : List Value} {fs : List (Option Value)} {Q : SortKind → Shared → Prop} (t : TupFs s.heap vs fs) (h2 : 2 ≤ vs.length) (hn : none ∈ fs) (h : Q (if (fs[0]?.bind id).isSome = true then general' else oneType') s) : wpAny M A (keyKind' vs.toArray) Q E s := by
  rw [keyKind'_eq, List.mapM_toArray, map_eq_pure_bind]
  refine wpAny_bind (wpAny_bind (tup_firsts t (wpAny_pure ?_)))
  have hall : (fs.toArray.all fun x => x.isSome) = false := by
    rw [Bool.eq_false_iff]
    intro z
    simp only [List.all_toArray, List.all_eq_true] at z
    exact absurd (z none hn) (by simp)
  rw [if_neg (by rw [hall]; simp)]
  have e0 : fs.toArray[0]? = fs[0]? := by simp
  rw [e0]
  by_cases c : (fs[0]?.bind id).isSome = true
  · rw [if_pos c] at h ⊢
    exact wpAny_pure h
  · rw [if_neg c] at h ⊢
    rw [oneTypeOnly'_eq, List.mapM_toArray, map_eq_pure_bind]
    refine wpAny_bind (wpAny_bind (wpAny_bind (kas_mapM (r := Value.type "tuple") _ (fun v hv Q' hq => (tup_looks t v hv).here hq) (wpAny_pure ?_))))
    obtain ⟨v₁, rest, rfl⟩ : ∃ v₁ rest, vs = v₁ :: rest := by
      match vs, h2 with
      | v₁ :: rest, _ => exact ⟨v₁, rest, rfl⟩
    have hall2 : ((List.map (fun _ => Value.type "tuple") (v₁ :: rest)).toArray.all fun x => x == Value.type "tuple") = true := by
      simp only [List.all_toArray, List.all_map, List.all_eq_true]
      intro _ _
      rfl
    have h0 : (List.map (fun _ => Value.type "tuple") (v₁ :: rest)).toArray[0]? = some (Value.type "tuple") := by simp
    rw [h0]
    simp only [hall2, if_true]
    exact wpAny_pure (wpAny_pure h)
theorem each_tupFs {h : Heap} : ∀ {vs : List Value} {ds : List PyData}, EachIs (fun v d => ∃ as, Reads h v d as) vs ds → (∀ d, d ∈ ds → ∃ xs, d = .tuple xs) → ∃ fs, TupFs h vs fs ∧ ((∃ d ∈ ds, d = .tuple []) → none ∈ fs)
  | _, _, .nil, _ => ⟨[], .nil, fun ⟨_, h, _⟩ => by cases h⟩
  | _, _, .cons (b := d) ⟨as, r⟩ t, ht => by
    obtain ⟨fs, h1, h2⟩ := each_tupFs t fun d hd => ht d (List.mem_cons_of_mem _ hd)
    obtain ⟨xs, rfl⟩ := ht d (List.mem_cons_self ..)
    cases r with
    | @tuple a o vs n _ _ ho hc hd hr =>
      refine ⟨_, .cons ho hc hd h1, fun ⟨d', m, e⟩ => ?_⟩
      rcases List.mem_cons.mp m with q | m
      · rw [e] at q
        have q : xs = [] := by injection q with q; exact q.symm
        subst q
        have hz : vs.toList.length = 0 := by simpa using ReadsAll.length _ _ _ hr
        have e0 : vs[0]? = none := by
          rw [Array.getElem?_eq_none_iff]
          rw [Array.length_toList] at hz
          omega
        rw [e0]
        exact List.mem_cons_self ..
      · exact List.mem_cons_of_mem _ (h2 ⟨d', m, e⟩)
theorem sorts_tups {vs : List Value} {ds : List PyData} (e : EachIs (fun v d => ∃ as, Reads s.heap v d as) vs ds) (hal : AllAlike ds) (ht : ∀ d, d ∈ ds → ∃ xs, d = .tuple xs) (hu : ∀ d, d ∈ ds → A.units + d.depth < cLine) : SortsAt prog w A s (dataKind s.heap ds) vs := by
  by_cases c : ∃ d ∈ ds, d = .tuple []
  · have room : ∀ {d d' : PyData}, d ∈ ds → A.units + min d.depth d'.depth < cLine := fun {d d'} hd => Nat.lt_of_le_of_lt (Nat.add_le_add_left (Nat.min_le_left _ _) _) (hu d hd)
    have lt : ∀ (f : Bool) (E : Value → Shared → Prop) (x y : Value) (a b : (dataKind s.heap ds).α) {Q : Bool → Shared → Prop}, (dataKind s.heap ds).keyOf x = some a → (dataKind s.heap ds).keyOf y = some b → Q ((dataKind s.heap ds).blt a b) s → wpAny (model prog w) A (oneLt' f x y) Q E s := fun f E x y a b Q ha hb hq => by
      obtain ⟨d, as, hd, ra, rfl⟩ := dataKind_inv ha
      obtain ⟨d', as', hd', rb, rfl⟩ := dataKind_inv hb
      obtain ⟨xs, rfl⟩ := ht d hd
      obtain ⟨ys, rfl⟩ := ht d' hd'
      exact oneLt_tup ra rb (hal _ hd _ hd') (room hd) hq
    obtain ⟨fs, t, hn⟩ := each_tupFs e ht
    refine ⟨fun v hv => ?_, (if (fs[0]?.bind id).isSome = true then general' else oneType'), ?_, fun h2 E Q hq => tup_kind0 t h2 (hn c) hq⟩
    · obtain ⟨d, hd, as, r⟩ := e.left v hv
      exact ⟨_, dataKind_some hal hd r⟩
    · by_cases z : (fs[0]?.bind id).isSome = true
      · rw [if_pos z]
        exact fun E x y a b Q ha hb hq => lt false E x y a b ha hb hq
      · rw [if_neg z]
        exact fun E x y a b Q ha hb hq => lt true E x y a b ha hb hq
  · refine SortsAt.data e hal (.inl fun d hd => ?_) hu
    obtain ⟨xs, rfl⟩ := ht d hd
    cases xs with
    | nil => exact absurd ⟨_, hd, rfl⟩ c
    | cons x r => exact ⟨x, r, rfl⟩
theorem sorted_tups0 {β : Type} {vs : List Value} {bs : List β} {enc : β → PyData} {R : Value → β → Prop} {l : Addr} {Q : Value → Shared → Prop} (hl : s.heap.IsList l vs.toArray) (e : EachIs R vs bs) (er : EachIs (fun v b => ∃ as, Reads s.heap v (enc b) as) vs bs) (hal : AllAlike (bs.map enc)) (hk : ∀ d ∈ bs.map enc, ∃ xs, d = .tuple xs) (hL : bs.length ≤ sizeLine)
    (hu : ∀ b, b ∈ bs → A.units + 2 + (enc b).depth < cLine) (h : ∀ out, out.length = bs.length → EachIs R out (bs.mergeSort (dataLe false enc)) → Q (.ref (s.heap.objs.size + 1)) { s with heap := sortedAll s.heap vs (List.toArray out) }) :
    wpAny (model prog w) A (call (.builtin "sorted") [.ref l]) Q E s := by
  have er' : EachIs (fun v b => ∃ as, Reads (sortingHeap (copyHeap s.heap vs) (s.heap.objs.size + 1) vs) v (enc b) as) vs bs := er.mono fun _ _ ⟨as, r⟩ => ⟨as, PyProof.Rows.Reads.keeps (fun _ _ => sorting_copy_old) r⟩
  exact sorted_vals hl (sorts_tups (s := { s with heap := sortingHeap (copyHeap s.heap vs) (s.heap.objs.size + 1) vs }) (each_map (R := fun v d => ∃ as, Reads (sortingHeap (copyHeap s.heap vs) (s.heap.objs.size + 1) vs) v d as) enc er') hal hk (bound_map hu)) (by rw [e.length]; exact hL)
    (h _ (by rw [sortVals_length false rfl]; exact e.length) (sortVals_data false e er' hal))
end
section
variable {X : Cx} {K : PySem.W.Frag} {E : XK}
structure SrtT (xs : List D) : Prop where
  lay : ∀ x ∈ xs, (toP x).canLay0 = true
  ali : AllAlike (xs.map toP)
  tup : ∀ d ∈ xs.map toP, ∃ ys, d = .tuple ys
  dep : ∀ x ∈ xs, (toP x).depth ≤ 60
def rSortTp (K : PySem.W.Frag) : List V → Hp → VK → Prop := fun vs H Q => ∃ (a : Addr) (us : List V) (W : Hp) (xs : List D), vs = [.ref a] ∧ SqL K H a us ∧ Gx W H ∧ RepAll K W us xs ∧ SrtT xs ∧ ∀ us' p, RepAll K W us' (sortD xs) → H p = none → Q (.ref p) (upd H p (.lst us'))
theorem c_sortTp (hu : X.A.units + 64 < cLine) (hK : X.K = K := by rfl) : CallR X (.builtin "sorted") (rSortTp K) := by
  subst hK
  intro pins s σ H vs us Q I r h
  obtain ⟨a, xs, W, ds, rfl, hs, sw, rp, so, q⟩ := h
  obtain ⟨its, rv, hl, hz⟩ := I.list hs
  rw [Vals.ref1 r]
  have e := each_vals rv (rep_each (R := Rep X.K W) (fun _ _ h => h) rp)
  have len1 := rp.len
  refine sorted_tups0 (enc := toP) hl.isList e (Pu.each_mem e fun u d m ⟨v, rv', ru⟩ => Dp.reads I (toP d) v u ((rv'.gx sw).dp (so.lay d m)) ru) so.ali so.tup (by rw [← len1]; exact hz) (fun d m => by have := so.dep d m; omega) fun out hlen ho => ?_
  obtain ⟨vs', hv, hr⟩ := vals_each ho
  obtain ⟨ep, he⟩ := PyProof.Rows.sortedAll_at s.heap its out.toArray
  refine ⟨.ref _, upd H (s.heap.objs.size + 1) (.lst vs'), I.laid (t' := s.toks) (fun _ _ => PyProof.Rows.sortedAll_old) (Nat.le_succ _) ⟨?_, out, ep, hv, he⟩, rfl, q vs' _ (each_rep hr) (I.hok.fresh (Nat.le_succ _))⟩
  rw [hv.length, hlen, ← len1]
  exact hz
def RSortTp (ds : List D) (Q : List D → Prop) : Prop := ∃ xs, ds = [.lst xs] ∧ SrtT xs ∧ Q (sortD xs)
theorem s_sortTp : CSndN K (rSortTp K) RSortTp := fun W H xs ds Q Qh s rr ⟨ys, z, o, q⟩ k => by
  subst z
  obtain ⟨v, rfl, r⟩ := ts1 rr
  obtain ⟨a, vs, rfl, h2, h3, h4⟩ := r.lst_inv s
  exact ⟨a, vs, W, ys, rfl, SqL.of h2, s, h3, o, fun us' p r2 hp => k p us' W _ _ (Ex.hid s hp) hp (s.free hp) upd_same r2 (by rw [r2.len, sortD, List.length_mergeSort, ← h3.len]; exact h4) q⟩
end
end Pu
set_option Elab.async false
set_option maxRecDepth 100000
set_option maxHeartbeats 1000000
set_option linter.all false
namespace Pu
open PySem PySem.Spec PyProof.Rows L2 Ly
end Pu
set_option Elab.async false
set_option maxRecDepth 100000
set_option maxHeartbeats 1000000
set_option linter.all false
namespace Pu
open PySem PySem.Spec PyProof.Rows L2 Ly
end Pu
set_option Elab.async false
set_option maxRecDepth 100000
set_option maxHeartbeats 2000000
set_option linter.all false
namespace Pu
open PySem PySem.Spec PyProof.Rows L2 Ly PySem.W PySem.SeqAt
abbrev intP (ns : List Int) : PyData := .tuple (ns.map PyData.int)
theorem alike_ints : ∀ a b : List Int, alikeAll (a.map PyData.int) (b.map PyData.int) = true
  | [], _ => by simp [alikeAll]
  | _ :: _, [] => by simp [alikeAll]
  | x :: a, y :: b => by
    rw [List.map_cons, List.map_cons, alikeAll, alike_ints a b, alike]
    rfl
theorem alike_tups (L : List (List Int)) : AllAlike (L.map intP) := fun d hd d' hd' => by
  obtain ⟨a, _, rfl⟩ := List.mem_map.mp hd
  obtain ⟨b, _, rfl⟩ := List.mem_map.mp hd'
  show alike (.tuple _) (.tuple _) = true
  rw [alike, alike_ints]
theorem reads_ints {h : Heap} : ∀ {vs : List Value} {ns : List Int}, IntsAre vs ns → ReadsAll h vs (ns.map PyData.int) []
  | _, _, .nil => .nil
  | _, _, .cons n t r => .cons (bs := []) (as := []) (.int n t) (reads_ints r)
theorem reads_tupI {h : Heap} {b : Addr} {k : List Int} (x : TS.TupInts h (.ref b) k) : ∃ as, Reads h (.ref b) (intP k) as := by
  obtain ⟨a, xs, e, ⟨o, ho, hc, n, hd⟩, hi⟩ := x
  cases e
  exact ⟨[], .tuple ho hc hd (reads_ints hi)⟩
theorem depth_ints : ∀ ns : List Int, PyData.depthAll (ns.map PyData.int) ≤ 1
  | [] => by simp [PyData.depthAll]
  | n :: ns => by
    have := depth_ints ns
    rw [List.map_cons, PyData.depthAll, PyData.depth]
    omega
theorem depth_tupI (ns : List Int) : (intP ns).depth ≤ 2 := by
  have := depth_ints ns
  show (PyData.tuple _).depth ≤ 2
  rw [PyData.depth]
  omega
section
variable {P : Program} {w : World} {A : Around} {E : Value → Shared → Prop} {s : Shared}
theorem sorted_setG {a : Addr} {L : List (Addr × List Int)} {es : Array (Int × Value)} {ep : Nat} {t : SetTable} {Q : Value → Shared → Prop} (R : SetTR P w s.heap a L es ep t) (hh : A.handled = none) (hu : A.units + 16 < cLine)
    (hQ : ∀ s' p (out : Array Value) (c : Nat) (L0 : List (Addr × List Int)), (∀ b o, s.heap.get? b = some o → s'.heap.get? b = some o) → s'.gens = s.gens → s'.os = s.os → s.heap.objs.size ≤ p →
      s'.heap.get? p = some (seqObj "list" out c) → L0.Perm L → out.toList = (L0.mergeSort (dataLe false fun q => intP q.2)).map (fun q => Value.ref q.1) → Q (.ref p) s') :
    wpAny (model P w) A (call (.builtin "sorted") [.ref a]) Q E s := by
  obtain ⟨o, ho, hex, hd⟩ := R.ob
  have hsz := R.size
  have hfew := R.few
  refine Calls.call_function_entry kind_sorted plain_sorted entry_sorted (args_sorted1 _) ?_
  unfold Builtin.«sorted»
  refine wpAny_bind (m := checkCount "sorted" 1 1 _) (wpAny_pure ?_)
  refine wpAny_bind (collect_set (A := A.in1) hh ⟨o, ho, hex.1, hd⟩ R.fits (by unfold scanBound; omega) R.tab.ris R.led fun s1 vs k1 hz g1 o1 pm => ?_)
  have hes : es.toList.map (·.2) = L.map fun q => Value.ref q.1 := by
    rw [R.rows]
    unfold L2.rowsOf
    rw [List.map_map] <;> rfl
  rw [hes] at pm
  have ord : ∀ vs : List Value, (∀ v ∈ vs, ∃ q ∈ L, v = Value.ref q.1) → ∃ L1 : List (Addr × List Int), vs = L1.map (fun q => Value.ref q.1) ∧ ∀ q ∈ L1, q ∈ L := by
    intro vs
    induction vs with
    | nil => intro _; exact ⟨[], rfl, fun q hq => (by cases hq)⟩
    | cons v vs ih =>
      intro hv
      obtain ⟨q, hq, e⟩ := hv v List.mem_cons_self
      obtain ⟨L1, e1, hs⟩ := ih fun u hu => hv u (List.mem_cons_of_mem _ hu)
      refine ⟨q :: L1, by rw [List.map_cons, e, e1], fun r hr => ?_⟩
      rcases List.mem_cons.mp hr with z | z
      · rw [z]; exact hq
      · exact hs r z
  have one : ∀ q ∈ L, ∀ r ∈ L, q.1 = r.1 → q = r := fun q hq r hr e => by
    have a1 := R.tup q hq
    have a2 := R.tup r hr
    rw [e] at a1
    have e2 : q.2 = r.2 := a1.inj a2
    exact Prod.ext e e2
  have perm_of : ∀ L1 : List (Addr × List Int), (∀ q ∈ L1, q ∈ L) → (L1.map (fun q => Value.ref q.1)).Perm (L.map fun q => Value.ref q.1) → L1.Perm L := by
    intro L1 hs pm1
    have nL : L.Nodup := nodup_of_map R.nd
    have nref : (L.map fun q => Value.ref q.1).Nodup := by
      refine List.pairwise_map.mpr (List.Pairwise.imp_of_mem (fun {q r} hq hr hne e => ?_) nL)
      injection e with e
      exact hne (one q hq r hr e)
    have n1 : L1.Nodup := nodup_of_map (pm1.nodup_iff.mpr nref)
    refine (List.perm_ext_iff_of_nodup n1 nL).mpr fun q => ⟨hs q, fun hq => ?_⟩
    have hm : Value.ref q.1 ∈ L1.map (fun q => Value.ref q.1) := pm1.mem_iff.mpr (List.mem_map.mpr ⟨q, hq, rfl⟩)
    obtain ⟨r, hr, e⟩ := List.mem_map.mp hm
    injection e with e
    rw [← one r (hs r hr) q hq e]
    exact hr
  have hvl : vs.length < 64 := by rw [pm.length_eq, List.length_map]; exact hfew
  obtain ⟨L0, e0, hs0⟩ := ord vs fun v hv => by
    obtain ⟨q, hq, e⟩ := List.mem_map.mp (pm.mem_iff.mp hv)
    exact ⟨q, hq, e.symm⟩
  have pL : L0.Perm L := perm_of L0 hs0 (by rw [← e0]; exact pm)
  refine wpAny_bind (wpAny_newList ?_ (by rw [sizeLine_eq]; omega))
  have hoL : (s1.heap.push (seqObj "list" vs.toArray 0)).get? s1.heap.objs.size = some (seqObj "list" vs.toArray 0) := Heap.get?_push_size _ rfl
  have tk : ∀ q ∈ L, ∃ as, Reads (sortingHeap (s1.heap.push (seqObj "list" vs.toArray 0)) s1.heap.objs.size vs) (.ref q.1) (intP q.2) as := fun q hq =>
    reads_tupI (tupInts_of (P := P) (w := w) (isT_keep (R.tup q hq) fun b u e => sortingHeap_old (Nat.ne_of_lt (Heap.lt_size (k1 b u e))) (Heap.get?_push_of_some _ (k1 b u e))))
  have ev : EachIs (fun v (q : Addr × List Int) => v = Value.ref q.1) vs L0 := by
    rw [e0]
    clear e0 pL hs0
    induction L0 with
    | nil => exact .nil
    | cons q l ih => exact .cons rfl ih
  have er : EachIs (fun v (q : Addr × List Int) => ∃ as, Reads (sortingHeap (s1.heap.push (seqObj "list" vs.toArray 0)) s1.heap.objs.size vs) v (intP q.2) as) vs L0 := each_mem ev fun v q hq e => by
    rw [e]
    exact tk q (hs0 q hq)
  have hal : AllAlike (L0.map fun q => intP q.2) := by
    have := alike_tups (L0.map (·.2))
    rw [List.map_map] at this
    exact this
  have S : SortsAt P w A.in1.in1 { s1 with heap := sortingHeap (s1.heap.push (seqObj "list" vs.toArray 0)) s1.heap.objs.size vs } (dataKind _ (L0.map fun q => intP q.2)) vs :=
    sorts_tups (s := { s1 with heap := sortingHeap (s1.heap.push (seqObj "list" vs.toArray 0)) s1.heap.objs.size vs }) (each_map (R := fun v d => ∃ as, Reads _ v d as) (fun q : Addr × List Int => intP q.2) er) hal (fun d hd => by
      obtain ⟨q, _, rfl⟩ := List.mem_map.mp hd
      exact ⟨_, rfl⟩) fun d hd => by
      obtain ⟨q, _, rfl⟩ := List.mem_map.mp hd
      have := depth_tupI q.2
      show A.units + 1 + 1 + _ < cLine
      omega
  refine wpAny_bind (wpAny_holding (wpAny_call_entry slot_list_sort ⟨_, hoL, rfl⟩ entry_list_sort (list_sort_vals (s := { s1 with heap := s1.heap.push (seqObj "list" vs.toArray 0) }) hoL S (by rw [sizeLine_eq]; omega) ⟨_, rfl, ?_⟩) (args_list_sort _)))
  have hout := sortVals_data (R := fun v (q : Addr × List Int) => v = Value.ref q.1) (enc := fun q => intP q.2) false ev er hal
  obtain ⟨c, hc⟩ := sortedHeap_at (vs := vs) (out := (sortVals (dataKind (sortingHeap (s1.heap.push (seqObj "list" vs.toArray 0)) s1.heap.objs.size vs) (L0.map fun q => intP q.2)) false vs vs).toArray) hoL
  refine wpAny_pure ⟨_, rfl, hQ _ s1.heap.objs.size _ c L0 (fun b u e => ?_) g1 o1 hz hc pL ?_⟩
  · have q := k1 b u e
    have hlt := Heap.lt_size q
    show (sortedHeap (s1.heap.push (seqObj "list" vs.toArray 0)) s1.heap.objs.size vs _).get? b = some u
    rw [sortedHeap_old (Nat.ne_of_lt hlt) (by rw [size_push']; exact Nat.lt_succ_of_lt hlt)]
    exact Heap.get?_push_of_some _ q
  · have : ∀ {vs : List Value} {L : List (Addr × List Int)}, EachIs (fun v (q : Addr × List Int) => v = Value.ref q.1) vs L → vs = L.map fun q => Value.ref q.1 := fun h => by
      induction h with
      | nil => rfl
      | cons h _ ih => rw [h, ih]; rfl
    exact this hout
end
end Pu
set_option Elab.async false
set_option maxRecDepth 100000
set_option maxHeartbeats 2000000
set_option linter.all false
namespace Pu
open PySem PySem.Spec PyProof.Rows L2 Ly PySem.W PySem.SeqAt
section
variable {P : Program} {w : World} {A : Around} {E : Value → Shared → Prop} {s : Shared}
theorem alike_int (L : List Int) : AllAlike (L.map PyData.int) := fun d hd d' hd' => by
  obtain ⟨a, _, rfl⟩ := List.mem_map.mp hd
  obtain ⟨b, _, rfl⟩ := List.mem_map.mp hd'
  show alike (.int _) (.int _) = true
  rw [alike]
theorem sorted_setN {a : Addr} {S : Int → Bool} {n : Nat} {Q : Value → Shared → Prop} (R : SetR w s.heap a S n) (hh : A.handled = none) (hu : A.units + 16 < cLine) (hn1 : n ≤ 1000)
    (hQ : ∀ s' p (out : Array Value) (c : Nat) (ns : List Int), (∀ b o, s.heap.get? b = some o → s'.heap.get? b = some o) → s'.gens = s.gens → s'.os = s.os → s.heap.objs.size ≤ p →
      s'.heap.get? p = some (seqObj "list" out c) → IntsAre out.toList ns → ns.Pairwise (· < ·) → (∀ k, k ∈ ns ↔ S k = true) → ns.length = n → Q (.ref p) s') :
    wpAny (model P w) A (call (.builtin "sorted") [.ref a]) Q E s := by
  obtain ⟨o, es, ep, t, ho, hex, hd, g, nd, hm, hb, hf, hn, hr, hl⟩ := R
  refine Calls.call_function_entry kind_sorted plain_sorted entry_sorted (args_sorted1 _) ?_
  unfold Builtin.«sorted»
  refine wpAny_bind (m := checkCount "sorted" 1 1 _) (wpAny_pure ?_)
  refine wpAny_bind (collect_set (A := A.in1) hh ⟨o, ho, hex.1, hd⟩ hf hb hr hl fun s1 vs k1 hz g1 o1 pm => ?_)
  have hvl : vs.length = n := by rw [pm.length_eq, List.length_map, Array.length_toList]; exact hn
  have hI : IntsAre vs (vs.map Builtin.Re.reRawOf) := ints_of vs fun v hv => by
    obtain ⟨e, he, q⟩ := List.mem_map.mp (pm.mem_iff.mp hv)
    obtain ⟨k, tk, h1, _⟩ := g e he
    exact ⟨k, tk, by rw [← q]; exact h1⟩
  have pk : (vs.map Builtin.Re.reRawOf).Perm (es.toList.map keyOf) := by
    have q := pm.map Builtin.Re.reRawOf
    rw [List.map_map] at q
    exact q
  generalize vs.map Builtin.Re.reRawOf = L0 at hI pk
  refine wpAny_bind (wpAny_newList ?_ (by rw [hvl, sizeLine_eq]; omega))
  have hoL : (s1.heap.push (seqObj "list" vs.toArray 0)).get? s1.heap.objs.size = some (seqObj "list" vs.toArray 0) := Heap.get?_push_size _ rfl
  have ev : EachIs (fun v (k : Int) => ∃ t, v = Value.int k t) vs L0 := by
    have : ∀ {vs : List Value} {ns : List Int}, IntsAre vs ns → EachIs (fun v (k : Int) => ∃ t, v = Value.int k t) vs ns := fun h => by
      induction h with
      | nil => exact .nil
      | cons n t _ ih => exact .cons ⟨t, rfl⟩ ih
    exact this hI
  have er : EachIs (fun v (k : Int) => ∃ as, Reads (sortingHeap (s1.heap.push (seqObj "list" vs.toArray 0)) s1.heap.objs.size vs) v (.int k) as) vs L0 := ev.mono fun v k ⟨t, e⟩ => ⟨[], by rw [e]; exact .int k t⟩
  have hal := alike_int L0
  have S' : SortsAt P w A.in1.in1 { s1 with heap := sortingHeap (s1.heap.push (seqObj "list" vs.toArray 0)) s1.heap.objs.size vs } (dataKind _ (L0.map PyData.int)) vs :=
    SortsAt.data (s := { s1 with heap := sortingHeap (s1.heap.push (seqObj "list" vs.toArray 0)) s1.heap.objs.size vs }) (each_map (R := fun v d => ∃ as, Reads _ v d as) PyData.int er) hal (.inr fun d hd => by
      obtain ⟨k, _, rfl⟩ := List.mem_map.mp hd
      exact ⟨(fun z => by cases z), (fun xs z => by cases z)⟩) fun d hd => by
      obtain ⟨k, _, rfl⟩ := List.mem_map.mp hd
      show A.units + 1 + 1 + (PyData.int k).depth < cLine
      rw [PyData.depth]
      omega
  refine wpAny_bind (wpAny_holding (wpAny_call_entry slot_list_sort ⟨_, hoL, rfl⟩ entry_list_sort (list_sort_vals (s := { s1 with heap := s1.heap.push (seqObj "list" vs.toArray 0) }) hoL S' (by rw [hvl, sizeLine_eq]; omega) ⟨_, rfl, ?_⟩) (args_list_sort _)))
  have hout := sortVals_data (R := fun v (k : Int) => ∃ t, v = Value.int k t) (enc := PyData.int) false ev er hal
  obtain ⟨c, hc⟩ := sortedHeap_at (vs := vs) (out := (sortVals (dataKind (sortingHeap (s1.heap.push (seqObj "list" vs.toArray 0)) s1.heap.objs.size vs) (L0.map PyData.int)) false vs vs).toArray) hoL
  have hle : (dataLe false (PyData.int : Int → PyData)) = fun a b => decide (a ≤ b) := dataLe_int (fun k : Int => k)
  rw [hle] at hout
  have pn : (L0.mergeSort fun a b => decide (a ≤ b)).Perm (es.toList.map keyOf) := (List.mergeSort_perm _ _).trans pk
  refine wpAny_pure ⟨_, rfl, hQ _ s1.heap.objs.size _ c (L0.mergeSort fun a b => decide (a ≤ b)) (fun b u e => ?_) g1 o1 hz hc ?_ (lt_of_le_nodup _ ?_ (pn.nodup_iff.mpr nd)) (fun k => by rw [pn.mem_iff, ← hm k]) ?_⟩
  · have q := k1 b u e
    have hlt := Heap.lt_size q
    show (sortedHeap (s1.heap.push (seqObj "list" vs.toArray 0)) s1.heap.objs.size vs _).get? b = some u
    rw [sortedHeap_old (Nat.ne_of_lt hlt) (by rw [size_push']; exact Nat.lt_succ_of_lt hlt)]
    exact Heap.get?_push_of_some _ q
  · have : ∀ {vs : List Value} {ns : List Int}, EachIs (fun v (k : Int) => ∃ t, v = Value.int k t) vs ns → IntsAre vs ns := fun h => by
      induction h with
      | nil => exact .nil
      | cons h _ ih => obtain ⟨t, rfl⟩ := h; exact .cons _ t ih
    exact this hout
  · have := List.pairwise_mergeSort (le := fun a b : Int => decide (a ≤ b)) (fun a b c h1 h2 => by simp only [decide_eq_true_eq] at *; omega) (fun a b => by simp only [Bool.or_eq_true, decide_eq_true_eq]; omega) L0
    exact this.imp fun h => of_decide_eq_true h
  · rw [pn.length_eq, List.length_map, Array.length_toList]; exact hn
end
section
variable {X : Cx} {a : Expr} {ta : TE} {p p2 q pos : Pos}
/-- sorted(set(x)), x a tuple of whole numbers -/
def tSortSetN (K : PySem.W.Frag) (ta : TE) : TE := fun σ H Q => ta σ H fun x H1 => ∃ (l : Addr) (ns : List Int), x = .ref l ∧ SqT K H1 l (ns.map V.int) ∧ ns.length ≤ 1000 ∧
  ∀ (ys : List Int) (p : Addr), ys.Pairwise (· < ·) → (∀ k, k ∈ ys ↔ k ∈ ns) → ys.length ≤ 1000 → H1 p = none → Q (.ref p) (upd H1 p (.lst (ys.map V.int)))
theorem vals_ints0 {its : List Value} {ns : List Int} (h : IntsAre its ns) : Vals (ns.map V.int) its := by
  induction h with
  | nil => exact .nil
  | cons n t _ ih => exact .cons ⟨t, rfl⟩ ih
theorem pe_sortSetN (hc : X.calm = true) (hu : X.A.units + 64 < cLine) (hg : Gl X "sorted") (hm : X.mg "sorted" = none) (hg2 : Gl X "set") (hm2 : X.mg "set" = none) (ha : PE X a ta)
    (na : starEach [a] X.env = (false, eval a X.env) :: starEach [] X.env := by rfl) : PE X (.Call (.Name "sorted" p) [.Call (.Name "set" p2) [a] [] q] [] pos) (tSortSetN X.K ta) := by
  refine ⟨fun pins s σ H Q I h => ?_⟩
  refine Call_ (ld_blt I hg hm (show bootBuiltins "sorted" = some (.builtin "sorted") by decide +kernel) (PyProof.Rows.callWith_builtin1 (PyProof.Rows.args_cons ?_ rfl) rfl rfl))
  refine Call_ (ld_blt I hg2 hm2 PyProof.Rows.boot_set (PyProof.Rows.callWith_type1 (PyProof.Rows.args_cons (thn (ha.run pins s σ H _ I h) fun v s1 ⟨x, H1, I1, r1, l, ns, ex, hq, hl, q1⟩ => PyProof.Rows.args_nil ?_) na) na rfl))
  subst ex
  cases r1
  obtain ⟨its, rv, pt, hz⟩ := I1.tuple hq
  have hi : IntsAre its.toArray.toList ns := ints_of_vals rv
  refine call_set_tupI ns (I1.ok.hd hc) (show s1.heap.IsTuple l its.toArray from pt) hi (by unfold scanBound; omega) fun h' tk c R1 hcn kp => PyProof.Rows.args_nil ?_
  have I2 : Inv X pins σ H1 { s1 with heap := h', toks := tk } := I1.kept kp
  refine sorted_setN R1 (I2.ok.hd hc) (by omega) (by omega) fun s' p out c ys k g o hp hg hi hlt hmem hlen => ?_
  have hlen : (ys.map V.int).length ≤ sizeLine := by rw [List.length_map, hlen, sizeLine_eq]; omega
  have hn : H1 p = none := I2.hok.fresh hp
  have J : Inv X pins σ (upd H1 p (.lst (ys.map V.int))) { ({ s1 with heap := h', toks := tk } : Shared) with heap := s'.heap, gens := s'.gens, drawn := s'.drawn, toks := s'.toks } :=
    I2.call (ch := []) (Un.laid k hp hn) (I2.hok.laid k hp ⟨hlen, out.toList, c, vals_ints0 hi, hg⟩) (by rw [g]; exact I2.bare) (fun _ z => nomatch z)
  have e : s' = { s1 with heap := s'.heap, gens := s'.gens, drawn := s'.drawn, toks := s'.toks } := by
    cases s'
    cases s1
    cases o
    rfl
  rw [e]
  exact ⟨.ref p, _, J, rfl, q1 ys p hlt (fun k => by rw [hmem k, decide_eq_true_eq]) (by rw [List.length_map] at hlen; omega) hn⟩
/-- sorted(set(x)), x a list of tuples of whole numbers -/
def tSortSetT (K : PySem.W.Frag) (ta : TE) : TE := fun σ H Q => ta σ H fun x H1 => ∃ (l : Addr) (ks : List (Addr × List Int)), x = .ref l ∧ SqL K H1 l (ks.map fun p => V.ref p.1) ∧ (∀ p ∈ ks, SqT K H1 p.1 (p.2.map V.int)) ∧ ks.length < 64 ∧
  ∀ (L L0 : List (Addr × List Int)) (p : Addr), L0.Perm L → (∀ q ∈ L, q ∈ ks) → (∀ q ∈ ks, q.2 ∈ L.map (·.2)) → (L.map (·.2)).Nodup → L.length < 64 → H1 p = none → Q (.ref p) (upd H1 p (.lst ((L0.mergeSort (dataLe false fun q => intP q.2)).map fun q => V.ref q.1)))
theorem pe_sortSetT (hc : X.calm = true) (hu : X.A.units + 64 < cLine) (hg : Gl X "sorted") (hm : X.mg "sorted" = none) (hg2 : Gl X "set") (hm2 : X.mg "set" = none) (ha : PE X a ta)
    (na : starEach [a] X.env = (false, eval a X.env) :: starEach [] X.env := by rfl) : PE X (.Call (.Name "sorted" p) [.Call (.Name "set" p2) [a] [] q] [] pos) (tSortSetT X.K ta) := by
  refine ⟨fun pins s σ H Q I h => ?_⟩
  refine Call_ (ld_blt I hg hm (show bootBuiltins "sorted" = some (.builtin "sorted") by decide +kernel) (PyProof.Rows.callWith_builtin1 (PyProof.Rows.args_cons ?_ rfl) rfl rfl))
  refine Call_ (ld_blt I hg2 hm2 PyProof.Rows.boot_set (PyProof.Rows.callWith_type1 (PyProof.Rows.args_cons (thn (ha.run pins s σ H _ I h) fun v s1 ⟨x, H1, I1, r1, l, ks, ex, hl, hk, hf, q1⟩ => PyProof.Rows.args_nil ?_) na) na rfl))
  subst ex
  cases r1
  obtain ⟨its, rv, pl, hz⟩ := I1.list hl
  refine call_set_tups (P := X.prog) (w := X.w) ks (I1.ok.hd hc) pl.isList (by simpa using refs_of_vals rv) (fun p hp => I1.isT (hk p hp)) hf (by omega) fun h' tk L es ep t R g kp => PyProof.Rows.args_nil ?_
  have I2 : Inv X pins σ H1 { s1 with heap := h', toks := tk } := I1.kept kp
  refine sorted_setG R (I2.ok.hd hc) (by omega) fun s' p out c L0 k gg o hp hg hpm hout => ?_
  have hL : L0.length < 64 := by rw [hpm.length_eq]; exact R.few
  have hlen : ((L0.mergeSort (dataLe false fun q => intP q.2)).map fun q => V.ref q.1).length ≤ sizeLine := by rw [List.length_map, List.length_mergeSort, sizeLine_eq]; omega
  have hn : H1 p = none := I2.hok.fresh hp
  have hv : Vals ((L0.mergeSort (dataLe false fun q => intP q.2)).map fun q => V.ref q.1) out.toList := by rw [hout]; exact vals_of_refs _
  have J : Inv X pins σ (upd H1 p (.lst ((L0.mergeSort (dataLe false fun q => intP q.2)).map fun q => V.ref q.1))) { ({ s1 with heap := h', toks := tk } : Shared) with heap := s'.heap, gens := s'.gens, drawn := s'.drawn, toks := s'.toks } :=
    I2.call (ch := []) (Un.laid k hp hn) (I2.hok.laid k hp ⟨hlen, out.toList, c, hv, hg⟩) (by rw [gg]; exact I2.bare) (fun _ z => nomatch z)
  have e : s' = { s1 with heap := s'.heap, gens := s'.gens, drawn := s'.drawn, toks := s'.toks } := by
    cases s'
    cases s1
    cases o
    rfl
  rw [e]
  exact ⟨.ref p, _, J, rfl, q1 L L0 p hpm (fun q hq => List.mem_of_mem_take (g.sub q hq)) (fun q hq => g.all q (by rw [List.take_length]; exact hq)) R.nd R.few hn⟩
end
end Pu
set_option Elab.async false
set_option maxRecDepth 100000
set_option maxHeartbeats 1000000
set_option linter.all false
namespace Pu
open PySem PySem.Spec PyProof.Rows L2 Ly PySem.W
def ltI : List Int → List Int → Bool
  | [], [] => false
  | [], _ :: _ => true
  | _ :: _, [] => false
  | x :: a, y :: b => if x = y then ltI a b else decide (x < y)
def leI : List Int → List Int → Bool
  | [], _ => true
  | _ :: _, [] => false
  | x :: a, y :: b => if x = y then leI a b else decide (x ≤ y)
theorem ltI_irrefl : ∀ a, ltI a a = false
  | [] => rfl
  | x :: a => by
    unfold ltI
    rw [if_pos rfl, ltI_irrefl a]
theorem ltI_total : ∀ a b, ltI a b = true ∨ a = b ∨ ltI b a = true
  | [], [] => .inr (.inl rfl)
  | [], _ :: _ => .inl rfl
  | _ :: _, [] => .inr (.inr rfl)
  | x :: a, y :: b => by
    unfold ltI
    by_cases h : x = y
    · rw [if_pos h, if_pos h.symm, h]
      rcases ltI_total a b with z | z | z
      · exact .inl z
      · exact .inr (.inl (by rw [z]))
      · exact .inr (.inr z)
    · rw [if_neg h, if_neg (fun z => h z.symm)]
      rcases Int.lt_trichotomy x y with z | z | z
      · exact .inl (decide_eq_true z)
      · exact absurd z h
      · exact .inr (.inr (decide_eq_true z))
theorem ltI_trans : ∀ a b c, ltI a b = true → ltI b c = true → ltI a c = true
  | [], [], _, h, _ => by cases h
  | [], _ :: _, [], _, h => by cases h
  | [], _ :: _, _ :: _, _, _ => rfl
  | _ :: _, [], _, h, _ => by cases h
  | _ :: _, _ :: _, [], _, h => by cases h
  | x :: a, y :: b, z :: c, h1, h2 => by
    unfold ltI at h1 h2 ⊢
    by_cases e1 : x = y
    · by_cases e2 : y = z
      · rw [if_pos e1] at h1
        rw [if_pos e2] at h2
        rw [if_pos (e1.trans e2)]
        exact ltI_trans a b c h1 h2
      · rw [if_neg e2] at h2
        rw [if_neg (fun q => e2 (e1.symm.trans q)), e1]
        exact h2
    · rw [if_neg e1] at h1
      have l1 := of_decide_eq_true h1
      by_cases e2 : y = z
      · rw [if_neg (fun q => e1 (q.trans e2.symm)), ← e2]
        exact h1
      · rw [if_neg e2] at h2
        have l2 := of_decide_eq_true h2
        rw [if_neg (by omega)]
        exact decide_eq_true (by omega)
theorem ltI_asym {a b : List Int} (h : ltI a b = true) : ltI b a = false := by
  cases c : ltI b a with
  | false => rfl
  | true =>
    have := ltI_trans a b a h c
    rw [ltI_irrefl] at this
    cases this
theorem leI_eq : ∀ a b, leI a b = !ltI b a
  | [], [] => rfl
  | [], _ :: _ => rfl
  | _ :: _, [] => rfl
  | x :: a, y :: b => by
    unfold leI ltI
    by_cases h : x = y
    · rw [if_pos h, if_pos h.symm, leI_eq a b]
    · rw [if_neg h, if_neg (fun z => h z.symm)]
      by_cases g : x < y
      · rw [decide_eq_true (show x ≤ y by omega), decide_eq_false (show ¬ y < x by omega)]
        rfl
      · rw [decide_eq_false (show ¬ x ≤ y by omega), decide_eq_true (show y < x by omega)]
        rfl
theorem dataLt_ints : ∀ a b : List Int, dataLt (intP a) (intP b) = ltI a b
  | [], [] => lex_irrefl _
  | [], y :: b => by
    show lexLt itemOrd (keyToksAll []) (keyToksAll (PyData.int y :: _)) = true
    rw [keyToksAll, keyToksAll]
    exact (lex_diff (O := itemOrd) (x := .inl 0) (y := .inl 1) (by intro z; injection z with z; cases z)).trans (by decide)
  | x :: a, [] => by
    show lexLt itemOrd (keyToksAll (PyData.int x :: _)) (keyToksAll []) = false
    rw [keyToksAll, keyToksAll]
    exact (lex_diff (O := itemOrd) (x := .inl 1) (y := .inl 0) (by intro z; injection z with z; cases z)).trans (by decide)
  | x :: a, y :: b => by
    have ih := dataLt_ints a b
    show lexLt itemOrd (keyToksAll (PyData.int x :: _)) (keyToksAll (PyData.int y :: _)) = _
    rw [keyToksAll, keyToksAll, keyToks, keyToks]
    unfold ltI
    rw [lex_self (O := itemOrd)]
    by_cases h : x = y
    · rw [if_pos h, h]
      exact (lex_self (O := itemOrd) (.inl y) _ _).trans ih
    · rw [if_neg h]
      exact lex_diff (O := itemOrd) (x := .inl x) (y := .inl y) (by intro z; injection z with z; exact h z)
theorem dataLe_ints {α : Type} (f : α → List Int) : (dataLe false fun q => intP (f q)) = fun a b => !ltI (f b) (f a) := by
  rw [dataLe_eq]
  funext a b
  show (!dataLt (intP (f b)) (intP (f a))) = _
  rw [dataLt_ints]
theorem srt_pw {α : Type} (f : α → List Int) (l : List α) : (l.mergeSort fun a b => !ltI (f b) (f a)).Pairwise fun a b => ltI (f b) (f a) = false := by
  have := List.pairwise_mergeSort (le := fun a b : α => !ltI (f b) (f a)) (fun a b c h1 h2 => by
    simp only [Bool.not_eq_true'] at h1 h2 ⊢
    cases q : ltI (f c) (f a) with
    | false => rfl
    | true =>
      rcases ltI_total (f b) (f c) with z | z | z
      · have := ltI_trans _ _ _ z q
        rw [h1] at this
        cases this
      · rw [z] at h1
        rw [q] at h1
        cases h1
      · rw [h2] at z
        cases z) (fun a b => by
    cases q : ltI (f b) (f a) with
    | false => rfl
    | true => rw [ltI_asym q]; rfl) l
  exact this.imp fun h => by rw [Bool.not_eq_true'] at h; exact h
theorem lt_of_pw : ∀ {l : List (List Int)}, l.Pairwise (fun a b => ltI b a = false) → l.Nodup → l.Pairwise (fun a b => ltI a b = true)
  | [], _, _ => List.Pairwise.nil
  | x :: l, h, d => by
    obtain ⟨h1, h2⟩ := List.pairwise_cons.mp h
    obtain ⟨d1, d2⟩ := List.nodup_cons.mp d
    refine List.pairwise_cons.mpr ⟨fun y hy => ?_, lt_of_pw h2 d2⟩
    rcases ltI_total x y with z | z | z
    · exact z
    · exact absurd (z ▸ hy) d1
    · rw [h1 y hy] at z
      cases z
/-- two rising lists of the same members are one -/
theorem rise_uniq {α : Type} {r : α → α → Prop} (ir : ∀ a, ¬ r a a) (as : ∀ a b, r a b → ¬ r b a) : ∀ {l m : List α}, l.Pairwise r → m.Pairwise r → (∀ k, k ∈ l ↔ k ∈ m) → l = m
  | [], [], _, _, _ => rfl
  | [], y :: m, _, _, h => absurd ((h y).mpr (List.mem_cons_self ..)) (by simp)
  | x :: l, [], _, _, h => absurd ((h x).mp (List.mem_cons_self ..)) (by simp)
  | x :: l, y :: m, h1, h2, h => by
    obtain ⟨p1, p2⟩ := List.pairwise_cons.mp h1
    obtain ⟨q1, q2⟩ := List.pairwise_cons.mp h2
    have e : x = y := by
      rcases List.mem_cons.mp ((h x).mp (List.mem_cons_self ..)) with z | z
      · exact z
      · rcases List.mem_cons.mp ((h y).mpr (List.mem_cons_self ..)) with u | u
        · exact u.symm
        · exact absurd (p1 y u) (as _ _ (q1 x z))
    subst e
    rw [rise_uniq ir as p2 q2 fun k => ?_]
    constructor
    · intro hk
      rcases List.mem_cons.mp ((h k).mp (List.mem_cons_of_mem _ hk)) with z | z
      · exact absurd (p1 k hk) (by rw [z]; exact ir x)
      · exact z
    · intro hk
      rcases List.mem_cons.mp ((h k).mpr (List.mem_cons_of_mem _ hk)) with z | z
      · exact absurd (q1 k hk) (by rw [z]; exact ir x)
      · exact z
theorem lexAt_shift (e r : Nat → Bool) (z : Bool) : ∀ k i, Ob.lexAt (fun j => e (j + 1)) (fun j => r (j + 1)) z i k = Ob.lexAt e r z (i + 1) k
  | 0, _ => rfl
  | k + 1, i => by
    rw [Ob.lexAt_succ, Ob.lexAt_succ, lexAt_shift e r z k (i + 1)]
theorem lexAt_lt : ∀ ns ms : List Int, Ob.lexAt (fun j => decide (ns.getD j 0 = ms.getD j 0)) (fun j => decide (ns.getD j 0 < ms.getD j 0)) (decide (ns.length < ms.length)) 0 (min ns.length ms.length) = ltI ns ms
  | [], [] => rfl
  | [], _ :: _ => rfl
  | _ :: _, [] => rfl
  | x :: ns, y :: ms => by
    have ih := lexAt_lt ns ms
    have e : min (x :: ns).length (y :: ms).length = min ns.length ms.length + 1 := by
      rw [List.length_cons, List.length_cons]
      omega
    rw [e, Ob.lexAt_succ]
    unfold ltI
    have e0 : decide ((x :: ns).getD 0 0 = (y :: ms).getD 0 0) = decide (x = y) := rfl
    have e1 : decide ((x :: ns).getD 0 0 < (y :: ms).getD 0 0) = decide (x < y) := rfl
    have e2 : decide ((x :: ns).length < (y :: ms).length) = decide (ns.length < ms.length) := by
      rw [List.length_cons, List.length_cons]
      exact decide_eq_decide.mpr (by omega)
    rw [e0, e1, e2]
    by_cases h : x = y
    · rw [decide_eq_true h, if_pos rfl, if_pos h, ← lexAt_shift]
      exact ih
    · rw [decide_eq_false h, if_neg h, if_neg (by decide)]
theorem lexAt_le : ∀ ns ms : List Int, Ob.lexAt (fun j => decide (ns.getD j 0 = ms.getD j 0)) (fun j => decide (ns.getD j 0 ≤ ms.getD j 0)) (decide (ns.length ≤ ms.length)) 0 (min ns.length ms.length) = leI ns ms
  | [], [] => rfl
  | [], _ :: _ => rfl
  | _ :: _, [] => rfl
  | x :: ns, y :: ms => by
    have ih := lexAt_le ns ms
    have e : min (x :: ns).length (y :: ms).length = min ns.length ms.length + 1 := by
      rw [List.length_cons, List.length_cons]
      omega
    rw [e, Ob.lexAt_succ]
    unfold leI
    have e0 : decide ((x :: ns).getD 0 0 = (y :: ms).getD 0 0) = decide (x = y) := rfl
    have e1 : decide ((x :: ns).getD 0 0 ≤ (y :: ms).getD 0 0) = decide (x ≤ y) := rfl
    have e2 : decide ((x :: ns).length ≤ (y :: ms).length) = decide (ns.length ≤ ms.length) := by
      rw [List.length_cons, List.length_cons]
      exact decide_eq_decide.mpr (by omega)
    rw [e0, e1, e2]
    by_cases h : x = y
    · rw [decide_eq_true h, if_pos rfl, if_pos h, ← lexAt_shift]
      exact ih
    · rw [decide_eq_false h, if_neg h, if_neg (by decide)]
section
variable {X : Cx} {K : PySem.W.Frag} {E : XK} {W0 H0 : Hp} {F : FE} {a e : Expr} {p p2 q pos : Pos} {i : Nat}
def rLtTI (K : PySem.W.Frag) : R2 := fun x y H Q => ∃ (a b : Addr) (ns ms : List Int), x = .ref a ∧ y = .ref b ∧ SqT K H a (ns.map V.int) ∧ SqT K H b (ms.map V.int) ∧ Q (.bl (ltI ns ms)) H
theorem op_ltTI (hu : X.A.units < cLine) (hK : X.K = K := by rfl) : OpR X (compareOp .Lt) (rLtTI K) := by
  subst hK
  intro pins s σ H x y v u Q I rx ry h
  obtain ⟨a, b, ns, ms, rfl, rfl, ha, hb, q⟩ := h
  cases rx
  cases ry
  obtain ⟨its, r1, p1, _⟩ := I.tuple ha
  obtain ⟨its2, r2, p2, _⟩ := I.tuple hb
  have i1 : IntsAre its ns := Vals.ints r1
  have i2 : IntsAre its2 ms := Vals.ints r2
  have e1 : its.toArray.size = ns.length := by rw [List.size_toArray]; exact i1.length
  have e2 : its2.toArray.size = ms.length := by rw [List.size_toArray]; exact i2.length
  have at1 : ∀ j (h1 : j < its.toArray.size), ∃ t, its.toArray[j] = .int (ns.getD j 0) t := fun j h1 => PyProof.Rows.IntsAre.int_at i1 _ _ (by simp at h1; simp [h1])
  have at2 : ∀ j (h1 : j < its2.toArray.size), ∃ t, its2.toArray[j] = .int (ms.getD j 0) t := fun j h1 => PyProof.Rows.IntsAre.int_at i2 _ _ (by simp at h1; simp [h1])
  have R := Ob.RcOp.tuples_lt (A := X.A) (s := s) (e := fun j => decide (ns.getD j 0 = ms.getD j 0)) (r := fun j => decide (ns.getD j 0 < ms.getD j 0)) p1 p2 hu (fun j h1 h2 => by
    obtain ⟨t, et⟩ := at1 j h1
    obtain ⟨t', et'⟩ := at2 j h2
    rw [et, et']
    have z : (ns.getD j 0 == ms.getD j 0) = decide (ns.getD j 0 = ms.getD j 0) := by
      by_cases q : ns.getD j 0 = ms.getD j 0
      · rw [decide_eq_true q]; exact beq_iff_eq.mpr q
      · rw [decide_eq_false q]; exact beq_eq_false_iff_ne.mpr q
    rw [← z]
    exact SeqAt.EqAt.int_int _ _ _ _) (fun j h1 h2 _ => by
    obtain ⟨t, et⟩ := at1 j h1
    obtain ⟨t', et'⟩ := at2 j h2
    rw [et, et']
    exact Ob.RcOp.lt_int _ _ _ _)
  rw [e1, e2, lexAt_lt] at R
  have z : wpAny (model X.prog X.w) X.A (compareOp .Lt (.ref a) (.ref b)) (EP X pins σ Q) X.xe s := R X.prog X.w X.xe (EP X pins σ Q) ⟨.bl _, H, I, rfl, q⟩
  exact z
def tupI (k : List Int) : D := .tup (k.map .int)
theorem ints_v {W : Hp} : ∀ {vs : List V} {ns : List Int}, RepAll K W vs (ns.map D.int) → vs = ns.map V.int
  | [], [], _ => rfl
  | [], _ :: _, r => by cases r
  | _ :: _, [], r => by cases r
  | v :: vs, k :: ks, r => by
    cases r with
    | cons r1 r2 =>
      cases r1
      rw [ints_v r2]
      rfl
theorem tups_of {W : Hp} : ∀ {vs : List V} {ks : List (List Int)}, RepAll K W vs (ks.map tupI) → ∃ L : List (Addr × List Int), vs = L.map (fun p => V.ref p.1) ∧ L.map (·.2) = ks ∧ ∀ p ∈ L, Rep K W (.ref p.1) (tupI p.2)
  | [], [], _ => ⟨[], rfl, rfl, fun p h => by cases h⟩
  | [], _ :: _, r => by cases r
  | _ :: _, [], r => by cases r
  | v :: vs, k :: ks, r => by
    cases r with
    | cons r1 r2 =>
      obtain ⟨L, e1, e2, e3⟩ := tups_of r2
      have r1' := r1
      unfold tupI at r1
      cases r1 with
      | @tup a us _ h1 h2 h3 =>
        refine ⟨(a, k) :: L, by rw [e1]; rfl, by rw [← e2]; rfl, fun p hp => ?_⟩
        rcases List.mem_cons.mp hp with z | z
        · rw [z]
          exact r1'
        · exact e3 p z
def RLtT (x y : D) (Q : D → Prop) : Prop := ∃ ns ms, x = tupI ns ∧ y = tupI ms ∧ Q (.bl (ltI ns ms))
theorem s_ltT : RSnd K (rLtTI K) RLtT := fun W H x y a b Q Qh s r1 r2 ⟨ns, ms, h1, h2, q⟩ kk => by
  subst h1 h2
  obtain ⟨a, us, rfl, h1, h2, _⟩ := r1.tup_inv s
  obtain ⟨b, vs, rfl, h3, h4, _⟩ := r2.tup_inv s
  rw [ints_v h2] at h1
  rw [ints_v h4] at h3
  exact ⟨a, b, ns, ms, rfl, rfl, h1, h3, kk _ W H _ (Ex.refl s) (.bl _) q⟩
def RLeT (x y : D) (Q : D → Prop) : Prop := ∃ ns ms, x = tupI ns ∧ y = tupI ms ∧ Q (.bl (leI ns ms))
theorem s_leT : RSnd K (rLeT K) RLeT := fun W H x y a b Q Qh s r1 r2 ⟨ns, ms, h1, h2, q⟩ kk => by
  subst h1 h2
  obtain ⟨a, us, rfl, h1, h2, _⟩ := r1.tup_inv s
  obtain ⟨b, vs, rfl, h3, h4, _⟩ := r2.tup_inv s
  rw [ints_v h2] at h1
  rw [ints_v h4] at h3
  refine ⟨a, b, ns, ms, rfl, rfl, h1, h3, ?_⟩
  rw [lexAt_le]
  exact kk _ W H _ (Ex.refl s) (.bl _) q
/-- sorted(set(x)), x a list of tuples of whole numbers -/
def fSortSetT (F : FE) : FA := fun ρ Q Z => F ρ (fun d => ∃ ks : List (List Int), d = .lst (ks.map tupI) ∧ ks.length < 64 ∧ ∀ ys : List (List Int), ys.Pairwise (fun a b => ltI a b = true) → (∀ k, k ∈ ys ↔ k ∈ ks) → ys.length < 64 → Q (ys.map tupI)) Z
theorem rep_tups {W : Hp} : ∀ {M : List (Addr × List Int)}, (∀ p ∈ M, Rep K W (.ref p.1) (tupI p.2)) → RepAll K W (M.map fun p => V.ref p.1) ((M.map (·.2)).map tupI)
  | [], _ => .nil
  | p :: M, h => .cons (h p (List.mem_cons_self ..)) (rep_tups fun q hq => h q (List.mem_cons_of_mem _ hq))
theorem d_sortSetT (hc : X.calm = true) (hu : X.A.units + 64 < cLine) (hg : Gl X "sorted") (hm : X.mg "sorted" = none) (hg2 : Gl X "set") (hm2 : X.mg "set" = none) (ha : PE X a (tDT K E F)) (hK : X.K = K := by rfl)
    (na : starEach [a] X.env = (false, eval a X.env) :: starEach [] X.env := by rfl) : PE X (.Call (.Name "sorted" p) [.Call (.Name "set" p2) [a] [] q] [] pos) (tDN K E (fSortSetT F)) := by
  subst hK
  refine (pe_sortSetT hc hu hg hm hg2 hm2 ha na).mono fun σ H Qh ⟨W0, H0, W, ρ, Q, Z, st, f, k, x⟩ => ?_
  refine ⟨W0, H0, W, ρ, _, Z, st, f, fun v W1 H1 d e1 r ⟨ks, z, h64, q⟩ => ?_, x⟩
  subst z
  obtain ⟨l, vs, h1, h2, h3, h4⟩ := r.lst_inv e1.s
  obtain ⟨L1, rfl, hk, hr⟩ := tups_of h3
  refine ⟨l, L1, h1, SqL.of h2, fun p hp => ?_, by rw [← hk, List.length_map] at h64; exact h64, fun L L0 p hpm hsub hall hnd hlt hp => ?_⟩
  · have := hr p hp
    unfold tupI at this
    cases this with
    | tup g1 g2 g3 =>
      rw [ints_v g2] at g1
      exact SqT.of (e1.s _ _ g1)
  rw [dataLe_ints (fun q : Addr × List Int => q.2)]
  have pm : (L0.mergeSort fun a b => !ltI b.2 a.2).Perm L := (List.mergeSort_perm _ _).trans hpm
  have pw := srt_pw (fun q : Addr × List Int => q.2) L0
  generalize (L0.mergeSort fun a b => !ltI b.2 a.2) = M at pm pw
  have nd : (M.map (·.2)).Nodup := ((pm.map _).nodup_iff).mpr hnd
  have pw : (M.map (·.2)).Pairwise (fun a b => ltI a b = true) := lt_of_pw (List.pairwise_map.mpr pw) nd
  have hlen : M.length < 64 := by rw [pm.length_eq]; exact hlt
  refine k p _ W1 _ _ (e1.trans (Ex.hid e1.s hp)) (e1.h.free hp) (e1.s.free hp) upd_same (rep_tups fun p hp => hr p (hsub p (pm.mem_iff.mp hp))) (by rw [List.length_map, sizeLine_eq]; omega) (q (M.map (·.2)) pw (fun j => ?_) (by rw [List.length_map]; exact hlen))
  constructor
  · intro hj
    obtain ⟨p, hp, rfl⟩ := List.mem_map.mp hj
    rw [← hk]
    exact List.mem_map.mpr ⟨p, hsub p (pm.mem_iff.mp hp), rfl⟩
  · intro hj
    rw [← hk] at hj
    obtain ⟨p, hp, rfl⟩ := List.mem_map.mp hj
    obtain ⟨p', hp', e⟩ := List.mem_map.mp (hall p hp)
    rw [← e]
    exact List.mem_map.mpr ⟨p', pm.mem_iff.mpr hp', rfl⟩
/-- sorted(set(x)), x a tuple of whole numbers -/
def fSortSetN (F : FE) : FA := fun ρ Q Z => F ρ (fun d => ∃ ns : List Int, d = tupI ns ∧ ns.length ≤ 1000 ∧ ∀ ys : List Int, ys.Pairwise (· < ·) → (∀ k, k ∈ ys ↔ k ∈ ns) → ys.length ≤ 1000 → Q (ys.map .int)) Z
theorem d_sortSetN (hc : X.calm = true) (hu : X.A.units + 64 < cLine) (hg : Gl X "sorted") (hm : X.mg "sorted" = none) (hg2 : Gl X "set") (hm2 : X.mg "set" = none) (ha : PE X a (tDT K E F)) (hK : X.K = K := by rfl)
    (na : starEach [a] X.env = (false, eval a X.env) :: starEach [] X.env := by rfl) : PE X (.Call (.Name "sorted" p) [.Call (.Name "set" p2) [a] [] q] [] pos) (tDN K E (fSortSetN F)) := by
  subst hK
  refine (pe_sortSetN hc hu hg hm hg2 hm2 ha na).mono fun σ H Qh ⟨W0, H0, W, ρ, Q, Z, st, f, k, x⟩ => ?_
  refine ⟨W0, H0, W, ρ, _, Z, st, f, fun v W1 H1 d e1 r ⟨ns, z, hn, q⟩ => ?_, x⟩
  subst z
  obtain ⟨l, vs, h1, h2, h3, h4⟩ := r.tup_inv e1.s
  rw [ints_v h3] at h2
  refine ⟨l, ns, h1, h2, hn, fun ys p pw hm hl hp => ?_⟩
  exact k p _ W1 _ _ (e1.trans (Ex.hid e1.s hp)) (e1.h.free hp) (e1.s.free hp) upd_same (v_ints ys) (by rw [List.length_map, sizeLine_eq]; omega) (q ys pw hm hl)
end
end Pu
set_option Elab.async false
set_option maxRecDepth 100000
set_option maxHeartbeats 1000000
set_option linter.all false
namespace Pu
open PySem PySem.Spec PyProof.Rows L2 Ly
def LkHT (H Hl : Hp) : Prop := ∀ a o, H a = some o → Hl a = some o ∨ ∃ (kvs : List (List Key × V)) (od : Obj), o = .dT kvs ∧ Hl a = some (.frz od (.dT kvs))
def StatT (K : PySem.W.Frag) (te : TE) (F : FE) : Prop := ∀ W0 H0 W ρ σ H Q Z, Sat K W0 H0 W ρ σ H → F ρ Q Z → ∃ v d, Rep K W v d ∧ Q d ∧ ∀ Hl Qh, LkHT H Hl → Qh v Hl → te σ Hl Qh
section
variable {K : PySem.W.Frag} {E : XK} {F G L Fk Fv : FE} {T : FT} {A : FA} {g : FG} {vs : List Nat} {te : TE} {f : Str} {i : Nat} {mk : Addr → Obj → List (List Key × V) → It} {its : List (List Key) → List D → List D} {ok : List (List Key) → Prop}
theorem stat_varT : StatT K (tVar i) (fVar i) := fun W0 H0 W ρ σ H Q Z st ⟨d, hi, q⟩ => by
  obtain ⟨v, h1, h2⟩ := st.val hi
  exact ⟨v, d, h2, q, fun Hl Qh _ h => ⟨v, h1, h⟩⟩
structure DWalkT (K : PySem.W.Frag) (mk : Addr → Obj → List (List Key × V) → It) (its : List (List Key) → List D → List D) (ok : List (List Key) → Prop) : Prop where
  len : ∀ ks ds, ks.length = ds.length → (its ks ds).length ≤ ks.length
  it : ∀ W H d o kvs ds, W d = some (.frz o (.dT kvs)) → Gx W H → RepAll K W (kvs.map Prod.snd) ds → ok (kvs.map Prod.fst) → IterC K W H (mk d o kvs) (its (kvs.map Prod.fst) ds)
def iDwT (mk : Addr → Obj → List (List Key × V) → It) (td : TE) : TI := fun σ H R => td σ H fun x H1 => ∃ d o kvs, x = .ref d ∧ H1 d = some (.frz o (.dT kvs)) ∧ R (mk d o kvs) H1
def fDwT (its : List (List Key) → List D → List D) (ok : List (List Key) → Prop) (F : FE) : FA := fun ρ Q Z => F ρ (fun d => ∃ ks ds, d = .dit ks ds ∧ ok ks ∧ Q (its ks ds)) Z
end
section
variable {X : Cx} {pins : List (Addr × Obj)} {σ : L2.St} {H : Hp} {s : Shared} {d : Addr} {o : Obj}
theorem frzTV {kvs : List (List Key × V)} (I : L2.Inv X pins σ H s) (h : H d = some (.frz o (.dT kvs))) :
    (d == sysModules) = false ∧ s.heap.get? d = some o ∧ o.ExactDict ∧ ∃ (es : Array DictEntry) (ep : Nat), o.data = .dict es ep ∧ es.size = kvs.length ∧
      ∀ (i : Nat) (k : List Key) (v : V), kvs[i]? = some (k, v) → ∃ (en : DictEntry), es[i]? = some en ∧ RelV v en.val := by
  obtain ⟨hd, z, hs, xs, pr, o', es, ep, ho, hx, hdt, he, _⟩ := I.hok d _ h
  rw [hd] at ho
  cases ho
  refine ⟨hs, hd, hx, es, ep, hdt, ?_, fun i k v e => ?_⟩
  · have l1 : es.size = xs.length := size_of_entries he
    have l2 : kvs.length = xs.length := Paired.length pr
    omega
  · obtain ⟨b, hb, e1, e2, e3⟩ := paired_get pr e
    have q := entry_at he i
    rw [hb] at q
    exact ⟨_, q, e3⟩
end
def Itdt (d : Addr) (o : Obj) (kvs : List (List Key × V)) : It :=
  ⟨fun i H => H d = some (.frz o (.dT kvs)) ∧ i < kvs.length, fun i H x H' => H' = H ∧ ∃ k, kvs[i]? = some (k, x), fun i H => H d = some (.frz o (.dT kvs)) ∧ kvs.length ≤ i⟩
section
variable {P : Program} {w : World} {K : PySem.W.Frag} {tg : Expr} {d : Addr} {o : Obj} {es : Array DictEntry} {ep : Nat}
theorem turn_valsT {kvs : List (List Key × V)} (it : Addr) (hod : o.data = .dict es ep) : Turn P w K tg (Itdt d o kvs) [it] it (fun i h => h.IsValIter it d i kvs.length ep) where
  mem := by simp
  obj := fun i h st b hb => by
    have e : b = it := by simpa using hb
    subst e
    obtain ⟨oi, e, c, dd⟩ := st
    exact ⟨oi, e, fun v z => by rw [dd] at z; cases z⟩
  keep := fun i h h' st k => st.at fun oi e => k it (by simp) oi e
  item := by
    intro X hP hw hK hc i pins s σ H E I hf st hg
    subst hP hw hK
    obtain ⟨hd, hi⟩ := hg
    obtain ⟨f0, f1, f2, f3, f4, f5⟩ := hf it (by simp)
    obtain ⟨hs, hgd, hx, es', ep', hdt, hsz, ent⟩ := frzTV I hd
    obtain ⟨rfl, rfl⟩ := dict_ep hod hdt
    obtain ⟨⟨k, v⟩, hkv⟩ : ∃ p, kvs[i]? = some p := ⟨kvs[i], List.getElem?_eq_getElem hi⟩
    obtain ⟨en, hen, ru⟩ := ent i k v hkv
    rw [← hsz] at st
    have hlt : i < es'.size := by omega
    refine wpAny_pyNext_values_item_raw st ⟨o, hgd, hx, hdt⟩ hlt fun h' st' sb => ?_
    have I1 : Inv X pins σ H { s with heap := h' } := I.turned (t' := s.toks) (fun b ob hb e => (sb.2 b hb).trans e) f0 f1 f3 f4 f5
    obtain ⟨oi, e, c, dd⟩ := id st'
    have ev : es'[i].val = en.val := by
      rw [Array.getElem?_eq_getElem hlt] at hen
      cases hen
      rfl
    rw [ev]
    refine ⟨en.val, rfl, go_of (s := { s with heap := h' }) e c dd (by decide) ⟨v, H, I1, ru, ⟨rfl, k, hkv⟩, ?_, fun b hb => (hf b hb).1⟩⟩
    show h'.IsValIter it d (i + 1) kvs.length _
    rw [← hsz]
    exact st'
  done := by
    intro X hP hw hK hc i pins s σ H E I hf st hg
    subst hP hw hK
    obtain ⟨hd, hi⟩ := hg
    obtain ⟨f0, f1, f2, f3, f4, f5⟩ := hf it (by simp)
    obtain ⟨hs, hgd, hx, es', ep', hdt, hsz, ent⟩ := frzTV I hd
    obtain ⟨rfl, rfl⟩ := dict_ep hod hdt
    rw [← hsz] at st
    exact wpAny_pyNext_values_end_raw (I.ok.hd hc) st ⟨o, hgd, hx, hdt⟩ (by omega) fun h' eb => ⟨rfl, I.turned (t' := s.toks) (fun b ob hb e => eb b ob hb e) f0 f1 f3 f4 f5⟩
  self := fun A i s Q E st h => wpAny_pyIter_valiter st h
theorem walk_valsT {kvs : List (List Key × V)} : Walk (Itdt d o kvs) kvs.length (fun H => H d = some (.frz o (.dT kvs))) (fun i H x H' => H' = H ∧ ∃ k, kvs[i]? = some (k, x)) :=
  ⟨fun _ _ hi q => ⟨q, hi⟩, fun _ q => ⟨q, Nat.le_refl _⟩, fun _ _ _ _ _ _ y => y⟩
end
section
variable {X : Cx} {tg e : Expr} {td : TE} {apos cpos : Pos}
theorem pi_keysT (he : PE X e td) : PI X tg e (iDwT Itkt td) := by
  refine ⟨fun pins s σ H R I h => ?_⟩
  refine thn (he.run pins s σ H _ I h) fun u s1 ⟨x, H1, I1, rx, d, o, kvs, ex, hd, q⟩ => ?_
  subst ex
  obtain rfl : u = Value.ref d := rx
  obtain ⟨hs, hgd, hx, es, ep, hdt, hsz, ent⟩ := I1.frzT hd
  refine iter_keys hs hgd hx hdt (pi_one (tk := s1.toks) I1 _ (turn_keysT _ hdt) ⟨_, Heap.get?_push_size _ rfl, rfl, ?_⟩ q)
  rw [hsz] <;> rfl
theorem pi_valuesT (he : PE X e td) (hbase : attributeBase e "values" X.env (eval e X.env) = eval e X.env := by rfl) (hline : (apos.endLine == cpos.line) = true := by rfl) : PI X tg (.Call (.Attribute e "values" apos) [] [] cpos) (iDwT Itdt td) := by
  refine ⟨fun pins s σ H R I h => ?_⟩
  refine wpAny_Call_method (T := "dict") (id := "dict.values") hbase rfl hline F.plainAttrs_dict F.slot_dict_values F.type_dict_values (thn (he.run pins s σ H _ I h) fun u s1 ⟨x, H1, I1, rx, d, o, kvs, ex, hd, q⟩ => ?_)
  subst ex
  obtain rfl : u = Value.ref d := rx
  obtain ⟨hs, hgd, hx, es, ep, hdt, hsz, ent⟩ := I1.frzT hd
  have hm : s1.heap.DictRaw d es ep := ⟨o, hgd, hx, hdt⟩
  refine ⟨⟨o, hgd, hx.1⟩, ?_, ?_⟩
  · exact fun b e => by cases e; exact ⟨o, hgd, hx.2.1⟩
  have I2 : Inv X pins σ H1 { s1 with heap := s1.heap.push { cls := .type "dict_values", data := .fields #[.ref d] } } := I1.kept (t' := s1.toks) fun b ob q => Heap.get?_push_of_some _ q
  have fin : wpAny (model X.prog X.w) X.A (pyIter (.ref s1.heap.objs.size)) (PIE X pins σ tg R) X.xe { s1 with heap := s1.heap.push { cls := .type "dict_values", data := .fields #[.ref d] } } := by
    refine wpAny_pyIter_values_raw (d := d) ⟨_, Heap.get?_push_size _ rfl, rfl, rfl⟩ ⟨o, Heap.get?_push_of_some _ hgd, hx, hdt⟩ (pi_one (tk := s1.toks) I2 _ (turn_valsT _ hdt) ⟨_, Heap.get?_push_size _ rfl, rfl, ?_⟩ q)
    rw [hsz] <;> rfl
  show wpAny _ _ (callWith cpos (.builtin "dict.values") [.ref d] [] []) _ X.xe s1
  exact method_meetsIn F.slot_dict_values F.entry_dict_values rfl (PySem.evalArgs_none ⟨rfl, ⟨o, hgd, hx.1⟩, F.args_dict_values_1 _, _, meets_dict_values_raw d hs, ⟨es, ep, hm⟩, fin⟩)
end
section
variable {K : PySem.W.Frag} {E : XK} {F G L Fk Fv : FE} {T : FT} {A : FA} {g : FG} {vs : List Nat} {te : TE} {f : Str} {i : Nat} {mk : Addr → Obj → List (List Key × V) → It} {its : List (List Key) → List D → List D} {ok : List (List Key) → Prop}
abbrev okAny : List (List Key) → Prop := fun _ => True
theorem dwt_vals : DWalkT K Itdt (fun _ ds => ds) okAny := ⟨fun ks ds h => by omega, fun W H d o kvs ds hd s r _ => by
  have hl : ds.length = kvs.length := by rw [← r.len, List.length_map]
  refine ⟨_, _, by rw [hl]; exact walk_valsT (d := d) (o := o) (kvs := kvs), fun H3 e => e _ _ (s _ _ hd), fun i H3 x H4 W3 hi _ e s3 y => ?_⟩
  obtain ⟨rfl, k, hk⟩ := y
  obtain ⟨b, g3, g4⟩ := r.get (i := i) (v := x) (by rw [List.getElem?_map, hk]; rfl)
  exact ⟨W3, b, g3, Ex.refl s3, g4.gx e⟩⟩
abbrev okKeys : List (List Key) → Prop := fun ks => ∀ k ∈ ks, k.length ≤ sizeLine
theorem dwt_keys : DWalkT K Itkt (fun ks _ => ks.map fun k => .tup (k.map kD)) okKeys := ⟨fun ks ds h => by rw [List.length_map]; omega, fun W H d o kvs ds hd s r hok => by
  refine ⟨_, _, by rw [List.length_map, List.length_map]; exact walk_keysT (d := d) (o := o) (kvs := kvs), fun H3 e => e _ _ (s _ _ hd), fun i H3 x H4 W3 hi _ e s3 y => ?_⟩
  obtain ⟨rfl, k, v, q, hk, rfl, hq⟩ := y
  have e1 := Ex.adopt s3 hq
  refine ⟨_, .tup (k.map kD), by rw [List.getElem?_map, List.getElem?_map, hk]; rfl, e1, .tup upd_same (rep_kts _) ?_⟩
  rw [List.length_map]
  exact hok k (List.mem_map.mpr ⟨(k, v), List.mem_of_getElem? hk, rfl⟩)⟩
theorem le_lockT {d : Addr} {od : Obj} {kvs : List (List Key × V)} {W : Hp} (h : W d = some (.dT kvs)) : Le W (upd W d (.frz od (.dT kvs))) := by
  refine ⟨fun a xs q => ?_, fun a u hu q => ?_, fun a C dx fs q => ?_, fun a q => ?_, fun a fs q => ?_, fun a vs q => by rw [upd_ne (fun z => by rw [z, h] at q; cases q)]; exact q⟩
  · rw [upd_ne (fun z => by rw [z, h] at q; cases q)]; exact q
  · by_cases z : a = d
    · subst z
      rcases q with q | ⟨o, q⟩
      · rw [h] at q
        cases q
        exact .inr ⟨od, upd_same⟩
      · rw [h] at q; cases q
    · rcases q with q | ⟨o, q⟩
      · exact .inl (by rw [upd_ne z]; exact q)
      · exact .inr ⟨o, by rw [upd_ne z]; exact q⟩
  · rw [upd_ne (fun z => by rw [z, h] at q; cases q)]; exact q
  · rw [upd_ne (fun z => by rw [z, h] at q; cases q)]; exact q
  · rw [upd_ne (fun z => by rw [z, h] at q; cases q)]; exact q
theorem le_unlockT {d : Addr} {od : Obj} {kvs : List (List Key × V)} {W : Hp} (h : W d = some (.frz od (.dT kvs))) : Le W (upd W d (.dT kvs)) := by
  refine ⟨fun a xs q => ?_, fun a u hu q => ?_, fun a C dx fs q => ?_, fun a q => ?_, fun a fs q => ?_, fun a vs q => by rw [upd_ne (fun z => by rw [z, h] at q; cases q)]; exact q⟩
  · rw [upd_ne (fun z => by rw [z, h] at q; cases q)]; exact q
  · by_cases z : a = d
    · subst z
      rcases q with q | ⟨o, q⟩
      · rw [h] at q
        cases q
        exact absurd rfl (hu _ _)
      · rw [h] at q
        cases q
        exact .inl upd_same
    · rcases q with q | ⟨o, q⟩
      · exact .inl (by rw [upd_ne z]; exact q)
      · exact .inr ⟨o, by rw [upd_ne z]; exact q⟩
  · rw [upd_ne (fun z => by rw [z, h] at q; cases q)]; exact q
  · rw [upd_ne (fun z => by rw [z, h] at q; cases q)]; exact q
  · rw [upd_ne (fun z => by rw [z, h] at q; cases q)]; exact q
theorem Sat.lockT {W0 H0 W H : Hp} {ρ : Env} {σ : L2.St} {d : Addr} {od : Obj} {kvs : List (List Key × V)} (st : Sat K W0 H0 W ρ σ H) (hd : W d = some (.dT kvs)) : ∃ W0' H0', Sat K W0' H0' (upd W d (.frz od (.dT kvs))) ρ σ (upd H d (.frz od (.dT kvs))) := by
  have hH := st.see _ _ hd
  have e := lk_ex (d := d) (u := .frz od (.dT kvs)) (fun vs z => by rw [hH] at z; cases z) st.ex
  rw [lk_at hd, lk_at hH] at e
  refine ⟨_, _, e, st.len, ?_⟩
  obtain ⟨oa, h1, h2⟩ := st.rep
  refine ⟨oa, h1, fun i b hb => ?_⟩
  obtain ⟨s, h3, h4⟩ := h2 i b hb
  refine ⟨s, h3, ?_⟩
  have ne : ∀ p, W p = none → p ≠ d := fun p hp z => by rw [z, hd] at hp; cases hp
  cases b with
  | un => exact h4
  | val d' =>
    obtain ⟨k1, v, k2, k3⟩ := h4
    exact ⟨k1, v, k2, k3.le (le_lockT hd)⟩
  | lst es =>
    obtain ⟨p, us, k1, k2, k3, k4, k5, k6, k7⟩ := h4
    exact ⟨p, us, k1, k2, by rw [upd_ne (ne p k3)]; exact k3, lk_none.mpr k4, by rw [upd_ne (ne p k3)]; exact k5, k6.le (le_lockT hd), k7⟩
  | dic ks es =>
    obtain ⟨p, us, k1, k2, k3, k4, k5, k6, k7, k8⟩ := h4
    exact ⟨p, us, k1, k2, by rw [upd_ne (ne p k3)]; exact k3, lk_none.mpr k4, by rw [upd_ne (ne p k3)]; exact k5, k6, k7.le (le_lockT hd), k8⟩
  | obj a C ns es =>
    obtain ⟨p, dx, us, k0, k1, k2, k3, k4, k5, k6, k7, k8, k9, k10⟩ := h4
    exact ⟨p, dx, us, k0, k1, k2, by rw [upd_ne (ne p k3)]; exact k3, lk_none.mpr k4, by rw [upd_ne (ne p k3)]; exact k5, by rw [upd_ne (fun z => by rw [z, hH] at k6; cases k6)]; exact k6, lk_none.mpr k7, k8, k9.le (le_lockT hd), k10⟩
  | bor p ks es =>
    obtain ⟨k1, k2, k3, od', kvs', k5, k6, k7, k8⟩ := h4
    exact ⟨k1, k2, by rw [upd_ne (ne p k3)]; exact k3, od', kvs', by rw [upd_ne (ne p k3)]; exact k5, k6, k7.le (le_lockT hd), k8⟩
  | dit ks es =>
    obtain ⟨p, us, k1, k2, k3, k4, k5, k6, k7, k8⟩ := h4
    exact ⟨p, us, k1, k2, by rw [upd_ne (ne p k3)]; exact k3, lk_none.mpr k4, by rw [upd_ne (ne p k3)]; exact k5, k6, k7.le (le_lockT hd), k8⟩
theorem lkh_reflT (H : Hp) : LkHT H H := fun _ _ h => .inl h
theorem lkh_lockT {H : Hp} {d : Addr} {od : Obj} {kvs : List (List Key × V)} (h : H d = some (.dT kvs)) : LkHT H (upd H d (.frz od (.dT kvs))) := fun a o q => by
  by_cases z : a = d
  · subst z
    rw [h] at q
    cases q
    exact .inr ⟨kvs, od, rfl, upd_same⟩
  · exact .inl (by rw [upd_ne z]; exact q)
theorem ex_unlockT {W H W' H' : Hp} {d : Addr} {od : Obj} {kvs : List (List Key × V)} (hd : W d = some (.dT kvs)) (hH : H d = some (.dT kvs)) (e : Ex (upd W d (.frz od (.dT kvs))) (upd H d (.frz od (.dT kvs))) W' H') : Ex W H (upd W' d (.dT kvs)) (upd H' d (.dT kvs)) := by
  have h := lk_ex (d := d) (u := .dT kvs) (fun vs z => by rw [e.h _ _ upd_same] at z; cases z) e
  rw [lk_at (o := .frz od (.dT kvs)) upd_same, lk_at (o := .frz od (.dT kvs)) upd_same, upd_upd, upd_upd, upd_id hd, upd_id hH, lk_at (e.w _ _ upd_same), lk_at (e.h _ _ upd_same)] at h
  exact h
theorem lcw_toT {gh : TG} {tt : TT} {td te : TE} {σ : L2.St} {H : Hp} {Qh : VK} (hs : StatT K td F) (dw : DWalkT K mk its ok) (gs : GSnd K gh g vs) (ht : ∀ σ H Q, tDB K E0 T σ H Q → tt σ H Q) (he : ∀ σ H Q, tD K E0 G σ H Q → te σ H Q)
    (h : tDN K E (fLc (fDwT its ok F) g T G vs) σ H Qh) : tLockE (tLc (iDwT mk td) gh tt te vs) σ H Qh ∨ tLc (iDwT mk td) gh tt te vs σ H Qh := by
  obtain ⟨W0, H0, W, ρ, Q, Z, st, f, k, x⟩ := h
  obtain ⟨v, d, r, ⟨ks, ds, z, hok, hn, q⟩, hst⟩ := hs W0 H0 W ρ σ H _ Z st f
  subst z
  cases r with
  | @dit a kvs _ _ hd hk hr hl =>
    subst hk
    rcases hd with hd | ⟨od, hd⟩
    · have hH := st.see _ _ hd
      refine .inl ⟨a, .dT kvs, hH, trivial, fun od => ?_⟩
      obtain ⟨W0', H0', st'⟩ := st.lockT (od := od) hd
      refine hst _ _ (lkh_lockT hH) ⟨a, od, kvs, rfl, upd_same, ?_⟩
      refine lc_body (Qh := fun v H' => H' a = some (.frz od (.dT kvs)) ∧ Qh v (upd H' a (.dT kvs))) gs ht he st' (dw.it _ _ a od kvs ds upd_same st'.see (hr.le (le_lockT hd)) hok) hn q fun p us W' H' es e hp hw h' r n q => ?_
      have hpa : p ≠ a := fun z => by rw [z, upd_same] at hp; cases hp
      rw [upd_ne hpa] at hp
      refine ⟨e.h _ _ upd_same, k p us _ _ es (ex_unlockT hd hH e) hp (by rw [upd_ne hpa]; exact hw) (by rw [upd_ne hpa]; exact h') (r.le (le_unlockT (e.w _ _ upd_same))) n q⟩
    · refine .inr (hst _ _ (lkh_reflT H) ⟨a, od, kvs, rfl, st.see _ _ hd, ?_⟩)
      exact lc_body (Qh := Qh) gs ht he st (dw.it _ _ a od kvs ds hd st.see hr hok) hn q k
end
section
variable {X : Cx} {K : PySem.W.Frag} {E : XK} {F G : FE} {T : FT} {tg : Expr} {pos : Pos} {g : FG} {gh : TG} {td : TE} {scope : Scope} {own : List (Str × Nat)} {ifs : List Expr} {elt iter : Expr} {mk : Addr → Obj → List (List Key × V) → It} {its : List (List Key) → List D → List D} {ok : List (List Key) → Prop}
theorem d_lcwT (hs : StatT K td F) (dw : DWalkT K mk its ok) (gs : GSnd K gh g (own.map (·.2))) (hp : PE X (.ListComp elt [⟨tg, iter, ifs, 0⟩] scope pos) (tLc (iDwT mk td) gh (tDB K E0 T) (tD K E0 G) (own.map (·.2)))) :
    PE X (.ListComp elt [⟨tg, iter, ifs, 0⟩] scope pos) (tDN K E (fLc (fDwT its ok F) g T G (own.map (·.2)))) := (PE.or (pe_lock hp) hp).mono fun _ _ _ h => lcw_toT hs dw gs (fun _ _ _ q => q) (fun _ _ _ q => q) h
end
end Pu
set_option Elab.async false
set_option maxRecDepth 100000
set_option maxHeartbeats 1000000
set_option linter.all false
namespace Pu
open PySem PySem.Spec PyProof.Rows L2 Ly
section
variable {X : Cx} {K : PySem.W.Frag} {E : XK} {W0 H0 : Hp} {F G : FE} {st : Stmt} {i j l : Nat}
/-- a, b = {}, y -/
def sParT (i j : Nat) (F : FE) : FS := fun ρ De => F ρ (fun d => De.nx ((ρ.set i (.dit [] [])).set j (.val d))) De.ex
theorem d_parT (h : PS X st (tPar i j (tCons tDNewT (tCons (tD K E F) tNil)))) : PS X st (tDS K W0 H0 E (sParT i j F)) := h.mono fun D σ H ⟨W, ρ, De, s, q, o⟩ =>
  fun p hp => by
    have e0 : Ex W H W (upd H p (.dT [])) := Ex.hid s.see hp
    refine ⟨W0, H0, W, ρ, _, _, s.ext e0, q, fun v W' H' d e r z => ?_, (o.xc s).ext e0⟩
    have hw : W' p = none := e.hide (s.see.free hp) upd_same (fun _ z => by cases z)
    exact ⟨_, _, rfl, o.nx W' _ _ H' (e0.trans e).w ((s.put (i := i) (b := .dit [] []) (e0.trans e) hp ⟨p, [], rfl, rfl, hw, s.ex.h.free hp, e.h _ _ upd_same, rfl, .nil, by decide⟩).set (i := j) r) z⟩
/-- a, b, c = x, {}, [] -/
def sPar3T (i j l : Nat) (F : FE) : FS := fun ρ De => F ρ (fun d => De.nx (((ρ.set i (.val d)).set j (.dit [] [])).set l (.lst []))) De.ex
theorem d_par3T (h : PS X st (tPar3 i j l (tCons (tD K E F) (tCons tDNewT (tCons (tLst tNil) tNil))))) : PS X st (tDS K W0 H0 E (sPar3T i j l F)) := h.mono fun D σ H ⟨W, ρ, De, s, q, o⟩ =>
  ⟨W0, H0, W, ρ, _, _, s, q, fun v W1 H1 d e1 r z => fun p hp => ⟨by decide, fun p2 hp2 => by
    have s1 := (s.ext e1).set (i := i) r
    have e2 : Ex W1 H1 W1 (upd H1 p (.dT [])) := Ex.hid e1.s hp
    have s2 := s1.put (i := j) (b := .dit [] []) e2 hp ⟨p, [], rfl, rfl, e1.s.free hp, s1.ex.h.free hp, upd_same, rfl, .nil, by decide⟩
    have e3 : Ex W1 (upd H1 p (.dT [])) W1 (upd (upd H1 p (.dT [])) p2 (.lst [])) := Ex.hid e2.s hp2
    have s3 := s2.put (i := l) (b := .lst []) e3 hp2 ⟨p2, [], rfl, rfl, e2.s.free hp2, s2.ex.h.free hp2, upd_same, .nil, by decide⟩
    exact ⟨_, _, _, rfl, o.nx W1 _ _ _ ((e1.trans e2).trans e3).w s3 z⟩⟩, o.xc s⟩
/-- x[k], y = v, w of an own dict x -/
def sPutPar (i j : Nat) (G F : FE) : FS := fun ρ De => F ρ (fun t => ∃ d d2, t = .tup [d, d2] ∧ ∃ ks ds, ρ[i]? = some (.dit ks ds) ∧ G ρ (fun y => ∃ k, keyTD y = some k ∧ ks.length < sizeLine ∧ De.nx ((ρ.set i (.dit (putKst ks k) (putDst ks ds k d))).set j (.val d2))) De.ex) De.ex
theorem d_putPar (h : PS X st (tAsg (tD K E F) (gTup K 2 (gCons (gSub (tVar i) (tD K E G) rSetD) (gCons (gName j) gNil))))) : PS X st (tDS K W0 H0 E (sPutPar i j G F)) := h.mono fun D σ H ⟨W, ρ, De, s, q, o⟩ => by
  refine ⟨W0, H0, W, ρ, _, _, s, q, fun v W1 H1 t e1 rt ⟨d, d2, z, ks, ds, hi, q1⟩ => ?_, o.xc s⟩
  subst z
  have s1 := s.ext e1
  obtain ⟨p, kvs, h1, _⟩ := s1.ownT hi
  cases rt with
  | tup g1 g2 g3 =>
    cases g2 with
    | @cons v1 _ _ _ r1 rr =>
      cases rr with
      | @cons v2 _ _ _ r3 rr =>
        cases rr
        refine ⟨_, _, rfl, SqT.of (e1.s _ _ g1), rfl, v1, [v2], rfl, .ref p, h1, W0, H0, W1, ρ, _, _, s1, q1, fun y W2 H2 dk e2 r2 ⟨kk, hk, hn, q2⟩ => ?_, o.xc s1⟩
        have s2 := s1.ext e2
        obtain ⟨p', us, f1, f2, f3, f4, f5⟩ := s2.ownT hi
        rw [h1] at f1
        cases f1
        subst f3
        have hl : us.length < sizeLine := by
          rw [List.length_map] at hn
          exact hn
        obtain ⟨h6, h7⟩ := rep_putt (k := kk) (r1.gx e2.w) f4
        obtain ⟨b, hb1, hb2⟩ := key_vt r2 hk
        refine ⟨p, _, rfl, .inr ⟨us, kk, b, f2, hb1, e2.s _ _ hb2, hl, rfl⟩, v2, [], rfl, rfl, ?_⟩
        exact o.nx W2 _ _ _ (e1.trans e2).w ((s2.chgT hi h1 h6 h7 (by have := Ly.putK_len us kk v1; omega)).set (i := j) (r3.gx e2.w)) q2
end
end Pu
set_option Elab.async false
set_option maxRecDepth 100000
set_option maxHeartbeats 1000000
set_option linter.all false
namespace Pu
open PySem PySem.Spec PyProof.Rows L2 Ly
section
variable {X : Cx} {K : PySem.W.Frag} {E : XK} {F : FE} {e : Expr} {p pos : Pos}
def rIsiF (K : PySem.W.Frag) : List V → Hp → VK → Prop := fun xs H Q => ∃ (a : Addr) (o : Obj) (kvs : List (List Key × V)) (n : String) (b : Bool), xs = [.ref a, .ty n] ∧ H a = some (.frz o (.dT kvs)) ∧ PySem.W.kitOne K (.type "dict") (.type n) = some b ∧ Q (.bl b) H
theorem call_isiF (hK : X.K = K := by rfl) : CallR X (.builtin "isinstance") (rIsiF K) := by
  subst hK
  intro pins s σ H xs us Q I r h
  obtain ⟨a, o, kvs, n, b, rfl, ea, e, q⟩ := h
  obtain ⟨u1, u2, rfl, r1, r2⟩ := vals2 r
  cases r1
  cases r2
  obtain ⟨_, _, _, xs, _, o', es, ep, h1, h2, _⟩ := (show ObjOk X.prog X.w H s.heap a (.frz o (.dT kvs)) from I.hok a _ ea)
  exact PySem.W.kia_one PySem.W.kitx_dict I.kIn ⟨o', h1, h2.1⟩ e (fun z => nomatch z) fun tk => ⟨.bl b, H, I.tok tk, rfl, q⟩
def okIT (K : PySem.W.Frag) : D → Prop
  | .dit _ _ => True
  | d => okI K d
def kdT : D → Kd
  | .dit _ _ => .dic
  | d => kdD d
/-- isinstance(x, T), x perhaps a dict with tuples as keys -/
def fIsiT (K : PySem.W.Frag) (n : String) (F : FE) : FE := fun ρ Q Z => F ρ (fun d => okIT K d ∧ Q (.bl (kdIs (kdT d) n))) Z
theorem dit_kit {n : String} (hn : n ∈ asked) : PySem.W.kitOne K (.type "dict") (.type n) = some (kdIs .dic n) := kit_ty ((show ∀ n ∈ asked, kitB "dict" n = some (kdIs .dic n) by decide +kernel) n hn)
theorem d_isiT {n : String} {y : Str} {p2 : Pos} (hn : n ∈ asked) (hg : Gl X "isinstance") (hm : X.mg "isinstance" = none) (h : PE X e (tDT K E F)) (ht : PE X (.Name y p2) (tC (.ty n))) (hK : X.K = K := by rfl)
    (hs : starEach [e, .Name y p2] X.env = (false, eval e X.env) :: starEach [.Name y p2] X.env := by rfl) (hs2 : starEach [.Name y p2] X.env = [(false, eval (.Name y p2) X.env)] := by rfl) (hpl : (backTo pos (starEach [.Name y p2] X.env)).any (·.1) = false := by rfl) :
    PE X (.Call (.Name "isinstance" p) [e, .Name y p2] [] pos) (tD K E (fIsiT K n F)) := by
  refine (pe_callB (callR_or (kcall_isi hK) (call_isiF hK)) hg hm (by decide +kernel) (pa_cons h (pa_cons ht pa_nil hs2) hs) (by decide) (by decide) hs hpl).mono fun σ H Qh ⟨W0, H0, W, ρ, Q, Z, st, f, k, x⟩ => ⟨W0, H0, W, ρ, _, Z, st, f, fun v W1 H1 d e1 r ⟨o, q⟩ => ?_, x⟩
  have fin := k _ W1 H1 _ e1 (.bl _) q
  have full := r.full e1.s
  by_cases c : ∃ ks ds, d = .dit ks ds
  · obtain ⟨ks, ds, rfl⟩ := c
    cases full with
    | dit h1 h2 h3 h4 =>
      rcases h1 with h1 | ⟨od, h1⟩
      · exact .inl ⟨_, .ty n, .type "dict", .type n, _, rfl, .ty n, .base (.dT h1), dit_kit hn, fin⟩
      · exact .inr ⟨_, od, _, n, _, rfl, h1, dit_kit hn, fin⟩
  · have o : okI K d := by
      cases d with
      | dit ks ds => exact absurd ⟨ks, ds, rfl⟩ c
      | _ => exact o
    have fin : Qh (V.bl (kdIs (kdD d) n)) H1 := by
      cases d with
      | dit ks ds => exact absurd ⟨ks, ds, rfl⟩ c
      | _ => exact fin
    rcases ty_of full o with ⟨t, _, h1, _, h2⟩ | ⟨C, ns, ds, z, h1, h2⟩
    · exact .inl ⟨v, .ty n, .type t, .type n, _, rfl, .ty n, h1, kit_ty (h2 n hn), fin⟩
    · subst z
      refine .inl ⟨v, .ty n, .ref C, .type n, false, rfl, .ty n, h1, h2.no n hn, ?_⟩
      have : kdIs (kdD (.obj C ns ds)) n = false := by
        show kdIs .own n = false
        rfl
      rw [this] at fin
      exact fin
/-- len of an own dict with tuples as keys -/
def fLenT (i : Nat) : FE := fun ρ Q _ => ∃ ks ds, ρ[i]? = some (.dit ks ds) ∧ Q (.int (ks.length : Nat))
theorem d_lenT {i : Nat} {y : Str} {p2 : Pos} (hg : Gl X "len") (hm : X.mg "len" = none) (h : PE X (.Name y p2) (tVar i)) (hs : starEach [.Name y p2] X.env = (false, eval (.Name y p2) X.env) :: starEach [] X.env := by rfl) (hpl : (backTo pos (starEach [] X.env)).any (·.1) = false := by rfl) :
    PE X (.Call (.Name "len" p) [.Name y p2] [] pos) (tD K E (fLenT i)) :=
  (pe_callB call_len_dT hg hm (by decide +kernel) (pa_cons h pa_nil hs) (by decide) (by decide) hs hpl).mono fun σ H Qh ⟨W0, H0, W, ρ, Q, Z, st, ⟨ks, ds, hi, q⟩, k, x⟩ => by
    obtain ⟨p, kvs, h1, h2, h3, h4, h5⟩ := st.ownT hi
    subst h3
    rw [List.length_map] at q
    exact ⟨.ref p, h1, p, kvs, rfl, h2, k _ W H _ (Ex.refl st.see) (.int _) q⟩
/-- i ** j of small numbers -/
def RPow (x y : D) (Q : D → Prop) : Prop := ∃ i j : Int, x = .int i ∧ y = .int j ∧ CPowW i j ∧ Q (.int (i ^ j.toNat))
theorem s_pow : RSnd K (rI CPowW fun i j => .int (i ^ j.toNat)) RPow := fun W H x y a b Q Qh s r1 r2 ⟨i, j, h1, h2, hc, q⟩ kk => by
  subst h1 h2
  exact ⟨i, j, r1.int_inv, r2.int_inv, hc, kk _ W H _ (Ex.refl s) (.int _) q⟩
end
end Pu
set_option Elab.async false
set_option maxRecDepth 100000
set_option maxHeartbeats 1000000
set_option linter.all false
namespace K70
open PySem PySem.Spec PyProof.Rows L2 Ly Pu
def top (i : Nat) : Stmt := PySem.Challenge.pw_firstneed_k70_whole_numbers_states_and_t.main.body.getD i (.Pass ⟨0, 0, 0, 0⟩)
structure Txt (K : PySem.W.Frag) (mg : Str → Option Value) : Prop where
  z_set : mg "set" = none
  z_len : mg "len" = none
  z_int : mg "int" = none
  z_bool : mg "bool" = none
  z_str : mg "str" = none
  z_list : mg "list" = none
  z_tuple : mg "tuple" = none
  z_dict : mg "dict" = none
  z_abs : mg "abs" = none
  z_max : mg "max" = none
  z_min : mg "min" = none
  z_range : mg "range" = none
  z_repr : mg "repr" = none
  z_isinstance : mg "isinstance" = none
  z_all : mg "all" = none
  z_any : mg "any" = none
  z_sorted : mg "sorted" = none
  z_enumerate : mg "enumerate" = none
  z_zip : mg "zip" = none
structure Adr where
  cInvalidTable : Addr
  cInvalidOperation : Addr
  cParseError : Addr
section
variable {P : Program} {w : World} {K : PySem.W.Frag} {mg : Str → Option Value} {base : Heap} {A : Adr}
def G_roll (K : PySem.W.Frag) (A : Adr) : Fn := FRoll
def G_pick (K : PySem.W.Frag) (A : Adr) : Fn := FPick
def G_dice (K : PySem.W.Frag) (A : Adr) : Fn := FDice
def G_some (K : PySem.W.Frag) (A : Adr) : Fn := FSome
abbrev s_is_integer : Stmt := top 2
abbrev nm_is_integer : List Str := ["value"]
abbrev ps_is_integer : List Str := ["value"]
theorem sc_is_integer : FnScope nm_is_integer ps_is_integer (defScope s_is_integer) := ⟨rfl, rfl, rfl, by decide +kernel, rfl, by decide +kernel, by decide +kernel⟩
def S_is_integer (K : PySem.W.Frag) (A : Adr) : FS :=
  (sRet (fAndV (fIsi K "int" (fVarT 0)) (fAndV (fNotV (fIsi K "bool" (fVarT 0))) (fChain RLt RLt (fNeg (fC (.int 1000000000000000000000000000000000000000000000000000000000000))) (fVarT 0) (fC (.int 1000000000000000000000000000000000000000000000000000000000000))))))
def G_is_integer (K : PySem.W.Frag) (A : Adr) : Fn := fnS 1 (S_is_integer K A)
theorem ok_is_integer {f : Addr} {fd : FuncData} (F : Fun K "is_integer" "is_integer" s_is_integer f fd) (T : Txt K mg) {t_LONGEST : Tok} (g_LONGEST : mg "LONGEST" = some (.int (1000000000000000000000000000000000000000000000000000000000000) t_LONGEST)) : FnOk P w K mg base (L2.CX P w) 1 f fd ps_is_integer (spD K 1 (G_is_integer K A)) := by
  have nd := sc_is_integer.nd
  exact fn_d (k := 0) F sc_is_integer rfl (fun cdv Ar outer s H E W0 hr => (d_sone (d_ret (d_andV (d_isi (K := K) (by decide) rfl T.z_isinstance (d_varT (pv 0)) (pe_ty "int" (by rfl) T.z_int (by decide +kernel))) (d_andV (d_notV (d_isi (K := K) (by decide) rfl T.z_isinstance (d_varT (pv 0)) (pe_ty "bool" (by rfl) T.z_bool (by decide +kernel)))) (d_one (d_chain op_lt op_lt s_lt s_lt (d_t (d_neg (d_int (pe_gint rfl g_LONGEST)))) (d_varT (pv 0)) (d_t (d_int (pe_gint rfl g_LONGEST)))))))))) fun _ _ _ _ h => h
abbrev s_is_within : Stmt := top 3
abbrev nm_is_within : List Str := ["value", "least", "most"]
abbrev ps_is_within : List Str := ["value", "least", "most"]
theorem sc_is_within : FnScope nm_is_within ps_is_within (defScope s_is_within) := ⟨rfl, rfl, rfl, by decide +kernel, rfl, by decide +kernel, by decide +kernel⟩
def S_is_within (K : PySem.W.Frag) (A : Adr) : FS :=
  (sRet (fAndV (fCall (G_is_integer K A) 1 (fCons (fVar 0) fNil)) (fChain RLe RLe (fVarT 1) (fVarT 0) (fVarT 2))))
def G_is_within (K : PySem.W.Frag) (A : Adr) : Fn := fnS 3 (S_is_within K A)
theorem ok_is_within {f : Addr} {fd : FuncData} (F : Fun K "is_within" "is_within" s_is_within f fd) (T : Txt K mg) (C_is_integer : CalF P w K mg base "is_integer" 1 1 (G_is_integer K A)) : FnOk P w K mg base (L2.CX P w) 2 f fd ps_is_within (spD K 3 (G_is_within K A)) := by
  have nd := sc_is_within.nd
  exact fn_d (k := 1) F sc_is_within rfl (fun cdv Ar outer s H E W0 hr => (d_sone (d_ret (d_andV (d_call C_is_integer (hr.mono (by first | decide | omega)) rfl (passes_call (takes_of rfl rfl rfl rfl) fun _ _ _ _ h => h) (d_cons (d_var (pv 0)) d_nil)) (d_one (d_chain op_le op_le s_le s_le (d_varT (pv 1)) (d_varT (pv 0)) (d_varT (pv 2)))))))) fun _ _ _ _ h => h
abbrev s_number_of : Stmt := top 16
abbrev nm_number_of : List Str := ["word", "sign"]
abbrev ps_number_of : List Str := ["word"]
theorem sc_number_of : FnScope nm_number_of ps_number_of (defScope s_number_of) := ⟨rfl, rfl, rfl, by decide +kernel, rfl, by decide +kernel, by decide +kernel⟩
def S_number_of (K : PySem.W.Frag) (A : Adr) : FS :=
  (sSeq (sIf (fOr (fNot (fTst (fChain RLe RLe (fC (.int 1)) (fCB RLen (fCons (fVarT 0) fNil)) (fC (.int 60))))) (fNot (fTst (fCB RAll (fCons (fNew (fLc (fIt (fVarT 0)) (gN 1) fYes (fOp (RIn false) (fVarT 1) (fC (.str "0123456789"))) [1])) fNil))))) (sRet (fC .non)) sNext)
      (sRet (fIf (fOr (fTst (fOp REq (fVarT 0) (fC (.str "0")))) (fTst (fOp RNe (fOp RIx (fVarT 0) (fC (.int 0))) (fC (.str "0"))))) (fCB RIntS (fCons (fVarT 0) fNil)) (fC .non))))
def G_number_of (K : PySem.W.Frag) (A : Adr) : Fn := fnS 2 (S_number_of K A)
theorem ok_number_of {f : Addr} {fd : FuncData} (F : Fun K "number_of" "number_of" s_number_of f fd) (T : Txt K mg) {t_DIGITS : Tok} (g_DIGITS : mg "DIGITS" = some (.str "0123456789" t_DIGITS))
    {t_MAX_DIGITS : Tok} (g_MAX_DIGITS : mg "MAX_DIGITS" = some (.int (60) t_MAX_DIGITS)) : FnOk P w K mg base (L2.CX P w) 1 f fd ps_number_of (spD K 1 (G_number_of K A)) := by
  have nd := sc_number_of.nd
  exact fn_d (k := 0) F sc_number_of rfl (fun cdv Ar outer s H E W0 hr => (d_seq (d_ifs (PW.pt (d_or (d_not (d_tchain op_le op_le s_le s_le (d_t (d_int pe_int)) (d_t (d_cb (c_len (K := K)) s_len (by rfl) T.z_len (by decide +kernel) (d_consT (d_varT (pv 0)) d_nilT))) (d_t (d_int (pe_gint rfl g_MAX_DIGITS))))) (d_or1 (d_not (d_test (d_cb (kcr_all (K := K) rfl) s_all (by rfl) T.z_all (by decide +kernel) (d_consT (d_nt (d_lc (own := [("sign", 1)]) (by rfl) nd (d_itC (K := K) (d_varT (pv 0))) (blkOk_by (own := [("sign", 1)]) (N := nm_number_of) (sc := defScope s_number_of) (by decide +kernel)) (g_name (by decide)) (fun _ _ _ _ _ => (pg_name (i := 1) nd rfl (Or.inl rfl))) (fun _ _ _ _ _ => d_pts0) (fun _ _ _ _ _ => (d_cmp (op_inA (K := K) (hr65 hr)) s_in (d_varT (pv 1)) (d_t (d_str (pe_gstr rfl g_DIGITS))) rfl)))) d_nilT))))))) (d_sone (d_ret (d_non pe_non))) d_snil)
      (d_sone (d_ret (d_if (PW.pt (d_or (d_tcmp (op_eqA (K := K) hr.units) s_eq (d_varT (pv 0)) (d_t (d_str pe_str)) (nomark _)) (d_or1 (d_tcmp (op_neA (K := K) hr.units) s_ne (d_t (d_ix (ix_A (K := K)) s_ix (d_varT (pv 0)) (d_t (d_int pe_int)) (fun _ _ => rfl))) (d_t (d_str pe_str)) (nomark _))))) (d_ct L2.call_int_str s_intS (by rfl) T.z_int (by decide +kernel) (d_consT (d_varT (pv 0)) d_nilT)) (d_non pe_non)))))) fun _ _ _ _ h => h
abbrev s_require_string : Stmt := top 17
abbrev nm_require_string : List Str := ["text"]
abbrev ps_require_string : List Str := ["text"]
theorem sc_require_string : FnScope nm_require_string ps_require_string (defScope s_require_string) := ⟨rfl, rfl, rfl, by decide +kernel, rfl, by decide +kernel, by decide +kernel⟩
def S_require_string (K : PySem.W.Frag) (A : Adr) : FS :=
  (sIf (fNot (fTst (fIsi K "str" (fVarT 0)))) (sRaiseK A.cParseError "line" (fC .non)) sNext)
def G_require_string (K : PySem.W.Frag) (A : Adr) : Fn := fnS 1 (S_require_string K A)
theorem ok_require_string {f : Addr} {fd : FuncData} (F : Fun K "require_string" "require_string" s_require_string f fd) (T : Txt K mg) (Z_ParseError : CalX P w K mg base "ParseError" A.cParseError 1 "line") : FnOk P w K mg base (L2.CX P w) 3 f fd ps_require_string (spD K 1 (G_require_string K A)) := by
  have nd := sc_require_string.nd
  exact fn_d (k := 2) F sc_require_string rfl (fun cdv Ar outer s H E W0 hr => (d_sone (d_ifs (d_not (d_test (d_isi (K := K) (by decide) rfl T.z_isinstance (d_varT (pv 0)) (pe_ty "str" (by rfl) T.z_str (by decide +kernel))))) (d_sone (d_raiseK Z_ParseError rfl (takes_of rfl rfl rfl rfl) (hr.mono (by first | decide | omega)) rfl (d_non pe_non))) d_snil))) fun _ _ _ _ h => h
abbrev s_are_numbers : Stmt := top 18
abbrev nm_are_numbers : List Str := ["value", "number"]
abbrev ps_are_numbers : List Str := ["value"]
theorem sc_are_numbers : FnScope nm_are_numbers ps_are_numbers (defScope s_are_numbers) := ⟨rfl, rfl, rfl, by decide +kernel, rfl, by decide +kernel, by decide +kernel⟩
def S_are_numbers (K : PySem.W.Frag) (A : Adr) : FS :=
  (sRet (fAndV (fIsi K "tuple" (fVarT 0)) (fCB RAll (fCons (fNew (fLc (fIt (fVarT 0)) (gN 1) fYes (fCall (G_is_within K A) 3 (fCons (fVar 1) (fCons (fC (.int 0)) (fCons (fC (.int 1000000000000000000000000000000000000000000000000000000000000)) fNil)))) [1])) fNil))))
def G_are_numbers (K : PySem.W.Frag) (A : Adr) : Fn := fnS 2 (S_are_numbers K A)
theorem ok_are_numbers {f : Addr} {fd : FuncData} (F : Fun K "are_numbers" "are_numbers" s_are_numbers f fd) (T : Txt K mg) {t_LONGEST : Tok} (g_LONGEST : mg "LONGEST" = some (.int (1000000000000000000000000000000000000000000000000000000000000) t_LONGEST))
    (C_is_within : CalF P w K mg base "is_within" 2 3 (G_is_within K A)) : FnOk P w K mg base (L2.CX P w) 3 f fd ps_are_numbers (spD K 1 (G_are_numbers K A)) := by
  have nd := sc_are_numbers.nd
  exact fn_d (k := 2) F sc_are_numbers rfl (fun cdv Ar outer s H E W0 hr => (d_sone (d_ret (d_andV (d_isi (K := K) (by decide) rfl T.z_isinstance (d_varT (pv 0)) (pe_ty "tuple" (by rfl) T.z_tuple (by decide +kernel))) (d_one (d_cb (kcr_all (K := K) rfl) s_all (by rfl) T.z_all (by decide +kernel) (d_consT (d_nt (d_lc (own := [("number", 1)]) (by rfl) nd (d_itC (K := K) (d_varT (pv 0))) (blkOk_by (own := [("number", 1)]) (N := nm_are_numbers) (sc := defScope s_are_numbers) (by decide +kernel)) (g_name (by decide)) (fun _ _ _ _ _ => (pg_name (i := 1) nd rfl (Or.inl rfl))) (fun _ _ _ _ _ => d_pts0) (fun _ _ _ _ _ => (d_call C_is_within (hr.mono (by first | decide | omega)) rfl passL (d_cons (d_var (pv 1)) (d_cons (d_int pe_int) (d_cons (d_int (pe_gint rfl g_LONGEST)) d_nil))))))) d_nilT))))))) fun _ _ _ _ h => h
abbrev s_is_rising : Stmt := top 19
abbrev nm_is_rising : List Str := ["value", "one", "other"]
abbrev ps_is_rising : List Str := ["value"]
theorem sc_is_rising : FnScope nm_is_rising ps_is_rising (defScope s_is_rising) := ⟨rfl, rfl, rfl, by decide +kernel, rfl, by decide +kernel, by decide +kernel⟩
def S_is_rising (K : PySem.W.Frag) (A : Adr) : FS :=
  (sRet (fAndV (fCall (G_are_numbers K A) 1 (fCons (fVar 0) fNil)) (fCB RAll (fCons (fNew (fLc (fZip (fCons (fVar 0) (fCons (fSl (fVarT 0) (oAt (fC (.int 1))) oNo) fNil))) (gT [1, 2]) fYes (fOp RLt (fVarT 1) (fVarT 2)) [1, 2])) fNil))))
def G_is_rising (K : PySem.W.Frag) (A : Adr) : Fn := fnS 3 (S_is_rising K A)
theorem ok_is_rising {f : Addr} {fd : FuncData} (F : Fun K "is_rising" "is_rising" s_is_rising f fd) (T : Txt K mg) (C_are_numbers : CalF P w K mg base "are_numbers" 3 1 (G_are_numbers K A)) : FnOk P w K mg base (L2.CX P w) 4 f fd ps_is_rising (spD K 1 (G_is_rising K A)) := by
  have nd := sc_is_rising.nd
  exact fn_d (k := 3) F sc_is_rising rfl (fun cdv Ar outer s H E W0 hr => (d_sone (d_ret (d_andV (d_call C_are_numbers (hr.mono (by first | decide | omega)) rfl (passes_call (takes_of rfl rfl rfl rfl) fun _ _ _ _ h => h) (d_cons (d_var (pv 0)) d_nil)) (d_one (d_cb (kcr_all (K := K) rfl) s_all (by rfl) T.z_all (by decide +kernel) (d_consT (d_nt (d_lc (own := [("one", 1), ("other", 2)]) (by rfl) nd (d_fc (d_zip rfl T.z_zip (d_cons (d_var (pv 0)) (d_cons (d_slice (K := K) (d_varT (pv 0)) (d_oat (d_int pe_int)) d_ono) d_nil)))) (blkOk_by (own := [("one", 1), ("other", 2)]) (N := nm_is_rising) (sc := defScope s_is_rising) (by decide +kernel)) (g_pair (by decide) (by decide)) (fun _ _ _ _ _ => (kpg_tup (K := K) (n := 2) rfl (pgs_cons (pg_name (i := 1) nd rfl (Or.inl rfl)) (pgs_cons (pg_name (i := 2) nd rfl (Or.inl rfl)) pgs_nil)))) (fun _ _ _ _ _ => d_pts0) (fun _ _ _ _ _ => (d_cmp op_lt s_lt (d_varT (pv 1)) (d_varT (pv 2)) (nomark _))))) d_nilT))))))) fun _ _ _ _ h => h
abbrev s_numbers_text : Stmt := top 20
abbrev nm_numbers_text : List Str := ["numbers", "number"]
abbrev ps_numbers_text : List Str := ["numbers"]
theorem sc_numbers_text : FnScope nm_numbers_text ps_numbers_text (defScope s_numbers_text) := ⟨rfl, rfl, rfl, by decide +kernel, rfl, by decide +kernel, by decide +kernel⟩
def S_numbers_text (K : PySem.W.Frag) (A : Adr) : FS :=
  (sRet (fIf (fTst (fOp RNe (fVarT 0) (fTup fNil))) (fJoin (fC (.str " ")) (fNew (fLc (fIt (fVarT 0)) (gN 1) fYes (fCB RStrI (fCons (fVarT 1) fNil)) [1]))) (fC (.str "-"))))
def G_numbers_text (K : PySem.W.Frag) (A : Adr) : Fn := fnS 2 (S_numbers_text K A)
theorem ok_numbers_text {f : Addr} {fd : FuncData} (F : Fun K "numbers_text" "numbers_text" s_numbers_text f fd) (T : Txt K mg) {t_NOTHING : Tok} (g_NOTHING : mg "NOTHING" = some (.str "-" t_NOTHING)) : FnOk P w K mg base (L2.CX P w) 1 f fd ps_numbers_text (spD K 1 (G_numbers_text K A)) := by
  have nd := sc_numbers_text.nd
  exact fn_d (k := 0) F sc_numbers_text rfl (fun cdv Ar outer s H E W0 hr => (d_sone (d_ret (d_if (d_tcmp (op_neA (K := K) hr.units) s_ne (d_varT (pv 0)) (d_t (d_tup d_nil)) (nomark _)) (d_join (K := K) (d_str pe_str) (d_nt (d_lc (own := [("number", 1)]) (by rfl) nd (d_itC (K := K) (d_varT (pv 0))) (blkOk_by (own := [("number", 1)]) (N := nm_numbers_text) (sc := defScope s_numbers_text) (by decide +kernel)) (g_name (by decide)) (fun _ _ _ _ _ => (pg_name (i := 1) nd rfl (Or.inl rfl))) (fun _ _ _ _ _ => d_pts0) (fun _ _ _ _ _ => (d_ct L2.call_str_int s_strI (by rfl) T.z_str (by decide +kernel) (d_consT (d_varT (pv 1)) d_nilT)))))) (d_str (pe_gstr rfl g_NOTHING)))))) fun _ _ _ _ h => h
abbrev s_numbers_of : Stmt := top 21
abbrev nm_numbers_of : List Str := ["text", "found", "word"]
abbrev ps_numbers_of : List Str := ["text"]
theorem sc_numbers_of : FnScope nm_numbers_of ps_numbers_of (defScope s_numbers_of) := ⟨rfl, rfl, rfl, by decide +kernel, rfl, by decide +kernel, by decide +kernel⟩
def S_numbers_of (K : PySem.W.Frag) (A : Adr) : FS :=
  (sSeq (sAsg 1 (fIf (fTst (fOp RNe (fVarT 0) (fC (.str "-")))) (fNew (fLc (fIt (fNew (fSplit (fVar 0) (fC (.str " "))))) (gN 2) fYes (fCall (G_number_of K A) 1 (fCons (fVar 2) fNil)) [2])) (fNew (fLst fNil))))
      (sRet (fIf (fTst (fOp (RIn false) (fC .non) (fVarT 1))) (fC .non) (fCB RTuple (fCons (fVarT 1) fNil)))))
def G_numbers_of (K : PySem.W.Frag) (A : Adr) : Fn := fnS 3 (S_numbers_of K A)
theorem ok_numbers_of {f : Addr} {fd : FuncData} (F : Fun K "numbers_of" "numbers_of" s_numbers_of f fd) (T : Txt K mg) {t_NOTHING : Tok} (g_NOTHING : mg "NOTHING" = some (.str "-" t_NOTHING))
    (C_number_of : CalF P w K mg base "number_of" 1 1 (G_number_of K A)) : FnOk P w K mg base (L2.CX P w) 2 f fd ps_numbers_of (spD K 1 (G_numbers_of K A)) := by
  have nd := sc_numbers_of.nd
  exact fn_d (k := 1) F sc_numbers_of rfl (fun cdv Ar outer s H E W0 hr => (d_seq (d_asg (d_if (d_tcmp (op_neA (K := K) hr.units) s_ne (d_varT (pv 0)) (d_t (d_str (pe_gstr rfl g_NOTHING))) (nomark _)) (d_n (d_lc (own := [("word", 2)]) (by rfl) nd (d_itC (K := K) (d_nt (d_split (d_var (pv 0)) (d_str pe_str)))) (blkOk_by (own := [("word", 2)]) (N := nm_numbers_of) (sc := defScope s_numbers_of) (by decide +kernel)) (g_name (by decide)) (fun _ _ _ _ _ => (pg_name (i := 2) nd rfl (Or.inl rfl))) (fun _ _ _ _ _ => d_pts0) (fun _ _ _ _ _ => (d_call C_number_of (hr.mono (by first | decide | omega)) rfl passL (d_cons (d_var (pv 2)) d_nil))))) (d_n (d_lst d_nil))) (pg_name (i := 1) nd rfl (Or.inl rfl)))
      (d_sone (d_ret (d_if (d_tcmp (op_inA (K := K) (hr65 hr)) s_in (d_t (d_non pe_non)) (d_varT (pv 1)) rfl) (d_non pe_non) (d_ct (kcall_tuple (K := K)) s_tuple (by rfl) T.z_tuple (by decide +kernel) (d_consT (d_varT (pv 1)) d_nilT))))))) fun _ _ _ _ h => h
abbrev s_write_numbers : Stmt := top 22
abbrev nm_write_numbers : List Str := ["numbers"]
abbrev ps_write_numbers : List Str := ["numbers"]
theorem sc_write_numbers : FnScope nm_write_numbers ps_write_numbers (defScope s_write_numbers) := ⟨rfl, rfl, rfl, by decide +kernel, rfl, by decide +kernel, by decide +kernel⟩
def S_write_numbers (K : PySem.W.Frag) (A : Adr) : FS :=
  (sSeq (sIf (fNot (fTst (fCall (G_are_numbers K A) 1 (fCons (fVar 0) fNil)))) (sRaise A.cInvalidOperation) sNext)
      (sRet (fCall (G_numbers_text K A) 1 (fCons (fVar 0) fNil))))
def G_write_numbers (K : PySem.W.Frag) (A : Adr) : Fn := fnS 1 (S_write_numbers K A)
theorem ok_write_numbers {f : Addr} {fd : FuncData} (F : Fun K "write_numbers" "write_numbers" s_write_numbers f fd) (T : Txt K mg) (C_are_numbers : CalF P w K mg base "are_numbers" 3 1 (G_are_numbers K A))
    (C_numbers_text : CalF P w K mg base "numbers_text" 1 1 (G_numbers_text K A))
    (E_InvalidOperation : ExC K mg "InvalidOperation" A.cInvalidOperation) : FnOk P w K mg base (L2.CX P w) 4 f fd ps_write_numbers (spD K 1 (G_write_numbers K A)) := by
  have nd := sc_write_numbers.nd
  exact fn_d (k := 3) F sc_write_numbers rfl (fun cdv Ar outer s H E W0 hr => (d_seq (d_ifs (d_not (d_test (d_call C_are_numbers (hr.mono (by first | decide | omega)) rfl (passes_call (takes_of rfl rfl rfl rfl) fun _ _ _ _ h => h) (d_cons (d_var (pv 0)) d_nil)))) (d_sone (d_raise (ps_raise rfl (takes_of rfl rfl rfl rfl) (pmk_own PySem.F.excBase_ValueError E_InvalidOperation.x E_InvalidOperation.g E_InvalidOperation.k (raises_own E_InvalidOperation.b E_InvalidOperation.t) (by rfl))))) d_snil)
      (d_sone (d_ret (d_call C_numbers_text (hr.mono (by first | decide | omega)) rfl (passes_call (takes_of rfl rfl rfl rfl) fun _ _ _ _ h => h) (d_cons (d_var (pv 0)) d_nil)))))) fun _ _ _ _ h => h
abbrev s_read_numbers : Stmt := top 23
abbrev nm_read_numbers : List Str := ["text", "found"]
abbrev ps_read_numbers : List Str := ["text"]
theorem sc_read_numbers : FnScope nm_read_numbers ps_read_numbers (defScope s_read_numbers) := ⟨rfl, rfl, rfl, by decide +kernel, rfl, by decide +kernel, by decide +kernel⟩
def S_read_numbers (K : PySem.W.Frag) (A : Adr) : FS :=
  (sSeq (sDrop (fCall (G_require_string K A) 1 (fCons (fVar 0) fNil)))
      (sSeq (sAsg 1 (fCall (G_numbers_of K A) 1 (fCons (fVar 0) fNil)))
      (sSeq (sIf (fTst (fOp RIsN (fVarT 1) (fC .non))) (sRaiseK A.cParseError "line" (fC .non)) sNext)
      (sRet (fVar 1)))))
def G_read_numbers (K : PySem.W.Frag) (A : Adr) : Fn := fnS 2 (S_read_numbers K A)
theorem ok_read_numbers {f : Addr} {fd : FuncData} (F : Fun K "read_numbers" "read_numbers" s_read_numbers f fd) (T : Txt K mg) (C_require_string : CalF P w K mg base "require_string" 3 1 (G_require_string K A))
    (C_numbers_of : CalF P w K mg base "numbers_of" 2 1 (G_numbers_of K A))
    (Z_ParseError : CalX P w K mg base "ParseError" A.cParseError 1 "line") : FnOk P w K mg base (L2.CX P w) 4 f fd ps_read_numbers (spD K 1 (G_read_numbers K A)) := by
  have nd := sc_read_numbers.nd
  exact fn_d (k := 3) F sc_read_numbers rfl (fun cdv Ar outer s H E W0 hr => (d_seq (d_drop (d_call C_require_string (hr.mono (by first | decide | omega)) rfl (passes_call (takes_of rfl rfl rfl rfl) fun _ _ _ _ h => h) (d_cons (d_var (pv 0)) d_nil)))
      (d_seq (d_asg (d_call C_numbers_of (hr.mono (by first | decide | omega)) rfl (passes_call (takes_of rfl rfl rfl rfl) fun _ _ _ _ h => h) (d_cons (d_var (pv 0)) d_nil)) (pg_name (i := 1) nd rfl (Or.inl rfl)))
      (d_seq (d_ifs (d_tcmp op_isN s_isN (d_varT (pv 1)) (d_t (d_non pe_non)) (nomark _)) (d_sone (d_raiseK Z_ParseError rfl (takes_of rfl rfl rfl rfl) (hr.mono (by first | decide | omega)) rfl (d_non pe_non))) d_snil)
      (d_sone (d_ret (d_var (pv 1)))))))) fun _ _ _ _ h => h
abbrev s_is_state_row : Stmt := top 24
abbrev nm_is_state_row : List Str := ["value", "one", "other"]
abbrev ps_is_state_row : List Str := ["value"]
theorem sc_is_state_row : FnScope nm_is_state_row ps_is_state_row (defScope s_is_state_row) := ⟨rfl, rfl, rfl, by decide +kernel, rfl, by decide +kernel, by decide +kernel⟩
def S_is_state_row (K : PySem.W.Frag) (A : Adr) : FS :=
  (sSeq (sIf (fOr (fNot (fTst (fIsi K "tuple" (fVarT 0)))) (fOr (fTst (fOp RNe (fCB RLen (fCons (fVarT 0) fNil)) (fC (.int 2)))) (fOr (fNot (fTst (fCall (G_is_rising K A) 1 (fCons (fOp RIx (fVarT 0) (fC (.int 0))) fNil)))) (fNot (fTst (fIsi K "tuple" (fOp RIx (fVarT 0) (fC (.int 1))))))))) (sRet (fC (.bl false))) sNext)
      (sSeq (sIf (fNot (fTst (fCB RAll (fCons (fNew (fLc (fIt (fOp RIx (fVarT 0) (fC (.int 1)))) (gN 1) fYes (fCall (G_is_rising K A) 1 (fCons (fVar 1) fNil)) [1])) fNil)))) (sRet (fC (.bl false))) sNext)
      (sRet (fCB RAll (fCons (fNew (fLc (fZip (fCons (fOp RIx (fVarT 0) (fC (.int 1))) (fCons (fSl (fOp RIx (fVarT 0) (fC (.int 1))) (oAt (fC (.int 1))) oNo) fNil))) (gT [1, 2]) fYes (fOp RLtT (fVarT 1) (fVarT 2)) [1, 2])) fNil)))))
def G_is_state_row (K : PySem.W.Frag) (A : Adr) : Fn := fnS 3 (S_is_state_row K A)
theorem ok_is_state_row {f : Addr} {fd : FuncData} (F : Fun K "is_state_row" "is_state_row" s_is_state_row f fd) (T : Txt K mg) (C_is_rising : CalF P w K mg base "is_rising" 4 1 (G_is_rising K A)) : FnOk P w K mg base (L2.CX P w) 5 f fd ps_is_state_row (spD K 1 (G_is_state_row K A)) := by
  have nd := sc_is_state_row.nd
  exact fn_d (k := 4) F sc_is_state_row rfl (fun cdv Ar outer s H E W0 hr => (d_seq (d_ifs (PW.pt (d_or (d_not (d_test (d_isi (K := K) (by decide) rfl T.z_isinstance (d_varT (pv 0)) (pe_ty "tuple" (by rfl) T.z_tuple (by decide +kernel))))) (d_or (d_tcmp (op_neA (K := K) hr.units) s_ne (d_t (d_cb (c_len (K := K)) s_len (by rfl) T.z_len (by decide +kernel) (d_consT (d_varT (pv 0)) d_nilT))) (d_t (d_int pe_int)) (nomark _)) (d_or (d_not (d_test (d_call C_is_rising (hr.mono (by first | decide | omega)) rfl (passes_call (takes_of rfl rfl rfl rfl) fun _ _ _ _ h => h) (d_cons (d_ix (ix_A (K := K)) s_ix (d_varT (pv 0)) (d_t (d_int pe_int)) (fun _ _ => rfl)) d_nil)))) (d_or1 (d_not (d_test (d_isi (K := K) (by decide) rfl T.z_isinstance (d_t (d_ix (ix_A (K := K)) s_ix (d_varT (pv 0)) (d_t (d_int pe_int)) (fun _ _ => rfl))) (pe_ty "tuple" (by rfl) T.z_tuple (by decide +kernel)))))))))) (d_sone (d_ret (d_bl pe_bl))) d_snil)
      (d_seq (d_ifs (d_not (d_test (d_cb (kcr_all (K := K) rfl) s_all (by rfl) T.z_all (by decide +kernel) (d_consT (d_nt (d_lc (own := [("one", 1)]) (by rfl) nd (d_itC (K := K) (d_t (d_ix (ix_A (K := K)) s_ix (d_varT (pv 0)) (d_t (d_int pe_int)) (fun _ _ => rfl)))) (blkOk_by (own := [("one", 1)]) (N := nm_is_state_row) (sc := defScope s_is_state_row) (by decide +kernel)) (g_name (by decide)) (fun _ _ _ _ _ => (pg_name (i := 1) nd rfl (Or.inl rfl))) (fun _ _ _ _ _ => d_pts0) (fun _ _ _ _ _ => (d_call C_is_rising (hr.mono (by first | decide | omega)) rfl passL (d_cons (d_var (pv 1)) d_nil))))) d_nilT)))) (d_sone (d_ret (d_bl pe_bl))) d_snil)
      (d_sone (d_ret (d_cb (kcr_all (K := K) rfl) s_all (by rfl) T.z_all (by decide +kernel) (d_consT (d_nt (d_lc (own := [("one", 1), ("other", 2)]) (by rfl) nd (d_fc (d_zip rfl T.z_zip (d_cons (d_ix (ix_A (K := K)) s_ix (d_varT (pv 0)) (d_t (d_int pe_int)) (fun _ _ => rfl)) (d_cons (d_slice (K := K) (d_t (d_ix (ix_A (K := K)) s_ix (d_varT (pv 0)) (d_t (d_int pe_int)) (fun _ _ => rfl))) (d_oat (d_int pe_int)) d_ono) d_nil)))) (blkOk_by (own := [("one", 1), ("other", 2)]) (N := nm_is_state_row) (sc := defScope s_is_state_row) (by decide +kernel)) (g_pair (by decide) (by decide)) (fun _ _ _ _ _ => (kpg_tup (K := K) (n := 2) rfl (pgs_cons (pg_name (i := 1) nd rfl (Or.inl rfl)) (pgs_cons (pg_name (i := 2) nd rfl (Or.inl rfl)) pgs_nil)))) (fun _ _ _ _ _ => d_pts0) (fun _ _ _ _ _ => (d_cmp (op_ltTI (K := K) (Nat.lt_of_succ_lt (hr1 hr))) s_ltT (d_varT (pv 1)) (d_varT (pv 2)) (nomark _))))) d_nilT))))))) fun _ _ _ _ h => h
abbrev s_state_text : Stmt := top 25
abbrev nm_state_text : List Str := ["state", "classes", "one"]
abbrev ps_state_text : List Str := ["state"]
theorem sc_state_text : FnScope nm_state_text ps_state_text (defScope s_state_text) := ⟨rfl, rfl, rfl, by decide +kernel, rfl, by decide +kernel, by decide +kernel⟩
def S_state_text (K : PySem.W.Frag) (A : Adr) : FS :=
  (sSeq (sAsg 1 (fJoin (fC (.str "; ")) (fNew (fLc (fIt (fOp RIx (fVarT 0) (fC (.int 1)))) (gN 2) fYes (fCall (G_numbers_text K A) 1 (fCons (fVar 2) fNil)) [2]))))
      (sRet (fOp RAdd (fOp RAdd (fCall (G_numbers_text K A) 1 (fCons (fOp RIx (fVarT 0) (fC (.int 0))) fNil)) (fC (.str " | "))) (fIf (fTst (fOp RNe (fOp RIx (fVarT 0) (fC (.int 1))) (fTup fNil))) (fVar 1) (fC (.str "none"))))))
def G_state_text (K : PySem.W.Frag) (A : Adr) : Fn := fnS 3 (S_state_text K A)
theorem ok_state_text {f : Addr} {fd : FuncData} (F : Fun K "state_text" "state_text" s_state_text f fd) (T : Txt K mg) {t_BETWEEN : Tok} (g_BETWEEN : mg "BETWEEN" = some (.str "; " t_BETWEEN))
    {t_BAR : Tok} (g_BAR : mg "BAR" = some (.str " | " t_BAR))
    {t_NONE : Tok} (g_NONE : mg "NONE" = some (.str "none" t_NONE))
    (C_numbers_text : CalF P w K mg base "numbers_text" 1 1 (G_numbers_text K A)) : FnOk P w K mg base (L2.CX P w) 2 f fd ps_state_text (spD K 1 (G_state_text K A)) := by
  have nd := sc_state_text.nd
  exact fn_d (k := 1) F sc_state_text rfl (fun cdv Ar outer s H E W0 hr => (d_seq (d_asg (d_join (K := K) (d_str (pe_gstr rfl g_BETWEEN)) (d_nt (d_lc (own := [("one", 2)]) (by rfl) nd (d_itC (K := K) (d_t (d_ix (ix_A (K := K)) s_ix (d_varT (pv 0)) (d_t (d_int pe_int)) (fun _ _ => rfl)))) (blkOk_by (own := [("one", 2)]) (N := nm_state_text) (sc := defScope s_state_text) (by decide +kernel)) (g_name (by decide)) (fun _ _ _ _ _ => (pg_name (i := 2) nd rfl (Or.inl rfl))) (fun _ _ _ _ _ => d_pts0) (fun _ _ _ _ _ => (d_call C_numbers_text (hr.mono (by first | decide | omega)) rfl passL (d_cons (d_var (pv 2)) d_nil)))))) (pg_name (i := 1) nd rfl (Or.inl rfl)))
      (d_sone (d_ret (d_op (op_addA (K := K)) s_add (d_t (d_op (op_addA (K := K)) s_add (d_t (d_call C_numbers_text (hr.mono (by first | decide | omega)) rfl (passes_call (takes_of rfl rfl rfl rfl) fun _ _ _ _ h => h) (d_cons (d_ix (ix_A (K := K)) s_ix (d_varT (pv 0)) (d_t (d_int pe_int)) (fun _ _ => rfl)) d_nil))) (d_t (d_str (pe_gstr rfl g_BAR))))) (d_t (d_if (d_tcmp (op_neA (K := K) hr.units) s_ne (d_t (d_ix (ix_A (K := K)) s_ix (d_varT (pv 0)) (d_t (d_int pe_int)) (fun _ _ => rfl))) (d_t (d_tup d_nil)) (nomark _)) (d_var (pv 1)) (d_str (pe_gstr rfl g_NONE))))))))) fun _ _ _ _ h => h
abbrev s_state_of : Stmt := top 26
abbrev nm_state_of : List Str := ["text", "halves", "classes", "one", "state"]
abbrev ps_state_of : List Str := ["text"]
theorem sc_state_of : FnScope nm_state_of ps_state_of (defScope s_state_of) := ⟨rfl, rfl, rfl, by decide +kernel, rfl, by decide +kernel, by decide +kernel⟩
def S_state_of (K : PySem.W.Frag) (A : Adr) : FS :=
  (sSeq (sAsg 1 (fNew (fSplit (fVar 0) (fC (.str " | ")))))
      (sSeq (sIf (fTst (fOp RNe (fCB RLen (fCons (fVarT 1) fNil)) (fC (.int 2)))) (sRet (fC .non)) sNext)
      (sSeq (sAsg 2 (fIf (fTst (fOp RNe (fOp RIx (fVarT 1) (fC (.int 1))) (fC (.str "none")))) (fNew (fLc (fIt (fNew (fSplit (fOp RIx (fVarT 1) (fC (.int 1))) (fC (.str "; "))))) (gN 3) fYes (fCall (G_numbers_of K A) 1 (fCons (fVar 3) fNil)) [3])) (fNew (fLst fNil))))
      (sSeq (sAsg 4 (fTup (fCons (fCall (G_numbers_of K A) 1 (fCons (fOp RIx (fVarT 1) (fC (.int 0))) fNil)) (fCons (fCB RTuple (fCons (fVarT 2) fNil)) fNil))))
      (sRet (fIf (fTst (fCall (G_is_state_row K A) 1 (fCons (fVar 4) fNil))) (fVar 4) (fC .non)))))))
def G_state_of (K : PySem.W.Frag) (A : Adr) : Fn := fnS 5 (S_state_of K A)
theorem ok_state_of {f : Addr} {fd : FuncData} (F : Fun K "state_of" "state_of" s_state_of f fd) (T : Txt K mg) {t_BAR : Tok} (g_BAR : mg "BAR" = some (.str " | " t_BAR))
    {t_NONE : Tok} (g_NONE : mg "NONE" = some (.str "none" t_NONE))
    {t_BETWEEN : Tok} (g_BETWEEN : mg "BETWEEN" = some (.str "; " t_BETWEEN))
    (C_numbers_of : CalF P w K mg base "numbers_of" 2 1 (G_numbers_of K A))
    (C_is_state_row : CalF P w K mg base "is_state_row" 5 1 (G_is_state_row K A)) : FnOk P w K mg base (L2.CX P w) 6 f fd ps_state_of (spD K 1 (G_state_of K A)) := by
  have nd := sc_state_of.nd
  exact fn_d (k := 5) F sc_state_of rfl (fun cdv Ar outer s H E W0 hr => (d_seq (d_asg (d_n (d_split (d_var (pv 0)) (d_str (pe_gstr rfl g_BAR)))) (pg_name (i := 1) nd rfl (Or.inl rfl)))
      (d_seq (d_ifs (d_tcmp (op_neA (K := K) hr.units) s_ne (d_t (d_cb (c_len (K := K)) s_len (by rfl) T.z_len (by decide +kernel) (d_consT (d_varT (pv 1)) d_nilT))) (d_t (d_int pe_int)) (nomark _)) (d_sone (d_ret (d_non pe_non))) d_snil)
      (d_seq (d_asg (d_if (d_tcmp (op_neA (K := K) hr.units) s_ne (d_t (d_ix (ix_A (K := K)) s_ix (d_varT (pv 1)) (d_t (d_int pe_int)) (fun _ _ => rfl))) (d_t (d_str (pe_gstr rfl g_NONE))) (nomark _)) (d_n (d_lc (own := [("one", 3)]) (by rfl) nd (d_itC (K := K) (d_nt (d_split (d_ix (ix_A (K := K)) s_ix (d_varT (pv 1)) (d_t (d_int pe_int)) (fun _ _ => rfl)) (d_str (pe_gstr rfl g_BETWEEN))))) (blkOk_by (own := [("one", 3)]) (N := nm_state_of) (sc := defScope s_state_of) (by decide +kernel)) (g_name (by decide)) (fun _ _ _ _ _ => (pg_name (i := 3) nd rfl (Or.inl rfl))) (fun _ _ _ _ _ => d_pts0) (fun _ _ _ _ _ => (d_call C_numbers_of (hr.mono (by first | decide | omega)) rfl passL (d_cons (d_var (pv 3)) d_nil))))) (d_n (d_lst d_nil))) (pg_name (i := 2) nd rfl (Or.inl rfl)))
      (d_seq (d_asg (d_tup (d_cons (d_call C_numbers_of (hr.mono (by first | decide | omega)) rfl (passes_call (takes_of rfl rfl rfl rfl) fun _ _ _ _ h => h) (d_cons (d_ix (ix_A (K := K)) s_ix (d_varT (pv 1)) (d_t (d_int pe_int)) (fun _ _ => rfl)) d_nil)) (d_cons (d_ct (kcall_tuple (K := K)) s_tuple (by rfl) T.z_tuple (by decide +kernel) (d_consT (d_varT (pv 2)) d_nilT)) d_nil))) (pg_name (i := 4) nd rfl (Or.inl rfl)))
      (d_sone (d_ret (d_if (d_test (d_call C_is_state_row (hr.mono (by first | decide | omega)) rfl (passes_call (takes_of rfl rfl rfl rfl) fun _ _ _ _ h => h) (d_cons (d_var (pv 4)) d_nil))) (d_var (pv 4)) (d_non pe_non))))))))) fun _ _ _ _ h => h
abbrev s_write_state : Stmt := top 27
abbrev nm_write_state : List Str := ["state"]
abbrev ps_write_state : List Str := ["state"]
theorem sc_write_state : FnScope nm_write_state ps_write_state (defScope s_write_state) := ⟨rfl, rfl, rfl, by decide +kernel, rfl, by decide +kernel, by decide +kernel⟩
def S_write_state (K : PySem.W.Frag) (A : Adr) : FS :=
  (sSeq (sIf (fNot (fTst (fCall (G_is_state_row K A) 1 (fCons (fVar 0) fNil)))) (sRaise A.cInvalidTable) sNext)
      (sRet (fCall (G_state_text K A) 1 (fCons (fVar 0) fNil))))
def G_write_state (K : PySem.W.Frag) (A : Adr) : Fn := fnS 1 (S_write_state K A)
theorem ok_write_state {f : Addr} {fd : FuncData} (F : Fun K "write_state" "write_state" s_write_state f fd) (T : Txt K mg) (C_is_state_row : CalF P w K mg base "is_state_row" 5 1 (G_is_state_row K A))
    (C_state_text : CalF P w K mg base "state_text" 2 1 (G_state_text K A))
    (E_InvalidTable : ExC K mg "InvalidTable" A.cInvalidTable) : FnOk P w K mg base (L2.CX P w) 6 f fd ps_write_state (spD K 1 (G_write_state K A)) := by
  have nd := sc_write_state.nd
  exact fn_d (k := 5) F sc_write_state rfl (fun cdv Ar outer s H E W0 hr => (d_seq (d_ifs (d_not (d_test (d_call C_is_state_row (hr.mono (by first | decide | omega)) rfl (passes_call (takes_of rfl rfl rfl rfl) fun _ _ _ _ h => h) (d_cons (d_var (pv 0)) d_nil)))) (d_sone (d_raise (ps_raise rfl (takes_of rfl rfl rfl rfl) (pmk_own PySem.F.excBase_ValueError E_InvalidTable.x E_InvalidTable.g E_InvalidTable.k (raises_own E_InvalidTable.b E_InvalidTable.t) (by rfl))))) d_snil)
      (d_sone (d_ret (d_call C_state_text (hr.mono (by first | decide | omega)) rfl (passes_call (takes_of rfl rfl rfl rfl) fun _ _ _ _ h => h) (d_cons (d_var (pv 0)) d_nil)))))) fun _ _ _ _ h => h
abbrev s_read_state : Stmt := top 28
abbrev nm_read_state : List Str := ["text", "state"]
abbrev ps_read_state : List Str := ["text"]
theorem sc_read_state : FnScope nm_read_state ps_read_state (defScope s_read_state) := ⟨rfl, rfl, rfl, by decide +kernel, rfl, by decide +kernel, by decide +kernel⟩
def S_read_state (K : PySem.W.Frag) (A : Adr) : FS :=
  (sSeq (sDrop (fCall (G_require_string K A) 1 (fCons (fVar 0) fNil)))
      (sSeq (sAsg 1 (fCall (G_state_of K A) 1 (fCons (fVar 0) fNil)))
      (sSeq (sIf (fTst (fOp RIsN (fVarT 1) (fC .non))) (sRaiseK A.cParseError "line" (fC .non)) sNext)
      (sRet (fVar 1)))))
def G_read_state (K : PySem.W.Frag) (A : Adr) : Fn := fnS 2 (S_read_state K A)
theorem ok_read_state {f : Addr} {fd : FuncData} (F : Fun K "read_state" "read_state" s_read_state f fd) (T : Txt K mg) (C_require_string : CalF P w K mg base "require_string" 3 1 (G_require_string K A))
    (C_state_of : CalF P w K mg base "state_of" 6 1 (G_state_of K A))
    (Z_ParseError : CalX P w K mg base "ParseError" A.cParseError 1 "line") : FnOk P w K mg base (L2.CX P w) 7 f fd ps_read_state (spD K 1 (G_read_state K A)) := by
  have nd := sc_read_state.nd
  exact fn_d (k := 6) F sc_read_state rfl (fun cdv Ar outer s H E W0 hr => (d_seq (d_drop (d_call C_require_string (hr.mono (by first | decide | omega)) rfl (passes_call (takes_of rfl rfl rfl rfl) fun _ _ _ _ h => h) (d_cons (d_var (pv 0)) d_nil)))
      (d_seq (d_asg (d_call C_state_of (hr.mono (by first | decide | omega)) rfl (passes_call (takes_of rfl rfl rfl rfl) fun _ _ _ _ h => h) (d_cons (d_var (pv 0)) d_nil)) (pg_name (i := 1) nd rfl (Or.inl rfl)))
      (d_seq (d_ifs (d_tcmp op_isN s_isN (d_varT (pv 1)) (d_t (d_non pe_non)) (nomark _)) (d_sone (d_raiseK Z_ParseError rfl (takes_of rfl rfl rfl rfl) (hr.mono (by first | decide | omega)) rfl (d_non pe_non))) d_snil)
      (d_sone (d_ret (d_var (pv 1)))))))) fun _ _ _ _ h => h
end
end K70
set_option Elab.async false
set_option maxRecDepth 100000
set_option maxHeartbeats 1000000
set_option linter.all false
namespace K70
open PySem PySem.Spec PyProof.Rows L2 Ly Pu
section
variable {P : Program} {w : World} {K : PySem.W.Frag} {mg : Str → Option Value} {base : Heap} {A : Adr}
abbrev s_rising : Stmt := top 38
abbrev nm_rising : List Str := ["_law_dice_here", "_law_most"]
abbrev ps_rising : List Str := ["_law_dice_here", "_law_most"]
theorem sc_rising : FnScope nm_rising ps_rising (defScope s_rising) := ⟨rfl, rfl, rfl, by decide +kernel, rfl, by decide +kernel, by decide +kernel⟩
def S_rising (K : PySem.W.Frag) (A : Adr) : FS :=
  (sRet (fCB RTuple (fCons (fNew (fCBN RSortDt (fCons (fCall (G_some K A) 3 (fCons (fVar 0) (fCons (fNew (fLst (fCons (fC (.int 0)) (fCons (fC (.int 1)) (fCons (fC (.int 2)) (fCons (fC (.int 3)) (fCons (fC (.int 7)) (fCons (fC (.int 10)) (fCons (fC (.int 39)) fNil))))))))) (fCons (fCall (G_roll K A) 2 (fCons (fVar 0) (fCons (fOp RAdd (fVarT 1) (fC (.int 1))) fNil))) fNil)))) fNil))) fNil)))
def G_rising (K : PySem.W.Frag) (A : Adr) : Fn := fnS 2 (S_rising K A)
theorem ok_rising {f : Addr} {fd : FuncData} (F : Fun K "_law_rising" "_law_rising" s_rising f fd) (T : Txt K mg) (C_some : CalF P w K mg base "_law_some" 2 3 (G_some K A))
    (C_roll : CalF P w K mg base "_law_roll" 1 2 (G_roll K A)) : FnOk P w K mg base (L2.CX P w) 3 f fd ps_rising (spD K 2 (G_rising K A)) := by
  have nd := sc_rising.nd
  exact fn_d (k := 2) F sc_rising rfl (fun cdv Ar outer s H E W0 hr => (d_sone (d_ret (d_ct (kcall_tuple (K := K)) s_tuple (by rfl) T.z_tuple (by decide +kernel) (d_consT (d_nt (d_cbN (c_sortDt (K := K) (Nat.lt_of_succ_lt (hr65 hr))) s_sortDt (by rfl) T.z_sorted (by decide +kernel) (d_consT (d_t (d_call C_some (hr.mono (by first | decide | omega)) rfl (passes_call (takes_of rfl rfl rfl rfl) fun _ _ _ _ h => h) (d_cons (d_var (pv 0)) (d_cons (d_n (d_lst (d_cons (d_int pe_int) (d_cons (d_int pe_int) (d_cons (d_int pe_int) (d_cons (d_int pe_int) (d_cons (d_int pe_int) (d_cons (d_int pe_int) (d_cons (d_int pe_int) d_nil))))))))) (d_cons (d_call C_roll (hr.mono (by first | decide | omega)) rfl (passes_call (takes_of rfl rfl rfl rfl) fun _ _ _ _ h => h) (d_cons (d_var (pv 0)) (d_cons (d_op (op_addA (K := K)) s_add (d_varT (pv 1)) (d_t (d_int pe_int))) d_nil))) d_nil))))) d_nilT))) d_nilT))))) fun _ _ _ _ h => h
abbrev s_a_state : Stmt := top 39
abbrev nm_a_state : List Str := ["_law_dice_here", "_law_turn"]
abbrev ps_a_state : List Str := ["_law_dice_here"]
theorem sc_a_state : FnScope nm_a_state ps_a_state (defScope s_a_state) := ⟨rfl, rfl, rfl, by decide +kernel, rfl, by decide +kernel, by decide +kernel⟩
def S_a_state (K : PySem.W.Frag) (A : Adr) : FS :=
  (sRet (fTup (fCons (fCall (G_rising K A) 2 (fCons (fVar 0) (fCons (fC (.int 4)) fNil))) (fCons (fCB RTuple (fCons (fNew (fSortSetT (fNew (fLc (fRng1 (fCons (fCall (G_roll K A) 2 (fCons (fVar 0) (fCons (fC (.int 4)) fNil))) fNil)) (gN 1) fYes (fCall (G_rising K A) 2 (fCons (fVar 0) (fCons (fC (.int 3)) fNil))) [1])))) fNil)) fNil))))
def G_a_state (K : PySem.W.Frag) (A : Adr) : Fn := fnS 2 (S_a_state K A)
theorem ok_a_state {f : Addr} {fd : FuncData} (F : Fun K "_law_a_state" "_law_a_state" s_a_state f fd) (T : Txt K mg) (C_roll : CalF P w K mg base "_law_roll" 1 2 (G_roll K A))
    (C_rising : CalF P w K mg base "_law_rising" 3 2 (G_rising K A)) : FnOk P w K mg base (L2.CX P w) 4 f fd ps_a_state (spD K 1 (G_a_state K A)) := by
  have nd := sc_a_state.nd
  exact fn_d (k := 3) F sc_a_state rfl (fun cdv Ar outer s H E W0 hr => (d_sone (d_ret (d_tup (d_cons (d_call C_rising (hr.mono (by first | decide | omega)) rfl (passes_call (takes_of rfl rfl rfl rfl) fun _ _ _ _ h => h) (d_cons (d_var (pv 0)) (d_cons (d_int pe_int) d_nil))) (d_cons (d_ct (kcall_tuple (K := K)) s_tuple (by rfl) T.z_tuple (by decide +kernel) (d_consT (d_nt (d_sortSetT (by rfl) (Nat.lt_of_succ_lt (hr65 hr)) rfl T.z_sorted rfl T.z_set (d_nt (d_lc (own := [("_law_turn", 1)]) (by rfl) nd (d_fc (d_rng1 rfl T.z_range (d_cons (d_call C_roll (hr.mono (by first | decide | omega)) rfl (passes_call (takes_of rfl rfl rfl rfl) fun _ _ _ _ h => h) (d_cons (d_var (pv 0)) (d_cons (d_int pe_int) d_nil))) d_nil))) (blkOk_by (own := [("_law_turn", 1)]) (N := nm_a_state) (sc := defScope s_a_state) (by decide +kernel)) (g_name (by decide)) (fun _ _ _ _ _ => (pg_name (i := 1) nd rfl (Or.inl rfl))) (fun _ _ _ _ _ => d_pts0) (fun _ _ _ _ _ => (d_call C_rising (hr.mono (by first | decide | omega)) rfl passL (d_cons (d_var (pv 0)) (d_cons (d_int pe_int) d_nil)))))))) d_nilT)) d_nil)))))) fun _ _ _ _ h => h
abbrev s_line : Stmt := top 40
abbrev nm_line : List Str := ["_law_numbers", "_law_number"]
abbrev ps_line : List Str := ["_law_numbers"]
theorem sc_line : FnScope nm_line ps_line (defScope s_line) := ⟨rfl, rfl, rfl, by decide +kernel, rfl, by decide +kernel, by decide +kernel⟩
def S_line (K : PySem.W.Frag) (A : Adr) : FS :=
  (sRet (fIf (fTst (fOp RNe (fVarT 0) (fTup fNil))) (fJoin (fC (.str " ")) (fNew (fLc (fIt (fVarT 0)) (gN 1) fYes (fCB RStrI (fCons (fVarT 1) fNil)) [1]))) (fC (.str "-"))))
def G_line (K : PySem.W.Frag) (A : Adr) : Fn := fnS 2 (S_line K A)
theorem ok_line {f : Addr} {fd : FuncData} (F : Fun K "_law_line" "_law_line" s_line f fd) (T : Txt K mg)  : FnOk P w K mg base (L2.CX P w) 1 f fd ps_line (spD K 1 (G_line K A)) := by
  have nd := sc_line.nd
  exact fn_d (k := 0) F sc_line rfl (fun cdv Ar outer s H E W0 hr => (d_sone (d_ret (d_if (d_tcmp (op_neA (K := K) hr.units) s_ne (d_varT (pv 0)) (d_t (d_tup d_nil)) (nomark _)) (d_join (K := K) (d_str pe_str) (d_nt (d_lc (own := [("_law_number", 1)]) (by rfl) nd (d_itC (K := K) (d_varT (pv 0))) (blkOk_by (own := [("_law_number", 1)]) (N := nm_line) (sc := defScope s_line) (by decide +kernel)) (g_name (by decide)) (fun _ _ _ _ _ => (pg_name (i := 1) nd rfl (Or.inl rfl))) (fun _ _ _ _ _ => d_pts0) (fun _ _ _ _ _ => (d_ct L2.call_str_int s_strI (by rfl) T.z_str (by decide +kernel) (d_consT (d_varT (pv 1)) d_nilT)))))) (d_str pe_str))))) fun _ _ _ _ h => h
abbrev s_state_line : Stmt := top 41
abbrev nm_state_line : List Str := ["_law_state", "_law_classes", "_law_one"]
abbrev ps_state_line : List Str := ["_law_state"]
theorem sc_state_line : FnScope nm_state_line ps_state_line (defScope s_state_line) := ⟨rfl, rfl, rfl, by decide +kernel, rfl, by decide +kernel, by decide +kernel⟩
def S_state_line (K : PySem.W.Frag) (A : Adr) : FS :=
  (sSeq (sAsg 1 (fIf (fTst (fOp RNe (fOp RIx (fVarT 0) (fC (.int 1))) (fTup fNil))) (fJoin (fC (.str "; ")) (fNew (fLc (fIt (fOp RIx (fVarT 0) (fC (.int 1)))) (gN 2) fYes (fCall (G_line K A) 1 (fCons (fVar 2) fNil)) [2]))) (fC (.str "none"))))
      (sRet (fOp RAdd (fOp RAdd (fCall (G_line K A) 1 (fCons (fOp RIx (fVarT 0) (fC (.int 0))) fNil)) (fC (.str " | "))) (fVarT 1))))
def G_state_line (K : PySem.W.Frag) (A : Adr) : Fn := fnS 3 (S_state_line K A)
theorem ok_state_line {f : Addr} {fd : FuncData} (F : Fun K "_law_state_line" "_law_state_line" s_state_line f fd) (T : Txt K mg) (C_line : CalF P w K mg base "_law_line" 1 1 (G_line K A)) : FnOk P w K mg base (L2.CX P w) 2 f fd ps_state_line (spD K 1 (G_state_line K A)) := by
  have nd := sc_state_line.nd
  exact fn_d (k := 1) F sc_state_line rfl (fun cdv Ar outer s H E W0 hr => (d_seq (d_asg (d_if (d_tcmp (op_neA (K := K) hr.units) s_ne (d_t (d_ix (ix_A (K := K)) s_ix (d_varT (pv 0)) (d_t (d_int pe_int)) (fun _ _ => rfl))) (d_t (d_tup d_nil)) (nomark _)) (d_join (K := K) (d_str pe_str) (d_nt (d_lc (own := [("_law_one", 2)]) (by rfl) nd (d_itC (K := K) (d_t (d_ix (ix_A (K := K)) s_ix (d_varT (pv 0)) (d_t (d_int pe_int)) (fun _ _ => rfl)))) (blkOk_by (own := [("_law_one", 2)]) (N := nm_state_line) (sc := defScope s_state_line) (by decide +kernel)) (g_name (by decide)) (fun _ _ _ _ _ => (pg_name (i := 2) nd rfl (Or.inl rfl))) (fun _ _ _ _ _ => d_pts0) (fun _ _ _ _ _ => (d_call C_line (hr.mono (by first | decide | omega)) rfl passL (d_cons (d_var (pv 2)) d_nil)))))) (d_str pe_str)) (pg_name (i := 1) nd rfl (Or.inl rfl)))
      (d_sone (d_ret (d_op (op_addA (K := K)) s_add (d_t (d_op (op_addA (K := K)) s_add (d_t (d_call C_line (hr.mono (by first | decide | omega)) rfl (passes_call (takes_of rfl rfl rfl rfl) fun _ _ _ _ h => h) (d_cons (d_ix (ix_A (K := K)) s_ix (d_varT (pv 0)) (d_t (d_int pe_int)) (fun _ _ => rfl)) d_nil))) (d_t (d_str pe_str)))) (d_varT (pv 1))))))) fun _ _ _ _ h => h
abbrev s_due_numbers : Stmt := top 42
abbrev nm_due_numbers : List Str := ["_law_text", "_law_found", "_law_word", "_law_sign"]
abbrev ps_due_numbers : List Str := ["_law_text"]
theorem sc_due_numbers : FnScope nm_due_numbers ps_due_numbers (defScope s_due_numbers) := ⟨rfl, rfl, rfl, by decide +kernel, rfl, by decide +kernel, by decide +kernel⟩
def S_due_numbers (K : PySem.W.Frag) (A : Adr) : FS :=
  (sSeq (sIf (fTst (fOp REq (fVarT 0) (fC (.str "-")))) (sRet (fTup fNil)) sNext)
      (sSeq (sNew 1 (fLst fNil))
      (sSeq (sFor (fIt (fNew (fSplit (fVar 0) (fC (.str " "))))) (gN 2) (sSeq (sIf (fOr (fTst (fOp REq (fVarT 2) (fC (.str "")))) (fOr (fTst (fOp RGt (fCB RLen (fCons (fVarT 2) fNil)) (fC (.int 60)))) (fTst (fOp RNe (fNew (fLc (fIt (fVarT 2)) (gN 3) (fTst (fOp (RIn true) (fVarT 3) (fC (.str "0123456789")))) (fVar 3) [3])) (fNew (fLst fNil)))))) (sRet (fC .non)) sNext)
      (sSeq (sIf (fAnd (fTst (fOp REq (fOp RIx (fVarT 2) (fC (.int 0))) (fC (.str "0")))) (fTst (fOp RNe (fVarT 2) (fC (.str "0"))))) (sRet (fC .non)) sNext)
      (sApp 1 (fCB RIntS (fCons (fVarT 2) fNil))))))
      (sRet (fCB RTuple (fCons (fVarT 1) fNil))))))
def G_due_numbers (K : PySem.W.Frag) (A : Adr) : Fn := fnS 4 (S_due_numbers K A)
theorem ok_due_numbers {f : Addr} {fd : FuncData} (F : Fun K "_law_due_numbers" "_law_due_numbers" s_due_numbers f fd) (T : Txt K mg)  : FnOk P w K mg base (L2.CX P w) 1 f fd ps_due_numbers (spD K 1 (G_due_numbers K A)) := by
  have nd := sc_due_numbers.nd
  exact fn_d (k := 0) F sc_due_numbers rfl (fun cdv Ar outer s H E W0 hr => (d_seq (d_ifs (d_tcmp (op_eqA (K := K) hr.units) s_eq (d_varT (pv 0)) (d_t (d_str pe_str)) (nomark _)) (d_sone (d_ret (d_tup d_nil))) d_snil)
      (d_seq (d_new (d_lst d_nil) (pg_name (i := 1) nd rfl (Or.inl rfl)))
      (d_seq (d_for (vs := [2]) (passes_of rfl) rfl (d_itF (K := K) (d_n (d_split (d_var (pv 0)) (d_str pe_str)))) (pg_name (i := 2) nd rfl (Or.inl rfl)) (g_name (by decide)) (d_seq (d_ifs (PW.pt (d_or (d_tcmp (op_eqA (K := K) hr.units) s_eq (d_varT (pv 2)) (d_t (d_str pe_str)) (nomark _)) (d_or (d_tcmp op_gt s_gt (d_t (d_cb (c_len (K := K)) s_len (by rfl) T.z_len (by decide +kernel) (d_consT (d_varT (pv 2)) d_nilT))) (d_t (d_int pe_int)) (nomark _)) (d_or1 (d_tcmp (op_neA (K := K) hr.units) s_ne (d_nt (d_lc (own := [("_law_sign", 3)]) (by rfl) nd (d_itC (K := K) (d_varT (pv 2))) (blkOk_by (own := [("_law_sign", 3)]) (N := nm_due_numbers) (sc := defScope s_due_numbers) (by decide +kernel)) (g_name (by decide)) (fun _ _ _ _ _ => (pg_name (i := 3) nd rfl (Or.inl rfl))) (fun _ _ _ _ _ => (d_pts1 (d_tcmp (op_notInA (K := K) (hr65 hr)) s_notIn (d_varT (pv 3)) (d_t (d_str pe_str)) rfl))) (fun _ _ _ _ _ => (d_var (pv 3))))) (d_nt (d_lst d_nil)) (nomark _)))))) (d_sone (d_ret (d_non pe_non))) d_snil)
      (d_seq (d_ifs (PW.pt (d_and (d_tcmp (op_eqA (K := K) hr.units) s_eq (d_t (d_ix (ix_A (K := K)) s_ix (d_varT (pv 2)) (d_t (d_int pe_int)) (fun _ _ => rfl))) (d_t (d_str pe_str)) (nomark _)) (d_and1 (d_tcmp (op_neA (K := K) hr.units) s_ne (d_varT (pv 2)) (d_t (d_str pe_str)) (nomark _))))) (d_sone (d_ret (d_non pe_non))) d_snil)
      (d_sone (d_app (ps_expr (kpe_bm (K := K) PySem.F.plainAttrs_list PySem.F.slot_list_append PySem.F.type_list_append mt_append (pv 1) (pa_cons (d_ct L2.call_int_str s_intS (by rfl) T.z_int (by decide +kernel) (d_consT (d_varT (pv 2)) d_nilT)) pa_nil))))))))
      (d_sone (d_ret (d_ct (kcall_tuple (K := K)) s_tuple (by rfl) T.z_tuple (by decide +kernel) (d_consT (d_varT (pv 1)) d_nilT)))))))) fun _ _ _ _ h => h
abbrev s_is_rising' : Stmt := top 43
abbrev nm_is_rising' : List Str := ["_law_row"]
abbrev ps_is_rising' : List Str := ["_law_row"]
theorem sc_is_rising' : FnScope nm_is_rising' ps_is_rising' (defScope s_is_rising') := ⟨rfl, rfl, rfl, by decide +kernel, rfl, by decide +kernel, by decide +kernel⟩
def S_is_rising' (K : PySem.W.Frag) (A : Adr) : FS :=
  (sRet (fAndV (fOp RNotN (fVarT 0) (fC .non)) (fOp REq (fNew (fCBN RList (fCons (fVarT 0) fNil))) (fNew (fSortSetN (fVarT 0))))))
def G_is_rising' (K : PySem.W.Frag) (A : Adr) : Fn := fnS 1 (S_is_rising' K A)
theorem ok_is_rising' {f : Addr} {fd : FuncData} (F : Fun K "_law_is_rising" "_law_is_rising" s_is_rising' f fd) (T : Txt K mg)  : FnOk P w K mg base (L2.CX P w) 1 f fd ps_is_rising' (spD K 1 (G_is_rising' K A)) := by
  have nd := sc_is_rising'.nd
  exact fn_d (k := 0) F sc_is_rising' rfl (fun cdv Ar outer s H E W0 hr => (d_sone (d_ret (d_andV (d_cmp op_notN s_notN (d_varT (pv 0)) (d_t (d_non pe_non)) (nomark _)) (d_one (d_cmp (op_eqA (K := K) hr.units) s_eq (d_nt (d_ctN (kcall_list (K := K)) s_list (by rfl) T.z_list (by decide +kernel) (d_consT (d_varT (pv 0)) d_nilT))) (d_nt (d_sortSetN (by rfl) (Nat.lt_of_succ_lt (hr65 hr)) rfl T.z_sorted rfl T.z_set (d_varT (pv 0)))) (nomark _))))))) fun _ _ _ _ h => h
abbrev s_due_state : Stmt := top 44
abbrev nm_due_state : List Str := ["_law_text", "_law_halves", "_law_classes", "_law_one", "_law_first"]
abbrev ps_due_state : List Str := ["_law_text"]
theorem sc_due_state : FnScope nm_due_state ps_due_state (defScope s_due_state) := ⟨rfl, rfl, rfl, by decide +kernel, rfl, by decide +kernel, by decide +kernel⟩
def S_due_state (K : PySem.W.Frag) (A : Adr) : FS :=
  (sSeq (sAsg 1 (fNew (fSplit (fVar 0) (fC (.str " | ")))))
      (sSeq (sIf (fTst (fOp RNe (fCB RLen (fCons (fVarT 1) fNil)) (fC (.int 2)))) (sRet (fC .non)) sNext)
      (sSeq (sAsg 2 (fIf (fTst (fOp RNe (fOp RIx (fVarT 1) (fC (.int 1))) (fC (.str "none")))) (fNew (fLc (fIt (fNew (fSplit (fOp RIx (fVarT 1) (fC (.int 1))) (fC (.str "; "))))) (gN 3) fYes (fCall (G_due_numbers K A) 1 (fCons (fVar 3) fNil)) [3])) (fNew (fLst fNil))))
      (sSeq (sAsg 4 (fCall (G_due_numbers K A) 1 (fCons (fOp RIx (fVarT 1) (fC (.int 0))) fNil)))
      (sSeq (sIf (fOr (fTst (fOp RNe (fNew (fLc (fIt (fOp RAdd (fVarT 2) (fNew (fLst (fCons (fVar 4) fNil))))) (gN 3) (fNot (fTst (fCall (G_is_rising' K A) 1 (fCons (fVar 3) fNil)))) (fVar 3) [3])) (fNew (fLst fNil)))) (fTst (fOp RNe (fVarT 2) (fNew (fSortSetT (fVarT 2)))))) (sRet (fC .non)) sNext)
      (sRet (fTup (fCons (fVar 4) (fCons (fCB RTuple (fCons (fVarT 2) fNil)) fNil)))))))))
def G_due_state (K : PySem.W.Frag) (A : Adr) : Fn := fnS 5 (S_due_state K A)
theorem ok_due_state {f : Addr} {fd : FuncData} (F : Fun K "_law_due_state" "_law_due_state" s_due_state f fd) (T : Txt K mg) (C_due_numbers : CalF P w K mg base "_law_due_numbers" 1 1 (G_due_numbers K A))
    (C_is_rising' : CalF P w K mg base "_law_is_rising" 1 1 (G_is_rising' K A)) : FnOk P w K mg base (L2.CX P w) 2 f fd ps_due_state (spD K 1 (G_due_state K A)) := by
  have nd := sc_due_state.nd
  exact fn_d (k := 1) F sc_due_state rfl (fun cdv Ar outer s H E W0 hr => (d_seq (d_asg (d_n (d_split (d_var (pv 0)) (d_str pe_str))) (pg_name (i := 1) nd rfl (Or.inl rfl)))
      (d_seq (d_ifs (d_tcmp (op_neA (K := K) hr.units) s_ne (d_t (d_cb (c_len (K := K)) s_len (by rfl) T.z_len (by decide +kernel) (d_consT (d_varT (pv 1)) d_nilT))) (d_t (d_int pe_int)) (nomark _)) (d_sone (d_ret (d_non pe_non))) d_snil)
      (d_seq (d_asg (d_if (d_tcmp (op_neA (K := K) hr.units) s_ne (d_t (d_ix (ix_A (K := K)) s_ix (d_varT (pv 1)) (d_t (d_int pe_int)) (fun _ _ => rfl))) (d_t (d_str pe_str)) (nomark _)) (d_n (d_lc (own := [("_law_one", 3)]) (by rfl) nd (d_itC (K := K) (d_nt (d_split (d_ix (ix_A (K := K)) s_ix (d_varT (pv 1)) (d_t (d_int pe_int)) (fun _ _ => rfl)) (d_str pe_str)))) (blkOk_by (own := [("_law_one", 3)]) (N := nm_due_state) (sc := defScope s_due_state) (by decide +kernel)) (g_name (by decide)) (fun _ _ _ _ _ => (pg_name (i := 3) nd rfl (Or.inl rfl))) (fun _ _ _ _ _ => d_pts0) (fun _ _ _ _ _ => (d_call C_due_numbers (hr.mono (by first | decide | omega)) rfl passL (d_cons (d_var (pv 3)) d_nil))))) (d_n (d_lst d_nil))) (pg_name (i := 2) nd rfl (Or.inl rfl)))
      (d_seq (d_asg (d_call C_due_numbers (hr.mono (by first | decide | omega)) rfl (passes_call (takes_of rfl rfl rfl rfl) fun _ _ _ _ h => h) (d_cons (d_ix (ix_A (K := K)) s_ix (d_varT (pv 1)) (d_t (d_int pe_int)) (fun _ _ => rfl)) d_nil)) (pg_name (i := 4) nd rfl (Or.inl rfl)))
      (d_seq (d_ifs (PW.pt (d_or (d_tcmp (op_neA (K := K) hr.units) s_ne (d_nt (d_lc (own := [("_law_one", 3)]) (by rfl) nd (d_itC (K := K) (d_t (d_op (op_addA (K := K)) s_add (d_varT (pv 2)) (d_nt (d_lst (d_cons (d_var (pv 4)) d_nil)))))) (blkOk_by (own := [("_law_one", 3)]) (N := nm_due_state) (sc := defScope s_due_state) (by decide +kernel)) (g_name (by decide)) (fun _ _ _ _ _ => (pg_name (i := 3) nd rfl (Or.inl rfl))) (fun _ _ _ _ _ => (d_pts1 (d_not (d_test (d_call C_is_rising' (hr.mono (by first | decide | omega)) rfl passL (d_cons (d_var (pv 3)) d_nil)))))) (fun _ _ _ _ _ => (d_var (pv 3))))) (d_nt (d_lst d_nil)) (nomark _)) (d_or1 (d_tcmp (op_neA (K := K) hr.units) s_ne (d_varT (pv 2)) (d_nt (d_sortSetT (by rfl) (Nat.lt_of_succ_lt (hr65 hr)) rfl T.z_sorted rfl T.z_set (d_varT (pv 2)))) (nomark _))))) (d_sone (d_ret (d_non pe_non))) d_snil)
      (d_sone (d_ret (d_tup (d_cons (d_var (pv 4)) (d_cons (d_ct (kcall_tuple (K := K)) s_tuple (by rfl) T.z_tuple (by decide +kernel) (d_consT (d_varT (pv 2)) d_nilT)) d_nil))))))))))) fun _ _ _ _ h => h
abbrev s_due_table : Stmt := top 45
abbrev nm_due_table : List Str := ["_law_text", "_law_found", "_law_last", "_law_line_here", "_law_halves", "_law_size", "_law_key", "_law_state"]
abbrev ps_due_table : List Str := ["_law_text"]
theorem sc_due_table : FnScope nm_due_table ps_due_table (defScope s_due_table) := ⟨rfl, rfl, rfl, by decide +kernel, rfl, by decide +kernel, by decide +kernel⟩
def S_due_table (K : PySem.W.Frag) (A : Adr) : FS :=
  (sSeq (sParT 1 2 (fTup (fCons (fNeg (fC (.int 1))) (fCons (fNeg (fC (.int 1))) fNil))))
      (sSeq (sFor (fIt (fIf (fTst (fOp RNe (fVarT 0) (fC (.str "none")))) (fNew (fSplit (fVar 0) (fC (.str "\n")))) (fTup fNil))) (gN 3) (sSeq (sPar 4 5 (fCons (fNew (fSplit (fVar 3) (fC (.str ": ")))) (fCons (fLenT 1) fNil)))
      (sSeq (sAsg 6 (fCall (G_due_numbers K A) 1 (fCons (fOp RIx (fVarT 4) (fC (.int 0))) fNil)))
      (sSeq (sAsg 7 (fIf (fTst (fOp REq (fCB RLen (fCons (fVarT 4) fNil)) (fC (.int 2)))) (fCall (G_due_state K A) 1 (fCons (fOp RIx (fVarT 4) (fC (.int 1))) fNil)) (fC .non)))
      (sSeq (sIf (fOr (fTst (fOp RIsN (fVarT 7) (fC .non))) (fOr (fTst (fOp RIsN (fVarT 6) (fC .non))) (fOr (fTst (fOp RNe (fCB RLen (fCons (fVarT 6) fNil)) (fC (.int 2)))) (fTst (fOp RLeT (fVarT 6) (fVarT 2)))))) (sRet (fVar 5)) sNext)
      (sPutPar 1 2 (fVar 6) (fTup (fCons (fVar 7) (fCons (fVar 6) fNil)))))))))
      (sDemT 1 (sRet (fVar 1)))))
def G_due_table (K : PySem.W.Frag) (A : Adr) : Fn := fnS 8 (S_due_table K A)
theorem ok_due_table {f : Addr} {fd : FuncData} (F : Fun K "_law_due_table" "_law_due_table" s_due_table f fd) (T : Txt K mg) (C_due_numbers : CalF P w K mg base "_law_due_numbers" 1 1 (G_due_numbers K A))
    (C_due_state : CalF P w K mg base "_law_due_state" 2 1 (G_due_state K A)) : FnOk P w K mg base (L2.CX P w) 3 f fd ps_due_table (spD K 1 (G_due_table K A)) := by
  have nd := sc_due_table.nd
  exact fn_d (k := 2) F sc_due_table rfl (fun cdv Ar outer s H E W0 hr => (d_seq (d_parT (ps_par (i := 1) (j := 2) (by rfl) nd rfl rfl (by decide) rfl rfl (pa_cons pe_dnewT (pa_cons (d_tup (d_cons (d_neg (d_int pe_int)) (d_cons (d_neg (d_int pe_int)) d_nil))) pa_nil)) (by rfl)))
      (d_seq (d_for (vs := [3]) (passes_of rfl) rfl (d_itF (K := K) (d_if (d_tcmp (op_neA (K := K) hr.units) s_ne (d_varT (pv 0)) (d_t (d_str pe_str)) (nomark _)) (d_n (d_split (d_var (pv 0)) (d_str pe_str))) (d_tup d_nil))) (pg_name (i := 3) nd rfl (Or.inl rfl)) (g_name (by decide)) (d_seq (d_par (ps_par (i := 4) (j := 5) (by rfl) nd rfl rfl (by decide) rfl rfl (d_cons (d_n (d_split (d_var (pv 3)) (d_str pe_str))) (d_cons (d_lenT (i := 1) rfl T.z_len (pv 1)) d_nil)) (by rfl)))
      (d_seq (d_asg (d_call C_due_numbers (hr.mono (by first | decide | omega)) rfl (passes_call (takes_of rfl rfl rfl rfl) fun _ _ _ _ h => h) (d_cons (d_ix (ix_A (K := K)) s_ix (d_varT (pv 4)) (d_t (d_int pe_int)) (fun _ _ => rfl)) d_nil)) (pg_name (i := 6) nd rfl (Or.inl rfl)))
      (d_seq (d_asg (d_if (d_tcmp (op_eqA (K := K) hr.units) s_eq (d_t (d_cb (c_len (K := K)) s_len (by rfl) T.z_len (by decide +kernel) (d_consT (d_varT (pv 4)) d_nilT))) (d_t (d_int pe_int)) (nomark _)) (d_call C_due_state (hr.mono (by first | decide | omega)) rfl (passes_call (takes_of rfl rfl rfl rfl) fun _ _ _ _ h => h) (d_cons (d_ix (ix_A (K := K)) s_ix (d_varT (pv 4)) (d_t (d_int pe_int)) (fun _ _ => rfl)) d_nil)) (d_non pe_non)) (pg_name (i := 7) nd rfl (Or.inl rfl)))
      (d_seq (d_ifs (PW.pt (d_or (d_tcmp op_isN s_isN (d_varT (pv 7)) (d_t (d_non pe_non)) (nomark _)) (d_or (d_tcmp op_isN s_isN (d_varT (pv 6)) (d_t (d_non pe_non)) (nomark _)) (d_or (d_tcmp (op_neA (K := K) hr.units) s_ne (d_t (d_cb (c_len (K := K)) s_len (by rfl) T.z_len (by decide +kernel) (d_consT (d_varT (pv 6)) d_nilT))) (d_t (d_int pe_int)) (nomark _)) (d_or1 (d_tcmp (op_leT (Nat.lt_of_succ_lt (hr1 hr))) s_leT (d_varT (pv 6)) (d_varT (pv 2)) (nomark _))))))) (d_sone (d_ret (d_var (pv 5)))) d_snil)
      (d_sone (d_putPar (ps_asg (d_tup (d_cons (d_var (pv 7)) (d_cons (d_var (pv 6)) d_nil))) (kpg_tup (K := K) (n := 2) rfl (pgs_cons (pg_sub (pv 1) (d_var (pv 6)) (set_dict (hr1 hr))) (pgs_cons (pg_name (i := 2) nd rfl (Or.inl rfl)) pgs_nil)))))))))))
      (d_sone (d_demT 1 (d_ret (d_var (pv 1)))))))) fun _ _ _ _ h => h
abbrev s_bent : Stmt := top 46
abbrev nm_bent : List Str := ["_law_dice_here", "_law_text", "_law_at", "_law_sign"]
abbrev ps_bent : List Str := ["_law_dice_here", "_law_text"]
theorem sc_bent : FnScope nm_bent ps_bent (defScope s_bent) := ⟨rfl, rfl, rfl, by decide +kernel, rfl, by decide +kernel, by decide +kernel⟩
def S_bent (K : PySem.W.Frag) (A : Adr) : FS :=
  (sSeq (sAsg 2 (fCall (G_roll K A) 2 (fCons (fVar 0) (fCons (fOp RAdd (fCB RLen (fCons (fVarT 1) fNil)) (fC (.int 1))) fNil))))
      (sSeq (sAsg 3 (fCall (G_pick K A) 2 (fCons (fVar 0) (fCons (fNew (fLst (fCons (fC (.str " ")) (fCons (fC (.str "\n")) (fCons (fC (.str "0")) (fCons (fC (.str "1")) (fCons (fC (.str "-")) (fCons (fC (.str "; ")) (fCons (fC (.str " | ")) (fCons (fC (.str ": ")) (fCons (fC (.str "none")) (fCons (fC (.str "a")) (fCons (fC (.str "|")) (fCons (fC (.str ";")) (fCons (fC (.str "00")) fNil))))))))))))))) fNil))))
      (sRet (fOp RAdd (fOp RAdd (fSl (fVarT 1) oNo (oAt (fVar 2))) (fCall (G_pick K A) 2 (fCons (fVar 0) (fCons (fNew (fLst (fCons (fVar 3) (fCons (fVar 3) (fCons (fC (.str "")) fNil))))) fNil)))) (fSl (fVarT 1) (oAt (fOp RAdd (fVarT 2) (fCall (G_roll K A) 2 (fCons (fVar 0) (fCons (fC (.int 3)) fNil))))) oNo)))))
def G_bent (K : PySem.W.Frag) (A : Adr) : Fn := fnS 4 (S_bent K A)
theorem ok_bent {f : Addr} {fd : FuncData} (F : Fun K "_law_bent" "_law_bent" s_bent f fd) (T : Txt K mg) (C_roll : CalF P w K mg base "_law_roll" 1 2 (G_roll K A))
    (C_pick : CalF P w K mg base "_law_pick" 2 2 (G_pick K A)) : FnOk P w K mg base (L2.CX P w) 3 f fd ps_bent (spD K 2 (G_bent K A)) := by
  have nd := sc_bent.nd
  exact fn_d (k := 2) F sc_bent rfl (fun cdv Ar outer s H E W0 hr => (d_seq (d_asg (d_call C_roll (hr.mono (by first | decide | omega)) rfl (passes_call (takes_of rfl rfl rfl rfl) fun _ _ _ _ h => h) (d_cons (d_var (pv 0)) (d_cons (d_op (op_addA (K := K)) s_add (d_t (d_cb (c_len (K := K)) s_len (by rfl) T.z_len (by decide +kernel) (d_consT (d_varT (pv 1)) d_nilT))) (d_t (d_int pe_int))) d_nil))) (pg_name (i := 2) nd rfl (Or.inl rfl)))
      (d_seq (d_asg (d_call C_pick (hr.mono (by first | decide | omega)) rfl (passes_call (takes_of rfl rfl rfl rfl) fun _ _ _ _ h => h) (d_cons (d_var (pv 0)) (d_cons (d_n (d_lst (d_cons (d_str pe_str) (d_cons (d_str pe_str) (d_cons (d_str pe_str) (d_cons (d_str pe_str) (d_cons (d_str pe_str) (d_cons (d_str pe_str) (d_cons (d_str pe_str) (d_cons (d_str pe_str) (d_cons (d_str pe_str) (d_cons (d_str pe_str) (d_cons (d_str pe_str) (d_cons (d_str pe_str) (d_cons (d_str pe_str) d_nil))))))))))))))) d_nil))) (pg_name (i := 3) nd rfl (Or.inl rfl)))
      (d_sone (d_ret (d_op (op_addA (K := K)) s_add (d_t (d_op (op_addA (K := K)) s_add (d_t (d_slice (K := K) (d_varT (pv 1)) d_ono (d_oat (d_var (pv 2))))) (d_t (d_call C_pick (hr.mono (by first | decide | omega)) rfl (passes_call (takes_of rfl rfl rfl rfl) fun _ _ _ _ h => h) (d_cons (d_var (pv 0)) (d_cons (d_n (d_lst (d_cons (d_var (pv 3)) (d_cons (d_var (pv 3)) (d_cons (d_str pe_str) d_nil))))) d_nil)))))) (d_t (d_slice (K := K) (d_varT (pv 1)) (d_oat (d_op (op_addA (K := K)) s_add (d_varT (pv 2)) (d_t (d_call C_roll (hr.mono (by first | decide | omega)) rfl (passes_call (takes_of rfl rfl rfl rfl) fun _ _ _ _ h => h) (d_cons (d_var (pv 0)) (d_cons (d_int pe_int) d_nil)))))) d_ono)))))))) fun _ _ _ _ h => h
end
end K70
set_option Elab.async false
set_option maxRecDepth 100000
namespace TM
open PySem L2 Ly
end TM
namespace TM
open PySem L2 Ly
def L0 : List Str := ["_", "#"]
end TM
set_option Elab.async false
set_option maxRecDepth 100000
namespace TM
open PySem L2 Ly
def isL (c : Nat) : Bool := decide (c ∈ letters)
abbrev lab (w : Str) : List Nat := w.cps.toList
def mkS (l : List Nat) : Str := ⟨l.toArray⟩
theorem lab_mk (l : List Nat) : lab (mkS l) = l := by simp [lab, mkS]
theorem mk_lab (w : Str) : mkS (lab w) = w := by simp [lab, mkS]
theorem lab_inj {a b : Str} (h : lab a = lab b) : a = b := by rw [← mk_lab a, ← mk_lab b, h]
theorem lab_app (a b : Str) : lab (a ++ b) = lab a ++ lab b := by show (a.cps ++ b.cps).toList = _; rw [Array.toList_append]
end TM
set_option Elab.async false
set_option maxRecDepth 100000
namespace TM
open PySem L2 Ly
abbrev FrL := List (Str × List Tr)
def fN : FrL → List Nd
  | [] => []
  | (w, as) :: R => fN R ++ ((w, as.length) :: nodesL as)
def fI : FrL → List Nat
  | [] => []
  | _ :: R => fI R ++ [(fN R).length]
end TM
set_option Elab.async false
set_option maxRecDepth 100000
namespace TM
open PySem L2 Ly
def rdL (f : List Nat → Option (Tr × List Nat)) (w : Str) : Nat → List Nat → List Tr → Option (Tr × List Nat)
  | 0, _, _ => none
  | k + 1, l, as => match f l with
    | none => none
    | some (t, r) =>
      if r.head? = some 41 then (if as.length + 1 < 4 then some (.nd w (as ++ [t]), r.drop 1) else none)
      else if r.take 2 = [44, 32] then rdL f w k (r.drop 2) (as ++ [t]) else none
def rd : Nat → List Nat → Option (Tr × List Nat)
  | 0, _ => none
  | n + 1, l =>
    if l.head? = some 95 ∨ l.head? = some 35 then some (.nd (mkS (l.take 1)) [], l.drop 1)
    else if 0 < (l.takeWhile isL).length ∧ (l.takeWhile isL).length < 9 then
      (if (l.dropWhile isL).head? = some 40 then rdL (rd n) (mkS (l.takeWhile isL)) 4 ((l.dropWhile isL).drop 1) []
      else some (.nd (mkS (l.takeWhile isL)) [], l.dropWhile isL))
    else none
theorem len_lab (w : Str) : w.length = (lab w).length := by
  show w.cps.size = w.cps.toList.length
  rw [Array.length_toList]
end TM
set_option Elab.async false
set_option maxRecDepth 100000
set_option maxHeartbeats 1000000
set_option linter.all false
set_option pp.maxSteps 1500
namespace K70
open PySem PySem.Spec PyProof.Rows L2 Ly Pu TM
theorem atI_nat {α : Type} (xs : List α) (i : Nat) : atI xs (i : Int) = xs[i]? := by
  unfold atI ixN
  rw [if_pos (by omega)]
  by_cases h : i < xs.length
  · rw [if_pos (by omega)]
    rfl
  · rw [if_neg (by omega), List.getElem?_eq_none (by omega)]
    rfl
theorem ex_eq {α : Type} {a : α} {P : α → Prop} : (∃ b, a = b ∧ P b) ↔ P a := ⟨fun ⟨_, e, h⟩ => e ▸ h, fun h => ⟨a, rfl, h⟩⟩
theorem at0 {x : D} {xs : List D} : atI (x :: xs) 0 = some x := (atI_nat _ 0).trans rfl
theorem at1 {x y : D} {xs : List D} : atI (x :: y :: xs) 1 = some y := (atI_nat _ 1).trans rfl
theorem lc_map {α : Type} {j : Nat} {F : FE} {ρ : Pu.Env} {h f : α → D} : ∀ (l : List α) {Q : List D → Prop}, (∀ a ∈ l, ∀ R : D → Prop, R (f a) → F (ρ.set j (.val (h a))) R F0) → Q (l.map f) → lcD (gN j) fYes F ρ (l.map h) Q
  | [], Q, _, q => q
  | a :: l, Q, hf, q => by
    show F (ρ.set j (.val (h a))) (fun y => lcD (gN j) fYes F ρ (l.map h) fun ys => Q (y :: ys)) F0
    exact hf a (List.mem_cons_self ..) _ (lc_map l (fun b hb => hf b (List.mem_cons_of_mem _ hb)) q)
theorem lc_fil {α : Type} {j : Nat} {T : FT} {F : FE} {ρ : Pu.Env} {h f : α → D} {p : α → Bool} : ∀ (l : List α) {Q : List D → Prop}, (∀ a ∈ l, ∀ R : Bool → Prop, R (p a) → T (ρ.set j (.val (h a))) R F0) → (∀ a ∈ l, p a = true → ∀ R : D → Prop, R (f a) → F (ρ.set j (.val (h a))) R F0) → Q ((l.filter p).map f) → lcD (gN j) T F ρ (l.map h) Q
  | [], Q, _, _, q => q
  | a :: l, Q, ht, hf, q => by
    show T (ρ.set j (.val (h a))) (fun b => if b = true then F (ρ.set j (.val (h a))) (fun y => lcD (gN j) T F ρ (l.map h) fun ys => Q (y :: ys)) F0 else lcD (gN j) T F ρ (l.map h) Q) F0
    refine ht a (List.mem_cons_self ..) _ ?_
    have ih := fun (R : List D → Prop) (r : R ((l.filter p).map f)) => lc_fil l (Q := R) (fun b hb => ht b (List.mem_cons_of_mem _ hb)) (fun b hb => hf b (List.mem_cons_of_mem _ hb)) r
    cases c : p a with
    | true =>
      rw [if_pos rfl]
      rw [List.filter_cons_of_pos c] at q
      exact hf a (List.mem_cons_self ..) c _ (ih _ q)
    | false =>
      rw [if_neg (by simp)]
      rw [List.filter_cons_of_neg (by rw [c]; simp)] at q
      exact ih _ q
theorem bls_map {α : Type} (p : α → Bool) : ∀ l : List α, blsD (l.map fun a => D.bl (p a)) = some (l.map p)
  | [] => rfl
  | a :: l => by
    show (blsD (l.map fun a => D.bl (p a))).map (p a :: ·) = _
    rw [bls_map p l]
    rfl
def sg (c : Nat) : Str := ⟨#[c]⟩
theorem has_us (z : Str) (c : Nat) : (!(Builtin.Str.occurrences z ⟨#[c]⟩ 0 z.length 1).isEmpty) = decide (c ∈ lab z) := StrLaws.found_one z c
def tsN (n : Nat) : Str := Str.ofString (toString (n : Int))
theorem for_keepM {j : Nat} {S : FS} {De : EndsD} (I : Pu.Env → Prop) (ds : List D) (hs : ∀ (d : D) (ρ : Pu.Env) (D' : EndsD), d ∈ ds → I ρ → (∀ ρ', I ρ' → D'.nx ρ') → D'.rt = De.rt → D'.ex = De.ex → S (ρ.set j (.val d)) D') (hd : ∀ ρ, I ρ → De.nx ρ) : ∀ (es : List D) (ρ : Pu.Env), (∀ d ∈ es, d ∈ ds) → I ρ → forD (gN j) S es ρ De
  | [], ρ, _, h => hd ρ h
  | d :: es, ρ, m, h => hs d ρ _ (m d (List.mem_cons_self ..)) h (fun ρ' h' => for_keepM I ds hs hd es ρ' (fun x hx => m x (List.mem_cons_of_mem _ hx)) h') rfl rfl
theorem sg_ok {w : Str} (h : PyData.strOk w = true) : ∀ c ∈ lab w, PyData.strOk (sg c) = true := fun c hc => by
  unfold PyData.strOk at h ⊢
  rw [← Array.all_toList, List.all_eq_true] at h
  rw [← Array.all_toList, List.all_eq_true]
  intro x hx
  rw [List.mem_singleton.mp hx]
  exact h c hc
theorem strOk_iff (w : Str) : PyData.strOk w = true ↔ ∀ c ∈ lab w, PyData.strOk (sg c) = true := ⟨fun h => sg_ok h, fun h => by
  unfold PyData.strOk
  rw [← Array.all_toList, List.all_eq_true]
  intro c hc
  have := h c hc
  unfold PyData.strOk at this
  rw [← Array.all_toList, List.all_eq_true] at this
  exact this c (List.mem_singleton.mpr rfl)⟩
theorem toPs_str : ∀ ls : List Str, toPs (ls.map D.str) = ls.map PyData.str
  | [] => rfl
  | x :: ls => by
    show toP (.str x) :: toPs (ls.map D.str) = _
    rw [toPs_str ls]
    rfl
theorem str_lay : ∀ {ls : List Str}, (∀ x ∈ ls, PyData.strOk x = true) → PyData.canLayAll0 (ls.map PyData.str) = true ∧ PyData.depthAll (ls.map PyData.str) ≤ 0
  | [], _ => ⟨by simp [PyData.canLayAll0], by simp [PyData.depthAll]⟩
  | x :: ls, h => by
    obtain ⟨a, b⟩ := str_lay (ls := ls) fun m hm => h m (List.mem_cons_of_mem _ hm)
    have hw := h x (List.mem_cons_self ..)
    refine ⟨by simp [PyData.canLayAll0, PyData.canLay0, hw, a], ?_⟩
    show PyData.depthAll (PyData.str x :: _) ≤ 0
    simp only [PyData.depthAll, PyData.depth]
    omega
theorem strs_shp {ls : List Str} (h : ∀ x ∈ ls, PyData.strOk x = true) : shp (.lst (ls.map D.str)) := by
  obtain ⟨a, b⟩ := str_lay h
  show SeqAt.shaped (.list (toPs (ls.map D.str))) = true
  rw [toPs_str]
  unfold SeqAt.shaped
  simp only [PyData.canLay0, PyData.depth, a, Bool.true_and]
  exact decide_eq_true (by omega)
theorem strs_eqv : ∀ a b : List Str, PyData.eqvAll (a.map PyData.str) (b.map PyData.str) = decide (a = b)
  | [], [] => by simp [PyData.eqvAll]
  | [], _ :: _ => by simp [PyData.eqvAll]
  | _ :: _, [] => by simp [PyData.eqvAll]
  | x :: a, y :: b => by
    rw [List.map_cons, List.map_cons]
    simp only [PyData.eqvAll]
    rw [strs_eqv a b]
    have e : PyData.eqv (.str x) (.str y) = decide (x = y) := by
      simp only [PyData.eqv]
      rw [Bool.eq_iff_iff]
      simp
    rw [e, Bool.eq_iff_iff]
    simp
theorem lines_eqv (a b : List Str) : PyData.eqv (toP (.lst (a.map .str))) (toP (.lst (b.map .str))) = decide (a = b) := by
  show PyData.eqvAll (toPs (a.map D.str)) (toPs (b.map D.str)) = _
  rw [toPs_str, toPs_str]
  exact strs_eqv a b
theorem ne_ls {a b : List Str} (ha : ∀ x ∈ a, PyData.strOk x = true) (hb : ∀ x ∈ b, PyData.strOk x = true) {Q : D → Prop} (q : Q (.bl (!decide (a = b)))) : RNe (.lst (a.map .str)) (.lst (b.map .str)) Q := ⟨strs_shp ha, strs_shp hb, by rw [lines_eqv]; exact q⟩
theorem split_ok {z y : Str} (h : PyData.strOk z = true) : ∀ p ∈ Txt.split z y, PyData.strOk p = true := fun p hp => by
  rw [strOk_iff] at h ⊢
  intro c hc
  refine h c ?_
  have e : TL.tl (Str.join y (Txt.split z y)) = lab z := by rw [StrLaws.join_split]
  rw [TL.tl_join] at e
  rw [← e]
  clear e h
  generalize Txt.split z y = l at hp
  induction l with
  | nil => cases hp
  | cons q l ih =>
    cases l with
    | nil =>
      rw [List.mem_singleton.mp hp] at hc
      exact hc
    | cons q2 l =>
      show c ∈ TL.tl q ++ (TL.tl y ++ TL.joinL (TL.tl y) ((q2 :: l).map TL.tl))
      rcases List.mem_cons.mp hp with rfl | hp
      · exact List.mem_append_left _ hc
      · exact List.mem_append_right _ (List.mem_append_right _ (ih hp))
theorem lc_g {α : Type} {g : FG} {T : FT} {F : FE} {ρ : Pu.Env} {h f : α → D} {p : α → Bool} : ∀ (l : List α) {Q : List D → Prop}, (∀ a ∈ l, ∃ ρa : Pu.Env, (∀ k : Pu.Env → Prop, k ρa → g (h a) ρ k) ∧ (∀ R : Bool → Prop, R (p a) → T ρa R F0) ∧ (p a = true → ∀ R : D → Prop, R (f a) → F ρa R F0)) → Q ((l.filter p).map f) → lcD g T F ρ (l.map h) Q
  | [], Q, _, q => q
  | a :: l, Q, hh, q => by
    obtain ⟨ρa, h1, h2, h3⟩ := hh a (List.mem_cons_self ..)
    show g (h a) ρ fun ρ2 => T ρ2 (fun b => if b = true then F ρ2 (fun y => lcD g T F ρ (l.map h) fun ys => Q (y :: ys)) F0 else lcD g T F ρ (l.map h) Q) F0
    refine h1 _ (h2 _ ?_)
    have ih := fun (R : List D → Prop) (r : R ((l.filter p).map f)) => lc_g l (Q := R) (fun b hb => hh b (List.mem_cons_of_mem _ hb)) r
    cases c : p a with
    | true =>
      rw [if_pos rfl]
      rw [List.filter_cons_of_pos c] at q
      exact h3 c _ (ih _ q)
    | false =>
      rw [if_neg (by simp)]
      rw [List.filter_cons_of_neg (by rw [c]; simp)] at q
      exact ih _ q
theorem pairs_map {α β : Type} {f : α → D} {g : β → D} : ∀ (l : List α) (m : List β), pairsD (l.map f) (m.map g) = (l.zip m).map fun x => D.tup [f x.1, g x.2]
  | [], _ => by simp [pairsD]
  | _ :: _, [] => by simp [pairsD]
  | a :: l, b :: m => by
    show D.tup [f a, g b] :: pairsD (l.map f) (m.map g) = _
    rw [pairs_map l m]
    rfl
def dgB (c : Nat) : Bool := decide (48 ≤ c ∧ c ≤ 57)
def numB (w : Str) : Bool := (decide (1 ≤ (w.length : Int)) && decide ((w.length : Int) ≤ 60)) && (lab w).all dgB && (decide (w = "0") || !decide ((lab w).head? = some 48))
def numF (w : Str) : Option Nat := if numB w = true then some (PySem.NumText.digitsVal (lab w)) else none
theorem num_digits {w : Str} (h : numB w = true) : PySem.NumText.AllDigits (lab w) ∧ lab w ≠ [] ∧ w.length ≤ 60 := by
  unfold numB at h
  simp only [Bool.and_eq_true, decide_eq_true_iff, List.all_eq_true] at h
  obtain ⟨⟨⟨h1, h2⟩, h3⟩, _⟩ := h
  refine ⟨fun c hc => ?_, fun e => ?_, by omega⟩
  · have := of_decide_eq_true (h3 c hc)
    exact this
  · rw [len_lab, e] at h1
    simp at h1
section
variable {K : PySem.W.Frag} {A : Adr}
def opK : Option Nat → D
  | none => .non
  | some n => .int (n : Int)
theorem in_dig (c : Nat) : (!(Builtin.Str.occurrences "0123456789" ⟨#[c]⟩ 0 ("0123456789" : Str).length 1).isEmpty) = dgB c := by
  rw [has_us]
  unfold dgB
  rw [show lab "0123456789" = List.range' 48 10 by decide +kernel]
  exact decide_eq_decide.mpr (by rw [List.mem_range'_1]; omega)
theorem eq_str {a b : Str} {Q : D → Prop} : REq (.str a) (.str b) Q = Q (.bl (decide (a = b))) := rfl
theorem ne_str {a b : Str} {Q : D → Prop} : RNe (.str a) (.str b) Q = Q (.bl (!decide (a = b))) := rfl
theorem sg_eq {c k : Nat} : decide (sg c = sg k) = decide (c = k) := decide_eq_decide.mpr ⟨fun h => by have := congrArg lab h; exact (List.cons.inj this).1, fun h => by rw [h]⟩
theorem number_of {w : Str} (hw : w.length ≤ 3000) {Q : D → Prop} {Z : ZX} (q : Q (opK (numF w))) : G_number_of K A [.str w] Q Z := by
  have hs : w.length ≤ sizeLine := by rw [sizeLine_eq]; omega
  unfold G_number_of S_number_of
  simp only [fnS, Pu.startB, sSeq, sAsg, sIf, sRet, sNext, sNew, sApp, sPar, sDem, demB, fVar, fVarT, fC, fOp, fTst, fAnd, fOr, fNot, fNew, fLst, fTup, fNil, fCons, fSl, Pu.oAt, oNo, fCB, fCall, fIf, fChain, fRng1, fIt, fJoin, RLen, RI0, RAdd, RSl, RIsN, RTuple, gN, bD, List.map_cons, List.map_nil, List.cons_append, List.nil_append, List.length_cons, List.length_nil, List.replicate, Nat.reduceSub, Nat.reduceAdd, List.getElem?_cons_zero, List.getElem?_cons_succ, List.set_cons_zero, List.set_cons_succ, Option.some.injEq, B.val.injEq, D.int.injEq, D.bl.injEq, D.str.injEq, D.tup.injEq, D.lst.injEq, exists_eq_left', exists_eq_left, exists_and_left, ex_eq, true_and, and_true, List.cons.injEq, List.zip_cons_cons, List.zip_nil_right, List.foldl_cons, List.foldl_nil, wipeB, lenD, itD, Bool.not_true, Bool.not_false, Bool.false_eq_true, Bool.true_eq_false, if_true, if_false, ite_true, ite_false, D.dic.injEq, D.obj.injEq, and_assoc, List.map_map, fLc, RAll]
  refine ⟨w.length, if_pos hs, ?_⟩
  unfold numF at q
  have ll : (lab w).length = w.length := (len_lab w).symm
  cases h1 : decide (1 ≤ (w.length : Int)) with
  | false =>
    rw [show numB w = false by unfold numB; rw [h1]; rfl, if_neg (by decide)] at q
    exact q
  | true =>
  rw [if_pos rfl]
  cases h2 : decide ((w.length : Int) ≤ 60) with
  | false =>
    rw [show numB w = false by unfold numB; rw [h1, h2]; rfl, if_neg (by decide)] at q
    exact q
  | true =>
  rw [if_neg (by decide)]
  refine ⟨_, if_pos hs, by unfold signsD; rw [List.length_map]; show (lab w).length ≤ _; omega, ?_⟩
  refine lc_map (f := fun c => .bl (dgB c)) (lab w) (fun c _ R r => ?_) ?_
  · simp only [fnS, Pu.startB, sSeq, sAsg, sIf, sRet, sNext, sNew, sApp, sPar, sDem, demB, fVar, fVarT, fC, fOp, fTst, fAnd, fOr, fNot, fNew, fLst, fTup, fNil, fCons, fSl, Pu.oAt, oNo, fCB, fCall, fIf, fChain, fRng1, fIt, fJoin, RLen, RI0, RAdd, RSl, RIsN, RTuple, gN, bD, List.map_cons, List.map_nil, List.cons_append, List.nil_append, List.length_cons, List.length_nil, List.replicate, Nat.reduceSub, Nat.reduceAdd, List.getElem?_cons_zero, List.getElem?_cons_succ, List.set_cons_zero, List.set_cons_succ, Option.some.injEq, B.val.injEq, D.int.injEq, D.bl.injEq, D.str.injEq, D.tup.injEq, D.lst.injEq, exists_eq_left', exists_eq_left, exists_and_left, ex_eq, true_and, and_true, List.cons.injEq, List.zip_cons_cons, List.zip_nil_right, List.foldl_cons, List.foldl_nil, wipeB, lenD, itD, Bool.not_true, Bool.not_false, Bool.false_eq_true, Bool.true_eq_false, if_true, if_false, ite_true, ite_false, D.dic.injEq, D.obj.injEq, and_assoc, List.map_map]
    show RIn false (.str (sg c)) (.str "0123456789") R
    exact ⟨_, rfl, by rw [Bool.false_bne, show sg c = ⟨#[c]⟩ from rfl, in_dig]; exact r⟩
  refine ⟨_, bls_map dgB (lab w), ?_⟩
  rw [List.all_map, show (id ∘ dgB) = dgB from rfl]
  cases h3 : (lab w).all dgB with
  | false =>
    rw [show numB w = false by unfold numB; rw [h1, h2, h3]; rfl, if_neg (by decide)] at q
    exact q
  | true =>
  rw [if_neg (by decide), eq_str]
  have hl : 1 ≤ (lab w).length ∧ (lab w).length ≤ 60 := by
    have := of_decide_eq_true h1
    have := of_decide_eq_true h2
    omega
  have hn : numB w = true → RIntS [.str w] Q := fun hb => by
    rw [hb, if_pos rfl] at q
    obtain ⟨d1, d2, d3⟩ := num_digits hb
    exact ⟨w, _, rfl, PySem.intText_digits d1 d2 (by omega), by omega, q⟩
  refine ⟨_, rfl, ?_⟩
  cases h4 : decide (w = "0") with
  | true =>
    rw [if_pos rfl]
    exact hn (by unfold numB; rw [h1, h2, h3, h4]; rfl)
  | false =>
  rw [if_neg (by decide)]
  obtain ⟨c, r, e⟩ : ∃ c r, lab w = c :: r := by
    cases e : lab w with
    | nil => rw [e] at hl; simp at hl
    | cons c r => exact ⟨c, r, rfl⟩
  refine ⟨hs, c, (atI_nat _ 0).trans (by show (lab w)[0]? = _; rw [e]; rfl), ?_⟩
  show RNe (.str (sg c)) (.str (sg 48)) _
  rw [ne_str, sg_eq]
  refine ⟨_, rfl, ?_⟩
  have eh : decide ((lab w).head? = some 48) = decide (c = 48) := by
    rw [e]
    exact decide_eq_decide.mpr ⟨fun h => by cases h; rfl, fun h => by rw [h]; rfl⟩
  cases h5 : decide (c = 48) with
  | true =>
    rw [show numB w = false by unfold numB; rw [h1, h2, h3, h4, eh, h5]; rfl, if_neg (by decide)] at q
    rw [if_neg (by decide)]
    exact q
  | false =>
    rw [if_pos (by decide)]
    exact hn (by unfold numB; rw [h1, h2, h3, h4, eh, h5]; rfl)
end
theorem join_partsG (y : Str) (hy : 1 ≤ y.length) : ∀ l : List Str, l.length ≤ (Str.join y l).length + 1 ∧ ∀ p ∈ l, p.length ≤ (Str.join y l).length
  | [] => ⟨Nat.zero_le _, fun p h => by cases h⟩
  | [x] => ⟨by show 1 ≤ x.length + 1; omega, fun p h => by rw [List.mem_singleton.mp h]; exact Nat.le_refl _⟩
  | x :: z :: r => by
    obtain ⟨h1, h2⟩ := join_partsG y hy (z :: r)
    have e : (Str.join y (x :: z :: r)).length = x.length + y.length + (Str.join y (z :: r)).length := by
      show (x ++ y ++ Str.join y (z :: r)).length = _
      rw [Str.length_append, Str.length_append]
    rw [e]
    refine ⟨by rw [List.length_cons]; omega, fun p h => ?_⟩
    rcases List.mem_cons.mp h with rfl | h
    · omega
    · have := h2 p h
      omega
theorem split_parts (x y : Str) (hy : 1 ≤ y.length) : (Txt.split x y).length ≤ x.length + 1 ∧ ∀ p ∈ Txt.split x y, p.length ≤ x.length := by
  have h := join_partsG y hy (Txt.split x y)
  rw [StrLaws.join_split] at h
  exact h
end K70
set_option Elab.async false
set_option maxRecDepth 100000
set_option maxHeartbeats 1000000
set_option linter.all false
set_option pp.maxSteps 1500
namespace K70
open PySem PySem.Spec PyProof.Rows L2 Ly Pu TM
def numsF (z : Str) : Option (List Nat) := if z = "-" then some [] else (Txt.split z " ").mapM numF
def nI (l : List Nat) : List Int := l.map fun n : Nat => (n : Int)
def opN : Option (List Nat) → D
  | none => .non
  | some l => tupI (nI l)
theorem opK_map : ∀ {ws : List Str} {l : List Nat}, ws.mapM numF = some l → (ws.map fun w => opK (numF w)) = (nI l).map D.int
  | [], l, h => by cases h; rfl
  | w :: ws, l, h => by
    rw [List.mapM_cons] at h
    cases c : numF w with
    | none => rw [c] at h; cases h
    | some k =>
      rw [c] at h
      cases c2 : ws.mapM numF with
      | none => rw [c2] at h; cases h
      | some r =>
        rw [c2] at h
        cases h
        rw [List.map_cons, c, opK_map c2]
        rfl
theorem opK_none : ∀ ws : List Str, ((ws.map fun w => opK (numF w)).any fun y => eqF y .non) = (ws.mapM numF).isNone
  | [] => rfl
  | w :: ws => by
    rw [List.map_cons, List.any_cons, opK_none ws, List.mapM_cons]
    cases c : numF w with
    | none => rfl
    | some k =>
      cases c2 : ws.mapM numF with
      | none => rfl
      | some r => rfl
theorem opK_fl (ws : List Str) : (ws.map fun w => opK (numF w)).all flD = true := by
  rw [List.all_map, List.all_eq_true]
  intro w _
  show flD (opK (numF w)) = true
  cases numF w <;> rfl
section
variable {K : PySem.W.Frag} {A : Adr}
theorem numbers_of {z : Str} (hz : z.length ≤ 2000) {Q : D → Prop} {Z : ZX} (q : Q (opN (numsF z))) : G_numbers_of K A [.str z] Q Z := by
  have hs : z.length + 2 ≤ sizeLine := by rw [sizeLine_eq]; omega
  obtain ⟨hl, hw⟩ := split_parts z " " (by decide)
  unfold G_numbers_of S_numbers_of
  simp only [fnS, Pu.startB, sSeq, sAsg, sIf, sRet, sNext, sNew, sApp, sPar, sDem, demB, fVar, fVarT, fC, fOp, fTst, fAnd, fOr, fNot, fNew, fLst, fTup, fNil, fCons, fSl, Pu.oAt, oNo, fCB, fCall, fIf, fChain, fRng1, fIt, fJoin, RLen, RI0, RAdd, RSl, RIsN, RTuple, gN, bD, List.map_cons, List.map_nil, List.cons_append, List.nil_append, List.length_cons, List.length_nil, List.replicate, Nat.reduceSub, Nat.reduceAdd, List.getElem?_cons_zero, List.getElem?_cons_succ, List.set_cons_zero, List.set_cons_succ, Option.some.injEq, B.val.injEq, D.int.injEq, D.bl.injEq, D.str.injEq, D.tup.injEq, D.lst.injEq, exists_eq_left', exists_eq_left, exists_and_left, ex_eq, true_and, and_true, List.cons.injEq, List.zip_cons_cons, List.zip_nil_right, List.foldl_cons, List.foldl_nil, wipeB, lenD, itD, Bool.not_true, Bool.not_false, Bool.false_eq_true, Bool.true_eq_false, if_true, if_false, ite_true, ite_false, D.dic.injEq, D.obj.injEq, and_assoc, List.map_map, fLc, fSplit]
  rw [ne_str]
  refine ⟨_, rfl, ?_⟩
  unfold numsF at q
  by_cases h : z = "-"
  · rw [decide_eq_true h]
    rw [if_pos h] at q
    rw [if_neg (by decide)]
    refine ⟨Nat.zero_le _, ?_⟩
    refine .inl ⟨rfl, rfl, ?_⟩
    refine ⟨_, rfl, ?_⟩
    rw [if_neg (by decide)]
    exact ⟨_, rfl, q⟩
  · rw [decide_eq_false h]
    rw [if_neg h] at q
    rw [if_pos (by decide)]
    refine ⟨by decide, hs, by rw [sizeLine_eq]; omega, ?_⟩
    refine ⟨by rw [List.length_map, sizeLine_eq]; omega, ?_⟩
    refine lc_map (f := fun w => opK (numF w)) (Txt.split z " ") (fun w hm R r => ?_) ?_
    · simp only [fnS, Pu.startB, sSeq, sAsg, sIf, sRet, sNext, sNew, sApp, sPar, sDem, demB, fVar, fVarT, fC, fOp, fTst, fAnd, fOr, fNot, fNew, fLst, fTup, fNil, fCons, fSl, Pu.oAt, oNo, fCB, fCall, fIf, fChain, fRng1, fIt, fJoin, RLen, RI0, RAdd, RSl, RIsN, RTuple, gN, bD, List.map_cons, List.map_nil, List.cons_append, List.nil_append, List.length_cons, List.length_nil, List.replicate, Nat.reduceSub, Nat.reduceAdd, List.getElem?_cons_zero, List.getElem?_cons_succ, List.set_cons_zero, List.set_cons_succ, Option.some.injEq, B.val.injEq, D.int.injEq, D.bl.injEq, D.str.injEq, D.tup.injEq, D.lst.injEq, exists_eq_left', exists_eq_left, exists_and_left, ex_eq, true_and, and_true, List.cons.injEq, List.zip_cons_cons, List.zip_nil_right, List.foldl_cons, List.foldl_nil, wipeB, lenD, itD, Bool.not_true, Bool.not_false, Bool.false_eq_true, Bool.true_eq_false, if_true, if_false, ite_true, ite_false, D.dic.injEq, D.obj.injEq, and_assoc, List.map_map]
      exact number_of (by have := hw w hm; omega) r
    · refine .inl ⟨rfl, opK_fl _, ?_⟩
      rw [opK_none]
      refine ⟨_, rfl, ?_⟩
      cases c : (Txt.split z " ").mapM numF with
      | none =>
        rw [c] at q
        exact q
      | some l =>
        rw [c] at q
        rw [if_neg (by simp)]
        refine ⟨_, rfl, ?_⟩
        rw [opK_map c]
        exact q
end
end K70
set_option Elab.async false
set_option maxRecDepth 100000
set_option maxHeartbeats 1000000
set_option linter.all false
set_option pp.maxSteps 2500
namespace K70
open PySem PySem.Spec PyProof.Rows L2 Ly Pu TM
def duB : FS := (sSeq (sIf (fOr (fTst (fOp REq (fVarT 2) (fC (.str "")))) (fOr (fTst (fOp RGt (fCB RLen (fCons (fVarT 2) fNil)) (fC (.int 60)))) (fTst (fOp RNe (fNew (fLc (fIt (fVarT 2)) (gN 3) (fTst (fOp (RIn true) (fVarT 3) (fC (.str "0123456789")))) (fVar 3) [3])) (fNew (fLst fNil)))))) (sRet (fC .non)) sNext)
      (sSeq (sIf (fAnd (fTst (fOp REq (fOp RIx (fVarT 2) (fC (.int 0))) (fC (.str "0")))) (fTst (fOp RNe (fVarT 2) (fC (.str "0"))))) (sRet (fC .non)) sNext)
      (sApp 1 (fCB RIntS (fCons (fVarT 2) fNil)))))
theorem du_step {w : Str} (hw : w.length ≤ 2000) (ho : PyData.strOk w = true) {d0 : D} {r : List D} (hr : r.length ≤ 4000) {De : EndsD} (q : match numF w with | none => De.rt .non | some k => De.nx [.val d0, .lst (r ++ [.int (k : Int)]), .val (.str w), .un]) :
    duB [.val d0, .lst r, .val (.str w), .un] De := by
  have hs : w.length ≤ sizeLine := by rw [sizeLine_eq]; omega
  have ll : (lab w).length = w.length := (len_lab w).symm
  have no : numB w = false → De.rt .non := fun h => by
    unfold numF at q
    rw [h, if_neg (by decide)] at q
    exact q
  unfold duB
  simp only [fnS, Pu.startB, sSeq, sAsg, sIf, sRet, sNext, sNew, sApp, sPar, sDem, demB, fVar, fVarT, fC, fOp, fTst, fAnd, fOr, fNot, fNew, fLst, fTup, fNil, fCons, fSl, Pu.oAt, oNo, fCB, fCall, fIf, fChain, fRng1, fIt, fJoin, RLen, RI0, RAdd, RSl, RIsN, RTuple, gN, bD, List.map_cons, List.map_nil, List.cons_append, List.nil_append, List.length_cons, List.length_nil, List.replicate, Nat.reduceSub, Nat.reduceAdd, List.getElem?_cons_zero, List.getElem?_cons_succ, List.set_cons_zero, List.set_cons_succ, Option.some.injEq, B.val.injEq, D.int.injEq, D.bl.injEq, D.str.injEq, D.tup.injEq, D.lst.injEq, exists_eq_left', exists_eq_left, exists_and_left, ex_eq, true_and, and_true, List.cons.injEq, List.zip_cons_cons, List.zip_nil_right, List.foldl_cons, List.foldl_nil, wipeB, lenD, itD, Bool.not_true, Bool.not_false, Bool.false_eq_true, Bool.true_eq_false, if_true, if_false, ite_true, ite_false, D.dic.injEq, D.obj.injEq, and_assoc, List.map_map, fLc]
  rw [eq_str]
  refine ⟨_, rfl, ?_⟩
  by_cases h1 : w = ""
  · rw [decide_eq_true h1, if_pos rfl]
    exact no (by rw [h1]; decide +kernel)
  rw [decide_eq_false h1, if_neg (by decide)]
  have l1 : 1 ≤ w.length := by
    cases e : lab w with
    | nil => exact absurd (lab_inj (by rw [e]; decide +kernel)) h1
    | cons c t => rw [← ll, e, List.length_cons]; omega
  refine ⟨w.length, if_pos hs, ?_⟩
  by_cases h2 : (60 : Int) < (w.length : Int)
  · rw [decide_eq_true h2, if_pos rfl]
    exact no (by unfold numB; rw [decide_eq_false (show ¬ (w.length : Int) ≤ 60 by omega), Bool.and_false]; rfl)
  rw [decide_eq_false h2, if_neg (by decide)]
  refine ⟨_, if_pos hs, by unfold signsD; rw [List.length_map]; show (lab w).length ≤ _; omega, ?_⟩
  refine lc_fil (p := fun c => !dgB c) (f := fun c => .str (sg c)) (lab w) (fun c _ R r => ?_) (fun c _ _ R r => ?_) ?_
  · simp only [fnS, Pu.startB, sSeq, sAsg, sIf, sRet, sNext, sNew, sApp, sPar, sDem, demB, fVar, fVarT, fC, fOp, fTst, fAnd, fOr, fNot, fNew, fLst, fTup, fNil, fCons, fSl, Pu.oAt, oNo, fCB, fCall, fIf, fChain, fRng1, fIt, fJoin, RLen, RI0, RAdd, RSl, RIsN, RTuple, gN, bD, List.map_cons, List.map_nil, List.cons_append, List.nil_append, List.length_cons, List.length_nil, List.replicate, Nat.reduceSub, Nat.reduceAdd, List.getElem?_cons_zero, List.getElem?_cons_succ, List.set_cons_zero, List.set_cons_succ, Option.some.injEq, B.val.injEq, D.int.injEq, D.bl.injEq, D.str.injEq, D.tup.injEq, D.lst.injEq, exists_eq_left', exists_eq_left, exists_and_left, ex_eq, true_and, and_true, List.cons.injEq, List.zip_cons_cons, List.zip_nil_right, List.foldl_cons, List.foldl_nil, wipeB, lenD, itD, Bool.not_true, Bool.not_false, Bool.false_eq_true, Bool.true_eq_false, if_true, if_false, ite_true, ite_false, D.dic.injEq, D.obj.injEq, and_assoc, List.map_map]
    show RIn true (.str (sg c)) (.str "0123456789") _
    refine ⟨_, rfl, _, rfl, ?_⟩
    rw [Bool.true_bne, show sg c = ⟨#[c]⟩ from rfl, in_dig]
    exact r
  · exact ⟨_, rfl, r⟩
  refine ⟨Nat.zero_le _, ?_⟩
  have hf : (((lab w).filter fun c => !dgB c).map fun c => D.str (sg c)) = (((lab w).filter fun c => !dgB c).map sg).map D.str := by rw [List.map_map]; rfl
  rw [hf]
  refine ne_ls (b := []) (fun x hx => ?_) (fun x hx => by cases hx) ?_
  · obtain ⟨c, hc, rfl⟩ := List.mem_map.mp hx
    exact sg_ok ho c ((List.mem_filter.mp hc).1)
  refine ⟨_, rfl, ?_⟩
  cases h3 : (lab w).all dgB with
  | false =>
    rw [if_pos]
    · exact no (by unfold numB; rw [h3, Bool.and_false]; rfl)
    rw [Bool.not_eq_true', decide_eq_false_iff_not, List.map_eq_nil_iff, List.filter_eq_nil_iff]
    intro hall
    rw [← Bool.not_eq_true, List.all_eq_true] at h3
    exact h3 fun c hc => by
      have := hall c hc
      cases e : dgB c with
      | true => rfl
      | false => rw [e] at this; exact absurd rfl this
  | true =>
    rw [if_neg]
    · obtain ⟨c, t, e⟩ : ∃ c t, lab w = c :: t := by
        cases e : lab w with
        | nil => rw [← ll, e] at l1; simp at l1
        | cons c t => exact ⟨c, t, rfl⟩
      have fin : numB w = true → ∃ ds, B.lst r = B.lst ds ∧ RIntS [D.str w] fun d => ds.length < sizeLine ∧ De.nx [B.val d0, B.lst (ds ++ [d]), B.val (D.str w), B.un] := fun hb => by
        unfold numF at q
        rw [hb, if_pos rfl] at q
        obtain ⟨d1, d2, d3⟩ := num_digits hb
        exact ⟨r, rfl, w, _, rfl, PySem.intText_digits d1 d2 (by omega), by omega, by rw [sizeLine_eq]; omega, q⟩
      have nb : numB w = (decide (w = "0") || !decide (c = 48)) := by
        unfold numB
        rw [h3, decide_eq_true (show (1 : Int) ≤ (w.length : Int) by omega), decide_eq_true (show (w.length : Int) ≤ 60 by omega), e]
        show (decide (w = "0") || !decide (some c = some 48)) = _
        rw [show decide (some c = some 48) = decide (c = 48) from decide_eq_decide.mpr ⟨fun h => Option.some.inj h, fun h => by rw [h]⟩]
      refine ⟨hs, c, (atI_nat _ 0).trans (by show (lab w)[0]? = _; rw [e]; rfl), ?_⟩
      show REq (.str (sg c)) (.str (sg 48)) _
      rw [eq_str, sg_eq]
      refine ⟨_, rfl, ?_⟩
      by_cases h4 : c = 48
      · rw [decide_eq_true h4, if_pos rfl, ne_str]
        refine ⟨_, rfl, ?_⟩
        by_cases h5 : w = "0"
        · rw [decide_eq_true h5, if_neg (by decide)]
          exact fin (by rw [nb, decide_eq_true h5]; rfl)
        · rw [decide_eq_false h5, if_pos (by decide)]
          exact no (by rw [nb, decide_eq_false h5, decide_eq_true h4]; rfl)
      · rw [decide_eq_false h4, if_neg (by decide)]
        exact fin (by rw [nb, decide_eq_false h4, Bool.not_false, Bool.or_true])
    rw [Bool.not_eq_true', decide_eq_false_iff_not]
    intro z
    refine z ?_
    rw [List.map_eq_nil_iff, List.filter_eq_nil_iff]
    intro c hc
    rw [List.all_eq_true.mp h3 c hc]
    decide
theorem du_loop {d0 : D} {De : EndsD} : ∀ (ws : List Str) (r : List Nat) (o2 : B), (∀ w ∈ ws, w.length ≤ 2000 ∧ PyData.strOk w = true) → r.length + ws.length ≤ 4000 →
    (match ws.mapM numF with | none => De.rt .non | some l => ∀ o2, De.nx [.val d0, .lst ((nI (r ++ l)).map D.int), o2, .un]) → forD (gN 2) duB (ws.map D.str) [.val d0, .lst ((nI r).map D.int), o2, .un] De
  | [], r, o2, _, _, q => by
    have q := q o2
    rw [show r ++ ([] : List Nat).reverse = r by simp] at q
    exact q
  | w :: ws, r, o2, hw, hl, q => by
    rw [List.length_cons] at hl
    obtain ⟨w1, w2⟩ := hw w (List.mem_cons_self ..)
    show duB [.val d0, .lst ((nI r).map D.int), .val (.str w), .un] _
    refine du_step w1 w2 (by rw [List.length_map, nI, List.length_map]; omega) ?_
    rw [List.mapM_cons] at q
    cases c : numF w with
    | none =>
      rw [c] at q
      exact q
    | some k =>
      rw [c] at q
      have e : (nI r).map D.int ++ [D.int (k : Int)] = (nI (r ++ [k])).map D.int := by
        unfold nI
        rw [List.map_append, List.map_append]
        rfl
      show forD (gN 2) duB (ws.map D.str) [.val d0, .lst ((nI r).map D.int ++ [D.int (k : Int)]), .val (.str w), .un] De
      rw [e]
      refine du_loop ws (r ++ [k]) _ (fun x hx => hw x (List.mem_cons_of_mem _ hx)) (by rw [List.length_append, List.length_singleton]; omega) ?_
      cases c2 : ws.mapM numF with
      | none =>
        rw [c2] at q
        exact q
      | some l =>
        rw [c2] at q
        intro o2
        rw [List.append_assoc]
        exact q o2
section
variable {K : PySem.W.Frag} {A : Adr}
theorem due_numbers {z : Str} (hz : z.length ≤ 2000) (ho : PyData.strOk z = true) {Q : D → Prop} {Z : ZX} (q : Q (opN (numsF z))) : G_due_numbers K A [.str z] Q Z := by
  obtain ⟨p1, p2⟩ := split_parts z " " (by decide)
  have po := split_ok (y := " ") ho
  unfold G_due_numbers S_due_numbers
  show (sSeq _ (sSeq _ (sSeq (sFor _ (gN 2) duB) _))) _ _
  simp only [fnS, Pu.startB, sSeq, sAsg, sIf, sRet, sNext, sNew, sApp, sPar, sDem, demB, fVar, fVarT, fC, fOp, fTst, fAnd, fOr, fNot, fNew, fLst, fTup, fNil, fCons, fSl, Pu.oAt, oNo, fCB, fCall, fIf, fChain, fRng1, fIt, fJoin, RLen, RI0, RAdd, RSl, RIsN, RTuple, gN, bD, List.map_cons, List.map_nil, List.cons_append, List.nil_append, List.length_cons, List.length_nil, List.replicate, Nat.reduceSub, Nat.reduceAdd, List.getElem?_cons_zero, List.getElem?_cons_succ, List.set_cons_zero, List.set_cons_succ, Option.some.injEq, B.val.injEq, D.int.injEq, D.bl.injEq, D.str.injEq, D.tup.injEq, D.lst.injEq, exists_eq_left', exists_eq_left, exists_and_left, ex_eq, true_and, and_true, List.cons.injEq, List.zip_cons_cons, List.zip_nil_right, List.foldl_cons, List.foldl_nil, wipeB, lenD, itD, Bool.not_true, Bool.not_false, Bool.false_eq_true, Bool.true_eq_false, if_true, if_false, ite_true, ite_false, D.dic.injEq, D.obj.injEq, and_assoc, List.map_map, sFor, fSplit]
  rw [eq_str]
  refine ⟨_, rfl, ?_⟩
  unfold numsF at q
  by_cases h : z = "-"
  · rw [if_pos h] at q
    rw [decide_eq_true h, if_pos rfl]
    exact ⟨Nat.zero_le _, q⟩
  rw [if_neg h] at q
  rw [decide_eq_false h, if_neg (by decide)]
  refine ⟨Nat.zero_le _, by decide, by rw [sizeLine_eq]; omega, by rw [sizeLine_eq]; omega, ?_⟩
  refine du_loop (d0 := .str z) (Txt.split z " ") [] _ (fun w hw => ⟨Nat.le_trans (p2 w hw) hz, po w hw⟩) (by show 0 + _ ≤ 4000; omega) ?_
  cases c : (Txt.split z " ").mapM numF with
  | none =>
    rw [c] at q
    exact q
  | some l =>
    rw [c] at q
    intro o2
    exact ⟨_, rfl, _, rfl, _, rfl, (show Q (.tup ((nI l).map D.int)) from q)⟩
end
end K70
set_option Elab.async false
set_option maxRecDepth 100000
set_option maxHeartbeats 1000000
set_option linter.all false
set_option pp.maxSteps 2500
namespace K70
open PySem PySem.Spec PyProof.Rows L2 Ly Pu TM
def ascI : List Int → Bool
  | a :: b :: l => decide (a < b) && ascI (b :: l)
  | _ => true
theorem asc_zip : ∀ l : List Int, ((l.zip (l.drop 1)).map fun x => decide (x.1 < x.2)).all id = ascI l
  | [] => rfl
  | [a] => rfl
  | a :: b :: l => by
    show (decide (a < b) && (((b :: l).zip ((b :: l).drop 1)).map fun x => decide (x.1 < x.2)).all id) = _
    rw [asc_zip (b :: l)]
    rfl
theorem asc_iff : ∀ {l : List Int}, ascI l = true ↔ l.Pairwise (· < ·)
  | [] => by simp [ascI]
  | [_] => by simp [ascI]
  | a :: b :: l => by
    have ih := asc_iff (l := b :: l)
    show (decide (a < b) && ascI (b :: l)) = true ↔ _
    rw [Bool.and_eq_true, decide_eq_true_iff, ih, List.pairwise_cons (a := a)]
    constructor
    · rintro ⟨h1, h2⟩
      refine ⟨fun y hy => ?_, h2⟩
      rcases List.mem_cons.mp hy with rfl | hy
      · exact h1
      · have := (List.pairwise_cons.mp h2).1 y hy
        omega
    · rintro ⟨h1, h2⟩
      exact ⟨h1 b (List.mem_cons_self ..), h2⟩
theorem cut1 (l : List Int) : Pu.cutD (l.map D.int) (some 1) none = (l.drop 1).map D.int := by
  unfold Pu.cutD
  rw [show (some (1 : Int)) = some ((1 : Nat) : Int) from rfl, HT.sIx_nat, HT.sIx_none, List.length_map]
  cases l with
  | nil => rfl
  | cons a l =>
    rw [List.length_cons, Nat.min_eq_left (by omega), List.take_of_length_le (by rw [List.length_drop, List.length_map, List.length_cons]; omega), List.map_drop]
def Big : Int := 10 ^ 60
theorem big_eq : Big = 1000000000000000000000000000000000000000000000000000000000000 := by decide +kernel
/-- whole numbers of at least 0 that the program takes -/
def Sm (l : List Int) : Prop := ∀ i ∈ l, 0 ≤ i ∧ i < Big
section
variable {K : PySem.W.Frag} {A : Adr}
theorem is_integer {i : Int} (h : 0 ≤ i ∧ i < Big) {Q : D → Prop} {Z : ZX} (q : Q (.bl true)) : G_is_integer K A [.int i] Q Z := by
  rw [big_eq] at h
  unfold G_is_integer S_is_integer
  simp only [fnS, Pu.startB, sSeq, sAsg, sIf, sRet, sNext, sNew, sApp, sPar, sDem, demB, fVar, fVarT, fC, fOp, fTst, fAnd, fOr, fNot, fNew, fLst, fTup, fNil, fCons, fSl, Pu.oAt, oNo, fCB, fCall, fIf, fChain, fRng1, fIt, fJoin, RLen, RI0, RAdd, RIx, RSl, RIsN, RTuple, RIn, gN, bD, List.map_cons, List.map_nil, List.cons_append, List.nil_append, List.length_cons, List.length_nil, List.replicate, Nat.reduceSub, Nat.reduceAdd, List.getElem?_cons_zero, List.getElem?_cons_succ, List.set_cons_zero, List.set_cons_succ, Option.some.injEq, B.val.injEq, D.int.injEq, D.bl.injEq, D.str.injEq, D.tup.injEq, D.lst.injEq, exists_eq_left', exists_eq_left, exists_and_left, ex_eq, true_and, and_true, List.cons.injEq, fIsi, fAndV, fNotV, fNeg, okI, kdD, kdIs]
  rw [if_pos (by decide), if_pos (by decide), if_pos (decide_eq_true (by omega)), decide_eq_true (by omega)]
  exact q
theorem is_within {i : Int} (h : 0 ≤ i ∧ i < Big) {Q : D → Prop} {Z : ZX} (q : Q (.bl true)) : G_is_within K A [.int i, .int 0, .int 1000000000000000000000000000000000000000000000000000000000000] Q Z := by
  unfold G_is_within S_is_within
  simp only [fnS, Pu.startB, sSeq, sAsg, sIf, sRet, sNext, sNew, sApp, sPar, sDem, demB, fVar, fVarT, fC, fOp, fTst, fAnd, fOr, fNot, fNew, fLst, fTup, fNil, fCons, fSl, Pu.oAt, oNo, fCB, fCall, fIf, fChain, fRng1, fIt, fJoin, RLen, RI0, RAdd, RIx, RSl, RIsN, RTuple, RIn, gN, bD, List.map_cons, List.map_nil, List.cons_append, List.nil_append, List.length_cons, List.length_nil, List.replicate, Nat.reduceSub, Nat.reduceAdd, List.getElem?_cons_zero, List.getElem?_cons_succ, List.set_cons_zero, List.set_cons_succ, Option.some.injEq, B.val.injEq, D.int.injEq, D.bl.injEq, D.str.injEq, D.tup.injEq, D.lst.injEq, exists_eq_left', exists_eq_left, exists_and_left, ex_eq, true_and, and_true, List.cons.injEq, fIsi, fAndV, fNotV, fNeg]
  refine is_integer h ?_
  rw [big_eq] at h
  simp only [fnS, Pu.startB, sSeq, sAsg, sIf, sRet, sNext, sNew, sApp, sPar, sDem, demB, fVar, fVarT, fC, fOp, fTst, fAnd, fOr, fNot, fNew, fLst, fTup, fNil, fCons, fSl, Pu.oAt, oNo, fCB, fCall, fIf, fChain, fRng1, fIt, fJoin, RLen, RI0, RAdd, RIx, RSl, RIsN, RTuple, RIn, gN, bD, List.map_cons, List.map_nil, List.cons_append, List.nil_append, List.length_cons, List.length_nil, List.replicate, Nat.reduceSub, Nat.reduceAdd, List.getElem?_cons_zero, List.getElem?_cons_succ, List.set_cons_zero, List.set_cons_succ, Option.some.injEq, B.val.injEq, D.int.injEq, D.bl.injEq, D.str.injEq, D.tup.injEq, D.lst.injEq, exists_eq_left', exists_eq_left, exists_and_left, ex_eq, true_and, and_true, List.cons.injEq]
  rw [if_pos (decide_eq_true h.1), decide_eq_true (by omega)]
  exact q
theorem are_numbers {l : List Int} (hl : l.length ≤ 5000) (hs : Sm l) {Q : D → Prop} {Z : ZX} (q : Q (.bl true)) : G_are_numbers K A [tupI l] Q Z := by
  unfold G_are_numbers S_are_numbers tupI
  simp only [fnS, Pu.startB, sSeq, sAsg, sIf, sRet, sNext, sNew, sApp, sPar, sDem, demB, fVar, fVarT, fC, fOp, fTst, fAnd, fOr, fNot, fNew, fLst, fTup, fNil, fCons, fSl, Pu.oAt, oNo, fCB, fCall, fIf, fChain, fRng1, fIt, fJoin, RLen, RI0, RAdd, RSl, RIsN, RTuple, gN, bD, List.map_cons, List.map_nil, List.cons_append, List.nil_append, List.length_cons, List.length_nil, List.replicate, Nat.reduceSub, Nat.reduceAdd, List.getElem?_cons_zero, List.getElem?_cons_succ, List.set_cons_zero, List.set_cons_succ, Option.some.injEq, B.val.injEq, D.int.injEq, D.bl.injEq, D.str.injEq, D.tup.injEq, D.lst.injEq, exists_eq_left', exists_eq_left, exists_and_left, ex_eq, true_and, and_true, List.cons.injEq, List.zip_cons_cons, List.zip_nil_right, List.foldl_cons, List.foldl_nil, wipeB, lenD, itD, Bool.not_true, Bool.not_false, Bool.false_eq_true, Bool.true_eq_false, if_true, if_false, ite_true, ite_false, D.dic.injEq, D.obj.injEq, and_assoc, List.map_map, fIsi, fLc, RAll, fAndV, okI, kdD, kdIs]
  rw [if_pos (by decide)]
  refine ⟨by rw [List.length_map, sizeLine_eq]; omega, ?_⟩
  refine lc_map (f := fun _ => D.bl true) l (fun i hi R r => ?_) ?_
  · simp only [fnS, Pu.startB, sSeq, sAsg, sIf, sRet, sNext, sNew, sApp, sPar, sDem, demB, fVar, fVarT, fC, fOp, fTst, fAnd, fOr, fNot, fNew, fLst, fTup, fNil, fCons, fSl, Pu.oAt, oNo, fCB, fCall, fIf, fChain, fRng1, fIt, fJoin, RLen, RI0, RAdd, RSl, RIsN, RTuple, gN, bD, List.map_cons, List.map_nil, List.cons_append, List.nil_append, List.length_cons, List.length_nil, List.replicate, Nat.reduceSub, Nat.reduceAdd, List.getElem?_cons_zero, List.getElem?_cons_succ, List.set_cons_zero, List.set_cons_succ, Option.some.injEq, B.val.injEq, D.int.injEq, D.bl.injEq, D.str.injEq, D.tup.injEq, D.lst.injEq, exists_eq_left', exists_eq_left, exists_and_left, ex_eq, true_and, and_true, List.cons.injEq, List.zip_cons_cons, List.zip_nil_right, List.foldl_cons, List.foldl_nil, wipeB, lenD, itD, Bool.not_true, Bool.not_false, Bool.false_eq_true, Bool.true_eq_false, if_true, if_false, ite_true, ite_false, D.dic.injEq, D.obj.injEq, and_assoc, List.map_map]
    exact is_within (hs i hi) r
  refine ⟨_, bls_map (fun _ => true) l, ?_⟩
  rw [show (l.map fun _ => true).all id = true by rw [List.all_map, List.all_eq_true]; exact fun _ _ => rfl]
  exact q
theorem is_rising {l : List Int} (hl : l.length ≤ 5000) (hs : Sm l) {Q : D → Prop} {Z : ZX} (q : Q (.bl (ascI l))) : G_is_rising K A [tupI l] Q Z := by
  unfold G_is_rising S_is_rising
  simp only [fnS, Pu.startB, sSeq, sAsg, sIf, sRet, sNext, sNew, sApp, sPar, sDem, demB, fVar, fVarT, fC, fOp, fTst, fAnd, fOr, fNot, fNew, fLst, fTup, fNil, fCons, fSl, Pu.oAt, oNo, fCB, fCall, fIf, fChain, fRng1, fIt, fJoin, RLen, RI0, RAdd, RSl, RIsN, RTuple, gN, bD, List.map_cons, List.map_nil, List.cons_append, List.nil_append, List.length_cons, List.length_nil, List.replicate, Nat.reduceSub, Nat.reduceAdd, List.getElem?_cons_zero, List.getElem?_cons_succ, List.set_cons_zero, List.set_cons_succ, Option.some.injEq, B.val.injEq, D.int.injEq, D.bl.injEq, D.str.injEq, D.tup.injEq, D.lst.injEq, exists_eq_left', exists_eq_left, exists_and_left, ex_eq, true_and, and_true, List.cons.injEq, List.zip_cons_cons, List.zip_nil_right, List.foldl_cons, List.foldl_nil, wipeB, lenD, itD, Bool.not_true, Bool.not_false, Bool.false_eq_true, Bool.true_eq_false, if_true, if_false, ite_true, ite_false, D.dic.injEq, D.obj.injEq, and_assoc, List.map_map, fLc, RAll, fZip, fAndV]
  refine are_numbers hl hs ?_
  unfold tupI
  simp only [fnS, Pu.startB, sSeq, sAsg, sIf, sRet, sNext, sNew, sApp, sPar, sDem, demB, fVar, fVarT, fC, fOp, fTst, fAnd, fOr, fNot, fNew, fLst, fTup, fNil, fCons, fSl, Pu.oAt, oNo, fCB, fCall, fIf, fChain, fRng1, fIt, fJoin, RLen, RI0, RAdd, RSl, RIsN, RTuple, gN, bD, List.map_cons, List.map_nil, List.cons_append, List.nil_append, List.length_cons, List.length_nil, List.replicate, Nat.reduceSub, Nat.reduceAdd, List.getElem?_cons_zero, List.getElem?_cons_succ, List.set_cons_zero, List.set_cons_succ, Option.some.injEq, B.val.injEq, D.int.injEq, D.bl.injEq, D.str.injEq, D.tup.injEq, D.lst.injEq, exists_eq_left', exists_eq_left, exists_and_left, ex_eq, true_and, and_true, List.cons.injEq, List.zip_cons_cons, List.zip_nil_right, List.foldl_cons, List.foldl_nil, wipeB, lenD, itD, Bool.not_true, Bool.not_false, Bool.false_eq_true, Bool.true_eq_false, if_true, if_false, ite_true, ite_false, D.dic.injEq, D.obj.injEq, and_assoc, List.map_map]
  rw [cut1]
  refine ⟨_, _, .inr ⟨rfl, rfl⟩, ?_⟩
  rw [pairs_map]
  refine ⟨by rw [List.length_map, List.length_zip, sizeLine_eq]; omega, ?_⟩
  refine lc_g (p := fun _ => true) (f := fun x : Int × Int => D.bl (decide (x.1 < x.2))) (l.zip (l.drop 1)) (fun x hx => ⟨_, fun k hk => ⟨_, rfl, rfl, hk⟩, fun R r => r, fun _ R r => ?_⟩) ?_
  · simp only [fnS, Pu.startB, sSeq, sAsg, sIf, sRet, sNext, sNew, sApp, sPar, sDem, demB, fVar, fVarT, fC, fOp, fTst, fAnd, fOr, fNot, fNew, fLst, fTup, fNil, fCons, fSl, Pu.oAt, oNo, fCB, fCall, fIf, fChain, fRng1, fIt, fJoin, RLen, RI0, RAdd, RSl, RIsN, RTuple, gN, bD, List.map_cons, List.map_nil, List.cons_append, List.nil_append, List.length_cons, List.length_nil, List.replicate, Nat.reduceSub, Nat.reduceAdd, List.getElem?_cons_zero, List.getElem?_cons_succ, List.set_cons_zero, List.set_cons_succ, Option.some.injEq, B.val.injEq, D.int.injEq, D.bl.injEq, D.str.injEq, D.tup.injEq, D.lst.injEq, exists_eq_left', exists_eq_left, exists_and_left, ex_eq, true_and, and_true, List.cons.injEq, List.zip_cons_cons, List.zip_nil_right, List.foldl_cons, List.foldl_nil, wipeB, lenD, itD, Bool.not_true, Bool.not_false, Bool.false_eq_true, Bool.true_eq_false, if_true, if_false, ite_true, ite_false, D.dic.injEq, D.obj.injEq, and_assoc, List.map_map]
    exact r
  · rw [List.filter_eq_self.mpr (fun _ _ => rfl)]
    refine ⟨_, bls_map _ _, ?_⟩
    rw [asc_zip]
    exact q
theorem ints_eqv (l : List Int) : toPs (l.map D.int) = l.map PyData.int := by
  induction l with
  | nil => rfl
  | cons a l ih =>
    show toP (D.int a) :: toPs (l.map D.int) = _
    rw [ih]
    rfl
theorem ints_eq : ∀ a b : List Int, PyData.eqvAll (a.map PyData.int) (b.map PyData.int) = decide (a = b)
  | [], [] => by simp [PyData.eqvAll]
  | [], _ :: _ => by simp [PyData.eqvAll]
  | _ :: _, [] => by simp [PyData.eqvAll]
  | x :: a, y :: b => by
    rw [List.map_cons, List.map_cons]
    simp only [PyData.eqvAll]
    rw [ints_eq a b]
    have e : PyData.eqv (.int x) (.int y) = decide (x = y) := by
      simp only [PyData.eqv]
      rw [Bool.eq_iff_iff]
      simp
    rw [e, Bool.eq_iff_iff]
    simp
theorem int_lay : ∀ l : List Int, PyData.canLayAll0 (l.map PyData.int) = true ∧ PyData.depthAll (l.map PyData.int) ≤ 0
  | [] => ⟨by simp [PyData.canLayAll0], by simp [PyData.depthAll]⟩
  | x :: l => by
    obtain ⟨a, b⟩ := int_lay l
    refine ⟨by simp [PyData.canLayAll0, PyData.canLay0, a], ?_⟩
    show PyData.depthAll (PyData.int x :: _) ≤ 0
    simp only [PyData.depthAll, PyData.depth]
    omega
theorem ints_shp (l : List Int) : shp (.lst (l.map D.int)) := by
  obtain ⟨a, b⟩ := int_lay l
  show SeqAt.shaped (.list (toPs (l.map D.int))) = true
  rw [ints_eqv]
  unfold SeqAt.shaped
  simp only [PyData.canLay0, PyData.depth, a, Bool.true_and]
  exact decide_eq_true (by omega)
theorem eq_ints {a b : List Int} {Q : D → Prop} (q : Q (.bl (decide (a = b)))) : REq (.lst (a.map .int)) (.lst (b.map .int)) Q := ⟨ints_shp a, ints_shp b, by
  show Q (.bl (PyData.eqvAll (toPs (a.map D.int)) (toPs (b.map D.int))))
  rw [ints_eqv, ints_eqv, ints_eq]
  exact q⟩
/-- the law's own look at a row of numbers -/
theorem is_rising' {l : List Int} (hl : l.length ≤ 1000) {Q : D → Prop} {Z : ZX} (q : Q (.bl (ascI l))) : G_is_rising' K A [tupI l] Q Z := by
  unfold G_is_rising' S_is_rising'
  simp only [fnS, Pu.startB, sSeq, sAsg, sIf, sRet, sNext, sNew, sApp, sPar, sDem, demB, fVar, fVarT, fC, fOp, fTst, fAnd, fOr, fNot, fNew, fLst, fTup, fNil, fCons, fSl, Pu.oAt, oNo, fCB, fCall, fIf, fChain, fRng1, fIt, fJoin, RLen, RI0, RAdd, RSl, RIsN, RTuple, gN, bD, List.map_cons, List.map_nil, List.cons_append, List.nil_append, List.length_cons, List.length_nil, List.replicate, Nat.reduceSub, Nat.reduceAdd, List.getElem?_cons_zero, List.getElem?_cons_succ, List.set_cons_zero, List.set_cons_succ, Option.some.injEq, B.val.injEq, D.int.injEq, D.bl.injEq, D.str.injEq, D.tup.injEq, D.lst.injEq, exists_eq_left', exists_eq_left, exists_and_left, ex_eq, true_and, and_true, List.cons.injEq, List.zip_cons_cons, List.zip_nil_right, List.foldl_cons, List.foldl_nil, wipeB, lenD, itD, Bool.not_true, Bool.not_false, Bool.false_eq_true, Bool.true_eq_false, if_true, if_false, ite_true, ite_false, D.dic.injEq, D.obj.injEq, and_assoc, List.map_map, RNotN, fCBN, RList, fSortSetN, fAndV]
  rw [if_pos (by rfl)]
  refine ⟨_, rfl, l, rfl, hl, fun ys pw hm hy => eq_ints ?_⟩
  have e : decide (l = ys) = ascI l := by
    rw [Bool.eq_iff_iff, decide_eq_true_iff, asc_iff]
    constructor
    · intro h
      rw [h]
      exact pw
    · intro h
      exact rise_uniq (r := (· < ·)) (fun a => Int.lt_irrefl a) (fun a b h1 h2 => by omega) h pw fun k => (hm k).symm
  rw [e]
  exact q
theorem is_rising_non {Q : D → Prop} {Z : ZX} (q : Q (.bl false)) : G_is_rising K A [.non] Q Z := by
  unfold G_is_rising S_is_rising G_are_numbers S_are_numbers
  simp only [fnS, Pu.startB, sSeq, sAsg, sIf, sRet, sNext, sNew, sApp, sPar, sDem, demB, fVar, fVarT, fC, fOp, fTst, fAnd, fOr, fNot, fNew, fLst, fTup, fNil, fCons, fSl, Pu.oAt, oNo, fCB, fCall, fIf, fChain, fRng1, fIt, fJoin, RLen, RI0, RAdd, RSl, RIsN, RTuple, gN, bD, List.map_cons, List.map_nil, List.cons_append, List.nil_append, List.length_cons, List.length_nil, List.replicate, Nat.reduceSub, Nat.reduceAdd, List.getElem?_cons_zero, List.getElem?_cons_succ, List.set_cons_zero, List.set_cons_succ, Option.some.injEq, B.val.injEq, D.int.injEq, D.bl.injEq, D.str.injEq, D.tup.injEq, D.lst.injEq, exists_eq_left', exists_eq_left, exists_and_left, ex_eq, true_and, and_true, List.cons.injEq, List.zip_cons_cons, List.zip_nil_right, List.foldl_cons, List.foldl_nil, wipeB, lenD, itD, Bool.not_true, Bool.not_false, Bool.false_eq_true, Bool.true_eq_false, if_true, if_false, ite_true, ite_false, D.dic.injEq, D.obj.injEq, and_assoc, List.map_map, fIsi, fLc, RAll, fZip, fAndV, okI, kdD, kdIs]
  exact q
theorem is_rising_non' {Q : D → Prop} {Z : ZX} (q : Q (.bl false)) : G_is_rising' K A [.non] Q Z := by
  unfold G_is_rising' S_is_rising'
  simp only [fnS, Pu.startB, sSeq, sAsg, sIf, sRet, sNext, sNew, sApp, sPar, sDem, demB, fVar, fVarT, fC, fOp, fTst, fAnd, fOr, fNot, fNew, fLst, fTup, fNil, fCons, fSl, Pu.oAt, oNo, fCB, fCall, fIf, fChain, fRng1, fIt, fJoin, RLen, RI0, RAdd, RSl, RIsN, RTuple, gN, bD, List.map_cons, List.map_nil, List.cons_append, List.nil_append, List.length_cons, List.length_nil, List.replicate, Nat.reduceSub, Nat.reduceAdd, List.getElem?_cons_zero, List.getElem?_cons_succ, List.set_cons_zero, List.set_cons_succ, Option.some.injEq, B.val.injEq, D.int.injEq, D.bl.injEq, D.str.injEq, D.tup.injEq, D.lst.injEq, exists_eq_left', exists_eq_left, exists_and_left, ex_eq, true_and, and_true, List.cons.injEq, List.zip_cons_cons, List.zip_nil_right, List.foldl_cons, List.foldl_nil, wipeB, lenD, itD, Bool.not_true, Bool.not_false, Bool.false_eq_true, Bool.true_eq_false, if_true, if_false, ite_true, ite_false, D.dic.injEq, D.obj.injEq, and_assoc, List.map_map, RNotN, fCBN, RList, fSortSetN, fAndV]
  exact q
end
def ascT : List (List Int) → Bool
  | a :: b :: l => ltI a b && ascT (b :: l)
  | _ => true
theorem ascT_zip : ∀ l : List (List Int), ((l.zip (l.drop 1)).map fun x => ltI x.1 x.2).all id = ascT l
  | [] => rfl
  | [a] => rfl
  | a :: b :: l => by
    show (ltI a b && (((b :: l).zip ((b :: l).drop 1)).map fun x => ltI x.1 x.2).all id) = _
    rw [ascT_zip (b :: l)]
    rfl
theorem ascT_iff : ∀ {l : List (List Int)}, ascT l = true ↔ l.Pairwise (fun a b => ltI a b = true)
  | [] => by simp [ascT]
  | [_] => by simp [ascT]
  | a :: b :: l => by
    have ih := ascT_iff (l := b :: l)
    show (ltI a b && ascT (b :: l)) = true ↔ _
    rw [Bool.and_eq_true, ih, List.pairwise_cons (a := a)]
    constructor
    · rintro ⟨h1, h2⟩
      refine ⟨fun y hy => ?_, h2⟩
      rcases List.mem_cons.mp hy with rfl | hy
      · exact h1
      · exact ltI_trans a b y h1 ((List.pairwise_cons.mp h2).1 y hy)
    · rintro ⟨h1, h2⟩
      exact ⟨h1 b (List.mem_cons_self ..), h2⟩
abbrev St := List Int × List (List Int)
def stD (s : St) : D := .tup [tupI s.1, .tup (s.2.map tupI)]
def stB (s : St) : Bool := ascI s.1 && (s.2.all ascI && ascT s.2)
theorem tups_cut1 (l : List (List Int)) : Pu.cutD (l.map tupI) (some 1) none = (l.drop 1).map tupI := by
  unfold Pu.cutD
  rw [show (some (1 : Int)) = some ((1 : Nat) : Int) from rfl, HT.sIx_nat, HT.sIx_none, List.length_map]
  cases l with
  | nil => rfl
  | cons a l =>
    rw [List.length_cons, Nat.min_eq_left (by omega), List.take_of_length_le (by rw [List.length_drop, List.length_map, List.length_cons]; omega), List.map_drop]
section
variable {K : PySem.W.Frag} {A : Adr}
structure SmS (s : St) : Prop where
  a : s.1.length ≤ 1000 ∧ Sm s.1
  n : s.2.length ≤ 5000
  b : ∀ l ∈ s.2, l.length ≤ 1000 ∧ Sm l
theorem is_state_row {s : St} (h : SmS s) {Q : D → Prop} {Z : ZX} (q : Q (.bl (stB s))) : G_is_state_row K A [stD s] Q Z := by
  have hn := h.n
  unfold G_is_state_row S_is_state_row stD
  have hk : ∀ ds, kdIs (kdD (D.tup ds)) "tuple" = true := fun _ => rfl
  simp only [fnS, Pu.startB, sSeq, sAsg, sIf, sRet, sNext, sNew, sApp, sPar, sDem, demB, fVar, fVarT, fC, fOp, fTst, fAnd, fOr, fNot, fNew, fLst, fTup, fNil, fCons, fSl, Pu.oAt, oNo, fCB, fCall, fIf, fChain, fRng1, fIt, fJoin, RLen, RI0, RAdd, RSl, RIsN, RTuple, gN, bD, List.map_cons, List.map_nil, List.cons_append, List.nil_append, List.length_cons, List.length_nil, List.replicate, Nat.reduceSub, Nat.reduceAdd, List.getElem?_cons_zero, List.getElem?_cons_succ, List.set_cons_zero, List.set_cons_succ, Option.some.injEq, B.val.injEq, D.int.injEq, D.bl.injEq, D.str.injEq, D.tup.injEq, D.lst.injEq, exists_eq_left', exists_eq_left, exists_and_left, ex_eq, true_and, and_true, List.cons.injEq, List.zip_cons_cons, List.zip_nil_right, List.foldl_cons, List.foldl_nil, wipeB, lenD, itD, Bool.not_true, Bool.not_false, Bool.false_eq_true, Bool.true_eq_false, if_true, if_false, ite_true, ite_false, D.dic.injEq, D.obj.injEq, and_assoc, List.map_map, fIsi, fLc, RAll, fZip, fAndV]
  refine ⟨trivial, ?_⟩
  rw [hk, if_neg (by decide)]
  refine ⟨_, rfl, ?_⟩
  rw [if_neg (by decide)]
  refine ⟨_, at0, ?_⟩
  refine is_rising (by have := h.a.1; omega) h.a.2 ⟨_, rfl, ?_⟩
  unfold stB at q
  cases c : ascI s.1 with
  | false =>
    rw [c] at q
    rw [if_pos (by rfl)]
    exact q
  | true =>
  rw [c] at q
  rw [if_neg (by decide)]
  refine ⟨_, at1, trivial, ?_⟩
  rw [hk, if_neg (by decide)]
  refine ⟨_, at1, _, rfl, by rw [List.length_map, sizeLine_eq]; omega, ?_⟩
  refine lc_map (f := fun l => D.bl (ascI l)) s.2 (fun l hl R r => ?_) ?_
  · simp only [fnS, Pu.startB, sSeq, sAsg, sIf, sRet, sNext, sNew, sApp, sPar, sDem, demB, fVar, fVarT, fC, fOp, fTst, fAnd, fOr, fNot, fNew, fLst, fTup, fNil, fCons, fSl, Pu.oAt, oNo, fCB, fCall, fIf, fChain, fRng1, fIt, fJoin, RLen, RI0, RAdd, RSl, RIsN, RTuple, gN, bD, List.map_cons, List.map_nil, List.cons_append, List.nil_append, List.length_cons, List.length_nil, List.replicate, Nat.reduceSub, Nat.reduceAdd, List.getElem?_cons_zero, List.getElem?_cons_succ, List.set_cons_zero, List.set_cons_succ, Option.some.injEq, B.val.injEq, D.int.injEq, D.bl.injEq, D.str.injEq, D.tup.injEq, D.lst.injEq, exists_eq_left', exists_eq_left, exists_and_left, ex_eq, true_and, and_true, List.cons.injEq, List.zip_cons_cons, List.zip_nil_right, List.foldl_cons, List.foldl_nil, wipeB, lenD, itD, Bool.not_true, Bool.not_false, Bool.false_eq_true, Bool.true_eq_false, if_true, if_false, ite_true, ite_false, D.dic.injEq, D.obj.injEq, and_assoc, List.map_map]
    exact is_rising (by have := (h.b l hl).1; omega) (h.b l hl).2 r
  refine ⟨_, bls_map _ s.2, ?_⟩
  rw [show (s.2.map ascI).all id = s.2.all ascI by rw [List.all_map]; rfl]
  cases c2 : s.2.all ascI with
  | false =>
    rw [c2] at q
    rw [if_pos (by rfl)]
    exact q
  | true =>
  rw [c2] at q
  rw [if_neg (by decide)]
  refine ⟨_, at1, _, at1, ?_⟩
  simp only [fnS, Pu.startB, sSeq, sAsg, sIf, sRet, sNext, sNew, sApp, sPar, sDem, demB, fVar, fVarT, fC, fOp, fTst, fAnd, fOr, fNot, fNew, fLst, fTup, fNil, fCons, fSl, Pu.oAt, oNo, fCB, fCall, fIf, fChain, fRng1, fIt, fJoin, RLen, RI0, RAdd, RSl, RIsN, RTuple, gN, bD, List.map_cons, List.map_nil, List.cons_append, List.nil_append, List.length_cons, List.length_nil, List.replicate, Nat.reduceSub, Nat.reduceAdd, List.getElem?_cons_zero, List.getElem?_cons_succ, List.set_cons_zero, List.set_cons_succ, Option.some.injEq, B.val.injEq, D.int.injEq, D.bl.injEq, D.str.injEq, D.tup.injEq, D.lst.injEq, exists_eq_left', exists_eq_left, exists_and_left, ex_eq, true_and, and_true, List.cons.injEq, List.zip_cons_cons, List.zip_nil_right, List.foldl_cons, List.foldl_nil, wipeB, lenD, itD, Bool.not_true, Bool.not_false, Bool.false_eq_true, Bool.true_eq_false, if_true, if_false, ite_true, ite_false, D.dic.injEq, D.obj.injEq, and_assoc, List.map_map]
  rw [tups_cut1]
  refine ⟨_, _, .inr ⟨rfl, rfl⟩, ?_⟩
  rw [pairs_map]
  refine ⟨by rw [List.length_map, List.length_zip, sizeLine_eq]; omega, ?_⟩
  refine lc_g (p := fun _ => true) (f := fun x : List Int × List Int => D.bl (ltI x.1 x.2)) (s.2.zip (s.2.drop 1)) (fun x hx => ⟨_, fun k hk => ⟨_, rfl, rfl, hk⟩, fun R r => r, fun _ R r => ?_⟩) ?_
  · simp only [fnS, Pu.startB, sSeq, sAsg, sIf, sRet, sNext, sNew, sApp, sPar, sDem, demB, fVar, fVarT, fC, fOp, fTst, fAnd, fOr, fNot, fNew, fLst, fTup, fNil, fCons, fSl, Pu.oAt, oNo, fCB, fCall, fIf, fChain, fRng1, fIt, fJoin, RLen, RI0, RAdd, RSl, RIsN, RTuple, gN, bD, List.map_cons, List.map_nil, List.cons_append, List.nil_append, List.length_cons, List.length_nil, List.replicate, Nat.reduceSub, Nat.reduceAdd, List.getElem?_cons_zero, List.getElem?_cons_succ, List.set_cons_zero, List.set_cons_succ, Option.some.injEq, B.val.injEq, D.int.injEq, D.bl.injEq, D.str.injEq, D.tup.injEq, D.lst.injEq, exists_eq_left', exists_eq_left, exists_and_left, ex_eq, true_and, and_true, List.cons.injEq, List.zip_cons_cons, List.zip_nil_right, List.foldl_cons, List.foldl_nil, wipeB, lenD, itD, Bool.not_true, Bool.not_false, Bool.false_eq_true, Bool.true_eq_false, if_true, if_false, ite_true, ite_false, D.dic.injEq, D.obj.injEq, and_assoc, List.map_map]
    exact ⟨x.1, x.2, rfl, rfl, r⟩
  · rw [List.filter_eq_self.mpr (fun _ _ => rfl)]
    refine ⟨_, bls_map _ _, ?_⟩
    rw [ascT_zip]
    exact q
/-- a state in which something is none -/
theorem is_state_row_no1 {d : D} {Q : D → Prop} {Z : ZX} (q : Q (.bl false)) : G_is_state_row K A [.tup [.non, d]] Q Z := by
  unfold G_is_state_row S_is_state_row
  have hk : ∀ ds, kdIs (kdD (D.tup ds)) "tuple" = true := fun _ => rfl
  simp only [fnS, Pu.startB, sSeq, sAsg, sIf, sRet, sNext, sNew, sApp, sPar, sDem, demB, fVar, fVarT, fC, fOp, fTst, fAnd, fOr, fNot, fNew, fLst, fTup, fNil, fCons, fSl, Pu.oAt, oNo, fCB, fCall, fIf, fChain, fRng1, fIt, fJoin, RLen, RI0, RAdd, RSl, RIsN, RTuple, gN, bD, List.map_cons, List.map_nil, List.cons_append, List.nil_append, List.length_cons, List.length_nil, List.replicate, Nat.reduceSub, Nat.reduceAdd, List.getElem?_cons_zero, List.getElem?_cons_succ, List.set_cons_zero, List.set_cons_succ, Option.some.injEq, B.val.injEq, D.int.injEq, D.bl.injEq, D.str.injEq, D.tup.injEq, D.lst.injEq, exists_eq_left', exists_eq_left, exists_and_left, ex_eq, true_and, and_true, List.cons.injEq, List.zip_cons_cons, List.zip_nil_right, List.foldl_cons, List.foldl_nil, wipeB, lenD, itD, Bool.not_true, Bool.not_false, Bool.false_eq_true, Bool.true_eq_false, if_true, if_false, ite_true, ite_false, D.dic.injEq, D.obj.injEq, and_assoc, List.map_map, fIsi, fLc, RAll, fZip, fAndV]
  refine ⟨trivial, ?_⟩
  rw [hk, if_neg (by decide)]
  refine ⟨_, rfl, ?_⟩
  rw [if_neg (by decide)]
  refine ⟨_, at0, ?_⟩
  refine is_rising_non ⟨_, rfl, ?_⟩
  rw [if_pos (by rfl)]
  exact q
def oD : Option (List Int) → D
  | none => .non
  | some l => tupI l
theorem is_state_row_no2 {l : List Int} (hl : l.length ≤ 1000 ∧ Sm l) {os : List (Option (List Int))} (hn : os.length ≤ 5000) (hs : ∀ l, some l ∈ os → l.length ≤ 1000 ∧ Sm l) (hno : none ∈ os) {Q : D → Prop} {Z : ZX} (q : Q (.bl false)) :
    G_is_state_row K A [.tup [tupI l, .tup (os.map oD)]] Q Z := by
  unfold G_is_state_row S_is_state_row
  have hk : ∀ ds, kdIs (kdD (D.tup ds)) "tuple" = true := fun _ => rfl
  simp only [fnS, Pu.startB, sSeq, sAsg, sIf, sRet, sNext, sNew, sApp, sPar, sDem, demB, fVar, fVarT, fC, fOp, fTst, fAnd, fOr, fNot, fNew, fLst, fTup, fNil, fCons, fSl, Pu.oAt, oNo, fCB, fCall, fIf, fChain, fRng1, fIt, fJoin, RLen, RI0, RAdd, RSl, RIsN, RTuple, gN, bD, List.map_cons, List.map_nil, List.cons_append, List.nil_append, List.length_cons, List.length_nil, List.replicate, Nat.reduceSub, Nat.reduceAdd, List.getElem?_cons_zero, List.getElem?_cons_succ, List.set_cons_zero, List.set_cons_succ, Option.some.injEq, B.val.injEq, D.int.injEq, D.bl.injEq, D.str.injEq, D.tup.injEq, D.lst.injEq, exists_eq_left', exists_eq_left, exists_and_left, ex_eq, true_and, and_true, List.cons.injEq, List.zip_cons_cons, List.zip_nil_right, List.foldl_cons, List.foldl_nil, wipeB, lenD, itD, Bool.not_true, Bool.not_false, Bool.false_eq_true, Bool.true_eq_false, if_true, if_false, ite_true, ite_false, D.dic.injEq, D.obj.injEq, and_assoc, List.map_map, fIsi, fLc, RAll, fZip, fAndV]
  refine ⟨trivial, ?_⟩
  rw [hk, if_neg (by decide)]
  refine ⟨_, rfl, ?_⟩
  rw [if_neg (by decide)]
  refine ⟨_, at0, ?_⟩
  refine is_rising (by omega) hl.2 ⟨_, rfl, ?_⟩
  cases c : ascI l with
  | false =>
    rw [if_pos (by rfl)]
    exact q
  | true =>
  rw [if_neg (by decide)]
  refine ⟨_, at1, trivial, ?_⟩
  rw [hk, if_neg (by decide)]
  refine ⟨_, at1, _, rfl, by rw [List.length_map, sizeLine_eq]; omega, ?_⟩
  let f : Option (List Int) → Bool := fun o => match o with | none => false | some l => ascI l
  refine lc_map (f := fun o => D.bl (f o)) os (fun o ho R r => ?_) ?_
  · simp only [fnS, Pu.startB, sSeq, sAsg, sIf, sRet, sNext, sNew, sApp, sPar, sDem, demB, fVar, fVarT, fC, fOp, fTst, fAnd, fOr, fNot, fNew, fLst, fTup, fNil, fCons, fSl, Pu.oAt, oNo, fCB, fCall, fIf, fChain, fRng1, fIt, fJoin, RLen, RI0, RAdd, RSl, RIsN, RTuple, gN, bD, List.map_cons, List.map_nil, List.cons_append, List.nil_append, List.length_cons, List.length_nil, List.replicate, Nat.reduceSub, Nat.reduceAdd, List.getElem?_cons_zero, List.getElem?_cons_succ, List.set_cons_zero, List.set_cons_succ, Option.some.injEq, B.val.injEq, D.int.injEq, D.bl.injEq, D.str.injEq, D.tup.injEq, D.lst.injEq, exists_eq_left', exists_eq_left, exists_and_left, ex_eq, true_and, and_true, List.cons.injEq, List.zip_cons_cons, List.zip_nil_right, List.foldl_cons, List.foldl_nil, wipeB, lenD, itD, Bool.not_true, Bool.not_false, Bool.false_eq_true, Bool.true_eq_false, if_true, if_false, ite_true, ite_false, D.dic.injEq, D.obj.injEq, and_assoc, List.map_map]
    cases o with
    | none => exact is_rising_non r
    | some l => exact is_rising (by have := (hs l ho).1; omega) (hs l ho).2 r
  refine ⟨_, bls_map _ os, ?_⟩
  have : (os.map f).all id = false := by
    rw [← Bool.not_eq_true, List.all_eq_true]
    intro h
    have := h false (List.mem_map.mpr ⟨none, hno, rfl⟩)
    cases this
  rw [this, if_pos (by rfl)]
  exact q
end
end K70
set_option Elab.async false
set_option maxRecDepth 100000
set_option maxHeartbeats 1000000
set_option linter.all false
set_option pp.maxSteps 2500
namespace K70
open PySem PySem.Spec PyProof.Rows L2 Ly Pu TM
theorem dig_lt : ∀ (n : Nat) (cs : List Nat), cs.length = n → PySem.NumText.AllDigits cs → PySem.NumText.digitsVal cs < 10 ^ n
  | 0, cs, h, _ => by
    rw [List.length_eq_zero_iff.mp h]
    decide
  | n + 1, cs, h, hd => by
    rcases List.eq_nil_or_concat cs with e | ⟨l, c, e⟩
    · rw [e] at h; cases h
    · rw [List.concat_eq_append] at e
      subst e
      rw [List.length_append, List.length_singleton] at h
      have hc := hd c (List.mem_append_right _ (List.mem_singleton.mpr rfl))
      have ih := dig_lt n l (by omega) fun x hx => hd x (List.mem_append_left _ hx)
      rw [PySem.NumText.digitsVal_snoc, Nat.pow_succ]
      omega
theorem num_lt {w : Str} {k : Nat} (h : numF w = some k) : (0 : Int) ≤ (k : Int) ∧ (k : Int) < Big := by
  unfold numF at h
  cases c : numB w with
  | false => rw [c] at h; cases h
  | true =>
    rw [c, if_pos rfl] at h
    cases h
    obtain ⟨d1, d2, d3⟩ := num_digits c
    have := dig_lt _ _ rfl d1
    have h2 : 10 ^ (lab w).length ≤ 10 ^ 60 := Nat.pow_le_pow_right (by decide) (by rw [← len_lab]; exact d3)
    refine ⟨by omega, ?_⟩
    unfold Big
    have h3 : ((10 ^ 60 : Nat) : Int) = 10 ^ 60 := by decide +kernel
    omega
theorem mapM_sm : ∀ {ws : List Str} {l : List Nat}, ws.mapM numF = some l → l.length = ws.length ∧ Sm (nI l)
  | [], l, h => by cases h; exact ⟨rfl, fun i hi => by cases hi⟩
  | w :: ws, l, h => by
    rw [List.mapM_cons] at h
    cases c : numF w with
    | none => rw [c] at h; cases h
    | some k =>
      rw [c] at h
      cases c2 : ws.mapM numF with
      | none => rw [c2] at h; cases h
      | some r =>
        rw [c2] at h
        cases h
        obtain ⟨h1, h2⟩ := mapM_sm c2
        refine ⟨by rw [List.length_cons, List.length_cons, h1], fun i hi => ?_⟩
        rcases List.mem_cons.mp (show i ∈ (k : Int) :: nI r from hi) with e | e
        · rw [e]; exact num_lt c
        · exact h2 i e
theorem nums_sm {z : Str} (hz : z.length ≤ 900) {l : List Nat} (h : numsF z = some l) : (nI l).length ≤ 1000 ∧ Sm (nI l) := by
  unfold numsF at h
  by_cases e : z = "-"
  · rw [if_pos e] at h
    cases h
    exact ⟨by decide, fun i hi => by cases hi⟩
  · rw [if_neg e] at h
    obtain ⟨h1, h2⟩ := mapM_sm h
    have := (split_parts z " " (by decide)).1
    exact ⟨by rw [nI, List.length_map]; omega, h2⟩
def clsF (b : Str) : List (Option (List Nat)) := if b = "none" then [] else (Txt.split b "; ").map numsF
def stF (z : Str) : Option St := match Txt.split z " | " with
  | [a, b] => match numsF a, (clsF b).mapM id with
    | some l, some ks => if stB (nI l, ks.map nI) = true then some (nI l, ks.map nI) else none
    | _, _ => none
  | _ => none
def opS : Option St → D
  | none => .non
  | some s => stD s
theorem opN_oD (o : Option (List Nat)) : opN o = oD (o.map nI) := by cases o <;> rfl
theorem mapM_id_some : ∀ {os : List (Option (List Nat))} {ks : List (List Nat)}, os.mapM id = some ks → os = ks.map some
  | [], ks, h => by cases h; rfl
  | none :: os, ks, h => by rw [List.mapM_cons] at h; cases h
  | some k :: os, ks, h => by
    rw [List.mapM_cons] at h
    cases c : os.mapM id with
    | none =>
      rw [c] at h
      cases h
    | some r =>
      rw [c] at h
      cases h
      rw [mapM_id_some c]
      rfl
theorem mapM_id_none : ∀ {os : List (Option (List Nat))}, os.mapM id = none → none ∈ os
  | [], h => by cases h
  | none :: os, _ => List.mem_cons_self ..
  | some k :: os, h => by
    rw [List.mapM_cons] at h
    cases c : os.mapM id with
    | none => exact List.mem_cons_of_mem _ (mapM_id_none c)
    | some r =>
      rw [c] at h
      cases h
section
variable {K : PySem.W.Frag} {A : Adr}
theorem cls_sm {b : Str} (hb : b.length ≤ 900) : (clsF b).length ≤ 1000 ∧ ∀ l, some l ∈ clsF b → (nI l).length ≤ 1000 ∧ Sm (nI l) := by
  unfold clsF
  by_cases e : b = "none"
  · rw [if_pos e]
    exact ⟨Nat.zero_le _, fun l h => by cases h⟩
  · rw [if_neg e]
    obtain ⟨p1, p2⟩ := split_parts b "; " (by decide)
    refine ⟨by rw [List.length_map]; omega, fun l h => ?_⟩
    obtain ⟨w, hw, e2⟩ := List.mem_map.mp h
    exact nums_sm (by have := p2 w hw; omega) e2
theorem ne_int {a b : Int} {Q : D → Prop} : RNe (.int a) (.int b) Q = Q (.bl (!decide (a = b))) := rfl
theorem opN_map (os : List (Option (List Nat))) : os.map opN = (os.map (Option.map nI)).map oD := by
  rw [List.map_map]
  exact List.map_congr_left fun o _ => opN_oD o
/-- the state that two halves tell -/
def stF2 (a b : Str) : Option St := match numsF a, (clsF b).mapM id with
  | some l, some ks => if stB (nI l, ks.map nI) = true then some (nI l, ks.map nI) else none
  | _, _ => none
theorem stF_eq {z a b : Str} (h : Txt.split z " | " = [a, b]) : stF z = stF2 a b := by
  unfold stF stF2
  rw [h]
theorem stF_ne {z : Str} (h : (Txt.split z " | ").length ≠ 2) : stF z = none := by
  unfold stF
  split
  · rename_i e
    rw [e] at h
    exact absurd rfl h
  · rfl
theorem st_end {a b : Str} (ha : a.length ≤ 900) (hb : b.length ≤ 900) {Q : D → Prop} {Z : ZX} (q : Q (opS (stF2 a b))) : G_is_state_row K A [.tup [opN (numsF a), .tup ((clsF b).map opN)]] (fun d => ∃ c, d = .bl c ∧ if c = true then Q (.tup [opN (numsF a), .tup ((clsF b).map opN)]) else Q .non) Z := by
  obtain ⟨c1, c2⟩ := cls_sm hb
  unfold stF2 at q
  cases e : numsF a with
  | none =>
    rw [e] at q
    exact is_state_row_no1 ⟨_, rfl, by rw [if_neg (by decide)]; exact q⟩
  | some l =>
    have hl := nums_sm ha e
    rw [e] at q
    cases e2 : (clsF b).mapM id with
    | none =>
      rw [e2] at q
      rw [opN_map]
      refine is_state_row_no2 (l := nI l) hl (by rw [List.length_map]; omega) (fun x hx => ?_) (List.mem_map.mpr ⟨none, mapM_id_none e2, rfl⟩) ⟨_, rfl, by rw [if_neg (by decide)]; exact q⟩
      obtain ⟨o, ho, eo⟩ := List.mem_map.mp hx
      cases o with
      | none => cases eo
      | some k =>
        cases eo
        exact c2 k ho
    | some ks =>
      rw [e2] at q
      have ek := mapM_id_some e2
      have e3 : (clsF b).map opN = (ks.map nI).map tupI := by rw [ek, List.map_map, List.map_map]; rfl
      rw [e3]
      refine is_state_row (s := (nI l, ks.map nI)) ⟨hl, by rw [List.length_map]; have := c1; rw [ek, List.length_map] at this; omega, fun x hx => ?_⟩ ⟨_, rfl, ?_⟩
      · obtain ⟨k, hk, rfl⟩ := List.mem_map.mp hx
        exact c2 k (by rw [ek]; exact List.mem_map.mpr ⟨k, hk, rfl⟩)
      · dsimp only at q
        cases c : stB (nI l, ks.map nI) with
        | true =>
          rw [c, if_pos rfl] at q
          rw [if_pos rfl]
          exact q
        | false =>
          rw [c, if_neg (by decide)] at q
          rw [if_neg (by decide)]
          exact q
theorem state_of {z : Str} (hz : z.length ≤ 900) {Q : D → Prop} {Z : ZX} (q : Q (opS (stF z))) : G_state_of K A [.str z] Q Z := by
  obtain ⟨p1, p2⟩ := split_parts z " | " (by decide)
  unfold G_state_of S_state_of
  simp only [fnS, Pu.startB, sSeq, sAsg, sIf, sRet, sNext, sNew, sApp, sPar, sDem, demB, fVar, fVarT, fC, fOp, fTst, fAnd, fOr, fNot, fNew, fLst, fTup, fNil, fCons, fSl, Pu.oAt, oNo, fCB, fCall, fIf, fChain, fRng1, fIt, fJoin, RLen, RI0, RAdd, RSl, RIsN, RTuple, gN, bD, List.map_cons, List.map_nil, List.cons_append, List.nil_append, List.length_cons, List.length_nil, List.replicate, Nat.reduceSub, Nat.reduceAdd, List.getElem?_cons_zero, List.getElem?_cons_succ, List.set_cons_zero, List.set_cons_succ, Option.some.injEq, B.val.injEq, D.int.injEq, D.bl.injEq, D.str.injEq, D.tup.injEq, D.lst.injEq, exists_eq_left', exists_eq_left, exists_and_left, ex_eq, true_and, and_true, List.cons.injEq, List.zip_cons_cons, List.zip_nil_right, List.foldl_cons, List.foldl_nil, wipeB, lenD, itD, Bool.not_true, Bool.not_false, Bool.false_eq_true, Bool.true_eq_false, if_true, if_false, ite_true, ite_false, D.dic.injEq, D.obj.injEq, and_assoc, List.map_map, fSplit, fLc]
  refine ⟨by decide, by rw [sizeLine_eq]; omega, by rw [sizeLine_eq]; omega, ?_⟩
  rw [ne_int, List.length_map]
  refine ⟨_, rfl, ?_⟩
  by_cases h2 : (Txt.split z " | ").length = 2
  · obtain ⟨a, b, e⟩ : ∃ a b, Txt.split z " | " = [a, b] := by
      match h : Txt.split z " | ", h2 with
      | [a, b], _ => exact ⟨a, b, rfl⟩
    rw [stF_eq e] at q
    rw [e] at p2 ⊢
    have ha : a.length ≤ 900 := by have := p2 a (List.mem_cons_self ..); omega
    have hb : b.length ≤ 900 := by have := p2 b (List.mem_cons_of_mem _ (List.mem_cons_self ..)); omega
    rw [show decide ((([a, b] : List Str).length : Int) = 2) = true from rfl, if_neg (by decide)]
    have fin := st_end (K := K) (A := A) (Z := Z) ha hb q
    refine ⟨_, at1, ?_⟩
    show RNe (.str b) (.str "none") _
    rw [ne_str]
    refine ⟨_, rfl, ?_⟩
    obtain ⟨r1, r2⟩ := split_parts b "; " (by decide)
    by_cases h3 : b = "none"
    · rw [decide_eq_true h3, if_neg (by decide)]
      refine ⟨Nat.zero_le _, _, at0, ?_⟩
      refine numbers_of (by omega) ⟨_, rfl, by rw [sizeLine_eq]; decide, ?_⟩
      have e0 : clsF b = [] := by unfold clsF; rw [if_pos h3]
      rw [e0] at fin
      exact fin
    · rw [decide_eq_false h3, if_pos (by decide)]
      refine ⟨_, at1, _, rfl, by decide, by rw [sizeLine_eq]; omega, by rw [sizeLine_eq]; omega, by rw [List.length_map, sizeLine_eq]; omega, ?_⟩
      refine lc_map (f := fun w => opN (numsF w)) (Txt.split b "; ") (fun w hw R r => ?_) ?_
      · simp only [fnS, Pu.startB, sSeq, sAsg, sIf, sRet, sNext, sNew, sApp, sPar, sDem, demB, fVar, fVarT, fC, fOp, fTst, fAnd, fOr, fNot, fNew, fLst, fTup, fNil, fCons, fSl, Pu.oAt, oNo, fCB, fCall, fIf, fChain, fRng1, fIt, fJoin, RLen, RI0, RAdd, RSl, RIsN, RTuple, gN, bD, List.map_cons, List.map_nil, List.cons_append, List.nil_append, List.length_cons, List.length_nil, List.replicate, Nat.reduceSub, Nat.reduceAdd, List.getElem?_cons_zero, List.getElem?_cons_succ, List.set_cons_zero, List.set_cons_succ, Option.some.injEq, B.val.injEq, D.int.injEq, D.bl.injEq, D.str.injEq, D.tup.injEq, D.lst.injEq, exists_eq_left', exists_eq_left, exists_and_left, ex_eq, true_and, and_true, List.cons.injEq, List.zip_cons_cons, List.zip_nil_right, List.foldl_cons, List.foldl_nil, wipeB, lenD, itD, Bool.not_true, Bool.not_false, Bool.false_eq_true, Bool.true_eq_false, if_true, if_false, ite_true, ite_false, D.dic.injEq, D.obj.injEq, and_assoc, List.map_map]
        exact numbers_of (by have := r2 w hw; omega) r
      refine ⟨_, at0, ?_⟩
      refine numbers_of (by omega) ⟨_, rfl, by rw [sizeLine_eq]; decide, ?_⟩
      have e0 : (clsF b).map opN = (Txt.split b "; ").map fun w => opN (numsF w) := by unfold clsF; rw [if_neg h3, List.map_map]; rfl
      rw [e0] at fin
      exact fin
  · rw [stF_ne h2] at q
    rw [if_pos (by rw [decide_eq_false (by omega)]; rfl)]
    exact q
end
end K70
set_option Elab.async false
set_option maxRecDepth 100000
set_option maxHeartbeats 1000000
set_option linter.all false
set_option pp.maxSteps 3500
namespace K70
open PySem PySem.Spec PyProof.Rows L2 Ly Pu TM
theorem oD_lay : ∀ o : Option (List Int), (toP (oD o)).canLay0 = true ∧ (toP (oD o)).depth ≤ 1
  | none => ⟨by simp [oD, toP, PyData.canLay0], by simp [oD, toP, PyData.depth]⟩
  | some l => by
    obtain ⟨a, b⟩ := int_lay l
    show (PyData.tuple (toPs (l.map D.int))).canLay0 = true ∧ (PyData.tuple (toPs (l.map D.int))).depth ≤ 1
    rw [ints_eqv]
    simp only [PyData.canLay0, PyData.depth, a]
    exact ⟨trivial, by omega⟩
theorem os_lay : ∀ os : List (Option (List Int)), PyData.canLayAll0 (toPs (os.map oD)) = true ∧ PyData.depthAll (toPs (os.map oD)) ≤ 1
  | [] => ⟨by simp [toPs, PyData.canLayAll0], by simp [toPs, PyData.depthAll]⟩
  | o :: os => by
    obtain ⟨a, b⟩ := os_lay os
    obtain ⟨c, d⟩ := oD_lay o
    show PyData.canLayAll0 (toP (oD o) :: toPs (os.map oD)) = true ∧ PyData.depthAll (toP (oD o) :: toPs (os.map oD)) ≤ 1
    simp only [PyData.canLayAll0, PyData.depthAll, a, c]
    exact ⟨rfl, by omega⟩
theorem os_shp (os : List (Option (List Int))) : shp (.lst (os.map oD)) := by
  obtain ⟨a, b⟩ := os_lay os
  show SeqAt.shaped (.list (toPs (os.map oD))) = true
  unfold SeqAt.shaped
  simp only [PyData.canLay0, PyData.depth, a, Bool.true_and]
  exact decide_eq_true (by omega)
theorem ne_onil {os : List (Option (List Int))} {Q : D → Prop} (q : Q (.bl (!os.isEmpty))) : RNe (.lst (os.map oD)) (.lst []) Q := ⟨os_shp os, os_shp [], by
  cases os with
  | nil => exact q
  | cons o os => exact q⟩
theorem tups_eqv : ∀ a b : List (List Int), PyData.eqvAll (toPs (a.map tupI)) (toPs (b.map tupI)) = decide (a = b)
  | [], [] => by simp [toPs, PyData.eqvAll]
  | [], _ :: _ => by simp [toPs, PyData.eqvAll]
  | _ :: _, [] => by simp [toPs, PyData.eqvAll]
  | x :: a, y :: b => by
    show PyData.eqvAll (PyData.tuple (toPs (x.map D.int)) :: toPs (a.map tupI)) (PyData.tuple (toPs (y.map D.int)) :: toPs (b.map tupI)) = _
    simp only [PyData.eqvAll]
    rw [tups_eqv a b]
    have e : PyData.eqv (.tuple (toPs (x.map D.int))) (.tuple (toPs (y.map D.int))) = decide (x = y) := by
      simp only [PyData.eqv]
      rw [ints_eqv, ints_eqv, ints_eq]
    rw [e, Bool.eq_iff_iff]
    simp
theorem ne_tups {a b : List (List Int)} {Q : D → Prop} (q : Q (.bl (!decide (a = b)))) : RNe (.lst (a.map tupI)) (.lst (b.map tupI)) Q := by
  have h : ∀ l : List (List Int), shp (.lst (l.map tupI)) := fun l => by
    have := os_shp (l.map some)
    rw [List.map_map] at this
    exact this
  refine ⟨h a, h b, ?_⟩
  show Q (.bl (!PyData.eqvAll (toPs (a.map tupI)) (toPs (b.map tupI))))
  rw [tups_eqv]
  exact q
theorem join_three : ∀ l : List Str, (∀ w ∈ l, 1 ≤ w.length) → 3 * l.length ≤ (Str.join "; " l).length + 2
  | [], _ => by decide
  | [x], h => by
    have := h x (List.mem_cons_self ..)
    show 3 * 1 ≤ x.length + 2
    omega
  | x :: y :: l, h => by
    have ih := join_three (y :: l) fun w hw => h w (List.mem_cons_of_mem _ hw)
    have := h x (List.mem_cons_self ..)
    have e : (Str.join "; " (x :: y :: l)).length = x.length + 2 + (Str.join "; " (y :: l)).length := by
      show (x ++ "; " ++ Str.join "; " (y :: l)).length = _
      rw [Str.length_append, Str.length_append]
      rfl
    rw [e, List.length_cons]
    omega
theorem cls_few {b : Str} (hb : b.length ≤ 180) (h : none ∉ clsF b) : (clsF b).length < 64 := by
  unfold clsF at h ⊢
  by_cases e : b = "none"
  · rw [if_pos e]
    decide
  · rw [if_neg e] at h ⊢
    rw [List.length_map]
    have := join_three (Txt.split b "; ") fun w hw => by
      cases c : w.length with
      | succ n => omega
      | zero =>
        have e0 : w = "" := lab_inj (by
          have : (lab w).length = 0 := by rw [← len_lab, c]
          rw [List.length_eq_zero_iff.mp this]
          decide +kernel)
        exact absurd (List.mem_map.mpr ⟨w, hw, by rw [e0]; decide +kernel⟩) h
    rw [StrLaws.join_split] at this
    omega
def risO : Option (List Int) → Bool
  | none => false
  | some l => ascI l
section
variable {K : PySem.W.Frag} {A : Adr}
theorem due_end {a b : Str} (ha : a.length ≤ 180) (hb : b.length ≤ 180) {v0 v1 v2 : B} {Q : D → Prop} (q : Q (opS (stF2 a b))) :
    lcD (gN 3) (fNot (fTst (fCall (G_is_rising' K A) 1 (fCons (fVar 3) fNil)))) (fVar 3) [v0, v1, v2, .un, .val (opN (numsF a))] ((clsF b).map opN ++ [opN (numsF a)]) fun ds_1 =>
      0 ≤ sizeLine ∧ RNe (.lst ds_1) (.lst []) fun d_1 => ∃ c, d_1 = .bl c ∧ if c = true then Q .non else ∃ ks : List (List Int), (clsF b).map opN = ks.map tupI ∧ ks.length < 64 ∧
        ∀ ys : List (List Int), ys.Pairwise (fun a b => ltI a b = true) → (∀ k, k ∈ ys ↔ k ∈ ks) → ys.length < 64 → RNe (.lst ((clsF b).map opN)) (.lst (ys.map tupI)) fun d_2 => ∃ c, d_2 = .bl c ∧ if c = true then Q .non else
          ∃ x, seqD (.lst ((clsF b).map opN)) = some x ∧ 2 ≤ sizeLine ∧ Q (.tup [opN (numsF a), .tup x]) := by
  obtain ⟨c1, c2⟩ := cls_sm (b := b) (by omega)
  have e1 : (clsF b).map opN ++ [opN (numsF a)] = ((clsF b).map (Option.map nI) ++ [(numsF a).map nI]).map oD := by
    rw [List.map_append, ← opN_map, opN_oD]
    rfl
  rw [e1]
  refine lc_fil (p := fun o => !risO o) (f := oD) ((clsF b).map (Option.map nI) ++ [(numsF a).map nI]) (fun o ho R r => ?_) (fun o _ _ R r => ⟨_, rfl, r⟩) ?_
  · simp only [fnS, Pu.startB, sSeq, sAsg, sIf, sRet, sNext, sNew, sApp, sPar, sDem, demB, fVar, fVarT, fC, fOp, fTst, fAnd, fOr, fNot, fNew, fLst, fTup, fNil, fCons, fSl, Pu.oAt, oNo, fCB, fCall, fIf, fChain, fRng1, fIt, fJoin, RLen, RI0, RAdd, RSl, RIsN, RTuple, gN, bD, List.map_cons, List.map_nil, List.cons_append, List.nil_append, List.length_cons, List.length_nil, List.replicate, Nat.reduceSub, Nat.reduceAdd, List.getElem?_cons_zero, List.getElem?_cons_succ, List.set_cons_zero, List.set_cons_succ, Option.some.injEq, B.val.injEq, D.int.injEq, D.bl.injEq, D.str.injEq, D.tup.injEq, D.lst.injEq, exists_eq_left', exists_eq_left, exists_and_left, ex_eq, true_and, and_true, List.cons.injEq, List.zip_cons_cons, List.zip_nil_right, List.foldl_cons, List.foldl_nil, wipeB, lenD, itD, Bool.not_true, Bool.not_false, Bool.false_eq_true, Bool.true_eq_false, if_true, if_false, ite_true, ite_false, D.dic.injEq, D.obj.injEq, and_assoc, List.map_map]
    have hlen : ∀ l, o = some l → l.length ≤ 1000 := fun l e => by
      subst e
      rcases List.mem_append.mp ho with h | h
      · obtain ⟨x, hx, e⟩ := List.mem_map.mp h
        cases x with
        | none => cases e
        | some k =>
          cases e
          exact (c2 k hx).1
      · have e := List.mem_singleton.mp h
        cases c : numsF a with
        | none => rw [c] at e; cases e
        | some k =>
          rw [c] at e
          cases e
          exact (nums_sm (by omega) c).1
    cases o with
    | none => exact is_rising_non' ⟨_, rfl, r⟩
    | some l => exact is_rising' (hlen l rfl) ⟨_, rfl, r⟩
  refine ⟨Nat.zero_le _, ne_onil ⟨_, rfl, ?_⟩⟩
  unfold stF2 at q
  cases hf : (((clsF b).map (Option.map nI) ++ [(numsF a).map nI]).filter fun o => !risO o).isEmpty with
  | false =>
    rw [if_pos (by rfl)]
    -- something is none, or does not rise
    have bad : ∃ o ∈ (clsF b).map (Option.map nI) ++ [(numsF a).map nI], risO o = false := by
      cases e : ((clsF b).map (Option.map nI) ++ [(numsF a).map nI]).filter fun o => !risO o with
      | nil => rw [e] at hf; cases hf
      | cons o os =>
        have := List.mem_filter.mp (show o ∈ ((clsF b).map (Option.map nI) ++ [(numsF a).map nI]).filter fun o => !risO o by rw [e]; exact List.mem_cons_self ..)
        exact ⟨o, this.1, by have := this.2; simpa using this⟩
    obtain ⟨o, ho, hr⟩ := bad
    cases n1 : numsF a with
    | none => rw [n1] at q; exact q
    | some l =>
      cases n2 : (clsF b).mapM id with
      | none => rw [n1, n2] at q; exact q
      | some ks =>
        rw [n1, n2] at q
        have hb : stB (nI l, ks.map nI) = false := by
          have ek := mapM_id_some n2
          rw [n1, ek] at ho
          unfold stB
          rcases List.mem_append.mp ho with h | h
          · obtain ⟨x, hx, e⟩ := List.mem_map.mp h
            obtain ⟨k, hk, rfl⟩ := List.mem_map.mp hx
            subst e
            have : (ks.map nI).all ascI = false := by
              rw [← Bool.not_eq_true, List.all_eq_true]
              intro z
              have z := z (nI k) (List.mem_map.mpr ⟨k, hk, rfl⟩)
              rw [show ascI (nI k) = false from hr] at z
              cases z
            rw [this, Bool.false_and, Bool.and_false]
          · have e := List.mem_singleton.mp h
            subst e
            rw [show ascI (nI l) = false from hr]
            rfl
        dsimp only at q
        rw [hb, if_neg (by decide)] at q
        exact q
  | true =>
    rw [if_neg (by decide)]
    have good : ∀ o ∈ (clsF b).map (Option.map nI) ++ [(numsF a).map nI], risO o = true := fun o ho => by
      have := List.filter_eq_nil_iff.mp (List.isEmpty_iff.mp hf) o ho
      simpa using this
    cases n1 : numsF a with
    | none =>
      have := good none (List.mem_append_right _ (by rw [n1]; exact List.mem_singleton.mpr rfl))
      cases this
    | some l =>
      cases n2 : (clsF b).mapM id with
      | none =>
        have := good none (List.mem_append_left _ (List.mem_map.mpr ⟨none, mapM_id_none n2, rfl⟩))
        cases this
      | some ks =>
        rw [n1, n2] at q
        have ek := mapM_id_some n2
        have g1 : ascI (nI l) = true := good (some (nI l)) (List.mem_append_right _ (by rw [n1]; exact List.mem_singleton.mpr rfl))
        have g2 : (ks.map nI).all ascI = true := by
          rw [List.all_eq_true]
          intro x hx
          obtain ⟨k, hk, rfl⟩ := List.mem_map.mp hx
          exact good (some (nI k)) (List.mem_append_left _ (List.mem_map.mpr ⟨some k, by rw [ek]; exact List.mem_map.mpr ⟨k, hk, rfl⟩, rfl⟩))
        have e3 : (clsF b).map opN = (ks.map nI).map tupI := by rw [ek, List.map_map, List.map_map]; rfl
        have few : (ks.map nI).length < 64 := by
          have := cls_few hb (by rw [ek]; intro z; obtain ⟨_, _, z⟩ := List.mem_map.mp z; cases z)
          rw [ek, List.length_map] at this
          rw [List.length_map]
          exact this
        refine ⟨ks.map nI, e3, few, fun ys pw hm hl => ?_⟩
        rw [e3]
        refine ne_tups ⟨_, rfl, ?_⟩
        have e4 : decide (ks.map nI = ys) = ascT (ks.map nI) := by
          rw [Bool.eq_iff_iff, decide_eq_true_iff, ascT_iff]
          constructor
          · intro h
            rw [h]
            exact pw
          · intro h
            exact rise_uniq (r := fun a b => ltI a b = true) (fun a z => by rw [ltI_irrefl] at z; cases z) (fun a b h1 h2 => by rw [ltI_asym h1] at h2; cases h2) h pw fun k => (hm k).symm
        rw [e4]
        have e5 : stB (nI l, ks.map nI) = ascT (ks.map nI) := by
          unfold stB
          rw [g1, g2]
          rfl
        dsimp only at q
        rw [e5] at q
        cases c : ascT (ks.map nI) with
        | false =>
          rw [c, if_neg (by decide)] at q
          rw [if_pos (by rfl)]
          exact q
        | true =>
          rw [c, if_pos rfl] at q
          rw [if_neg (by decide)]
          exact ⟨_, rfl, by rw [sizeLine_eq]; decide, q⟩
theorem due_state {z : Str} (hz : z.length ≤ 180) (ho : PyData.strOk z = true) {Q : D → Prop} {Z : ZX} (q : Q (opS (stF z))) : G_due_state K A [.str z] Q Z := by
  obtain ⟨p1, p2⟩ := split_parts z " | " (by decide)
  have po := split_ok (y := " | ") ho
  unfold G_due_state S_due_state
  simp only [fnS, Pu.startB, sSeq, sAsg, sIf, sRet, sNext, sNew, sApp, sPar, sDem, demB, fVar, fVarT, fC, fOp, fTst, fAnd, fOr, fNot, fNew, fLst, fTup, fNil, fCons, fSl, Pu.oAt, oNo, fCB, fCall, fIf, fChain, fRng1, fIt, fJoin, RLen, RI0, RAdd, RSl, RIsN, RTuple, gN, bD, List.map_cons, List.map_nil, List.cons_append, List.nil_append, List.length_cons, List.length_nil, List.replicate, Nat.reduceSub, Nat.reduceAdd, List.getElem?_cons_zero, List.getElem?_cons_succ, List.set_cons_zero, List.set_cons_succ, Option.some.injEq, B.val.injEq, D.int.injEq, D.bl.injEq, D.str.injEq, D.tup.injEq, D.lst.injEq, exists_eq_left', exists_eq_left, exists_and_left, ex_eq, true_and, and_true, List.cons.injEq, List.zip_cons_cons, List.zip_nil_right, List.foldl_cons, List.foldl_nil, wipeB, lenD, itD, Bool.not_true, Bool.not_false, Bool.false_eq_true, Bool.true_eq_false, if_true, if_false, ite_true, ite_false, D.dic.injEq, D.obj.injEq, and_assoc, List.map_map, fSplit, fLc, fSortSetT]
  refine ⟨by decide, by rw [sizeLine_eq]; omega, by rw [sizeLine_eq]; omega, ?_⟩
  rw [ne_int, List.length_map]
  refine ⟨_, rfl, ?_⟩
  by_cases h2 : (Txt.split z " | ").length = 2
  · obtain ⟨a, b, e⟩ : ∃ a b, Txt.split z " | " = [a, b] := by
      match h : Txt.split z " | ", h2 with
      | [a, b], _ => exact ⟨a, b, rfl⟩
    rw [stF_eq e] at q
    rw [e] at p2 po ⊢
    rw [show decide ((([a, b] : List Str).length : Int) = 2) = true from rfl, if_neg (by decide)]
    have ha : a.length ≤ 180 := by have := p2 a (List.mem_cons_self ..); omega
    have hb : b.length ≤ 180 := by have := p2 b (List.mem_cons_of_mem _ (List.mem_cons_self ..)); omega
    have oa := po a (List.mem_cons_self ..)
    have ob := po b (List.mem_cons_of_mem _ (List.mem_cons_self ..))
    refine ⟨_, at1, ?_⟩
    show RNe (.str b) (.str "none") _
    rw [ne_str]
    refine ⟨_, rfl, ?_⟩
    obtain ⟨r1, r2⟩ := split_parts b "; " (by decide)
    have ro := split_ok (y := "; ") ob
    by_cases h3 : b = "none"
    · rw [decide_eq_true h3, if_neg (by decide)]
      refine ⟨Nat.zero_le _, _, at0, ?_⟩
      refine due_numbers (by omega) oa ⟨by rw [sizeLine_eq]; decide, by rw [sizeLine_eq]; decide, by rw [sizeLine_eq]; decide, ?_⟩
      have fin := due_end (K := K) (A := A) (v0 := .val (.str z)) (v1 := .val (.lst ([a, b].map D.str))) (v2 := .val (.lst [])) ha hb q
      have e0 : clsF b = [] := by unfold clsF; rw [if_pos h3]
      rw [e0] at fin
      exact fin
    · rw [decide_eq_false h3, if_pos (by decide)]
      refine ⟨_, at1, _, rfl, by decide, by rw [sizeLine_eq]; omega, by rw [sizeLine_eq]; omega, by rw [List.length_map, sizeLine_eq]; omega, ?_⟩
      refine lc_map (f := fun w => opN (numsF w)) (Txt.split b "; ") (fun w hw R r => ?_) ?_
      · simp only [fnS, Pu.startB, sSeq, sAsg, sIf, sRet, sNext, sNew, sApp, sPar, sDem, demB, fVar, fVarT, fC, fOp, fTst, fAnd, fOr, fNot, fNew, fLst, fTup, fNil, fCons, fSl, Pu.oAt, oNo, fCB, fCall, fIf, fChain, fRng1, fIt, fJoin, RLen, RI0, RAdd, RSl, RIsN, RTuple, gN, bD, List.map_cons, List.map_nil, List.cons_append, List.nil_append, List.length_cons, List.length_nil, List.replicate, Nat.reduceSub, Nat.reduceAdd, List.getElem?_cons_zero, List.getElem?_cons_succ, List.set_cons_zero, List.set_cons_succ, Option.some.injEq, B.val.injEq, D.int.injEq, D.bl.injEq, D.str.injEq, D.tup.injEq, D.lst.injEq, exists_eq_left', exists_eq_left, exists_and_left, ex_eq, true_and, and_true, List.cons.injEq, List.zip_cons_cons, List.zip_nil_right, List.foldl_cons, List.foldl_nil, wipeB, lenD, itD, Bool.not_true, Bool.not_false, Bool.false_eq_true, Bool.true_eq_false, if_true, if_false, ite_true, ite_false, D.dic.injEq, D.obj.injEq, and_assoc, List.map_map]
        exact due_numbers (by have := r2 w hw; omega) (ro w hw) r
      refine ⟨_, at0, ?_⟩
      refine due_numbers (by omega) oa ⟨by rw [sizeLine_eq]; decide, by rw [List.length_map, sizeLine_eq]; omega, by rw [List.length_append, List.length_map, List.length_singleton, sizeLine_eq]; omega, ?_⟩
      have fin := due_end (K := K) (A := A) (v0 := .val (.str z)) (v1 := .val (.lst ([a, b].map D.str))) (v2 := .val (.lst ((clsF b).map opN))) ha hb q
      have e0 : (clsF b).map opN = (Txt.split b "; ").map fun w => opN (numsF w) := by unfold clsF; rw [if_neg h3, List.map_map]; rfl
      rw [e0] at fin
      exact fin
  · rw [stF_ne h2] at q
    rw [if_pos (by rw [decide_eq_false (by omega)]; rfl)]
    exact q
end
end K70
set_option Elab.async false
set_option maxRecDepth 100000
set_option maxHeartbeats 1000000
set_option linter.all false
namespace K70
open PySem PySem.Spec PyProof.Rows L2 Ly Pu
section
variable {P : Program} {w : World} {K : PySem.W.Frag} {mg : Str → Option Value} {base : Heap} {A : Adr}
abbrev s_is_table_row : Stmt := top 29
abbrev nm_is_table_row : List Str := ["value", "key", "state"]
abbrev ps_is_table_row : List Str := ["value"]
theorem sc_is_table_row : FnScope nm_is_table_row ps_is_table_row (defScope s_is_table_row) := ⟨rfl, rfl, rfl, by decide +kernel, rfl, by decide +kernel, by decide +kernel⟩
def S_is_table_row (K : PySem.W.Frag) (A : Adr) : FS :=
  (sSeq (sIf (fOr (fNot (fTst (fIsiT K "dict" (fVarT 0)))) (fNot (fTst (fCB RAll (fCons (fNew (fLc (fDwT (fun ks _ => ks.map fun k => .tup (k.map kD)) okKeys (fVar 0)) (gN 1) fYes (fAndV (fCall (G_are_numbers K A) 1 (fCons (fVar 1) fNil)) (fOp REq (fCB RLen (fCons (fVarT 1) fNil)) (fC (.int 2)))) [1])) fNil))))) (sRet (fC (.bl false))) sNext)
      (sRet (fCB RAll (fCons (fNew (fLc (fDwT (fun _ ds => ds) okAny (fVar 0)) (gN 2) fYes (fCall (G_is_state_row K A) 1 (fCons (fVar 2) fNil)) [2])) fNil))))
def G_is_table_row (K : PySem.W.Frag) (A : Adr) : Fn := fnS 3 (S_is_table_row K A)
theorem ok_is_table_row {f : Addr} {fd : FuncData} (F : Fun K "is_table_row" "is_table_row" s_is_table_row f fd) (T : Txt K mg) (C_are_numbers : CalF P w K mg base "are_numbers" 3 1 (G_are_numbers K A))
    (C_is_state_row : CalF P w K mg base "is_state_row" 5 1 (G_is_state_row K A)) : FnOk P w K mg base (L2.CX P w) 6 f fd ps_is_table_row (spD K 1 (G_is_table_row K A)) := by
  have nd := sc_is_table_row.nd
  exact fn_d (k := 5) F sc_is_table_row rfl (fun cdv Ar outer s H E W0 hr => (d_seq (d_ifs (PW.pt (d_or (d_not (d_test (d_isiT (K := K) (by decide) rfl T.z_isinstance (d_varT (pv 0)) (pe_ty "dict" (by rfl) T.z_dict (by decide +kernel))))) (d_or1 (d_not (d_test (d_cb (kcr_all (K := K) rfl) s_all (by rfl) T.z_all (by decide +kernel) (d_consT (d_nt (d_lcwT (own := [("key", 1)]) stat_varT dwt_keys (g_name (by decide)) (pe_lc (own := [("key", 1)]) (by rfl) nd (pi_keysT (pv 0)) (blkOk_by (own := [("key", 1)]) (N := nm_is_table_row) (sc := defScope s_is_table_row) (by decide +kernel)) (fun _ _ _ _ _ => (pg_name (i := 1) nd rfl (Or.inl rfl))) (fun _ _ _ _ _ => d_pts0) (fun _ _ _ _ _ => (d_andV (d_call C_are_numbers (hr.mono (by first | decide | omega)) rfl passL (d_cons (d_var (pv 1)) d_nil)) (d_one (d_cmp (op_eqA (K := K) hr.units) s_eq (d_t (d_cb (c_len (K := K)) s_len (by rfl) T.z_len (by decide +kernel) (d_consT (d_varT (pv 1)) d_nilT))) (d_t (d_int pe_int)) (nomark _)))))))) d_nilT))))))) (d_sone (d_ret (d_bl pe_bl))) d_snil)
      (d_sone (d_ret (d_cb (kcr_all (K := K) rfl) s_all (by rfl) T.z_all (by decide +kernel) (d_consT (d_nt (d_lcwT (own := [("state", 2)]) stat_varT dwt_vals (g_name (by decide)) (pe_lc (own := [("state", 2)]) (by rfl) nd (pi_valuesT (pv 0)) (blkOk_by (own := [("state", 2)]) (N := nm_is_table_row) (sc := defScope s_is_table_row) (by decide +kernel)) (fun _ _ _ _ _ => (pg_name (i := 2) nd rfl (Or.inl rfl))) (fun _ _ _ _ _ => d_pts0) (fun _ _ _ _ _ => (d_call C_is_state_row (hr.mono (by first | decide | omega)) rfl passL (d_cons (d_var (pv 2)) d_nil)))))) d_nilT)))))) fun _ _ _ _ h => h
abbrev s_write_table : Stmt := top 30
abbrev nm_write_table : List Str := ["table", "lines", "key"]
abbrev ps_write_table : List Str := ["table"]
theorem sc_write_table : FnScope nm_write_table ps_write_table (defScope s_write_table) := ⟨rfl, rfl, rfl, by decide +kernel, rfl, by decide +kernel, by decide +kernel⟩
def S_write_table (K : PySem.W.Frag) (A : Adr) : FS :=
  (sSeq (sIf (fNot (fTst (fCall (G_is_table_row K A) 1 (fCons (fVar 0) fNil)))) (sRaise A.cInvalidTable) sNext)
      (sSeq (sAsg 1 (fNew (fLc (fIt (fNew (fCBN RSortTp (fCons (fNew (fCBN RListDt (fCons (fVarT 0) fNil))) fNil)))) (gN 2) fYes (fJs [(fFmt (fOp RIx (fVarT 2) (fC (.int 0)))), (fC (.str " ")), (fFmt (fOp RIx (fVarT 2) (fC (.int 1)))), (fC (.str ": ")), (fFmt (fCall (G_state_text K A) 1 (fCons (fGetT (fVarT 0) (fVar 2)) fNil)))] Str.empty) [2])))
      (sRet (fIf (fTst (fOp RNe (fVarT 1) (fNew (fLst fNil)))) (fJoin (fC (.str "\n")) (fVarT 1)) (fC (.str "none"))))))
def G_write_table (K : PySem.W.Frag) (A : Adr) : Fn := fnS 3 (S_write_table K A)
theorem ok_write_table {f : Addr} {fd : FuncData} (F : Fun K "write_table" "write_table" s_write_table f fd) (T : Txt K mg) {t_NONE : Tok} (g_NONE : mg "NONE" = some (.str "none" t_NONE))
    (C_is_table_row : CalF P w K mg base "is_table_row" 6 1 (G_is_table_row K A))
    (C_state_text : CalF P w K mg base "state_text" 2 1 (G_state_text K A))
    (E_InvalidTable : ExC K mg "InvalidTable" A.cInvalidTable) : FnOk P w K mg base (L2.CX P w) 7 f fd ps_write_table (spD K 1 (G_write_table K A)) := by
  have nd := sc_write_table.nd
  exact fn_d (k := 6) F sc_write_table rfl (fun cdv Ar outer s H E W0 hr => (d_seq (d_ifs (d_not (d_test (d_call C_is_table_row (hr.mono (by first | decide | omega)) rfl (passes_call (takes_of rfl rfl rfl rfl) fun _ _ _ _ h => h) (d_cons (d_var (pv 0)) d_nil)))) (d_sone (d_raise (ps_raise rfl (takes_of rfl rfl rfl rfl) (pmk_own PySem.F.excBase_ValueError E_InvalidTable.x E_InvalidTable.g E_InvalidTable.k (raises_own E_InvalidTable.b E_InvalidTable.t) (by rfl))))) d_snil)
      (d_seq (d_setLcV (g_name (by decide)) (ps_setLc (i := 1) (own := [("key", 2)]) (by rfl) nd rfl rfl (sw_true rfl rfl rfl (by decide +kernel)) (d_itC (K := K) (d_nt (d_cbN (c_sortTp (K := K) (Nat.lt_of_succ_lt (hr65 hr))) s_sortTp (by rfl) T.z_sorted (by decide +kernel) (d_consT (d_nt (d_ctN (c_listDt rfl) s_listDt (by rfl) T.z_list (by decide +kernel) (d_consT (d_varT (pv 0)) d_nilT))) d_nilT)))) (blkOk_by (own := [("key", 2)]) (N := nm_write_table) (sc := defScope s_write_table) (by decide +kernel)) (fun _ _ _ _ _ => (pg_name (i := 2) nd rfl (Or.inl rfl))) (fun _ _ _ _ _ => d_pts0) (fun _ _ _ _ _ => (d_js (PFs.cons (d_fmt (d_ix (ix_A (K := K)) s_ix (d_varT (pv 2)) (d_t (d_int pe_int)) (fun _ _ => rfl))) (PFs.cons (d_str pe_str) (PFs.cons (d_fmt (d_ix (ix_A (K := K)) s_ix (d_varT (pv 2)) (d_t (d_int pe_int)) (fun _ _ => rfl))) (PFs.cons (d_str pe_str) (PFs.cons (d_fmt (d_call C_state_text (hr.mono (by first | decide | omega)) rfl passL (d_cons (d_getT (hr1 hr) (d_varT (pv 0)) (d_var (pv 2)) (fun _ _ => rfl)) d_nil))) PFs.nil)))))))))
      (d_sone (d_ret (d_if (d_tcmp (op_neA (K := K) hr.units) s_ne (d_varT (pv 1)) (d_nt (d_lst d_nil)) (nomark _)) (d_join (K := K) (d_str pe_str) (d_varT (pv 1))) (d_str (pe_gstr rfl g_NONE)))))))) fun _ _ _ _ h => h
abbrev s_table_row_of : Stmt := top 31
abbrev nm_table_row_of : List Str := ["line", "halves", "key", "state"]
abbrev ps_table_row_of : List Str := ["line"]
theorem sc_table_row_of : FnScope nm_table_row_of ps_table_row_of (defScope s_table_row_of) := ⟨rfl, rfl, rfl, by decide +kernel, rfl, by decide +kernel, by decide +kernel⟩
def S_table_row_of (K : PySem.W.Frag) (A : Adr) : FS :=
  (sSeq (sAsg 1 (fNew (fSplit (fVar 0) (fC (.str ": ")))))
      (sSeq (sIf (fTst (fOp RNe (fCB RLen (fCons (fVarT 1) fNil)) (fC (.int 2)))) (sRet (fC .non)) sNext)
      (sSeq (sAsg 2 (fCall (G_numbers_of K A) 1 (fCons (fOp RIx (fVarT 1) (fC (.int 0))) fNil)))
      (sSeq (sAsg 3 (fCall (G_state_of K A) 1 (fCons (fOp RIx (fVarT 1) (fC (.int 1))) fNil)))
      (sRet (fIf (fAnd (fTst (fOp RNotN (fVarT 2) (fC .non))) (fAnd (fTst (fOp REq (fCB RLen (fCons (fVarT 2) fNil)) (fC (.int 2)))) (fTst (fOp RNotN (fVarT 3) (fC .non))))) (fTup (fCons (fVar 2) (fCons (fVar 3) fNil))) (fC .non)))))))
def G_table_row_of (K : PySem.W.Frag) (A : Adr) : Fn := fnS 4 (S_table_row_of K A)
theorem ok_table_row_of {f : Addr} {fd : FuncData} (F : Fun K "table_row_of" "table_row_of" s_table_row_of f fd) (T : Txt K mg) (C_numbers_of : CalF P w K mg base "numbers_of" 2 1 (G_numbers_of K A))
    (C_state_of : CalF P w K mg base "state_of" 6 1 (G_state_of K A)) : FnOk P w K mg base (L2.CX P w) 7 f fd ps_table_row_of (spD K 1 (G_table_row_of K A)) := by
  have nd := sc_table_row_of.nd
  exact fn_d (k := 6) F sc_table_row_of rfl (fun cdv Ar outer s H E W0 hr => (d_seq (d_asg (d_n (d_split (d_var (pv 0)) (d_str pe_str))) (pg_name (i := 1) nd rfl (Or.inl rfl)))
      (d_seq (d_ifs (d_tcmp (op_neA (K := K) hr.units) s_ne (d_t (d_cb (c_len (K := K)) s_len (by rfl) T.z_len (by decide +kernel) (d_consT (d_varT (pv 1)) d_nilT))) (d_t (d_int pe_int)) (nomark _)) (d_sone (d_ret (d_non pe_non))) d_snil)
      (d_seq (d_asg (d_call C_numbers_of (hr.mono (by first | decide | omega)) rfl (passes_call (takes_of rfl rfl rfl rfl) fun _ _ _ _ h => h) (d_cons (d_ix (ix_A (K := K)) s_ix (d_varT (pv 1)) (d_t (d_int pe_int)) (fun _ _ => rfl)) d_nil)) (pg_name (i := 2) nd rfl (Or.inl rfl)))
      (d_seq (d_asg (d_call C_state_of (hr.mono (by first | decide | omega)) rfl (passes_call (takes_of rfl rfl rfl rfl) fun _ _ _ _ h => h) (d_cons (d_ix (ix_A (K := K)) s_ix (d_varT (pv 1)) (d_t (d_int pe_int)) (fun _ _ => rfl)) d_nil)) (pg_name (i := 3) nd rfl (Or.inl rfl)))
      (d_sone (d_ret (d_if (PW.pt (d_and (d_tcmp op_notN s_notN (d_varT (pv 2)) (d_t (d_non pe_non)) (nomark _)) (d_and (d_tcmp (op_eqA (K := K) hr.units) s_eq (d_t (d_cb (c_len (K := K)) s_len (by rfl) T.z_len (by decide +kernel) (d_consT (d_varT (pv 2)) d_nilT))) (d_t (d_int pe_int)) (nomark _)) (d_and1 (d_tcmp op_notN s_notN (d_varT (pv 3)) (d_t (d_non pe_non)) (nomark _)))))) (d_tup (d_cons (d_var (pv 2)) (d_cons (d_var (pv 3)) d_nil))) (d_non pe_non))))))))) fun _ _ _ _ h => h
abbrev s_read_table : Stmt := top 32
abbrev nm_read_table : List Str := ["text", "found", "last", "at", "line", "pair"]
abbrev ps_read_table : List Str := ["text"]
theorem sc_read_table : FnScope nm_read_table ps_read_table (defScope s_read_table) := ⟨rfl, rfl, rfl, by decide +kernel, rfl, by decide +kernel, by decide +kernel⟩
def S_read_table (K : PySem.W.Frag) (A : Adr) : FS :=
  (sSeq (sDrop (fCall (G_require_string K A) 1 (fCons (fVar 0) fNil)))
      (sSeq (sNewT 1 fDit0)
      (sSeq (sAsg 2 (fC .non))
      (sSeq (sFor (fEnumL (fCons (fIf (fTst (fOp RNe (fVarT 0) (fC (.str "none")))) (fNew (fSplit (fVar 0) (fC (.str "\n")))) (fNew (fLst fNil))) fNil)) (gT [3, 4]) (sSeq (sAsg 5 (fCall (G_table_row_of K A) 1 (fCons (fVar 4) fNil)))
      (sSeq (sIf (fOr (fTst (fOp RIsN (fVarT 5) (fC .non))) (fAnd (fTst (fOp RNotN (fVarT 2) (fC .non))) (fTst (fOp RLeT (fOp RIx (fVarT 5) (fC (.int 0))) (fVarT 2))))) (sRaiseK A.cParseError "line" (fVar 3)) sNext)
      (sSeq (sAsg 2 (fOp RIx (fVarT 5) (fC (.int 0))))
      (sPutT 1 (fVar 2) (fOp RIx (fVarT 5) (fC (.int 1))))))))
      (sDemT 1 (sRet (fVar 1)))))))
def G_read_table (K : PySem.W.Frag) (A : Adr) : Fn := fnS 6 (S_read_table K A)
theorem ok_read_table {f : Addr} {fd : FuncData} (F : Fun K "read_table" "read_table" s_read_table f fd) (T : Txt K mg) {t_NONE : Tok} (g_NONE : mg "NONE" = some (.str "none" t_NONE))
    (C_require_string : CalF P w K mg base "require_string" 3 1 (G_require_string K A))
    (C_table_row_of : CalF P w K mg base "table_row_of" 7 1 (G_table_row_of K A))
    (Z_ParseError : CalX P w K mg base "ParseError" A.cParseError 1 "line") : FnOk P w K mg base (L2.CX P w) 8 f fd ps_read_table (spD K 1 (G_read_table K A)) := by
  have nd := sc_read_table.nd
  exact fn_d (k := 7) F sc_read_table rfl (fun cdv Ar outer s H E W0 hr => (d_seq (d_drop (d_call C_require_string (hr.mono (by first | decide | omega)) rfl (passes_call (takes_of rfl rfl rfl rfl) fun _ _ _ _ h => h) (d_cons (d_var (pv 0)) d_nil)))
      (d_seq (d_newT (d_dit0 pe_dnewT) (pg_name (i := 1) nd rfl (Or.inl rfl)))
      (d_seq (d_asg (d_non pe_non) (pg_name (i := 2) nd rfl (Or.inl rfl)))
      (d_seq (d_for (vs := [3, 4]) (passes_of rfl) rfl (d_enumL rfl T.z_enumerate (d_cons (d_if (d_tcmp (op_neA (K := K) hr.units) s_ne (d_varT (pv 0)) (d_t (d_str (pe_gstr rfl g_NONE))) (nomark _)) (d_n (d_split (d_var (pv 0)) (d_str pe_str))) (d_n (d_lst d_nil))) d_nil)) (kpg_tup (K := K) (n := 2) rfl (pgs_cons (pg_name (i := 3) nd rfl (Or.inl rfl)) (pgs_cons (pg_name (i := 4) nd rfl (Or.inl rfl)) pgs_nil))) (g_pair (by decide) (by decide)) (d_seq (d_asg (d_call C_table_row_of (hr.mono (by first | decide | omega)) rfl (passes_call (takes_of rfl rfl rfl rfl) fun _ _ _ _ h => h) (d_cons (d_var (pv 4)) d_nil)) (pg_name (i := 5) nd rfl (Or.inl rfl)))
      (d_seq (d_ifs (PW.pt (d_or (d_tcmp op_isN s_isN (d_varT (pv 5)) (d_t (d_non pe_non)) (nomark _)) (d_or1 (PW.pt (d_and (d_tcmp op_notN s_notN (d_varT (pv 2)) (d_t (d_non pe_non)) (nomark _)) (d_and1 (d_tcmp (op_leT (Nat.lt_of_succ_lt (hr1 hr))) s_leT (d_t (d_ix (ix_A (K := K)) s_ix (d_varT (pv 5)) (d_t (d_int pe_int)) (fun _ _ => rfl))) (d_varT (pv 2)) (nomark _)))))))) (d_sone (d_raiseK Z_ParseError rfl (takes_of rfl rfl rfl rfl) (hr.mono (by first | decide | omega)) rfl (d_var (pv 3)))) d_snil)
      (d_seq (d_asg (d_ix (ix_A (K := K)) s_ix (d_varT (pv 5)) (d_t (d_int pe_int)) (fun _ _ => rfl)) (pg_name (i := 2) nd rfl (Or.inl rfl)))
      (d_sone (d_putT (ps_dput (hr1 hr) (pv 1) (d_var (pv 2)) (d_ix (ix_A (K := K)) s_ix (d_varT (pv 5)) (d_t (d_int pe_int)) (fun _ _ => rfl)) rfl)))))))
      (d_sone (d_demT 1 (d_ret (d_var (pv 1)))))))))) fun _ _ _ _ h => h
end
end K70
set_option Elab.async false
set_option maxRecDepth 100000
set_option maxHeartbeats 1000000
set_option linter.all false
set_option pp.maxSteps 2500
namespace K70
open PySem PySem.Spec PyProof.Rows L2 Ly Pu TM
abbrev Rw := List Int × St
def lineF2 (a b : Str) : Option Rw := match numsF a, stF b with
  | some l, some s => if l.length = 2 then some (nI l, s) else none
  | _, _ => none
def lineF (z : Str) : Option Rw := match Txt.split z ": " with
  | [a, b] => lineF2 a b
  | _ => none
theorem lineF_eq {z a b : Str} (h : Txt.split z ": " = [a, b]) : lineF z = lineF2 a b := by
  unfold lineF
  rw [h]
theorem lineF_ne {z : Str} (h : (Txt.split z ": ").length ≠ 2) : lineF z = none := by
  unfold lineF
  split
  · rename_i e
    rw [e] at h
    exact absurd rfl h
  · rfl
def rwD (r : Rw) : D := .tup [tupI r.1, stD r.2]
def opR : Option Rw → D
  | none => .non
  | some r => rwD r
def lateB (acc : List Rw) (k : List Int) : Bool := match acc.getLast? with
  | none => false
  | some p => leI k p.1
def tabF : List Str → List Rw → Sum Nat (List Rw)
  | [], acc => .inr acc
  | z :: r, acc => match lineF z with
    | none => .inl acc.length
    | some p => if lateB acc p.1 = true then .inl acc.length else tabF r (acc ++ [p])
def kK (k : List Int) : List Key := k.map Sum.inl
def tabD (acc : List Rw) : D := .dit (acc.map fun p => kK p.1) (acc.map fun p => stD p.2)
theorem keyDs_ints : ∀ l : List Int, keyDs (l.map D.int) = some (kK l)
  | [] => rfl
  | i :: l => by
    show (match keyD (.int i), keyDs (l.map D.int) with | some k, some r => some (k :: r) | _, _ => none) = _
    rw [keyDs_ints l]
    rfl
theorem keyTD_tup (l : List Int) : keyTD (tupI l) = some (kK l) := keyDs_ints l
theorem kK_inj {a b : List Int} (h : kK a = kK b) : a = b := by
  unfold kK at h
  induction a generalizing b with
  | nil => cases b with | nil => rfl | cons y b => cases h
  | cons x a ih =>
    cases b with
    | nil => cases h
    | cons y b =>
      injection h with h1 h2
      injection h1 with h1
      rw [h1, ih h2]
def Up (acc : List Rw) : Prop := (acc.map (·.1)).Pairwise (fun a b => ltI a b = true)
theorem up_new {acc : List Rw} (u : Up acc) {p : Rw} (h : lateB acc p.1 = false) : Up (acc ++ [p]) ∧ ∀ q ∈ acc, q.1 ≠ p.1 := by
  have key : ∀ q ∈ acc, ltI q.1 p.1 = true := by
    intro q hq
    unfold lateB at h
    cases e : acc.getLast? with
    | none =>
      rw [List.getLast?_eq_none_iff.mp e] at hq
      cases hq
    | some r =>
      rw [e] at h
      have h : leI p.1 r.1 = false := h
      rw [leI_eq, Bool.not_eq_false'] at h
      obtain ⟨l, rfl⟩ := List.getLast?_eq_some_iff.mp e
      rcases List.mem_append.mp hq with hq | hq
      · unfold Up at u
        rw [List.map_append, List.pairwise_append] at u
        exact ltI_trans _ _ _ (u.2.2 q.1 (List.mem_map.mpr ⟨q, hq, rfl⟩) r.1 (List.mem_singleton.mpr rfl)) h
      · rw [List.mem_singleton.mp hq]
        exact h
  refine ⟨?_, fun q hq e => ?_⟩
  · unfold Up at u ⊢
    rw [List.map_append, List.pairwise_append]
    refine ⟨u, List.pairwise_singleton _ _, fun a ha b hb => ?_⟩
    obtain ⟨q, hq, rfl⟩ := List.mem_map.mp ha
    rw [List.mem_singleton.mp hb]
    exact key q hq
  · have := key q hq
    rw [e, ltI_irrefl] at this
    cases this
theorem put_new {acc : List Rw} {p : Rw} (h : ∀ q ∈ acc, q.1 ≠ p.1) : putKst (acc.map fun p => kK p.1) (kK p.1) = (acc ++ [p]).map (fun p => kK p.1) ∧ putDst (acc.map fun p => kK p.1) (acc.map fun p => stD p.2) (kK p.1) (stD p.2) = (acc ++ [p]).map fun p => stD p.2 := by
  have no : ((acc.map fun p => kK p.1).any fun x => decide (x = kK p.1)) = false := by
    rw [← Bool.not_eq_true, List.any_eq_true]
    rintro ⟨x, hx, e⟩
    obtain ⟨q, hq, rfl⟩ := List.mem_map.mp hx
    exact h q hq (kK_inj (of_decide_eq_true e))
  unfold putKst putDst
  rw [no, if_neg (by decide), if_neg (by decide), List.map_append, List.map_append]
  exact ⟨rfl, rfl⟩
section
variable {K : PySem.W.Frag} {A : Adr}
theorem table_row_of {z : Str} (hz : z.length ≤ 900) {Q : D → Prop} {Z : ZX} (q : Q (opR (lineF z))) : G_table_row_of K A [.str z] Q Z := by
  obtain ⟨p1, p2⟩ := split_parts z ": " (by decide)
  unfold G_table_row_of S_table_row_of
  simp only [fnS, Pu.startB, sSeq, sAsg, sIf, sRet, sNext, sNew, sApp, sPar, sDem, demB, fVar, fVarT, fC, fOp, fTst, fAnd, fOr, fNot, fNew, fLst, fTup, fNil, fCons, fSl, Pu.oAt, oNo, fCB, fCall, fIf, fChain, fRng1, fIt, fJoin, RLen, RI0, RAdd, RSl, RIsN, RTuple, gN, bD, List.map_cons, List.map_nil, List.cons_append, List.nil_append, List.length_cons, List.length_nil, List.replicate, Nat.reduceSub, Nat.reduceAdd, List.getElem?_cons_zero, List.getElem?_cons_succ, List.set_cons_zero, List.set_cons_succ, Option.some.injEq, B.val.injEq, D.int.injEq, D.bl.injEq, D.str.injEq, D.tup.injEq, D.lst.injEq, exists_eq_left', exists_eq_left, exists_and_left, ex_eq, true_and, and_true, List.cons.injEq, List.zip_cons_cons, List.zip_nil_right, List.foldl_cons, List.foldl_nil, wipeB, lenD, itD, Bool.not_true, Bool.not_false, Bool.false_eq_true, Bool.true_eq_false, if_true, if_false, ite_true, ite_false, D.dic.injEq, D.obj.injEq, and_assoc, List.map_map, fSplit, RNotN]
  refine ⟨by decide, by rw [sizeLine_eq]; omega, by rw [sizeLine_eq]; omega, ?_⟩
  rw [ne_int, List.length_map]
  refine ⟨_, rfl, ?_⟩
  by_cases h2 : (Txt.split z ": ").length = 2
  · obtain ⟨a, b, e⟩ : ∃ a b, Txt.split z ": " = [a, b] := by
      match h : Txt.split z ": ", h2 with
      | [a, b], _ => exact ⟨a, b, rfl⟩
    rw [lineF_eq e] at q
    rw [e] at p2 ⊢
    have ha : a.length ≤ 900 := by have := p2 a (List.mem_cons_self ..); omega
    have hb : b.length ≤ 900 := by have := p2 b (List.mem_cons_of_mem _ (List.mem_cons_self ..)); omega
    rw [show decide ((([a, b] : List Str).length : Int) = 2) = true from rfl, if_neg (by decide)]
    refine ⟨_, at0, numbers_of (by omega) ⟨_, at1, state_of hb ?_⟩⟩
    unfold lineF2 at q
    cases n1 : numsF a with
    | none =>
      rw [n1] at q
      exact q
    | some l =>
      rw [n1] at q
      have ei : isN (opN (some l)) = false := rfl
      rw [ei, if_pos (by rfl)]
      refine ⟨_, rfl, _, rfl, ?_⟩
      have el : ((nI l).map D.int).length = l.length := by rw [List.length_map, nI, List.length_map]
      rw [el]
      by_cases h3 : l.length = 2
      · rw [show decide ((l.length : Int) = 2) = true from decide_eq_true (by omega), if_pos rfl]
        cases n2 : stF b with
        | none =>
          rw [n2] at q
          exact q
        | some s =>
          rw [n2] at q
          have es : isN (opS (some s)) = false := rfl
          rw [es, if_pos (by rfl)]
          dsimp only at q
          rw [if_pos h3] at q
          exact ⟨by rw [sizeLine_eq]; decide, q⟩
      · rw [show decide ((l.length : Int) = 2) = false from decide_eq_false (by omega), if_neg (by decide)]
        cases n2 : stF b with
        | none =>
          rw [n2] at q
          exact q
        | some s =>
          rw [n2] at q
          dsimp only at q
          rw [if_neg h3] at q
          exact q
  · rw [lineF_ne h2] at q
    rw [if_pos (by rw [decide_eq_false (by omega)]; rfl)]
    exact q
def rtB (K : PySem.W.Frag) (A : Adr) : FS := (sSeq (sAsg 5 (fCall (G_table_row_of K A) 1 (fCons (fVar 4) fNil)))
      (sSeq (sIf (fOr (fTst (fOp RIsN (fVarT 5) (fC .non))) (fAnd (fTst (fOp RNotN (fVarT 2) (fC .non))) (fTst (fOp RLeT (fOp RIx (fVarT 5) (fC (.int 0))) (fVarT 2))))) (sRaiseK A.cParseError "line" (fVar 3)) sNext)
      (sSeq (sAsg 2 (fOp RIx (fVarT 5) (fC (.int 0))))
      (sPutT 1 (fVar 2) (fOp RIx (fVarT 5) (fC (.int 1)))))))
def lastD (acc : List Rw) : D := match acc.getLast? with
  | none => .non
  | some p => tupI p.1
def tabB (acc : List Rw) : B := .dit (acc.map fun p => kK p.1) (acc.map fun p => stD p.2)
theorem last_new (acc : List Rw) (p : Rw) : lastD (acc ++ [p]) = tupI p.1 := by
  unfold lastD
  rw [List.getLast?_append, List.getLast?_singleton]
  rfl
theorem rt_step {d0 : D} {acc : List Rw} (u : Up acc) (hn : acc.length ≤ 1000) {x : Str} (hx : x.length ≤ 900) {n : Nat} {o5 : B} {De : EndsD}
    (q0 : lineF x = none → De.ex (.kept A.cParseError ["line"] [.int (n : Int)])) (q1 : ∀ p, lineF x = some p → lateB acc p.1 = true → De.ex (.kept A.cParseError ["line"] [.int (n : Int)]))
    (q2 : ∀ p, lineF x = some p → lateB acc p.1 = false → De.nx [.val d0, tabB (acc ++ [p]), .val (tupI p.1), .val (.int (n : Int)), .val (.str x), .val (rwD p)]) :
    rtB K A [.val d0, tabB acc, .val (lastD acc), .val (.int (n : Int)), .val (.str x), o5] De := by
  unfold rtB
  simp only [fnS, Pu.startB, sSeq, sAsg, sIf, sRet, sNext, sNew, sApp, sPar, sDem, demB, fVar, fVarT, fC, fOp, fTst, fAnd, fOr, fNot, fNew, fLst, fTup, fNil, fCons, fSl, Pu.oAt, oNo, fCB, fCall, fIf, fChain, fRng1, fIt, fJoin, RLen, RI0, RAdd, RSl, RIsN, RTuple, gN, bD, List.map_cons, List.map_nil, List.cons_append, List.nil_append, List.length_cons, List.length_nil, List.replicate, Nat.reduceSub, Nat.reduceAdd, List.getElem?_cons_zero, List.getElem?_cons_succ, List.set_cons_zero, List.set_cons_succ, Option.some.injEq, B.val.injEq, D.int.injEq, D.bl.injEq, D.str.injEq, D.tup.injEq, D.lst.injEq, exists_eq_left', exists_eq_left, exists_and_left, ex_eq, true_and, and_true, List.cons.injEq, List.zip_cons_cons, List.zip_nil_right, List.foldl_cons, List.foldl_nil, wipeB, lenD, itD, Bool.not_true, Bool.not_false, Bool.false_eq_true, Bool.true_eq_false, if_true, if_false, ite_true, ite_false, D.dic.injEq, D.obj.injEq, and_assoc, List.map_map, RNotN, sRaiseK, sPutT]
  refine table_row_of hx ?_
  cases e : lineF x with
  | none =>
    rw [if_pos (by rfl)]
    exact q0 e
  | some p =>
    have ei : isN (opR (some p)) = false := rfl
    rw [ei, if_neg (by decide)]
    have fin : lateB acc p.1 = false → RIx (opR (some p)) (.int 0) fun d => RIx (opR (some p)) (.int 1) fun d_1 => ∃ ks ds, tabB acc = B.dit ks ds ∧ ∃ k, keyTD d = some k ∧ ks.length < sizeLine ∧
        De.nx [.val d0, .dit (putKst ks k) (putDst ks ds k d_1), .val d, .val (.int (n : Int)), .val (.str x), .val (opR (some p))] := fun hl => by
      obtain ⟨e1, e2⟩ := put_new (up_new u hl).2
      refine ⟨_, at0, _, at1, _, _, rfl, kK p.1, keyTD_tup p.1, by rw [List.length_map, sizeLine_eq]; omega, ?_⟩
      rw [e1, e2]
      exact q2 p e hl
    cases g : acc.getLast? with
    | none =>
      have e1 : lastD acc = .non := by unfold lastD; rw [g]
      rw [e1, if_neg (by decide)]
      exact fin (by unfold lateB; rw [g])
    | some r =>
      have e1 : lastD acc = tupI r.1 := by unfold lastD; rw [g]
      have e2 : isN (tupI r.1) = false := rfl
      have e3 : lateB acc p.1 = leI p.1 r.1 := by unfold lateB; rw [g]
      rw [e1, e2, if_pos (by rfl)]
      refine ⟨_, at0, p.1, r.1, rfl, rfl, _, rfl, ?_⟩
      cases c : leI p.1 r.1 with
      | true =>
        rw [if_pos rfl]
        exact q1 p e (e3.trans c)
      | false =>
        rw [if_neg (by decide)]
        exact fin (e3.trans c)
theorem rt_loop {d0 : D} {De : EndsD} {Z : ZX} {P : List Rw → Prop} (hz : De.ex = Z) (hk : ∀ acc o2 o3 o4 o5, acc.length ≤ 1000 → P acc → De.nx [.val d0, tabB acc, o2, o3, o4, o5]) :
    ∀ (l : List Str) (acc : List Rw) (o3 o4 o5 : B), acc.length + l.length ≤ 1000 → Up acc → (∀ x ∈ l, x.length ≤ 900) → (match tabF l acc with | .inl k => Z (.kept A.cParseError ["line"] [.int (k : Int)]) | .inr r => P r) →
      forD (gT [3, 4]) (rtB K A) (enumD acc.length (l.map D.str)) [.val d0, tabB acc, .val (lastD acc), o3, o4, o5] De
  | [], acc, o3, o4, o5, hl, _, _, q => hk acc _ o3 o4 o5 (by simpa using hl) q
  | x :: l, acc, o3, o4, o5, hl, u, hx, q => by
    rw [List.length_cons] at hl
    have hxl := hx x (List.mem_cons_self ..)
    show (gT [3, 4]) (.tup [.int (acc.length : Nat), .str x]) _ _
    refine ⟨_, rfl, rfl, ?_⟩
    unfold tabF at q
    refine rt_step u (by omega) hxl (fun e => ?_) (fun p e h => ?_) (fun p e h => ?_)
    · rw [e] at q
      rw [← hz] at q
      exact q
    · rw [e] at q
      dsimp only at q
      rw [h, if_pos rfl] at q
      rw [← hz] at q
      exact q
    · rw [e] at q
      dsimp only at q
      rw [h, if_neg (by decide)] at q
      have ih := rt_loop hz hk l (acc ++ [p]) (.val (.int (acc.length : Nat))) (.val (.str x)) (.val (rwD p)) (by rw [List.length_append, List.length_singleton]; omega) (up_new u h).1 (fun y hy => hx y (List.mem_cons_of_mem _ hy)) q
      rw [List.length_append, last_new] at ih
      exact ih
def linesF (z : Str) : List Str := if z = "none" then [] else Txt.split z "\n"
theorem read_table {z : Str} (hz : z.length ≤ 900) {Q : D → Prop} {Z : ZX} (q : match tabF (linesF z) [] with | .inl k => Z (.kept A.cParseError ["line"] [.int (k : Int)]) | .inr r => Q (tabD r)) : G_read_table K A [.str z] Q Z := by
  obtain ⟨p1, p2⟩ := split_parts z "\n" (by decide)
  unfold G_read_table S_read_table
  show (sSeq _ (sSeq _ (sSeq _ (sSeq (sFor _ (gT [3, 4]) (rtB K A)) _)))) _ _
  simp only [fnS, Pu.startB, sSeq, sAsg, sIf, sRet, sNext, sNew, sApp, sPar, sDem, demB, fVar, fVarT, fC, fOp, fTst, fAnd, fOr, fNot, fNew, fLst, fTup, fNil, fCons, fSl, Pu.oAt, oNo, fCB, fCall, fIf, fChain, fRng1, fIt, fJoin, RLen, RI0, RAdd, RSl, RIsN, RTuple, gN, bD, List.map_cons, List.map_nil, List.cons_append, List.nil_append, List.length_cons, List.length_nil, List.replicate, Nat.reduceSub, Nat.reduceAdd, List.getElem?_cons_zero, List.getElem?_cons_succ, List.set_cons_zero, List.set_cons_succ, Option.some.injEq, B.val.injEq, D.int.injEq, D.bl.injEq, D.str.injEq, D.tup.injEq, D.lst.injEq, exists_eq_left', exists_eq_left, exists_and_left, ex_eq, true_and, and_true, List.cons.injEq, List.zip_cons_cons, List.zip_nil_right, List.foldl_cons, List.foldl_nil, wipeB, lenD, itD, Bool.not_true, Bool.not_false, Bool.false_eq_true, Bool.true_eq_false, if_true, if_false, ite_true, ite_false, D.dic.injEq, D.obj.injEq, and_assoc, List.map_map, sFor, fEnumL, fSplit, sDrop, sNewT, fDit0]
  unfold G_require_string S_require_string
  simp only [fnS, Pu.startB, sSeq, sAsg, sIf, sRet, sNext, sNew, sApp, sPar, sDem, demB, fVar, fVarT, fC, fOp, fTst, fAnd, fOr, fNot, fNew, fLst, fTup, fNil, fCons, fSl, Pu.oAt, oNo, fCB, fCall, fIf, fChain, fRng1, fIt, fJoin, RLen, RI0, RAdd, RSl, RIsN, RTuple, gN, bD, List.map_cons, List.map_nil, List.cons_append, List.nil_append, List.length_cons, List.length_nil, List.replicate, Nat.reduceSub, Nat.reduceAdd, List.getElem?_cons_zero, List.getElem?_cons_succ, List.set_cons_zero, List.set_cons_succ, Option.some.injEq, B.val.injEq, D.int.injEq, D.bl.injEq, D.str.injEq, D.tup.injEq, D.lst.injEq, exists_eq_left', exists_eq_left, exists_and_left, ex_eq, true_and, and_true, List.cons.injEq, List.zip_cons_cons, List.zip_nil_right, List.foldl_cons, List.foldl_nil, wipeB, lenD, itD, Bool.not_true, Bool.not_false, Bool.false_eq_true, Bool.true_eq_false, if_true, if_false, ite_true, ite_false, D.dic.injEq, D.obj.injEq, and_assoc, List.map_map, fIsi, okI, kdD, kdIs]
  rw [if_neg (by decide), ne_str]
  refine ⟨_, rfl, ?_⟩
  have go : ∀ (l : List Str), l.length ≤ 1000 → (∀ x ∈ l, x.length ≤ 900) → (match tabF l [] with | .inl k => Z (.kept A.cParseError ["line"] [.int (k : Int)]) | .inr r => Q (tabD r)) →
      forD (gT [3, 4]) (rtB K A) (enumD 0 (l.map D.str)) [.val (.str z), .dit [] [], .val .non, .un, .un, .un] { nx := fun ρ' => sDemT 1 (sRet (fVar 1)) ρ' { nx := fun x => Q D.non, rt := Q, ex := Z }, rt := Q, ex := Z } := fun l hl hx q => by
    refine rt_loop (De := _) (P := fun r => Q (tabD r)) rfl (fun acc o2 o3 o4 o5 hl q => ?_) l [] _ _ _ (by show 0 + l.length ≤ 1000; omega) List.Pairwise.nil hx q
    show sRet (fVar 1) [.val (.str z), .val (tabD acc), o2, o3, o4, o5] _
    exact ⟨_, rfl, q⟩
  unfold linesF at q
  by_cases h : z = "none"
  · rw [if_pos h] at q
    rw [decide_eq_true h, if_neg (by decide)]
    exact ⟨Nat.zero_le _, go [] (by decide) (fun x hx => by cases hx) q⟩
  · rw [if_neg h] at q
    rw [decide_eq_false h, if_pos (by decide)]
    exact ⟨by decide, by rw [sizeLine_eq]; omega, by rw [sizeLine_eq]; omega, go _ (by omega) (fun x hx => Nat.le_trans (p2 x hx) hz) q⟩
end
end K70
set_option Elab.async false
set_option maxRecDepth 100000
set_option maxHeartbeats 1000000
set_option linter.all false
set_option pp.maxSteps 2500
namespace K70
open PySem PySem.Spec PyProof.Rows L2 Ly Pu TM
def dtB (K : PySem.W.Frag) (A : Adr) : FS := (sSeq (sPar 4 5 (fCons (fNew (fSplit (fVar 3) (fC (.str ": ")))) (fCons (fLenT 1) fNil)))
      (sSeq (sAsg 6 (fCall (G_due_numbers K A) 1 (fCons (fOp RIx (fVarT 4) (fC (.int 0))) fNil)))
      (sSeq (sAsg 7 (fIf (fTst (fOp REq (fCB RLen (fCons (fVarT 4) fNil)) (fC (.int 2)))) (fCall (G_due_state K A) 1 (fCons (fOp RIx (fVarT 4) (fC (.int 1))) fNil)) (fC .non)))
      (sSeq (sIf (fOr (fTst (fOp RIsN (fVarT 7) (fC .non))) (fOr (fTst (fOp RIsN (fVarT 6) (fC .non))) (fOr (fTst (fOp RNe (fCB RLen (fCons (fVarT 6) fNil)) (fC (.int 2)))) (fTst (fOp RLeT (fVarT 6) (fVarT 2)))))) (sRet (fVar 5)) sNext)
      (sPutPar 1 2 (fVar 6) (fTup (fCons (fVar 7) (fCons (fVar 6) fNil))))))))
def lastI (acc : List Rw) : List Int := match acc.getLast? with
  | none => [-1, -1]
  | some p => p.1
theorem lastI_new (acc : List Rw) (p : Rw) : lastI (acc ++ [p]) = p.1 := by
  unfold lastI
  rw [List.getLast?_append, List.getLast?_singleton]
  rfl
theorem late_eq (acc : List Rw) {l : List Nat} (h : l.length = 2) : leI (nI l) (lastI acc) = lateB acc (nI l) := by
  unfold lastI lateB
  cases g : acc.getLast? with
  | some p => rfl
  | none =>
    match l, h with
    | [a, b], _ =>
      show leI [(a : Int), (b : Int)] [-1, -1] = false
      unfold leI
      rw [if_neg (by omega), decide_eq_false (by omega)]
section
variable {K : PySem.W.Frag} {A : Adr}
theorem dt_step {d0 : D} {acc : List Rw} (u : Up acc) (hn : acc.length ≤ 1000) {x : Str} (hx : x.length ≤ 180) (ho : PyData.strOk x = true) {o4 o5 o6 o7 : B} {De : EndsD}
    (q0 : lineF x = none → De.rt (.int (acc.length : Nat))) (q1 : ∀ p, lineF x = some p → lateB acc p.1 = true → De.rt (.int (acc.length : Nat)))
    (q2 : ∀ p o4 o5 o6 o7, lineF x = some p → lateB acc p.1 = false → De.nx [.val d0, tabB (acc ++ [p]), .val (tupI p.1), .val (.str x), o4, o5, o6, o7]) :
    dtB K A [.val d0, tabB acc, .val (tupI (lastI acc)), .val (.str x), o4, o5, o6, o7] De := by
  obtain ⟨p1, p2⟩ := split_parts x ": " (by decide)
  have po := split_ok (y := ": ") ho
  unfold dtB
  simp only [fnS, Pu.startB, sSeq, sAsg, sIf, sRet, sNext, sNew, sApp, sPar, sDem, demB, fVar, fVarT, fC, fOp, fTst, fAnd, fOr, fNot, fNew, fLst, fTup, fNil, fCons, fSl, Pu.oAt, oNo, fCB, fCall, fIf, fChain, fRng1, fIt, fJoin, RLen, RI0, RAdd, RSl, RIsN, RTuple, gN, bD, List.map_cons, List.map_nil, List.cons_append, List.nil_append, List.length_cons, List.length_nil, List.replicate, Nat.reduceSub, Nat.reduceAdd, List.getElem?_cons_zero, List.getElem?_cons_succ, List.set_cons_zero, List.set_cons_succ, Option.some.injEq, B.val.injEq, D.int.injEq, D.bl.injEq, D.str.injEq, D.tup.injEq, D.lst.injEq, exists_eq_left', exists_eq_left, exists_and_left, ex_eq, true_and, and_true, List.cons.injEq, List.zip_cons_cons, List.zip_nil_right, List.foldl_cons, List.foldl_nil, wipeB, lenD, itD, Bool.not_true, Bool.not_false, Bool.false_eq_true, Bool.true_eq_false, if_true, if_false, ite_true, ite_false, D.dic.injEq, D.obj.injEq, and_assoc, List.map_map, fSplit, sPutPar, fLenT]
  have kl : (acc.map fun p => kK p.1).length = acc.length := List.length_map ..
  refine ⟨by decide, by rw [sizeLine_eq]; omega, by rw [sizeLine_eq]; omega, _, _, rfl, ?_⟩
  rw [kl]
  by_cases h2 : (Txt.split x ": ").length = 2
  · obtain ⟨a, b, e⟩ : ∃ a b, Txt.split x ": " = [a, b] := by
      match h : Txt.split x ": ", h2 with
      | [a, b], _ => exact ⟨a, b, rfl⟩
    rw [lineF_eq e] at q0 q1 q2
    rw [e] at p2 po ⊢
    have ha : a.length ≤ 180 := by have := p2 a (List.mem_cons_self ..); omega
    have hb : b.length ≤ 180 := by have := p2 b (List.mem_cons_of_mem _ (List.mem_cons_self ..)); omega
    have oa := po a (List.mem_cons_self ..)
    have ob := po b (List.mem_cons_of_mem _ (List.mem_cons_self ..))
    refine ⟨_, at0, due_numbers (by omega) oa ⟨_, rfl, ?_⟩⟩
    rw [if_pos (by rfl)]
    refine ⟨_, at1, due_state hb ob ?_⟩
    unfold lineF2 at q0 q1 q2
    cases n2 : stF b with
    | none =>
      rw [if_pos (by rfl)]
      exact q0 (by rw [n2]; cases numsF a <;> rfl)
    | some s =>
      have es : isN (opS (some s)) = false := rfl
      rw [es, if_neg (by decide)]
      cases n1 : numsF a with
      | none =>
        rw [if_pos (by rfl)]
        exact q0 (by rw [n1])
      | some l =>
        have ei : isN (opN (some l)) = false := rfl
        rw [ei, if_neg (by decide)]
        rw [n1, n2] at q0 q1 q2
        dsimp only at q0 q1 q2
        have el : ((nI l).map D.int).length = l.length := by rw [List.length_map, nI, List.length_map]
        refine ⟨_, rfl, _, rfl, ?_⟩
        rw [el]
        by_cases h3 : l.length = 2
        · rw [if_pos h3] at q0 q1 q2
          rw [show decide ((l.length : Int) = 2) = true from decide_eq_true (by omega), if_neg (by decide)]
          refine ⟨nI l, lastI acc, rfl, rfl, _, rfl, ?_⟩
          rw [late_eq acc h3]
          cases c : lateB acc (nI l) with
          | true =>
            rw [if_pos rfl]
            exact q1 (nI l, s) rfl c
          | false =>
            rw [if_neg (by decide)]
            obtain ⟨e1, e2⟩ := put_new (p := (nI l, s)) (up_new u (p := (nI l, s)) c).2
            refine ⟨by rw [sizeLine_eq]; decide, _, _, rfl, kK (nI l), keyTD_tup _, by rw [kl, sizeLine_eq]; omega, ?_⟩
            have := q2 (nI l, s) (.val (.lst ([a, b].map D.str))) (.val (.int (acc.length : Nat))) (.val (tupI (nI l))) (.val (stD s)) rfl c
            unfold tabB at this
            rw [← e1, ← e2] at this
            exact this
        · rw [if_neg h3] at q0
          rw [show decide ((l.length : Int) = 2) = false from decide_eq_false (by omega), if_pos (by rfl)]
          exact q0 rfl
  · obtain ⟨w, us, e⟩ : ∃ w us, Txt.split x ": " = w :: us := by
      have := split_pos x ": "
      cases e : Txt.split x ": " with
      | nil => rw [e] at this; simp at this
      | cons w us => exact ⟨w, us, rfl⟩
    have z0 := q0 (lineF_ne h2)
    rw [e] at p2 po h2 ⊢
    refine ⟨_, at0, due_numbers (by have := p2 w (List.mem_cons_self ..); omega) (po w (List.mem_cons_self ..)) ⟨_, rfl, ?_⟩⟩
    rw [List.length_map, show decide (((w :: us).length : Int) = 2) = false from decide_eq_false (by omega), if_neg (by decide), if_pos (by rfl)]
    exact z0
theorem dt_loop {d0 : D} {De : EndsD} {P : List Rw → Prop} (hk : ∀ acc o2 o3 o4 o5 o6 o7, acc.length ≤ 1000 → P acc → De.nx [.val d0, tabB acc, o2, o3, o4, o5, o6, o7]) :
    ∀ (l : List Str) (acc : List Rw) (o3 o4 o5 o6 o7 : B), acc.length + l.length ≤ 1000 → Up acc → (∀ x ∈ l, x.length ≤ 180 ∧ PyData.strOk x = true) → (match tabF l acc with | .inl k => De.rt (.int (k : Int)) | .inr r => P r) →
      forD (gN 3) (dtB K A) (l.map D.str) [.val d0, tabB acc, .val (tupI (lastI acc)), o3, o4, o5, o6, o7] De
  | [], acc, o3, o4, o5, o6, o7, hl, _, _, q => hk acc _ o3 o4 o5 o6 o7 (by simpa using hl) q
  | x :: l, acc, o3, o4, o5, o6, o7, hl, u, hx, q => by
    rw [List.length_cons] at hl
    obtain ⟨x1, x2⟩ := hx x (List.mem_cons_self ..)
    show dtB K A [.val d0, tabB acc, .val (tupI (lastI acc)), .val (.str x), o4, o5, o6, o7] _
    unfold tabF at q
    refine dt_step u (by omega) x1 x2 (fun e => ?_) (fun p e h => ?_) (fun p o4 o5 o6 o7 e h => ?_)
    · rw [e] at q
      exact q
    · rw [e] at q
      dsimp only at q
      rw [h, if_pos rfl] at q
      exact q
    · rw [e] at q
      dsimp only at q
      rw [h, if_neg (by decide)] at q
      have ih := dt_loop hk l (acc ++ [p]) (.val (.str x)) o4 o5 o6 o7 (by rw [List.length_append, List.length_singleton]; omega) (up_new u h).1 (fun y hy => hx y (List.mem_cons_of_mem _ hy)) q
      rw [lastI_new] at ih
      exact ih
/-- what the law tells of a text of a table -/
def dueD (z : Str) : D := match tabF (linesF z) [] with
  | .inl k => .int (k : Int)
  | .inr r => tabD r
theorem due_table {z : Str} (hz : z.length ≤ 180) (ho : PyData.strOk z = true) {Q : D → Prop} {Z : ZX} (q : Q (dueD z)) : G_due_table K A [.str z] Q Z := by
  obtain ⟨p1, p2⟩ := split_parts z "\n" (by decide)
  have po := split_ok (y := "\n") ho
  unfold G_due_table S_due_table
  show (sSeq _ (sSeq (sFor _ (gN 3) (dtB K A)) _)) _ _
  simp only [fnS, Pu.startB, sSeq, sAsg, sIf, sRet, sNext, sNew, sApp, sPar, sDem, demB, fVar, fVarT, fC, fOp, fTst, fAnd, fOr, fNot, fNew, fLst, fTup, fNil, fCons, fSl, Pu.oAt, oNo, fCB, fCall, fIf, fChain, fRng1, fIt, fJoin, RLen, RI0, RAdd, RSl, RIsN, RTuple, gN, bD, List.map_cons, List.map_nil, List.cons_append, List.nil_append, List.length_cons, List.length_nil, List.replicate, Nat.reduceSub, Nat.reduceAdd, List.getElem?_cons_zero, List.getElem?_cons_succ, List.set_cons_zero, List.set_cons_succ, Option.some.injEq, B.val.injEq, D.int.injEq, D.bl.injEq, D.str.injEq, D.tup.injEq, D.lst.injEq, exists_eq_left', exists_eq_left, exists_and_left, ex_eq, true_and, and_true, List.cons.injEq, List.zip_cons_cons, List.zip_nil_right, List.foldl_cons, List.foldl_nil, wipeB, lenD, itD, Bool.not_true, Bool.not_false, Bool.false_eq_true, Bool.true_eq_false, if_true, if_false, ite_true, ite_false, D.dic.injEq, D.obj.injEq, and_assoc, List.map_map, sFor, fSplit, sParT, fNeg]
  refine ⟨by rw [sizeLine_eq]; decide, ?_⟩
  rw [ne_str]
  refine ⟨_, rfl, ?_⟩
  have go : ∀ (l : List Str), l.length ≤ 1000 → (∀ x ∈ l, x.length ≤ 180 ∧ PyData.strOk x = true) → (match tabF l [] with | .inl k => Q (.int (k : Int)) | .inr r => Q (tabD r)) →
      forD (gN 3) (dtB K A) (l.map D.str) [.val (.str z), .dit [] [], .val (.tup [.int (-1), .int (-1)]), .un, .un, .un, .un, .un] { nx := fun ρ' => sDemT 1 (sRet (fVar 1)) ρ' { nx := fun x => Q D.non, rt := Q, ex := Z }, rt := Q, ex := Z } := fun l hl hx q => by
    refine dt_loop (De := _) (P := fun r => Q (tabD r)) (fun acc o2 o3 o4 o5 o6 o7 hl q => ?_) l [] _ _ _ _ _ (by show 0 + l.length ≤ 1000; omega) List.Pairwise.nil hx q
    show sRet (fVar 1) [.val (.str z), .val (tabD acc), o2, o3, o4, o5, o6, o7] _
    exact ⟨_, rfl, q⟩
  have q' : match tabF (linesF z) [] with | .inl k => Q (.int (k : Int)) | .inr r => Q (tabD r) := by
    unfold dueD at q
    cases c : tabF (linesF z) [] with
    | inl k => rw [c] at q; exact q
    | inr r => rw [c] at q; exact q
  unfold linesF at q'
  by_cases h : z = "none"
  · rw [if_pos h] at q'
    rw [decide_eq_true h, if_neg (by decide)]
    exact ⟨Nat.zero_le _, go [] (by decide) (fun x hx => by cases hx) q'⟩
  · rw [if_neg h] at q'
    rw [decide_eq_false h, if_pos (by decide)]
    exact ⟨by decide, by rw [sizeLine_eq]; omega, by rw [sizeLine_eq]; omega, go _ (by omega) (fun x hx => ⟨Nat.le_trans (p2 x hx) hz, po x hx⟩) q'⟩
end
end K70
set_option Elab.async false
set_option maxRecDepth 100000
set_option maxHeartbeats 1000000
set_option linter.all false
namespace Pu
open PySem PySem.Spec PyProof.Rows L2 Ly
end Pu
set_option Elab.async false
set_option maxRecDepth 100000
set_option maxHeartbeats 1000000
set_option linter.all false
namespace Pu
open PySem PySem.Spec PyProof.Rows L2 Ly LamX
def noT (H : Hp) : Hp := fun a => match H a with
  | some (.tbl _) => none
  | o => o
def NoTb (H : Hp) : Prop := ∀ a ps, H a ≠ some (.tbl ps)
section
variable {H H1 H2 H' W W1 W2 W' W0 H0 : Hp} {a : Addr} {o : HO} {T : List (Addr × Str)}
theorem noT_of (h : noT H a = some o) : H a = some o ∧ ∀ ps, o ≠ .tbl ps := by
  unfold noT at h
  split at h
  · cases h
  · rename_i n
    exact ⟨h, fun ps z => by subst z; exact n ps h⟩
theorem noT_at (h : H a = some o) (n : ∀ ps, o ≠ .tbl ps) : noT H a = some o := by
  unfold noT
  split
  · rename_i ps q
    rw [h] at q
    exact absurd (Option.some.inj q) (n ps)
  · exact h
theorem noT_none (h : H a = none) : noT H a = none := by
  unfold noT
  rw [h]
theorem noT_no : NoTb (noT H) := fun a ps h => (noT_of h).2 ps rfl
theorem NoTb.ne (n : NoTb W) (h : W a = some o) : ∀ ps, o ≠ .tbl ps := fun ps z => n a ps (by rw [h, z])
theorem noT_gx (n : NoTb W) (g : Gx W H) : Gx W (noT H) := fun a o h => noT_at (g a o h) (n.ne h)
theorem noT_lo : Gx (noT H) H := fun a o h => (noT_of h).1
theorem noT_free (g : Gx (noT H) H') (h : noT H' a = none) : noT H a = none := by
  cases q : noT H a with
  | none => rfl
  | some u =>
    rw [noT_at (g a u q) (noT_of q).2] at h
    cases h
theorem noT_rd {u : HO} (h : Rd W a u) (n : ∀ ps, u ≠ .tbl ps) : Rd (noT W) a u := by
  rcases h with h | ⟨o, h⟩
  · exact .inl (noT_at h n)
  · exact .inr ⟨o, noT_at h (fun ps z => by cases z)⟩
theorem noT_l {K : PySem.W.Frag} {vs : List V} (h : SqL K W a vs) : SqL K (noT W) a vs := by
  rcases h with h | h
  · exact .inl (noT_rd h (fun ps z => by cases z))
  · exact .inr h
mutual
theorem Rep.noT {K : PySem.W.Frag} {W : Hp} : ∀ {v : V} {d : D}, Rep K W v d → Rep K (Pu.noT W) v d
  | _, _, .non => .non
  | _, _, .bl b => .bl b
  | _, _, .int i => .int i
  | _, _, .str x => .str x
  | _, _, .lst h hs n => .lst (noT_at h (fun ps z => by cases z)) (RepAll.noT hs) n
  | _, _, .tup h hs n => .tup (noT_at h (fun ps z => by cases z)) (RepAll.noT hs) n
  | _, _, .dic h k hs n => .dic (noT_rd h (fun ps z => by cases z)) k (RepAll.noT hs) n
  | _, _, .obj h k hs => .obj (noT_at h (fun ps z => by cases z)) k (RepAll.noT hs)
  | _, _, .dice h => .dice (noT_at h (fun ps z => by cases z))
  | _, _, .cls C => .cls C
  | _, _, .exn h k hs => .exn (noT_at h (fun ps z => by cases z)) k (RepAll.noT hs)
  | _, _, .lsk h hs n => .lsk (noT_l h) (RepAll.noT hs) n
  | _, _, .dit h k hs n => .dit (noT_rd h (fun ps z => by cases z)) k (RepAll.noT hs) n
theorem RepAll.noT {K : PySem.W.Frag} {W : Hp} : ∀ {vs : List V} {ds : List D}, RepAll K W vs ds → RepAll K (Pu.noT W) vs ds
  | _, _, .nil => .nil
  | _, _, .cons h hs => .cons (Rep.noT h) (RepAll.noT hs)
end
/-- the tables may have grown -/
structure ExT (T : List (Addr × Str)) (W H W' H' : Hp) : Prop where
  ex : Ex W (noT H) W' H'
  tb : Tabs T H'
  nt : NoTb W'
theorem ExT.of (n : NoTb W) (t : Tabs T H) (e : Ex W H W' H') : ExT T W H (noT W') H' := ⟨⟨noT_lo.trans e.h, noT_gx n e.w, noT_lo.trans e.s, fun a o h => (e.n a o (noT_of h).1).imp id (fun z => z.imp noT_none id)⟩, t.ext e.h, noT_no⟩
theorem ExT.trans (x : ExT T W H W1 H1) (y : ExT T W1 H1 W2 H2) : ExT T W H W2 H2 := ⟨⟨fun a o h => y.ex.h a o (noT_at (x.ex.h a o h) (noT_of h).2), x.ex.w.trans y.ex.w, y.ex.s, fun a o h => by
  rcases y.ex.n a o h with h | h
  · exact x.ex.n a o h
  · exact .inr (h.imp (fun z => noT_free x.ex.h z) id)⟩, y.tb, y.nt⟩
theorem Ex.base (s : Ex W0 H0 W H) (n : NoTb H0) (e : Ex W (noT H) W' H') : Ex W0 H0 W' H' := ⟨fun a o h => e.h a o (noT_at (s.h a o h) (n.ne h)), s.w.trans e.w, e.s, fun a o h => by
  rcases e.n a o h with h | h
  · exact s.n a o h
  · refine .inr (h.imp (fun z => ?_) id)
    cases q : H0 a with
    | none => rfl
    | some u =>
      rw [noT_at (s.h a u q) (n.ne q)] at z
      cases z⟩
theorem ExT.base (s : Ex W0 H0 W H) (n : NoTb H0) (e : ExT T W H W' H') : Ex W0 H0 W' H' := Ex.base s n e.ex
end
section
variable {K : PySem.W.Frag} {H H1 H2 H' W W1 W2 W' W0 H0 : Hp} {ρ : Env} {σ : L2.St} {i : Nat} {T : List (Addr × Str)}
theorem BRep.noT {o : Option Addr} {b : B} {s : Option V} (h : BRep K H0 W H o b s) : BRep K H0 W (noT H) o b s := by
  cases b with
  | un => exact h
  | val d => exact h
  | lst ds =>
    obtain ⟨p, vs, h1, h2, h3, h4, h5, h6⟩ := h
    exact ⟨p, vs, h1, h2, h3, h4, noT_at h5 (fun ps z => by cases z), h6⟩
  | dic ks ds =>
    obtain ⟨p, vs, h1, h2, h3, h4, h5, h6⟩ := h
    exact ⟨p, vs, h1, h2, h3, h4, noT_at h5 (fun ps z => by cases z), h6⟩
  | obj a C ns ds =>
    obtain ⟨p, dx, vs, h0, h1, h2, h3, h4, h5, h6, h7⟩ := h
    exact ⟨p, dx, vs, h0, h1, h2, h3, h4, noT_at h5 (fun ps z => by cases z), noT_at h6 (fun ps z => by cases z), h7⟩
  | bor q ks ds =>
    obtain ⟨h1, h2, h3, od, kvs, h5, h6⟩ := h
    exact ⟨h1, h2, h3, od, kvs, noT_at h5 (fun ps z => by cases z), h6⟩
  | dit ks ds =>
    obtain ⟨p, vs, h1, h2, h3, h4, h5, h6⟩ := h
    exact ⟨p, vs, h1, h2, h3, h4, noT_at h5 (fun ps z => by cases z), h6⟩
/-- another base, below -/
theorem BRep.low {H0' : Hp} {o : Option Addr} {b : B} {s : Option V} (h : BRep K H0 W H o b s) (g : ∀ p, H0 p = none → H0' p = none) : BRep K H0' W H o b s := by
  cases b with
  | un => exact h
  | val d => exact h
  | lst ds =>
    obtain ⟨p, vs, h1, h2, h3, h4, h5⟩ := h
    exact ⟨p, vs, h1, h2, h3, g _ h4, h5⟩
  | dic ks ds =>
    obtain ⟨p, vs, h1, h2, h3, h4, h5⟩ := h
    exact ⟨p, vs, h1, h2, h3, g _ h4, h5⟩
  | obj a C ns ds =>
    obtain ⟨p, dx, vs, h0, h1, h2, h3, h4, h5, h6, h7, h8⟩ := h
    exact ⟨p, dx, vs, h0, h1, h2, h3, g _ h4, h5, h6, g _ h7, h8⟩
  | bor q ks ds => exact h
  | dit ks ds =>
    obtain ⟨p, vs, h1, h2, h3, h4, h5⟩ := h
    exact ⟨p, vs, h1, h2, h3, g _ h4, h5⟩
theorem BRep.wT {o : Option Addr} {b : B} {s : Option V} (h : BRep K H0 W H o b s) : BRep K H0 (Pu.noT W) H o b s := by
  cases b with
  | un => exact h
  | val d =>
    obtain ⟨h1, v, h2, h3⟩ := h
    exact ⟨h1, v, h2, h3.noT⟩
  | lst ds =>
    obtain ⟨p, vs, h1, h2, h3, h4, h5, h6, h7⟩ := h
    exact ⟨p, vs, h1, h2, noT_none h3, h4, h5, h6.noT, h7⟩
  | dic ks ds =>
    obtain ⟨p, vs, h1, h2, h3, h4, h5, h6, h7, h8⟩ := h
    exact ⟨p, vs, h1, h2, noT_none h3, h4, h5, h6, h7.noT, h8⟩
  | obj a C ns ds =>
    obtain ⟨p, dx, vs, h0, h1, h2, h3, h4, h5, h6, h7, h8, h9, h10⟩ := h
    exact ⟨p, dx, vs, h0, h1, h2, noT_none h3, h4, h5, h6, h7, h8, h9.noT, h10⟩
  | bor q ks ds =>
    obtain ⟨h1, h2, h3, od, kvs, h5, h6, h7, h8⟩ := h
    exact ⟨h1, h2, noT_none h3, od, kvs, h5, h6, h7.noT, h8⟩
  | dit ks ds =>
    obtain ⟨p, vs, h1, h2, h3, h4, h5, h6, h7, h8⟩ := h
    exact ⟨p, vs, h1, h2, noT_none h3, h4, h5, h6, h7.noT, h8⟩
theorem Sat.extE (s : Sat K W0 H0 W ρ σ H) (n : NoTb H0) (e : Ex W (Pu.noT H) W' H') : Sat K W0 H0 W' ρ σ H' := ⟨Ex.base s.ex n e, s.len, by
  obtain ⟨oa, h1, h2⟩ := s.rep
  refine ⟨oa, h1, fun i b hb => ?_⟩
  obtain ⟨v, h3, h4⟩ := h2 i b hb
  exact ⟨v, h3, h4.noT.ext e⟩⟩
theorem Sat.extT (s : Sat K W0 H0 W ρ σ H) (n : NoTb H0) (e : ExT T W H W' H') : Sat K W0 H0 W' ρ σ H' := s.extE n e.ex
theorem Sat.low {H0' : Hp} (s : Sat K W0 H0 W ρ σ H) (g : Gx H0' H0) : Sat K W0 H0' W ρ σ H := ⟨⟨g.trans s.ex.h, s.ex.w, s.ex.s, fun a o h => (s.ex.n a o h).imp id (fun z => z.imp g.free id)⟩, s.len, by
  obtain ⟨oa, h1, h2⟩ := s.rep
  refine ⟨oa, h1, fun i b hb => ?_⟩
  obtain ⟨v, h3, h4⟩ := h2 i b hb
  exact ⟨v, h3, h4.low fun p => g.free⟩⟩
theorem Sat.wT (s : Sat K W0 H0 W ρ σ H) (n : NoTb W0) : Sat K W0 H0 (Pu.noT W) ρ σ H := ⟨⟨s.ex.h, noT_gx n s.ex.w, noT_lo.trans s.ex.s, fun a o h => s.ex.n a o (noT_of h).1⟩, s.len, by
  obtain ⟨oa, h1, h2⟩ := s.rep
  refine ⟨oa, h1, fun i b hb => ?_⟩
  obtain ⟨v, h3, h4⟩ := h2 i b hb
  exact ⟨v, h3, h4.wT⟩⟩
def upT (H0 H : Hp) : Hp := fun a => match H0 a with
  | some o => some o
  | none => match H a with
    | some (.tbl ps) => some (.tbl ps)
    | some (.ext φ) => some (.ext φ)
    | _ => none
theorem upT_lo : Gx H0 (upT H0 H) := fun a o h => by
  unfold upT
  rw [h]
theorem upT_hi (g : Gx H0 H) : Gx (upT H0 H) H := fun a o h => by
  unfold upT at h
  split at h
  · rename_i q
    cases h
    exact g _ _ q
  · split at h
    · rename_i q
      cases h
      exact q
    · rename_i q
      cases h
      exact q
    · cases h
theorem upT_own {p : Addr} {o : HO} (h0 : H0 p = none) (h : H p = some o) (n1 : ∀ ps, o ≠ .tbl ps) (n2 : ∀ φ, o ≠ .ext φ) : upT H0 H p = none := by
  unfold upT
  rw [h0, h]
  cases o with
  | tbl ps => exact absurd rfl (n1 ps)
  | ext φ => exact absurd rfl (n2 φ)
  | _ => rfl
theorem upT_free {p : Addr} (h : upT H0 H p = none) : H0 p = none := upT_lo.free h
theorem upT_tabs (g : Gx H0 H) (t : Tabs T H) : Tabs T (upT H0 H) := fun p hp => by
  obtain ⟨ps, h1, h2, h3⟩ := t p hp
  have at_ : ∀ {a : Addr} {o : HO}, H a = some o → ((∃ ps, o = .tbl ps) ∨ ∃ φ, o = .ext φ) → upT H0 H a = some o := fun {a o} h k => by
    unfold upT
    split
    · rename_i u q
      rw [← g _ _ q, h]
    · rw [h]
      rcases k with ⟨ps, rfl⟩ | ⟨φ, rfl⟩ <;> rfl
  refine ⟨ps, at_ h1 (.inl ⟨_, rfl⟩), h2, fun pos cv hc => ?_⟩
  obtain ⟨c, e1, e2⟩ := h3 pos cv hc
  exact ⟨c, e1, at_ e2 (.inr ⟨_, rfl⟩)⟩
theorem BRep.upT {o : Option Addr} {b : B} {s : Option V} (h : BRep K H0 W H o b s) : BRep K (Pu.upT H0 H) W H o b s := by
  cases b with
  | un => exact h
  | val d => exact h
  | lst ds =>
    obtain ⟨p, vs, h1, h2, h3, h4, h5, h6⟩ := h
    exact ⟨p, vs, h1, h2, h3, upT_own h4 h5 (fun _ z => by cases z) (fun _ z => by cases z), h5, h6⟩
  | dic ks ds =>
    obtain ⟨p, vs, h1, h2, h3, h4, h5, h6⟩ := h
    exact ⟨p, vs, h1, h2, h3, upT_own h4 h5 (fun _ z => by cases z) (fun _ z => by cases z), h5, h6⟩
  | obj a C ns ds =>
    obtain ⟨p, dx, vs, h0, h1, h2, h3, h4, h5, h6, h7, h8⟩ := h
    exact ⟨p, dx, vs, h0, h1, h2, h3, upT_own h4 h5 (fun _ z => by cases z) (fun _ z => by cases z), h5, h6, upT_own h7 h6 (fun _ z => by cases z) (fun _ z => by cases z), h8⟩
  | bor q ks ds => exact h
  | dit ks ds =>
    obtain ⟨p, vs, h1, h2, h3, h4, h5, h6⟩ := h
    exact ⟨p, vs, h1, h2, h3, upT_own h4 h5 (fun _ z => by cases z) (fun _ z => by cases z), h5, h6⟩
theorem Sat.up0 (s : Sat K W0 H0 W ρ σ H) : Sat K W (Pu.upT H0 H) W ρ σ H := ⟨⟨upT_hi s.ex.h, Gx.refl _, s.ex.s, fun a o h => .inl h⟩, s.len, by
  obtain ⟨oa, h1, h2⟩ := s.rep
  refine ⟨oa, h1, fun i b hb => ?_⟩
  obtain ⟨v, h3, h4⟩ := h2 i b hb
  exact ⟨v, h3, h4.upT⟩⟩
theorem Ex.down (s : Ex W0 H0 W H) (e : Ex W (upT H0 H) W' H') : Ex W0 H0 W' H' := ⟨upT_lo.trans e.h, s.w.trans e.w, e.s, fun a o h => (e.n a o h).elim (s.n a o) (fun z => .inr (z.imp upT_free id))⟩
theorem Sat.down {ρ' : Env} {σ' : L2.St} (s : Ex W0 H0 W H) (t : Sat K W (Pu.upT H0 H) W' ρ' σ' H') : Sat K W0 H0 W' ρ' σ' H' := ⟨Ex.down s t.ex, t.len, by
  obtain ⟨oa, h1, h2⟩ := t.rep
  refine ⟨oa, h1, fun i b hb => ?_⟩
  obtain ⟨v, h3, h4⟩ := h2 i b hb
  exact ⟨v, h3, h4.low fun p => upT_free⟩⟩
end
def ZN : ZX := fun _ => False
def tQ (T : List (Addr × Str)) (K : PySem.W.Frag) (F : FE) : TE := fun σ H Qh => ∃ W0 H0 W ρ Q, Sat K W0 H0 W ρ σ H ∧ NoTb W ∧ Tabs T H ∧ F ρ Q ZN ∧ ∀ v W' H' d, ExT T W H W' H' → Rep K W' v d → Q d → Qh v H'
def tQB (T : List (Addr × Str)) (K : PySem.W.Frag) (F : FT) : TT := fun σ H Qh => ∃ W0 H0 W ρ Q, Sat K W0 H0 W ρ σ H ∧ NoTb W ∧ Tabs T H ∧ F ρ Q ZN ∧ ∀ b W' H', ExT T W H W' H' → Q b → Qh b H'
/-- the list of arguments -/
def tQA (T : List (Addr × Str)) (K : PySem.W.Frag) (F : FA) : TA := fun σ H Qh => ∃ W0 H0 W ρ Q, Sat K W0 H0 W ρ σ H ∧ NoTb W ∧ Tabs T H ∧ F ρ Q ZN ∧ ∀ vs W' H' ds, ExT T W H W' H' → RepAll K W' vs ds → Q ds → Qh vs H'
structure OkQ (T : List (Addr × Str)) (K : PySem.W.Frag) (W0 H0 W : Hp) (De : EndsD) (Dh : Ends) : Prop where
  nx : ∀ W' ρ' σ' H', Gx W W' → Sat K W0 H0 W' ρ' σ' H' → NoTb W' → Tabs T H' → De.nx ρ' → Dh.nx σ' H'
  rt : ∀ v W' H' d, Ex W0 H0 W' H' → NoTb W' → Tabs T H' → Rep K W' v d → De.rt d → Dh.rt v H'
  bk : ∀ W' ρ' σ' H', Gx W W' → Sat K W0 H0 W' ρ' σ' H' → NoTb W' → Tabs T H' → De.bk ρ' → Dh.bk σ' H'
  ct : ∀ W' ρ' σ' H', Gx W W' → Sat K W0 H0 W' ρ' σ' H' → NoTb W' → Tabs T H' → De.ct ρ' → Dh.ct σ' H'
  ex : De.ex = ZN
/-- a statement: the base holds no table -/
def tQS (T : List (Addr × Str)) (K : PySem.W.Frag) (W0 H0 : Hp) (S : FS) : TS := fun Dh σ H => ∃ W ρ De, Sat K W0 H0 W ρ σ H ∧ NoTb W ∧ Tabs T H ∧ S ρ De ∧ OkQ T K W0 H0 W De Dh
section
variable {X : Cx} {T : List (Addr × Str)} {K : PySem.W.Frag} {E : XK} {W0 H0 : Hp} {F G L : FE} {U V : FT} {A N : FA} {S S' : FS} {tg e a b : Expr} {es : List Expr} {pos pos' : Pos} {st : Stmt} {rest body : List Stmt} {i j : Nat}
theorem OkQ.up {W W1 : Hp} {De : EndsD} {Dh : Ends} (o : OkQ T K W0 H0 W De Dh) (g : Gx W W1) : OkQ T K W0 H0 W1 De Dh := ⟨fun W' ρ' σ' H' h => o.nx W' ρ' σ' H' (g.trans h), o.rt, fun W' ρ' σ' H' h => o.bk W' ρ' σ' H' (g.trans h), fun W' ρ' σ' H' h => o.ct W' ρ' σ' H' (g.trans h), o.ex⟩
/-- an expression as before -/
theorem tq_e (h : PE X e (tD K E F)) : PE X e (tQ T K F) := h.mono fun σ H Qh ⟨W0, H0, W, ρ, Q, s, n, t, f, k⟩ => ⟨W0, H0, W, ρ, Q, _, s, f, fun v W' H' d e r q => k v _ H' d (ExT.of n t e) r.noT q, fun _ _ _ _ _ _ _ z => z.elim⟩
theorem tq_a (h : PA X es (tDA K E A)) : PA X es (tQA T K A) := h.mono fun σ H Qh ⟨W0, H0, W, ρ, Q, s, n, t, f, k⟩ => ⟨W0, H0, W, ρ, Q, _, s, f, fun v W' H' d e r q => k v _ H' d (ExT.of n t e) r.noT q, fun _ _ _ _ _ _ _ z => z.elim⟩
/-- statements as before: their readings stand over any base -/
theorem okq_lift {W H : Hp} {ρ : Env} {σ : L2.St} {De : EndsD} {Dh : Ends} (s : Sat K W0 H0 W ρ σ H) (n : NoTb W) (t : Tabs T H) (o : OkQ T K W0 H0 W De Dh) : Ok K W (upT H0 H) E W De Dh := by
  have tb : ∀ {W' H' : Hp}, Ex W (upT H0 H) W' H' → Tabs T H' := fun e => (upT_tabs s.ex.h t).ext e.h
  have go : ∀ {W' H' : Hp} {ρ' : Env} {σ' : L2.St}, Gx W W' → Sat K W (upT H0 H) W' ρ' σ' H' → Gx W (noT W') ∧ Sat K W0 H0 (noT W') ρ' σ' H' := fun g s' => ⟨noT_gx n g, Sat.down s.ex (s'.wT n)⟩
  refine ⟨fun W' ρ' σ' H' g s' q => ?_, fun v W' H' d e r q => ?_, fun W' ρ' σ' H' g s' q => ?_, fun W' ρ' σ' H' g s' q => ?_, fun x cls dd W' H' e r z => ?_⟩
  · exact o.nx _ ρ' σ' H' (go g s').1 (go g s').2 noT_no (tb s'.ex) q
  · refine o.rt v (noT W') H' d ?_ noT_no (tb e) r.noT q
    have e' : Ex W0 H0 W' H' := Ex.down s.ex e
    exact ⟨e'.h, s.ex.w.trans (noT_gx n e.w), noT_lo.trans e'.s, fun a o h => e'.n a o (noT_of h).1⟩
  · exact o.bk _ ρ' σ' H' (go g s').1 (go g s').2 noT_no (tb s'.ex) q
  · exact o.ct _ ρ' σ' H' (go g s').1 (go g s').2 noT_no (tb s'.ex) q
  · rw [o.ex] at z
    exact z.elim
theorem tq_s (h : ∀ W0 H0, PS X st (tDS K W0 H0 E S)) : PS X st (tQS T K W0 H0 S) := ⟨fun pins s σ H D I ⟨W, ρ, De, sat, n, t, q, o⟩ => (h W (upT H0 H)).run pins s σ H D I ⟨W, ρ, De, sat.up0, q, okq_lift sat n t o⟩⟩
theorem tq_nil : PSs X [] (tQS T K W0 H0 sNext) := pss_nil.mono fun D σ H ⟨W, ρ, De, s, n, t, q, o⟩ => o.nx W ρ σ H (Gx.refl W) s n t q
theorem tq_seq (h1 : PS X st (tQS T K W0 H0 S)) (h2 : PSs X rest (tQS T K W0 H0 S')) : PSs X (st :: rest) (tQS T K W0 H0 (sSeq S S')) := (pss_cons h1 h2).mono fun D σ H ⟨W, ρ, De, s, n, t, q, o⟩ =>
  ⟨W, ρ, _, s, n, t, q, ⟨fun W' ρ' σ' H' g s' n' t' q' => ⟨W', ρ', De, s', n', t', q', o.up g⟩, o.rt, o.bk, o.ct, o.ex⟩⟩
theorem tq_one (h1 : PS X st (tQS T K W0 H0 S)) : PSs X [st] (tQS T K W0 H0 S) := pss_one h1
theorem tq_ret (hN : NoTb H0) (h : PE X e (tQ T K F)) : PS X (.Return (some e) pos) (tQS T K W0 H0 (sRet F)) := (ps_ret h).mono fun D σ H ⟨W, ρ, De, s, n, t, q, o⟩ =>
  ⟨W0, H0, W, ρ, _, s, n, t, by rw [← o.ex]; exact q, fun v W' H' d e r z => o.rt v W' H' d (ExT.base s.ex hN e) e.nt e.tb r z⟩
theorem tq_if (hN : NoTb H0) {c : Expr} {u v : List Stmt} (hc : PT X c (tQB T K U)) (ha : PSs X u (tQS T K W0 H0 S)) (hb : PSs X v (tQS T K W0 H0 S')) : PS X (.If c u v pos) (tQS T K W0 H0 (sIf U S S')) := (ps_if hc ha hb).mono fun D σ H ⟨W, ρ, De, s, n, t, q, o⟩ =>
  ⟨W0, H0, W, ρ, _, s, n, t, by rw [← o.ex]; exact q, fun b W' H' e z => by
    cases b with
    | true =>
      rw [if_pos rfl] at z
      exact iteT ⟨W', ρ, De, s.extT hN e, e.nt, e.tb, z, o.up e.ex.w⟩
    | false =>
      rw [if_neg (by decide)] at z
      exact iteF ⟨W', ρ, De, s.extT hN e, e.nt, e.tb, z, o.up e.ex.w⟩⟩
theorem tabs_upd {H : Hp} {p : Addr} {o u : HO} (t : Tabs T H) (h : H p = some o) (n1 : ∀ ps, o ≠ .tbl ps) (n2 : ∀ φ, o ≠ .ext φ) : Tabs T (upd H p u) := fun x hx => by
  obtain ⟨ps, h1, h2, h3⟩ := t x hx
  have e1 : x.1 ≠ p := fun z => by
    rw [z, h] at h1
    exact n1 _ (Option.some.inj h1)
  refine ⟨ps, by rw [upd_ne e1]; exact h1, h2, fun pos cv hc => ?_⟩
  obtain ⟨c, e2, e3⟩ := h3 pos cv hc
  refine ⟨c, e2, ?_⟩
  have e4 : c ≠ p := fun z => by
    rw [z, h] at e3
    exact n2 _ (Option.some.inj e3)
  rw [upd_ne e4]
  exact e3
/-- what is walked -/
def tQF (T : List (Addr × Str)) (K : PySem.W.Frag) (A : FA) : TI := fun σ H R => ∃ W0 H0 W ρ Q, Sat K W0 H0 W ρ σ H ∧ NoTb W ∧ Tabs T H ∧ A ρ Q ZN ∧ ∀ J W' H' ds, ExT T W H W' H' → IterF K W' J ds → Q ds → R J H'
theorem tq_itF (h : PE X e (tD K E F)) (hK : X.K = K := by rfl) : PI X tg e (tQF T K (fIt F)) := (pi_any (tq_e (T := T) h) hK).mono fun σ H R ⟨W0, H0, W, ρ, Q, s, n, t, f, k⟩ => ⟨W0, H0, W, ρ, _, s, n, t, f, fun v W1 H1 d e1 r ⟨ds, hd, q⟩ => (by
  cases d with
  | lst es =>
    cases hd
    cases r with
    | lst h2 h3 h4 => exact .inl ⟨_, rfl, ⟨_, SqL.of (e1.ex.s _ _ h2)⟩, k _ W1 H1 _ e1 (iter_list (H := H1) h2 h3) q⟩
  | tup es =>
    cases hd
    cases r with
    | tup h2 h3 h4 => have h2 := SqT.of (K := K) h2; exact .inr (.inl ⟨_, rfl, ⟨_, e1.ex.s.t h2⟩, k _ W1 H1 _ e1 (iter_tup h2 h3) q⟩)
  | str z =>
    have hd : (if z.length ≤ sizeLine then some (signsD z) else none) = some ds := hd
    by_cases hz : z.length ≤ sizeLine
    · rw [if_pos hz] at hd
      cases hd
      cases r
      exact .inr (.inr ⟨_, rfl, k _ W1 H1 _ e1 iter_str q⟩)
    · rw [if_neg hz] at hd
      cases hd
  | _ => cases hd)⟩
theorem tq_for {iter : Expr} {gh : TG} {g : FG} {vs : List Nat} (hN : NoTb H0) (hp : PassesOwn (model X.prog X.w) X.A X.env X.xe) (hc : X.calm = true) (hi : PI X tg iter (tQF T K A)) (hg : PG X tg gh) (gs : GSnd K gh g vs) (hb : PSs X body (tQS T K W0 H0 S))
    (hs : ∀ x, foldedSetIterable iter X.env x = pure x := by intro _; rfl) : PS X (.For tg iter body [] pos) (tQS T K W0 H0 (sFor A g S)) := (ps_for hp hc hi hg hb hs).mono fun D σ H ⟨W, ρ, De, s, n, t, q, o⟩ => by
  have q : A ρ (fun ds => forD g S ds ρ De) ZN := by rw [← o.ex]; exact q
  refine ⟨W0, H0, W, ρ, _, s, n, t, q, fun J W1 H1 ds e1 ⟨G, Y, hW, hG, hY⟩ q1 => ?_⟩
  refine for_it hW (D := D) (fun i σ' H' => ∃ W' ρ', Gx W1 W' ∧ Sat K W0 H0 W' ρ' σ' H' ∧ NoTb W' ∧ Tabs T H' ∧ forD g S (ds.drop i) ρ' De) ⟨W1, ρ, Gx.refl _, s.extT hN e1, e1.nt, e1.tb, q1⟩ ?_ ?_ ?_
  · rintro i σ' H' _ ⟨W', ρ', e2, s2, _⟩
    exact hG H' (e2.trans s2.see)
  · rintro i x σ' H2 H3 hi ⟨W2, ρ2, e2, s2, n2, t2, q2⟩ y
    obtain ⟨W3, d, hd, e3, r3⟩ := hY i H2 x H3 W2 hi e2 s2.see y
    have x3 := ExT.of n2 t2 e3
    have hdr : ds.drop i = d :: ds.drop (i + 1) := by
      rw [List.drop_eq_getElem_cons hi]
      congr 1
      rw [List.getElem?_eq_getElem hi] at hd
      exact Option.some.inj hd
    rw [hdr] at q2
    refine gs W0 H0 (noT W3) ρ2 σ' H3 x d _ _ (s2.extT hN x3) r3.noT q2 fun ρ3 σ3 s3 _ q3 => ?_
    exact ⟨noT W3, ρ3, _, s3, noT_no, x3.tb, q3, ⟨fun W' ρ' σ' H' g s' n' t' q' => ⟨W', ρ', (e2.trans x3.ex.w).trans g, s', n', t', q'⟩, o.rt, fun W' ρ' σ' H' g s' n' t' q' => o.nx W' ρ' σ' H' (((e1.ex.w.trans e2).trans x3.ex.w).trans g) s' n' t' q', fun W' ρ' σ' H' g s' n' t' q' => ⟨W', ρ', (e2.trans x3.ex.w).trans g, s', n', t', q'⟩, o.ex⟩⟩
  · rintro σ' H' ⟨W', ρ', e2, s2, n2, t2, q2⟩
    rw [List.drop_length] at q2
    exact o.nx W' ρ' σ' H' (e1.ex.w.trans e2) s2 n2 t2 q2
end
end Pu
set_option Elab.async false
set_option maxRecDepth 100000
set_option maxHeartbeats 1000000
set_option linter.all false
namespace Pu
open PySem PySem.Spec PyProof.Rows L2 Ly LamX
def spQ (T : List (Addr × Str)) (K : PySem.W.Frag) (n : Nat) (g : Fn) : Sp := fun vs H Qh _ => ∃ W ds Q, Gx W H ∧ NoTb W ∧ Tabs T H ∧ RepAll K W vs ds ∧ ds.length = n ∧ g ds Q ZN ∧ ∀ v W' H' d, ExT T W H W' H' → Rep K W' v d → Q d → Qh v H'
section
variable {X : Cx} {T : List (Addr × Str)} {K : PySem.W.Frag} {E : XK} {W0 H0 : Hp} {F G L : FE} {U V : FT} {A N : FA} {S S' : FS} {g : Fn} {tg e a b : Expr} {es : List Expr} {p pos pos' : Pos} {st : Stmt} {rest body : List Stmt} {i j k n : Nat} {x : Str}
theorem d_tryP {P : L2.St → Hp → Prop} {body : List Stmt} {h1 : ExceptHandler} {hs : List ExceptHandler} {qs : List HC} {pos : Pos} {S : FS} (st : X.stack = X.env :: X.outer) (fr : X.env.frame = some X.env.locals) (nd : X.N.Nodup) (tk : Takes X (fun cls d _ H => E cls d H))
    (hb : ∀ (E' : XK) (pn : List (Addr × Obj)) (xe : Value → Shared → Prop), Takes (X.tr pn xe) (fun cls d _ H => E' cls d H) → PassesOwn (model X.prog X.w) X.A X.env xe → PSs (X.tr pn xe) body (fun Dh σ H => P σ H ∧ tDS K W0 H0 E' S Dh σ H))
    (hh : HcOk X K W0 H0 E (h1 :: hs) qs) (hK : X.K = K := by rfl) : PS X (.Try body (h1 :: hs) [] [] pos) (fun Dh σ H => P σ H ∧ tDS K W0 H0 E (sTry K S qs) Dh σ H) := by
  subst hK
  have key := ps_tries (pos := pos) (tb := fun W Dh σ H => P σ H ∧ tDS X.K W0 H0 (fun cls d H => ∀ σ : L2.St, σ.length = X.N.length → W cls d σ H) S Dh σ H) st fr nd tk (fun W pn xe t p => hb _ pn xe (fun u s' ⟨a, B, sI, pins, σ, H, cls, d, e1, I, nb, up, sky, na, os, ag, w⟩ =>
    t u s' ⟨a, B, sI, pins, σ, H, cls, d, e1, I, nb, up, sky, na, os, ag, w σ I.len⟩) p) hh.cls
  refine ⟨fun pins s σ H D I h => key.run pins s σ H D I ?_⟩
  obtain ⟨hP, W, ρ, De, sat, q, ok⟩ := h
  have hρ : ρ.length = X.N.length := by rw [← sat.len]; exact I.len
  exact ⟨hP, W, ρ, _, sat, q, ⟨ok.nx, ok.rt, ok.bk, ok.ct, fun x cls dd W' H' e r z σ' hl => chain_w ok e r (by rw [hρ]; exact hl) z⟩⟩
end
abbrev RB := (D → Prop) → ZX → Prop
/-- tl answers as R does, from Wc and H1 on -/
def LamR (K : PySem.W.Frag) (Wc H1 : Hp) (R : RB) (tl : XK → Hp → VK → Prop) : Prop :=
  ∀ (E' : XK) (W HZ : Hp) (Q : D → Prop) (Z : ZX) (Qh : VK), Ex Wc H1 W HZ → R Q Z → (∀ v W' H' d, Ex W HZ W' H' → Rep K W' v d → Q d → Qh v H') → XC K E' W HZ Z → tl E' HZ Qh
/-- the promise of a def that calls what it got: S, in terms of what the call answers -/
def TGot (K : PySem.W.Frag) (N : Nat) (S : RB → FS) : (XK → Hp → VK → Prop) → Hp → VK → Prop := fun tl H1 Qh =>
  ∃ Wc R Q, Gx Wc H1 ∧ LamR K Wc H1 R tl ∧ S R (List.replicate N .un) { nx := fun _ => Q .non, rt := Q, ex := ZN } ∧ ∀ v W' H' d, Ex Wc H1 W' H' → Rep K W' v d → Q d → Qh v H'
/-- x(lambda: body) -/
def fLam (N : Nat) (S : RB → FS) (F : FE) : FE := fun ρ Q _ => S (F ρ) (List.replicate N .un) { nx := fun _ => Q .non, rt := Q, ex := ZN }
section
variable {X : Cx} {T : List (Addr × Str)} {K : PySem.W.Frag}
theorem tq_lam {Nn : Nat} {S : RB → FS} {x a : Str} {g c P : Addr} {k : Nat} {pg : Arguments} {bg : List Stmt} {sg : Scope} {dV kV doc pm cdv ct oc : Value} {an od : Option Addr} {osl : Array (Option Value)} {Ng : List Str}
    {params : Arguments} {body : Expr} {scope : Scope} {F : FE} {p lpos pos : Pos} (hg : Gl X x) (hm : X.mg x = some (.ref g)) (hk : PySem.W.keepIn X.K (.ref g) = true)
    (lk : X.K.lookup g = some ⟨oc, od, .func (PySem.W.fnOf x x pg bg sg dV kV doc pm an cdv ct), osl⟩) (hcg : PySem.W.codeIn X.K cdv x = true) (hb : L2.Binds X.K (PySem.W.fnOf x x pg bg sg dV kV doc pm an cdv ct) [a] []) (Sg : FnScope Ng [a] sg) (hNg : Ng[0]? = some a) (hva : Vis sg a)
    (hG : GivesTo X Ng x sg g cdv bg a (X.env.qual ++ "<lambda>") (TGot X.K Nn S))
    (TB : TabB X.base X.mg c P) (hcode : X.env.code = .ref c) (hmT : (P, X.env.qual ++ "<lambda>") ∈ T) (hu : ∀ p ∈ T, p.1 = P → p.2 = X.env.qual ++ "<lambda>") (hr : Room (k + 2) X.A) (L : LamS X.env.scope scope) (hdef : defaultsOf params X.env = ([], []))
    (hbind : ∀ (q : Str) (cl : List (Str × Addr)) (pm cv ctv : Value), bindArgs (PySem.W.kla_fn "<lambda>" q params body scope cl pm cv ctv) ⟨[], []⟩ = pure [])
    (hbody : ∀ (A : Around) (outer : List PySem.Env) (s : Shared) (H : Hp) (E : XK) (f c' : Addr), Room k (A.deeper (lamEnv X scope s.heap.objs.size f c')) → PE (lamCx X A outer s H E scope f c') body (tD K E F))
    (hK : X.K = K := by rfl) (hdb : (x == ("__debug__" : Str)) = false := by decide) (hd : (a == ("__debug__" : Str)) = false := by decide) (hcd : (a == ("__classdict__" : Str)) = false := by decide) :
    PE X (.Call (.Name x p) [.Lambda params body scope lpos] [] pos) (tQ T K (fLam Nn S F)) := by
  subst hK
  refine (pe_lamcall hg hm hk lk hcg hb Sg hNg hva hG TB hcode hmT hu hr L hdef hbind hbody hdb hd hcd).mono fun σ H Qh ⟨W0, H0, W, ρ, Q, s, nw, tb, f, kk⟩ => ?_
  refine ⟨tb, fun H1 eN T1 => ?_⟩
  have g1 : Gx W H1 := fun a o h => eN a o (s.ex.s a o h) (nw.ne h)
  refine ⟨W, F ρ, Q, g1, fun E' W2 HZ Q2 Z2 Qh2 e2 r2 k2 x2 => ?_, f, fun v W' H' d e r q => ?_⟩
  · -- the lambda's body, asked at HZ
    refine ⟨W0, noT H0, W2, ρ, Q2, Z2, ?_, r2, k2, x2⟩
    exact (s.low noT_lo).extE noT_no ⟨fun a o h => e2.h a o (eN a o (noT_of h).1 (noT_of h).2), e2.w, e2.s, fun a o h => (e2.n a o h).imp id (fun z => z.imp (fun z => by
      cases q : noT H a with
      | none => rfl
      | some u =>
        rw [eN a u (noT_of q).1 (noT_of q).2] at z
        cases z) id)⟩
  · refine kk v (noT W') H' d ⟨⟨fun a o h => e.h a o (eN a o (noT_of h).1 (noT_of h).2), noT_gx nw e.w, noT_lo.trans e.s, fun a o h => (e.n a o (noT_of h).1).imp id (fun z => z.imp (fun z => by
      cases q : noT H a with
      | none => rfl
      | some u =>
        rw [eN a u (noT_of q).1 (noT_of q).2] at z
        cases z) id)⟩, T1.ext e.h, noT_no⟩ r.noT q
end
def GotP (f c' : Addr) (q : Str) : L2.St → Hp → Prop := fun σ H => σ[0]? = some (some (.ref f)) ∧ H c' = some (CodeO c' q)
section
variable {X : Cx} {K : PySem.W.Frag} {Wc H1 : Hp} {E : XK} {R : RB} {tl : XK → Hp → VK → Prop} {f c' : Addr} {q a : Str} {p1 p2 p3 p4 : Pos}
def GotA (X : Cx) (f c' : Addr) (q a : Str) (tl : XK → Hp → VK → Prop) (E : XK) : Prop := ∀ (p1 p2 : Pos), PE X (.Call (.Name a p1) [] [] p2) (fun σZ HZ Q => σZ[0]? = some (some (.ref f)) ∧ HZ c' = some (CodeO c' q) ∧ tl E HZ Q)
/-- return [a()] -/
def sGotL (R : RB) : FS := fun _ De => R (fun d => De.rt (.lst [d])) De.ex
theorem d_gotL (act : GotA X f c' q a tl E) (lam : LamR K Wc H1 R tl) : PS X (.Return (some (.List [.Call (.Name a p1) [] [] p2] p3)) p4) (fun Dh σ H => GotP f c' q σ H ∧ tDS K Wc H1 E (sGotL R) Dh σ H) := (ps_ret (pe_lst (pa_cons (act p1 p2) pa_nil))).mono fun D σ H ⟨⟨g1, g2⟩, W, ρ, De, s, r, o⟩ => by
  refine ⟨g1, g2, lam E W H _ _ _ s.ex r (fun v W' H' d e r' z => ?_) (o.xc s)⟩
  refine ⟨by show 1 ≤ sizeLine; rw [sizeLine_eq]; omega, fun p hp => ?_⟩
  have e2 := Ex.new (o := .lst [v]) e.s hp
  exact o.rt _ _ _ _ ((s.ex.trans e).trans e2) (.lst upd_same (.one (r'.gx e2.w)) (by show 1 ≤ sizeLine; rw [sizeLine_eq]; omega)) z
theorem got_of {Nn : Nat} {S : RB → FS} {Ng : List Str} {x : Str} {sg : Scope} {g : Addr} {cdg : Value} {bg : List Stmt} (hNn : ∀ f : Addr, (L2.start Ng [V.ref f]).length = Nn) (h0 : ∀ f : Addr, (L2.start Ng [V.ref f])[0]? = some (some (V.ref f)))
    (hb : ∀ (f c' : Addr) (s : Shared) (H : Hp) (tl : XK → Hp → VK → Prop) (R : RB) (Wc : Hp),
      (∀ (E : XK) (pn : List (Addr × Obj)) (xe : Value → Shared → Prop), Takes ((cxOf C8.CX0 X.prog X.w X.K X.mg X.base Ng x sg g cdg X.A X.stack s H C8.E0).tr pn xe) (fun cls d _ H => E cls d H) → GotA ((cxOf C8.CX0 X.prog X.w X.K X.mg X.base Ng x sg g cdg X.A X.stack s H C8.E0).tr pn xe) f c' q a tl E) →
      LamR X.K Wc H R tl → PSs (cxOf C8.CX0 X.prog X.w X.K X.mg X.base Ng x sg g cdg X.A X.stack s H C8.E0).nox bg (fun Dh σ H' => GotP f c' q σ H' ∧ tDS X.K Wc H C8.E0 (S R) Dh σ H')) :
    GivesTo X Ng x sg g cdg bg a q (TGot X.K Nn S) := by
  rintro f c' s H Qh tl act hc ⟨Wc, R, Q, g1, lam, hS, k⟩
  refine ⟨_, hb f c' s H tl R Wc (fun E pn xe tk p1 p2 => act _ pn xe E p1 p2 tk fun _ _ _ _ h => h) lam, ⟨h0 f, hc⟩, Wc, List.replicate Nn .un, _, rep_un (Ex.refl g1) (hNn f), hS, ⟨fun W' ρ' σ' H' _ s' z => k _ W' H' _ s'.ex .non z, fun v W' H' d e r z => k v W' H' d e r z, (fun _ _ _ _ _ _ z => z.elim), (fun _ _ _ _ _ _ z => z.elim), fun _ _ _ _ _ _ _ z => z.elim⟩⟩
end
end Pu
set_option Elab.async false
set_option maxRecDepth 100000
set_option maxHeartbeats 1000000
set_option linter.all false
namespace Pu
open PySem PySem.Spec PyProof.Rows L2 Ly LamX
theorem Sat.noT {K : PySem.W.Frag} {W0 H0 W H : Hp} {ρ : Env} {σ : L2.St} (s : Sat K W0 H0 W ρ σ H) (n0 : NoTb H0) (n : NoTb W) : Sat K W0 H0 W ρ σ (Pu.noT H) := ⟨⟨noT_gx n0 s.ex.h, s.ex.w, noT_gx n s.ex.s, s.ex.n⟩, s.len, by
  obtain ⟨oa, h1, h2⟩ := s.rep
  refine ⟨oa, h1, fun i b hb => ?_⟩
  obtain ⟨v, h3, h4⟩ := h2 i b hb
  exact ⟨v, h3, h4.noT⟩⟩
def tQN (T : List (Addr × Str)) (K : PySem.W.Frag) (N : FA) : TE := fun σ H Qh => ∃ W0 H0 W ρ Q, Sat K W0 H0 W ρ σ H ∧ NoTb W ∧ Tabs T H ∧ N ρ Q ZN ∧
  ∀ p vs W' H' ds, ExT T W H W' H' → noT H p = none → W' p = none → H' p = some (.lst vs) → RepAll K W' vs ds → vs.length ≤ sizeLine → Q ds → Qh (.ref p) H'
section
variable {X : Cx} {T : List (Addr × Str)} {K : PySem.W.Frag} {E : XK} {W0 H0 : Hp} {F G L : FE} {U U2 : FT} {A N : FA} {S S' : FS} {g : Fn} {tg e a b : Expr} {es rest : List Expr} {p pos pos' : Pos} {st : Stmt} {i j k n : Nat} {x : Str}
theorem Sat.go {W H W' H' : Hp} {ρ : Env} {σ : L2.St} (s : Sat K W0 H0 W ρ σ H) (e : ExT T W H W' H') (n0 : NoTb W) : ∃ W1 H1, Sat K W1 H1 W' ρ σ H' := ⟨W0, Pu.noT H0, (s.low noT_lo).extT noT_no e⟩
theorem tq_op_to {r : R2} {R : D → D → (D → Prop) → Prop} (hR : RSnd K r R) {σ : L2.St} {H : Hp} {Qh : VK} (h : tQ T K (fOp R F G) σ H Qh) : tOp r (tQ T K F) (tQ T K G) σ H Qh := by
  obtain ⟨W0, H0, W, ρ, Q, s, n, t, f, k⟩ := h
  refine ⟨W0, H0, W, ρ, _, s, n, t, f, fun v W1 H1 d e1 r1 g => ?_⟩
  obtain ⟨W2, H2, s2⟩ := s.go e1 n
  refine ⟨W2, H2, W1, ρ, _, s2, e1.nt, e1.tb, g, fun v2 W3 H3 d2 e2 r2 q => ?_⟩
  exact hR W3 H3 v v2 d d2 Q Qh e2.ex.s (.val (r1.gx e2.ex.w)) (.val r2) q fun v4 W4 H4 d4 e4 r4 q4 => k v4 _ H4 d4 ((e1.trans e2).trans (ExT.of e2.nt e2.tb e4)) r4.noT q4
theorem tq_cmp {op : CmpOp} {r : R2} {R : D → D → (D → Prop) → Prop} (ho : OpR X (compareOp op) r) (hR : RSnd K r R) (ha : PE X a (tQ T K F)) (hb : PE X b (tQ T K G)) (hm : behindInMarks op b = false) : PE X (.Compare a [op] [b] pos) (tQ T K (fOp R F G)) := (pe_cmpR ho ha hb hm).mono fun _ _ _ h => tq_op_to hR h
theorem tqt_to {σ : L2.St} {H : Hp} {Qh : Bool → Hp → Prop} (h : tQB T K (fTst F) σ H Qh) : tQ T K F σ H fun x H1 => ∃ c, x = .bl c ∧ Qh c H1 := by
  obtain ⟨W0, H0, W, ρ, Q, s, n, t, f, k⟩ := h
  refine ⟨W0, H0, W, ρ, _, s, n, t, f, fun v W' H' d e r ⟨b, z, q⟩ => ?_⟩
  subst z
  cases r
  exact ⟨b, rfl, k b W' H' e q⟩
theorem tq_tcmp {op : CmpOp} {r : R2} {R : D → D → (D → Prop) → Prop} (ho : OpR X (compareOp op) r) (hR : RSnd K r R) (ha : PE X a (tQ T K F)) (hb : PE X b (tQ T K G)) (hm : behindInMarks op b = false) : PT X (.Compare a [op] [b] pos) (tQB T K (fTst (fOp R F G))) :=
  (pt_cmpR ho ha hb hm).mono fun σ H Qh h => tq_op_to hR (tqt_to h)
theorem tq_test (h : PE X e (tQ T K F)) (he : ∀ whole, isTrue e X.env whole = (do let v ← whole; standAt e.pos; holding [v] (truthy v)) := by intro _; rfl) : PT X e (tQB T K (fTst F)) := (pt_val h he).mono fun _ _ _ h => tqt_to h
theorem tq_not (h : PT X a (tQB T K U)) : PT X (.UnaryOp .Not a pos) (tQB T K (fNot U)) := (pt_not h).mono fun σ H Qh ⟨W0, H0, W, ρ, Q, s, n, t, f, k⟩ => ⟨W0, H0, W, ρ, _, s, n, t, f, fun c W1 H1 e1 q => k _ W1 H1 e1 q⟩
theorem tq_anil : PA X [] (tQA T K fNil) := pa_nil.mono fun σ H Qh ⟨W0, H0, W, ρ, Q, s, n, t, f, k⟩ => k [] _ H [] (ExT.of n t (Ex.refl s.ex.s)) .nil f
theorem tq_acons (ha : PE X e (tQ T K F)) (hr : PA X es (tQA T K A)) (hs : starEach (e :: es) X.env = (false, eval e X.env) :: starEach es X.env := by rfl) : PA X (e :: es) (tQA T K (fCons F A)) := (pa_cons ha hr hs).mono fun σ H Qh ⟨W0, H0, W, ρ, Q, s, n, t, f, k⟩ =>
  ⟨W0, H0, W, ρ, _, s, n, t, f, fun v W1 H1 d e1 r q => by
    obtain ⟨W2, H2, s2⟩ := s.go e1 n
    exact ⟨W2, H2, W1, ρ, _, s2, e1.nt, e1.tb, q, fun vs W3 H3 ds e3 rs q3 => k _ W3 H3 _ (e1.trans e3) (.cons (r.gx e3.ex.w) rs) q3⟩⟩
theorem reps_ts {W H : Hp} : ∀ {vs : List V} {ds : List D}, RepAll K W vs ds → RepTs K W H vs ds
  | _, _, .nil => .nil
  | _, _, .cons r rs => .cons (.val r) (reps_ts rs)
theorem tq_cb {r : List V → Hp → VK → Prop} {R : List D → (D → Prop) → Prop} {idn : String} (hc : CallR X (.builtin idn) r) (hR : CSnd K r R) (hg : Gl X x) (hm : X.mg x = none) (hv : bootBuiltins x = some (.builtin idn)) (ha : PA X (e :: es) (tQA T K A)) (hn : x ≠ "__name__" := by decide) (hdb : (x == ("__debug__" : Str)) = false := by decide)
    (hs : starEach (e :: es) X.env = (false, eval e X.env) :: starEach es X.env := by rfl) (hpl : (backTo pos (starEach es X.env)).any (·.1) = false := by rfl) : PE X (.Call (.Name x p) (e :: es) [] pos) (tQ T K (fCB R A)) :=
  (pe_callB hc hg hm hv ha hn hdb hs hpl).mono fun σ H Qh ⟨W0, H0, W, ρ, Q, s, n, t, f, k⟩ => ⟨W0, H0, W, ρ, _, s, n, t, f, fun vs W1 H1 ds e1 r1 q => hR W1 H1 vs ds Q Qh e1.ex.s (reps_ts r1) q fun v W2 H2 d e2 r2 q2 => k v _ H2 d (e1.trans (ExT.of e1.nt e1.tb e2)) r2.noT q2⟩
theorem tq_n (h : PE X e (tQN T K N)) : PE X e (tQ T K (fNew N)) := h.mono fun σ H Qh ⟨W0, H0, W, ρ, Q, s, n, t, f, k⟩ => ⟨W0, H0, W, ρ, _, s, n, t, f, fun p vs W' H' ds e hp hw h' r hl q => by
  refine k _ (upd W' p (.lst vs)) H' (.lst ds) ⟨e.ex.see hp hw h', e.tb, fun a ps z => ?_⟩ (.lst upd_same (r.gx (Gx.new hw)) hl) q
  by_cases c : a = p
  · subst c
    rw [upd_same] at z
    cases z
  · rw [upd_ne c] at z
    exact e.nt a ps z⟩
end
end Pu
set_option Elab.async false
set_option maxRecDepth 100000
set_option maxHeartbeats 1000000
set_option linter.all false
namespace Pu
open PySem PySem.Spec PyProof.Rows L2 Ly LamX
section
variable {P : Program} {w : World} {K : PySem.W.Frag} {mg : Str → Option Value} {base : Heap} {T : List (Addr × Str)}
theorem fng_xl {x qual : Str} {st : Stmt} {f : Addr} {fd : FuncData} {N ps : List Str} {k : Nat} {sp : Sp} (F : Fun K x qual st f fd) (S : FnScope N ps (defScope st)) (hlen : ∀ vs H Q E, sp vs H Q E → vs.length = ps.length)
    (hbody : ∀ (cdv : Value) (A : Around) (outer : List PySem.Env) (s : Shared) (H : Hp) (vs : List V) (Q : VK) (E : XK), Room k (A.deeper (envOfC qual (defScope st) s.heap.objs.size f cdv)) → A.guards = some [] → fd.code = cdv → sp vs H Q E →
      ∃ t, PSs (cxOf (L2.CX P w) P w K mg base N qual (defScope st) f cdv A outer s H E) (defBody st) t ∧ t { nx := fun _ H' => Q .non H', rt := Q } (L2.start N vs) H) : FnG P w K mg base (L2.CX P w) (k + 1) f fd ps sp := by
  obtain ⟨oc, od, kV, doc, pm, an, cdv, ct, osl, hfd, look, code⟩ := F.ex
  subst hfd
  refine ⟨hlen, fun A outer s H args us vs Q E room gd env bnd rv want => ?_⟩
  have keepB : ∀ b o, base.get? b = some o → s.heap.get? b = some o := fun b o e => (env.bs b o e).1
  have inK : K.In s.heap := env.mod.kin.keeps keepB
  have noLim : s.heap.NoLimit := env.mod.nolimit.keeps keepB
  have kinds : ∀ y ∈ ps.zip us, (defScope st).names.lookup y.1 = some .local ∨ ((defScope st).names.lookup y.1 = some .cell ∧ ((cellsFrom (s.heap.objs.size + 1) (defScope st).names []).lookup y.1).isSome = true) := by
    rintro ⟨n, v⟩ hy
    rcases S.par n (List.of_mem_zip hy).1 with q | q
    · exact .inl q
    · exact .inr ⟨q, PySem.W.cellsFrom_some _ _ _ (.inl q)⟩
  refine codeAny_call_function room.depth (inK _ _ look) rfl S.co S.gen rfl (PySem.W.codeRec_of inK code) (bnd _ _ _ _ ?_)
  refine wpAny_newFunctionEnv_cells S.kind kinds fun ev hev s1 inside => ?_
  subst hev
  refine ⟨noLim.keeps inside.toInCall.keep, codeAny_func ?_⟩
  obtain ⟨t, ht, hq⟩ := hbody cdv A outer s H vs Q E (room.deeper _) gd rfl want
  have I0 := inv_start (CX := L2.CX P w) (E := E) S room.hd env (hlen _ _ _ _ want) rv inside
  refine wpAny_mono (ht.run [] s1 (L2.start N vs) H _ I0 hq) (fun fl s' done => ?_) (fun _ _ z => z)
  cases fl with
  | ret u =>
    obtain ⟨v, σ', H', J, r2, q2⟩ := done
    exact ⟨v, H', J.os, J.bare, J.base, J.hok, r2, q2⟩
  | next =>
    obtain ⟨σ', H', J, q2⟩ := done
    exact ⟨.non, H', J.os, J.bare, J.base, J.hok, rfl, q2⟩
  | brk =>
    obtain ⟨_, _, _, q2⟩ := done
    exact q2.elim
  | cont =>
    obtain ⟨_, _, _, q2⟩ := done
    exact q2.elim
/-- a def that makes lambdas or calls one that does, where no text of a container is under way -/
theorem fn_qG {x qual : Str} {st : Stmt} {f : Addr} {fd : FuncData} {N ps : List Str} {k n : Nat} {g : Fn} {S : FS} (F : Fun K x qual st f fd) (Sc : FnScope N ps (defScope st)) (hn : ps.length = n)
    (hbody : ∀ (cdv : Value) (A : Around) (outer : List PySem.Env) (s : Shared) (H : Hp) (E : XK) (W0 : Hp), Room k (A.deeper (envOfC qual (defScope st) s.heap.objs.size f cdv)) → A.guards = some [] → fd.code = cdv →
      PSs (cxOf (L2.CX P w) P w K mg base N qual (defScope st) f cdv A outer s H E) (defBody st) (tQS T K W0 (noT H) S)) (hg : ∀ ds Q, ds.length = n → g ds Q ZN → fnS N.length S ds Q ZN) : FnG P w K mg base (L2.CX P w) (k + 1) f fd ps (spQ T K n g) :=
  fng_xl F Sc (fun vs H Q E ⟨W, ds, _, _, _, _, r, hl, _⟩ => by rw [r.len, hl, hn]) fun cdv A outer s H vs Q E hr gd hc ⟨W, ds, Qd, sw, nw, tb, r, hl, hf, k⟩ =>
    ⟨_, hbody cdv A outer s H E W hr gd hc, W, startB N.length ds, { nx := fun _ => Qd .non, rt := Qd, ex := ZN }, (rep_start sw rfl r).low noT_lo, nw, tb, hg ds Qd hl hf, ⟨fun W' ρ' σ' H' _ s' n' t' q => k _ W' H' _ ⟨s'.ex, t', n'⟩ .non q, fun v W' H' d e n t r q => k v W' H' d ⟨e, t, n⟩ r q, (fun _ _ _ _ _ _ _ _ z => z.elim), (fun _ _ _ _ _ _ _ _ z => z.elim), rfl⟩⟩
structure CalQG (T : List (Addr × Str)) (P : Program) (w : World) (K : PySem.W.Frag) (mg : Str → Option Value) (base : Heap) (x : Str) (k n : Nat) (g : Fn) : Prop where
  ex : ∃ (f : Addr) (fd : FuncData) (ps : List Str), FnG P w K mg base (L2.CX P w) k f fd ps (spQ T K n g) ∧ mg x = some (.ref f) ∧ PySem.W.keepIn K (.ref f) = true ∧ Binds K fd ps []
end
section
variable {X : Cx} {T : List (Addr × Str)} {K : PySem.W.Frag} {E : XK} {W0 H0 : Hp} {F G L : FE} {A N : FA} {g : Fn} {tg e a b : Expr} {es : List Expr} {p pos : Pos} {i j k n : Nat} {x : Str}
theorem tq_callG (c : CalQG T X.prog X.w X.K X.mg X.base x k n g) (hr : Room k X.A) (gd : X.A.guards = some []) (hg : Gl X x) (ha : PA X (e :: es) (tQA T K A)) (hK : X.K = K := by rfl) (hdb : (x == ("__debug__" : Str)) = false := by decide)
    (he : starEach (e :: es) X.env = (false, eval e X.env) :: starEach es X.env := by rfl) (hpl : (backTo pos (starEach es X.env)).any (·.1) = false := by rfl) : PE X (.Call (.Name x p) (e :: es) [] pos) (tQ T K (fCall g n A)) := by
  subst hK
  obtain ⟨f, fd, ps, F, hm, hk, hb⟩ := c.ex
  refine ⟨fun pins s σ H Qh I ⟨W0, H0, W, ρ, Q, st, nw, tb, f, k⟩ => ?_⟩
  refine wpAny_Call_Name_kw (ld_glob I hg hm ?_ hdb)
  refine PySem.W.callWith_K (h₀ := X.base) I.ok.mod.kin hk (thn (ha.run pos pins s σ H (fun vs H1 => spQ T X.K n g vs H1 Qh E0) I ⟨W0, H0, W, ρ, _, st, nw, tb, f, fun vs W1 H1 ds e1 r ⟨hl, q⟩ => ⟨W1, ds, Q, e1.ex.s, e1.nt, e1.tb, r, hl, q, fun v W2 H2 d e2 r2 q2 => k v W2 H2 d (e1.trans e2) r2 q2⟩⟩) fun us s1 ⟨vs, H1, I1, r, q⟩ => ⟨I1.kIn, ?_⟩) he hpl
  exact run_g F hr gd hb passL I1 r q
/-- range(n), walked -/
theorem tq_rng1 {p : Pos} (hg : Gl X "range") (hm : X.mg "range" = none) (ha : PA X [a] (tDA K E A)) (hs : starEach [a] X.env = [(false, eval a X.env)] := by rfl) : PI X tg (.Call (.Name "range" p) [a] [] pos) (tQF T K (fRng1 A)) :=
  (pi_range1 hg hm ha hs).mono fun σ H R ⟨W0, H0, W, ρ, Q, s, n, t, f, k⟩ => ⟨W0, H0, W, ρ, _, _, s, f, fun vs W1 H1 ds e1 r ⟨j, z, hb, q⟩ => by
    subst z
    exact ⟨j, ints1 r, by omega, by omega, k _ _ H1 _ (ExT.of n t e1) iter_rng q⟩, fun _ _ _ _ _ _ _ z => z.elim⟩
end
end Pu
set_option Elab.async false
set_option maxRecDepth 100000
set_option maxHeartbeats 1000000
set_option linter.all false
namespace Pu
open PySem PySem.Spec PyProof.Rows L2 Ly LamX
abbrev tbO : Obj := { cls := .none, data := .fields #[] }
theorem codeHd_up {h h' : Heap} {c P : Addr} (x : PySem.W.CodeHd h c P) (k : ∀ o, h.get? c = some o → o.cls = .type "code" → h'.get? c = some o) : PySem.W.CodeHd h' c P := by
  obtain ⟨o, us, fi, tf, fl, tg, iF, tx, tt, g0, g1, g⟩ := x
  exact ⟨o, us, fi, tf, fl, tg, iF, tx, tt, k o g0 g1, g1, g⟩
section
variable {P : Program} {w : World} {K : PySem.W.Frag} {mg mb : Str → Option Value} {k : Nat} {fa a : Addr} {fd : FuncData} {x : Str} {sp : Sp} {s1 : Shared} {vs : List Value} {ns : List Int} {cs : List (Addr × Addr)}
theorem law_callGT (inK : K.In s1.heap) (hns : s1.heap.Ns mainGlobals mg) (hb : s1.heap.Ns builtinsNs mb) (hbb : ∀ y : Str, y ≠ "__name__" → mb y = bootBuiltins y) (nl : s1.heap.NoLimit) (ng : s1.gens = #[])
    (emp : ∀ p ∈ cs, s1.heap.get? p.2 = some tbO) (outK : ∀ p ∈ cs, K.lookup p.2 = none) (cod : ∀ p ∈ cs, PySem.W.CodeHd s1.heap p.1 p.2)
    (bmod : ∃ (bm : Addr) (ob : Obj), mg "__builtins__" = some (.ref bm) ∧ bm ≠ builtinsNs ∧ s1.heap.get? bm = some ob ∧ ob.cls = .type "module" ∧ ob.dict = some builtinsNs ∧ ob.data = .plain)
    (ha : s1.heap.get? a = some { cls := .type "list", data := .seq vs.toArray }) (hi : IntsAre vs ns) (hl : ns.length ≤ sizeLine) (room : Room k callerA)
    (F : ∀ base : Heap, K.In base → base.Ns mainGlobals mg → (∀ p ∈ cs, TabB base mg p.1 p.2) → FnG P w K mg base (L2.CX P w) k fa fd [x] sp) (bnd : ∀ (s : Shared) (u : Value), BindsTo s fd ⟨[u], []⟩ [(x, u)])
    (want : ∀ H : Hp, (∀ p ∈ cs, H p.2 = some (.tbl #[])) → SqL K H a (ns.map V.int) → sp [.ref a] H (fun v _ => v = .bl true) fun _ _ _ => False) :
    codeAny (model P w) callerA (.call (.ref fa) ⟨[.ref a], []⟩) (fun r s' => r = .ok (.ret (.bool true)) ∧ OldK s1.heap s'.heap ∧ s'.os = s1.os ∧ AllBare s'.gens) s1 := by
  have rv := vals_ints hi
  have lenV := hi.length
  let ts := cs.map (·.2)
  have tin : ∀ {p : Addr × Addr}, p ∈ cs → p.2 ∈ ts := fun h => List.mem_map.mpr ⟨_, h, rfl⟩
  have tat : ∀ {b : Addr}, b ∈ ts → s1.heap.get? b = some tbO := fun h => by
    obtain ⟨p, hp, e⟩ := List.mem_map.mp h
    rw [← e]
    exact emp p hp
  have nat_ : a ∉ ts := fun h => by
    have z := tat h
    rw [ha] at z
    cases z
  have main : ∀ H : Hp, (∀ p ∈ cs, H p.2 = some (.tbl #[])) → (∀ b, b ∉ ts → H b = none ∨ ∃ ob xs, H b = some (.frz ob (.lst xs))) → SqL K H a (ns.map V.int) → HOk P w H s1.heap → (∀ b, H b ≠ none → b = a ∨ b ∈ ts) → (H a ≠ none → K.lookup a = none) →
      codeAny (model P w) callerA (.call (.ref fa) ⟨[.ref a], []⟩) (fun r s' => r = .ok (.ret (.bool true)) ∧ OldK s1.heap s'.heap ∧ s'.os = s1.os ∧ AllBare s'.gens) s1 := by
    intro H htb only sq hok dom noK
    -- what is neither the script nor a table is not tracked
    have free : ∀ {b : Addr} {o : Obj}, s1.heap.get? b = some o → (o.cls ≠ .type "list") → o ≠ tbO → H b = none := fun {b o} e n1 n2 => by
      cases q : H b with
      | none => rfl
      | some u =>
        rcases dom b (by rw [q]; simp) with z | z
        · subst z
          rw [ha] at e
          cases e
          exact absurd rfl n1
        · rw [tat z] at e
          cases e
          exact absurd rfl n2
    have dictN : ∀ {b : Addr} {o : Obj} {es : Array DictEntry} {ep : Nat}, s1.heap.get? b = some o → o.data = .dict es ep → H b = none := fun {b o es ep} e d => by
      cases q : H b with
      | none => rfl
      | some u =>
        rcases dom b (by rw [q]; simp) with z | z
        · subst z
          rw [ha] at e
          cases e
          cases (show Data.seq vs.toArray _ = Data.dict es ep from d)
        · rw [tat z] at e
          cases e
          cases (show Data.fields #[] = Data.dict es ep from d)
    have nsN : ∀ {b : Addr} {m : Str → Option Value}, s1.heap.Ns b m → (hidT s1.heap H).Ns b m := fun {b m} ⟨o, es, ep, e, d, r⟩ => ⟨o, es, ep, hidT_get e (dictN e d), d, r⟩
    have kN : ∀ b o, K.lookup b = some o → H b = none := fun b o e => by
      cases q : H b with
      | none => rfl
      | some u =>
        rcases dom b (by rw [q]; simp) with z | z
        · subst z
          rw [noK (by rw [q]; simp)] at e
          cases e
        · obtain ⟨p, hp, z⟩ := List.mem_map.mp z
          rw [← z, outK p hp] at e
          cases e
    have hKb : K.In (hidT s1.heap H) := fun b o e => hidT_get (inK b o e) (kN b o e)
    have md : Mod K mg (hidT s1.heap H) := ⟨hKb, nsN hns, ⟨mb, nsN hb, hbb⟩, let ⟨mc, n1, n2⟩ := nl; ⟨mc, nsN n1, n2⟩⟩
    have ev : Env0 P w K mg (hidT s1.heap H) callerA [] s1 H := ⟨rfl, md, fun b o e => of_hidT e, Nat.le_of_eq (hidT_size _ _), trivial, (fun b hb => (nomatch (show b ∈ ([] : List Addr) from hb))), hok, .of_eq ng⟩
    have tbs : ∀ p ∈ cs, TabB (hidT s1.heap H) mg p.1 p.2 := fun p hp => by
      refine ⟨codeHd_up (cod p hp) fun o e c => hidT_get e (free e (by rw [c]; decide) fun z => by rw [z] at c; cases c), ?_, fun z => ?_⟩
      · obtain ⟨bm, ob, g1, g2, g3, g4, g5, g6⟩ := bmod
        refine ⟨bm, ob, g1, g2, fun z => ?_, fun z => ?_, hidT_get g3 (free g3 (by rw [g4]; decide) fun z => by rw [z] at g6; cases g6), g4, g5, g6⟩
        · obtain ⟨o, es, ep, e, d, _⟩ := hns
          rw [z, e] at g3
          cases g3
          rw [d] at g6
          cases g6
        · rw [z, emp p hp] at g3
          cases g3
          cases g6
      · obtain ⟨o, es, ep, e, d, _⟩ := hns
        rw [z, emp p hp] at e
        cases e
        cases d
    refine codeAny_mono ((F _ hKb (nsN hns) tbs).run callerA [] s1 H ⟨[.ref a], []⟩ [.ref a] [.ref a] _ _ room rfl ev (bnd s1 (.ref a)) (.cons rfl .nil) (want H htb sq)) fun r s' h => ?_
    cases r with
    | error e =>
      obtain ⟨_, _, _, _, _, _, _, _, _, _, _, _, hE⟩ := h
      exact hE.elim
    | ok fl =>
      cases fl with
      | next => exact h.elim
      | brk => exact h.elim
      | cont => exact h.elim
      | ret u =>
        obtain ⟨v, H', os, bare, un, hok', r', q⟩ := h
        have q : v = .bl true := q
        subst q
        obtain rfl : u = Value.bool true := r'
        have stay : ∀ b o, b ∉ ts → s1.heap.get? b = some o → s'.heap.get? b = some o := fun b o nb e => by
          rcases only b nb with z | ⟨ob, xs, z⟩
          · exact un.keep b o e z (fun y => (nomatch (show b ∈ ([] : List Addr) from y))) (by simp)
          · obtain ⟨e1, _⟩ := hok b _ z
            obtain ⟨e2, _⟩ := hok' b _ (un.frzs b ob _ z)
            rw [e] at e1
            cases e1
            exact e2
        have tab : ∀ p ∈ cs, ∃ more : Array Value, s'.heap.get? p.2 = some { cls := .none, data := .fields more } := fun p hp => by
          obtain ⟨more, z⟩ := un.tbls p.2 #[] (htb p hp)
          exact ⟨_, hok' p.2 _ z⟩
        refine ⟨rfl, ⟨fun b o e => ?_, fun b o e => ?_⟩, os, bare⟩
        · by_cases nb : b ∈ ts
          · obtain ⟨p, hp, z⟩ := List.mem_map.mp nb
            subst z
            obtain ⟨more, hm⟩ := tab p hp
            rw [emp p hp] at e
            cases e
            exact .inr (.inl ⟨((cod p hp).tab (emp p hp)).isCodeTable, rfl, #[], more, rfl, by rw [Array.empty_append]; exact hm⟩)
          · exact .inl (stay b o nb e)
        · by_cases nb : b ∈ ts
          · obtain ⟨p, hp, z⟩ := List.mem_map.mp nb
            subst z
            obtain ⟨more, hm⟩ := tab p hp
            exact ⟨_, hm⟩
          · exact ⟨o, stay b o nb e⟩
  cases hk : K.lookup a with
  | some o =>
    have e := inK a o hk
    rw [ha] at e
    cases e
    have no : ∀ {b}, b ∉ ts → (fun b => if b ∈ ts then some (HO.tbl #[]) else none : Hp) b = none := fun h => if_neg h
    refine main (fun b => if b ∈ ts then some (.tbl #[]) else none) (fun p hp => if_pos (tin hp)) (fun b nb => .inl (no nb)) (.inr ⟨_, vs.toArray, _, hk, rfl, rfl, rfl, by rw [List.size_toArray, lenV]; exact hl, by simpa using rv⟩) (fun b u z => ?_) (fun b z => ?_) fun z => absurd (no nat_) z
    · by_cases hb : b ∈ ts
      · have z := (if_pos hb).symm.trans z
        cases z
        exact tat hb
      · rw [no hb] at z
        cases z
    · by_cases hb : b ∈ ts
      · exact .inr hb
      · exact absurd (no hb) z
  | none =>
    refine main (fun b => if b = a then some (.frz { cls := .type "list", data := .seq vs.toArray } (.lst (ns.map V.int))) else if b ∈ ts then some (.tbl #[]) else none) (fun p hp => ?_) (fun b nb => ?_) (.inl (.inr ⟨{ cls := .type "list", data := .seq vs.toArray }, if_pos rfl⟩)) (fun b u z => ?_) (fun b z => ?_) fun _ => hk
    · exact (if_neg fun z => nat_ (by rw [← z]; exact tin hp)).trans (if_pos (tin hp))
    · by_cases hb : b = a
      · exact .inr ⟨_, _, if_pos hb⟩
      · exact .inl ((if_neg hb).trans (if_neg nb))
    · by_cases hb : b = a
      · have z := (if_pos hb).symm.trans z
        cases z
        subst hb
        exact ⟨ha, by rw [List.length_map]; exact hl, vs, _, rv, ha⟩
      · have z := (if_neg hb).symm.trans z
        by_cases hb2 : b ∈ ts
        · have z := (if_pos hb2).symm.trans z
          cases z
          exact tat hb2
        · have z := (if_neg hb2).symm.trans z
          cases z
    · by_cases hb : b = a
      · exact .inl hb
      · by_cases hb2 : b ∈ ts
        · exact .inr hb2
        · exact absurd ((if_neg hb).trans (if_neg hb2)) z
end
end Pu
set_option Elab.async false
set_option maxRecDepth 100000
set_option maxHeartbeats 1000000
set_option linter.all false
set_option pp.maxSteps 3000
namespace Pu
open PySem PySem.Spec PyProof.Rows L2 Ly
end Pu
set_option Elab.async false
set_option maxRecDepth 100000
set_option maxHeartbeats 1000000
set_option linter.all false
namespace Pu
open PySem PySem.Spec PyProof.Rows L2 Ly LamX
structure CalGot (K : PySem.W.Frag) (mg : Str → Option Value) (x : Str) (st : Stmt) (a : Str) : Prop where
  ex : ∃ (f : Addr) (fd : FuncData), Fun K x x st f fd ∧ mg x = some (.ref f) ∧ PySem.W.keepIn K (.ref f) = true ∧ Binds K fd [a] []
/-- the table of the def fd, whose lambdas bear the name q -/
structure LamT (T : List (Addr × Str)) (base : Heap) (mg : Str → Option Value) (fd : FuncData) (q : Str) : Prop where
  ex : ∃ c P : Addr, fd.code = .ref c ∧ TabB base mg c P ∧ (P, q) ∈ T ∧ ∀ p ∈ T, p.1 = P → p.2 = q
section
variable {X : Cx} {T : List (Addr × Str)} {K : PySem.W.Frag}
theorem tq_lamW {Nn : Nat} {S : RB → FS} {x a q : Str} {k : Nat} {st : Stmt} {fd : FuncData} {Ng : List Str} {params : Arguments} {body : Expr} {scope : Scope} {F : FE} {p lpos pos : Pos}
    (G : CalGot X.K X.mg x st a) (LT : LamT T X.base X.mg fd q) (hc : fd.code = X.env.code) (hr : Room (k + 2) X.A) (Sg : FnScope Ng [a] (defScope st)) (hG : ∀ (g : Addr) (cdg : Value), GivesTo X Ng x (defScope st) g cdg (defBody st) a q (TGot X.K Nn S))
    (hq : X.env.qual ++ "<lambda>" = q) (L : LamS X.env.scope scope)
    (hbody : ∀ (A : Around) (outer : List PySem.Env) (s : Shared) (H : Hp) (E : XK) (f c' : Addr), Room k (A.deeper (lamEnv X scope s.heap.objs.size f c')) → PE (lamCx X A outer s H E scope f c') body (tD K E F))
    (hg : Gl X x := by rfl) (hNg : Ng[0]? = some a := by rfl) (hva : Vis (defScope st) a := by exact .inl rfl) (hdef : defaultsOf params X.env = ([], []) := by rfl)
    (hbind : ∀ (q : Str) (cl : List (Str × Addr)) (pm cv ctv : Value), bindArgs (PySem.W.kla_fn "<lambda>" q params body scope cl pm cv ctv) ⟨[], []⟩ = pure [] := by intros; rfl)
    (hK : X.K = K := by rfl) (hdb : (x == ("__debug__" : Str)) = false := by decide) (hd : (a == ("__debug__" : Str)) = false := by decide) (hcd : (a == ("__classdict__" : Str)) = false := by decide) :
    PE X (.Call (.Name x p) [.Lambda params body scope lpos] [] pos) (tQ T K (fLam Nn S F)) := by
  obtain ⟨g, gd, FG, hm, hk, hb⟩ := G.ex
  obtain ⟨oc, od, kV, doc, pm, an, cdv, ct, osl, rfl, lk, hcg⟩ := FG.ex
  obtain ⟨c, P, h1, TB, hmT, hu⟩ := LT.ex
  subst hq
  exact tq_lam hg hm hk lk hcg hb Sg hNg hva (hG g cdv) TB (by rw [← hc, h1]) hmT hu hr L hdef hbind hbody hK hdb hd hcd
end
end Pu
set_option Elab.async false
set_option maxRecDepth 100000
set_option linter.all false
set_option maxHeartbeats 1000000
namespace Pu
open PySem PySem.W PySem.Spec PyProof.Rows L2 Ly
mutual
/-- whole numbers, texts, None, bools and tuples of them -/
def onlyT : D → Bool
  | .non => true
  | .bl _ => true
  | .int _ => true
  | .str _ => true
  | .tup ds => onlyTs ds
  | _ => false
def onlyTs : List D → Bool
  | [] => true
  | d :: ds => onlyT d && onlyTs ds
end
def keyP : Key → PyData
  | .inl i => .int i
  | .inr x => .str x
def toX : D → PyData
  | .dit ks ds => .dict ((ks.map fun k => PyData.tuple (k.map keyP)).zip (toPs ds))
  | d => toP d
def okX : D → Bool
  | .dit ks ds => onlyTs ds && decide (ks.length = ds.length)
  | d => onlyT d
section
variable {X : Cx} {K : PySem.W.Frag}
mutual
theorem reads_only {pins : List (Addr × Obj)} {σ : L2.St} {H W : Hp} {s : Shared} (I : L2.Inv X pins σ H s) (g : Gx W H) : ∀ {d : D} {v : V} {u : Value}, Rep K W v d → onlyT d = true → RelV v u → Reads s.heap u (toP d) []
  | .non, _, _, .non, _, r => by cases r; exact .none
  | .bl b, _, _, .bl _, _, r => by cases r; exact .bool b
  | .int i, _, _, .int _, _, r => by obtain ⟨t, rfl⟩ := r; exact .int i t
  | .str x, _, _, .str _, _, r => by obtain ⟨t, rfl⟩ := r; exact .str x t
  | .tup ds, _, _, .tup h hs n, o, r => by
    cases r
    obtain ⟨its, rv, ⟨ob, ho, hc, k, hd⟩, hz⟩ := I.tuple (SqT.of (g _ _ h))
    exact .tuple ho hc hd (by simpa using reads_onlys I g hs (show onlyTs ds = true from o) rv)
theorem reads_onlys {pins : List (Addr × Obj)} {σ : L2.St} {H W : Hp} {s : Shared} (I : L2.Inv X pins σ H s) (g : Gx W H) : ∀ {ds : List D} {vs : List V} {us : List Value}, RepAll K W vs ds → onlyTs ds = true → Vals vs us → ReadsAll s.heap us (toPs ds) []
  | [], _, _, .nil, _, r => by cases r; exact .nil
  | d :: ds, _, _, .cons h hs, o, r => by
    cases r with
    | cons r rs =>
      have o : (onlyT d && onlyTs ds) = true := o
      rw [Bool.and_eq_true] at o
      exact .cons (as := []) (bs := []) (reads_only I g h o.1 r) (reads_onlys I g hs o.2 rs)
end
theorem rel_keys : ∀ {k : List Key} {us : List Value} {h : Heap}, Vals (k.map kV) us → ReadsAll h us (k.map keyP) []
  | [], _, _, .nil => .nil
  | .inl i :: k, _, _, .cons r rs => by obtain ⟨t, rfl⟩ := r; exact .cons (as := []) (bs := []) (.int i t) (rel_keys rs)
  | .inr x :: k, _, _, .cons r rs => by obtain ⟨t, rfl⟩ := r; exact .cons (as := []) (bs := []) (.str x t) (rel_keys rs)
theorem reads_dit {pins : List (Addr × Obj)} {σ : L2.St} {H W : Hp} {s : Shared} (I : L2.Inv X pins σ H s) (g : Gx W H) {d : Addr} {kvs : List (List Key × V)} {ds : List D} (hd : Rd W d (.dT kvs)) (r : RepAll X.K W (kvs.map Prod.snd) ds) (o : onlyTs ds = true) :
    Reads s.heap (.ref d) (toX (.dit (kvs.map Prod.fst) ds)) [d] ∧ (d == sysModules) = false := by
  obtain ⟨z, hs, ks, pr, ob, es, ep, ho, hx, hdt, he, hn⟩ := (show ObjOk X.prog X.w H s.heap d (.dT kvs) from (g.rd hd).ok I.hok)
  refine ⟨?_, hs⟩
  have main : ∀ {kvs : List (List Key × V)} {ks : List (List Key × Addr × Value)} {ds : List D}, Paired (fun (p : List Key × V) (q : List Key × Addr × Value) => p.1 = q.1 ∧ H q.2.1 = some (.tup (p.1.map kV)) ∧ RelV p.2 q.2.2) kvs ks → RepAll X.K W (kvs.map Prod.snd) ds → onlyTs ds = true →
      ReadsAll s.heap ((ks.map (entryOfKey (tupleKind (mixKind X.prog X.w)))).map (·.key)) ((((kvs.map Prod.fst).map fun k => PyData.tuple (k.map keyP)).zip (toPs ds)).map (·.1)) [] ∧
        ReadsAll s.heap ((ks.map (entryOfKey (tupleKind (mixKind X.prog X.w)))).map (·.val)) ((((kvs.map Prod.fst).map fun k => PyData.tuple (k.map keyP)).zip (toPs ds)).map (·.2)) [] := by
    intro kvs ks ds pr
    induction pr generalizing ds with
    | nil =>
      intro r _
      cases r
      exact ⟨.nil, .nil⟩
    | @cons p q _ _ h _ ih =>
      intro r o
      cases r with
      | @cons _ _ d0 ds0 r rs =>
        have o : (onlyT d0 && onlyTs ds0) = true := o
        rw [Bool.and_eq_true] at o
        obtain ⟨k1, k2⟩ := ih rs o.2
        obtain ⟨h1, h2, h3⟩ := h
        obtain ⟨its, rv, ⟨ob, ho, hc, k, hd⟩, hz⟩ := I.tuple (X := X) (SqT.of h2)
        exact ⟨.cons (as := []) (bs := []) (.tuple ho hc hd (by simpa using rel_keys rv)) k1, .cons (as := []) (bs := []) (reads_only I g r o.1 h3) k2⟩
  obtain ⟨k1, k2⟩ := main pr r o
  rw [← he] at k1 k2
  exact .dict ho hx.1 hdt k1 k2
theorem toX_of : ∀ {d : D}, onlyT d = true → toX d = toP d
  | .non, _ => rfl
  | .bl _, _ => rfl
  | .int _, _ => rfl
  | .str _, _ => rfl
  | .tup _, _ => rfl
/-- each item of the list -/
theorem reads_x {pins : List (Addr × Obj)} {σ : L2.St} {H W : Hp} {s : Shared} (I : L2.Inv X pins σ H s) (g : Gx W H) {d : D} {v : V} {u : Value} (r : Rep X.K W v d) (o : okX d = true) (rel : RelV v u) : ∃ as, Reads s.heap u (toX d) as ∧ sysModules ∉ as := by
  cases d with
  | dit ks ds =>
    have o : (onlyTs ds && decide (ks.length = ds.length)) = true := o
    rw [Bool.and_eq_true] at o
    cases r with
    | @dit a kvs _ _ h1 h2 h3 h4 =>
      subst h2
      cases rel
      obtain ⟨k1, k2⟩ := reads_dit I g h1 h3 o.1
      refine ⟨_, k1, fun hm => ?_⟩
      have hm : sysModules = a := by simpa using hm
      rw [← hm] at k2
      simp at k2
  | _ =>
    first
      | exact ⟨[], by rw [toX_of (show onlyT _ = true from o)]; exact reads_only I g r o rel, by simp⟩
      | cases o
structure ShX (ds : List D) : Prop where
  ne : ds ≠ []
  ok : ∀ d ∈ ds, okX d = true
  sho : PyData.showableAll (ds.map toX) = true
  sz : (PyData.list (ds.map toX)).shown.length ≤ sizeLine
  dep : (PyData.list (ds.map toX)).depth ≤ 60
def rReprX (K : PySem.W.Frag) : List V → Hp → VK → Prop := fun vs H Q => ∃ (a : Addr) (us : List V) (W : Hp) (ds : List D), vs = [.ref a] ∧ SqL K H a us ∧ Gx W H ∧ RepAll K W us ds ∧ ShX ds ∧ Q (.str (PyData.list (ds.map toX)).shown) H
theorem reprs_x {pins : List (Addr × Obj)} {σ : L2.St} {H W : Hp} {s : Shared} (I : L2.Inv X pins σ H s) (g : Gx W H) : ∀ {ds : List D} {vs : List V} {us : List Value}, RepAll X.K W vs ds → (∀ d ∈ ds, okX d = true) → PyData.showableAll (ds.map toX) = true → (∀ t ∈ PyData.shownAll (ds.map toX), t.length ≤ sizeLine) → Vals vs us →
    ∃ bs as, ReadAtMost s.heap (PyData.depthAll (ds.map toX)) bs ∧ ReprAllK X.prog X.w bs s.heap (PyData.depthAll (ds.map toX)) us (PyData.shownAll (ds.map toX)) ∧ ReadsAll s.heap us (ds.map toX) as
  | [], _, _, .nil, _, _, _, r => by
    cases r
    exact ⟨[], [], (fun _ h => nomatch h), .nil, .nil⟩
  | d :: ds, _, _, .cons h hs, ok, sho, sz, r => by
    cases r with
    | cons r rs =>
      rw [List.map_cons, PyData.showableAll, Bool.and_eq_true] at sho
      have e1 : PyData.shownAll ((d :: ds).map toX) = (toX d).shown :: PyData.shownAll (ds.map toX) := by rw [List.map_cons, PyData.shownAll]
      have e2 : PyData.depthAll ((d :: ds).map toX) = max (toX d).depth (PyData.depthAll (ds.map toX)) := by rw [List.map_cons, PyData.depthAll]
      rw [e1] at sz
      obtain ⟨as1, rd, hn⟩ := reads_x I g h (ok d (List.mem_cons_self ..)) r
      obtain ⟨b1, hb1, k1⟩ := ReprK.of_reads (prog := X.prog) (w := X.w) rd sho.1 (fun _ => hn) (sz _ (List.mem_cons_self ..))
      obtain ⟨b2, as2, hb2, k2, r2⟩ := reprs_x I g hs (fun x hx => ok x (List.mem_cons_of_mem _ hx)) sho.2 (fun t ht => sz t (List.mem_cons_of_mem _ ht)) rs
      rw [e1, e2]
      exact ⟨b1 ++ b2, as1 ++ as2, (hb1.mono (Nat.le_max_left _ _)).append (hb2.mono (Nat.le_max_right _ _)),
        .cons ((k1.more fun b hb => List.mem_append_left _ hb).level_le (Nat.le_max_left _ _)) (k2.more_le (fun b hb => List.mem_append_right _ hb) (Nat.le_max_right _ _)), .cons rd r2⟩
theorem c_reprX (gd : X.A.guards = some []) (hu : X.A.units + 64 < cLine) (hK : X.K = K := by rfl) : CallR X (.builtin "repr") (rReprX K) := by
  subst hK
  intro pins s σ H xs us0 Q I r h
  obtain ⟨a, us, W, ds, rfl, hs, g, rr, so, q⟩ := h
  obtain ⟨u, rfl, ru⟩ := vals1 r
  cases ru
  obtain ⟨its, rv, ⟨o, n, ho, hc, hd0, hdat⟩, hz⟩ := I.list hs
  have hz' : (listText (PyData.shownAll (ds.map toX))).length ≤ sizeLine := by
    have h := so.sz
    rw [PyData.shown] at h
    exact h
  obtain ⟨bs, as, hb, hk, ra⟩ := reprs_x I g rr so.ok so.sho (fun t ht => Nat.le_trans (listText_mem_le ht) hz') rv
  have rl : Reads s.heap (.ref a) (.list (ds.map toX)) (a :: as) := .list ho hc hdat (by simpa using ra)
  have hna : a ∉ bs := not_mem_of_deeper rl (by simp only [PyData.depth]; omega) hb
  have hdep : PyData.depthAll (ds.map toX) + 1 ≤ 60 := by
    have h := so.dep
    rw [PyData.depth] at h
    exact h
  refine call_repr_slot (T := "list") (idr := "list.__repr__") (by omega) ⟨o, ho, hc⟩ F.slot_list_repr.toG ?_
  obtain ⟨v1, vs1, rfl⟩ : ∃ v1 vs1, its = v1 :: vs1 := by
    cases rv with
    | nil =>
      cases rr
      exact absurd rfl so.ne
    | cons _ _ => exact ⟨_, _, rfl⟩
  refine call_list_reprK (d := PyData.depthAll (ds.map toX)) (ts := PyData.shownAll (ds.map toX)) ho hc hdat hna (by simpa using hk.length_eq) (fun i y e => hk.item i y (by simpa using e)) gd (fun b _ => Clear.nil b) (by show X.A.units + 1 + _ < cLine; omega) (fun _ _ z => z) (fun h' u tk kk => ?_) hz'
  refine ⟨_, _, rfl, .str _, H, I.kept kk, ⟨_, rfl⟩, ?_⟩
  rw [PyData.shown] at q
  exact q
def RReprX (ds : List D) (Q : D → Prop) : Prop := ∃ es, ds = [.lst es] ∧ ShX es ∧ Q (.str (PyData.list (es.map toX)).shown)
theorem s_reprX : CSnd K (rReprX K) RReprX := fun W H vs ds Q Qh s rr ⟨es, z, o, q⟩ kk => by
  subst z
  obtain ⟨v, rfl, r⟩ := ts1 rr
  obtain ⟨a, us, rfl, h1, h2, h3⟩ := r.lst_inv s
  exact ⟨a, us, W, es, rfl, SqL.of h1, s, h2, o, kk _ W H _ (Ex.refl s) (.str _) q⟩
end
end Pu
set_option Elab.async false
set_option maxRecDepth 100000
set_option linter.all false
namespace Pu
open PySem PySem.Spec PyProof.Rows L2 Ly
section
variable {X : Cx} {K : PySem.W.Frag}
def rReprS : List V → Hp → VK → Prop := fun xs H Q => ∃ z, xs = [.str z] ∧ (reprText z).length ≤ sizeLine ∧ Q (.str (reprText z)) H
theorem c_reprS : CallR X (.builtin "repr") rReprS := by
  intro pins s σ H xs us Q I r h
  obtain ⟨z, rfl, h1, q⟩ := h
  obtain ⟨u, rfl, ru⟩ := vals1 r
  obtain ⟨t, rfl⟩ := ru
  exact PySem.P.repr_of_str ⟨.str _, H, I.tok _, ⟨_, rfl⟩, q⟩ h1
def rReprAS (K : PySem.W.Frag) : List V → Hp → VK → Prop := fun xs H Q => rReprA K xs H Q ∨ rReprS xs H Q
theorem c_reprAS (gd : X.A.guards = some []) (hu : X.A.units + 64 < cLine) (hK : X.K = K := by rfl) : CallR X (.builtin "repr") (rReprAS K) := callR_or (c_reprA gd hu hK) c_reprS
def RReprAS (ds : List D) (Q : D → Prop) : Prop := RReprA ds Q ∨ ∃ z, ds = [.str z] ∧ (reprText z).length ≤ sizeLine ∧ Q (.str (reprText z))
theorem s_reprAS : CSnd K (rReprAS K) RReprAS := fun W H xs ds Q Qh s rr h kk => by
  rcases h with h | ⟨z, e, h1, q⟩
  · exact .inl (s_reprA W H xs ds Q Qh s rr h kk)
  · subst e
    obtain ⟨v, rfl, r⟩ := ts1 rr
    exact .inr ⟨z, by rw [r.str_inv], h1, kk _ W H _ (Ex.refl s) (.str _) q⟩
end
end Pu
set_option Elab.async false
set_option maxRecDepth 100000
set_option linter.all false
namespace Pu
open PySem PySem.W PySem.Spec PyProof.Rows L2 Ly
section
variable {X : Cx} {K : PySem.W.Frag}
def rReprXA (K : PySem.W.Frag) : List V → Hp → VK → Prop := fun xs H Q => rReprAS K xs H Q ∨ rReprX K xs H Q
theorem c_reprXA (gd : X.A.guards = some []) (hu : X.A.units + 64 < cLine) (hK : X.K = K := by rfl) : CallR X (.builtin "repr") (rReprXA K) := callR_or (c_reprAS gd hu hK) (c_reprX gd hu hK)
def RReprXA (ds : List D) (Q : D → Prop) : Prop := RReprAS ds Q ∨ RReprX ds Q
theorem s_reprXA : CSnd K (rReprXA K) RReprXA := fun W H xs ds Q Qh s rr h kk => by
  rcases h with h | h
  · exact .inl (s_reprAS W H xs ds Q Qh s rr h kk)
  · exact .inr (s_reprX W H xs ds Q Qh s rr h kk)
end
end Pu
set_option Elab.async false
set_option maxRecDepth 100000
set_option maxHeartbeats 1000000
set_option linter.all false
namespace Pu
open PySem PySem.Spec PyProof.Rows L2 Ly LamX
section
variable {X : Cx} {T : List (Addr × Str)} {K : PySem.W.Frag} {F : FE} {U : FT} {A : FA} {pos : Pos}
theorem tq_lc {elt tg iter : Expr} {ifs : List Expr} {scope : Scope} {own : List (Str × Nat)} {gh : TG} {g : FG} (hc : X.calm = true) (hN : X.N.Nodup) (hi : PI X tg iter (tQF T K A)) (ok : BlkOk X.N X.env.scope scope own) (gs : GSnd K gh g (own.map (·.2)))
    (hg : ∀ (s : Shared) (H : Hp) (C : Addr) (cl : List (Str × Addr)) (fp : List Addr), PG (X.blk s H scope (compEnvC scope cl C X.env) fp) tg gh) (ht : ∀ (s : Shared) (H : Hp) (C : Addr) (cl : List (Str × Addr)) (fp : List Addr), PTs (X.blk s H scope (compEnvC scope cl C X.env) fp) ifs (tQB T K U))
    (he : ∀ (s : Shared) (H : Hp) (C : Addr) (cl : List (Str × Addr)) (fp : List Addr), PE (X.blk s H scope (compEnvC scope cl C X.env) fp) elt (tQ T K F)) (hs : ∀ x, foldedSetIterable iter X.env x = pure x := by intro _; rfl) :
    PE X (.ListComp elt [⟨tg, iter, ifs, 0⟩] scope pos) (tQN T K (fLc A g U F (own.map (·.2)))) := (pe_lc hc hN hi ok hg ht he hs).mono fun σ H Qh ⟨W0, H0, W, ρ, Q, st, n, t, f, k⟩ => by
  refine ⟨W0, H0, W, ρ, _, st, n, t, f, fun J W1 H1 ds e1 ⟨G, Y, hW, hG, hY⟩ ⟨hn, q⟩ => ?_⟩
  intro Dd hD
  refine lc_it hW (fun i H' => ∃ W' us acc, i ≤ ds.length ∧ ExT T W1 H1 W' H' ∧ W' Dd = none ∧ H' Dd = some (.lst us) ∧ RepAll K W' us acc ∧ us.length ≤ i ∧ lcD g U F (wipeB ρ (own.map (·.2))) (ds.drop i) fun ys => Q (acc ++ ys)) ?_ ?_ ?_ ?_
  · exact ⟨_, [], [], Nat.zero_le _, ExT.of e1.nt e1.tb (Ex.hid e1.ex.s hD), noT_none (e1.ex.s.free hD), upd_same, .nil, Nat.le_refl _, q⟩
  · rintro i H' _ ⟨W', us, acc, _, e2, _⟩
    exact hG H' (e2.ex.w.trans e2.ex.s)
  · rintro i v H3 H4 hi ⟨W3, us, acc, _, e3, hw3, hd3, r3, l3, q3⟩ y
    obtain ⟨W4, d, hd, e4, r4⟩ := hY i H3 v H4 W3 hi e3.ex.w e3.ex.s y
    have x4 := ExT.of e3.nt e3.tb e4
    have e5 := e3.trans x4
    have hdn : noT H3 Dd = some (.lst us) := noT_at hd3 (fun _ z => by cases z)
    have hw4 : ∀ {W' H' : Hp}, ExT T W3 H3 W' H' → W' Dd = none := fun {W' H'} e => e.ex.hide hw3 hdn (fun _ z => by cases z)
    have hd4 : ∀ {W' H' : Hp}, ExT T W3 H3 W' H' → H' Dd = some (.lst us) := fun {W' H'} e => e.ex.h _ _ hdn
    have hdr : ds.drop i = d :: ds.drop (i + 1) := by
      rw [List.drop_eq_getElem_cons hi]
      congr 1
      rw [List.getElem?_eq_getElem hi] at hd
      exact Option.some.inj hd
    rw [hdr] at q3
    obtain ⟨Wb, Hb, st1⟩ := st.go (e1.trans e5) n
    have stw := st1.wipe (own.map (·.2))
    refine gs Wb Hb (noT W4) _ _ H4 v d _ _ stw r4.noT q3 fun ρ2 σ2 st2 hw2 q4 => ⟨by rw [hw2, wipe_wipe], ?_⟩
    refine ⟨Wb, Hb, noT W4, ρ2, _, st2, noT_no, e5.tb, q4, fun b W5 H5 e6 q5 => ?_⟩
    cases b with
    | true =>
      rw [if_pos rfl] at q5
      obtain ⟨Wc, Hc, s3⟩ := st2.go e6 noT_no
      refine iteT ⟨Wc, Hc, W5, ρ2, _, s3, e6.nt, e6.tb, q5, fun u W6 H6 d6 e7 r6 q6 => ?_⟩
      have e8 := (x4.trans e6).trans e7
      have e9 := e3.trans e8
      refine ⟨us, hd4 e8, by omega, W6, us ++ [u], acc ++ [d6], hi, ⟨Ex.mut e9.ex (noT_none hD) (hw4 e8), tabs_upd e9.tb (hd4 e8) (fun _ z => by cases z) (fun _ z => by cases z), e9.nt⟩, hw4 e8, upd_same, (r3.gx e8.ex.w).app (.one r6), by rw [List.length_append]; show us.length + 1 ≤ i + 1; omega, ?_⟩
      have : (fun ys => Q (acc ++ [d6] ++ ys)) = fun ys => Q (acc ++ (d6 :: ys)) := by
        funext ys
        rw [List.append_assoc]
        rfl
      rw [this]
      exact q6
    | false =>
      rw [if_neg (by decide)] at q5
      have e8 := x4.trans e6
      exact iteF ⟨W5, us, acc, hi, e3.trans e8, hw4 e8, hd4 e8, r3.gx e8.ex.w, by omega, q5⟩
  · rintro H3 ⟨W3, us, acc, _, e3, hw3, hd3, r3, l3, q3⟩
    rw [List.drop_length] at q3
    have q3 : Q (acc ++ []) := q3
    rw [List.append_nil] at q3
    exact k Dd us W3 H3 acc (e1.trans e3) (e1.ex.h.free hD) hw3 hd3 r3 (by omega) q3
theorem tq_pts1 {c : Expr} (h : PT X c (tQB T K U)) : PTs X [c] (tQB T K U) := pts_one h
end
end Pu
set_option Elab.async false
set_option maxRecDepth 100000
set_option maxHeartbeats 1000000
set_option linter.all false
namespace K70
open PySem PySem.Spec PyProof.Rows L2 Ly Pu LamX
section
variable {P : Program} {w : World} {K : PySem.W.Frag} {mg : Str → Option Value} {base : Heap} {A : Adr}
abbrev s_got : Stmt := top 47
abbrev nm_got : List Str := ["_law_call", "error"]
abbrev ps_got : List Str := ["_law_call"]
theorem sc_got : FnScope nm_got ps_got (defScope s_got) := ⟨rfl, rfl, rfl, by decide +kernel, rfl, by decide +kernel, by decide +kernel⟩
def S_got (K : PySem.W.Frag) (A : Adr) (R : RB) : FS :=
  (sTry K (sGotL R) [⟨A.cParseError, some 1, fun x a cls d => (sRet (fXf cls d A.cParseError a "line" (fVar 1)))⟩])
theorem body_got (T : Txt K mg) (X_ParseError_line : ErF K A.cParseError "line") (g_ParseError : mg "ParseError" = some (.ref A.cParseError)) {q : Str} (g : Addr) (cdg : Value) (Ar : Around) (sk : List PySem.Env) (f c' : Addr) (s : Shared) (H : Hp) (tl : XK → Hp → VK → Prop) (R : RB) (Wc : Hp)
    (act : ∀ (E : XK) (pn : List (Addr × Obj)) (xe : Value → Shared → Prop), Takes ((cxOf C8.CX0 P w K mg base nm_got "_law_got" (defScope s_got) g cdg Ar sk s H C8.E0).tr pn xe) (fun cls d _ H => E cls d H) → GotA ((cxOf C8.CX0 P w K mg base nm_got "_law_got" (defScope s_got) g cdg Ar sk s H C8.E0).tr pn xe) f c' q "_law_call" tl E) (lam : LamR K Wc H R tl) :
    PSs (cxOf C8.CX0 P w K mg base nm_got "_law_got" (defScope s_got) g cdg Ar sk s H C8.E0).nox (defBody s_got) (fun Dh σ H' => GotP f c' q σ H' ∧ tDS K Wc H C8.E0 (S_got K A R) Dh σ H') := by
  have nd := sc_got.nd
  exact pss_one (d_tryP rfl rfl nd LamX.takes0 (fun E' pn xe tk po => pss_one (d_gotL (act E' pn xe tk) lam)) (.cons (q := ⟨A.cParseError, some 1, fun x a cls d => (sRet (fXf cls d A.cParseError a "line" (fVar 1)))⟩) ⟨rfl, rfl, Or.inl g_ParseError⟩ ⟨rfl, rfl⟩ (fun a ob cls d pn hz hf x => (d_sone (d_ret (d_xf (K := K) X_ParseError_line.xf X_ParseError_line.no hz hf (d_var (pv 1)))))) .nil))
theorem gives_got {X : Cx} (T : Txt X.K X.mg) (X_ParseError_line : ErF X.K A.cParseError "line") (g_ParseError : X.mg "ParseError" = some (.ref A.cParseError)) {q : Str} (g : Addr) (cdg : Value) : GivesTo X nm_got "_law_got" (defScope s_got) g cdg (defBody s_got) "_law_call" q (TGot X.K 2 (S_got X.K A)) :=
  got_of (fun _ => rfl) (fun _ => rfl) fun f c' s H tl R Wc act lam => body_got T X_ParseError_line g_ParseError g cdg X.A X.stack f c' s H tl R Wc act lam
abbrev s_strings_right : Stmt := top 48
abbrev nm_strings_right : List Str := ["_law_one", "_law_two", "_law_six", "_law_due"]
abbrev ps_strings_right : List Str := ["_law_one", "_law_two", "_law_six"]
theorem sc_strings_right : FnScope nm_strings_right ps_strings_right (defScope s_strings_right) := ⟨rfl, rfl, rfl, by decide +kernel, rfl, by decide +kernel, by decide +kernel⟩
def S_strings_right (K : PySem.W.Frag) (A : Adr) : FS :=
  (sSeq (sAsg 3 (fCall (G_due_numbers K A) 1 (fCons (fVar 0) fNil)))
      (sSeq (sIf (fTst (fOp RNe (fCB RReprXA (fCons (fLam 2 (S_got K A) (fCall (G_read_numbers K A) 1 (fCons (fVar 0) fNil))) fNil)) (fCB RReprXA (fCons (fIf (fTst (fOp RNotN (fVarT 3) (fC .non))) (fNew (fLst (fCons (fVar 3) fNil))) (fC .non)) fNil)))) (sRet (fC (.bl false))) sNext)
      (sSeq (sAsg 3 (fCall (G_due_state K A) 1 (fCons (fVar 1) fNil)))
      (sSeq (sIf (fTst (fOp RNe (fCB RReprXA (fCons (fLam 2 (S_got K A) (fCall (G_read_state K A) 1 (fCons (fVar 1) fNil))) fNil)) (fCB RReprXA (fCons (fIf (fTst (fOp RNotN (fVarT 3) (fC .non))) (fNew (fLst (fCons (fVar 3) fNil))) (fC .non)) fNil)))) (sRet (fC (.bl false))) sNext)
      (sSeq (sAsg 3 (fCall (G_due_table K A) 1 (fCons (fVar 2) fNil)))
      (sRet (fOp REq (fCB RReprXA (fCons (fLam 2 (S_got K A) (fCall (G_read_table K A) 1 (fCons (fVar 2) fNil))) fNil)) (fCB RReprXA (fCons (fIf (fTst (fIsiT K "dict" (fVarT 3))) (fNew (fLst (fCons (fVar 3) fNil))) (fVar 3)) fNil)))))))))
def G_strings_right (K : PySem.W.Frag) (A : Adr) : Fn := fnS 4 (S_strings_right K A)
theorem ok_strings_right {T : List (Addr × Str)} {f : Addr} {fd : FuncData} (F : Fun K "_law_strings_right" "_law_strings_right" s_strings_right f fd) (TX : Txt K mg) (C_due_numbers : CalF P w K mg base "_law_due_numbers" 1 1 (G_due_numbers K A))
    (C_read_numbers : CalF P w K mg base "read_numbers" 4 1 (G_read_numbers K A))
    (C_due_state : CalF P w K mg base "_law_due_state" 2 1 (G_due_state K A))
    (C_read_state : CalF P w K mg base "read_state" 7 1 (G_read_state K A))
    (C_due_table : CalF P w K mg base "_law_due_table" 3 1 (G_due_table K A))
    (C_read_table : CalF P w K mg base "read_table" 8 1 (G_read_table K A))
    (X_ParseError_line : ErF K A.cParseError "line")
    (G_got_ : CalGot K mg "_law_got" s_got "_law_call")
    (LT : LamT T base mg fd "_law_strings_right.<locals>.<lambda>")
    (g_ParseError : mg "ParseError" = some (.ref A.cParseError)) : FnG P w K mg base (L2.CX P w) 11 f fd ps_strings_right (spQ T K 3 (G_strings_right K A)) := by
  have nd := sc_strings_right.nd
  exact fn_qG (k := 10) F sc_strings_right rfl (fun cdv Ar outer s H E W0 hr gd hc => (tq_seq (tq_s (E := E) fun W0 H0 => (d_asg (d_call C_due_numbers (hr.mono (by first | decide | omega)) rfl (passes_call (takes_of rfl rfl rfl rfl) fun _ _ _ _ h => h) (d_cons (d_var (pv 0)) d_nil)) (pg_name (i := 3) nd rfl (Or.inl rfl))))
      (tq_seq (tq_if noT_no (tq_tcmp (op_neA (K := K) hr.units) s_ne (tq_cb (c_reprXA (K := K) gd (Nat.lt_of_succ_lt (hr65 hr))) s_reprXA (by rfl) TX.z_repr (by decide +kernel) (tq_acons (tq_lamW (k := 8) G_got_ LT hc (hr.mono (by first | decide | omega)) sc_got (gives_got TX X_ParseError_line g_ParseError) rfl (lamS_by (sc := defScope s_strings_right) (by decide +kernel)) (fun Ar outer s H E f c' hr => (d_call C_read_numbers (hr.mono (by first | decide | omega)) rfl (passes_call (takes_of rfl rfl rfl rfl) fun _ _ _ _ h => h) (d_cons (d_var (pv 0)) d_nil)))) tq_anil)) (tq_e (E := E) (d_cb (c_reprXA (K := K) gd (Nat.lt_of_succ_lt (hr65 hr))) s_reprXA (by rfl) TX.z_repr (by decide +kernel) (d_consT (d_t (d_if (d_tcmp op_notN s_notN (d_varT (pv 3)) (d_t (d_non pe_non)) (nomark _)) (d_n (d_lst (d_cons (d_var (pv 3)) d_nil))) (d_non pe_non))) d_nilT))) (nomark _)) (tq_one (tq_s (E := E) fun W0 H0 => (d_ret (d_bl pe_bl)))) tq_nil)
      (tq_seq (tq_s (E := E) fun W0 H0 => (d_asg (d_call C_due_state (hr.mono (by first | decide | omega)) rfl (passes_call (takes_of rfl rfl rfl rfl) fun _ _ _ _ h => h) (d_cons (d_var (pv 1)) d_nil)) (pg_name (i := 3) nd rfl (Or.inl rfl))))
      (tq_seq (tq_if noT_no (tq_tcmp (op_neA (K := K) hr.units) s_ne (tq_cb (c_reprXA (K := K) gd (Nat.lt_of_succ_lt (hr65 hr))) s_reprXA (by rfl) TX.z_repr (by decide +kernel) (tq_acons (tq_lamW (k := 8) G_got_ LT hc (hr.mono (by first | decide | omega)) sc_got (gives_got TX X_ParseError_line g_ParseError) rfl (lamS_by (sc := defScope s_strings_right) (by decide +kernel)) (fun Ar outer s H E f c' hr => (d_call C_read_state (hr.mono (by first | decide | omega)) rfl (passes_call (takes_of rfl rfl rfl rfl) fun _ _ _ _ h => h) (d_cons (d_var (pv 1)) d_nil)))) tq_anil)) (tq_e (E := E) (d_cb (c_reprXA (K := K) gd (Nat.lt_of_succ_lt (hr65 hr))) s_reprXA (by rfl) TX.z_repr (by decide +kernel) (d_consT (d_t (d_if (d_tcmp op_notN s_notN (d_varT (pv 3)) (d_t (d_non pe_non)) (nomark _)) (d_n (d_lst (d_cons (d_var (pv 3)) d_nil))) (d_non pe_non))) d_nilT))) (nomark _)) (tq_one (tq_s (E := E) fun W0 H0 => (d_ret (d_bl pe_bl)))) tq_nil)
      (tq_seq (tq_s (E := E) fun W0 H0 => (d_asg (d_call C_due_table (hr.mono (by first | decide | omega)) rfl (passes_call (takes_of rfl rfl rfl rfl) fun _ _ _ _ h => h) (d_cons (d_var (pv 2)) d_nil)) (pg_name (i := 3) nd rfl (Or.inl rfl))))
      (tq_one (tq_ret noT_no (tq_cmp (op_eqA (K := K) hr.units) s_eq (tq_cb (c_reprXA (K := K) gd (Nat.lt_of_succ_lt (hr65 hr))) s_reprXA (by rfl) TX.z_repr (by decide +kernel) (tq_acons (tq_lamW (k := 8) G_got_ LT hc (hr.mono (by first | decide | omega)) sc_got (gives_got TX X_ParseError_line g_ParseError) rfl (lamS_by (sc := defScope s_strings_right) (by decide +kernel)) (fun Ar outer s H E f c' hr => (d_call C_read_table (hr.mono (by first | decide | omega)) rfl (passes_call (takes_of rfl rfl rfl rfl) fun _ _ _ _ h => h) (d_cons (d_var (pv 2)) d_nil)))) tq_anil)) (tq_e (E := E) (d_cb (c_reprXA (K := K) gd (Nat.lt_of_succ_lt (hr65 hr))) s_reprXA (by rfl) TX.z_repr (by decide +kernel) (d_consT (d_t (d_if (d_test (d_isiT (K := K) (by decide) rfl TX.z_isinstance (d_varT (pv 3)) (pe_ty "dict" (by rfl) TX.z_dict (by decide +kernel)))) (d_n (d_lst (d_cons (d_var (pv 3)) d_nil))) (d_var (pv 3)))) d_nilT))) (nomark _)))))))))) fun _ _ _ h => h
abbrev s_right : Stmt := top 49
abbrev nm_right : List Str := ["_law_dice_here", "_law_numbers", "_law_turn", "_law_state", "_law_table", "_law_lines", "_law_key", "_law_due", "_law_one"]
abbrev ps_right : List Str := ["_law_dice_here"]
theorem sc_right : FnScope nm_right ps_right (defScope s_right) := ⟨rfl, rfl, rfl, by decide +kernel, rfl, by decide +kernel, by decide +kernel⟩
def S_right (K : PySem.W.Frag) (A : Adr) : FS :=
  (sSeq (sAsg 1 (fCB RTuple (fCons (fNew (fLc (fRng1 (fCons (fCall (G_roll K A) 2 (fCons (fVar 0) (fCons (fC (.int 4)) fNil))) fNil)) (gN 2) fYes (fCall (G_pick K A) 2 (fCons (fVar 0) (fCons (fNew (fLst (fCons (fC (.int 0)) (fCons (fC (.int 0)) (fCons (fC (.int 1)) (fCons (fC (.int 5)) (fCons (fOp RPow (fC (.int 10)) (fC (.int 20))) fNil))))))) fNil))) [2])) fNil)))
      (sSeq (sPar3T 3 4 5 (fCall (G_a_state K A) 1 (fCons (fVar 0) fNil)))
      (sSeq (sFor (fIt (fNew (fCBN RSortTp (fCons (fCall (G_some K A) 3 (fCons (fVar 0) (fCons (fNew (fLst (fCons (fTup (fCons (fC (.int 0)) (fCons (fC (.int 0)) fNil))) (fCons (fTup (fCons (fC (.int 0)) (fCons (fC (.int 1)) fNil))) (fCons (fTup (fCons (fC (.int 1)) (fCons (fC (.int 0)) fNil))) (fCons (fTup (fCons (fC (.int 2)) (fCons (fC (.int 5)) fNil))) (fCons (fTup (fCons (fC (.int 10)) (fCons (fC (.int 2)) fNil))) fNil))))))) (fCons (fCall (G_roll K A) 2 (fCons (fVar 0) (fCons (fC (.int 5)) fNil))) fNil)))) fNil)))) (gN 6) (sSeq (sPutT 4 (fVar 6) (fCall (G_a_state K A) 1 (fCons (fVar 0) fNil)))
      (sApp 5 (fOp RAdd (fOp RAdd (fCall (G_line K A) 1 (fCons (fVar 6) fNil)) (fC (.str ": "))) (fCall (G_state_line K A) 1 (fCons (fGetT (fVarT 4) (fVar 6)) fNil))))))
      (sSeq (sAsg 7 (fNew (fLst (fCons (fCall (G_line K A) 1 (fCons (fVar 1) fNil)) (fCons (fCall (G_state_line K A) 1 (fCons (fVar 3) fNil)) (fCons (fIf (fTst (fOp RNe (fVarT 5) (fNew (fLst fNil)))) (fJoin (fC (.str "\n")) (fVarT 5)) (fC (.str "none"))) fNil))))))
      (sSeq (sDemT 4 (sIf (fTst (fOp RNe (fNew (fLst (fCons (fCall (G_write_numbers K A) 1 (fCons (fVar 1) fNil)) (fCons (fCall (G_write_state K A) 1 (fCons (fVar 3) fNil)) (fCons (fCall (G_write_table K A) 1 (fCons (fVar 4) fNil)) fNil))))) (fVarT 7))) (sRet (fC (.bl false))) sNext))
      (sSeq (sDemT 4 (sIf (fTst (fOp RNe (fCB RReprXA (fCons (fNew (fLst (fCons (fCall (G_read_numbers K A) 1 (fCons (fOp RIx (fVarT 7) (fC (.int 0))) fNil)) (fCons (fCall (G_read_state K A) 1 (fCons (fOp RIx (fVarT 7) (fC (.int 1))) fNil)) (fCons (fCall (G_read_table K A) 1 (fCons (fOp RIx (fVarT 7) (fC (.int 2))) fNil)) fNil))))) fNil)) (fCB RReprXA (fCons (fNew (fLst (fCons (fVar 1) (fCons (fVar 3) (fCons (fVar 4) fNil))))) fNil)))) (sRet (fC (.bl false))) sNext))
      (sSeq (sFor (fRng1 (fCons (fC (.int 6)) fNil)) (gN 2) (sIf (fNot (fTst (fCall (G_strings_right K A) 3 (fCons (fCall (G_bent K A) 2 (fCons (fVar 0) (fCons (fOp RIx (fVarT 7) (fC (.int 0))) fNil))) (fCons (fCall (G_bent K A) 2 (fCons (fVar 0) (fCons (fOp RIx (fVarT 7) (fC (.int 1))) fNil))) (fCons (fCall (G_bent K A) 2 (fCons (fVar 0) (fCons (fOp RIx (fVarT 7) (fC (.int 2))) fNil))) fNil)))))) (sRet (fC (.bl false))) sNext))
      (sRet (fOp REq (fNew (fLc (fIt (fNew (fLst (fCons (fC (.str "")) (fCons (fC (.str "-")) (fCons (fC (.str "none")) (fCons (fC (.str "- | none")) (fCons (fC (.str "0 0: - | -")) fNil)))))))) (gN 8) (fNot (fTst (fCall (G_strings_right K A) 3 (fCons (fVar 8) (fCons (fVar 8) (fCons (fVar 8) fNil)))))) (fVar 8) [8])) (fNew (fLst fNil)))))))))))
def G_right (K : PySem.W.Frag) (A : Adr) : Fn := fnS 9 (S_right K A)
theorem ok_right {T : List (Addr × Str)} {f : Addr} {fd : FuncData} (F : Fun K "_law_right" "_law_right" s_right f fd) (TX : Txt K mg) (C_roll : CalF P w K mg base "_law_roll" 1 2 (G_roll K A))
    (C_pick : CalF P w K mg base "_law_pick" 2 2 (G_pick K A))
    (C_a_state : CalF P w K mg base "_law_a_state" 4 1 (G_a_state K A))
    (C_some : CalF P w K mg base "_law_some" 2 3 (G_some K A))
    (C_line : CalF P w K mg base "_law_line" 1 1 (G_line K A))
    (C_state_line : CalF P w K mg base "_law_state_line" 2 1 (G_state_line K A))
    (C_write_table : CalF P w K mg base "write_table" 7 1 (G_write_table K A))
    (C_write_state : CalF P w K mg base "write_state" 6 1 (G_write_state K A))
    (C_write_numbers : CalF P w K mg base "write_numbers" 4 1 (G_write_numbers K A))
    (C_read_table : CalF P w K mg base "read_table" 8 1 (G_read_table K A))
    (C_read_state : CalF P w K mg base "read_state" 7 1 (G_read_state K A))
    (C_read_numbers : CalF P w K mg base "read_numbers" 4 1 (G_read_numbers K A))
    (C_bent : CalF P w K mg base "_law_bent" 3 2 (G_bent K A))
    (C_strings_right : CalQG T P w K mg base "_law_strings_right" 11 3 (G_strings_right K A)) : FnG P w K mg base (L2.CX P w) 12 f fd ps_right (spQ T K 1 (G_right K A)) := by
  have nd := sc_right.nd
  exact fn_qG (k := 11) F sc_right rfl (fun cdv Ar outer s H E W0 hr gd hc => (tq_seq (tq_s (E := E) fun W0 H0 => (d_asg (d_ct (kcall_tuple (K := K)) s_tuple (by rfl) TX.z_tuple (by decide +kernel) (d_consT (d_nt (d_lc (own := [("_law_turn", 2)]) (by rfl) nd (d_fc (d_rng1 rfl TX.z_range (d_cons (d_call C_roll (hr.mono (by first | decide | omega)) rfl (passes_call (takes_of rfl rfl rfl rfl) fun _ _ _ _ h => h) (d_cons (d_var (pv 0)) (d_cons (d_int pe_int) d_nil))) d_nil))) (blkOk_by (own := [("_law_turn", 2)]) (N := nm_right) (sc := defScope s_right) (by decide +kernel)) (g_name (by decide)) (fun _ _ _ _ _ => (pg_name (i := 2) nd rfl (Or.inl rfl))) (fun _ _ _ _ _ => d_pts0) (fun _ _ _ _ _ => (d_call C_pick (hr.mono (by first | decide | omega)) rfl passL (d_cons (d_var (pv 0)) (d_cons (d_n (d_lst (d_cons (d_int pe_int) (d_cons (d_int pe_int) (d_cons (d_int pe_int) (d_cons (d_int pe_int) (d_cons (d_op op_powW s_pow (d_t (d_int pe_int)) (d_t (d_int pe_int))) d_nil))))))) d_nil)))))) d_nilT)) (pg_name (i := 1) nd rfl (Or.inl rfl))))
      (tq_seq (tq_s (E := E) fun W0 H0 => (d_par3T (ps_par3 (i := 3) (j := 4) (l := 5) (by rfl) nd rfl rfl rfl (by decide) (by decide) (by decide) rfl rfl rfl (pa_cons (d_call C_a_state (hr.mono (by first | decide | omega)) rfl (passes_call (takes_of rfl rfl rfl rfl) fun _ _ _ _ h => h) (d_cons (d_var (pv 0)) d_nil)) (pa_cons pe_dnewT (pa_cons (pe_lst pa_nil) pa_nil))) (by rfl))))
      (tq_seq (tq_s (E := E) fun W0 H0 => (d_for (vs := [6]) (passes_of rfl) rfl (d_itF (K := K) (d_n (d_cbN (c_sortTp (K := K) (Nat.lt_of_succ_lt (hr65 hr))) s_sortTp (by rfl) TX.z_sorted (by decide +kernel) (d_consT (d_t (d_call C_some (hr.mono (by first | decide | omega)) rfl (passes_call (takes_of rfl rfl rfl rfl) fun _ _ _ _ h => h) (d_cons (d_var (pv 0)) (d_cons (d_n (d_lst (d_cons (d_tup (d_cons (d_int pe_int) (d_cons (d_int pe_int) d_nil))) (d_cons (d_tup (d_cons (d_int pe_int) (d_cons (d_int pe_int) d_nil))) (d_cons (d_tup (d_cons (d_int pe_int) (d_cons (d_int pe_int) d_nil))) (d_cons (d_tup (d_cons (d_int pe_int) (d_cons (d_int pe_int) d_nil))) (d_cons (d_tup (d_cons (d_int pe_int) (d_cons (d_int pe_int) d_nil))) d_nil))))))) (d_cons (d_call C_roll (hr.mono (by first | decide | omega)) rfl (passes_call (takes_of rfl rfl rfl rfl) fun _ _ _ _ h => h) (d_cons (d_var (pv 0)) (d_cons (d_int pe_int) d_nil))) d_nil))))) d_nilT)))) (pg_name (i := 6) nd rfl (Or.inl rfl)) (g_name (by decide)) (d_seq (d_putT (ps_dput (hr1 hr) (pv 4) (d_var (pv 6)) (d_call C_a_state (hr.mono (by first | decide | omega)) rfl (passes_call (takes_of rfl rfl rfl rfl) fun _ _ _ _ h => h) (d_cons (d_var (pv 0)) d_nil)) rfl))
      (d_sone (d_app (ps_expr (kpe_bm (K := K) PySem.F.plainAttrs_list PySem.F.slot_list_append PySem.F.type_list_append mt_append (pv 5) (pa_cons (d_op (op_addA (K := K)) s_add (d_t (d_op (op_addA (K := K)) s_add (d_t (d_call C_line (hr.mono (by first | decide | omega)) rfl (passes_call (takes_of rfl rfl rfl rfl) fun _ _ _ _ h => h) (d_cons (d_var (pv 6)) d_nil))) (d_t (d_str pe_str)))) (d_t (d_call C_state_line (hr.mono (by first | decide | omega)) rfl (passes_call (takes_of rfl rfl rfl rfl) fun _ _ _ _ h => h) (d_cons (d_getT (hr1 hr) (d_varT (pv 4)) (d_var (pv 6)) (fun _ _ => rfl)) d_nil)))) pa_nil))))))))
      (tq_seq (tq_s (E := E) fun W0 H0 => (d_asg (d_n (d_lst (d_cons (d_call C_line (hr.mono (by first | decide | omega)) rfl (passes_call (takes_of rfl rfl rfl rfl) fun _ _ _ _ h => h) (d_cons (d_var (pv 1)) d_nil)) (d_cons (d_call C_state_line (hr.mono (by first | decide | omega)) rfl (passes_call (takes_of rfl rfl rfl rfl) fun _ _ _ _ h => h) (d_cons (d_var (pv 3)) d_nil)) (d_cons (d_if (d_tcmp (op_neA (K := K) hr.units) s_ne (d_varT (pv 5)) (d_nt (d_lst d_nil)) (nomark _)) (d_join (K := K) (d_str pe_str) (d_varT (pv 5))) (d_str pe_str)) d_nil))))) (pg_name (i := 7) nd rfl (Or.inl rfl))))
      (tq_seq (tq_s (E := E) fun W0 H0 => (d_demT 4 (d_ifs (d_tcmp (op_neA (K := K) hr.units) s_ne (d_nt (d_lst (d_cons (d_call C_write_numbers (hr.mono (by first | decide | omega)) rfl (passes_call (takes_of rfl rfl rfl rfl) fun _ _ _ _ h => h) (d_cons (d_var (pv 1)) d_nil)) (d_cons (d_call C_write_state (hr.mono (by first | decide | omega)) rfl (passes_call (takes_of rfl rfl rfl rfl) fun _ _ _ _ h => h) (d_cons (d_var (pv 3)) d_nil)) (d_cons (d_call C_write_table (hr.mono (by first | decide | omega)) rfl (passes_call (takes_of rfl rfl rfl rfl) fun _ _ _ _ h => h) (d_cons (d_var (pv 4)) d_nil)) d_nil))))) (d_varT (pv 7)) (nomark _)) (d_sone (d_ret (d_bl pe_bl))) d_snil)))
      (tq_seq (tq_s (E := E) fun W0 H0 => (d_demT 4 (d_ifs (d_tcmp (op_neA (K := K) hr.units) s_ne (d_t (d_cb (c_reprXA (K := K) gd (Nat.lt_of_succ_lt (hr65 hr))) s_reprXA (by rfl) TX.z_repr (by decide +kernel) (d_consT (d_nt (d_lst (d_cons (d_call C_read_numbers (hr.mono (by first | decide | omega)) rfl (passes_call (takes_of rfl rfl rfl rfl) fun _ _ _ _ h => h) (d_cons (d_ix (ix_A (K := K)) s_ix (d_varT (pv 7)) (d_t (d_int pe_int)) (fun _ _ => rfl)) d_nil)) (d_cons (d_call C_read_state (hr.mono (by first | decide | omega)) rfl (passes_call (takes_of rfl rfl rfl rfl) fun _ _ _ _ h => h) (d_cons (d_ix (ix_A (K := K)) s_ix (d_varT (pv 7)) (d_t (d_int pe_int)) (fun _ _ => rfl)) d_nil)) (d_cons (d_call C_read_table (hr.mono (by first | decide | omega)) rfl (passes_call (takes_of rfl rfl rfl rfl) fun _ _ _ _ h => h) (d_cons (d_ix (ix_A (K := K)) s_ix (d_varT (pv 7)) (d_t (d_int pe_int)) (fun _ _ => rfl)) d_nil)) d_nil))))) d_nilT))) (d_t (d_cb (c_reprXA (K := K) gd (Nat.lt_of_succ_lt (hr65 hr))) s_reprXA (by rfl) TX.z_repr (by decide +kernel) (d_consT (d_nt (d_lst (d_cons (d_var (pv 1)) (d_cons (d_var (pv 3)) (d_cons (d_var (pv 4)) d_nil))))) d_nilT))) (nomark _)) (d_sone (d_ret (d_bl pe_bl))) d_snil)))
      (tq_seq (tq_for (vs := [2]) noT_no (passes_of rfl) rfl (tq_rng1 (E := E) rfl TX.z_range (d_cons (d_int pe_int) d_nil)) (pg_name (i := 2) nd rfl (Or.inl rfl)) (g_name (by decide)) (tq_one (tq_if noT_no (tq_not (tq_test (tq_callG C_strings_right (hr.mono (by first | decide | omega)) gd rfl (tq_a (E := E) (d_cons (d_call C_bent (hr.mono (by first | decide | omega)) rfl (passes_call (takes_of rfl rfl rfl rfl) fun _ _ _ _ h => h) (d_cons (d_var (pv 0)) (d_cons (d_ix (ix_A (K := K)) s_ix (d_varT (pv 7)) (d_t (d_int pe_int)) (fun _ _ => rfl)) d_nil))) (d_cons (d_call C_bent (hr.mono (by first | decide | omega)) rfl (passes_call (takes_of rfl rfl rfl rfl) fun _ _ _ _ h => h) (d_cons (d_var (pv 0)) (d_cons (d_ix (ix_A (K := K)) s_ix (d_varT (pv 7)) (d_t (d_int pe_int)) (fun _ _ => rfl)) d_nil))) (d_cons (d_call C_bent (hr.mono (by first | decide | omega)) rfl (passes_call (takes_of rfl rfl rfl rfl) fun _ _ _ _ h => h) (d_cons (d_var (pv 0)) (d_cons (d_ix (ix_A (K := K)) s_ix (d_varT (pv 7)) (d_t (d_int pe_int)) (fun _ _ => rfl)) d_nil))) d_nil))))))) (tq_one (tq_s (E := E) fun W0 H0 => (d_ret (d_bl pe_bl)))) tq_nil)))
      (tq_one (tq_ret noT_no (tq_cmp (op_eqA (K := K) hr.units) s_eq (tq_n (tq_lc (own := [("_law_one", 8)]) (by rfl) nd (tq_itF (E := E) (K := K) (d_n (d_lst (d_cons (d_str pe_str) (d_cons (d_str pe_str) (d_cons (d_str pe_str) (d_cons (d_str pe_str) (d_cons (d_str pe_str) d_nil)))))))) (blkOk_by (own := [("_law_one", 8)]) (N := nm_right) (sc := defScope s_right) (by decide +kernel)) (g_name (by decide)) (fun _ _ _ _ _ => (pg_name (i := 8) nd rfl (Or.inl rfl))) (fun _ _ _ _ _ => (tq_pts1 (tq_not (tq_test (tq_callG C_strings_right (hr.mono (by first | decide | omega)) gd rfl (tq_a (E := E) (d_cons (d_var (pv 8)) (d_cons (d_var (pv 8)) (d_cons (d_var (pv 8)) d_nil))))))))) (fun _ _ _ _ _ => (tq_e (E := E) (d_var (pv 8)))))) (tq_e (E := E) (d_n (d_lst d_nil))) (nomark _)))))))))))) fun _ _ _ h => h
abbrev s_law : Stmt := top 50
abbrev nm_law : List Str := ["_law_script", "_law_spot"]
abbrev ps_law : List Str := ["_law_script"]
theorem sc_law : FnScope nm_law ps_law (defScope s_law) := ⟨rfl, rfl, rfl, by decide +kernel, rfl, by decide +kernel, by decide +kernel⟩
def S_law (K : PySem.W.Frag) (A : Adr) : FS :=
  (sSeq (sFor (fRng1 (fCons (fCB RMax2 (fCons (fC (.int 1)) (fCons (fCB RMin2 (fCons (fC (.int 8)) (fCons (fCB RLen (fCons (fVarT 0) fNil)) fNil))) fNil))) fNil)) (gN 1) (sIf (fNot (fTst (fCall (G_right K A) 1 (fCons (fCall (G_dice K A) 2 (fCons (fVar 0) (fCons (fVar 1) fNil))) fNil)))) (sRet (fC (.bl false))) sNext))
      (sRet (fC (.bl true))))
def G_law (K : PySem.W.Frag) (A : Adr) : Fn := fnS 2 (S_law K A)
theorem ok_law {T : List (Addr × Str)} {f : Addr} {fd : FuncData} (F : Fun K "law" "law" s_law f fd) (TX : Txt K mg) (C_dice : CalF P w K mg base "_law_dice" 1 2 (G_dice K A))
    (C_right : CalQG T P w K mg base "_law_right" 12 1 (G_right K A)) : FnG P w K mg base (L2.CX P w) 13 f fd ps_law (spQ T K 1 (G_law K A)) := by
  have nd := sc_law.nd
  exact fn_qG (k := 12) F sc_law rfl (fun cdv Ar outer s H E W0 hr gd hc => (tq_seq (tq_for (vs := [1]) noT_no (passes_of rfl) rfl (tq_rng1 (E := E) rfl TX.z_range (d_cons (d_cb (call_max2 rfl) s_max2 (by rfl) TX.z_max (by decide +kernel) (d_consT (d_t (d_int pe_int)) (d_consT (d_t (d_cb (call_min2 rfl) s_min2 (by rfl) TX.z_min (by decide +kernel) (d_consT (d_t (d_int pe_int)) (d_consT (d_t (d_cb (c_len (K := K)) s_len (by rfl) TX.z_len (by decide +kernel) (d_consT (d_varT (pv 0)) d_nilT))) d_nilT)))) d_nilT))) d_nil)) (pg_name (i := 1) nd rfl (Or.inl rfl)) (g_name (by decide)) (tq_one (tq_if noT_no (tq_not (tq_test (tq_callG C_right (hr.mono (by first | decide | omega)) gd rfl (tq_a (E := E) (d_cons (d_call C_dice (hr.mono (by first | decide | omega)) rfl (passes_call (takes_of rfl rfl rfl rfl) fun _ _ _ _ h => h) (d_cons (d_var (pv 0)) (d_cons (d_var (pv 1)) d_nil))) d_nil))))) (tq_one (tq_s (E := E) fun W0 H0 => (d_ret (d_bl pe_bl)))) tq_nil)))
      (tq_one (tq_s (E := E) fun W0 H0 => (d_ret (d_bl pe_bl)))))) fun _ _ _ h => h
end
end K70
set_option Elab.async false
set_option maxRecDepth 100000
set_option maxHeartbeats 1000000
set_option linter.all false
set_option pp.maxSteps 2500
namespace K70
open PySem PySem.Spec PyProof.Rows L2 Ly Pu TM
section
variable {K : PySem.W.Frag} {A : Adr}
theorem read_numbers {z : Str} (hz : z.length ≤ 900) {Q : D → Prop} {Z : ZX} (q : match numsF z with | none => Z (.kept A.cParseError ["line"] [.non]) | some l => Q (tupI (nI l))) : G_read_numbers K A [.str z] Q Z := by
  unfold G_read_numbers S_read_numbers
  simp only [fnS, Pu.startB, sSeq, sAsg, sIf, sRet, sNext, sNew, sApp, sPar, sDem, demB, fVar, fVarT, fC, fOp, fTst, fAnd, fOr, fNot, fNew, fLst, fTup, fNil, fCons, fSl, Pu.oAt, oNo, fCB, fCall, fIf, fChain, fRng1, fIt, fJoin, RLen, RI0, RAdd, RSl, RIsN, RTuple, gN, bD, List.map_cons, List.map_nil, List.cons_append, List.nil_append, List.length_cons, List.length_nil, List.replicate, Nat.reduceSub, Nat.reduceAdd, List.getElem?_cons_zero, List.getElem?_cons_succ, List.set_cons_zero, List.set_cons_succ, Option.some.injEq, B.val.injEq, D.int.injEq, D.bl.injEq, D.str.injEq, D.tup.injEq, D.lst.injEq, exists_eq_left', exists_eq_left, exists_and_left, ex_eq, true_and, and_true, List.cons.injEq, List.zip_cons_cons, List.zip_nil_right, List.foldl_cons, List.foldl_nil, wipeB, lenD, itD, Bool.not_true, Bool.not_false, Bool.false_eq_true, Bool.true_eq_false, if_true, if_false, ite_true, ite_false, D.dic.injEq, D.obj.injEq, and_assoc, List.map_map, sDrop, sRaiseK]
  unfold G_require_string S_require_string
  simp only [fnS, Pu.startB, sSeq, sAsg, sIf, sRet, sNext, sNew, sApp, sPar, sDem, demB, fVar, fVarT, fC, fOp, fTst, fAnd, fOr, fNot, fNew, fLst, fTup, fNil, fCons, fSl, Pu.oAt, oNo, fCB, fCall, fIf, fChain, fRng1, fIt, fJoin, RLen, RI0, RAdd, RSl, RIsN, RTuple, gN, bD, List.map_cons, List.map_nil, List.cons_append, List.nil_append, List.length_cons, List.length_nil, List.replicate, Nat.reduceSub, Nat.reduceAdd, List.getElem?_cons_zero, List.getElem?_cons_succ, List.set_cons_zero, List.set_cons_succ, Option.some.injEq, B.val.injEq, D.int.injEq, D.bl.injEq, D.str.injEq, D.tup.injEq, D.lst.injEq, exists_eq_left', exists_eq_left, exists_and_left, ex_eq, true_and, and_true, List.cons.injEq, List.zip_cons_cons, List.zip_nil_right, List.foldl_cons, List.foldl_nil, wipeB, lenD, itD, Bool.not_true, Bool.not_false, Bool.false_eq_true, Bool.true_eq_false, if_true, if_false, ite_true, ite_false, D.dic.injEq, D.obj.injEq, and_assoc, List.map_map, fIsi, okI, kdD, kdIs]
  rw [if_neg (by decide)]
  refine numbers_of (by omega) ?_
  cases c : numsF z with
  | none =>
    rw [c] at q
    exact q
  | some l =>
    rw [c] at q
    exact q
theorem read_state {z : Str} (hz : z.length ≤ 900) {Q : D → Prop} {Z : ZX} (q : match stF z with | none => Z (.kept A.cParseError ["line"] [.non]) | some s => Q (stD s)) : G_read_state K A [.str z] Q Z := by
  unfold G_read_state S_read_state
  simp only [fnS, Pu.startB, sSeq, sAsg, sIf, sRet, sNext, sNew, sApp, sPar, sDem, demB, fVar, fVarT, fC, fOp, fTst, fAnd, fOr, fNot, fNew, fLst, fTup, fNil, fCons, fSl, Pu.oAt, oNo, fCB, fCall, fIf, fChain, fRng1, fIt, fJoin, RLen, RI0, RAdd, RSl, RIsN, RTuple, gN, bD, List.map_cons, List.map_nil, List.cons_append, List.nil_append, List.length_cons, List.length_nil, List.replicate, Nat.reduceSub, Nat.reduceAdd, List.getElem?_cons_zero, List.getElem?_cons_succ, List.set_cons_zero, List.set_cons_succ, Option.some.injEq, B.val.injEq, D.int.injEq, D.bl.injEq, D.str.injEq, D.tup.injEq, D.lst.injEq, exists_eq_left', exists_eq_left, exists_and_left, ex_eq, true_and, and_true, List.cons.injEq, List.zip_cons_cons, List.zip_nil_right, List.foldl_cons, List.foldl_nil, wipeB, lenD, itD, Bool.not_true, Bool.not_false, Bool.false_eq_true, Bool.true_eq_false, if_true, if_false, ite_true, ite_false, D.dic.injEq, D.obj.injEq, and_assoc, List.map_map, sDrop, sRaiseK]
  unfold G_require_string S_require_string
  simp only [fnS, Pu.startB, sSeq, sAsg, sIf, sRet, sNext, sNew, sApp, sPar, sDem, demB, fVar, fVarT, fC, fOp, fTst, fAnd, fOr, fNot, fNew, fLst, fTup, fNil, fCons, fSl, Pu.oAt, oNo, fCB, fCall, fIf, fChain, fRng1, fIt, fJoin, RLen, RI0, RAdd, RSl, RIsN, RTuple, gN, bD, List.map_cons, List.map_nil, List.cons_append, List.nil_append, List.length_cons, List.length_nil, List.replicate, Nat.reduceSub, Nat.reduceAdd, List.getElem?_cons_zero, List.getElem?_cons_succ, List.set_cons_zero, List.set_cons_succ, Option.some.injEq, B.val.injEq, D.int.injEq, D.bl.injEq, D.str.injEq, D.tup.injEq, D.lst.injEq, exists_eq_left', exists_eq_left, exists_and_left, ex_eq, true_and, and_true, List.cons.injEq, List.zip_cons_cons, List.zip_nil_right, List.foldl_cons, List.foldl_nil, wipeB, lenD, itD, Bool.not_true, Bool.not_false, Bool.false_eq_true, Bool.true_eq_false, if_true, if_false, ite_true, ite_false, D.dic.injEq, D.obj.injEq, and_assoc, List.map_map, fIsi, okI, kdD, kdIs]
  rw [if_neg (by decide)]
  refine state_of hz ?_
  cases c : stF z with
  | none =>
    rw [c] at q
    exact q
  | some l =>
    rw [c] at q
    exact q
end
end K70
set_option Elab.async false
set_option maxRecDepth 100000
set_option maxHeartbeats 1000000
set_option linter.all false
set_option pp.maxSteps 2500
namespace K70
open PySem PySem.Spec PyProof.Rows L2 Ly Pu TM
structure EK (K : PySem.W.Frag) (A : Adr) : Prop where
  pp : PySem.W.exmOne K (.ref A.cParseError) (.ref A.cParseError) = some true
def hcL (K : PySem.W.Frag) (A : Adr) : List HC := [⟨A.cParseError, some 1, fun x a cls d => (sRet (fXf cls d A.cParseError a "line" (fVar 1)))⟩]
def gotZ (K : PySem.W.Frag) (A : Adr) (Q : D → Prop) : ZX := hchain K 2 { nx := fun _ => Q .non, rt := Q, ex := ZN } (hcL K A)
section
variable {K : PySem.W.Frag} {A : Adr}
theorem got_kept (EC : EK K A) {v : D} {Q : D → Prop} (q : Q v) : gotZ K A Q (.kept A.cParseError ["line"] [v]) := by
  refine ⟨true, EC.pp, ?_⟩
  rw [if_pos rfl]
  rintro a cls d ⟨hc, dd, rfl⟩
  subst hc
  show sRet (fXf (.ref A.cParseError) (some dd) A.cParseError a "line" (fVar 1)) [.un, .val (.exn a dd ["line"] [v])] _
  simp only [fnS, Pu.startB, sSeq, sAsg, sIf, sRet, sNext, sNew, sApp, sPar, sDem, demB, fVar, fVarT, fC, fOp, fTst, fAnd, fOr, fNot, fNew, fLst, fTup, fNil, fCons, fSl, Pu.oAt, oNo, fCB, fCall, fIf, fChain, fRng1, fIt, fJoin, RLen, RI0, RAdd, RSl, RIsN, RTuple, gN, bD, List.map_cons, List.map_nil, List.cons_append, List.nil_append, List.length_cons, List.length_nil, List.replicate, Nat.reduceSub, Nat.reduceAdd, List.getElem?_cons_zero, List.getElem?_cons_succ, List.set_cons_zero, List.set_cons_succ, Option.some.injEq, B.val.injEq, D.int.injEq, D.bl.injEq, D.str.injEq, D.tup.injEq, D.lst.injEq, exists_eq_left', exists_eq_left, exists_and_left, ex_eq, true_and, and_true, List.cons.injEq, List.zip_cons_cons, List.zip_nil_right, List.foldl_cons, List.foldl_nil, wipeB, lenD, itD, Bool.not_true, Bool.not_false, Bool.false_eq_true, Bool.true_eq_false, if_true, if_false, ite_true, ite_false, D.dic.injEq, D.obj.injEq, and_assoc, List.map_map, fXf, backE]
  exact ⟨dd, _, _, rfl, rfl, v, rfl, q⟩
def gotN (o : Option D) : D := match o with
  | none => .non
  | some d => .lst [d]
theorem got_numbers (EC : EK K A) {ρ : Pu.Env} {z : Str} (hz : z.length ≤ 900) {F : FE} (hF : ∀ {Q : D → Prop} {Z : ZX}, Q (.str z) → F ρ Q Z) {Q : D → Prop} {Z : ZX} (q : Q (gotN ((numsF z).map fun l => tupI (nI l)))) :
    fLam 2 (S_got K A) (fCall (G_read_numbers K A) 1 (fCons F fNil)) ρ Q Z := by
  show (fCall (G_read_numbers K A) 1 (fCons F fNil)) ρ (fun d => Q (.lst [d])) (gotZ K A Q)
  unfold fCall fCons fNil
  refine hF ⟨rfl, read_numbers hz ?_⟩
  cases c : numsF z with
  | none =>
    rw [c] at q
    exact got_kept EC q
  | some l =>
    rw [c] at q
    exact q
theorem got_state (EC : EK K A) {ρ : Pu.Env} {z : Str} (hz : z.length ≤ 900) {F : FE} (hF : ∀ {Q : D → Prop} {Z : ZX}, Q (.str z) → F ρ Q Z) {Q : D → Prop} {Z : ZX} (q : Q (gotN ((stF z).map stD))) :
    fLam 2 (S_got K A) (fCall (G_read_state K A) 1 (fCons F fNil)) ρ Q Z := by
  show (fCall (G_read_state K A) 1 (fCons F fNil)) ρ (fun d => Q (.lst [d])) (gotZ K A Q)
  unfold fCall fCons fNil
  refine hF ⟨rfl, read_state hz ?_⟩
  cases c : stF z with
  | none =>
    rw [c] at q
    exact got_kept EC q
  | some l =>
    rw [c] at q
    exact q
def gotT (z : Str) : D := match tabF (linesF z) [] with
  | .inl k => .int (k : Int)
  | .inr r => .lst [tabD r]
theorem got_table (EC : EK K A) {ρ : Pu.Env} {z : Str} (hz : z.length ≤ 900) {F : FE} (hF : ∀ {Q : D → Prop} {Z : ZX}, Q (.str z) → F ρ Q Z) {Q : D → Prop} {Z : ZX} (q : Q (gotT z)) :
    fLam 2 (S_got K A) (fCall (G_read_table K A) 1 (fCons F fNil)) ρ Q Z := by
  show (fCall (G_read_table K A) 1 (fCons F fNil)) ρ (fun d => Q (.lst [d])) (gotZ K A Q)
  unfold fCall fCons fNil
  refine hF ⟨rfl, read_table hz ?_⟩
  unfold gotT at q
  cases c : tabF (linesF z) [] with
  | inl k =>
    rw [c] at q
    exact got_kept EC q
  | inr r =>
    rw [c] at q
    exact q
end
end K70
set_option Elab.async false
set_option maxRecDepth 100000
set_option maxHeartbeats 1000000
set_option linter.all false
set_option pp.maxSteps 2500
namespace K70
open PySem PySem.Spec PyProof.Rows L2 Ly Pu TM
structure NcA (n : Nat) (k : Nat) (ps : List PyData) : Prop where
  sh : PyData.showableAll ps = true
  lv : PyData.leavesShortAll 64 ps = true
  dp : PyData.depthAll ps ≤ k
  wt : PyData.weightAll ps ≤ n
theorem tsn_len (k n : Nat) (hk : 1 ≤ k) (hn : n < 10 ^ k) : (tsN n).length ≤ k := by
  have h := PySem.W.KIN.signs_num n
  have hl : (tsN n).length = (Nat.toDigits 10 n).length := by
    rw [len_lab]
    show (PySem.Str.ofString (toString ((n : Nat) : Int))).cps.toList.length = _
    rw [h, List.length_map]
  rw [hl]
  exact digits10_le hk hn
theorem nc_int {i : Int} (h : 0 ≤ i ∧ i < Big) : (PyData.int i).showable = true ∧ (PyData.int i).leavesShort 64 = true ∧ (PyData.int i).weight ≤ 200 := by
  obtain ⟨n, rfl⟩ := Int.eq_ofNat_of_zero_le h.1
  have h2 : n < 10 ^ 60 := by
    have := h.2
    unfold Big at this
    have h3 : ((10 ^ 60 : Nat) : Int) = 10 ^ 60 := by decide +kernel
    omega
  have h4 : ((n : Int)).natAbs = n := Int.natAbs_natCast n
  have hl : n.log2 < 200 := by
    by_cases e : n = 0
    · subst e; decide
    · rw [Nat.log2_lt e]
      exact Nat.lt_trans h2 (by decide +kernel)
  refine ⟨?_, ?_, ?_⟩
  · show decide (((n : Int)).natAbs.log2 < 1920) = true
    rw [h4]
    exact decide_eq_true (by omega)
  · show decide ((PyData.shown (.int (n : Int))).length ≤ 64) = true
    refine decide_eq_true ?_
    show (tsN n).length ≤ 64
    exact tsn_len 64 n (by decide) (Nat.lt_trans h2 (by decide +kernel))
  · show (if (n : Int) == 0 then 0 else ((n : Int)).natAbs.log2 + 1) ≤ 200
    rw [h4]
    split <;> omega
theorem nc_ints : ∀ {l : List Int}, Sm l → NcA (201 * l.length) 0 (toPs (l.map D.int))
  | [], _ => ⟨rfl, rfl, Nat.le_refl _, Nat.le_refl _⟩
  | i :: l, h => by
    obtain ⟨a1, a2, a3⟩ := nc_int (h i (List.mem_cons_self ..))
    obtain ⟨b1, b2, b3, b4⟩ := nc_ints (l := l) fun j hj => h j (List.mem_cons_of_mem _ hj)
    refine ⟨?_, ?_, ?_, ?_⟩
    · show (PyData.showable (.int i) && PyData.showableAll (toPs (l.map D.int))) = true
      rw [a1, b1]; rfl
    · show (PyData.leavesShort 64 (.int i) && PyData.leavesShortAll 64 (toPs (l.map D.int))) = true
      rw [a2, b2]; rfl
    · show max (PyData.depth (.int i)) (PyData.depthAll (toPs (l.map D.int))) ≤ 0
      have : PyData.depth (.int i) = 0 := rfl
      omega
    · show PyData.weight (.int i) + 1 + PyData.weightAll (toPs (l.map D.int)) ≤ 201 * (l.length + 1)
      omega
/-- a tuple of whole numbers -/
theorem nc_tup {l : List Int} (h : Sm l) : (toP (tupI l)).showable = true ∧ (toP (tupI l)).leavesShort 64 = true ∧ (toP (tupI l)).depth ≤ 1 ∧ (toP (tupI l)).weight ≤ 201 * l.length := by
  obtain ⟨b1, b2, b3, b4⟩ := nc_ints h
  refine ⟨b1, b2, ?_, b4⟩
  show PyData.depthAll (toPs (l.map D.int)) + 1 ≤ 1
  omega
def cnt (ls : List (List Int)) : Nat := (ls.map (·.length)).sum + ls.length
theorem nc_tups : ∀ {ls : List (List Int)}, (∀ l ∈ ls, Sm l) → NcA (201 * cnt ls) 1 (toPs (ls.map tupI))
  | [], _ => ⟨rfl, rfl, Nat.zero_le _, Nat.le_refl _⟩
  | l :: ls, h => by
    obtain ⟨a1, a2, a3, a4⟩ := nc_tup (h l (List.mem_cons_self ..))
    obtain ⟨b1, b2, b3, b4⟩ := nc_tups (ls := ls) fun j hj => h j (List.mem_cons_of_mem _ hj)
    refine ⟨?_, ?_, ?_, ?_⟩
    · show (PyData.showable (toP (tupI l)) && PyData.showableAll (toPs (ls.map tupI))) = true
      rw [a1, b1]; rfl
    · show (PyData.leavesShort 64 (toP (tupI l)) && PyData.leavesShortAll 64 (toPs (ls.map tupI))) = true
      rw [a2, b2]; rfl
    · show max (PyData.depth (toP (tupI l))) (PyData.depthAll (toPs (ls.map tupI))) ≤ 1
      omega
    · show PyData.weight (toP (tupI l)) + 1 + PyData.weightAll (toPs (ls.map tupI)) ≤ _
      have e : cnt (l :: ls) = l.length + 1 + cnt ls := by
        unfold cnt
        rw [List.map_cons, List.sum_cons, List.length_cons]
        omega
      rw [e]
      omega
def wSt (s : St) : Nat := 201 * (s.1.length + cnt s.2) + 2
theorem nc_st {s : St} (h : SmS s) : (toP (stD s)).showable = true ∧ (toP (stD s)).leavesShort 64 = true ∧ (toP (stD s)).depth ≤ 3 ∧ (toP (stD s)).weight ≤ wSt s := by
  obtain ⟨a1, a2, a3, a4⟩ := nc_tup (l := s.1) h.a.2
  obtain ⟨b1, b2, b3, b4⟩ := nc_tups (ls := s.2) fun l hl => (h.b l hl).2
  refine ⟨?_, ?_, ?_, ?_⟩
  · show (PyData.showable (toP (tupI s.1)) && (PyData.showableAll (toPs (s.2.map tupI)) && true)) = true
    rw [a1, b1]; rfl
  · show (PyData.leavesShort 64 (toP (tupI s.1)) && (PyData.leavesShortAll 64 (toPs (s.2.map tupI)) && true)) = true
    rw [a2, b2]; rfl
  · show max (PyData.depth (toP (tupI s.1))) (max (PyData.depthAll (toPs (s.2.map tupI)) + 1) 0) + 1 ≤ 3
    omega
  · show PyData.weight (toP (tupI s.1)) + 1 + (PyData.weightAll (toPs (s.2.map tupI)) + 1 + 0) ≤ _
    unfold wSt
    omega
def SmR (r : Rw) : Prop := Sm r.1 ∧ SmS r.2
def wRw : List Rw → Nat
  | [] => 0
  | r :: rs => 201 * r.1.length + wSt r.2 + 2 + wRw rs
theorem keyP_ints (l : List Int) : (kK l).map keyP = toPs (l.map D.int) := by
  induction l with
  | nil => rfl
  | cons i l ih =>
    show PyData.int i :: (kK l).map keyP = PyData.int i :: toPs (l.map D.int)
    rw [ih]
theorem tab_pairs : ∀ rs : List Rw, (((rs.map fun p => kK p.1).map fun k => PyData.tuple (k.map keyP)).zip (toPs (rs.map fun p => stD p.2))) = rs.map fun p => (toP (tupI p.1), toP (stD p.2))
  | [] => rfl
  | r :: rs => by
    have ih := tab_pairs rs
    show (PyData.tuple ((kK r.1).map keyP), toP (stD r.2)) :: (((rs.map fun p => kK p.1).map fun k => PyData.tuple (k.map keyP)).zip (toPs (rs.map fun p => stD p.2))) = _
    rw [keyP_ints, ih]
    rfl
theorem nc_tab : ∀ {rs : List Rw}, (∀ r ∈ rs, SmR r) → PyData.showableKv (rs.map fun p => (toP (tupI p.1), toP (stD p.2))) = true ∧ PyData.leavesShortKv 64 (rs.map fun p => (toP (tupI p.1), toP (stD p.2))) = true ∧ PyData.depthKv (rs.map fun p => (toP (tupI p.1), toP (stD p.2))) ≤ 3 ∧ PyData.weightKv (rs.map fun p => (toP (tupI p.1), toP (stD p.2))) ≤ wRw rs
  | [], _ => ⟨rfl, rfl, Nat.zero_le _, Nat.le_refl _⟩
  | r :: rs, h => by
    obtain ⟨k1, k2⟩ := h r (List.mem_cons_self ..)
    obtain ⟨a1, a2, a3, a4⟩ := nc_tup k1
    obtain ⟨c1, c2, c3, c4⟩ := nc_st k2
    obtain ⟨b1, b2, b3, b4⟩ := nc_tab (rs := rs) fun j hj => h j (List.mem_cons_of_mem _ hj)
    refine ⟨?_, ?_, ?_, ?_⟩
    · show (PyData.showable (toP (tupI r.1)) && PyData.showable (toP (stD r.2)) && PyData.showableKv _) = true
      rw [a1, c1, b1]; rfl
    · show (PyData.leavesShort 64 (toP (tupI r.1)) && PyData.leavesShort 64 (toP (stD r.2)) && PyData.leavesShortKv 64 _) = true
      rw [a2, c2, b2]; rfl
    · show max (max (PyData.depth (toP (tupI r.1))) (PyData.depth (toP (stD r.2)))) (PyData.depthKv (rs.map fun p => (toP (tupI p.1), toP (stD p.2)))) ≤ 3
      omega
    · show PyData.weight (toP (tupI r.1)) + PyData.weight (toP (stD r.2)) + 2 + PyData.weightKv (rs.map fun p => (toP (tupI p.1), toP (stD p.2))) ≤ _
      unfold wRw
      omega
theorem toX_tab (rs : List Rw) : toX (tabD rs) = .dict (rs.map fun p => (toP (tupI p.1), toP (stD p.2))) := by
  show PyData.dict _ = _
  rw [tab_pairs]
end K70
set_option Elab.async false
set_option maxRecDepth 100000
set_option maxHeartbeats 1000000
set_option linter.all false
set_option pp.maxSteps 2500
namespace K70
open PySem PySem.Spec PyProof.Rows L2 Ly Pu TM
def Fn1 (d : D) : Prop := okX d = true ∧ (toX d).showable = true ∧ (toX d).leavesShort 64 = true ∧ (toX d).depth ≤ 8 ∧ (toX d).weight ≤ 50000
theorem x_repr : ∀ {es : List D}, es ≠ [] → (∀ d ∈ es, Fn1 d) → es.length ≤ 3 → ∀ {Q : D → Prop}, Q (.str (PyData.list (es.map toX)).shown) → RReprXA [.lst es] Q := by
  intro es ne h hl Q q
  have key : ∀ es : List D, (∀ d ∈ es, Fn1 d) → PyData.showableAll (es.map toX) = true ∧ PyData.leavesShortAll 64 (es.map toX) = true ∧ PyData.depthAll (es.map toX) ≤ 8 ∧ PyData.weightAll (es.map toX) ≤ 50001 * es.length := by
    intro es
    induction es with
    | nil => exact fun _ => ⟨rfl, rfl, Nat.zero_le _, Nat.le_refl _⟩
    | cons d es ih =>
      intro h
      obtain ⟨_, a1, a2, a3, a4⟩ := h d (List.mem_cons_self ..)
      obtain ⟨b1, b2, b3, b4⟩ := ih fun j hj => h j (List.mem_cons_of_mem _ hj)
      refine ⟨?_, ?_, ?_, ?_⟩
      · show (PyData.showable (toX d) && PyData.showableAll (es.map toX)) = true
        rw [a1, b1]; rfl
      · show (PyData.leavesShort 64 (toX d) && PyData.leavesShortAll 64 (es.map toX)) = true
        rw [a2, b2]; rfl
      · show max (toX d).depth (PyData.depthAll (es.map toX)) ≤ 8
        omega
      · show (toX d).weight + 1 + PyData.weightAll (es.map toX) ≤ 50001 * (es.length + 1)
        omega
  obtain ⟨k1, k2, k3, k4⟩ := key es h
  refine .inr ⟨es, rfl, ⟨ne, fun d hd => (h d hd).1, k1, ?_, ?_⟩, q⟩
  · have e := PyData.shown_le 64 (by decide) (.list (es.map toX)) k2
    have e2 : (PyData.list (es.map toX)).weight = PyData.weightAll (es.map toX) := rfl
    rw [sizeLine_eq]
    omega
  · show PyData.depthAll (es.map toX) + 1 ≤ 60
    omega
theorem x_none {Q : D → Prop} (q : Q (.str "None")) : RReprXA [.non] Q := .inl (.inl (.inl (.inl (.inl ⟨rfl, q⟩))))
theorem sum_join (y : Str) (hy : 1 ≤ y.length) : ∀ l : List Str, (l.map fun p => p.length + 1).sum ≤ (Str.join y l).length + 1
  | [] => Nat.zero_le _
  | [x] => by
    show x.length + 1 + 0 ≤ x.length + 1
    omega
  | x :: z :: r => by
    have ih := sum_join y hy (z :: r)
    have e : (Str.join y (x :: z :: r)).length = x.length + y.length + (Str.join y (z :: r)).length := by
      show (x ++ y ++ Str.join y (z :: r)).length = _
      rw [Str.length_append, Str.length_append]
    rw [e, List.map_cons, List.sum_cons]
    omega
theorem sum_split (x y : Str) (hy : 1 ≤ y.length) : ((Txt.split x y).map fun p => p.length + 1).sum ≤ x.length + 1 := by
  have h := sum_join y hy (Txt.split x y)
  rw [StrLaws.join_split] at h
  exact h
theorem two_len {z y a b : Str} (h : Txt.split z y = [a, b]) : z.length = a.length + y.length + b.length := by
  have e := StrLaws.join_split z y
  rw [h] at e
  rw [← e]
  show (a ++ y ++ b).length = _
  rw [Str.length_append, Str.length_append]
theorem num_pos {w : Str} {k : Nat} (h : numF w = some k) : 1 ≤ w.length := by
  unfold numF at h
  cases c : numB w with
  | false => rw [c] at h; cases h
  | true =>
    obtain ⟨_, d2, _⟩ := num_digits c
    rw [len_lab]
    cases e : lab w with
    | nil => exact absurd e d2
    | cons _ _ => rw [List.length_cons]; omega
theorem map_few : ∀ {ws : List Str} {l : List Nat}, ws.mapM numF = some l → 2 * l.length ≤ (ws.map fun p => p.length + 1).sum
  | [], l, h => by cases h; exact Nat.zero_le _
  | w :: ws, l, h => by
    rw [List.mapM_cons] at h
    cases c : numF w with
    | none => rw [c] at h; cases h
    | some k =>
      rw [c] at h
      cases c2 : ws.mapM numF with
      | none => rw [c2] at h; cases h
      | some r =>
        rw [c2] at h
        cases h
        have h1 := map_few c2
        have h2 := num_pos c
        show 2 * (r.length + 1) ≤ _
        rw [List.map_cons, List.sum_cons]
        omega
/-- as many numbers as signs, at most -/
theorem nums_few {z : Str} {l : List Nat} (h : numsF z = some l) : l.length ≤ z.length := by
  unfold numsF at h
  by_cases e : z = "-"
  · rw [if_pos e] at h
    cases h
    exact Nat.zero_le _
  · rw [if_neg e] at h
    have h1 := map_few h
    have h2 := sum_split z " " (by decide)
    omega
end K70
set_option Elab.async false
set_option maxRecDepth 100000
set_option maxHeartbeats 1000000
set_option linter.all false
set_option pp.maxSteps 2500
namespace K70
open PySem PySem.Spec PyProof.Rows L2 Ly Pu TM
theorem cls_sum : ∀ {ws : List Str} {ks : List (List Nat)}, ws.map numsF = ks.map some → cnt (ks.map nI) ≤ (ws.map fun p => p.length + 1).sum
  | [], ks, h => by
    cases ks with
    | nil => exact Nat.le_refl _
    | cons _ _ => cases h
  | w :: ws, ks, h => by
    cases ks with
    | nil => cases h
    | cons k ks =>
      rw [List.map_cons, List.map_cons] at h
      injection h with h1 h2
      have ih := cls_sum h2
      have n := nums_few h1
      have e : cnt ((k :: ks).map nI) = k.length + 1 + cnt (ks.map nI) := by
        show ((nI k).length :: (ks.map nI).map (·.length)).sum + ((ks.map nI).length + 1) = _
        rw [List.sum_cons]
        unfold cnt nI
        rw [List.length_map (as := k)]
        omega
      rw [e, List.map_cons, List.sum_cons]
      omega
theorem cls_cnt {b : Str} {ks : List (List Nat)} (h : clsF b = ks.map some) : cnt (ks.map nI) ≤ b.length + 1 := by
  unfold clsF at h
  by_cases e : b = "none"
  · rw [if_pos e] at h
    cases ks with
    | nil => exact Nat.zero_le _
    | cons _ _ => cases h
  · rw [if_neg e] at h
    have h1 := cls_sum h
    have h2 := sum_split b "; " (by decide)
    omega
theorem st_few {z : Str} {s : St} (hz : z.length ≤ 900) (h : stF z = some s) : SmS s ∧ wSt s ≤ 201 * z.length := by
  unfold stF at h
  split at h
  · rename_i a b e
    have hl := two_len e
    have h3 : (" | " : Str).length = 3 := rfl
    rw [h3] at hl
    split at h
    · rename_i l ks c1 c2
      split at h
      · cases h
        have m := mapM_id_some c2
        obtain ⟨s1, s2⟩ := cls_sm (b := b) (by omega)
        have n1 := nums_few c1
        have n2 := cls_cnt m
        refine ⟨⟨nums_sm (by omega) c1, ?_, ?_⟩, ?_⟩
        · rw [m, List.length_map] at s1
          rw [List.length_map]
          omega
        · intro q hq
          obtain ⟨q2, hq2, rfl⟩ := List.mem_map.mp hq
          exact s2 q2 (by rw [m]; exact List.mem_map.mpr ⟨q2, hq2, rfl⟩)
        · unfold wSt
          show 201 * ((nI l).length + cnt (ks.map nI)) + 2 ≤ _
          have : (nI l).length = l.length := List.length_map ..
          omega
      · cases h
    · cases h
  · cases h
theorem line_few {z : Str} {r : Rw} (hz : z.length ≤ 900) (h : lineF z = some r) : SmR r ∧ 201 * r.1.length + wSt r.2 + 2 ≤ 201 * z.length := by
  unfold lineF at h
  split at h
  · rename_i a b e
    have hl := two_len e
    have h3 : (": " : Str).length = 2 := rfl
    rw [h3] at hl
    unfold lineF2 at h
    split at h
    · rename_i l s c1 c2
      split at h
      · cases h
        obtain ⟨k1, k2⟩ := st_few (by omega) c2
        have n1 := nums_few c1
        refine ⟨⟨(nums_sm (by omega) c1).2, k1⟩, ?_⟩
        show 201 * (nI l).length + wSt s + 2 ≤ _
        have : (nI l).length = l.length := List.length_map ..
        omega
      · cases h
    · cases h
  · cases h
theorem wRw_app : ∀ (a : List Rw) (r : Rw), wRw (a ++ [r]) = wRw a + (201 * r.1.length + wSt r.2 + 2)
  | [], r => by
    show 201 * r.1.length + wSt r.2 + 2 + 0 = 0 + _
    omega
  | b :: a, r => by
    show 201 * b.1.length + wSt b.2 + 2 + wRw (a ++ [r]) = 201 * b.1.length + wSt b.2 + 2 + wRw a + _
    rw [wRw_app a r]
    omega
theorem tab_few : ∀ {zs : List Str} {acc r : List Rw}, (∀ z ∈ zs, z.length ≤ 900) → (∀ p ∈ acc, SmR p) → tabF zs acc = .inr r → (∀ p ∈ r, SmR p) ∧ wRw r ≤ wRw acc + 201 * (zs.map fun p => p.length + 1).sum
  | [], acc, r, _, ha, h => by
    cases h
    exact ⟨ha, by show _ ≤ _ + 201 * 0; omega⟩
  | z :: zs, acc, r, hz, ha, h => by
    unfold tabF at h
    split at h
    · cases h
    · rename_i p c
      split at h
      · cases h
      · obtain ⟨k1, k2⟩ := line_few (hz z (List.mem_cons_self ..)) c
        obtain ⟨i1, i2⟩ := tab_few (fun q hq => hz q (List.mem_cons_of_mem _ hq)) (fun q hq => by
          rcases List.mem_append.mp hq with hq | hq
          · exact ha q hq
          · rw [List.mem_singleton.mp hq]; exact k1) h
        refine ⟨i1, ?_⟩
        rw [wRw_app] at i2
        rw [List.map_cons, List.sum_cons]
        omega
theorem lines_few {z : Str} {r : List Rw} (hz : z.length ≤ 900) (h : tabF (linesF z) [] = .inr r) : (∀ p ∈ r, SmR p) ∧ wRw r ≤ 201 * (z.length + 1) := by
  unfold linesF at h
  by_cases e : z = "none"
  · rw [if_pos e] at h
    cases h
    exact ⟨fun p hp => (List.not_mem_nil hp).elim, Nat.zero_le _⟩
  · rw [if_neg e] at h
    have h2 := sum_split z "\n" (by decide)
    have h3 := (split_parts z "\n" (by decide)).2
    obtain ⟨k1, k2⟩ := tab_few (fun q hq => Nat.le_trans (h3 q hq) hz) (fun p hp => (List.not_mem_nil hp).elim) h
    refine ⟨k1, ?_⟩
    have : wRw [] = 0 := rfl
    omega
end K70
set_option Elab.async false
set_option maxRecDepth 100000
set_option maxHeartbeats 1000000
set_option linter.all false
set_option pp.maxSteps 2500
namespace K70
open PySem PySem.Spec PyProof.Rows L2 Ly Pu TM
theorem only_ints : ∀ l : List Int, onlyTs (l.map D.int) = true
  | [] => rfl
  | _ :: l => only_ints l
theorem only_tups : ∀ ls : List (List Int), onlyTs (ls.map tupI) = true
  | [] => rfl
  | l :: ls => by
    show (onlyTs (l.map D.int) && onlyTs (ls.map tupI)) = true
    rw [only_ints, only_tups]; rfl
theorem only_st (s : St) : onlyT (stD s) = true := by
  show (onlyTs (s.1.map D.int) && (onlyTs (s.2.map tupI) && true)) = true
  rw [only_ints, only_tups]; rfl
theorem only_sts : ∀ rs : List Rw, onlyTs (rs.map fun p => stD p.2) = true
  | [] => rfl
  | r :: rs => by
    show (onlyT (stD r.2) && onlyTs (rs.map fun p => stD p.2)) = true
    rw [only_st, only_sts]; rfl
theorem fn_tup {l : List Int} (h : Sm l) (hl : l.length ≤ 200) : Fn1 (tupI l) := by
  obtain ⟨a1, a2, a3, a4⟩ := nc_tup h
  exact ⟨only_ints l, a1, a2, Nat.le_trans a3 (by decide), Nat.le_trans a4 (by omega)⟩
theorem fn_st {s : St} (h : SmS s) (hl : wSt s ≤ 50000) : Fn1 (stD s) := by
  obtain ⟨a1, a2, a3, a4⟩ := nc_st h
  exact ⟨only_st s, a1, a2, Nat.le_trans a3 (by decide), Nat.le_trans a4 hl⟩
theorem fn_tab {rs : List Rw} (h : ∀ r ∈ rs, SmR r) (hl : wRw rs ≤ 50000) : Fn1 (tabD rs) := by
  obtain ⟨a1, a2, a3, a4⟩ := nc_tab h
  refine ⟨?_, ?_, ?_, ?_, ?_⟩
  · show (onlyTs (rs.map fun p => stD p.2) && decide ((rs.map fun p => kK p.1).length = (rs.map fun p => stD p.2).length)) = true
    rw [only_sts, List.length_map, List.length_map, decide_eq_true rfl]; rfl
  · rw [toX_tab]; exact a1
  · rw [toX_tab]; exact a2
  · rw [toX_tab]
    show PyData.depthKv _ + 1 ≤ 8
    omega
  · rw [toX_tab]
    exact Nat.le_trans a4 hl
theorem repr_one {d : D} (h : Fn1 d) {Q : D → Prop} (q : Q (.str (PyData.list [toX d]).shown)) : RReprXA [.lst [d]] Q :=
  x_repr (es := [d]) (by simp) (fun e he => by rw [List.mem_singleton.mp he]; exact h) (show 1 ≤ 3 by decide) q
theorem repr_int {k : Nat} (h : k ≤ 1000) {Q : D → Prop} (q : Q (.str (toString (k : Int)))) : RReprXA [.int (k : Int)] Q :=
  .inl (.inl (.inl (.inl (.inr ⟨_, rfl, by
    rw [Int.natAbs_natCast]
    by_cases e : k = 0
    · subst e; decide
    · exact Nat.lt_trans ((Nat.log2_lt e).mpr (Nat.lt_of_le_of_lt h (show 1000 < 2 ^ 10 by decide))) (by decide), q⟩))))
/-- what is got can be shown, always as the same text -/
theorem repr_N {z : Str} (hz : z.length ≤ 180) : ∃ t, ∀ {Q : D → Prop}, Q (.str t) → RReprXA [gotN ((numsF z).map fun l => tupI (nI l))] Q := by
  cases c : numsF z with
  | none => exact ⟨_, fun q => x_none q⟩
  | some l =>
    have n1 := nums_few c
    have : (nI l).length = l.length := List.length_map ..
    exact ⟨_, fun q => repr_one (fn_tup (nums_sm (by omega) c).2 (by omega)) q⟩
theorem repr_S {z : Str} (hz : z.length ≤ 180) : ∃ t, ∀ {Q : D → Prop}, Q (.str t) → RReprXA [gotN ((stF z).map stD)] Q := by
  cases c : stF z with
  | none => exact ⟨_, fun q => x_none q⟩
  | some s =>
    obtain ⟨k1, k2⟩ := st_few (by omega) c
    exact ⟨_, fun q => repr_one (fn_st k1 (by omega)) q⟩
theorem tabF_le : ∀ (zs : List Str) (acc : List Rw) {k : Nat}, tabF zs acc = .inl k → k ≤ acc.length + zs.length
  | [], acc, k, h => by cases h
  | z :: zs, acc, k, h => by
    unfold tabF at h
    split at h
    · cases h; omega
    · split at h
      · cases h; omega
      · have := tabF_le zs _ h
        rw [List.length_append, List.length_singleton] at this
        rw [List.length_cons]
        omega
theorem repr_T {z : Str} (hz : z.length ≤ 180) : ∃ t, ∀ {Q : D → Prop}, Q (.str t) → RReprXA [gotT z] Q := by
  unfold gotT
  cases c : tabF (linesF z) [] with
  | inl k =>
    have h := tabF_le _ _ c
    have hl : (linesF z).length ≤ z.length + 1 := by
      unfold linesF
      split
      · exact Nat.zero_le _
      · exact (split_parts z "\n" (by decide)).1
    rw [List.length_nil] at h
    exact ⟨_, fun q => repr_int (by omega) q⟩
  | inr r =>
    obtain ⟨k1, k2⟩ := lines_few (by omega) c
    exact ⟨_, fun q => repr_one (fn_tab k1 (by omega)) q⟩
end K70
set_option Elab.async false
set_option maxRecDepth 100000
set_option maxHeartbeats 1000000
set_option linter.all false
set_option pp.maxSteps 2500
namespace K70
open PySem PySem.Spec PyProof.Rows L2 Ly Pu TM
section
variable {K : PySem.W.Frag} {A : Adr}
theorem side_no {t : Str} (r : ∀ {Q : D → Prop}, Q (.str t) → RReprXA [D.non] Q) {R : D → Prop} (q : R (.bl false)) : RReprXA [D.non] fun u => RNotN D.non .non fun d => ∃ b, d = .bl b ∧ if b = true then 1 ≤ sizeLine ∧ RReprXA [.lst [D.non]] (fun v => RNe u v R) else RReprXA [.non] fun v => RNe u v R := by
  refine r ⟨rfl, false, rfl, ?_⟩
  rw [if_neg (by decide)]
  refine r ?_
  rw [ne_str, decide_eq_true rfl]
  exact q
theorem side_so {xs : List D} {t : Str} (r : ∀ {Q : D → Prop}, Q (.str t) → RReprXA [.lst [.tup xs]] Q) {R : D → Prop} (q : R (.bl false)) : RReprXA [.lst [.tup xs]] fun u => RNotN (.tup xs) .non fun d => ∃ b, d = .bl b ∧ if b = true then 1 ≤ sizeLine ∧ RReprXA [.lst [.tup xs]] (fun v => RNe u v R) else RReprXA [.non] fun v => RNe u v R := by
  refine r ⟨rfl, true, rfl, ?_⟩
  rw [if_pos rfl]
  refine ⟨by decide, r ?_⟩
  rw [ne_str, decide_eq_true rfl]
  exact q
theorem strings_right (EC : EK K A) {a b c : Str} (ha : a.length ≤ 180) (oa : PyData.strOk a = true) (hb : b.length ≤ 180) (ob : PyData.strOk b = true) (hc : c.length ≤ 180) (oc : PyData.strOk c = true) {Q : D → Prop} {Z : ZX} (q : Q (.bl true)) : G_strings_right K A [.str a, .str b, .str c] Q Z := by
  obtain ⟨t1, r1⟩ := repr_N ha
  obtain ⟨t2, r2⟩ := repr_S hb
  obtain ⟨t3, r3⟩ := repr_T hc
  unfold G_strings_right S_strings_right
  simp only [fnS, Pu.startB, sSeq, sAsg, sIf, sRet, sNext, sNew, sApp, sPar, sDem, demB, fVar, fVarT, fC, fOp, fTst, fAnd, fOr, fNot, fNew, fLst, fTup, fNil, fCons, fSl, Pu.oAt, oNo, fCB, fCall, fIf, fChain, fRng1, fIt, fJoin, RLen, RI0, RAdd, RSl, RIsN, RTuple, gN, bD, List.map_cons, List.map_nil, List.cons_append, List.nil_append, List.length_cons, List.length_nil, List.replicate, Nat.reduceSub, Nat.reduceAdd, List.getElem?_cons_zero, List.getElem?_cons_succ, List.set_cons_zero, List.set_cons_succ, Option.some.injEq, B.val.injEq, D.int.injEq, D.bl.injEq, D.str.injEq, D.tup.injEq, D.lst.injEq, exists_eq_left', exists_eq_left, exists_and_left, ex_eq, true_and, and_true, List.cons.injEq, List.zip_cons_cons, List.zip_nil_right, List.foldl_cons, List.foldl_nil, wipeB, lenD, itD, Bool.not_true, Bool.not_false, Bool.false_eq_true, Bool.true_eq_false, if_true, if_false, ite_true, ite_false, D.dic.injEq, D.obj.injEq, and_assoc, List.map_map]
  refine due_numbers (by omega) oa ?_
  refine got_numbers EC (z := a) (by omega) (fun {Q Z} q => (show fVar 0 [B.val (D.str a), B.val (D.str b), B.val (D.str c), B.val (opN (numsF a))] Q Z from by first | exact ⟨_, rfl, q⟩ | exact q)) ?_
  have s1 : ∀ {R : D → Prop}, R (.bl false) → RReprXA [gotN ((numsF a).map fun l => tupI (nI l))] fun u => RNotN (opN (numsF a)) .non fun d => ∃ w, d = .bl w ∧ if w = true then 1 ≤ sizeLine ∧ RReprXA [.lst [opN (numsF a)]] (fun v => RNe u v R) else RReprXA [.non] fun v => RNe u v R := by
    intro R q
    cases e : numsF a with
    | none => rw [e] at r1; exact side_no r1 q
    | some l => rw [e] at r1; exact side_so r1 q
  refine s1 ⟨false, rfl, ?_⟩
  rw [if_neg (by decide)]
  refine due_state hb ob ?_
  refine got_state EC (z := b) (by omega) (fun {Q Z} q => (show fVar 1 [B.val (D.str a), B.val (D.str b), B.val (D.str c), B.val (opS (stF b))] Q Z from by first | exact ⟨_, rfl, q⟩ | exact q)) ?_
  have s2 : ∀ {R : D → Prop}, R (.bl false) → RReprXA [gotN ((stF b).map stD)] fun u => RNotN (opS (stF b)) .non fun d => ∃ w, d = .bl w ∧ if w = true then 1 ≤ sizeLine ∧ RReprXA [.lst [opS (stF b)]] (fun v => RNe u v R) else RReprXA [.non] fun v => RNe u v R := by
    intro R q
    cases e : stF b with
    | none => rw [e] at r2; exact side_no r2 q
    | some l => rw [e] at r2; exact side_so r2 q
  refine s2 ⟨false, rfl, ?_⟩
  rw [if_neg (by decide)]
  refine due_table hc oc ?_
  refine got_table EC (z := c) (by omega) (fun {Q Z} q => (show fVar 2 [B.val (D.str a), B.val (D.str b), B.val (D.str c), B.val (dueD c)] Q Z from by first | exact ⟨_, rfl, q⟩ | exact q)) ?_
  unfold gotT at r3
  unfold gotT dueD
  cases e : tabF (linesF c) [] with
  | inl k =>
    rw [e] at r3
    refine r3 ?_
    unfold fIsiT
    simp only [fnS, Pu.startB, sSeq, sAsg, sIf, sRet, sNext, sNew, sApp, sPar, sDem, demB, fVar, fVarT, fC, fOp, fTst, fAnd, fOr, fNot, fNew, fLst, fTup, fNil, fCons, fSl, Pu.oAt, oNo, fCB, fCall, fIf, fChain, fRng1, fIt, fJoin, RLen, RI0, RAdd, RSl, RIsN, RTuple, gN, bD, List.map_cons, List.map_nil, List.cons_append, List.nil_append, List.length_cons, List.length_nil, List.replicate, Nat.reduceSub, Nat.reduceAdd, List.getElem?_cons_zero, List.getElem?_cons_succ, List.set_cons_zero, List.set_cons_succ, Option.some.injEq, B.val.injEq, D.int.injEq, D.bl.injEq, D.str.injEq, D.tup.injEq, D.lst.injEq, exists_eq_left', exists_eq_left, exists_and_left, ex_eq, true_and, and_true, List.cons.injEq, List.zip_cons_cons, List.zip_nil_right, List.foldl_cons, List.foldl_nil, wipeB, lenD, itD, Bool.not_true, Bool.not_false, Bool.false_eq_true, Bool.true_eq_false, if_true, if_false, ite_true, ite_false, D.dic.injEq, D.obj.injEq, and_assoc, List.map_map]
    refine ⟨trivial, ?_⟩
    rw [if_neg (show ¬ kdIs (kdT (D.int (k : Int))) "dict" = true by show ¬ kdIs (kdD (.int 0)) "dict" = true; decide)]
    refine r3 ?_
    rw [eq_str, decide_eq_true rfl]
    exact q
  | inr l =>
    rw [e] at r3
    refine r3 ?_
    unfold fIsiT
    simp only [fnS, Pu.startB, sSeq, sAsg, sIf, sRet, sNext, sNew, sApp, sPar, sDem, demB, fVar, fVarT, fC, fOp, fTst, fAnd, fOr, fNot, fNew, fLst, fTup, fNil, fCons, fSl, Pu.oAt, oNo, fCB, fCall, fIf, fChain, fRng1, fIt, fJoin, RLen, RI0, RAdd, RSl, RIsN, RTuple, gN, bD, List.map_cons, List.map_nil, List.cons_append, List.nil_append, List.length_cons, List.length_nil, List.replicate, Nat.reduceSub, Nat.reduceAdd, List.getElem?_cons_zero, List.getElem?_cons_succ, List.set_cons_zero, List.set_cons_succ, Option.some.injEq, B.val.injEq, D.int.injEq, D.bl.injEq, D.str.injEq, D.tup.injEq, D.lst.injEq, exists_eq_left', exists_eq_left, exists_and_left, ex_eq, true_and, and_true, List.cons.injEq, List.zip_cons_cons, List.zip_nil_right, List.foldl_cons, List.foldl_nil, wipeB, lenD, itD, Bool.not_true, Bool.not_false, Bool.false_eq_true, Bool.true_eq_false, if_true, if_false, ite_true, ite_false, D.dic.injEq, D.obj.injEq, and_assoc, List.map_map]
    refine ⟨trivial, ?_⟩
    rw [if_pos (show kdIs (kdT (tabD l)) "dict" = true from (show kdIs Kd.dic "dict" = true by decide))]
    refine ⟨by decide, r3 ?_⟩
    rw [eq_str, decide_eq_true rfl]
    exact q
end
end K70
set_option Elab.async false
set_option maxRecDepth 100000
set_option maxHeartbeats 1000000
set_option linter.all false
set_option pp.maxSteps 2500
namespace K70
open PySem PySem.Spec PyProof.Rows L2 Ly Pu TM
theorem pre_bar {l : List Nat} (h : (l.drop 1).head? ≠ some 124) : TL.pre [32, 124, 32] l = false := by
  cases l with
  | nil => rfl
  | cons a r =>
    cases r with
    | nil => simp [TL.pre]
    | cons b r =>
      have h : b ≠ 124 := fun e => h (by rw [e]; rfl)
      simp [TL.pre]
      omega
theorem no_bar {p q : List Nat} (h : 124 ∉ p) (hq : q.head? ≠ some 124) {i : Nat} (hi : i < p.length) : TL.pre [32, 124, 32] ((p ++ q).drop i) = false := by
  refine pre_bar ?_
  rw [List.drop_drop, List.head?_drop, Nat.add_comm]
  intro e
  by_cases c : 1 + i < p.length
  · rw [List.getElem?_append_left c] at e
    exact h (List.mem_of_getElem? e)
  · have c2 : 1 + i = p.length := by omega
    rw [List.getElem?_append_right (by omega), c2, Nat.sub_self, ← List.head?_eq_getElem?] at e
    exact hq e
theorem split_bar {a b : Str} (ha : 124 ∉ lab a) (hb : 124 ∉ lab b) : Txt.split (a ++ " | " ++ b) " | " = [a, b] := by
  refine TL.map_tl_inj ?_
  have ey : TL.tl (" | " : Str) = [32, 124, 32] := by decide
  have ha : 124 ∉ TL.tl a := ha
  have hb : 124 ∉ TL.tl b := hb
  rw [TL.split_spl _ " | " (by rw [ey]; simp) (TL.kind_ok (by decide +kernel)), TL.tl_append, TL.tl_append, ey, List.append_assoc]
  have s1 := TL.spl_part (S := [32, 124, 32]) (p := TL.tl a) (rest := TL.tl b) (acc := []) (by simp) (fun i hi => no_bar ha (by simp) hi)
  have s2 := TL.spl_last (S := [32, 124, 32]) (p := TL.tl b) (acc := []) (fun i hi => by
    have := no_bar (q := []) hb (by simp) hi
    rw [List.append_nil] at this
    exact this)
  rw [s1, s2]
  rfl
theorem split_j {y : Str} {s : Nat} {S : List Nat} (ey : lab y = s :: S) (hk : y.cps.all (· < 256) = true) {ps : List Str} (hn : ps ≠ []) (h : ∀ p ∈ ps, s ∉ lab p) : Txt.split (Txt.join y ps) y = ps := TL.split_join ey hk hn h
end K70
set_option Elab.async false
set_option maxRecDepth 100000
set_option maxHeartbeats 1000000
set_option linter.all false
set_option pp.maxSteps 2500
namespace K70
open PySem PySem.Spec PyProof.Rows L2 Ly Pu TM
def WS : List Nat := [0, 1, 2, 3, 5, 7, 10, 39, 100000000000000000000]
structure Wd (n : Nat) : Prop where
  bk : numF (tsN n) = some n
  ok : PyData.strOk (tsN n) = true
  f32 : 32 ∉ lab (tsN n)
  f10 : 10 ∉ lab (tsN n)
  f58 : 58 ∉ lab (tsN n)
  f59 : 59 ∉ lab (tsN n)
  f124 : 124 ∉ lab (tsN n)
  ln : (tsN n).length ≤ 21
  nd : tsN n ≠ "-"
theorem wd {n : Nat} (h : n ∈ WS) : Wd n := by
  have key : ∀ n ∈ WS, numF (tsN n) = some n ∧ PyData.strOk (tsN n) = true ∧ 32 ∉ lab (tsN n) ∧ 10 ∉ lab (tsN n) ∧ 58 ∉ lab (tsN n) ∧ 59 ∉ lab (tsN n) ∧ 124 ∉ lab (tsN n) ∧ (tsN n).length ≤ 21 ∧ tsN n ≠ "-" := by decide +kernel
  obtain ⟨a, b, c, d, e, f, g, i, j⟩ := key n h
  exact ⟨a, b, c, d, e, f, g, i, j⟩
def NT (l : List Nat) : Str := if l = [] then "-" else Txt.join " " (l.map tsN)
theorem mapM_back : ∀ {l : List Nat}, (∀ n ∈ l, n ∈ WS) → (l.map tsN).mapM numF = some l
  | [], _ => rfl
  | n :: l, h => by
    rw [List.map_cons, List.mapM_cons, (wd (h n (List.mem_cons_self ..))).bk, mapM_back fun k hk => h k (List.mem_cons_of_mem _ hk)]
    rfl
theorem NT_split {l : List Nat} (h : ∀ n ∈ l, n ∈ WS) (hn : l ≠ []) : Txt.split (NT l) " " = l.map tsN := by
  unfold NT
  rw [if_neg hn]
  refine split_j (s := 32) (S := []) (by decide +kernel) (by decide +kernel) (by simp [hn]) fun p hp => ?_
  obtain ⟨n, hm, rfl⟩ := List.mem_map.mp hp
  exact (wd (h n hm)).f32
theorem NT_back {l : List Nat} (h : ∀ n ∈ l, n ∈ WS) : numsF (NT l) = some l := by
  cases l with
  | nil => rfl
  | cons n l =>
    have hs := NT_split h (by simp)
    have hne : NT (n :: l) ≠ "-" := fun e => by
      rw [e] at hs
      have h2 : Txt.split ("-" : Str) " " = [("-" : Str)] := by decide +kernel
      rw [h2, List.map_cons] at hs
      injection hs with h3 _
      exact (wd (h n (List.mem_cons_self ..))).nd h3.symm
    unfold numsF
    rw [if_neg hne, hs]
    exact mapM_back h
/-- a sign that is in no word, nor a space nor a dash, is in no numbers' text -/
theorem join_free {c : Nat} {y : Str} (hy : c ∉ lab y) : ∀ {ps : List Str}, (∀ p ∈ ps, c ∉ lab p) → c ∉ lab (Str.join y ps)
  | [], _ => fun h => by cases h
  | [p], h => h p (List.mem_singleton.mpr rfl)
  | p :: q :: r, h => by
    have ih := join_free hy (ps := q :: r) fun x hx => h x (List.mem_cons_of_mem _ hx)
    have e : lab (Str.join y (p :: q :: r)) = lab p ++ lab y ++ lab (Str.join y (q :: r)) := by
      show lab (p ++ y ++ Str.join y (q :: r)) = _
      rw [lab_app, lab_app]
    rw [e]
    intro hm
    rcases List.mem_append.mp hm with hm | hm
    · rcases List.mem_append.mp hm with hm | hm
      · exact h p (List.mem_cons_self ..) hm
      · exact hy hm
    · exact ih hm
theorem NT_free {c : Nat} (hc : c ∉ lab " ") (hd : c ∉ lab "-") {l : List Nat} (h : ∀ n ∈ l, c ∉ lab (tsN n)) : c ∉ lab (NT l) := by
  unfold NT
  split
  · exact hd
  · rw [TL.join_eq]
    refine join_free hc fun p hp => ?_
    obtain ⟨n, hm, rfl⟩ := List.mem_map.mp hp
    exact h n hm
theorem NT_59 {l : List Nat} (h : ∀ n ∈ l, n ∈ WS) : 59 ∉ lab (NT l) := NT_free (by decide +kernel) (by decide +kernel) fun n hn => (wd (h n hn)).f59
theorem NT_58 {l : List Nat} (h : ∀ n ∈ l, n ∈ WS) : 58 ∉ lab (NT l) := NT_free (by decide +kernel) (by decide +kernel) fun n hn => (wd (h n hn)).f58
theorem NT_10 {l : List Nat} (h : ∀ n ∈ l, n ∈ WS) : 10 ∉ lab (NT l) := NT_free (by decide +kernel) (by decide +kernel) fun n hn => (wd (h n hn)).f10
theorem NT_124 {l : List Nat} (h : ∀ n ∈ l, n ∈ WS) : 124 ∉ lab (NT l) := NT_free (by decide +kernel) (by decide +kernel) fun n hn => (wd (h n hn)).f124
end K70
set_option Elab.async false
set_option maxRecDepth 100000
set_option maxHeartbeats 1000000
set_option linter.all false
set_option pp.maxSteps 2500
namespace K70
open PySem PySem.Spec PyProof.Rows L2 Ly Pu TM
abbrev NSt := List Nat × List (List Nat)
def CT (ks : List (List Nat)) : Str := if ks = [] then "none" else Txt.join "; " (ks.map NT)
def ST (s : NSt) : Str := NT s.1 ++ " | " ++ CT s.2
def sI (s : NSt) : St := (nI s.1, s.2.map nI)
def InW (s : NSt) : Prop := (∀ n ∈ s.1, n ∈ WS) ∧ ∀ k ∈ s.2, ∀ n ∈ k, n ∈ WS
theorem map_NT : ∀ {ks : List (List Nat)}, (∀ k ∈ ks, ∀ n ∈ k, n ∈ WS) → (ks.map NT).map numsF = ks.map some
  | [], _ => rfl
  | k :: ks, h => by
    rw [List.map_cons, List.map_cons, NT_back (h k (List.mem_cons_self ..)), map_NT fun j hj => h j (List.mem_cons_of_mem _ hj)]
    rfl
theorem mapM_id : ∀ ks : List (List Nat), (ks.map some).mapM id = some ks
  | [] => rfl
  | k :: ks => by
    rw [List.map_cons, List.mapM_cons, mapM_id ks]
    rfl
theorem CT_back {ks : List (List Nat)} (h : ∀ k ∈ ks, ∀ n ∈ k, n ∈ WS) : clsF (CT ks) = ks.map some := by
  cases ks with
  | nil => rfl
  | cons k ks =>
    have hs : Txt.split (CT (k :: ks)) "; " = (k :: ks).map NT := by
      unfold CT
      rw [if_neg (by simp)]
      refine split_j (s := 59) (S := [32]) (by decide +kernel) (by decide +kernel) (by simp) fun p hp => ?_
      obtain ⟨j, hj, rfl⟩ := List.mem_map.mp hp
      exact NT_59 (h j hj)
    have hne : CT (k :: ks) ≠ "none" := fun e => by
      rw [e] at hs
      have h2 : Txt.split ("none" : Str) "; " = [("none" : Str)] := by decide +kernel
      rw [h2, List.map_cons] at hs
      injection hs with h3 _
      have h4 := NT_back (h k (List.mem_cons_self ..))
      rw [← h3] at h4
      have h5 : numsF "none" = none := by decide +kernel
      rw [h5] at h4
      cases h4
    unfold clsF
    rw [if_neg hne, hs]
    exact map_NT h
theorem CT_free {c : Nat} (hc : c ∉ lab "; ") (hn : c ∉ lab "none") {ks : List (List Nat)} (h : ∀ k ∈ ks, c ∉ lab (NT k)) : c ∉ lab (CT ks) := by
  unfold CT
  split
  · exact hn
  · rw [TL.join_eq]
    refine join_free hc fun p hp => ?_
    obtain ⟨n, hm, rfl⟩ := List.mem_map.mp hp
    exact h n hm
theorem ST_free {c : Nat} (hc : c ∉ lab " | ") {s : NSt} (h1 : c ∉ lab (NT s.1)) (h2 : c ∉ lab (CT s.2)) : c ∉ lab (ST s) := by
  unfold ST
  rw [lab_app, lab_app]
  intro hm
  rcases List.mem_append.mp hm with hm | hm
  · rcases List.mem_append.mp hm with hm | hm
    · exact h1 hm
    · exact hc hm
  · exact h2 hm
theorem ST_58 {s : NSt} (h : InW s) : 58 ∉ lab (ST s) := ST_free (by decide +kernel) (NT_58 h.1) (CT_free (by decide +kernel) (by decide +kernel) fun k hk => NT_58 (h.2 k hk))
theorem ST_10 {s : NSt} (h : InW s) : 10 ∉ lab (ST s) := ST_free (by decide +kernel) (NT_10 h.1) (CT_free (by decide +kernel) (by decide +kernel) fun k hk => NT_10 (h.2 k hk))
theorem ST_back {s : NSt} (h : InW s) (hb : stB (sI s) = true) : stF (ST s) = some (sI s) := by
  have hs : Txt.split (ST s) " | " = [NT s.1, CT s.2] := split_bar (NT_124 h.1) (CT_free (by decide +kernel) (by decide +kernel) fun k hk => NT_124 (h.2 k hk))
  rw [stF_eq hs]
  unfold stF2
  rw [NT_back h.1, CT_back h.2, mapM_id]
  show (if stB (nI s.1, s.2.map nI) = true then some (nI s.1, s.2.map nI) else none) = _
  rw [if_pos (show stB (nI s.1, s.2.map nI) = true from hb)]
  rfl
/-- a row: its key's two numbers and its state -/
abbrev NRw := List Nat × NSt
def LT (r : NRw) : Str := NT r.1 ++ ": " ++ ST r.2
def rI (r : NRw) : Rw := (nI r.1, sI r.2)
structure OkR (r : NRw) : Prop where
  k : ∀ n ∈ r.1, n ∈ WS
  two : r.1.length = 2
  s : InW r.2
  b : stB (sI r.2) = true
theorem LT_back {r : NRw} (h : OkR r) : lineF (LT r) = some (rI r) := by
  have hs : Txt.split (LT r) ": " = [NT r.1, ST r.2] := by
    have e : LT r = Txt.join ": " [NT r.1, ST r.2] := by rw [TL.join_eq]; rfl
    rw [e]
    refine split_j (s := 58) (S := [32]) (by decide +kernel) (by decide +kernel) (by simp) fun p hp => ?_
    rcases List.mem_cons.mp hp with rfl | hp
    · exact NT_58 h.k
    · rw [List.mem_singleton.mp hp]
      exact ST_58 h.s
  rw [lineF_eq hs]
  unfold lineF2
  rw [NT_back h.k, ST_back h.s h.b]
  show (if r.1.length = 2 then some (nI r.1, sI r.2) else none) = _
  rw [if_pos h.two]
  rfl
end K70
set_option Elab.async false
set_option maxRecDepth 100000
set_option maxHeartbeats 1000000
set_option linter.all false
set_option pp.maxSteps 2500
namespace K70
open PySem PySem.Spec PyProof.Rows L2 Ly Pu TM
def TT (rs : List NRw) : Str := if rs = [] then "none" else Txt.join "\n" (rs.map LT)
theorem LT_10 {r : NRw} (h : OkR r) : 10 ∉ lab (LT r) := by
  unfold LT
  rw [lab_app, lab_app]
  intro hm
  rcases List.mem_append.mp hm with hm | hm
  · rcases List.mem_append.mp hm with hm | hm
    · exact NT_10 h.k hm
    · exact (by decide +kernel : 10 ∉ lab ": ") hm
  · exact ST_10 h.s hm
theorem TT_lines {rs : List NRw} (h : ∀ r ∈ rs, OkR r) : linesF (TT rs) = rs.map LT := by
  cases rs with
  | nil => rfl
  | cons r rs =>
    have hs : Txt.split (TT (r :: rs)) "\n" = (r :: rs).map LT := by
      unfold TT
      rw [if_neg (by simp)]
      refine split_j (s := 10) (S := []) (by decide +kernel) (by decide +kernel) (by simp) fun p hp => ?_
      obtain ⟨j, hj, rfl⟩ := List.mem_map.mp hp
      exact LT_10 (h j hj)
    have hne : TT (r :: rs) ≠ "none" := fun e => by
      rw [e] at hs
      have h2 : Txt.split ("none" : Str) "\n" = [("none" : Str)] := by decide +kernel
      rw [h2, List.map_cons] at hs
      injection hs with h3 _
      have h4 := LT_back (h r (List.mem_cons_self ..))
      rw [← h3] at h4
      have h5 : lineF "none" = none := lineF_ne (by decide +kernel)
      rw [h5] at h4
      cases h4
    unfold linesF
    rw [if_neg hne, hs]
theorem tab_back : ∀ {rs : List NRw} {acc : List Rw}, (∀ r ∈ rs, OkR r) → Up (acc ++ rs.map rI) → tabF (rs.map LT) acc = .inr (acc ++ rs.map rI)
  | [], acc, _, _ => by
    show Sum.inr acc = Sum.inr (acc ++ [])
    rw [List.append_nil]
  | r :: rs, acc, h, u => by
    have hl : lateB acc (rI r).1 = false := by
      unfold lateB
      cases e : acc.getLast? with
      | none => rfl
      | some p =>
        obtain ⟨l, rfl⟩ := List.getLast?_eq_some_iff.mp e
        show leI (rI r).1 p.1 = false
        rw [leI_eq, Bool.not_eq_false']
        unfold Up at u
        rw [List.map_append, List.pairwise_append] at u
        exact u.2.2 p.1 (List.mem_map.mpr ⟨p, List.mem_append_right _ (List.mem_singleton.mpr rfl), rfl⟩) (rI r).1 (List.mem_map.mpr ⟨rI r, List.mem_map.mpr ⟨r, List.mem_cons_self .., rfl⟩, rfl⟩)
    have ih := tab_back (rs := rs) (acc := acc ++ [rI r]) (fun q hq => h q (List.mem_cons_of_mem _ hq)) (by
      rw [List.append_assoc]
      exact u)
    rw [List.map_cons]
    unfold tabF
    rw [LT_back (h r (List.mem_cons_self ..))]
    show (if lateB acc (rI r).1 = true then _ else tabF (rs.map LT) (acc ++ [rI r])) = _
    rw [hl, if_neg (by decide), ih, List.append_assoc]
    rfl
theorem TT_back {rs : List NRw} (h : ∀ r ∈ rs, OkR r) (u : Up (rs.map rI)) : tabF (linesF (TT rs)) [] = .inr (rs.map rI) := by
  rw [TT_lines h]
  exact tab_back h u
end K70
set_option Elab.async false
set_option maxRecDepth 100000
set_option maxHeartbeats 1000000
set_option linter.all false
set_option pp.maxSteps 2500
namespace K70
open PySem PySem.Spec PyProof.Rows L2 Ly Pu TM
section
variable {K : PySem.W.Frag} {A : Adr}
theorem tup_shp (l : List Int) : shp (tupI l) := by
  obtain ⟨a, b⟩ := int_lay l
  show SeqAt.shaped (.tuple (toPs (l.map D.int))) = true
  rw [ints_eqv]
  unfold SeqAt.shaped
  simp only [PyData.canLay0, PyData.depth, a, Bool.true_and]
  exact decide_eq_true (by omega)
theorem ne_tnil {l : List Int} {Q : D → Prop} (q : Q (.bl (!decide (l = [])))) : RNe (tupI l) (.tup []) Q := ⟨tup_shp l, tup_shp [], by
  show Q (.bl (!PyData.eqvAll (toPs (l.map D.int)) (toPs (([] : List Int).map D.int))))
  rw [ints_eqv, ints_eqv, ints_eq]
  exact q⟩
theorem wd_log {n : Nat} (h : n ∈ WS) : ((n : Int)).natAbs.log2 < 1920 := by
  have key : ∀ n ∈ WS, ((n : Int)).natAbs.log2 < 1920 := by decide +kernel
  exact key n h
theorem sum_ts : ∀ {l : List Nat}, (∀ n ∈ l, n ∈ WS) → ((l.map tsN).map (·.length)).sum ≤ 21 * l.length
  | [], _ => Nat.le_refl _
  | n :: l, h => by
    have ih := sum_ts (l := l) fun k hk => h k (List.mem_cons_of_mem _ hk)
    have := (wd (h n (List.mem_cons_self ..))).ln
    rw [List.map_cons, List.map_cons, List.sum_cons, List.length_cons]
    omega
theorem line {l : List Nat} (h : ∀ n ∈ l, n ∈ WS) (hl : l.length ≤ 100) {Q : D → Prop} {Z : ZX} (q : Q (.str (NT l))) : G_line K A [tupI (nI l)] Q Z := by
  unfold G_line S_line
  simp only [fnS, Pu.startB, sSeq, sAsg, sIf, sRet, sNext, sNew, sApp, sPar, sDem, demB, fVar, fVarT, fC, fOp, fTst, fAnd, fOr, fNot, fNew, fLst, fTup, fNil, fCons, fSl, Pu.oAt, oNo, fCB, fCall, fIf, fChain, fRng1, fIt, fJoin, RLen, RI0, RAdd, RSl, RIsN, RTuple, gN, bD, List.map_cons, List.map_nil, List.cons_append, List.nil_append, List.length_cons, List.length_nil, List.replicate, Nat.reduceSub, Nat.reduceAdd, List.getElem?_cons_zero, List.getElem?_cons_succ, List.set_cons_zero, List.set_cons_succ, Option.some.injEq, B.val.injEq, D.int.injEq, D.bl.injEq, D.str.injEq, D.tup.injEq, D.lst.injEq, exists_eq_left', exists_eq_left, exists_and_left, ex_eq, true_and, and_true, List.cons.injEq, List.zip_cons_cons, List.zip_nil_right, List.foldl_cons, List.foldl_nil, wipeB, lenD, itD, Bool.not_true, Bool.not_false, Bool.false_eq_true, Bool.true_eq_false, if_true, if_false, ite_true, ite_false, D.dic.injEq, D.obj.injEq, and_assoc, List.map_map, fJoin, fLc]
  refine ⟨by decide, ne_tnil ⟨_, rfl, ?_⟩⟩
  cases l with
  | nil => exact q
  | cons n l =>
    rw [if_pos (show (!decide (nI (n :: l) = [])) = true from by simp [nI])]
    have hz : ((nI (n :: l)).map D.int).length ≤ sizeLine := by
      have e : ((nI (n :: l)).map D.int).length = (n :: l).length := by simp [nI]
      have := sizeLine_eq
      omega
    refine ⟨_, rfl, hz, ?_⟩
    have e : (nI (n :: l)).map D.int = (n :: l).map fun n : Nat => D.int (n : Int) := by
      unfold nI
      rw [List.map_map]
      rfl
    rw [e]
    refine lc_map (f := fun n : Nat => D.str (tsN n)) (n :: l) (fun m hm R r => ?_) ?_
    · exact ⟨_, _, rfl, rfl, _, rfl, wd_log (h m hm), r⟩
    · refine ⟨_, rfl, _, strsD_map tsN (n :: l), ?_, ?_⟩
      · have := sum_ts h
        have e2 : (Str.ofString " ").length = 1 := rfl
        rw [e2, List.length_map]
        omega
      · unfold NT at q
        rw [if_neg (by simp)] at q
        exact q
end
end K70
set_option Elab.async false
set_option maxRecDepth 100000
set_option maxHeartbeats 1000000
set_option linter.all false
set_option pp.maxSteps 2500
namespace K70
open PySem PySem.Spec PyProof.Rows L2 Ly Pu TM
section
variable {K : PySem.W.Frag} {A : Adr}
theorem tups_shp (ls : List (List Int)) : shp (.tup (ls.map tupI)) := by
  obtain ⟨a, b⟩ := os_lay (ls.map some)
  have e : (ls.map some).map oD = ls.map tupI := by rw [List.map_map]; rfl
  rw [e] at a b
  show SeqAt.shaped (.tuple (toPs (ls.map tupI))) = true
  unfold SeqAt.shaped
  simp only [PyData.canLay0, PyData.depth, a, Bool.true_and]
  exact decide_eq_true (by omega)
theorem ne_ttnil {ls : List (List Int)} {Q : D → Prop} (q : Q (.bl (!decide (ls = [])))) : RNe (.tup (ls.map tupI)) (.tup []) Q := ⟨tups_shp ls, tups_shp [], by
  show Q (.bl (!PyData.eqvAll (toPs (ls.map tupI)) (toPs (([] : List (List Int)).map tupI))))
  rw [tups_eqv]
  exact q⟩
theorem NT_len {l : List Nat} (h : ∀ n ∈ l, n ∈ WS) : (NT l).length ≤ 22 * l.length + 1 := by
  unfold NT
  split
  · show 1 ≤ _
    omega
  · rw [TL.join_eq]
    have h1 := PySem.StrLaws.join_length_le " " (l.map tsN)
    have h2 := sum_ts h
    have e2 : (Str.ofString " ").length = 1 := rfl
    rw [e2, List.length_map] at h1
    omega
theorem sum_NT : ∀ {ks : List (List Nat)}, (∀ k ∈ ks, ∀ n ∈ k, n ∈ WS) → (∀ k ∈ ks, k.length ≤ 100) → ((ks.map NT).map (·.length)).sum ≤ 2300 * ks.length
  | [], _, _ => Nat.le_refl _
  | k :: ks, h, g => by
    have ih := sum_NT (ks := ks) (fun j hj => h j (List.mem_cons_of_mem _ hj)) fun j hj => g j (List.mem_cons_of_mem _ hj)
    have h1 := NT_len (h k (List.mem_cons_self ..))
    have h2 := g k (List.mem_cons_self ..)
    rw [List.map_cons, List.map_cons, List.sum_cons, List.length_cons]
    omega
theorem CT_len {ks : List (List Nat)} (h : ∀ k ∈ ks, ∀ n ∈ k, n ∈ WS) (g : ∀ k ∈ ks, k.length ≤ 100) (hk : ks.length ≤ 100) : (CT ks).length ≤ 300000 := by
  unfold CT
  split
  · show 4 ≤ _
    omega
  · rw [TL.join_eq]
    have h1 := PySem.StrLaws.join_length_le "; " (ks.map NT)
    have h2 := sum_NT h g
    have e2 : (Str.ofString "; ").length = 2 := rfl
    rw [e2, List.length_map] at h1
    omega
theorem state_line {s : NSt} (h : InW s) (h1 : s.1.length ≤ 100) (h2 : s.2.length ≤ 100) (h3 : ∀ k ∈ s.2, k.length ≤ 100) {Q : D → Prop} {Z : ZX} (q : Q (.str (ST s))) : G_state_line K A [stD (sI s)] Q Z := by
  unfold G_state_line S_state_line stD
  simp only [fnS, Pu.startB, sSeq, sAsg, sIf, sRet, sNext, sNew, sApp, sPar, sDem, demB, fVar, fVarT, fC, fOp, fTst, fAnd, fOr, fNot, fNew, fLst, fTup, fNil, fCons, fSl, Pu.oAt, oNo, fCB, fCall, fIf, fChain, fRng1, fIt, fJoin, RLen, RI0, RAdd, RSl, RIsN, RTuple, gN, bD, List.map_cons, List.map_nil, List.cons_append, List.nil_append, List.length_cons, List.length_nil, List.replicate, Nat.reduceSub, Nat.reduceAdd, List.getElem?_cons_zero, List.getElem?_cons_succ, List.set_cons_zero, List.set_cons_succ, Option.some.injEq, B.val.injEq, D.int.injEq, D.bl.injEq, D.str.injEq, D.tup.injEq, D.lst.injEq, exists_eq_left', exists_eq_left, exists_and_left, ex_eq, true_and, and_true, List.cons.injEq, List.zip_cons_cons, List.zip_nil_right, List.foldl_cons, List.foldl_nil, wipeB, lenD, itD, Bool.not_true, Bool.not_false, Bool.false_eq_true, Bool.true_eq_false, if_true, if_false, ite_true, ite_false, D.dic.injEq, D.obj.injEq, and_assoc, List.map_map, fJoin, fLc]
  have fin : ∀ {c : Str}, c = CT s.2 → RIx (D.tup [tupI (sI s).1, D.tup ((sI s).2.map tupI)]) (D.int 0) fun d => G_line K A [d] (fun a => RAdd a (D.str " | ") fun a => RAdd a (D.str c) Q) Z := fun {c} e => by
    subst e
    refine ⟨_, at0, line h.1 h1 ?_⟩
    have n1 := NT_len h.1
    have n2 := CT_len h.2 h3 h2
    have e3 : (Str.ofString " | ").length = 3 := rfl
    have := sizeLine_eq
    refine ⟨by omega, ?_, q⟩
    rw [Str.length_append]
    omega
  refine ⟨_, at1, by decide, ne_ttnil ⟨_, rfl, ?_⟩⟩
  cases c : s.2 with
  | nil =>
    rw [if_neg (by simp [sI, c])]
    exact fin (by rw [c]; rfl)
  | cons k ks =>
    rw [if_pos (by simp [sI, c])]
    have hz : ((sI s).2.map tupI).length ≤ sizeLine := by
      have e : ((sI s).2.map tupI).length = s.2.length := by simp [sI]
      have := sizeLine_eq
      omega
    refine ⟨_, at1, _, rfl, hz, ?_⟩
    have e : (sI s).2.map tupI = s.2.map fun k : List Nat => tupI (nI k) := by
      show (s.2.map nI).map tupI = _
      rw [List.map_map]
      rfl
    rw [e]
    refine lc_map (f := fun k : List Nat => D.str (NT k)) s.2 (fun m hm R r => ?_) ?_
    · exact ⟨_, rfl, rfl, line (h.2 m hm) (h3 m hm) r⟩
    · refine ⟨_, rfl, _, strsD_map NT s.2, ?_, ?_⟩
      · have := sum_NT h.2 h3
        have e2 : (Str.ofString "; ").length = 2 := rfl
        rw [e2, List.length_map]
        omega
      · rw [← e]
        exact fin (by unfold CT; rw [if_neg (by rw [c]; simp)])
end
end K70
set_option Elab.async false
set_option maxRecDepth 100000
set_option maxHeartbeats 1000000
set_option linter.all false
set_option pp.maxSteps 2500
namespace K70
open PySem PySem.Spec PyProof.Rows L2 Ly Pu TM
section
variable {K : PySem.W.Frag} {A : Adr}
theorem numbers_text {l : List Nat} (h : ∀ n ∈ l, n ∈ WS) (hl : l.length ≤ 100) {Q : D → Prop} {Z : ZX} (q : Q (.str (NT l))) : G_numbers_text K A [tupI (nI l)] Q Z :=
  show G_line K A [tupI (nI l)] Q Z from line h hl q
theorem ws_sm {l : List Nat} (h : ∀ n ∈ l, n ∈ WS) : Sm (nI l) := fun i hi => by
  obtain ⟨n, hn, rfl⟩ := List.mem_map.mp hi
  exact num_lt (wd (h n hn)).bk
theorem write_numbers {l : List Nat} (h : ∀ n ∈ l, n ∈ WS) (hl : l.length ≤ 100) {Q : D → Prop} {Z : ZX} (q : Q (.str (NT l))) : G_write_numbers K A [tupI (nI l)] Q Z := by
  unfold G_write_numbers S_write_numbers
  simp only [fnS, Pu.startB, sSeq, sAsg, sIf, sRet, sNext, sNew, sApp, sPar, sDem, demB, fVar, fVarT, fC, fOp, fTst, fAnd, fOr, fNot, fNew, fLst, fTup, fNil, fCons, fSl, Pu.oAt, oNo, fCB, fCall, fIf, fChain, fRng1, fIt, fJoin, RLen, RI0, RAdd, RSl, RIsN, RTuple, gN, bD, List.map_cons, List.map_nil, List.cons_append, List.nil_append, List.length_cons, List.length_nil, List.replicate, Nat.reduceSub, Nat.reduceAdd, List.getElem?_cons_zero, List.getElem?_cons_succ, List.set_cons_zero, List.set_cons_succ, Option.some.injEq, B.val.injEq, D.int.injEq, D.bl.injEq, D.str.injEq, D.tup.injEq, D.lst.injEq, exists_eq_left', exists_eq_left, exists_and_left, ex_eq, true_and, and_true, List.cons.injEq, List.zip_cons_cons, List.zip_nil_right, List.foldl_cons, List.foldl_nil, wipeB, lenD, itD, Bool.not_true, Bool.not_false, Bool.false_eq_true, Bool.true_eq_false, if_true, if_false, ite_true, ite_false, D.dic.injEq, D.obj.injEq, and_assoc, List.map_map]
  refine are_numbers (by rw [nI, List.length_map]; omega) (ws_sm h) ?_
  refine ⟨true, rfl, ?_⟩
  rw [if_neg (by decide)]
  exact numbers_text h hl q
end
end K70
set_option Elab.async false
set_option maxRecDepth 100000
set_option maxHeartbeats 1000000
set_option linter.all false
set_option pp.maxSteps 2500
namespace K70
open PySem PySem.Spec PyProof.Rows L2 Ly Pu TM
section
variable {K : PySem.W.Frag} {A : Adr}
theorem state_text {s : NSt} (h : InW s) (h1 : s.1.length ≤ 100) (h2 : s.2.length ≤ 100) (h3 : ∀ k ∈ s.2, k.length ≤ 100) {Q : D → Prop} {Z : ZX} (q : Q (.str (ST s))) : G_state_text K A [stD (sI s)] Q Z := by
  unfold G_state_text S_state_text stD
  simp only [fnS, Pu.startB, sSeq, sAsg, sIf, sRet, sNext, sNew, sApp, sPar, sDem, demB, fVar, fVarT, fC, fOp, fTst, fAnd, fOr, fNot, fNew, fLst, fTup, fNil, fCons, fSl, Pu.oAt, oNo, fCB, fCall, fIf, fChain, fRng1, fIt, fJoin, RLen, RI0, RAdd, RSl, RIsN, RTuple, gN, bD, List.map_cons, List.map_nil, List.cons_append, List.nil_append, List.length_cons, List.length_nil, List.replicate, Nat.reduceSub, Nat.reduceAdd, List.getElem?_cons_zero, List.getElem?_cons_succ, List.set_cons_zero, List.set_cons_succ, Option.some.injEq, B.val.injEq, D.int.injEq, D.bl.injEq, D.str.injEq, D.tup.injEq, D.lst.injEq, exists_eq_left', exists_eq_left, exists_and_left, ex_eq, true_and, and_true, List.cons.injEq, List.zip_cons_cons, List.zip_nil_right, List.foldl_cons, List.foldl_nil, wipeB, lenD, itD, Bool.not_true, Bool.not_false, Bool.false_eq_true, Bool.true_eq_false, if_true, if_false, ite_true, ite_false, D.dic.injEq, D.obj.injEq, and_assoc, List.map_map, fJoin, fLc]
  have hz : ((sI s).2.map tupI).length ≤ sizeLine := by
    have e : ((sI s).2.map tupI).length = s.2.length := by simp [sI]
    have := sizeLine_eq
    omega
  refine ⟨_, at1, _, rfl, hz, ?_⟩
  have e : (sI s).2.map tupI = s.2.map fun k : List Nat => tupI (nI k) := by
    show (s.2.map nI).map tupI = _
    rw [List.map_map]
    rfl
  rw [e]
  refine lc_map (f := fun k : List Nat => D.str (NT k)) s.2 (fun m hm R r => ?_) ?_
  · exact ⟨_, rfl, rfl, numbers_text (h.2 m hm) (h3 m hm) r⟩
  · refine ⟨_, rfl, _, strsD_map NT s.2, ?_, ?_⟩
    · have := sum_NT h.2 h3
      have e2 : (Str.ofString "; ").length = 2 := rfl
      rw [e2, List.length_map]
      omega
    · refine ⟨_, at0, numbers_text h.1 h1 ?_⟩
      have n1 := NT_len h.1
      have n2 := CT_len h.2 h3 h2
      have e3 : (Str.ofString " | ").length = 3 := rfl
      have := sizeLine_eq
      refine ⟨by omega, ?_⟩
      rw [← e]
      refine ⟨_, at1, by decide, ne_ttnil ⟨_, rfl, ?_⟩⟩
      cases c : s.2 with
      | nil =>
        rw [if_neg (by simp [sI, c])]
        have ec : ("none" : Str) = CT s.2 := by rw [c]; rfl
        rw [ec]
        refine ⟨?_, q⟩
        rw [Str.length_append]
        omega
      | cons k ks =>
        rw [if_pos (by simp [sI, c])]
        rw [← c]
        have ec : Txt.join "; " (s.2.map NT) = CT s.2 := by unfold CT; rw [if_neg (by rw [c]; simp)]
        rw [ec]
        refine ⟨?_, q⟩
        rw [Str.length_append]
        omega
end
end K70
set_option Elab.async false
set_option maxRecDepth 100000
set_option maxHeartbeats 1000000
set_option linter.all false
set_option pp.maxSteps 2500
namespace K70
open PySem PySem.Spec PyProof.Rows L2 Ly Pu TM
section
variable {K : PySem.W.Frag} {A : Adr}
theorem ws_sms {s : NSt} (h : InW s) (h1 : s.1.length ≤ 100) (h2 : s.2.length ≤ 100) (h3 : ∀ k ∈ s.2, k.length ≤ 100) : SmS (sI s) := by
  refine ⟨⟨?_, ws_sm h.1⟩, ?_, ?_⟩
  · show (nI s.1).length ≤ 1000
    rw [nI, List.length_map]
    omega
  · show (s.2.map nI).length ≤ 5000
    rw [List.length_map]
    omega
  · intro l hl
    obtain ⟨k, hk, rfl⟩ := List.mem_map.mp (show l ∈ s.2.map nI from hl)
    have := h3 k hk
    exact ⟨by rw [nI, List.length_map]; omega, ws_sm (h.2 k hk)⟩
theorem write_state {s : NSt} (h : InW s) (hb : stB (sI s) = true) (h1 : s.1.length ≤ 100) (h2 : s.2.length ≤ 100) (h3 : ∀ k ∈ s.2, k.length ≤ 100) {Q : D → Prop} {Z : ZX} (q : Q (.str (ST s))) : G_write_state K A [stD (sI s)] Q Z := by
  unfold G_write_state S_write_state
  simp only [fnS, Pu.startB, sSeq, sAsg, sIf, sRet, sNext, sNew, sApp, sPar, sDem, demB, fVar, fVarT, fC, fOp, fTst, fAnd, fOr, fNot, fNew, fLst, fTup, fNil, fCons, fSl, Pu.oAt, oNo, fCB, fCall, fIf, fChain, fRng1, fIt, fJoin, RLen, RI0, RAdd, RSl, RIsN, RTuple, gN, bD, List.map_cons, List.map_nil, List.cons_append, List.nil_append, List.length_cons, List.length_nil, List.replicate, Nat.reduceSub, Nat.reduceAdd, List.getElem?_cons_zero, List.getElem?_cons_succ, List.set_cons_zero, List.set_cons_succ, Option.some.injEq, B.val.injEq, D.int.injEq, D.bl.injEq, D.str.injEq, D.tup.injEq, D.lst.injEq, exists_eq_left', exists_eq_left, exists_and_left, ex_eq, true_and, and_true, List.cons.injEq, List.zip_cons_cons, List.zip_nil_right, List.foldl_cons, List.foldl_nil, wipeB, lenD, itD, Bool.not_true, Bool.not_false, Bool.false_eq_true, Bool.true_eq_false, if_true, if_false, ite_true, ite_false, D.dic.injEq, D.obj.injEq, and_assoc, List.map_map]
  refine is_state_row (ws_sms h h1 h2 h3) ?_
  rw [hb]
  refine ⟨true, rfl, ?_⟩
  rw [if_neg (by decide)]
  exact state_text h h1 h2 h3 q
end
end K70
set_option Elab.async false
set_option maxRecDepth 100000
set_option maxHeartbeats 1000000
set_option linter.all false
set_option pp.maxSteps 2500
namespace K70
open PySem PySem.Spec PyProof.Rows L2 Ly Pu TM PySem.W
def W7 : List Nat := [0, 1, 2, 3, 7, 10, 39]
theorem w7_ws : ∀ n ∈ W7, n ∈ WS := by decide
structure Rs (m : Nat) (l : List Nat) : Prop where
  pw : l.Pairwise (· < ·)
  mm : ∀ n ∈ l, n ∈ W7
  ln : l.length ≤ m
theorem Rs.ws {m : Nat} {l : List Nat} (h : Rs m l) : ∀ n ∈ l, n ∈ WS := fun n hn => w7_ws n (h.mm n hn)
def sel (b : List Bool) : List Nat := ((W7.zip b).filter (·.2)).map (·.1)
theorem sel_of (p : Nat → Bool) : W7.filter p = sel (W7.map p) := by
  unfold sel
  generalize W7 = l
  induction l with
  | nil => rfl
  | cons a l ih =>
    rw [List.map_cons, List.zip_cons_cons, List.filter_cons, List.filter_cons]
    show (if p a = true then a :: l.filter p else l.filter p) = _
    cases p a with
    | true => rw [if_pos rfl, if_pos rfl, List.map_cons, ih]
    | false => rw [if_neg (by decide), if_neg (by intro h; cases h), ih]
theorem rs_sel {m : Nat} {l : List Nat} (h : Rs m l) : ∃ b0 b1 b2 b3 b4 b5 b6 : Bool, l = sel [b0, b1, b2, b3, b4, b5, b6] := by
  have e : l = W7.filter fun n => decide (n ∈ l) := by
    refine rise_uniq (r := fun a b : Nat => a < b) (fun a => Nat.lt_irrefl a) (fun a b h1 h2 => by omega) h.pw (List.Pairwise.filter _ (show W7.Pairwise (· < ·) by decide)) fun k => ?_
    rw [List.mem_filter, decide_eq_true_iff]
    exact ⟨fun hk => ⟨h.mm k hk, hk⟩, fun hk => hk.2⟩
  rw [sel_of] at e
  exact ⟨_, _, _, _, _, _, _, e⟩
theorem sel4 : ∀ b0 b1 b2 b3 b4 b5 b6 : Bool, (sel [b0, b1, b2, b3, b4, b5, b6]).length ≤ 4 → (NT (sel [b0, b1, b2, b3, b4, b5, b6])).length ≤ 9 := by decide +kernel
theorem sel3 : ∀ b0 b1 b2 b3 b4 b5 b6 : Bool, (sel [b0, b1, b2, b3, b4, b5, b6]).length ≤ 3 → (NT (sel [b0, b1, b2, b3, b4, b5, b6])).length ≤ 7 := by decide +kernel
theorem rs4 {l : List Nat} (h : Rs 4 l) : (NT l).length ≤ 9 := by
  obtain ⟨b0, b1, b2, b3, b4, b5, b6, e⟩ := rs_sel h
  have := h.ln
  subst e
  exact sel4 _ _ _ _ _ _ _ this
theorem rs3 {l : List Nat} (h : Rs 3 l) : (NT l).length ≤ 7 := by
  obtain ⟨b0, b1, b2, b3, b4, b5, b6, e⟩ := rs_sel h
  have := h.ln
  subst e
  exact sel3 _ _ _ _ _ _ _ this
theorem Rs.asc {m : Nat} {l : List Nat} (h : Rs m l) : ascI (nI l) = true := by
  rw [asc_iff]
  unfold nI
  exact List.pairwise_map.mpr (h.pw.imp fun {a b} h => by omega)
theorem perm_map {α β : Type} {f : α → β} {l : List β} {m : List α} (p : l.Perm (m.map f)) : ∃ l' : List α, l = l'.map f ∧ l'.Perm m := by
  have key : ∀ {k l : List β}, k.Perm l → ∀ m : List α, k = m.map f → ∃ l' : List α, l = l'.map f ∧ m.Perm l' := by
    intro k l p
    induction p with
    | nil => intro m h; exact ⟨[], rfl, by rw [List.map_eq_nil_iff.mp h.symm]⟩
    | cons x p ih =>
      intro m h
      cases m with
      | nil => cases h
      | cons a m =>
        rw [List.map_cons] at h
        injection h with h1 h2
        obtain ⟨l', e, q⟩ := ih m h2
        exact ⟨a :: l', by rw [List.map_cons, h1, e], q.cons a⟩
    | swap x y l =>
      intro m h
      cases m with
      | nil => cases h
      | cons a m =>
        rw [List.map_cons] at h
        injection h with h1 h2
        cases m with
        | nil => cases h2
        | cons b m =>
          rw [List.map_cons] at h2
          injection h2 with h3 h4
          exact ⟨b :: a :: m, by rw [List.map_cons, List.map_cons, h1, h3, h4], .swap b a m⟩
    | trans p q i1 i2 =>
      intro m h
      obtain ⟨l1, e1, q1⟩ := i1 m h
      obtain ⟨l2, e2, q2⟩ := i2 l1 e1
      exact ⟨l2, e2, q1.trans q2⟩
  obtain ⟨l', e, q⟩ := key p.symm m rfl
  exact ⟨l', e, q.symm⟩
theorem nI_D (l : List Nat) : (nI l).map D.int = l.map fun n : Nat => D.int (n : Int) := by
  unfold nI
  rw [List.map_map]
  rfl
theorem srt_nI (l : List Nat) : SrtO ((nI l).map D.int) := by
  refine ⟨fun x hx => ?_, fun d hd d' hd' => ?_, .inr fun d hd => ?_, fun x hx => ?_⟩
  · obtain ⟨n, _, rfl⟩ := List.mem_map.mp hx
    rfl
  · obtain ⟨x, hx, rfl⟩ := List.mem_map.mp hd
    obtain ⟨n, _, rfl⟩ := List.mem_map.mp hx
    obtain ⟨y, hy, rfl⟩ := List.mem_map.mp hd'
    obtain ⟨m, _, rfl⟩ := List.mem_map.mp hy
    rfl
  · obtain ⟨x, hx, rfl⟩ := List.mem_map.mp hd
    obtain ⟨n, _, rfl⟩ := List.mem_map.mp hx
    exact ⟨(by intro z; cases z), (by intro xs z; cases z)⟩
  · obtain ⟨n, _, rfl⟩ := List.mem_map.mp hx
    exact Nat.zero_le _
theorem le_int (a b : Nat) : dataLe false toP (D.int (a : Int)) (D.int (b : Int)) = decide (a ≤ b) := by
  have h := congrFun (congrFun (dataLe_int (β := Int) id) (a : Int)) (b : Int)
  have e : dataLe false toP (D.int (a : Int)) (D.int (b : Int)) = dataLe false (fun x : Int => PyData.int (id x)) (a : Int) (b : Int) := rfl
  rw [e, h]
  exact decide_eq_decide.mpr ⟨fun h => by have : (a : Int) ≤ (b : Int) := h; omega, fun h => by show (a : Int) ≤ (b : Int); omega⟩
theorem sort_nI (l : List Nat) : sortD ((nI l).map D.int) = (nI (l.mergeSort fun a b => decide (a ≤ b))).map D.int := by
  rw [nI_D, nI_D]
  unfold sortD
  exact (List.map_mergeSort fun a _ b _ => (le_int a b).symm).symm
theorem lc_rel {j : Nat} {F : FE} {ρ : Pu.Env} {P : D → Prop} : ∀ (l : List D) {Q : List D → Prop}, (∀ d ∈ l, ∀ R : D → Prop, (∀ t, P t → R t) → F (ρ.set j (.val d)) R F0) →
    (∀ ts : List D, ts.length = l.length → (∀ t ∈ ts, P t) → Q ts) → lcD (gN j) fYes F ρ l Q
  | [], Q, _, q => q [] rfl fun t h => by cases h
  | d :: l, Q, h, q => by
    refine h d (List.mem_cons_self ..) _ fun t ht => ?_
    refine lc_rel l (fun e he => h e (List.mem_cons_of_mem _ he)) fun ts hl hp => ?_
    refine q (t :: ts) (by rw [List.length_cons, List.length_cons, hl]) fun u hu => ?_
    rcases List.mem_cons.mp hu with rfl | hu
    · exact ht
    · exact hp u hu
section
variable {K : PySem.W.Frag} {A : Adr}
theorem rising {m : Nat} (hm : m ≤ 10) {Q : D → Prop} {Z : ZX} (q : ∀ l, Rs m l → Q (tupI (nI l))) : G_rising K A [.dice, .int (m : Int)] Q Z := by
  unfold G_rising S_rising
  simp only [fnS, Pu.startB, sSeq, sAsg, sIf, sRet, sNext, sNew, sApp, sPar, sDem, demB, fVar, fVarT, fC, fOp, fTst, fAnd, fOr, fNot, fNew, fLst, fTup, fNil, fCons, fSl, Pu.oAt, oNo, fCB, fCall, fIf, fChain, fRng1, fIt, fJoin, RLen, RI0, RAdd, RSl, RIsN, RTuple, gN, bD, List.map_cons, List.map_nil, List.cons_append, List.nil_append, List.length_cons, List.length_nil, List.replicate, Nat.reduceSub, Nat.reduceAdd, List.getElem?_cons_zero, List.getElem?_cons_succ, List.set_cons_zero, List.set_cons_succ, Option.some.injEq, B.val.injEq, D.int.injEq, D.bl.injEq, D.str.injEq, D.tup.injEq, D.lst.injEq, exists_eq_left', exists_eq_left, exists_and_left, ex_eq, true_and, and_true, List.cons.injEq, List.zip_cons_cons, List.zip_nil_right, List.foldl_cons, List.foldl_nil, wipeB, lenD, itD, Bool.not_true, Bool.not_false, Bool.false_eq_true, Bool.true_eq_false, if_true, if_false, ite_true, ite_false, D.dic.injEq, D.obj.injEq, and_assoc, List.map_map, fCBN, RSortDt, G_roll, G_some, FRoll, FSome]
  refine ⟨by rw [sizeLine_eq]; decide, ?_⟩
  refine ⟨by omega, by omega, fun r h1 h2 => ⟨h1, by decide, fun ys rest hp hl => ?_⟩⟩
  obtain ⟨zs, e, hz⟩ := perm_map (f := fun n : Nat => D.int (n : Int)) (m := W7) hp
  obtain ⟨l, us, e1, e2, e3⟩ := List.append_eq_map_iff.mp e
  subst e1 e2
  rw [← nI_D] at hl ⊢
  refine ⟨srt_nI l, _, rfl, ?_⟩
  rw [sort_nI]
  show Q (tupI (nI _))
  refine q _ ?_
  have hq : (l.mergeSort fun a b => decide (a ≤ b)).Perm l := List.mergeSort_perm l _
  have hs : (l.mergeSort fun a b => decide (a ≤ b)).Pairwise fun a b => decide (a ≤ b) = true := List.pairwise_mergeSort (fun a b c h1 h2 => by simp only [decide_eq_true_iff] at *; omega) (fun a b => by simp only [Bool.or_eq_true, decide_eq_true_iff]; omega) l
  have hn : l.Nodup := ((List.nodup_append.mp (hz.nodup_iff.mpr (by decide)))).1
  refine ⟨(hs.and (hq.nodup_iff.mpr hn)).imp fun {a b} ⟨h1, h2⟩ => by have := of_decide_eq_true h1; omega, fun n hn => hz.subset (List.mem_append_left _ (hq.subset hn)), ?_⟩
  rw [hq.length_eq]
  simp only [nI, List.length_map] at hl
  split at hl <;> omega
end
end K70
set_option Elab.async false
set_option maxRecDepth 100000
set_option maxHeartbeats 1000000
set_option linter.all false
set_option pp.maxSteps 2500
namespace K70
open PySem PySem.Spec PyProof.Rows L2 Ly Pu TM PySem.W
theorem nodup_len {α : Type} [DecidableEq α] : ∀ {l m : List α}, l.Nodup → (∀ x ∈ l, x ∈ m) → l.length ≤ m.length
  | [], _, _, _ => Nat.zero_le _
  | a :: l, m, hn, h => by
    rw [List.nodup_cons] at hn
    have ih := nodup_len (l := l) (m := m.erase a) hn.2 fun x hx => (List.mem_erase_of_ne fun (e : x = a) => hn.1 (by rw [← e]; exact hx)).mpr (h x (List.mem_cons_of_mem _ hx))
    have ha := h a (List.mem_cons_self ..)
    rw [List.length_erase_of_mem ha] at ih
    have := List.length_pos_of_mem ha
    rw [List.length_cons]
    omega
theorem allf {α β : Type} {f : α → β} {P : α → Prop} : ∀ {ds : List β}, (∀ d ∈ ds, ∃ l, P l ∧ d = f l) → ∃ ks : List α, (∀ k ∈ ks, P k) ∧ ds = ks.map f
  | [], _ => ⟨[], fun k hk => (List.not_mem_nil hk).elim, rfl⟩
  | d :: ds, h => by
    obtain ⟨ks, e2, e3⟩ := allf fun e he => h e (List.mem_cons_of_mem _ he)
    obtain ⟨l, p, e⟩ := h d (List.mem_cons_self ..)
    refine ⟨l :: ks, fun k hk => ?_, by rw [e, e3]; rfl⟩
    rcases List.mem_cons.mp hk with rfl | hk
    · exact p
    · exact e2 k hk
structure Ds (s : NSt) : Prop where
  a : Rs 4 s.1
  b : ∀ k ∈ s.2, Rs 3 k
  n : s.2.length ≤ 3
  t : ascT (s.2.map nI) = true
theorem Ds.w {s : NSt} (h : Ds s) : InW s := ⟨h.a.ws, fun k hk => (h.b k hk).ws⟩
theorem Ds.ok {s : NSt} (h : Ds s) : stB (sI s) = true := by
  unfold stB
  show (ascI (nI s.1) && ((s.2.map nI).all ascI && ascT (s.2.map nI))) = true
  rw [h.a.asc, h.t, List.all_eq_true.mpr]
  · rfl
  · intro l hl
    obtain ⟨k, hk, rfl⟩ := List.mem_map.mp hl
    exact (h.b k hk).asc
theorem sum_NT3 : ∀ {ks : List (List Nat)}, (∀ k ∈ ks, Rs 3 k) → ((ks.map NT).map (·.length)).sum ≤ 7 * ks.length
  | [], _ => Nat.le_refl _
  | k :: ks, h => by
    have ih := sum_NT3 (ks := ks) fun j hj => h j (List.mem_cons_of_mem _ hj)
    have := rs3 (h k (List.mem_cons_self ..))
    rw [List.map_cons, List.map_cons, List.sum_cons, List.length_cons]
    omega
theorem Ds.len {s : NSt} (h : Ds s) : (ST s).length ≤ 37 := by
  have h1 := rs4 h.a
  have h2 : (CT s.2).length ≤ 25 := by
    unfold CT
    split
    · show 4 ≤ _
      decide
    · rename_i c
      rw [TL.join_eq]
      have l3 : 1 ≤ s.2.length := by
        cases e : s.2 with
        | nil => exact absurd e c
        | cons _ _ => rw [List.length_cons]; omega
      have e0 : ∀ (ps : List Str), 1 ≤ ps.length → (Str.join "; " ps).length + 2 = (ps.map (·.length)).sum + 2 * ps.length := by
        intro ps
        induction ps with
        | nil => intro h; cases h
        | cons p ps ih =>
          intro _
          cases ps with
          | nil =>
            show p.length + 2 = p.length + 0 + 2 * 1
            omega
          | cons q r =>
            have e : (Str.join "; " (p :: q :: r)).length = p.length + 2 + (Str.join "; " (q :: r)).length := by
              show (p ++ "; " ++ Str.join "; " (q :: r)).length = _
              rw [Str.length_append, Str.length_append]
              rfl
            have ih := ih (by rw [List.length_cons]; omega)
            rw [e, List.map_cons, List.sum_cons, List.length_cons]
            omega
      have e1 := e0 (s.2.map NT) (by rw [List.length_map]; exact l3)
      have e2 := sum_NT3 h.b
      have := h.n
      rw [List.length_map] at e1
      omega
  unfold ST
  have e3 : (" | " : Str).length = 3 := rfl
  rw [Str.length_append, Str.length_append, e3]
  omega
section
variable {K : PySem.W.Frag} {A : Adr}
theorem a_state {Q : D → Prop} {Z : ZX} (q : ∀ s, Ds s → Q (stD (sI s))) : G_a_state K A [.dice] Q Z := by
  unfold G_a_state S_a_state
  simp only [fnS, Pu.startB, sSeq, sAsg, sIf, sRet, sNext, sNew, sApp, sPar, sDem, demB, fVar, fVarT, fC, fOp, fTst, fAnd, fOr, fNot, fNew, fLst, fTup, fNil, fCons, fSl, Pu.oAt, oNo, fCB, fCall, fIf, fChain, fRng1, fIt, fJoin, RLen, RI0, RAdd, RSl, RIsN, RTuple, gN, bD, List.map_cons, List.map_nil, List.cons_append, List.nil_append, List.length_cons, List.length_nil, List.replicate, Nat.reduceSub, Nat.reduceAdd, List.getElem?_cons_zero, List.getElem?_cons_succ, List.set_cons_zero, List.set_cons_succ, Option.some.injEq, B.val.injEq, D.int.injEq, D.bl.injEq, D.str.injEq, D.tup.injEq, D.lst.injEq, exists_eq_left', exists_eq_left, exists_and_left, ex_eq, true_and, and_true, List.cons.injEq, List.zip_cons_cons, List.zip_nil_right, List.foldl_cons, List.foldl_nil, wipeB, lenD, itD, Bool.not_true, Bool.not_false, Bool.false_eq_true, Bool.true_eq_false, if_true, if_false, ite_true, ite_false, D.dic.injEq, D.obj.injEq, and_assoc, List.map_map, fSortSetT, fLc, G_roll]
  refine rising (m := 4) (by decide) fun l hl => ?_
  refine ⟨_, rfl, by decide, by decide, fun r h1 h2 => ?_⟩
  have hz : (rngD 0 1 r.toNat).length = r.toNat := by
    unfold rngD
    rw [List.length_map, List.length_range]
  refine ⟨_, rfl, by omega, by omega, by rw [hz, sizeLine_eq]; omega, ?_⟩
  refine lc_rel (P := fun d => ∃ k, Rs 3 k ∧ d = tupI (nI k)) _ (fun d hd R k => ?_) fun ds hl2 hp => ?_
  · simp only [fnS, Pu.startB, sSeq, sAsg, sIf, sRet, sNext, sNew, sApp, sPar, sDem, demB, fVar, fVarT, fC, fOp, fTst, fAnd, fOr, fNot, fNew, fLst, fTup, fNil, fCons, fSl, Pu.oAt, oNo, fCB, fCall, fIf, fChain, fRng1, fIt, fJoin, RLen, RI0, RAdd, RSl, RIsN, RTuple, gN, bD, List.map_cons, List.map_nil, List.cons_append, List.nil_append, List.length_cons, List.length_nil, List.replicate, Nat.reduceSub, Nat.reduceAdd, List.getElem?_cons_zero, List.getElem?_cons_succ, List.set_cons_zero, List.set_cons_succ, Option.some.injEq, B.val.injEq, D.int.injEq, D.bl.injEq, D.str.injEq, D.tup.injEq, D.lst.injEq, exists_eq_left', exists_eq_left, exists_and_left, ex_eq, true_and, and_true, List.cons.injEq, List.zip_cons_cons, List.zip_nil_right, List.foldl_cons, List.foldl_nil, wipeB, lenD, itD, Bool.not_true, Bool.not_false, Bool.false_eq_true, Bool.true_eq_false, if_true, if_false, ite_true, ite_false, D.dic.injEq, D.obj.injEq, and_assoc, List.map_map]
    exact rising (m := 3) (by decide) fun l h => k _ ⟨l, h, rfl⟩
  obtain ⟨ks, e2, e3⟩ := allf (f := fun k => tupI (nI k)) hp
  subst e3
  rw [List.length_map, hz] at hl2
  refine ⟨ks.map nI, by rw [List.map_map]; rfl, by rw [List.length_map]; omega, fun ys hp2 hm hy => ?_⟩
  obtain ⟨js, g2, g3⟩ := allf (f := nI) (P := Rs 3) (ds := ys) fun y hy => by
    obtain ⟨k, hk, rfl⟩ := List.mem_map.mp ((hm y).mp hy)
    exact ⟨k, e2 k hk, rfl⟩
  subst g3
  refine ⟨_, rfl, by rw [sizeLine_eq]; decide, ?_⟩
  refine q (l, js) ⟨hl, g2, ?_, ascT_iff.mpr hp2⟩
  have hn : (js.map nI).Nodup := hp2.imp fun {a b} h e => by
    rw [e] at h
    exact absurd h (by rw [ltI_irrefl]; decide)
  have := nodup_len hn fun x hx => (hm x).mp hx
  rw [List.length_map, List.length_map] at this
  show js.length ≤ 3
  omega
end
end K70
set_option Elab.async false
set_option maxRecDepth 100000
set_option maxHeartbeats 1000000
set_option linter.all false
set_option pp.maxSteps 1500
namespace K70
open PySem PySem.Spec PyProof.Rows L2 Ly Pu TM
theorem slice_to (z : Str) (a : Nat) : Txt.slice z none (some (a : Int)) = mkS ((lab z).take a) := by
  rw [← C8.cutS_slice]
  unfold cutS mkS
  rw [HT.sIx_nat, len_lab]
  congr 2
  show ((lab z).drop 0).take (min a (lab z).length - 0) = _
  rw [List.drop_zero, Nat.sub_zero]
  by_cases h : a ≤ (lab z).length
  · rw [Nat.min_eq_left h]
  · rw [Nat.min_eq_right (by omega), List.take_of_length_le (Nat.le_refl _), List.take_of_length_le (by omega)]
theorem slice_fr (z : Str) (a : Nat) : Txt.slice z (some (a : Int)) none = mkS ((lab z).drop a) := by
  rw [← C8.cutS_slice]
  unfold cutS mkS
  rw [HT.sIx_nat, HT.sIx_none, len_lab]
  congr 2
  show ((lab z).drop (min a (lab z).length)).take ((lab z).length - min a (lab z).length) = _
  rw [List.take_of_length_le (by rw [List.length_drop]; omega)]
  by_cases h : a ≤ (lab z).length
  · rw [Nat.min_eq_left h]
  · rw [Nat.min_eq_right (by omega), List.drop_of_length_le (Nat.le_refl _), List.drop_of_length_le (by omega)]
def SGL : List Str := [" ", "\n", "0", "1", "-",
  "; ", " | ", ": ",
  "none", "a", "|", ";", "00"]
theorem SG_ok : ∀ w ∈ SGL, w.length ≤ 4 ∧ PyData.strOk w = true := by decide +kernel
section
variable {K : PySem.W.Frag} {A : Adr}
theorem bent {z : Str} (hz : z.length ≤ 176) (ho : PyData.strOk z = true) {Q : D → Prop} {Z : ZX} (q : ∀ z' : Str, z'.length ≤ 180 → PyData.strOk z' = true → Q (.str z')) : G_bent K A [.dice, .str z] Q Z := by
  have hzl : (lab z).length ≤ 176 := by rw [← len_lab]; exact hz
  unfold G_bent S_bent
  simp only [fnS, Pu.startB, sSeq, sAsg, sIf, sRet, sNext, sNew, sApp, sPar, sDem, demB, fVar, fVarT, fC, fOp, fTst, fAnd, fOr, fNot, fNew, fLst, fTup, fNil, fCons, fSl, Pu.oAt, oNo, fCB, fCall, fIf, fChain, fRng1, fIt, fJoin, RLen, RI0, RAdd, RSl, RIsN, RTuple, gN, bD, List.map_cons, List.map_nil, List.cons_append, List.nil_append, List.length_cons, List.length_nil, List.replicate, Nat.reduceSub, Nat.reduceAdd, List.getElem?_cons_zero, List.getElem?_cons_succ, List.set_cons_zero, List.set_cons_succ, Option.some.injEq, B.val.injEq, D.int.injEq, D.bl.injEq, D.str.injEq, D.tup.injEq, D.lst.injEq, exists_eq_left', exists_eq_left, exists_and_left, ex_eq, true_and, and_true, List.cons.injEq, List.zip_cons_cons, List.zip_nil_right, List.foldl_cons, List.foldl_nil, wipeB, lenD, itD, Bool.not_true, Bool.not_false, Bool.false_eq_true, Bool.true_eq_false, if_true, if_false, ite_true, ite_false, D.dic.injEq, D.obj.injEq, and_assoc, List.map_map, G_roll, G_pick]
  refine ⟨_, if_pos (by rw [sizeLine_eq]; omega), ?_⟩
  refine ⟨_, rfl, by omega, by omega, fun r h1 h2 => ?_⟩
  obtain ⟨a, rfl⟩ : ∃ k : Nat, r = (k : Int) := ⟨r.toNat, by omega⟩
  refine ⟨by rw [sizeLine_eq]; decide, _, rfl, by show 0 < 13; decide, by show 13 < _; decide, fun x hx => ?_⟩
  obtain ⟨w, hw, rfl⟩ := List.mem_map.mp (show x ∈ SGL.map D.str from hx)
  refine ⟨_, rfl, by rw [sizeLine_eq]; omega, by rw [sizeLine_eq]; decide, _, rfl, by show 0 < 3; decide, by show 3 < _; decide, fun x hx => ?_⟩
  obtain ⟨u, hu, rfl⟩ : ∃ u : Str, (u.length ≤ 4 ∧ PyData.strOk u = true) ∧ x = .str u := by
    simp only [List.mem_cons, List.not_mem_nil, or_false] at hx
    rcases hx with rfl | rfl | rfl
    · exact ⟨_, SG_ok w hw, rfl⟩
    · exact ⟨_, SG_ok w hw, rfl⟩
    · exact ⟨_, by decide +kernel, rfl⟩
  rw [slice_to]
  have t1 : (mkS ((lab z).take a)).length ≤ a := by
    rw [len_lab, lab_mk, List.length_take]
    omega
  refine ⟨by rw [sizeLine_eq]; omega, _, rfl, by decide, by decide, fun r g1 g2 => ?_⟩
  obtain ⟨b, rfl⟩ : ∃ k : Nat, r = (k : Int) := ⟨r.toNat, by omega⟩
  refine ⟨_, rfl, by rw [sizeLine_eq]; omega, ?_⟩
  rw [show (a : Int) + (b : Int) = ((a + b : Nat) : Int) by omega, slice_fr]
  have t2 : (mkS ((lab z).drop (a + b))).length ≤ z.length - a := by
    rw [len_lab, lab_mk, List.length_drop, len_lab z]
    omega
  refine ⟨by rw [Str.length_append, sizeLine_eq]; omega, q _ (by rw [Str.length_append, Str.length_append]; omega) ?_⟩
  rw [strOk_iff]
  intro c hc
  rw [lab_app, lab_app, lab_mk, lab_mk] at hc
  rcases List.mem_append.mp hc with hc | hc
  · rcases List.mem_append.mp hc with hc | hc
    · exact (strOk_iff z).mp ho c (List.mem_of_mem_take hc)
    · exact (strOk_iff u).mp hu.2 c hc
  · exact (strOk_iff z).mp ho c (List.mem_of_mem_drop hc)
end
end K70
set_option Elab.async false
set_option maxRecDepth 100000
set_option maxHeartbeats 1000000
set_option linter.all false
set_option pp.maxSteps 2500
namespace K70
open PySem PySem.Spec PyProof.Rows L2 Ly Pu TM PySem.W
theorem tup_P (l : List Int) : toP (tupI l) = intP l := by
  show PyData.tuple (toPs (l.map D.int)) = _
  rw [ints_eqv]
theorem sort_tups (ls : List (List Int)) : sortD (ls.map tupI) = (ls.mergeSort fun a b => !ltI b a).map tupI := by
  unfold sortD
  refine (List.map_mergeSort fun a _ b _ => ?_).symm
  have e : dataLe false toP (tupI a) (tupI b) = dataLe false (fun q : List Int => intP (id q)) a b := by
    have e1 : dataLe false toP (tupI a) (tupI b) = dataLe false (fun q : List Int => toP (tupI q)) a b := rfl
    rw [e1]
    congr 1
    funext q
    exact tup_P q
  rw [e, dataLe_ints (fun q : List Int => id q)]
  rfl
theorem srt_up {ls : List (List Int)} (hn : ls.Nodup) : (ls.mergeSort fun a b => !ltI b a).Pairwise (fun a b => ltI a b = true) :=
  lt_of_pw (srt_pw (fun x : List Int => x) ls) ((List.mergeSort_perm ls _).nodup_iff.mpr hn)
theorem up_nodup {ls : List (List Int)} (h : ls.Pairwise (fun a b => ltI a b = true)) : ls.Nodup := h.imp fun {a b} h e => by
  rw [e, ltI_irrefl] at h
  cases h
theorem sort_up {ls : List (List Int)} (h : ls.Pairwise (fun a b => ltI a b = true)) : sortD (ls.map tupI) = ls.map tupI := by
  rw [sort_tups]
  congr 1
  refine rise_uniq (r := fun a b => ltI a b = true) (fun a => by rw [ltI_irrefl]; decide) (fun a b h1 h2 => by rw [ltI_asym h1] at h2; cases h2) (srt_up (up_nodup h)) h fun k => (List.mergeSort_perm ls _).mem_iff
theorem srt_tupsT (ls : List (List Int)) : SrtT (ls.map tupI) := by
  refine ⟨fun x hx => ?_, ?_, fun d hd => ?_, fun x hx => ?_⟩
  · obtain ⟨l, _, rfl⟩ := List.mem_map.mp hx
    rw [tup_P]
    simp [PyData.canLay0, (int_lay l).1]
  · rw [List.map_map]
    have e : toP ∘ tupI = intP := by funext q; exact tup_P q
    rw [e]
    exact alike_tups ls
  · rw [List.map_map] at hd
    obtain ⟨l, _, rfl⟩ := List.mem_map.mp hd
    exact ⟨_, tup_P l⟩
  · obtain ⟨l, _, rfl⟩ := List.mem_map.mp hx
    rw [tup_P]
    have := depth_tupI l
    omega
theorem kK_D' (l : List Int) : (kK l).map kD = l.map D.int := by
  unfold kK
  rw [List.map_map]
  rfl
theorem kK_D (l : List Int) : D.tup ((kK l).map kD) = tupI l := by
  rw [kK_D']
  rfl
theorem keys_tup (l : List Rw) : (l.map fun p => kK p.1).map (fun k => D.tup (k.map kD)) = (l.map (·.1)).map tupI := by
  rw [List.map_map, List.map_map]
  exact List.map_congr_left fun p _ => kK_D p.1
/-- a row that the law draws -/
structure Gr (r : NRw) : Prop where
  k : ∀ n ∈ r.1, n ∈ WS
  two : r.1.length = 2
  sh : (NT r.1).length ≤ 4
  s : Ds r.2
theorem Gr.ok {r : NRw} (h : Gr r) : OkR r := ⟨h.k, h.two, h.s.w, h.s.ok⟩
theorem Ds.sms {s : NSt} (h : Ds s) : SmS (sI s) := ws_sms h.w (by have := h.a.ln; omega) (by have := h.n; omega) fun k hk => by have := (h.b k hk).ln; omega
theorem LT_len {r : NRw} (h : Gr r) : (LT r).length ≤ 43 := by
  have h1 := h.sh
  have h2 := h.s.len
  have e : (": " : Str).length = 2 := rfl
  unfold LT
  rw [Str.length_append, Str.length_append, e]
  omega
theorem sum_LT : ∀ {rs : List NRw}, (∀ r ∈ rs, Gr r) → ((rs.map LT).map (·.length)).sum ≤ 43 * rs.length
  | [], _ => Nat.le_refl _
  | r :: rs, h => by
    have ih := sum_LT (rs := rs) fun j hj => h j (List.mem_cons_of_mem _ hj)
    have := LT_len (h r (List.mem_cons_self ..))
    rw [List.map_cons, List.map_cons, List.sum_cons, List.length_cons]
    omega
theorem TT_len {rs : List NRw} (h : ∀ r ∈ rs, Gr r) (hl : rs.length ≤ 4) : (TT rs).length ≤ 176 := by
  unfold TT
  split
  · show 4 ≤ _
    decide
  · rw [TL.join_eq]
    have h1 := PySem.StrLaws.join_length_le "\n" (rs.map LT)
    have h2 := sum_LT h
    have e2 : (Str.ofString "\n").length = 1 := rfl
    rw [e2, List.length_map] at h1
    omega
theorem notin {c : Nat} (e : PyData.strOk (sg c) = false) {z : Str} (h : PyData.strOk z = true) : c ∉ lab z := fun hc => by
  have := (strOk_iff z).mp h c hc
  rw [e] at this
  cases this
theorem ok_of {z : Str} (h : ∀ c, PyData.strOk (sg c) = false → c ∉ lab z) : PyData.strOk z = true := (strOk_iff z).mpr fun c hc => by
  cases e : PyData.strOk (sg c) with
  | true => rfl
  | false => exact absurd hc (h c e)
theorem ok_sp : PyData.strOk " " = true ∧ PyData.strOk "-" = true ∧ PyData.strOk "; " = true ∧ PyData.strOk "none" = true ∧ PyData.strOk " | " = true ∧ PyData.strOk ": " = true ∧ PyData.strOk "\n" = true := by decide +kernel
theorem NT_f {c : Nat} (e : PyData.strOk (sg c) = false) {l : List Nat} (h : ∀ n ∈ l, n ∈ WS) : c ∉ lab (NT l) := NT_free (notin e ok_sp.1) (notin e ok_sp.2.1) fun n hn => notin e (wd (h n hn)).ok
theorem ST_f {c : Nat} (e : PyData.strOk (sg c) = false) {s : NSt} (h : InW s) : c ∉ lab (ST s) :=
  ST_free (notin e ok_sp.2.2.2.2.1) (NT_f e h.1) (CT_free (notin e ok_sp.2.2.1) (notin e ok_sp.2.2.2.1) fun k hk => NT_f e (h.2 k hk))
theorem LT_f {c : Nat} (e : PyData.strOk (sg c) = false) {r : NRw} (h : Gr r) : c ∉ lab (LT r) := by
  unfold LT
  rw [lab_app, lab_app]
  intro hm
  rcases List.mem_append.mp hm with hm | hm
  · rcases List.mem_append.mp hm with hm | hm
    · exact NT_f e h.k hm
    · exact notin e ok_sp.2.2.2.2.2.1 hm
  · exact ST_f e h.s.w hm
theorem TT_f {c : Nat} (e : PyData.strOk (sg c) = false) {rs : List NRw} (h : ∀ r ∈ rs, Gr r) : c ∉ lab (TT rs) := by
  unfold TT
  split
  · exact notin e ok_sp.2.2.2.1
  · rw [TL.join_eq]
    refine join_free (notin e ok_sp.2.2.2.2.2.2) fun p hp => ?_
    obtain ⟨r, hr, rfl⟩ := List.mem_map.mp hp
    exact LT_f e (h r hr)
theorem LT_ok {r : NRw} (h : Gr r) : PyData.strOk (LT r) = true := ok_of fun _ e => LT_f e h
theorem NT_ok {l : List Nat} (h : ∀ n ∈ l, n ∈ WS) : PyData.strOk (NT l) = true := ok_of fun _ e => NT_f e h
theorem ST_ok {s : NSt} (h : InW s) : PyData.strOk (ST s) = true := ok_of fun _ e => ST_f e h
theorem TT_ok {rs : List NRw} (h : ∀ r ∈ rs, Gr r) : PyData.strOk (TT rs) = true := ok_of fun _ e => TT_f e h
theorem val_key : ∀ {rs : List Rw}, Up rs → ∀ p ∈ rs, valDt (rs.map fun p => kK p.1) (rs.map fun p => stD p.2) (kK p.1) = some (stD p.2)
  | [], _, p, hp => by cases hp
  | r :: rs, u, p, hp => by
    unfold Up at u
    rw [List.map_cons] at u
    obtain ⟨u1, u2⟩ := List.pairwise_cons.mp u
    show (if kK r.1 = kK p.1 then some (stD r.2) else valDt (rs.map fun p => kK p.1) (rs.map fun p => stD p.2) (kK p.1)) = _
    rcases List.mem_cons.mp hp with rfl | hp
    · rw [if_pos rfl]
    · have hlt := u1 p.1 (List.mem_map.mpr ⟨p, hp, rfl⟩)
      rw [if_neg (fun e => by
        have := kK_inj e
        rw [this, ltI_irrefl] at hlt
        cases hlt)]
      exact val_key u2 p hp
section
variable {K : PySem.W.Frag} {A : Adr}
theorem is_table_row {rs : List Rw} (h : ∀ r ∈ rs, r.1.length = 2 ∧ Sm r.1 ∧ SmS r.2 ∧ stB r.2 = true) (hl : rs.length ≤ 1000) {Q : D → Prop} {Z : ZX} (q : Q (.bl true)) : G_is_table_row K A [tabD rs] Q Z := by
  unfold G_is_table_row S_is_table_row fIsiT
  simp only [fnS, Pu.startB, sSeq, sAsg, sIf, sRet, sNext, sNew, sApp, sPar, sDem, demB, fVar, fVarT, fC, fOp, fTst, fAnd, fOr, fNot, fNew, fLst, fTup, fNil, fCons, fSl, Pu.oAt, oNo, fCB, fCall, fIf, fChain, fRng1, fIt, fJoin, RLen, RI0, RAdd, RSl, RIsN, RTuple, gN, bD, List.map_cons, List.map_nil, List.cons_append, List.nil_append, List.length_cons, List.length_nil, List.replicate, Nat.reduceSub, Nat.reduceAdd, List.getElem?_cons_zero, List.getElem?_cons_succ, List.set_cons_zero, List.set_cons_succ, Option.some.injEq, B.val.injEq, D.int.injEq, D.bl.injEq, D.str.injEq, D.tup.injEq, D.lst.injEq, exists_eq_left', exists_eq_left, exists_and_left, ex_eq, true_and, and_true, List.cons.injEq, List.zip_cons_cons, List.zip_nil_right, List.foldl_cons, List.foldl_nil, wipeB, lenD, itD, Bool.not_true, Bool.not_false, Bool.false_eq_true, Bool.true_eq_false, if_true, if_false, ite_true, ite_false, D.dic.injEq, D.obj.injEq, and_assoc, List.map_map, fLc, RAll, fDwT, fAndV]
  have hk : kdIs (kdT (tabD rs)) "dict" = true := (show kdIs Kd.dic "dict" = true by decide)
  refine ⟨trivial, ?_⟩
  rw [hk, if_neg (by decide)]
  have e : (rs.map fun p => kK p.1).map (fun k => D.tup (k.map kD)) = rs.map fun p => tupI p.1 := by
    rw [keys_tup, List.map_map]
    rfl
  refine ⟨_, _, rfl, fun k hk => ?_, ?_, ?_⟩
  · obtain ⟨p, hp, rfl⟩ := List.mem_map.mp hk
    have := (h p hp).1
    rw [kK, List.length_map, sizeLine_eq]
    omega
  · rw [List.length_map, List.length_map, sizeLine_eq]
    omega
  rw [e]
  refine lc_map (f := fun _ : Rw => D.bl true) rs (fun p hp R r => ?_) ?_
  · simp only [fnS, Pu.startB, sSeq, sAsg, sIf, sRet, sNext, sNew, sApp, sPar, sDem, demB, fVar, fVarT, fC, fOp, fTst, fAnd, fOr, fNot, fNew, fLst, fTup, fNil, fCons, fSl, Pu.oAt, oNo, fCB, fCall, fIf, fChain, fRng1, fIt, fJoin, RLen, RI0, RAdd, RSl, RIsN, RTuple, gN, bD, List.map_cons, List.map_nil, List.cons_append, List.nil_append, List.length_cons, List.length_nil, List.replicate, Nat.reduceSub, Nat.reduceAdd, List.getElem?_cons_zero, List.getElem?_cons_succ, List.set_cons_zero, List.set_cons_succ, Option.some.injEq, B.val.injEq, D.int.injEq, D.bl.injEq, D.str.injEq, D.tup.injEq, D.lst.injEq, exists_eq_left', exists_eq_left, exists_and_left, ex_eq, true_and, and_true, List.cons.injEq, List.zip_cons_cons, List.zip_nil_right, List.foldl_cons, List.foldl_nil, wipeB, lenD, itD, Bool.not_true, Bool.not_false, Bool.false_eq_true, Bool.true_eq_false, if_true, if_false, ite_true, ite_false, D.dic.injEq, D.obj.injEq, and_assoc, List.map_map, fAndV]
    obtain ⟨h1, h2, _, _⟩ := h p hp
    refine are_numbers (by omega) h2 ⟨true, rfl, ?_⟩
    rw [if_pos rfl]
    refine ⟨_, rfl, ?_⟩
    show R (.bl (decide (_ = _)))
    rw [List.length_map, h1, decide_eq_true (by decide)]
    exact r
  have all1 : ∀ l : List Rw, (l.map fun _ : Rw => true).all id = true := fun l => List.all_eq_true.mpr fun x hx => by
    obtain ⟨_, _, rfl⟩ := List.mem_map.mp hx
    rfl
  refine ⟨_, bls_map (fun _ => true) rs, ?_⟩
  rw [all1, if_neg (by decide)]
  refine ⟨_, _, rfl, by rw [List.length_map, sizeLine_eq]; omega, ?_⟩
  refine lc_map (f := fun _ : Rw => D.bl true) rs (fun p hp R r => ?_) ?_
  · simp only [fnS, Pu.startB, sSeq, sAsg, sIf, sRet, sNext, sNew, sApp, sPar, sDem, demB, fVar, fVarT, fC, fOp, fTst, fAnd, fOr, fNot, fNew, fLst, fTup, fNil, fCons, fSl, Pu.oAt, oNo, fCB, fCall, fIf, fChain, fRng1, fIt, fJoin, RLen, RI0, RAdd, RSl, RIsN, RTuple, gN, bD, List.map_cons, List.map_nil, List.cons_append, List.nil_append, List.length_cons, List.length_nil, List.replicate, Nat.reduceSub, Nat.reduceAdd, List.getElem?_cons_zero, List.getElem?_cons_succ, List.set_cons_zero, List.set_cons_succ, Option.some.injEq, B.val.injEq, D.int.injEq, D.bl.injEq, D.str.injEq, D.tup.injEq, D.lst.injEq, exists_eq_left', exists_eq_left, exists_and_left, ex_eq, true_and, and_true, List.cons.injEq, List.zip_cons_cons, List.zip_nil_right, List.foldl_cons, List.foldl_nil, wipeB, lenD, itD, Bool.not_true, Bool.not_false, Bool.false_eq_true, Bool.true_eq_false, if_true, if_false, ite_true, ite_false, D.dic.injEq, D.obj.injEq, and_assoc, List.map_map]
    obtain ⟨_, _, h3, h4⟩ := h p hp
    refine is_state_row h3 ?_
    rw [h4]
    exact r
  refine ⟨_, bls_map (fun _ => true) rs, ?_⟩
  rw [all1]
  exact q
theorem gr_row {rs : List NRw} (h : ∀ r ∈ rs, Gr r) : ∀ r ∈ rs.map rI, r.1.length = 2 ∧ Sm r.1 ∧ SmS r.2 ∧ stB r.2 = true := fun r hr => by
  obtain ⟨n, hn, rfl⟩ := List.mem_map.mp hr
  have g := h n hn
  exact ⟨by show (nI n.1).length = 2; rw [nI, List.length_map]; exact g.two, ws_sm g.k, g.s.sms, g.s.ok⟩
theorem write_table {rs : List NRw} (h : ∀ r ∈ rs, Gr r) (u : Up (rs.map rI)) (hl : rs.length ≤ 4) {Q : D → Prop} {Z : ZX} (q : Q (.str (TT rs))) : G_write_table K A [tabD (rs.map rI)] Q Z := by
  unfold G_write_table S_write_table
  simp only [fnS, Pu.startB, sSeq, sAsg, sIf, sRet, sNext, sNew, sApp, sPar, sDem, demB, fVar, fVarT, fC, fOp, fTst, fAnd, fOr, fNot, fNew, fLst, fTup, fNil, fCons, fSl, Pu.oAt, oNo, fCB, fCall, fIf, fChain, fRng1, fIt, fJoin, RLen, RI0, RAdd, RSl, RIsN, RTuple, gN, bD, List.map_cons, List.map_nil, List.cons_append, List.nil_append, List.length_cons, List.length_nil, List.replicate, Nat.reduceSub, Nat.reduceAdd, List.getElem?_cons_zero, List.getElem?_cons_succ, List.set_cons_zero, List.set_cons_succ, Option.some.injEq, B.val.injEq, D.int.injEq, D.bl.injEq, D.str.injEq, D.tup.injEq, D.lst.injEq, exists_eq_left', exists_eq_left, exists_and_left, ex_eq, true_and, and_true, List.cons.injEq, List.zip_cons_cons, List.zip_nil_right, List.foldl_cons, List.foldl_nil, wipeB, lenD, itD, Bool.not_true, Bool.not_false, Bool.false_eq_true, Bool.true_eq_false, if_true, if_false, ite_true, ite_false, D.dic.injEq, D.obj.injEq, and_assoc, List.map_map, fLc, fCBN, RSortTp, RListDt, fJoin]
  refine is_table_row (gr_row h) (by rw [List.length_map]; omega) ?_
  refine ⟨true, rfl, ?_⟩
  rw [if_neg (by decide)]
  refine ⟨_, _, rfl, fun k hk => ?_, ?_⟩
  · obtain ⟨p, hp, rfl⟩ := List.mem_map.mp hk
    have := (gr_row h p hp).1
    rw [kK, List.length_map, sizeLine_eq]
    omega
  rw [keys_tup]
  refine ⟨srt_tupsT _, ?_⟩
  have e1 := sort_up (ls := (rs.map rI).map fun p : Rw => p.1) u
  rw [e1]
  refine ⟨by rw [List.length_map, List.length_map, List.length_map, sizeLine_eq]; omega, ?_⟩
  have e2 : ((rs.map rI).map (·.1)).map tupI = rs.map fun r => tupI (nI r.1) := by
    rw [List.map_map, List.map_map]
    rfl
  rw [e2]
  refine lc_map (f := fun r : NRw => D.str (LT r)) rs (fun r hr R k => ?_) ?_
  · simp only [fnS, Pu.startB, sSeq, sAsg, sIf, sRet, sNext, sNew, sApp, sPar, sDem, demB, fVar, fVarT, fC, fOp, fTst, fAnd, fOr, fNot, fNew, fLst, fTup, fNil, fCons, fSl, Pu.oAt, oNo, fCB, fCall, fIf, fChain, fRng1, fIt, fJoin, RLen, RI0, RAdd, RSl, RIsN, RTuple, gN, bD, List.map_cons, List.map_nil, List.cons_append, List.nil_append, List.length_cons, List.length_nil, List.replicate, Nat.reduceSub, Nat.reduceAdd, List.getElem?_cons_zero, List.getElem?_cons_succ, List.set_cons_zero, List.set_cons_succ, Option.some.injEq, B.val.injEq, D.int.injEq, D.bl.injEq, D.str.injEq, D.tup.injEq, D.lst.injEq, exists_eq_left', exists_eq_left, exists_and_left, ex_eq, true_and, and_true, List.cons.injEq, List.zip_cons_cons, List.zip_nil_right, List.foldl_cons, List.foldl_nil, wipeB, lenD, itD, Bool.not_true, Bool.not_false, Bool.false_eq_true, Bool.true_eq_false, if_true, if_false, ite_true, ite_false, D.dic.injEq, D.obj.injEq, and_assoc, List.map_map, fFmt, fJs, fGetT]
    have g := h r hr
    have hv := val_key u (rI r) (List.mem_map.mpr ⟨r, hr, rfl⟩)
    obtain ⟨l, s⟩ := r
    obtain ⟨a, b, rfl⟩ : ∃ a b, l = [a, b] := (match l, (show l.length = 2 from g.two) with | [a, b], _ => ⟨a, b, rfl⟩)
    have ha := g.k a (List.mem_cons_self ..)
    have hb := g.k b (List.mem_cons_of_mem _ (List.mem_cons_self ..))
    have la : (Str.ofString (toString (a : Int))).length ≤ 21 := (wd ha).ln
    have lb : (Str.ofString (toString (b : Int))).length ≤ 21 := (wd hb).ln
    have ls := g.s.len
    have ls : (ST s).length ≤ 37 := ls
    have l1 : (Str.ofString " ").length = 1 := rfl
    have l2 : (Str.ofString ": ").length = 2 := rfl
    have l0 : Str.empty.length = 0 := rfl
    have sz := sizeLine_eq
    refine ⟨D.int (a : Int), rfl, .inr ⟨_, rfl, wd_log ha, ?_, ?_, D.int (b : Int), rfl, .inr ⟨_, rfl, wd_log hb, ?_, ?_, _, _, rfl, kK (nI [a, b]), keyTD_tup _, _, hv, ?_⟩⟩⟩
    · rw [Str.length_append]; omega
    · rw [Str.length_append, Str.length_append]; omega
    · rw [Str.length_append, Str.length_append, Str.length_append]; omega
    · rw [Str.length_append, Str.length_append, Str.length_append, Str.length_append]; omega
    have hs := g.s
    refine state_text (show InW s from hs.w) (by have := hs.a.ln; show s.1.length ≤ 100; have this : s.1.length ≤ 4 := this; omega) (by have := hs.n; show s.2.length ≤ 100; have this : s.2.length ≤ 3 := this; omega) (fun j hj => by have := (hs.b j hj).ln; omega) (.inl ⟨_, rfl, by omega, ?_, ?_⟩)
    · rw [Str.length_append, Str.length_append, Str.length_append, Str.length_append, Str.length_append]; omega
    · have e : Str.empty ++ Str.ofString (toString (a : Int)) ++ Str.ofString " " ++ Str.ofString (toString (b : Int)) ++ Str.ofString ": " ++ ST s = LT ([a, b], s) := by
        refine lab_inj ?_
        unfold LT NT
        rw [if_neg (by simp), TL.join_eq]
        have ej : (Str.ofString " ").join (List.map tsN [a, b]) = tsN a ++ Str.ofString " " ++ tsN b := rfl
        have e0 : lab Str.empty = [] := rfl
        rw [ej]
        simp only [lab_app, e0, List.nil_append]
        rfl
      rw [e]
      exact k
  refine ⟨Nat.zero_le _, ?_⟩
  have hmm : (rs.map fun r => D.str (LT r)) = (rs.map LT).map D.str := by rw [List.map_map]; rfl
  rw [hmm]
  have okl : ∀ x ∈ rs.map LT, PyData.strOk x = true := fun x hx => by
    obtain ⟨r, hr, rfl⟩ := List.mem_map.mp hx
    exact LT_ok (h r hr)
  refine ne_ls (a := rs.map LT) (b := []) okl (fun x hx => (List.not_mem_nil hx).elim) ⟨_, rfl, ?_⟩
  unfold TT at q
  by_cases c : rs = []
  · subst c
    exact q
  · rw [if_pos (by simp [c])]
    rw [if_neg c] at q
    refine ⟨_, rfl, _, (by rw [List.map_map]; exact strsD_map LT rs), ?_, q⟩
    have := sum_LT h
    have e2 : (Str.ofString "\n").length = 1 := rfl
    rw [e2, List.length_map]
    omega
end
end K70
set_option Elab.async false
set_option maxRecDepth 100000
set_option maxHeartbeats 1000000
set_option linter.all false
set_option pp.maxSteps 2500
namespace K70
open PySem PySem.Spec PyProof.Rows L2 Ly Pu TM PySem.W
def K5N : List (List Nat) := [[0, 0], [0, 1], [1, 0], [2, 5], [10, 2]]
theorem k5_ok : ∀ k ∈ K5N, (∀ n ∈ k, n ∈ WS) ∧ k.length = 2 ∧ (NT k).length ≤ 4 := by decide +kernel
section
variable {K : PySem.W.Frag} {A : Adr}
def ktB (K : PySem.W.Frag) (A : Adr) : FS := (sSeq (sPutT 4 (fVar 6) (fCall (G_a_state K A) 1 (fCons (fVar 0) fNil)))
      (sApp 5 (fOp RAdd (fOp RAdd (fCall (G_line K A) 1 (fCons (fVar 6) fNil)) (fC (.str ": "))) (fCall (G_state_line K A) 1 (fCons (fGetT (fVarT 4) (fVar 6)) fNil)))))
theorem up_app {rs : List NRw} {k : List Nat} {ks : List (List Nat)} (u : ((rs.map (·.1) ++ k :: ks).map nI).Pairwise (fun a b => ltI a b = true)) : Up (rs.map rI) ∧ ∀ s : NSt, Up ((rs ++ [(k, s)]).map rI) := by
  have e0 : ∀ rs : List NRw, (rs.map rI).map (·.1) = (rs.map (·.1)).map nI := fun rs => by rw [List.map_map, List.map_map]; rfl
  rw [List.map_append] at u
  obtain ⟨u1, u2, u3⟩ := List.pairwise_append.mp u
  refine ⟨by unfold Up; rw [e0]; exact u1, fun s => ?_⟩
  unfold Up
  rw [e0, List.map_append, List.map_append, List.pairwise_append]
  refine ⟨u1, List.pairwise_singleton _ _, fun a ha b hb => ?_⟩
  rw [List.mem_singleton.mp hb]
  exact u3 a ha (nI k) (List.mem_cons_self ..)
theorem kt_loop {v1 v3 : B} {De : EndsD} (hk : ∀ (rs : List NRw) (o2 o6 : B), (∀ r ∈ rs, Gr r) → Up (rs.map rI) → rs.length ≤ 4 → De.nx [.val .dice, v1, o2, v3, tabB (rs.map rI), .lst ((rs.map LT).map .str), o6, .un, .un]) :
    ∀ (ks : List (List Nat)) (rs : List NRw) (o2 o6 : B), (∀ k ∈ ks, k ∈ K5N) → (((rs.map (·.1)) ++ ks).map nI).Pairwise (fun a b => ltI a b = true) → (∀ r ∈ rs, Gr r) → rs.length + ks.length ≤ 4 →
      forD (gN 6) (ktB K A) (ks.map fun k => tupI (nI k)) [.val .dice, v1, o2, v3, tabB (rs.map rI), .lst ((rs.map LT).map .str), o6, .un, .un] De
  | [], rs, o2, o6, _, u, g, hl => hk rs o2 o6 g (by
    rw [List.append_nil, List.map_map] at u
    unfold Up
    rw [List.map_map]
    exact u) (by simpa using hl)
  | k :: ks, rs, o2, o6, hm, u, g, hl => by
    rw [List.length_cons] at hl
    obtain ⟨u1, u2⟩ := up_app u
    obtain ⟨w1, w2, w3⟩ := k5_ok k (hm k (List.mem_cons_self ..))
    show ktB K A [.val .dice, v1, o2, v3, tabB (rs.map rI), .lst ((rs.map LT).map .str), .val (tupI (nI k)), .un, .un] _
    unfold ktB
    simp only [fnS, Pu.startB, sSeq, sAsg, sIf, sRet, sNext, sNew, sApp, sPar, sDem, demB, fVar, fVarT, fC, fOp, fTst, fAnd, fOr, fNot, fNew, fLst, fTup, fNil, fCons, fSl, Pu.oAt, oNo, fCB, fCall, fIf, fChain, fRng1, fIt, fJoin, RLen, RI0, RAdd, RSl, RIsN, RTuple, gN, bD, List.map_cons, List.map_nil, List.cons_append, List.nil_append, List.length_cons, List.length_nil, List.replicate, Nat.reduceSub, Nat.reduceAdd, List.getElem?_cons_zero, List.getElem?_cons_succ, List.set_cons_zero, List.set_cons_succ, Option.some.injEq, B.val.injEq, D.int.injEq, D.bl.injEq, D.str.injEq, D.tup.injEq, D.lst.injEq, exists_eq_left', exists_eq_left, exists_and_left, ex_eq, true_and, and_true, List.cons.injEq, List.zip_cons_cons, List.zip_nil_right, List.foldl_cons, List.foldl_nil, wipeB, lenD, itD, Bool.not_true, Bool.not_false, Bool.false_eq_true, Bool.true_eq_false, if_true, if_false, ite_true, ite_false, D.dic.injEq, D.obj.injEq, and_assoc, List.map_map, sPutT, fGetT]
    refine a_state fun s hs => ?_
    have hg : Gr (k, s) := ⟨w1, w2, w3, hs⟩
    have u3 := u2 s
    have hne : ∀ q ∈ rs.map rI, q.1 ≠ (rI (k, s)).1 := fun q hq e => by
      unfold Up at u3
      rw [List.map_append, List.map_append, List.pairwise_append] at u3
      have := u3.2.2 q.1 (List.mem_map.mpr ⟨q, hq, rfl⟩) (rI (k, s)).1 (List.mem_singleton.mpr rfl)
      rw [e, ltI_irrefl] at this
      cases this
    obtain ⟨e1, e2⟩ := put_new hne
    refine ⟨_, _, rfl, kK (nI k), keyTD_tup (nI k), by rw [List.length_map, List.length_map, sizeLine_eq]; omega, ?_⟩
    have e1 : putKst ((rs.map rI).map fun p => kK p.1) (kK (nI k)) = _ := e1
    have e2 : putDst ((rs.map rI).map fun p => kK p.1) ((rs.map rI).map fun p => stD p.2) (kK (nI k)) (stD (sI s)) = _ := e2
    rw [e1, e2]
    have e3 : rs.map rI ++ [rI (k, s)] = (rs ++ [(k, s)]).map rI := by rw [List.map_append]; rfl
    rw [e3]
    refine ⟨_, rfl, line w1 (by omega) ?_⟩
    have l1 := (Ds.len hs)
    have e4 : (": " : Str).length = 2 := rfl
    refine ⟨by rw [sizeLine_eq]; omega, _, _, rfl, kK (nI k), keyTD_tup (nI k), _, val_key u3 (rI (k, s)) (by rw [← e3]; exact List.mem_append_right _ (List.mem_singleton.mpr rfl)), ?_⟩
    refine state_line hs.w (by have := hs.a.ln; omega) (by have := hs.n; omega) (fun j hj => by have := (hs.b j hj).ln; omega) ?_
    refine ⟨by rw [Str.length_append, sizeLine_eq]; omega, by rw [List.length_map, sizeLine_eq]; omega, ?_⟩
    have ih := kt_loop hk ks (rs ++ [(k, s)]) o2 (.val (tupI (nI k))) (fun j hj => hm j (List.mem_cons_of_mem _ hj)) (by
      have e : (rs ++ [(k, s)]).map (fun x : NRw => x.1) ++ ks = rs.map (fun x : NRw => x.1) ++ k :: ks := by
        rw [List.map_append, List.append_assoc]
        rfl
      rw [e]
      exact u) (fun r hr => by
      rcases List.mem_append.mp hr with hr | hr
      · exact g r hr
      · rw [List.mem_singleton.mp hr]; exact hg) (by rw [List.length_append, List.length_singleton]; omega)
    have e5 : ((rs ++ [(k, s)]).map LT).map D.str = rs.map (D.str ∘ LT) ++ [D.str (NT k ++ ": " ++ ST s)] := by
      rw [List.map_append, List.map_append, List.map_map]
      rfl
    rw [e5] at ih
    exact ih
end
end K70
set_option Elab.async false
set_option maxRecDepth 100000
set_option maxHeartbeats 1000000
set_option linter.all false
set_option pp.maxSteps 2500
namespace K70
open PySem PySem.Spec PyProof.Rows L2 Ly Pu TM PySem.W
def rA (K : PySem.W.Frag) (A : Adr) : FS := (sAsg 1 (fCB RTuple (fCons (fNew (fLc (fRng1 (fCons (fCall (G_roll K A) 2 (fCons (fVar 0) (fCons (fC (.int 4)) fNil))) fNil)) (gN 2) fYes (fCall (G_pick K A) 2 (fCons (fVar 0) (fCons (fNew (fLst (fCons (fC (.int 0)) (fCons (fC (.int 0)) (fCons (fC (.int 1)) (fCons (fC (.int 5)) (fCons (fOp RPow (fC (.int 10)) (fC (.int 20))) fNil))))))) fNil))) [2])) fNil)))
def rB (K : PySem.W.Frag) (A : Adr) : FS := (sPar3T 3 4 5 (fCall (G_a_state K A) 1 (fCons (fVar 0) fNil)))
def rD (K : PySem.W.Frag) (A : Adr) : FS := (sAsg 7 (fNew (fLst (fCons (fCall (G_line K A) 1 (fCons (fVar 1) fNil)) (fCons (fCall (G_state_line K A) 1 (fCons (fVar 3) fNil)) (fCons (fIf (fTst (fOp RNe (fVarT 5) (fNew (fLst fNil)))) (fJoin (fC (.str "\n")) (fVarT 5)) (fC (.str "none"))) fNil))))))
def rE (K : PySem.W.Frag) (A : Adr) : FS := (sDemT 4 (sIf (fTst (fOp RNe (fNew (fLst (fCons (fCall (G_write_numbers K A) 1 (fCons (fVar 1) fNil)) (fCons (fCall (G_write_state K A) 1 (fCons (fVar 3) fNil)) (fCons (fCall (G_write_table K A) 1 (fCons (fVar 4) fNil)) fNil))))) (fVarT 7))) (sRet (fC (.bl false))) sNext))
def rF (K : PySem.W.Frag) (A : Adr) : FS := (sDemT 4 (sIf (fTst (fOp RNe (fCB RReprXA (fCons (fNew (fLst (fCons (fCall (G_read_numbers K A) 1 (fCons (fOp RIx (fVarT 7) (fC (.int 0))) fNil)) (fCons (fCall (G_read_state K A) 1 (fCons (fOp RIx (fVarT 7) (fC (.int 1))) fNil)) (fCons (fCall (G_read_table K A) 1 (fCons (fOp RIx (fVarT 7) (fC (.int 2))) fNil)) fNil))))) fNil)) (fCB RReprXA (fCons (fNew (fLst (fCons (fVar 1) (fCons (fVar 3) (fCons (fVar 4) fNil))))) fNil)))) (sRet (fC (.bl false))) sNext))
def rG (K : PySem.W.Frag) (A : Adr) : FS := (sFor (fRng1 (fCons (fC (.int 6)) fNil)) (gN 2) (sIf (fNot (fTst (fCall (G_strings_right K A) 3 (fCons (fCall (G_bent K A) 2 (fCons (fVar 0) (fCons (fOp RIx (fVarT 7) (fC (.int 0))) fNil))) (fCons (fCall (G_bent K A) 2 (fCons (fVar 0) (fCons (fOp RIx (fVarT 7) (fC (.int 1))) fNil))) (fCons (fCall (G_bent K A) 2 (fCons (fVar 0) (fCons (fOp RIx (fVarT 7) (fC (.int 2))) fNil))) fNil)))))) (sRet (fC (.bl false))) sNext))
def rH (K : PySem.W.Frag) (A : Adr) : FS := (sRet (fOp REq (fNew (fLc (fIt (fNew (fLst (fCons (fC (.str "")) (fCons (fC (.str "-")) (fCons (fC (.str "none")) (fCons (fC (.str "- | none")) (fCons (fC (.str "0 0: - | -")) fNil)))))))) (gN 8) (fNot (fTst (fCall (G_strings_right K A) 3 (fCons (fVar 8) (fCons (fVar 8) (fCons (fVar 8) fNil)))))) (fVar 8) [8])) (fNew (fLst fNil))))
def rC (K : PySem.W.Frag) (A : Adr) : FS := sFor (fIt (fNew (fCBN RSortTp (fCons (fCall (G_some K A) 3 (fCons (fVar 0) (fCons (fNew (fLst (fCons (fTup (fCons (fC (.int 0)) (fCons (fC (.int 0)) fNil))) (fCons (fTup (fCons (fC (.int 0)) (fCons (fC (.int 1)) fNil))) (fCons (fTup (fCons (fC (.int 1)) (fCons (fC (.int 0)) fNil))) (fCons (fTup (fCons (fC (.int 2)) (fCons (fC (.int 5)) fNil))) (fCons (fTup (fCons (fC (.int 10)) (fCons (fC (.int 2)) fNil))) fNil))))))) (fCons (fCall (G_roll K A) 2 (fCons (fVar 0) (fCons (fC (.int 5)) fNil))) fNil)))) fNil)))) (gN 6) (ktB K A)
section
variable {K : PySem.W.Frag} {A : Adr}
theorem right_eq : S_right K A = sSeq (rA K A) (sSeq (rB K A) (sSeq (rC K A) (sSeq (rD K A) (sSeq (rE K A) (sSeq (rF K A) (sSeq (rG K A) (rH K A))))))) := rfl
theorem lc_none {j : Nat} {T : FT} {F : FE} {ρ : Pu.Env} : ∀ (l : List D) {Q : List D → Prop}, (∀ d ∈ l, ∀ R : Bool → Prop, R false → T (ρ.set j (.val d)) R F0) → Q [] → lcD (gN j) T F ρ l Q
  | [], Q, _, q => q
  | a :: l, Q, ht, q => by
    show T (ρ.set j (.val a)) (fun b => if b = true then F (ρ.set j (.val a)) (fun y => lcD (gN j) T F ρ l fun ys => Q (y :: ys)) F0 else lcD (gN j) T F ρ l Q) F0
    refine ht a (List.mem_cons_self ..) _ ?_
    rw [if_neg (by simp)]
    exact lc_none l (fun d hd => ht d (List.mem_cons_of_mem _ hd)) q
def z5 : List Str := ["", "-", "none", "- | none", "0 0: - | -"]
theorem z5_ok : ∀ z ∈ z5, z.length ≤ 180 ∧ PyData.strOk z = true := by decide +kernel
theorem rH_ok (EC : EK K A) {v1 o2 v3 v4 v5 o6 v7 o8 : B} {De : EndsD} (q : De.rt (.bl true)) : rH K A [.val .dice, v1, o2, v3, v4, v5, o6, v7, o8] De := by
  unfold rH
  simp only [fnS, Pu.startB, sSeq, sAsg, sIf, sRet, sNext, sNew, sApp, sPar, sDem, demB, fVar, fVarT, fC, fOp, fTst, fAnd, fOr, fNot, fNew, fLst, fTup, fNil, fCons, fSl, Pu.oAt, oNo, fCB, fCall, fIf, fChain, fRng1, fIt, fJoin, RLen, RI0, RAdd, RSl, RIsN, RTuple, gN, bD, List.map_cons, List.map_nil, List.cons_append, List.nil_append, List.length_cons, List.length_nil, List.replicate, Nat.reduceSub, Nat.reduceAdd, List.getElem?_cons_zero, List.getElem?_cons_succ, List.set_cons_zero, List.set_cons_succ, Option.some.injEq, B.val.injEq, D.int.injEq, D.bl.injEq, D.str.injEq, D.tup.injEq, D.lst.injEq, exists_eq_left', exists_eq_left, exists_and_left, ex_eq, true_and, and_true, List.cons.injEq, List.zip_cons_cons, List.zip_nil_right, List.foldl_cons, List.foldl_nil, wipeB, lenD, itD, Bool.not_true, Bool.not_false, Bool.false_eq_true, Bool.true_eq_false, if_true, if_false, ite_true, ite_false, D.dic.injEq, D.obj.injEq, and_assoc, List.map_map, fLc]
  refine ⟨by rw [sizeLine_eq]; decide, by rw [sizeLine_eq]; decide, ?_⟩
  refine lc_none _ (fun d hd R r => ?_) ?_
  · obtain ⟨z, hz, rfl⟩ := List.mem_map.mp (show d ∈ z5.map D.str from hd)
    obtain ⟨h1, h2⟩ := z5_ok z hz
    simp only [fnS, Pu.startB, sSeq, sAsg, sIf, sRet, sNext, sNew, sApp, sPar, sDem, demB, fVar, fVarT, fC, fOp, fTst, fAnd, fOr, fNot, fNew, fLst, fTup, fNil, fCons, fSl, Pu.oAt, oNo, fCB, fCall, fIf, fChain, fRng1, fIt, fJoin, RLen, RI0, RAdd, RSl, RIsN, RTuple, gN, bD, List.map_cons, List.map_nil, List.cons_append, List.nil_append, List.length_cons, List.length_nil, List.replicate, Nat.reduceSub, Nat.reduceAdd, List.getElem?_cons_zero, List.getElem?_cons_succ, List.set_cons_zero, List.set_cons_succ, Option.some.injEq, B.val.injEq, D.int.injEq, D.bl.injEq, D.str.injEq, D.tup.injEq, D.lst.injEq, exists_eq_left', exists_eq_left, exists_and_left, ex_eq, true_and, and_true, List.cons.injEq, List.zip_cons_cons, List.zip_nil_right, List.foldl_cons, List.foldl_nil, wipeB, lenD, itD, Bool.not_true, Bool.not_false, Bool.false_eq_true, Bool.true_eq_false, if_true, if_false, ite_true, ite_false, D.dic.injEq, D.obj.injEq, and_assoc, List.map_map]
    exact strings_right EC h1 h2 h1 h2 h1 h2 ⟨true, rfl, r⟩
  · exact ⟨Nat.zero_le _, eq_ints (a := []) (b := []) q⟩
theorem rG_ok (EC : EK K A) {v1 o2 v3 v4 v5 o6 o8 : B} {a b c : Str} (ha : a.length ≤ 176) (oa : PyData.strOk a = true) (hb : b.length ≤ 176) (ob : PyData.strOk b = true) (hc : c.length ≤ 176) (oc : PyData.strOk c = true)
    {De : EndsD} (k : ∀ o2, De.nx [.val .dice, v1, o2, v3, v4, v5, o6, .val (.lst [.str a, .str b, .str c]), o8]) : rG K A [.val .dice, v1, o2, v3, v4, v5, o6, .val (.lst [.str a, .str b, .str c]), o8] De := by
  unfold rG
  simp only [fnS, Pu.startB, sSeq, sAsg, sIf, sRet, sNext, sNew, sApp, sPar, sDem, demB, fVar, fVarT, fC, fOp, fTst, fAnd, fOr, fNot, fNew, fLst, fTup, fNil, fCons, fSl, Pu.oAt, oNo, fCB, fCall, fIf, fChain, fRng1, fIt, fJoin, RLen, RI0, RAdd, RSl, RIsN, RTuple, gN, bD, List.map_cons, List.map_nil, List.cons_append, List.nil_append, List.length_cons, List.length_nil, List.replicate, Nat.reduceSub, Nat.reduceAdd, List.getElem?_cons_zero, List.getElem?_cons_succ, List.set_cons_zero, List.set_cons_succ, Option.some.injEq, B.val.injEq, D.int.injEq, D.bl.injEq, D.str.injEq, D.tup.injEq, D.lst.injEq, exists_eq_left', exists_eq_left, exists_and_left, ex_eq, true_and, and_true, List.cons.injEq, List.zip_cons_cons, List.zip_nil_right, List.foldl_cons, List.foldl_nil, wipeB, lenD, itD, Bool.not_true, Bool.not_false, Bool.false_eq_true, Bool.true_eq_false, if_true, if_false, ite_true, ite_false, D.dic.injEq, D.obj.injEq, and_assoc, List.map_map, sFor]
  refine ⟨by decide, by decide, ?_⟩
  refine for_keepM (fun ρ => ∃ o2, ρ = [.val .dice, v1, o2, v3, v4, v5, o6, .val (.lst [.str a, .str b, .str c]), o8]) _ (fun d ρ D' hd hI hn _ _ => ?_) (fun ρ hI => ?_) _ _ (fun d hd => hd) ⟨_, rfl⟩
  · obtain ⟨w, rfl⟩ := hI
    simp only [fnS, Pu.startB, sSeq, sAsg, sIf, sRet, sNext, sNew, sApp, sPar, sDem, demB, fVar, fVarT, fC, fOp, fTst, fAnd, fOr, fNot, fNew, fLst, fTup, fNil, fCons, fSl, Pu.oAt, oNo, fCB, fCall, fIf, fChain, fRng1, fIt, fJoin, RLen, RI0, RAdd, RSl, RIsN, RTuple, gN, bD, List.map_cons, List.map_nil, List.cons_append, List.nil_append, List.length_cons, List.length_nil, List.replicate, Nat.reduceSub, Nat.reduceAdd, List.getElem?_cons_zero, List.getElem?_cons_succ, List.set_cons_zero, List.set_cons_succ, Option.some.injEq, B.val.injEq, D.int.injEq, D.bl.injEq, D.str.injEq, D.tup.injEq, D.lst.injEq, exists_eq_left', exists_eq_left, exists_and_left, ex_eq, true_and, and_true, List.cons.injEq, List.zip_cons_cons, List.zip_nil_right, List.foldl_cons, List.foldl_nil, wipeB, lenD, itD, Bool.not_true, Bool.not_false, Bool.false_eq_true, Bool.true_eq_false, if_true, if_false, ite_true, ite_false, D.dic.injEq, D.obj.injEq, and_assoc, List.map_map]
    refine ⟨_, at0, ?_⟩
    refine bent ha oa fun a' ha' oa' => ?_
    refine ⟨_, at1, ?_⟩
    refine bent hb ob fun b' hb' ob' => ?_
    refine ⟨_, rfl, ?_⟩
    refine bent hc oc fun c' hc' oc' => ?_
    refine strings_right EC ha' oa' hb' ob' hc' oc' ⟨true, rfl, ?_⟩
    exact hn _ ⟨_, rfl⟩
  · obtain ⟨w, rfl⟩ := hI
    exact k w
theorem Ds.wt {s : NSt} (h : Ds s) : wSt (sI s) ≤ 3300 := by
  have key : ∀ ks : List (List Nat), (∀ k ∈ ks, Rs 3 k) → cnt (ks.map nI) ≤ 4 * ks.length := by
    intro ks
    induction ks with
    | nil => exact fun _ => Nat.le_refl _
    | cons k ks ih =>
      intro h
      have ih := ih fun j hj => h j (List.mem_cons_of_mem _ hj)
      have := (h k (List.mem_cons_self ..)).ln
      have e : cnt ((k :: ks).map nI) = k.length + 1 + cnt (ks.map nI) := by
        show ((nI k).length :: (ks.map nI).map (·.length)).sum + ((ks.map nI).length + 1) = _
        rw [List.sum_cons]
        unfold cnt nI
        rw [List.length_map (as := k)]
        omega
      rw [e, List.length_cons]
      omega
  have h1 := key s.2 h.b
  have h2 := h.a.ln
  have h3 := h.n
  have e : (nI s.1).length = s.1.length := List.length_map ..
  unfold wSt
  show 201 * ((nI s.1).length + cnt (s.2.map nI)) + 2 ≤ _
  omega
theorem wRw_len : ∀ {rs : List NRw}, (∀ r ∈ rs, Gr r) → wRw (rs.map rI) ≤ 4000 * rs.length
  | [], _ => Nat.le_refl _
  | r :: rs, h => by
    have ih := wRw_len (rs := rs) fun j hj => h j (List.mem_cons_of_mem _ hj)
    have g := h r (List.mem_cons_self ..)
    have h1 := g.s.wt
    have h2 := g.two
    have e : (nI r.1).length = r.1.length := List.length_map ..
    show 201 * (nI r.1).length + wSt (sI r.2) + 2 + wRw (rs.map rI) ≤ 4000 * (rs.length + 1)
    omega
structure Wh (ns : List Nat) (s : NSt) (rs : List NRw) : Prop where
  n : ∀ n ∈ ns, n ∈ WS
  l : ns.length ≤ 3
  s : Ds s
  r : ∀ r ∈ rs, Gr r
  u : Up (rs.map rI)
  z : rs.length ≤ 4
theorem Wh.len {ns : List Nat} {s : NSt} {rs : List NRw} (h : Wh ns s rs) : (NT ns).length ≤ 176 := by
  have := NT_len h.n
  have := h.l
  omega
def du (ns : List Nat) (s : NSt) (rs : List NRw) : List D := [.str (NT ns), .str (ST s), .str (TT rs)]
theorem wh_fn {ns : List Nat} {s : NSt} {rs : List NRw} (h : Wh ns s rs) : ∀ d ∈ [tupI (nI ns), stD (sI s), tabD (rs.map rI)], Fn1 d := by
  intro d hd
  simp only [List.mem_cons, List.not_mem_nil, or_false] at hd
  rcases hd with rfl | rfl | rfl
  · exact fn_tup (ws_sm h.n) (by rw [nI, List.length_map]; have := h.l; omega)
  · exact fn_st h.s.sms (by have := h.s.wt; omega)
  · refine fn_tab (fun r hr => ?_) ?_
    · obtain ⟨n, hn, rfl⟩ := List.mem_map.mp hr
      exact ⟨ws_sm (h.r n hn).k, (h.r n hn).s.sms⟩
    · have := wRw_len h.r
      have := h.z
      omega
theorem rF_ok {ns : List Nat} {s : NSt} {rs : List NRw} (h : Wh ns s rs) {o2 v5 o6 o8 : B} {De : EndsD} (k : De.nx [.val .dice, .val (tupI (nI ns)), o2, .val (stD (sI s)), .val (tabD (rs.map rI)), v5, o6, .val (.lst (du ns s rs)), o8]) :
    rF K A [.val .dice, .val (tupI (nI ns)), o2, .val (stD (sI s)), .val (tabD (rs.map rI)), v5, o6, .val (.lst (du ns s rs)), o8] De := by
  unfold rF sDemT
  show sIf _ _ _ [.val .dice, .val (tupI (nI ns)), o2, .val (stD (sI s)), .val (tabD (rs.map rI)), v5, o6, .val (.lst (du ns s rs)), o8] De
  unfold du at k ⊢
  simp only [fnS, Pu.startB, sSeq, sAsg, sIf, sRet, sNext, sNew, sApp, sPar, sDem, demB, fVar, fVarT, fC, fOp, fTst, fAnd, fOr, fNot, fNew, fLst, fTup, fNil, fCons, fSl, Pu.oAt, oNo, fCB, fCall, fIf, fChain, fRng1, fIt, fJoin, RLen, RI0, RAdd, RSl, RIsN, RTuple, gN, bD, List.map_cons, List.map_nil, List.cons_append, List.nil_append, List.length_cons, List.length_nil, List.replicate, Nat.reduceSub, Nat.reduceAdd, List.getElem?_cons_zero, List.getElem?_cons_succ, List.set_cons_zero, List.set_cons_succ, Option.some.injEq, B.val.injEq, D.int.injEq, D.bl.injEq, D.str.injEq, D.tup.injEq, D.lst.injEq, exists_eq_left', exists_eq_left, exists_and_left, ex_eq, true_and, and_true, List.cons.injEq, List.zip_cons_cons, List.zip_nil_right, List.foldl_cons, List.foldl_nil, wipeB, lenD, itD, Bool.not_true, Bool.not_false, Bool.false_eq_true, Bool.true_eq_false, if_true, if_false, ite_true, ite_false, D.dic.injEq, D.obj.injEq, and_assoc, List.map_map]
  refine ⟨_, at0, ?_⟩
  refine read_numbers (by have := h.len; omega) ?_
  rw [NT_back h.n]
  refine ⟨_, at1, ?_⟩
  refine read_state (by have := h.s.len; omega) ?_
  rw [ST_back h.s.w h.s.ok]
  refine ⟨_, rfl, ?_⟩
  refine read_table (by have := TT_len h.r h.z; omega) ?_
  rw [TT_back (fun r hr => (h.r r hr).ok) h.u]
  refine ⟨by rw [sizeLine_eq]; decide, ?_⟩
  refine x_repr (by simp) (wh_fn h) (show 3 ≤ 3 by decide) ?_
  refine ⟨by rw [sizeLine_eq]; decide, ?_⟩
  refine x_repr (by simp) (wh_fn h) (show 3 ≤ 3 by decide) ?_
  rw [ne_str, decide_eq_true rfl]
  exact ⟨_, rfl, k⟩
theorem rE_ok {ns : List Nat} {s : NSt} {rs : List NRw} (h : Wh ns s rs) {o2 v5 o6 o8 : B} {De : EndsD} (k : De.nx [.val .dice, .val (tupI (nI ns)), o2, .val (stD (sI s)), .val (tabD (rs.map rI)), v5, o6, .val (.lst (du ns s rs)), o8]) :
    rE K A [.val .dice, .val (tupI (nI ns)), o2, .val (stD (sI s)), tabB (rs.map rI), v5, o6, .val (.lst (du ns s rs)), o8] De := by
  unfold rE sDemT
  show sIf _ _ _ [.val .dice, .val (tupI (nI ns)), o2, .val (stD (sI s)), .val (tabD (rs.map rI)), v5, o6, .val (.lst (du ns s rs)), o8] De
  simp only [fnS, Pu.startB, sSeq, sAsg, sIf, sRet, sNext, sNew, sApp, sPar, sDem, demB, fVar, fVarT, fC, fOp, fTst, fAnd, fOr, fNot, fNew, fLst, fTup, fNil, fCons, fSl, Pu.oAt, oNo, fCB, fCall, fIf, fChain, fRng1, fIt, fJoin, RLen, RI0, RAdd, RSl, RIsN, RTuple, gN, bD, List.map_cons, List.map_nil, List.cons_append, List.nil_append, List.length_cons, List.length_nil, List.replicate, Nat.reduceSub, Nat.reduceAdd, List.getElem?_cons_zero, List.getElem?_cons_succ, List.set_cons_zero, List.set_cons_succ, Option.some.injEq, B.val.injEq, D.int.injEq, D.bl.injEq, D.str.injEq, D.tup.injEq, D.lst.injEq, exists_eq_left', exists_eq_left, exists_and_left, ex_eq, true_and, and_true, List.cons.injEq, List.zip_cons_cons, List.zip_nil_right, List.foldl_cons, List.foldl_nil, wipeB, lenD, itD, Bool.not_true, Bool.not_false, Bool.false_eq_true, Bool.true_eq_false, if_true, if_false, ite_true, ite_false, D.dic.injEq, D.obj.injEq, and_assoc, List.map_map]
  refine write_numbers h.n (by have := h.l; omega) ?_
  refine write_state h.s.w h.s.ok (by have := h.s.a.ln; omega) (by have := h.s.n; omega) (fun j hj => by have := (h.s.b j hj).ln; omega) ?_
  refine write_table h.r h.u h.z ?_
  refine ⟨by rw [sizeLine_eq]; decide, ?_⟩
  have ok : ∀ x ∈ [NT ns, ST s, TT rs], PyData.strOk x = true := fun x hx => by
    simp only [List.mem_cons, List.not_mem_nil, or_false] at hx
    rcases hx with rfl | rfl | rfl
    · exact NT_ok h.n
    · exact ST_ok h.s.w
    · exact TT_ok h.r
  refine ne_ls (a := [NT ns, ST s, TT rs]) (b := [NT ns, ST s, TT rs]) ok ok ⟨_, rfl, ?_⟩
  rw [decide_eq_true rfl]
  exact k
theorem rD_ok {ns : List Nat} {s : NSt} {rs : List NRw} (h : Wh ns s rs) {o2 o6 o7 o8 : B} {De : EndsD} (k : De.nx [.val .dice, .val (tupI (nI ns)), o2, .val (stD (sI s)), tabB (rs.map rI), .lst ((rs.map LT).map .str), o6, .val (.lst (du ns s rs)), o8]) :
    rD K A [.val .dice, .val (tupI (nI ns)), o2, .val (stD (sI s)), tabB (rs.map rI), .lst ((rs.map LT).map .str), o6, o7, o8] De := by
  unfold rD
  simp only [fnS, Pu.startB, sSeq, sAsg, sIf, sRet, sNext, sNew, sApp, sPar, sDem, demB, fVar, fVarT, fC, fOp, fTst, fAnd, fOr, fNot, fNew, fLst, fTup, fNil, fCons, fSl, Pu.oAt, oNo, fCB, fCall, fIf, fChain, fRng1, fIt, fJoin, RLen, RI0, RAdd, RSl, RIsN, RTuple, gN, bD, List.map_cons, List.map_nil, List.cons_append, List.nil_append, List.length_cons, List.length_nil, List.replicate, Nat.reduceSub, Nat.reduceAdd, List.getElem?_cons_zero, List.getElem?_cons_succ, List.set_cons_zero, List.set_cons_succ, Option.some.injEq, B.val.injEq, D.int.injEq, D.bl.injEq, D.str.injEq, D.tup.injEq, D.lst.injEq, exists_eq_left', exists_eq_left, exists_and_left, ex_eq, true_and, and_true, List.cons.injEq, List.zip_cons_cons, List.zip_nil_right, List.foldl_cons, List.foldl_nil, wipeB, lenD, itD, Bool.not_true, Bool.not_false, Bool.false_eq_true, Bool.true_eq_false, if_true, if_false, ite_true, ite_false, D.dic.injEq, D.obj.injEq, and_assoc, List.map_map, fJoin]
  refine line h.n (by have := h.l; omega) ?_
  refine state_line h.s.w (by have := h.s.a.ln; omega) (by have := h.s.n; omega) (fun j hj => by have := (h.s.b j hj).ln; omega) ?_
  have hmm : (rs.map (D.str ∘ LT)) = (rs.map LT).map D.str := by rw [List.map_map]
  rw [hmm]
  have okl : ∀ x ∈ rs.map LT, PyData.strOk x = true := fun x hx => by
    obtain ⟨r, hr, rfl⟩ := List.mem_map.mp hx
    exact LT_ok (h.r r hr)
  refine ⟨Nat.zero_le _, ne_ls (a := rs.map LT) (b := []) okl (fun x hx => (List.not_mem_nil hx).elim) ⟨_, rfl, ?_⟩⟩
  unfold du TT at k
  by_cases c : rs = []
  · subst c
    exact ⟨by rw [sizeLine_eq]; decide, k⟩
  · rw [if_pos (by simp [c])]
    rw [if_neg c] at k
    refine ⟨_, rfl, _, (by rw [List.map_map]; exact strsD_map LT rs), ?_, by rw [sizeLine_eq]; decide, k⟩
    have := sum_LT h.r
    have := h.z
    have e2 : (Str.ofString "\n").length = 1 := rfl
    rw [e2, List.length_map]
    omega
theorem right (EC : EK K A) {Q : D → Prop} {Z : ZX} (q : Q (.bl true)) : G_right K A [.dice] Q Z := by
  unfold G_right
  rw [right_eq]
  show sSeq (rA K A) _ [.val .dice, .un, .un, .un, .un, .un, .un, .un, .un] _
  unfold rA
  simp only [fnS, Pu.startB, sSeq, sAsg, sIf, sRet, sNext, sNew, sApp, sPar, sDem, demB, fVar, fVarT, fC, fOp, fTst, fAnd, fOr, fNot, fNew, fLst, fTup, fNil, fCons, fSl, Pu.oAt, oNo, fCB, fCall, fIf, fChain, fRng1, fIt, fJoin, RLen, RI0, RAdd, RSl, RIsN, RTuple, gN, bD, List.map_cons, List.map_nil, List.cons_append, List.nil_append, List.length_cons, List.length_nil, List.replicate, Nat.reduceSub, Nat.reduceAdd, List.getElem?_cons_zero, List.getElem?_cons_succ, List.set_cons_zero, List.set_cons_succ, Option.some.injEq, B.val.injEq, D.int.injEq, D.bl.injEq, D.str.injEq, D.tup.injEq, D.lst.injEq, exists_eq_left', exists_eq_left, exists_and_left, ex_eq, true_and, and_true, List.cons.injEq, List.zip_cons_cons, List.zip_nil_right, List.foldl_cons, List.foldl_nil, wipeB, lenD, itD, Bool.not_true, Bool.not_false, Bool.false_eq_true, Bool.true_eq_false, if_true, if_false, ite_true, ite_false, D.dic.injEq, D.obj.injEq, and_assoc, List.map_map, fLc, G_roll, G_pick]
  refine ⟨_, rfl, by omega, by omega, fun r h1 h2 => ?_⟩
  have hz : (rngD 0 1 r.toNat).length = r.toNat := by
    unfold rngD
    rw [List.length_map, List.length_range]
  refine ⟨_, rfl, by omega, by omega, by rw [hz, sizeLine_eq]; omega, ?_⟩
  refine lc_rel (P := fun d => ∃ n, n ∈ WS ∧ d = .int (n : Int)) _ (fun d hd R k => ?_) fun ds hl hp => ?_
  · simp only [fnS, Pu.startB, sSeq, sAsg, sIf, sRet, sNext, sNew, sApp, sPar, sDem, demB, fVar, fVarT, fC, fOp, fTst, fAnd, fOr, fNot, fNew, fLst, fTup, fNil, fCons, fSl, Pu.oAt, oNo, fCB, fCall, fIf, fChain, fRng1, fIt, fJoin, RLen, RI0, RAdd, RSl, RIsN, RTuple, gN, bD, List.map_cons, List.map_nil, List.cons_append, List.nil_append, List.length_cons, List.length_nil, List.replicate, Nat.reduceSub, Nat.reduceAdd, List.getElem?_cons_zero, List.getElem?_cons_succ, List.set_cons_zero, List.set_cons_succ, Option.some.injEq, B.val.injEq, D.int.injEq, D.bl.injEq, D.str.injEq, D.tup.injEq, D.lst.injEq, exists_eq_left', exists_eq_left, exists_and_left, ex_eq, true_and, and_true, List.cons.injEq, List.zip_cons_cons, List.zip_nil_right, List.foldl_cons, List.foldl_nil, wipeB, lenD, itD, Bool.not_true, Bool.not_false, Bool.false_eq_true, Bool.true_eq_false, if_true, if_false, ite_true, ite_false, D.dic.injEq, D.obj.injEq, and_assoc, List.map_map]
    refine ⟨10, 20, rfl, rfl, ⟨by decide, by decide +kernel⟩, by rw [sizeLine_eq]; decide, _, rfl, by decide, by decide, fun x hx => ?_⟩
    simp only [List.mem_cons, List.not_mem_nil, or_false] at hx
    rcases hx with rfl | rfl | rfl | rfl | rfl
    · exact k _ ⟨0, by decide, rfl⟩
    · exact k _ ⟨0, by decide, rfl⟩
    · exact k _ ⟨1, by decide, rfl⟩
    · exact k _ ⟨5, by decide, rfl⟩
    · exact k _ ⟨100000000000000000000, by decide, congrArg D.int (by decide +kernel)⟩
  obtain ⟨ns, e2, e3⟩ := allf (f := fun n : Nat => D.int (n : Int)) (P := fun n => n ∈ WS) hp
  subst e3
  rw [List.length_map, hz] at hl
  refine ⟨_, rfl, ?_⟩
  have et : D.tup (ns.map fun n : Nat => D.int (n : Int)) = tupI (nI ns) := by
    rw [← nI_D]
    rfl
  rw [et]
  unfold rB
  simp only [fnS, Pu.startB, sSeq, sAsg, sIf, sRet, sNext, sNew, sApp, sPar, sDem, demB, fVar, fVarT, fC, fOp, fTst, fAnd, fOr, fNot, fNew, fLst, fTup, fNil, fCons, fSl, Pu.oAt, oNo, fCB, fCall, fIf, fChain, fRng1, fIt, fJoin, RLen, RI0, RAdd, RSl, RIsN, RTuple, gN, bD, List.map_cons, List.map_nil, List.cons_append, List.nil_append, List.length_cons, List.length_nil, List.replicate, Nat.reduceSub, Nat.reduceAdd, List.getElem?_cons_zero, List.getElem?_cons_succ, List.set_cons_zero, List.set_cons_succ, Option.some.injEq, B.val.injEq, D.int.injEq, D.bl.injEq, D.str.injEq, D.tup.injEq, D.lst.injEq, exists_eq_left', exists_eq_left, exists_and_left, ex_eq, true_and, and_true, List.cons.injEq, List.zip_cons_cons, List.zip_nil_right, List.foldl_cons, List.foldl_nil, wipeB, lenD, itD, Bool.not_true, Bool.not_false, Bool.false_eq_true, Bool.true_eq_false, if_true, if_false, ite_true, ite_false, D.dic.injEq, D.obj.injEq, and_assoc, List.map_map, sPar3T]
  refine a_state fun s hs => ?_
  unfold rC
  simp only [fnS, Pu.startB, sSeq, sAsg, sIf, sRet, sNext, sNew, sApp, sPar, sDem, demB, fVar, fVarT, fC, fOp, fTst, fAnd, fOr, fNot, fNew, fLst, fTup, fNil, fCons, fSl, Pu.oAt, oNo, fCB, fCall, fIf, fChain, fRng1, fIt, fJoin, RLen, RI0, RAdd, RSl, RIsN, RTuple, gN, bD, List.map_cons, List.map_nil, List.cons_append, List.nil_append, List.length_cons, List.length_nil, List.replicate, Nat.reduceSub, Nat.reduceAdd, List.getElem?_cons_zero, List.getElem?_cons_succ, List.set_cons_zero, List.set_cons_succ, Option.some.injEq, B.val.injEq, D.int.injEq, D.bl.injEq, D.str.injEq, D.tup.injEq, D.lst.injEq, exists_eq_left', exists_eq_left, exists_and_left, ex_eq, true_and, and_true, List.cons.injEq, List.zip_cons_cons, List.zip_nil_right, List.foldl_cons, List.foldl_nil, wipeB, lenD, itD, Bool.not_true, Bool.not_false, Bool.false_eq_true, Bool.true_eq_false, if_true, if_false, ite_true, ite_false, D.dic.injEq, D.obj.injEq, and_assoc, List.map_map, sFor, fCBN, RSortTp, G_some, G_roll, FRoll, FSome]
  have z2 : 2 ≤ sizeLine := by rw [sizeLine_eq]; decide
  refine ⟨z2, z2, z2, z2, z2, by rw [sizeLine_eq]; decide, by decide, by decide, fun r g1 g2 => ⟨g1, by decide, fun ys rest hp hy => ?_⟩⟩
  obtain ⟨zs, e, hz2⟩ := perm_map (f := fun k : List Nat => tupI (nI k)) (m := K5N) hp
  obtain ⟨l, us, e4, e5, e6⟩ := List.append_eq_map_iff.mp e
  subst e4 e5
  have hl5 : l.length ≤ 4 := by
    rw [List.length_map] at hy
    split at hy <;> omega
  have e7 : (l.map fun k : List Nat => tupI (nI k)) = (l.map nI).map tupI := by rw [List.map_map]; rfl
  rw [e7]
  refine ⟨srt_tupsT _, ?_⟩
  rw [sort_tups]
  have hn : (l.map nI).Nodup := by
    have h5 : (K5N.map nI).Nodup := by decide
    have h6 : ((l ++ us).map nI).Nodup := (hz2.map nI).nodup_iff.mpr h5
    rw [List.map_append] at h6
    exact (List.nodup_append.mp h6).1
  have hup := srt_up hn
  obtain ⟨ks, e8, e9⟩ := perm_map (f := nI) (m := l) (List.mergeSort_perm (l.map nI) fun a b => !ltI b a)
  rw [e8] at hup ⊢
  have e10 : (ks.map nI).map tupI = ks.map fun k : List Nat => tupI (nI k) := by rw [List.map_map]; rfl
  rw [e10]
  refine kt_loop (v1 := .val (tupI (nI ns))) (v3 := .val (stD (sI s))) (fun rs o2 o6 gr gu gl => ?_) ks [] .un .un (fun k hk => hz2.subset (List.mem_append_left _ (e9.subset hk))) hup (fun r hr => (List.not_mem_nil hr).elim) (by rw [e9.length_eq]; show 0 + _ ≤ 4; omega)
  have W : Wh ns s rs := ⟨e2, by omega, hs, gr, gu, gl⟩
  refine rD_ok W ?_
  refine rE_ok W ?_
  refine rF_ok W ?_
  refine rG_ok EC W.len (NT_ok e2) (by have := hs.len; omega) (ST_ok hs.w) (TT_len gr gl) (TT_ok gr) fun o2 => ?_
  exact rH_ok EC q
end
end K70
set_option Elab.async false
set_option maxRecDepth 100000
set_option maxHeartbeats 1000000
set_option linter.all false
set_option pp.maxSteps 2500
namespace K70
open PySem PySem.Spec PyProof.Rows L2 Ly Pu TM
def Il (ns : List Int) (ρ : Pu.Env) : Prop := ∃ o1, ρ = [.val (.lsk (ns.map .int)), o1]
section
variable {K : PySem.W.Frag} {A : Adr}
theorem law_ok (EC : EK K A) {ns : List Int} (hl : ns.length ≤ 63) {Q : D → Prop} {Z : ZX} (q : Q (.bl true)) : G_law K A [.lsk (ns.map .int)] Q Z := by
  unfold G_law S_law
  simp only [fnS, Pu.startB, sSeq, sAsg, sIf, sRet, sNext, sNew, sApp, sPar, sDem, demB, fVar, fVarT, fC, fOp, fTst, fAnd, fOr, fNot, fNew, fLst, fTup, fNil, fCons, fSl, Pu.oAt, oNo, fCB, fCall, fIf, fChain, fRng1, fIt, fJoin, RLen, RI0, RAdd, RIx, RSl, RIsN, RTuple, RIn, gN, bD, List.map_cons, List.map_nil, List.cons_append, List.nil_append, List.length_cons, List.length_nil, List.replicate, Nat.reduceSub, Nat.reduceAdd, List.getElem?_cons_zero, List.getElem?_cons_succ, List.set_cons_zero, List.set_cons_succ, Option.some.injEq, B.val.injEq, D.int.injEq, D.bl.injEq, D.str.injEq, D.tup.injEq, D.lst.injEq, exists_eq_left', exists_eq_left, exists_and_left, ex_eq, true_and, and_true, List.cons.injEq, lenD, sFor, RMax2, RMin2]
  refine ⟨_, _, ⟨rfl, rfl⟩, ?_⟩
  refine ⟨_, _, ⟨rfl, rfl⟩, ⟨by rw [List.length_map]; split <;> split <;> omega, by rw [List.length_map]; split <;> split <;> omega⟩, ?_⟩
  refine for_keepM (Il ns) _ (fun d ρ D' hd hρ hn hrt hex => ?_) (fun ρ hρ => ?_) _ _ (fun d hd => hd) ⟨_, rfl⟩
  · obtain ⟨o1, rfl⟩ := hρ
    obtain ⟨k, _, rfl⟩ := List.mem_map.mp hd
    have e : ((0 : Int) + (k : Nat) * 1) = (k : Int) := by omega
    refine ⟨_, rfl, _, rfl, rfl, ns, k, by rw [e], ?_⟩
    refine ⟨rfl, right EC ⟨_, rfl, ?_⟩⟩
    show if (!true) = true then _ else _
    rw [if_neg (by decide)]
    exact hn _ ⟨_, rfl⟩
  · obtain ⟨o1, rfl⟩ := hρ
    exact q
end
end K70
set_option Elab.async false
set_option maxRecDepth 100000
set_option maxHeartbeats 1000000
set_option linter.all false
namespace K70Di
open PySem L2 Ly
open K70 (top Txt)
section
variable {P : Program} {w : World} {K : PySem.W.Frag} {mg : Str → Option Value} {base : Heap}
abbrev s_dice : Stmt := top 34
abbrev nm_dice : List Str := ["_law_script", "_law_spot", "_law_cell", "_law_great", "_law_blend"]
abbrev ps_dice : List Str := ["_law_script", "_law_spot"]
theorem sc_dice : FnScope nm_dice ps_dice (defScope s_dice) := ⟨rfl, rfl, rfl, by decide +kernel, rfl, by decide +kernel, by decide +kernel⟩
theorem ok_dice0 {f : Addr} {fd : FuncData} (F : Fun K "_law_dice" "_law_dice" s_dice f fd) (T : Txt K mg) : FnOk P w K mg base CX0 1 f fd ["_law_script", "_law_spot"] (spDice0 K) := by
  have nd := sc_dice.nd
  refine F.ok sc_dice (fun vs H Q E h => ?_) (fun cdv A outer s H vs Q E hr h => ?_)
  · obtain ⟨_, _, _, rfl, _⟩ := h
    rfl
  · obtain ⟨a, ns, n, rfl, hS, k⟩ := h
    refine ⟨_, (pss_cons (ps_set (i := 2) nd rfl (Or.inl rfl) (pe_op op_add (pe_op op_mul pe_int (pv 1)) pe_int))
      (Evl.pss_cut (ps_if (pt_cmpR op_lt (pv 1) (pe_callB (kcall_len (K := K)) (by rfl) T.z_len (by decide +kernel) (pa_cons (pv 0) pa_nil)) (nomark _)) (pss_one (ps_set (i := 2) nd rfl (Or.inl rfl) (pe_ix (kix_list (K := K)) (pv 0) (pv 1) (fun _ _ => rfl)))) pss_nil)
      (pss_cons (ps_set (i := 3) nd rfl (Or.inl rfl) (pe_op op_mod (pe_callTy call_int1 (by rfl) T.z_int (by decide +kernel) (pa_cons (pe_callB call_abs (by rfl) T.z_abs (by decide +kernel) (pa_cons (pv 2) pa_nil)) pa_nil)) (pe_op op_powW (pe_op op_powW pe_int pe_int) pe_int)))
      (pss_cons (ps_set (i := 4) nd rfl (Or.inl rfl) (pe_op op_add (pe_op op_add (pe_op op_add (pe_op op_mul (pe_op op_mod (pe_callTy call_int1 (by rfl) T.z_int (by decide +kernel) (pa_cons (pv 3) pa_nil)) pe_int) pe_int) (pe_op op_mul pe_int (pv 1))) (pe_op op_mul pe_int (pe_callTy call_int1 (by rfl) T.z_int (by decide +kernel) (pa_cons (pe_cmpR op_lt (pv 2) pe_int (nomark _)) pa_nil)))) pe_int))
      (pss_one (ps_ret (pe_lst (pa_cons (pe_callB (call_max2 rfl) (by rfl) T.z_max (by decide +kernel) (pa_cons pe_int (pa_cons (pe_op op_sub (pv 3) (pe_op op_powW pe_int pe_int)) pa_nil))) (pa_cons (pe_op op_mod (pe_callTy call_int1 (by rfl) T.z_int (by decide +kernel) (pa_cons (pv 4) pa_nil)) pe_int) (pa_cons pe_int pa_nil)))))))))), ?_⟩
    -- cell = 53 * spot + 29
    refine ⟨_, rfl, _, _, rfl, rfl, Or.inl ⟨by decide, by decide⟩, _, _, rfl, rfl, ?_⟩
    -- if spot < len(script)
    refine ⟨fun σ H' => ∃ cell : Int, σ = [some (.ref a), some (.int n), some (.int cell), none, none] ∧ H' = H, ?_, ?_⟩
    · refine ⟨_, rfl, _, rfl, a, _, rfl, Or.inl hS, _, _, rfl, rfl, _, rfl, ite2 (fun hc => ?_) (fun hc => ?_)⟩
      · have hc : (n : Int) < ((ns.map V.int).length : Int) := of_decide_eq_true hc
        have hl : n < ns.length := by
          rw [List.length_map] at hc
          omega
        exact ⟨_, rfl, _, rfl, a, _, _, _, rfl, rfl, hS, atI_nat (v := .int ns[n]) (by simp [hl]), ns[n], rfl, rfl⟩
      · exact ⟨_, rfl, rfl⟩
    · rintro σ H' ⟨cell, rfl, rfl⟩
      -- great
      refine ⟨_, rfl, _, rfl, Or.inl ⟨_, rfl, _, _, rfl, rfl, ⟨by decide, by decide +kernel⟩, _, _, rfl, rfl, ⟨by decide, by decide +kernel⟩, _, _, rfl, rfl, by show (0 : Int) < _; decide +kernel, ?_⟩⟩
      -- blend
      refine ⟨_, rfl, Or.inl ⟨_, rfl, _, _, rfl, rfl, by show (0 : Int) < 2305843009213693723; decide, _, _, rfl, rfl, Or.inr ⟨by decide, by decide⟩, _, rfl, _, _, rfl, rfl, Or.inl ⟨by decide, by decide⟩, _, _, rfl, rfl, _, rfl, _, _, rfl, rfl, Or.inr ⟨_, rfl, _, _, rfl, rfl, Or.inl ⟨by decide, by decide⟩, _, _, rfl, rfl, _, _, rfl, rfl, ?_⟩⟩⟩
      -- return
      refine ⟨_, rfl, _, _, rfl, rfl, ⟨by decide, by decide +kernel⟩, _, _, rfl, rfl, _, _, rfl, _, rfl, Or.inl ⟨_, rfl, _, _, rfl, rfl, by show (0 : Int) < 2305843009213693723; decide, by show 3 ≤ sizeLine; decide, fun p hp => ?_⟩⟩
      exact k p _ _ _ hp
theorem ok_dice {f : Addr} {fd : FuncData} (F : Fun K "_law_dice" "_law_dice" s_dice f fd) (T : Txt K mg) : FnOk P w K mg base CX0 1 f fd ["_law_script", "_law_spot"] (spDice K) := by
  refine (fn_mkdice (ok_dice0 F T)).imp fun vs H Q E h => ?_
  obtain ⟨a, ns, n, rfl, hS, k⟩ := h
  refine ⟨a, ns, n, rfl, hS, fun p x y z hp => ⟨p, x, y, z, rfl, upd_same, ?_⟩⟩
  rw [upd_upd]
  exact k p hp
abbrev s_roll : Stmt := top 35
abbrev nm_roll : List Str := ["_law_dice_here", "_law_total", "_law_found", "_law_one", "_law_two"]
abbrev ps_roll : List Str := ["_law_dice_here", "_law_total"]
theorem sc_roll : FnScope nm_roll ps_roll (defScope s_roll) := ⟨rfl, rfl, rfl, by decide +kernel, rfl, by decide +kernel, by decide +kernel⟩
theorem ok_roll0 {f : Addr} {fd : FuncData} (F : Fun K "_law_roll" "_law_roll" s_roll f fd) (T : Txt K mg) : FnOk P w K mg base CX0 1 f fd ["_law_dice_here", "_law_total"] spRoll0 := by
  have nd := sc_roll.nd
  refine F.ok sc_roll (fun vs H Q E h => ?_) (fun cdv A outer s H vs Q E hr h => ?_)
  · obtain ⟨_, _, _, _, _, rfl, _⟩ := h
    rfl
  · obtain ⟨p, t, a, b, c, rfl, ht, ht2, hp, k⟩ := h
    refine ⟨_, (pss_cons (ps_if (pt_cmpR op_gt (pe_ix (kix_list (K := K)) (pv 0) pe_int (fun _ _ => rfl)) pe_int (nomark _)) (pss_cons (ps_set (i := 2) nd rfl (Or.inl rfl) (pe_op op_mod (pe_callTy call_int1 (by rfl) T.z_int (by decide +kernel) (pa_cons (pe_ix (kix_list (K := K)) (pv 0) pe_int (fun _ _ => rfl)) pa_nil)) (pv 1)))
      (pss_cons (ps_asg (pe_op op_fdiv (pe_ix (kix_list (K := K)) (pv 0) pe_int (fun _ _ => rfl)) (pv 1)) (pg_sub (pv 0) pe_int set_list))
      (pss_one (ps_ret (pv 2))))) pss_nil)
      (pss_cons (ps_asg (pe_op op_add (pe_ix (kix_list (K := K)) (pv 0) pe_int (fun _ _ => rfl)) pe_int) (pg_sub (pv 0) pe_int set_list))
      (pss_cons (ps_set (i := 3) nd rfl (Or.inl rfl) (pe_op op_mod (pe_callTy call_int1 (by rfl) T.z_int (by decide +kernel) (pa_cons (pe_op op_add (pe_ix (kix_list (K := K)) (pv 0) pe_int (fun _ _ => rfl)) (pe_op op_mul pe_int (pe_ix (kix_list (K := K)) (pv 0) pe_int (fun _ _ => rfl)))) pa_nil)) pe_int))
      (pss_cons (ps_set (i := 4) nd rfl (Or.inl rfl) (pe_op op_add (pe_op op_mul (pe_op op_mod (pe_callTy call_int1 (by rfl) T.z_int (by decide +kernel) (pa_cons (pe_op op_mul (pv 3) (pv 3)) pa_nil)) pe_int) (pv 3)) (pe_op op_mul pe_int (pe_ix (kix_list (K := K)) (pv 0) pe_int (fun _ _ => rfl)))))
      (pss_cons (ps_set (i := 4) nd rfl (Or.inl rfl) (pe_op op_mod (pe_callTy call_int1 (by rfl) T.z_int (by decide +kernel) (pa_cons (pv 4) pa_nil)) pe_int))
      (pss_one (ps_ret (pe_op op_mod (pe_callTy call_int1 (by rfl) T.z_int (by decide +kernel) (pa_cons (pe_op op_fdiv (pv 4) pe_int) pa_nil)) (pv 1))))))))), ?_⟩
    have hL : SqL K H p [.int a, .int b, .int c] := SqL.of hp
    have h0 : (0 : Int) < 2305843009213693951 := by decide
    have h1 : (0 : Int) < 2305843009213693921 := by decide
    have h2 : (0 : Int) < 2305843009213693723 := by decide
    have hnn : ∀ x : Int, 0 ≤ x % t := fun x => Int.emod_nonneg _ (by omega)
    have hlt : ∀ x : Int, x % t < t := fun x => Int.emod_lt_of_pos _ ht
    refine ⟨_, rfl, p, _, _, _, rfl, rfl, hL, rfl, _, _, rfl, rfl, _, rfl, ite2 (fun _ => ?_) (fun _ => ?_)⟩
    · refine ⟨_, rfl, p, _, _, _, rfl, rfl, hL, rfl, Or.inl ⟨_, rfl, _, rfl, _, _, rfl, rfl, ht, ?_⟩⟩
      refine ⟨_, rfl, p, _, _, _, rfl, rfl, hL, rfl, _, rfl, _, _, rfl, rfl, ⟨ht, ht2⟩, _, rfl, p, _, _, _, rfl, rfl, hp, rfl, ?_⟩
      exact ⟨_, rfl, k _ _ _ _ (hnn _) (hlt _)⟩
    · refine ⟨_, rfl, p, _, _, _, rfl, rfl, hL, rfl, _, _, rfl, rfl, _, rfl, p, _, _, _, rfl, rfl, hp, rfl, ?_⟩
      have hL2 : SqL K (upd H p (.lst ([.int a, .int b, .int c].set 2 (.int (c + 1))))) p [.int a, .int b, .int (c + 1)] := SqL.of upd_same
      refine ⟨_, rfl, p, _, _, _, rfl, rfl, hL2, rfl, _, rfl, p, _, _, _, rfl, rfl, hL2, rfl, _, _, rfl, rfl, Or.inl ⟨by decide, by decide⟩, _, _, rfl, rfl, Or.inl ⟨_, rfl, _, _, rfl, rfl, h0, ?_⟩⟩
      have hone : ∀ x : Int, -(2 ^ 64) < x % 2305843009213693951 ∧ x % 2305843009213693951 < 2 ^ 64 := fun x => ⟨by have := Int.emod_nonneg x (b := 2305843009213693951) (by decide); omega, by have := Int.emod_lt_of_pos x h0; omega⟩
      refine ⟨_, rfl, _, rfl, _, _, rfl, rfl, Or.inl (hone _), Or.inl ⟨_, rfl, _, _, rfl, rfl, h1, _, rfl, _, _, rfl, rfl, Or.inr (hone _), _, rfl, p, _, _, _, rfl, rfl, hL2, rfl, _, _, rfl, rfl, Or.inl ⟨by decide, by decide⟩, _, _, rfl, rfl, ?_⟩⟩
      refine ⟨_, rfl, Or.inl ⟨_, rfl, _, _, rfl, rfl, h2, ?_⟩⟩
      refine ⟨_, rfl, _, _, rfl, rfl, ⟨by decide, by decide⟩, Or.inl ⟨_, rfl, _, rfl, _, _, rfl, rfl, ht, ?_⟩⟩
      exact k _ _ _ _ (hnn _) (hlt _)
theorem ok_roll {f : Addr} {fd : FuncData} (F : Fun K "_law_roll" "_law_roll" s_roll f fd) (T : Txt K mg) : FnOk P w K mg base CX0 1 f fd ["_law_dice_here", "_law_total"] spRoll := by
  refine (fn_dice (ok_roll0 F T)).imp fun vs H Q E h => ?_
  obtain ⟨p, t, rfl, h1, h2, hp, k⟩ := h
  refine ⟨rfl, p, hp, fun a b c => ⟨p, t, a, b, c, rfl, h1, h2, upd_same, fun r a' b' c' h3 h4 => ⟨⟨a', b', c', upd_same⟩, ?_⟩⟩⟩
  rw [upd_upd, upd_upd, upd_id hp]
  exact k r h3 h4
abbrev s_pick : Stmt := top 36
abbrev nm_pick : List Str := ["_law_dice_here", "_law_items"]
abbrev ps_pick : List Str := ["_law_dice_here", "_law_items"]
theorem sc_pick : FnScope nm_pick ps_pick (defScope s_pick) := ⟨rfl, rfl, rfl, by decide +kernel, rfl, by decide +kernel, by decide +kernel⟩
theorem ok_pick {f : Addr} {fd : FuncData} (F : Fun K "_law_pick" "_law_pick" s_pick f fd) (T : Txt K mg) (C_roll : Cal P w K mg base "_law_roll" 1 ["_law_dice_here", "_law_total"] spRoll) : FnOk P w K mg base CX0 2 f fd ["_law_dice_here", "_law_items"] (spPick K) := by
  refine F.ok sc_pick (fun vs H Q E h => ?_) (fun cdv A outer s H vs Q E hr h => ?_)
  · obtain ⟨_, _, _, rfl, _⟩ := h
    rfl
  · obtain ⟨p, l, xs, rfl, hp, hl, h1, h2, k⟩ := h
    refine ⟨_, (pss_one (ps_ret (pe_ix (kix_list (K := K)) (pv 1) (pe_cal C_roll (hr.mono (by first | decide | omega)) rfl (pa_cons (pv 0) (pa_cons (pe_callB (kcall_len (K := K)) (by rfl) T.z_len (by decide +kernel) (pa_cons (pv 1) pa_nil)) pa_nil))) (fun _ _ => rfl)))), ?_⟩
    refine ⟨_, rfl, _, rfl, _, rfl, l, _, rfl, Or.inl hl, p, _, rfl, by omega, by omega, hp, fun r h3 h4 => ?_⟩
    have e : r = (r.toNat : Int) := by omega
    have hx : xs[r.toNat]? = some (xs[r.toNat]'(by omega)) := by simp
    exact ⟨l, _, _, _, rfl, rfl, hl, at_of e hx, k _ _ hx⟩
end
section
variable {P : Program} {w : World} {K : PySem.W.Frag} {mg : Str → Option Value} {base : Heap}
abbrev s_some : Stmt := top 37
abbrev nm_some : List Str := ["_law_dice_here", "_law_items", "_law_size", "_law_left", "_law_turn"]
abbrev ps_some : List Str := ["_law_dice_here", "_law_items", "_law_size"]
theorem sc_some : FnScope nm_some ps_some (defScope s_some) := ⟨rfl, rfl, rfl, by decide +kernel, rfl, by decide +kernel, by decide +kernel⟩
theorem ok_some {f : Addr} {fd : FuncData} (F : Fun K "_law_some" "_law_some" s_some f fd) (T : Txt K mg) (C_roll : Cal P w K mg base "_law_roll" 1 ps_roll spRoll) : FnOk P w K mg base CX0 2 f fd ps_some (spSome K) := by
  have nd := sc_some.nd
  refine F.ok sc_some (fun vs H Q E h => ?_) (fun cdv A outer s H vs Q E hr h => ?_)
  · obtain ⟨_, _, _, _, rfl, _⟩ := h
    rfl
  · obtain ⟨d, l, xs, n, rfl, hd, hl, hn, hx, k⟩ := h
    refine ⟨_, (pss_cons (ps_set (i := 3) nd rfl (Or.inr rfl) (pe_callTy (kcall_list (K := K)) (by rfl) T.z_list (by decide +kernel) (pa_cons (pv 1) pa_nil)))
      (pss_one (ps_ret (pe_lc (own := [("_law_turn", 4)]) (g := (gName 4)) (by rfl) nd (pi_range1 rfl T.z_range (pa_cons (pe_callB (call_min2 rfl) (by rfl) T.z_min (by decide +kernel) (pa_cons (pv 2) (pa_cons (pe_callB (kcall_len (K := K)) (by rfl) T.z_len (by decide +kernel) (pa_cons (pv 3) pa_nil)) pa_nil))) pa_nil)) (blkOk_by (own := [("_law_turn", 4)]) (N := nm_some) (sc := defScope s_some) (by decide +kernel)) (fun _ _ _ _ _ => (pg_name (i := 4) nd rfl (Or.inl rfl))) (fun _ _ _ _ _ => pts_nil) (fun _ _ _ _ _ => (kpe_bm (K := K) PySem.F.plainAttrs_list PySem.F.slot_list_pop PySem.F.type_list_pop mt_popAt (pv 3) (pa_cons (pe_cal C_roll (hr.mono (by first | decide | omega)) rfl (pa_cons (pv 0) (pa_cons (pe_callB (kcall_len (K := K)) (by rfl) T.z_len (by decide +kernel) (pa_cons (pv 3) pa_nil)) pa_nil))) pa_nil))))))), ?_⟩
    refine ⟨_, rfl, l, xs, rfl, Or.inl hl, fun p hp => ?_⟩
    have e1 : Gx H (upd H p (.lst xs)) := Gx.new hp
    refine ⟨_, rfl, _, rfl, p, xs, rfl, Or.inl (SqL.of upd_same), _, _, rfl, ?_⟩
    refine ⟨_, rfl, ?_, ?_, ?_⟩
    · split <;> omega
    · split <;> omega
    intro D hD
    have hDp : D ≠ p := fun z => by
      subst z
      rw [upd_same] at hD
      cases hD
    have hDn : H D = none := e1.free hD
    refine lc_it walk_range (fun i H' => ∃ ys ls, Gx H H' ∧ H' D = some (.lst ys) ∧ H' p = some (.lst ls) ∧ ys.length = i ∧ (ys ++ ls).Perm xs)
      ⟨[], xs, e1.trans (Gx.new hD), upd_same, by rw [upd_ne hDp.symm]; exact upd_same, rfl, List.Perm.refl _⟩ (fun _ _ _ _ => trivial) ?_ ?_
    · rintro i x H1 H2 hi ⟨ys, ls, e2, hy, hls, hyl, pm⟩ ⟨rfl, rfl⟩
      have pl : ys.length + ls.length = xs.length := by
        rw [← List.length_append]
        exact pm.length_eq
      have hi2 : i < xs.length := by
        revert hi
        split <;> omega
      refine ⟨rfl, yes_ite ⟨_, rfl, Or.inl ⟨rfl, _, SqL.of hls⟩, ?_⟩⟩
      refine ⟨_, rfl, _, rfl, p, ls, rfl, Or.inl (SqL.of hls), d, _, rfl, by omega, by omega, e2 _ _ hd, fun r h1 h2 => ?_⟩
      have hk : ls[r.toNat]? = some (ls[r.toNat]'(by omega)) := by simp
      refine ⟨p, ls, r, r.toNat, _, rfl, rfl, hls, by omega, by omega, PySem.seqIndex_of h1 h2, hk, ys, by rw [upd_ne hDp]; exact hy, Evl.sz_lt (by omega), ?_⟩
      refine ⟨_, ls.eraseIdx r.toNat, (e2.mut hp).mut hDn, upd_same, by rw [upd_ne hDp.symm, upd_same], by rw [List.length_append, hyl]; rfl, ?_⟩
      rw [List.append_assoc]
      exact (List.Perm.append_left ys (erase_perm hk)).trans pm
    · rintro H1 ⟨ys, ls, e2, hy, hls, hyl, pm⟩
      refine k D ys ls H1 e2 hDn hy ?_ pm
      rw [hyl]
      split <;> omega
end
end K70Di
namespace K70
open PySem PySem.Spec PyProof.Rows L2 Ly Pu TM
section
variable {P : Program} {w : World} {K : PySem.W.Frag} {mg : Str → Option Value} {base : Heap} {A : Adr}
def spLaw (T : List (Addr × Str)) (K : PySem.W.Frag) : Sp := fun vs H Q _ => ∃ (a : Addr) (ns : List Int), vs = [.ref a] ∧ SqL K H a (ns.map V.int) ∧ ns.length ≤ 63 ∧ (∀ p ∈ T, H p.1 = some (.tbl #[])) ∧ ∀ H', Q (.bl true) H'
theorem law_to {T : List (Addr × Str)} (EC : EK K A) {vs : List V} {H : Hp} {Q : VK} {E : XK} (h : spLaw T K vs H Q E) : spQ T K 1 (G_law K A) vs H Q E := by
  obtain ⟨a, ns, hv, hS, hl, ht, kk⟩ := h
  exact ⟨noT H, [.lsk (ns.map .int)], fun d => d = .bl true, noT_lo, noT_no, fun p hp => LamX.TabS.nil (ht p hp), by
    subst hv
    exact .cons (.lsk (noT_l hS) (v_ints ns) (by rw [List.length_map, sizeLine_eq]; omega)) .nil, rfl, law_ok EC hl rfl, fun v W' H' d e r z => (by subst z; cases r; exact kk H')⟩
theorem law_top {T : List (Addr × Str)} (EC : EK K A) {k : Nat} {f : Addr} {fd : FuncData} {ps : List Str} (F : FnG P w K mg base (L2.CX P w) k f fd ps (spQ T K 1 (G_law K A))) : FnG P w K mg base (L2.CX P w) k f fd ps (spLaw T K) :=
  ⟨fun vs H Q E h => F.len vs H Q E (law_to EC h), fun A outer s H args us vs Q E hr gd he hb hv hs => F.run A outer s H args us vs Q E hr gd he hb hv (law_to EC hs)⟩
abbrev s_ParseError_init : Stmt := inClass (top 8) 0
abbrev nm_ParseError_init : List Str := ["self", "line"]
abbrev ps_ParseError_init : List Str := ["self", "line"]
theorem sc_ParseError_init : FnScope nm_ParseError_init ps_ParseError_init (defScope s_ParseError_init) := ⟨rfl, rfl, rfl, by decide +kernel, rfl, by decide +kernel, by decide +kernel⟩
theorem ok_xinit {f CP : Addr} {fd : FuncData} (F : Fun K "__init__" "ParseError.__init__" s_ParseError_init f fd) (O : OexC K CP) (no : PySem.W.findIn K (.ref CP) "line" = some none) : FnOk P w K mg base CX0 1 f fd ps_ParseError_init (spXi CP "line") := by
  have nd := sc_ParseError_init.nd
  refine F.ok sc_ParseError_init (fun vs H Q E h => ?_) (fun cdv A outer s H vs Q E hr h => ?_)
  · obtain ⟨_, _, rfl, _⟩ := h
    rfl
  · obtain ⟨a, v, rfl, ha, k⟩ := h
    exact ⟨_, pss_one (ps_ost (pv 0) (pv 1)), _, rfl, _, rfl, a, CP, rfl, O, no, .inl ⟨ha, fun dx h1 h2 => k dx h1 h2⟩⟩
theorem exm_is {S S' : Addr} {b : Bool} (g1 : PySem.W.subIn K (.ref S) (.type "BaseException") = some true) (g2 : PySem.W.isClsIn K S = true) (g3 : PySem.W.typeIn K (.ref S) = some (.type "type"))
    (h1 : PySem.W.subIn K (.ref S') (.type "BaseException") = some true) (h2 : PySem.W.isClsIn K S' = true) (h3 : PySem.W.typeIn K (.ref S') = some (.type "type")) (h4 : PySem.W.subIn K (.ref S) (.ref S') = some b) : PySem.W.exmOne K (.ref S) (.ref S') = some b := by
  have e1 : (PySem.W.subIn K (.ref S') (.type "BaseException") == some true) = true := by rw [h1] <;> rfl
  have e2 : ((PySem.W.clsIn K S').isSome && PySem.W.typeIn K (.ref S') == some (.type "type")) = true := by
    rw [show (PySem.W.clsIn K S').isSome = true from h2, h3] <;> rfl
  have f1 : (PySem.W.subIn K (.ref S) (.type "BaseException") == some true) = true := by rw [g1] <;> rfl
  have f2 : ((PySem.W.clsIn K S).isSome && PySem.W.typeIn K (.ref S) == some (.type "type")) = true := by
    rw [show (PySem.W.clsIn K S).isSome = true from g2, g3] <;> rfl
  unfold PySem.W.exmOne PySem.W.kitCls
  simp only [e1, e2, f1, f2, if_true, h4]
end
end K70
set_option Elab.async false
set_option maxRecDepth 100000
set_option maxHeartbeats 1000000
set_option linter.all false
namespace Pu
open PySem PySem.Spec PyProof.Rows L2 Ly
end Pu
set_option Elab.async false
set_option maxRecDepth 100000
set_option maxHeartbeats 1000000
set_option linter.all false
namespace Pu
open PySem PySem.Spec PyProof.Rows L2 Ly LamX
theorem cutK_lookup (ps : List Addr) (b : Addr) : ∀ K : PySem.W.Frag, (cutK K ps).lookup b = if ps.contains b = true then none else K.lookup b
  | [] => by
    unfold cutK
    split <;> rfl
  | (c, o) :: K => by
    have ih := cutK_lookup ps b K
    unfold cutK at ih ⊢
    by_cases h : ps.contains c = true
    · rw [List.filter_cons_of_neg (by rw [h]; decide), ih]
      by_cases hb : b = c
      · rw [hb, if_pos h, if_pos h]
      · rw [List.lookup_cons, beq_false_of_ne hb]
    · rw [List.filter_cons_of_pos (by rw [Bool.not_eq_true] at h; rw [h]; rfl), List.lookup_cons, List.lookup_cons]
      by_cases hb : b = c
      · rw [hb, beq_self_eq_true, if_neg h]
      · rw [beq_false_of_ne hb]
        exact ih
theorem cutK_in {K : PySem.W.Frag} {ps : List Addr} {h : Heap} (x : K.In h) : PySem.W.Frag.In (cutK K ps) h := fun b o e => by
  rw [cutK_lookup] at e
  split at e
  · cases e
  · exact x b o e
theorem cutK_none {K : PySem.W.Frag} {ps : List Addr} {b : Addr} (h : b ∈ ps) : (cutK K ps).lookup b = none := by
  rw [cutK_lookup, if_pos (List.contains_iff_mem.mpr h)]
theorem codeHd_of {K : PySem.W.Frag} {h : Heap} {c : Addr} (x : K.In h) (b : codeHdB K c = true) : PySem.W.CodeHd h c (tabOf K c) := by
  unfold codeHdB at b
  unfold tabOf
  cases q : K.lookup c with
  | none => rw [q] at b; cases b
  | some o =>
    rw [q] at b
    dsimp only at b ⊢
    rw [Bool.and_eq_true] at b
    obtain ⟨b1, b2⟩ := b
    cases hd : o.data with
    | fields vs =>
      rw [hd] at b2
      dsimp only at b2 ⊢
      simp only [Bool.and_eq_true] at b2
      obtain ⟨⟨⟨⟨g1, g2⟩, g3⟩, g4⟩, g5⟩ := b2
      cases h11 : vs[11]? with
      | none => rw [h11] at g1; cases g1
      | some v =>
        rw [h11] at g1
        cases v with
        | ref P =>
          dsimp only at g1 ⊢
          have hc : o.cls = .type "code" := by
            cases hcl : o.cls with
            | type t =>
              rw [hcl] at b1
              rw [eq_of_beq b1]
            | _ => rw [hcl] at b1; cases b1
          have e18 : ∃ z t, vs.getD 18 .none = .str z t := by
            cases q : vs.getD 18 .none with
            | str z t => exact ⟨z, t, rfl⟩
            | _ => rw [q] at g2; cases g2
          have e7 : ∃ z t, vs.getD 7 .none = .int z t := by
            cases q : vs.getD 7 .none with
            | int z t => exact ⟨z, t, rfl⟩
            | _ => rw [q] at g3; cases g3
          have e9 : ∃ z, vs.getD 9 .none = .bool z := by
            cases q : vs.getD 9 .none with
            | bool z => exact ⟨z, rfl⟩
            | _ => rw [q] at g4; cases g4
          have e10 : ∃ z t, vs.getD 10 .none = .int z t := by
            cases q : vs.getD 10 .none with
            | int z t => exact ⟨z, t, rfl⟩
            | _ => rw [q] at g5; cases g5
          obtain ⟨z1, t1, e18⟩ := e18
          obtain ⟨z2, t2, e7⟩ := e7
          obtain ⟨z3, e9⟩ := e9
          obtain ⟨z4, t4, e10⟩ := e10
          have e11 : vs.getD 11 .none = .ref P := by
            rw [Array.getD_eq_getD_getElem?, h11]
            rfl
          exact ⟨o, vs, z1, t1, z2, t2, z3, z4, t4, x c o q, hc, hd, h11, e11, e18, e7, e9, e10, fun z => by
            rw [z, beq_self_eq_true] at g1
            cases g1⟩
        | _ => cases g1
    | _ => rw [hd] at b2; cases b2
theorem walk_ofGRT {l : PySem.W.OpenLaw} {n k : Nat} {q : Program} {loose : List Str} {XP : (Str → Option Value) → Heap → Prop} {YP : World → Heap → Prop} {d : DefRec} {Y : PySem.W.Frag → Prop} {sp : PySem.W.Frag → List (Addr × Addr) → Sp} {x : Str}
    (hn : l.most = some n) (hn2 : n ≤ sizeLine) (hdf : d.params.defaults = []) (hr : Room k callerA) (hY : ∀ (w : World) (h : Heap), YP w h → ∃ K : PySem.W.Frag, K.In h ∧ Y K)
    (F : ∀ (w : World) (mg : Str → Option Value) (fa : Addr) (h : Heap) (K : PySem.W.Frag), K.In h → Y K → h.Ns mainGlobals mg → mg d.name = some (.ref fa) →
      ∃ (fd : FuncData) (cs : List (Addr × Addr)), (∀ p ∈ cs, K.lookup p.2 = some tbO ∧ codeHdB K p.1 = true ∧ p.2 = tabOf K p.1) ∧ (∀ (s : Shared) (u : Value), BindsTo s fd ⟨[u], []⟩ [(x, u)]) ∧
        ∀ base : Heap, PySem.W.Frag.In (cutK K (cs.map (·.2))) base → base.Ns mainGlobals mg → (∀ p ∈ cs, TabB base mg p.1 p.2) → FnG l.prog w (cutK K (cs.map (·.2))) mg base (L2.CX l.prog w) k fa fd [x] (sp K cs))
    (hsp : ∀ (K : PySem.W.Frag) (cs : List (Addr × Addr)) (H : Hp) (a : Addr) (ns : List Int), ns.length ≤ n → (∀ p ∈ cs, H p.2 = some (.tbl #[])) → SqL (cutK K (cs.map (·.2))) H a (ns.map V.int) → sp K cs [.ref a] H (fun v _ => v = .bl true) fun _ _ _ => False) :
    PySem.W.WalkO q loose XP YP l.row.toRowW d [] (fun f vs => PySem.call f vs) := by
  refine Att.attach_call hn hdf fun w s0 s1 mg mb fa o pm cd doc a vs ns G Y ho hd hcd hmg hobj hints hlen hg => ?_
  obtain ⟨K, inK, y⟩ := hY w _ Y
  obtain ⟨fd, cs, hc, hb, hF⟩ := F w mg fa _ K inK y G.T.g hmg
  refine law_callGT (cs := cs) (cutK_in inK) G.T.g G.T.b G.T.builtins G.T.nolimit hg (fun p hp => inK _ _ (hc p hp).1) (fun p hp => cutK_none (List.mem_map.mpr ⟨p, hp, rfl⟩)) (fun p hp => ?_) G.T.bmain hobj hints (Nat.le_trans hlen hn2) hr hF hb (fun H hT hS => hsp K cs H a ns hlen hT hS)
  rw [(hc p hp).2.2]
  exact codeHd_of inK (hc p hp).2.1
end Pu
set_option Elab.async false
set_option maxRecDepth 100000
set_option maxHeartbeats 1000000
set_option linter.all false
namespace Pu
open PySem PySem.Spec PyProof.Rows L2 Ly LamX
theorem of_refV {v : Value} (h : isRefV v = true) : v = .ref (refV v) := by
  cases v with
  | ref a => rfl
  | _ => cases h
theorem of_tbO {o : Option Obj} (h : isTbO o = true) : o = some tbO := by
  unfold isTbO at h
  cases o with
  | none => cases h
  | some o =>
    dsimp only at h
    simp only [Bool.and_eq_true] at h
    obtain ⟨⟨⟨h1, h2⟩, h3⟩, h4⟩ := h
    obtain ⟨c, d, dt, sl⟩ := o
    dsimp only at h1 h2 h3 h4
    have e1 : c = .none := by cases c <;> first | rfl | cases h1
    have e2 : dt = .fields #[] := by
      cases dt with
      | fields vs => rw [Array.eq_empty_of_size_eq_zero (eq_of_beq h2)]
      | _ => cases h2
    have e3 : d = none := Option.isNone_iff_eq_none.mp h3
    have e4 : sl = #[] := Array.eq_empty_of_size_eq_zero (eq_of_beq h4)
    rw [e1, e2, e3, e4]
theorem nod_of : ∀ {l : List Addr}, nodB l = true → l.Nodup
  | [], _ => List.nodup_nil
  | a :: l, h => by
    unfold nodB at h
    rw [Bool.and_eq_true, Bool.not_eq_true'] at h
    refine List.nodup_cons.mpr ⟨fun hm => ?_, nod_of h.2⟩
    rw [List.contains_iff_mem.mpr hm] at h
    cases h.1
theorem tab_uniq {l : List (Addr × Str)} {P : Addr} {q : Str} (h : (l.map Prod.fst).Nodup) (m : (P, q) ∈ l) : ∀ p ∈ l, p.1 = P → p.2 = q := by
  induction l with
  | nil => cases m
  | cons b l ih =>
    rw [List.map_cons, List.nodup_cons] at h
    intro p hp e
    rcases List.mem_cons.mp m with z | z
    · rcases List.mem_cons.mp hp with y | y
      · rw [y, ← z]
      · exact absurd (List.mem_map.mpr ⟨p, y, by rw [e, ← z]⟩) h.1
    · rcases List.mem_cons.mp hp with y | y
      · exact absurd (List.mem_map.mpr ⟨(P, q), z, by rw [← e, y]⟩) h.1
      · exact ih h.2 z p y e
theorem zip_self {α β : Type} (f : α → β) : ∀ l : List α, l.zip (l.map f) = l.map fun c => (c, f c)
  | [] => rfl
  | c :: l => by
    rw [List.map_cons, List.zip_cons_cons, zip_self f l]
    rfl
theorem walk_ofT {l : PySem.W.OpenLaw} {n k : Nat} {q : Program} {loose : List Str} {XP : (Str → Option Value) → Heap → Prop} {YP : World → Heap → Prop} {d : DefRec} {Y : PySem.W.Frag → Prop} {sp : List (Addr × Str) → PySem.W.Frag → Sp} {x : Str} (nms qs : List Str)
    (hn : l.most = some n) (hn2 : n ≤ sizeLine) (hdf : d.params.defaults = []) (hr : Room k callerA) (hY : ∀ (w : World) (h : Heap), YP w h → ∃ K : PySem.W.Frag, K.In h ∧ chkTb nms K = true ∧ Y (KTof nms K))
    (F : ∀ (w : World) (mg : Str → Option Value) (fa : Addr) (h : Heap) (K : PySem.W.Frag), K.In h → Y K → h.Ns mainGlobals mg → mg d.name = some (.ref fa) → ∀ tps : List Addr, tps.Nodup → tps.length = nms.length →
      ∃ fd : FuncData, (∀ (s : Shared) (u : Value), BindsTo s fd ⟨[u], []⟩ [(x, u)]) ∧
        ∀ base : Heap, K.In base → base.Ns mainGlobals mg → (∀ p ∈ (tcs nms K).zip tps, TabB base mg p.1 p.2) → FnG l.prog w K mg base (L2.CX l.prog w) k fa fd [x] (sp (tps.zip qs) K))
    (hsp : ∀ (T : List (Addr × Str)) (K : PySem.W.Frag) (H : Hp) (a : Addr) (ns : List Int), ns.length ≤ n → (∀ p ∈ T, H p.1 = some (.tbl #[])) → SqL K H a (ns.map V.int) → sp T K [.ref a] H (fun v _ => v = .bl true) fun _ _ _ => False) :
    PySem.W.WalkO q loose XP YP l.row.toRowW d [] (fun f vs => PySem.call f vs) := by
  refine walk_ofGRT (x := x) (Y := fun K => chkTb nms K = true ∧ Y (KTof nms K)) (sp := fun K cs => sp ((cs.map (·.2)).zip qs) (cutK K (cs.map (·.2)))) hn hn2 hdf hr hY (fun w mg fa h K inK y hg hm => ?_) (fun K cs H a ns hl hT hS => hsp _ _ H a ns hl (fun p hp => ?_) hS)
  · obtain ⟨hT, y⟩ := y
    unfold chkTb at hT
    rw [Bool.and_eq_true, Bool.and_eq_true, List.all_eq_true] at hT
    obtain ⟨h1, h2, h3⟩ := hT
    have h3 : tcs nms (KTof nms K) = tcs nms K := eq_of_beq h3
    obtain ⟨fd, hb, hF⟩ := F w mg fa h (KTof nms K) (cutK_in inK) y hg hm ((tcs nms K).map (tabOf K)) (nod_of h2) (by rw [List.length_map]; unfold tcs; rw [List.length_map])
    have e : ((tcs nms K).map fun c => (c, tabOf K c)).map (·.2) = (tcs nms K).map (tabOf K) := by rw [List.map_map]; rfl
    refine ⟨fd, (tcs nms K).map fun c => (c, tabOf K c), fun p hp => ?_, hb, fun base hK hN hP => ?_⟩
    · obtain ⟨c, hc, z⟩ := List.mem_map.mp hp
      have g := h1 c hc
      rw [Bool.and_eq_true] at g
      subst z
      exact ⟨of_tbO g.1, g.2, rfl⟩
    · rw [e] at hK ⊢
      refine hF base hK hN fun p hp => hP p ?_
      rw [h3, zip_self] at hp
      exact hp
  · obtain ⟨i, hi, e⟩ := List.mem_iff_getElem.mp hp
    have hi' : i < (cs.map (·.2)).length := by
      rw [List.length_zip] at hi
      omega
    have e2 : (cs.map (·.2))[i] = p.1 := by
      rw [← e, List.getElem_zip]
    obtain ⟨c, hc, z⟩ := List.mem_map.mp (List.getElem_mem hi')
    rw [← e2, ← z]
    exact hT c hc
end Pu
set_option Elab.async false
set_option maxRecDepth 100000
set_option maxHeartbeats 1000000
set_option linter.all false
namespace K70
open PySem PySem.Spec PyProof.Rows L2 Ly Pu TM K70Di
theorem all_mk {l : PySem.W.OpenLaw} {w : World} {K : PySem.W.Frag} {h : Heap} {mg : Str → Option Value} {fa CT CO CE f_ParseError_init f_dice f_roll f_pick f_some f_got f_is_integer f_is_within f_number_of f_require_string f_are_numbers f_is_rising f_numbers_text f_numbers_of f_write_numbers f_read_numbers f_is_state_row f_state_text f_state_of f_write_state f_read_state f_is_table_row f_write_table f_table_row_of f_read_table f_rising f_a_state f_line f_state_line f_due_numbers f_is_rising' f_due_state f_due_table f_bent f_strings_right f_right f_law tc_strings_right tp_strings_right : Addr} (X : K.In h) (G : h.Ns mainGlobals mg) (hfa : mg "law" = some (.ref fa)) (tn : [tp_strings_right].Nodup)
    {od_ParseError_init an_ParseError_init : Option Addr} {sl_ParseError_init : Array (Option Value)} {oc_ParseError_init kV_ParseError_init dc_ParseError_init pm_ParseError_init cd_ParseError_init ct_ParseError_init : Value}
    {od_dice an_dice : Option Addr} {sl_dice : Array (Option Value)} {oc_dice kV_dice dc_dice pm_dice cd_dice ct_dice : Value}
    {od_roll an_roll : Option Addr} {sl_roll : Array (Option Value)} {oc_roll kV_roll dc_roll pm_roll cd_roll ct_roll : Value}
    {od_pick an_pick : Option Addr} {sl_pick : Array (Option Value)} {oc_pick kV_pick dc_pick pm_pick cd_pick ct_pick : Value}
    {od_some an_some : Option Addr} {sl_some : Array (Option Value)} {oc_some kV_some dc_some pm_some cd_some ct_some : Value}
    {od_got an_got : Option Addr} {sl_got : Array (Option Value)} {oc_got kV_got dc_got pm_got cd_got ct_got : Value}
    {od_is_integer an_is_integer : Option Addr} {sl_is_integer : Array (Option Value)} {oc_is_integer kV_is_integer dc_is_integer pm_is_integer cd_is_integer ct_is_integer : Value}
    {od_is_within an_is_within : Option Addr} {sl_is_within : Array (Option Value)} {oc_is_within kV_is_within dc_is_within pm_is_within cd_is_within ct_is_within : Value}
    {od_number_of an_number_of : Option Addr} {sl_number_of : Array (Option Value)} {oc_number_of kV_number_of dc_number_of pm_number_of cd_number_of ct_number_of : Value}
    {od_require_string an_require_string : Option Addr} {sl_require_string : Array (Option Value)} {oc_require_string kV_require_string dc_require_string pm_require_string cd_require_string ct_require_string : Value}
    {od_are_numbers an_are_numbers : Option Addr} {sl_are_numbers : Array (Option Value)} {oc_are_numbers kV_are_numbers dc_are_numbers pm_are_numbers cd_are_numbers ct_are_numbers : Value}
    {od_is_rising an_is_rising : Option Addr} {sl_is_rising : Array (Option Value)} {oc_is_rising kV_is_rising dc_is_rising pm_is_rising cd_is_rising ct_is_rising : Value}
    {od_numbers_text an_numbers_text : Option Addr} {sl_numbers_text : Array (Option Value)} {oc_numbers_text kV_numbers_text dc_numbers_text pm_numbers_text cd_numbers_text ct_numbers_text : Value}
    {od_numbers_of an_numbers_of : Option Addr} {sl_numbers_of : Array (Option Value)} {oc_numbers_of kV_numbers_of dc_numbers_of pm_numbers_of cd_numbers_of ct_numbers_of : Value}
    {od_write_numbers an_write_numbers : Option Addr} {sl_write_numbers : Array (Option Value)} {oc_write_numbers kV_write_numbers dc_write_numbers pm_write_numbers cd_write_numbers ct_write_numbers : Value}
    {od_read_numbers an_read_numbers : Option Addr} {sl_read_numbers : Array (Option Value)} {oc_read_numbers kV_read_numbers dc_read_numbers pm_read_numbers cd_read_numbers ct_read_numbers : Value}
    {od_is_state_row an_is_state_row : Option Addr} {sl_is_state_row : Array (Option Value)} {oc_is_state_row kV_is_state_row dc_is_state_row pm_is_state_row cd_is_state_row ct_is_state_row : Value}
    {od_state_text an_state_text : Option Addr} {sl_state_text : Array (Option Value)} {oc_state_text kV_state_text dc_state_text pm_state_text cd_state_text ct_state_text : Value}
    {od_state_of an_state_of : Option Addr} {sl_state_of : Array (Option Value)} {oc_state_of kV_state_of dc_state_of pm_state_of cd_state_of ct_state_of : Value}
    {od_write_state an_write_state : Option Addr} {sl_write_state : Array (Option Value)} {oc_write_state kV_write_state dc_write_state pm_write_state cd_write_state ct_write_state : Value}
    {od_read_state an_read_state : Option Addr} {sl_read_state : Array (Option Value)} {oc_read_state kV_read_state dc_read_state pm_read_state cd_read_state ct_read_state : Value}
    {od_is_table_row an_is_table_row : Option Addr} {sl_is_table_row : Array (Option Value)} {oc_is_table_row kV_is_table_row dc_is_table_row pm_is_table_row cd_is_table_row ct_is_table_row : Value}
    {od_write_table an_write_table : Option Addr} {sl_write_table : Array (Option Value)} {oc_write_table kV_write_table dc_write_table pm_write_table cd_write_table ct_write_table : Value}
    {od_table_row_of an_table_row_of : Option Addr} {sl_table_row_of : Array (Option Value)} {oc_table_row_of kV_table_row_of dc_table_row_of pm_table_row_of cd_table_row_of ct_table_row_of : Value}
    {od_read_table an_read_table : Option Addr} {sl_read_table : Array (Option Value)} {oc_read_table kV_read_table dc_read_table pm_read_table cd_read_table ct_read_table : Value}
    {od_rising an_rising : Option Addr} {sl_rising : Array (Option Value)} {oc_rising kV_rising dc_rising pm_rising cd_rising ct_rising : Value}
    {od_a_state an_a_state : Option Addr} {sl_a_state : Array (Option Value)} {oc_a_state kV_a_state dc_a_state pm_a_state cd_a_state ct_a_state : Value}
    {od_line an_line : Option Addr} {sl_line : Array (Option Value)} {oc_line kV_line dc_line pm_line cd_line ct_line : Value}
    {od_state_line an_state_line : Option Addr} {sl_state_line : Array (Option Value)} {oc_state_line kV_state_line dc_state_line pm_state_line cd_state_line ct_state_line : Value}
    {od_due_numbers an_due_numbers : Option Addr} {sl_due_numbers : Array (Option Value)} {oc_due_numbers kV_due_numbers dc_due_numbers pm_due_numbers cd_due_numbers ct_due_numbers : Value}
    {od_is_rising' an_is_rising' : Option Addr} {sl_is_rising' : Array (Option Value)} {oc_is_rising' kV_is_rising' dc_is_rising' pm_is_rising' cd_is_rising' ct_is_rising' : Value}
    {od_due_state an_due_state : Option Addr} {sl_due_state : Array (Option Value)} {oc_due_state kV_due_state dc_due_state pm_due_state cd_due_state ct_due_state : Value}
    {od_due_table an_due_table : Option Addr} {sl_due_table : Array (Option Value)} {oc_due_table kV_due_table dc_due_table pm_due_table cd_due_table ct_due_table : Value}
    {od_bent an_bent : Option Addr} {sl_bent : Array (Option Value)} {oc_bent kV_bent dc_bent pm_bent cd_bent ct_bent : Value}
    {od_strings_right an_strings_right : Option Addr} {sl_strings_right : Array (Option Value)} {oc_strings_right kV_strings_right dc_strings_right pm_strings_right cd_strings_right ct_strings_right : Value}
    {od_right an_right : Option Addr} {sl_right : Array (Option Value)} {oc_right kV_right dc_right pm_right cd_right ct_right : Value}
    {od_law an_law : Option Addr} {sl_law : Array (Option Value)} {oc_law kV_law dc_law pm_law cd_law ct_law : Value}
    {t_LONGEST : Tok}
    {t_MAX_DIGITS : Tok}
    {t_DIGITS : Tok}
    {t_NOTHING : Tok}
    {t_NONE : Tok}
    {t_BAR : Tok}
    {t_BETWEEN : Tok}
    (a_CT : PySem.W.nsIn K mainGlobals "InvalidTable" = some (some (.ref CT)))
    (a_CO : PySem.W.nsIn K mainGlobals "InvalidOperation" = some (some (.ref CO)))
    (a_CE : PySem.W.nsIn K mainGlobals "ParseError" = some (some (.ref CE)))
    (a_ParseError_init : PySem.W.findIn K (.ref CE) "__init__" = some (some (.ref f_ParseError_init)))
    (i_ParseError_init : PySem.W.isFn K (.ref f_ParseError_init) = true)
    (l_ParseError_init : K.lookup f_ParseError_init = some ⟨oc_ParseError_init, od_ParseError_init, .func (PySem.W.fnOf "__init__" "ParseError.__init__" (defArgs s_ParseError_init) (defBody s_ParseError_init) (defScope s_ParseError_init) .none kV_ParseError_init dc_ParseError_init pm_ParseError_init an_ParseError_init cd_ParseError_init ct_ParseError_init), sl_ParseError_init⟩)
    (c_ParseError_init : PySem.W.codeIn K cd_ParseError_init "ParseError.__init__" = true)
    (k_ParseError_init : PySem.W.keepIn K (.ref f_ParseError_init) = true)
    (x_ParseError_init : PySem.W.fnIn K f_ParseError_init = true)
    (xx_CT : PySem.W.excIn K CT [.type "ValueError", .type "Exception", .type "BaseException", .type "object"] "ValueError.__new__" = true)
    (xk_CT : PySem.W.keepIn K (.ref CT) = true)
    (xb_CT : PySem.W.subIn K (.ref CT) (.type "BaseException") = some true)
    (xt_CT : PySem.W.typeIn K (.ref CT) = some (.type "type"))
    (xi_CT : PySem.W.isClsIn K CT = true)
    (xs_CT : PySem.W.subIn K (.ref CT) (.ref CT) = some true)
    (xx_CO : PySem.W.excIn K CO [.type "ValueError", .type "Exception", .type "BaseException", .type "object"] "ValueError.__new__" = true)
    (xk_CO : PySem.W.keepIn K (.ref CO) = true)
    (xb_CO : PySem.W.subIn K (.ref CO) (.type "BaseException") = some true)
    (xt_CO : PySem.W.typeIn K (.ref CO) = some (.type "type"))
    (xi_CO : PySem.W.isClsIn K CO = true)
    (xs_CO : PySem.W.subIn K (.ref CO) (.ref CO) = some true)
    (xk_CE : PySem.W.keepIn K (.ref CE) = true)
    (xb_CE : PySem.W.subIn K (.ref CE) (.type "BaseException") = some true)
    (xt_CE : PySem.W.typeIn K (.ref CE) = some (.type "type"))
    (xi_CE : PySem.W.isClsIn K CE = true)
    (xs_CE : PySem.W.subIn K (.ref CE) (.ref CE) = some true)
    (ex_CE : Pu.excB K CE = true)
    (sa_CE : PySem.W.findIn K (.ref CE) "__setattr__" = some (some (.builtin "object.__setattr__")))
    (ga_CE : PySem.W.findIn K (.ref CE) "__getattribute__" = some (some (.builtin "BaseException.__getattribute__")))
    (gg_CE : PySem.W.findIn K (.ref CE) "__getattr__" = some none)
    (hd_CE : PySem.W.hasDictIn K CE = true)
    (no_CE : PySem.W.findIn K (.ref CE) "line" = some none)
    (ti_CE : PySem.W.typeIn K (.ref f_ParseError_init) = some (.type "function"))
    (a_dice : PySem.W.nsIn K mainGlobals "_law_dice" = some (some (.ref f_dice)))
    (l_dice : K.lookup f_dice = some ⟨oc_dice, od_dice, .func (PySem.W.fnOf "_law_dice" "_law_dice" (defArgs s_dice) (defBody s_dice) (defScope s_dice) .none kV_dice dc_dice pm_dice an_dice cd_dice ct_dice), sl_dice⟩)
    (c_dice : PySem.W.codeIn K cd_dice "_law_dice" = true)
    (k_dice : PySem.W.keepIn K (.ref f_dice) = true)
    (a_roll : PySem.W.nsIn K mainGlobals "_law_roll" = some (some (.ref f_roll)))
    (l_roll : K.lookup f_roll = some ⟨oc_roll, od_roll, .func (PySem.W.fnOf "_law_roll" "_law_roll" (defArgs s_roll) (defBody s_roll) (defScope s_roll) .none kV_roll dc_roll pm_roll an_roll cd_roll ct_roll), sl_roll⟩)
    (c_roll : PySem.W.codeIn K cd_roll "_law_roll" = true)
    (k_roll : PySem.W.keepIn K (.ref f_roll) = true)
    (a_pick : PySem.W.nsIn K mainGlobals "_law_pick" = some (some (.ref f_pick)))
    (l_pick : K.lookup f_pick = some ⟨oc_pick, od_pick, .func (PySem.W.fnOf "_law_pick" "_law_pick" (defArgs s_pick) (defBody s_pick) (defScope s_pick) .none kV_pick dc_pick pm_pick an_pick cd_pick ct_pick), sl_pick⟩)
    (c_pick : PySem.W.codeIn K cd_pick "_law_pick" = true)
    (k_pick : PySem.W.keepIn K (.ref f_pick) = true)
    (a_some : PySem.W.nsIn K mainGlobals "_law_some" = some (some (.ref f_some)))
    (l_some : K.lookup f_some = some ⟨oc_some, od_some, .func (PySem.W.fnOf "_law_some" "_law_some" (defArgs s_some) (defBody s_some) (defScope s_some) .none kV_some dc_some pm_some an_some cd_some ct_some), sl_some⟩)
    (c_some : PySem.W.codeIn K cd_some "_law_some" = true)
    (k_some : PySem.W.keepIn K (.ref f_some) = true)
    (a_got : PySem.W.nsIn K mainGlobals "_law_got" = some (some (.ref f_got)))
    (l_got : K.lookup f_got = some ⟨oc_got, od_got, .func (PySem.W.fnOf "_law_got" "_law_got" (defArgs s_got) (defBody s_got) (defScope s_got) .none kV_got dc_got pm_got an_got cd_got ct_got), sl_got⟩)
    (c_got : PySem.W.codeIn K cd_got "_law_got" = true)
    (k_got : PySem.W.keepIn K (.ref f_got) = true)
    (a_is_integer : PySem.W.nsIn K mainGlobals "is_integer" = some (some (.ref f_is_integer)))
    (l_is_integer : K.lookup f_is_integer = some ⟨oc_is_integer, od_is_integer, .func (PySem.W.fnOf "is_integer" "is_integer" (defArgs s_is_integer) (defBody s_is_integer) (defScope s_is_integer) .none kV_is_integer dc_is_integer pm_is_integer an_is_integer cd_is_integer ct_is_integer), sl_is_integer⟩)
    (c_is_integer : PySem.W.codeIn K cd_is_integer "is_integer" = true)
    (k_is_integer : PySem.W.keepIn K (.ref f_is_integer) = true)
    (a_is_within : PySem.W.nsIn K mainGlobals "is_within" = some (some (.ref f_is_within)))
    (l_is_within : K.lookup f_is_within = some ⟨oc_is_within, od_is_within, .func (PySem.W.fnOf "is_within" "is_within" (defArgs s_is_within) (defBody s_is_within) (defScope s_is_within) .none kV_is_within dc_is_within pm_is_within an_is_within cd_is_within ct_is_within), sl_is_within⟩)
    (c_is_within : PySem.W.codeIn K cd_is_within "is_within" = true)
    (k_is_within : PySem.W.keepIn K (.ref f_is_within) = true)
    (a_number_of : PySem.W.nsIn K mainGlobals "number_of" = some (some (.ref f_number_of)))
    (l_number_of : K.lookup f_number_of = some ⟨oc_number_of, od_number_of, .func (PySem.W.fnOf "number_of" "number_of" (defArgs s_number_of) (defBody s_number_of) (defScope s_number_of) .none kV_number_of dc_number_of pm_number_of an_number_of cd_number_of ct_number_of), sl_number_of⟩)
    (c_number_of : PySem.W.codeIn K cd_number_of "number_of" = true)
    (k_number_of : PySem.W.keepIn K (.ref f_number_of) = true)
    (a_require_string : PySem.W.nsIn K mainGlobals "require_string" = some (some (.ref f_require_string)))
    (l_require_string : K.lookup f_require_string = some ⟨oc_require_string, od_require_string, .func (PySem.W.fnOf "require_string" "require_string" (defArgs s_require_string) (defBody s_require_string) (defScope s_require_string) .none kV_require_string dc_require_string pm_require_string an_require_string cd_require_string ct_require_string), sl_require_string⟩)
    (c_require_string : PySem.W.codeIn K cd_require_string "require_string" = true)
    (k_require_string : PySem.W.keepIn K (.ref f_require_string) = true)
    (a_are_numbers : PySem.W.nsIn K mainGlobals "are_numbers" = some (some (.ref f_are_numbers)))
    (l_are_numbers : K.lookup f_are_numbers = some ⟨oc_are_numbers, od_are_numbers, .func (PySem.W.fnOf "are_numbers" "are_numbers" (defArgs s_are_numbers) (defBody s_are_numbers) (defScope s_are_numbers) .none kV_are_numbers dc_are_numbers pm_are_numbers an_are_numbers cd_are_numbers ct_are_numbers), sl_are_numbers⟩)
    (c_are_numbers : PySem.W.codeIn K cd_are_numbers "are_numbers" = true)
    (k_are_numbers : PySem.W.keepIn K (.ref f_are_numbers) = true)
    (a_is_rising : PySem.W.nsIn K mainGlobals "is_rising" = some (some (.ref f_is_rising)))
    (l_is_rising : K.lookup f_is_rising = some ⟨oc_is_rising, od_is_rising, .func (PySem.W.fnOf "is_rising" "is_rising" (defArgs s_is_rising) (defBody s_is_rising) (defScope s_is_rising) .none kV_is_rising dc_is_rising pm_is_rising an_is_rising cd_is_rising ct_is_rising), sl_is_rising⟩)
    (c_is_rising : PySem.W.codeIn K cd_is_rising "is_rising" = true)
    (k_is_rising : PySem.W.keepIn K (.ref f_is_rising) = true)
    (a_numbers_text : PySem.W.nsIn K mainGlobals "numbers_text" = some (some (.ref f_numbers_text)))
    (l_numbers_text : K.lookup f_numbers_text = some ⟨oc_numbers_text, od_numbers_text, .func (PySem.W.fnOf "numbers_text" "numbers_text" (defArgs s_numbers_text) (defBody s_numbers_text) (defScope s_numbers_text) .none kV_numbers_text dc_numbers_text pm_numbers_text an_numbers_text cd_numbers_text ct_numbers_text), sl_numbers_text⟩)
    (c_numbers_text : PySem.W.codeIn K cd_numbers_text "numbers_text" = true)
    (k_numbers_text : PySem.W.keepIn K (.ref f_numbers_text) = true)
    (a_numbers_of : PySem.W.nsIn K mainGlobals "numbers_of" = some (some (.ref f_numbers_of)))
    (l_numbers_of : K.lookup f_numbers_of = some ⟨oc_numbers_of, od_numbers_of, .func (PySem.W.fnOf "numbers_of" "numbers_of" (defArgs s_numbers_of) (defBody s_numbers_of) (defScope s_numbers_of) .none kV_numbers_of dc_numbers_of pm_numbers_of an_numbers_of cd_numbers_of ct_numbers_of), sl_numbers_of⟩)
    (c_numbers_of : PySem.W.codeIn K cd_numbers_of "numbers_of" = true)
    (k_numbers_of : PySem.W.keepIn K (.ref f_numbers_of) = true)
    (a_write_numbers : PySem.W.nsIn K mainGlobals "write_numbers" = some (some (.ref f_write_numbers)))
    (l_write_numbers : K.lookup f_write_numbers = some ⟨oc_write_numbers, od_write_numbers, .func (PySem.W.fnOf "write_numbers" "write_numbers" (defArgs s_write_numbers) (defBody s_write_numbers) (defScope s_write_numbers) .none kV_write_numbers dc_write_numbers pm_write_numbers an_write_numbers cd_write_numbers ct_write_numbers), sl_write_numbers⟩)
    (c_write_numbers : PySem.W.codeIn K cd_write_numbers "write_numbers" = true)
    (k_write_numbers : PySem.W.keepIn K (.ref f_write_numbers) = true)
    (a_read_numbers : PySem.W.nsIn K mainGlobals "read_numbers" = some (some (.ref f_read_numbers)))
    (l_read_numbers : K.lookup f_read_numbers = some ⟨oc_read_numbers, od_read_numbers, .func (PySem.W.fnOf "read_numbers" "read_numbers" (defArgs s_read_numbers) (defBody s_read_numbers) (defScope s_read_numbers) .none kV_read_numbers dc_read_numbers pm_read_numbers an_read_numbers cd_read_numbers ct_read_numbers), sl_read_numbers⟩)
    (c_read_numbers : PySem.W.codeIn K cd_read_numbers "read_numbers" = true)
    (k_read_numbers : PySem.W.keepIn K (.ref f_read_numbers) = true)
    (a_is_state_row : PySem.W.nsIn K mainGlobals "is_state_row" = some (some (.ref f_is_state_row)))
    (l_is_state_row : K.lookup f_is_state_row = some ⟨oc_is_state_row, od_is_state_row, .func (PySem.W.fnOf "is_state_row" "is_state_row" (defArgs s_is_state_row) (defBody s_is_state_row) (defScope s_is_state_row) .none kV_is_state_row dc_is_state_row pm_is_state_row an_is_state_row cd_is_state_row ct_is_state_row), sl_is_state_row⟩)
    (c_is_state_row : PySem.W.codeIn K cd_is_state_row "is_state_row" = true)
    (k_is_state_row : PySem.W.keepIn K (.ref f_is_state_row) = true)
    (a_state_text : PySem.W.nsIn K mainGlobals "state_text" = some (some (.ref f_state_text)))
    (l_state_text : K.lookup f_state_text = some ⟨oc_state_text, od_state_text, .func (PySem.W.fnOf "state_text" "state_text" (defArgs s_state_text) (defBody s_state_text) (defScope s_state_text) .none kV_state_text dc_state_text pm_state_text an_state_text cd_state_text ct_state_text), sl_state_text⟩)
    (c_state_text : PySem.W.codeIn K cd_state_text "state_text" = true)
    (k_state_text : PySem.W.keepIn K (.ref f_state_text) = true)
    (a_state_of : PySem.W.nsIn K mainGlobals "state_of" = some (some (.ref f_state_of)))
    (l_state_of : K.lookup f_state_of = some ⟨oc_state_of, od_state_of, .func (PySem.W.fnOf "state_of" "state_of" (defArgs s_state_of) (defBody s_state_of) (defScope s_state_of) .none kV_state_of dc_state_of pm_state_of an_state_of cd_state_of ct_state_of), sl_state_of⟩)
    (c_state_of : PySem.W.codeIn K cd_state_of "state_of" = true)
    (k_state_of : PySem.W.keepIn K (.ref f_state_of) = true)
    (a_write_state : PySem.W.nsIn K mainGlobals "write_state" = some (some (.ref f_write_state)))
    (l_write_state : K.lookup f_write_state = some ⟨oc_write_state, od_write_state, .func (PySem.W.fnOf "write_state" "write_state" (defArgs s_write_state) (defBody s_write_state) (defScope s_write_state) .none kV_write_state dc_write_state pm_write_state an_write_state cd_write_state ct_write_state), sl_write_state⟩)
    (c_write_state : PySem.W.codeIn K cd_write_state "write_state" = true)
    (k_write_state : PySem.W.keepIn K (.ref f_write_state) = true)
    (a_read_state : PySem.W.nsIn K mainGlobals "read_state" = some (some (.ref f_read_state)))
    (l_read_state : K.lookup f_read_state = some ⟨oc_read_state, od_read_state, .func (PySem.W.fnOf "read_state" "read_state" (defArgs s_read_state) (defBody s_read_state) (defScope s_read_state) .none kV_read_state dc_read_state pm_read_state an_read_state cd_read_state ct_read_state), sl_read_state⟩)
    (c_read_state : PySem.W.codeIn K cd_read_state "read_state" = true)
    (k_read_state : PySem.W.keepIn K (.ref f_read_state) = true)
    (a_is_table_row : PySem.W.nsIn K mainGlobals "is_table_row" = some (some (.ref f_is_table_row)))
    (l_is_table_row : K.lookup f_is_table_row = some ⟨oc_is_table_row, od_is_table_row, .func (PySem.W.fnOf "is_table_row" "is_table_row" (defArgs s_is_table_row) (defBody s_is_table_row) (defScope s_is_table_row) .none kV_is_table_row dc_is_table_row pm_is_table_row an_is_table_row cd_is_table_row ct_is_table_row), sl_is_table_row⟩)
    (c_is_table_row : PySem.W.codeIn K cd_is_table_row "is_table_row" = true)
    (k_is_table_row : PySem.W.keepIn K (.ref f_is_table_row) = true)
    (a_write_table : PySem.W.nsIn K mainGlobals "write_table" = some (some (.ref f_write_table)))
    (l_write_table : K.lookup f_write_table = some ⟨oc_write_table, od_write_table, .func (PySem.W.fnOf "write_table" "write_table" (defArgs s_write_table) (defBody s_write_table) (defScope s_write_table) .none kV_write_table dc_write_table pm_write_table an_write_table cd_write_table ct_write_table), sl_write_table⟩)
    (c_write_table : PySem.W.codeIn K cd_write_table "write_table" = true)
    (k_write_table : PySem.W.keepIn K (.ref f_write_table) = true)
    (a_table_row_of : PySem.W.nsIn K mainGlobals "table_row_of" = some (some (.ref f_table_row_of)))
    (l_table_row_of : K.lookup f_table_row_of = some ⟨oc_table_row_of, od_table_row_of, .func (PySem.W.fnOf "table_row_of" "table_row_of" (defArgs s_table_row_of) (defBody s_table_row_of) (defScope s_table_row_of) .none kV_table_row_of dc_table_row_of pm_table_row_of an_table_row_of cd_table_row_of ct_table_row_of), sl_table_row_of⟩)
    (c_table_row_of : PySem.W.codeIn K cd_table_row_of "table_row_of" = true)
    (k_table_row_of : PySem.W.keepIn K (.ref f_table_row_of) = true)
    (a_read_table : PySem.W.nsIn K mainGlobals "read_table" = some (some (.ref f_read_table)))
    (l_read_table : K.lookup f_read_table = some ⟨oc_read_table, od_read_table, .func (PySem.W.fnOf "read_table" "read_table" (defArgs s_read_table) (defBody s_read_table) (defScope s_read_table) .none kV_read_table dc_read_table pm_read_table an_read_table cd_read_table ct_read_table), sl_read_table⟩)
    (c_read_table : PySem.W.codeIn K cd_read_table "read_table" = true)
    (k_read_table : PySem.W.keepIn K (.ref f_read_table) = true)
    (a_rising : PySem.W.nsIn K mainGlobals "_law_rising" = some (some (.ref f_rising)))
    (l_rising : K.lookup f_rising = some ⟨oc_rising, od_rising, .func (PySem.W.fnOf "_law_rising" "_law_rising" (defArgs s_rising) (defBody s_rising) (defScope s_rising) .none kV_rising dc_rising pm_rising an_rising cd_rising ct_rising), sl_rising⟩)
    (c_rising : PySem.W.codeIn K cd_rising "_law_rising" = true)
    (k_rising : PySem.W.keepIn K (.ref f_rising) = true)
    (a_a_state : PySem.W.nsIn K mainGlobals "_law_a_state" = some (some (.ref f_a_state)))
    (l_a_state : K.lookup f_a_state = some ⟨oc_a_state, od_a_state, .func (PySem.W.fnOf "_law_a_state" "_law_a_state" (defArgs s_a_state) (defBody s_a_state) (defScope s_a_state) .none kV_a_state dc_a_state pm_a_state an_a_state cd_a_state ct_a_state), sl_a_state⟩)
    (c_a_state : PySem.W.codeIn K cd_a_state "_law_a_state" = true)
    (k_a_state : PySem.W.keepIn K (.ref f_a_state) = true)
    (a_line : PySem.W.nsIn K mainGlobals "_law_line" = some (some (.ref f_line)))
    (l_line : K.lookup f_line = some ⟨oc_line, od_line, .func (PySem.W.fnOf "_law_line" "_law_line" (defArgs s_line) (defBody s_line) (defScope s_line) .none kV_line dc_line pm_line an_line cd_line ct_line), sl_line⟩)
    (c_line : PySem.W.codeIn K cd_line "_law_line" = true)
    (k_line : PySem.W.keepIn K (.ref f_line) = true)
    (a_state_line : PySem.W.nsIn K mainGlobals "_law_state_line" = some (some (.ref f_state_line)))
    (l_state_line : K.lookup f_state_line = some ⟨oc_state_line, od_state_line, .func (PySem.W.fnOf "_law_state_line" "_law_state_line" (defArgs s_state_line) (defBody s_state_line) (defScope s_state_line) .none kV_state_line dc_state_line pm_state_line an_state_line cd_state_line ct_state_line), sl_state_line⟩)
    (c_state_line : PySem.W.codeIn K cd_state_line "_law_state_line" = true)
    (k_state_line : PySem.W.keepIn K (.ref f_state_line) = true)
    (a_due_numbers : PySem.W.nsIn K mainGlobals "_law_due_numbers" = some (some (.ref f_due_numbers)))
    (l_due_numbers : K.lookup f_due_numbers = some ⟨oc_due_numbers, od_due_numbers, .func (PySem.W.fnOf "_law_due_numbers" "_law_due_numbers" (defArgs s_due_numbers) (defBody s_due_numbers) (defScope s_due_numbers) .none kV_due_numbers dc_due_numbers pm_due_numbers an_due_numbers cd_due_numbers ct_due_numbers), sl_due_numbers⟩)
    (c_due_numbers : PySem.W.codeIn K cd_due_numbers "_law_due_numbers" = true)
    (k_due_numbers : PySem.W.keepIn K (.ref f_due_numbers) = true)
    (a_is_rising' : PySem.W.nsIn K mainGlobals "_law_is_rising" = some (some (.ref f_is_rising')))
    (l_is_rising' : K.lookup f_is_rising' = some ⟨oc_is_rising', od_is_rising', .func (PySem.W.fnOf "_law_is_rising" "_law_is_rising" (defArgs s_is_rising') (defBody s_is_rising') (defScope s_is_rising') .none kV_is_rising' dc_is_rising' pm_is_rising' an_is_rising' cd_is_rising' ct_is_rising'), sl_is_rising'⟩)
    (c_is_rising' : PySem.W.codeIn K cd_is_rising' "_law_is_rising" = true)
    (k_is_rising' : PySem.W.keepIn K (.ref f_is_rising') = true)
    (a_due_state : PySem.W.nsIn K mainGlobals "_law_due_state" = some (some (.ref f_due_state)))
    (l_due_state : K.lookup f_due_state = some ⟨oc_due_state, od_due_state, .func (PySem.W.fnOf "_law_due_state" "_law_due_state" (defArgs s_due_state) (defBody s_due_state) (defScope s_due_state) .none kV_due_state dc_due_state pm_due_state an_due_state cd_due_state ct_due_state), sl_due_state⟩)
    (c_due_state : PySem.W.codeIn K cd_due_state "_law_due_state" = true)
    (k_due_state : PySem.W.keepIn K (.ref f_due_state) = true)
    (a_due_table : PySem.W.nsIn K mainGlobals "_law_due_table" = some (some (.ref f_due_table)))
    (l_due_table : K.lookup f_due_table = some ⟨oc_due_table, od_due_table, .func (PySem.W.fnOf "_law_due_table" "_law_due_table" (defArgs s_due_table) (defBody s_due_table) (defScope s_due_table) .none kV_due_table dc_due_table pm_due_table an_due_table cd_due_table ct_due_table), sl_due_table⟩)
    (c_due_table : PySem.W.codeIn K cd_due_table "_law_due_table" = true)
    (k_due_table : PySem.W.keepIn K (.ref f_due_table) = true)
    (a_bent : PySem.W.nsIn K mainGlobals "_law_bent" = some (some (.ref f_bent)))
    (l_bent : K.lookup f_bent = some ⟨oc_bent, od_bent, .func (PySem.W.fnOf "_law_bent" "_law_bent" (defArgs s_bent) (defBody s_bent) (defScope s_bent) .none kV_bent dc_bent pm_bent an_bent cd_bent ct_bent), sl_bent⟩)
    (c_bent : PySem.W.codeIn K cd_bent "_law_bent" = true)
    (k_bent : PySem.W.keepIn K (.ref f_bent) = true)
    (a_strings_right : PySem.W.nsIn K mainGlobals "_law_strings_right" = some (some (.ref f_strings_right)))
    (l_strings_right : K.lookup f_strings_right = some ⟨oc_strings_right, od_strings_right, .func (PySem.W.fnOf "_law_strings_right" "_law_strings_right" (defArgs s_strings_right) (defBody s_strings_right) (defScope s_strings_right) .none kV_strings_right dc_strings_right pm_strings_right an_strings_right cd_strings_right ct_strings_right), sl_strings_right⟩)
    (c_strings_right : PySem.W.codeIn K cd_strings_right "_law_strings_right" = true)
    (k_strings_right : PySem.W.keepIn K (.ref f_strings_right) = true)
    (a_right : PySem.W.nsIn K mainGlobals "_law_right" = some (some (.ref f_right)))
    (l_right : K.lookup f_right = some ⟨oc_right, od_right, .func (PySem.W.fnOf "_law_right" "_law_right" (defArgs s_right) (defBody s_right) (defScope s_right) .none kV_right dc_right pm_right an_right cd_right ct_right), sl_right⟩)
    (c_right : PySem.W.codeIn K cd_right "_law_right" = true)
    (k_right : PySem.W.keepIn K (.ref f_right) = true)
    (a_law : PySem.W.nsIn K mainGlobals "law" = some (some (.ref f_law)))
    (l_law : K.lookup f_law = some ⟨oc_law, od_law, .func (PySem.W.fnOf "law" "law" (defArgs s_law) (defBody s_law) (defScope s_law) .none kV_law dc_law pm_law an_law cd_law ct_law), sl_law⟩)
    (c_law : PySem.W.codeIn K cd_law "law" = true)
    (k_law : PySem.W.keepIn K (.ref f_law) = true)
    (te_strings_right : cd_strings_right = .ref tc_strings_right)
    (z_set : PySem.W.nsIn K mainGlobals "set" = some none)
    (z_len : PySem.W.nsIn K mainGlobals "len" = some none)
    (z_int : PySem.W.nsIn K mainGlobals "int" = some none)
    (z_bool : PySem.W.nsIn K mainGlobals "bool" = some none)
    (z_str : PySem.W.nsIn K mainGlobals "str" = some none)
    (z_list : PySem.W.nsIn K mainGlobals "list" = some none)
    (z_tuple : PySem.W.nsIn K mainGlobals "tuple" = some none)
    (z_dict : PySem.W.nsIn K mainGlobals "dict" = some none)
    (z_abs : PySem.W.nsIn K mainGlobals "abs" = some none)
    (z_max : PySem.W.nsIn K mainGlobals "max" = some none)
    (z_min : PySem.W.nsIn K mainGlobals "min" = some none)
    (z_range : PySem.W.nsIn K mainGlobals "range" = some none)
    (z_repr : PySem.W.nsIn K mainGlobals "repr" = some none)
    (z_isinstance : PySem.W.nsIn K mainGlobals "isinstance" = some none)
    (z_all : PySem.W.nsIn K mainGlobals "all" = some none)
    (z_any : PySem.W.nsIn K mainGlobals "any" = some none)
    (z_sorted : PySem.W.nsIn K mainGlobals "sorted" = some none)
    (z_enumerate : PySem.W.nsIn K mainGlobals "enumerate" = some none)
    (z_zip : PySem.W.nsIn K mainGlobals "zip" = some none)
    (i_LONGEST : PySem.W.nsIn K mainGlobals "LONGEST" = some (some (.int (10 ^ 60) t_LONGEST)))
    (i_MAX_DIGITS : PySem.W.nsIn K mainGlobals "MAX_DIGITS" = some (some (.int (60) t_MAX_DIGITS)))
    (i_DIGITS : PySem.W.nsIn K mainGlobals "DIGITS" = some (some (.str "0123456789" t_DIGITS)))
    (i_NOTHING : PySem.W.nsIn K mainGlobals "NOTHING" = some (some (.str "-" t_NOTHING)))
    (i_NONE : PySem.W.nsIn K mainGlobals "NONE" = some (some (.str "none" t_NONE)))
    (i_BAR : PySem.W.nsIn K mainGlobals "BAR" = some (some (.str " | " t_BAR)))
    (i_BETWEEN : PySem.W.nsIn K mainGlobals "BETWEEN" = some (some (.str "; " t_BETWEEN))) :
    ∃ fd : FuncData, (∀ (s : Shared) (v : Value), BindsTo s fd ⟨[v], []⟩ [("_law_script", v)]) ∧ ∀ base : Heap, K.In base → base.Ns mainGlobals mg → LamX.TabB base mg tc_strings_right tp_strings_right → FnG l.prog w K mg base (L2.CX l.prog w) 13 fa fd ["_law_script"] (spLaw [(tp_strings_right, "_law_strings_right.<locals>.<lambda>")] K) := by
  have e := hfa.symm.trans (PySem.W.mg_of X G a_law)
  cases e
  have T : Txt K mg := ⟨PySem.W.mg_none_of X G z_set, PySem.W.mg_none_of X G z_len, PySem.W.mg_none_of X G z_int, PySem.W.mg_none_of X G z_bool, PySem.W.mg_none_of X G z_str, PySem.W.mg_none_of X G z_list, PySem.W.mg_none_of X G z_tuple, PySem.W.mg_none_of X G z_dict, PySem.W.mg_none_of X G z_abs, PySem.W.mg_none_of X G z_max, PySem.W.mg_none_of X G z_min, PySem.W.mg_none_of X G z_range, PySem.W.mg_none_of X G z_repr, PySem.W.mg_none_of X G z_isinstance, PySem.W.mg_none_of X G z_all, PySem.W.mg_none_of X G z_any, PySem.W.mg_none_of X G z_sorted, PySem.W.mg_none_of X G z_enumerate, PySem.W.mg_none_of X G z_zip⟩
  have F_dice := fun_mk (st := s_dice) l_dice c_dice k_dice
  have m_dice := PySem.W.mg_of X G a_dice
  have b_dice := F_dice.binds (ps := ps_dice) fun _ _ _ _ _ _ us hl => match us, hl with | [_, _], _ => rfl
  have F_roll := fun_mk (st := s_roll) l_roll c_roll k_roll
  have m_roll := PySem.W.mg_of X G a_roll
  have b_roll := F_roll.binds (ps := ps_roll) fun _ _ _ _ _ _ us hl => match us, hl with | [_, _], _ => rfl
  have F_pick := fun_mk (st := s_pick) l_pick c_pick k_pick
  have m_pick := PySem.W.mg_of X G a_pick
  have b_pick := F_pick.binds (ps := ps_pick) fun _ _ _ _ _ _ us hl => match us, hl with | [_, _], _ => rfl
  have F_some := fun_mk (st := s_some) l_some c_some k_some
  have m_some := PySem.W.mg_of X G a_some
  have b_some := F_some.binds (ps := ps_some) fun _ _ _ _ _ _ us hl => match us, hl with | [_, _, _], _ => rfl
  have F_got := fun_mk (st := s_got) l_got c_got k_got
  have m_got := PySem.W.mg_of X G a_got
  have b_got := F_got.binds (ps := ps_got) fun _ _ _ _ _ _ us hl => match us, hl with | [_], _ => rfl
  have F_is_integer := fun_mk (st := s_is_integer) l_is_integer c_is_integer k_is_integer
  have m_is_integer := PySem.W.mg_of X G a_is_integer
  have b_is_integer := F_is_integer.binds (ps := ps_is_integer) fun _ _ _ _ _ _ us hl => match us, hl with | [_], _ => rfl
  have F_is_within := fun_mk (st := s_is_within) l_is_within c_is_within k_is_within
  have m_is_within := PySem.W.mg_of X G a_is_within
  have b_is_within := F_is_within.binds (ps := ps_is_within) fun _ _ _ _ _ _ us hl => match us, hl with | [_, _, _], _ => rfl
  have F_number_of := fun_mk (st := s_number_of) l_number_of c_number_of k_number_of
  have m_number_of := PySem.W.mg_of X G a_number_of
  have b_number_of := F_number_of.binds (ps := ps_number_of) fun _ _ _ _ _ _ us hl => match us, hl with | [_], _ => rfl
  have F_require_string := fun_mk (st := s_require_string) l_require_string c_require_string k_require_string
  have m_require_string := PySem.W.mg_of X G a_require_string
  have b_require_string := F_require_string.binds (ps := ps_require_string) fun _ _ _ _ _ _ us hl => match us, hl with | [_], _ => rfl
  have F_are_numbers := fun_mk (st := s_are_numbers) l_are_numbers c_are_numbers k_are_numbers
  have m_are_numbers := PySem.W.mg_of X G a_are_numbers
  have b_are_numbers := F_are_numbers.binds (ps := ps_are_numbers) fun _ _ _ _ _ _ us hl => match us, hl with | [_], _ => rfl
  have F_is_rising := fun_mk (st := s_is_rising) l_is_rising c_is_rising k_is_rising
  have m_is_rising := PySem.W.mg_of X G a_is_rising
  have b_is_rising := F_is_rising.binds (ps := ps_is_rising) fun _ _ _ _ _ _ us hl => match us, hl with | [_], _ => rfl
  have F_numbers_text := fun_mk (st := s_numbers_text) l_numbers_text c_numbers_text k_numbers_text
  have m_numbers_text := PySem.W.mg_of X G a_numbers_text
  have b_numbers_text := F_numbers_text.binds (ps := ps_numbers_text) fun _ _ _ _ _ _ us hl => match us, hl with | [_], _ => rfl
  have F_numbers_of := fun_mk (st := s_numbers_of) l_numbers_of c_numbers_of k_numbers_of
  have m_numbers_of := PySem.W.mg_of X G a_numbers_of
  have b_numbers_of := F_numbers_of.binds (ps := ps_numbers_of) fun _ _ _ _ _ _ us hl => match us, hl with | [_], _ => rfl
  have F_write_numbers := fun_mk (st := s_write_numbers) l_write_numbers c_write_numbers k_write_numbers
  have m_write_numbers := PySem.W.mg_of X G a_write_numbers
  have b_write_numbers := F_write_numbers.binds (ps := ps_write_numbers) fun _ _ _ _ _ _ us hl => match us, hl with | [_], _ => rfl
  have F_read_numbers := fun_mk (st := s_read_numbers) l_read_numbers c_read_numbers k_read_numbers
  have m_read_numbers := PySem.W.mg_of X G a_read_numbers
  have b_read_numbers := F_read_numbers.binds (ps := ps_read_numbers) fun _ _ _ _ _ _ us hl => match us, hl with | [_], _ => rfl
  have F_is_state_row := fun_mk (st := s_is_state_row) l_is_state_row c_is_state_row k_is_state_row
  have m_is_state_row := PySem.W.mg_of X G a_is_state_row
  have b_is_state_row := F_is_state_row.binds (ps := ps_is_state_row) fun _ _ _ _ _ _ us hl => match us, hl with | [_], _ => rfl
  have F_state_text := fun_mk (st := s_state_text) l_state_text c_state_text k_state_text
  have m_state_text := PySem.W.mg_of X G a_state_text
  have b_state_text := F_state_text.binds (ps := ps_state_text) fun _ _ _ _ _ _ us hl => match us, hl with | [_], _ => rfl
  have F_state_of := fun_mk (st := s_state_of) l_state_of c_state_of k_state_of
  have m_state_of := PySem.W.mg_of X G a_state_of
  have b_state_of := F_state_of.binds (ps := ps_state_of) fun _ _ _ _ _ _ us hl => match us, hl with | [_], _ => rfl
  have F_write_state := fun_mk (st := s_write_state) l_write_state c_write_state k_write_state
  have m_write_state := PySem.W.mg_of X G a_write_state
  have b_write_state := F_write_state.binds (ps := ps_write_state) fun _ _ _ _ _ _ us hl => match us, hl with | [_], _ => rfl
  have F_read_state := fun_mk (st := s_read_state) l_read_state c_read_state k_read_state
  have m_read_state := PySem.W.mg_of X G a_read_state
  have b_read_state := F_read_state.binds (ps := ps_read_state) fun _ _ _ _ _ _ us hl => match us, hl with | [_], _ => rfl
  have F_is_table_row := fun_mk (st := s_is_table_row) l_is_table_row c_is_table_row k_is_table_row
  have m_is_table_row := PySem.W.mg_of X G a_is_table_row
  have b_is_table_row := F_is_table_row.binds (ps := ps_is_table_row) fun _ _ _ _ _ _ us hl => match us, hl with | [_], _ => rfl
  have F_write_table := fun_mk (st := s_write_table) l_write_table c_write_table k_write_table
  have m_write_table := PySem.W.mg_of X G a_write_table
  have b_write_table := F_write_table.binds (ps := ps_write_table) fun _ _ _ _ _ _ us hl => match us, hl with | [_], _ => rfl
  have F_table_row_of := fun_mk (st := s_table_row_of) l_table_row_of c_table_row_of k_table_row_of
  have m_table_row_of := PySem.W.mg_of X G a_table_row_of
  have b_table_row_of := F_table_row_of.binds (ps := ps_table_row_of) fun _ _ _ _ _ _ us hl => match us, hl with | [_], _ => rfl
  have F_read_table := fun_mk (st := s_read_table) l_read_table c_read_table k_read_table
  have m_read_table := PySem.W.mg_of X G a_read_table
  have b_read_table := F_read_table.binds (ps := ps_read_table) fun _ _ _ _ _ _ us hl => match us, hl with | [_], _ => rfl
  have F_rising := fun_mk (st := s_rising) l_rising c_rising k_rising
  have m_rising := PySem.W.mg_of X G a_rising
  have b_rising := F_rising.binds (ps := ps_rising) fun _ _ _ _ _ _ us hl => match us, hl with | [_, _], _ => rfl
  have F_a_state := fun_mk (st := s_a_state) l_a_state c_a_state k_a_state
  have m_a_state := PySem.W.mg_of X G a_a_state
  have b_a_state := F_a_state.binds (ps := ps_a_state) fun _ _ _ _ _ _ us hl => match us, hl with | [_], _ => rfl
  have F_line := fun_mk (st := s_line) l_line c_line k_line
  have m_line := PySem.W.mg_of X G a_line
  have b_line := F_line.binds (ps := ps_line) fun _ _ _ _ _ _ us hl => match us, hl with | [_], _ => rfl
  have F_state_line := fun_mk (st := s_state_line) l_state_line c_state_line k_state_line
  have m_state_line := PySem.W.mg_of X G a_state_line
  have b_state_line := F_state_line.binds (ps := ps_state_line) fun _ _ _ _ _ _ us hl => match us, hl with | [_], _ => rfl
  have F_due_numbers := fun_mk (st := s_due_numbers) l_due_numbers c_due_numbers k_due_numbers
  have m_due_numbers := PySem.W.mg_of X G a_due_numbers
  have b_due_numbers := F_due_numbers.binds (ps := ps_due_numbers) fun _ _ _ _ _ _ us hl => match us, hl with | [_], _ => rfl
  have F_is_rising' := fun_mk (st := s_is_rising') l_is_rising' c_is_rising' k_is_rising'
  have m_is_rising' := PySem.W.mg_of X G a_is_rising'
  have b_is_rising' := F_is_rising'.binds (ps := ps_is_rising') fun _ _ _ _ _ _ us hl => match us, hl with | [_], _ => rfl
  have F_due_state := fun_mk (st := s_due_state) l_due_state c_due_state k_due_state
  have m_due_state := PySem.W.mg_of X G a_due_state
  have b_due_state := F_due_state.binds (ps := ps_due_state) fun _ _ _ _ _ _ us hl => match us, hl with | [_], _ => rfl
  have F_due_table := fun_mk (st := s_due_table) l_due_table c_due_table k_due_table
  have m_due_table := PySem.W.mg_of X G a_due_table
  have b_due_table := F_due_table.binds (ps := ps_due_table) fun _ _ _ _ _ _ us hl => match us, hl with | [_], _ => rfl
  have F_bent := fun_mk (st := s_bent) l_bent c_bent k_bent
  have m_bent := PySem.W.mg_of X G a_bent
  have b_bent := F_bent.binds (ps := ps_bent) fun _ _ _ _ _ _ us hl => match us, hl with | [_, _], _ => rfl
  have F_strings_right := fun_mk (st := s_strings_right) l_strings_right c_strings_right k_strings_right
  have m_strings_right := PySem.W.mg_of X G a_strings_right
  have b_strings_right := F_strings_right.binds (ps := ps_strings_right) fun _ _ _ _ _ _ us hl => match us, hl with | [_, _, _], _ => rfl
  have F_right := fun_mk (st := s_right) l_right c_right k_right
  have m_right := PySem.W.mg_of X G a_right
  have b_right := F_right.binds (ps := ps_right) fun _ _ _ _ _ _ us hl => match us, hl with | [_], _ => rfl
  have F_law := fun_mk (st := s_law) l_law c_law k_law
  have m_law := PySem.W.mg_of X G a_law
  have b_law := F_law.binds (ps := ps_law) fun _ _ _ _ _ _ us hl => match us, hl with | [_], _ => rfl
  have F_ParseError_init := fun_mk (st := s_ParseError_init) l_ParseError_init c_ParseError_init k_ParseError_init
  have b_ParseError_init := F_ParseError_init.binds (ps := ps_ParseError_init) fun _ _ _ _ _ _ us hl => match us, hl with | [_, _], _ => rfl
  have m_CT := PySem.W.mg_of X G a_CT
  have m_CO := PySem.W.mg_of X G a_CO
  have m_CE := PySem.W.mg_of X G a_CE
  have g_LONGEST := PySem.W.mg_of X G i_LONGEST
  have g_MAX_DIGITS := PySem.W.mg_of X G i_MAX_DIGITS
  have g_DIGITS := PySem.W.mg_of X G i_DIGITS
  have g_NOTHING := PySem.W.mg_of X G i_NOTHING
  have g_NONE := PySem.W.mg_of X G i_NONE
  have g_BAR := PySem.W.mg_of X G i_BAR
  have g_BETWEEN := PySem.W.mg_of X G i_BETWEEN
  refine ⟨PySem.W.fnOf "law" "law" (defArgs s_law) (defBody s_law) (defScope s_law) .none kV_law dc_law pm_law an_law cd_law ct_law, fun s v => .of_eq rfl, fun base _ _ tb_strings_right => ?_⟩
  have LT_strings_right : LamT [(tp_strings_right, "_law_strings_right.<locals>.<lambda>")] base mg (PySem.W.fnOf "_law_strings_right" "_law_strings_right" (defArgs s_strings_right) (defBody s_strings_right) (defScope s_strings_right) .none kV_strings_right dc_strings_right pm_strings_right an_strings_right cd_strings_right ct_strings_right) "_law_strings_right.<locals>.<lambda>" := ⟨⟨_, _, te_strings_right, tb_strings_right, by simp, tab_uniq tn (by simp)⟩⟩
  obtain ⟨A, eT, eO, eE⟩ : ∃ A : Adr, A.cInvalidTable = CT ∧ A.cInvalidOperation = CO ∧ A.cParseError = CE := ⟨⟨CT, CO, CE⟩, rfl, rfl, rfl⟩
  subst eT eO eE
  have e_pp := exm_is xb_CE xi_CE xt_CE xb_CE xi_CE xt_CE xs_CE
  have EC : EK K A := ⟨e_pp⟩
  have OX : OexC K A.cParseError := ⟨of_exB ex_CE, sa_CE, xb_CE, xt_CE, xk_CE⟩
  have E_InvalidTable : ExC K mg "InvalidTable" A.cInvalidTable := ⟨xx_CT, m_CT, xk_CT, xb_CT, xt_CT⟩
  have E_InvalidOperation : ExC K mg "InvalidOperation" A.cInvalidOperation := ⟨xx_CO, m_CO, xk_CO, xb_CO, xt_CO⟩
  have C_roll0 : Cal l.prog w K mg base "_law_roll" 1 ps_roll spRoll := ⟨⟨_, _, ok_roll F_roll T, m_roll, k_roll, b_roll⟩⟩
  have C_roll : CalF l.prog w K mg base "_law_roll" 1 2 (G_roll K A) := ⟨⟨_, _, _, fn_roll (ok_roll F_roll T), m_roll, k_roll, b_roll⟩⟩
  have C_pick : CalF l.prog w K mg base "_law_pick" 2 2 (G_pick K A) := ⟨⟨_, _, _, fn_pick (ok_pick F_pick T C_roll0), m_pick, k_pick, b_pick⟩⟩
  have C_some : CalF l.prog w K mg base "_law_some" 2 3 (G_some K A) := ⟨⟨_, _, _, fn_some (ok_some F_some T C_roll0), m_some, k_some, b_some⟩⟩
  have C_dice : CalF l.prog w K mg base "_law_dice" 1 2 (G_dice K A) := ⟨⟨_, _, _, fn_diceD (ok_dice F_dice T), m_dice, k_dice, b_dice⟩⟩
  have C_is_integer : CalF l.prog w K mg base "is_integer" 1 1 (G_is_integer K A) := ⟨⟨_, _, _, ok_is_integer F_is_integer T g_LONGEST, m_is_integer, k_is_integer, b_is_integer⟩⟩
  have C_is_within : CalF l.prog w K mg base "is_within" 2 3 (G_is_within K A) := ⟨⟨_, _, _, ok_is_within F_is_within T C_is_integer, m_is_within, k_is_within, b_is_within⟩⟩
  have C_number_of : CalF l.prog w K mg base "number_of" 1 1 (G_number_of K A) := ⟨⟨_, _, _, ok_number_of F_number_of T g_DIGITS g_MAX_DIGITS, m_number_of, k_number_of, b_number_of⟩⟩
  have Z_ParseError : CalX l.prog w K mg base "ParseError" A.cParseError 1 "line" := ⟨OX, m_CE, ⟨_, _, _, a_ParseError_init, ti_CE, ok_xinit F_ParseError_init OX no_CE, b_ParseError_init⟩⟩
  have C_require_string : CalF l.prog w K mg base "require_string" 3 1 (G_require_string K A) := ⟨⟨_, _, _, ok_require_string F_require_string T Z_ParseError, m_require_string, k_require_string, b_require_string⟩⟩
  have C_are_numbers : CalF l.prog w K mg base "are_numbers" 3 1 (G_are_numbers K A) := ⟨⟨_, _, _, ok_are_numbers F_are_numbers T g_LONGEST C_is_within, m_are_numbers, k_are_numbers, b_are_numbers⟩⟩
  have C_is_rising : CalF l.prog w K mg base "is_rising" 4 1 (G_is_rising K A) := ⟨⟨_, _, _, ok_is_rising F_is_rising T C_are_numbers, m_is_rising, k_is_rising, b_is_rising⟩⟩
  have C_numbers_text : CalF l.prog w K mg base "numbers_text" 1 1 (G_numbers_text K A) := ⟨⟨_, _, _, ok_numbers_text F_numbers_text T g_NOTHING, m_numbers_text, k_numbers_text, b_numbers_text⟩⟩
  have C_numbers_of : CalF l.prog w K mg base "numbers_of" 2 1 (G_numbers_of K A) := ⟨⟨_, _, _, ok_numbers_of F_numbers_of T g_NOTHING C_number_of, m_numbers_of, k_numbers_of, b_numbers_of⟩⟩
  have C_write_numbers : CalF l.prog w K mg base "write_numbers" 4 1 (G_write_numbers K A) := ⟨⟨_, _, _, ok_write_numbers F_write_numbers T C_are_numbers C_numbers_text E_InvalidOperation, m_write_numbers, k_write_numbers, b_write_numbers⟩⟩
  have C_read_numbers : CalF l.prog w K mg base "read_numbers" 4 1 (G_read_numbers K A) := ⟨⟨_, _, _, ok_read_numbers F_read_numbers T C_require_string C_numbers_of Z_ParseError, m_read_numbers, k_read_numbers, b_read_numbers⟩⟩
  have C_is_state_row : CalF l.prog w K mg base "is_state_row" 5 1 (G_is_state_row K A) := ⟨⟨_, _, _, ok_is_state_row F_is_state_row T C_is_rising, m_is_state_row, k_is_state_row, b_is_state_row⟩⟩
  have C_state_text : CalF l.prog w K mg base "state_text" 2 1 (G_state_text K A) := ⟨⟨_, _, _, ok_state_text F_state_text T g_BETWEEN g_BAR g_NONE C_numbers_text, m_state_text, k_state_text, b_state_text⟩⟩
  have C_state_of : CalF l.prog w K mg base "state_of" 6 1 (G_state_of K A) := ⟨⟨_, _, _, ok_state_of F_state_of T g_BAR g_NONE g_BETWEEN C_numbers_of C_is_state_row, m_state_of, k_state_of, b_state_of⟩⟩
  have C_write_state : CalF l.prog w K mg base "write_state" 6 1 (G_write_state K A) := ⟨⟨_, _, _, ok_write_state F_write_state T C_is_state_row C_state_text E_InvalidTable, m_write_state, k_write_state, b_write_state⟩⟩
  have C_read_state : CalF l.prog w K mg base "read_state" 7 1 (G_read_state K A) := ⟨⟨_, _, _, ok_read_state F_read_state T C_require_string C_state_of Z_ParseError, m_read_state, k_read_state, b_read_state⟩⟩
  have C_is_table_row : CalF l.prog w K mg base "is_table_row" 6 1 (G_is_table_row K A) := ⟨⟨_, _, _, ok_is_table_row F_is_table_row T C_are_numbers C_is_state_row, m_is_table_row, k_is_table_row, b_is_table_row⟩⟩
  have C_write_table : CalF l.prog w K mg base "write_table" 7 1 (G_write_table K A) := ⟨⟨_, _, _, ok_write_table F_write_table T g_NONE C_is_table_row C_state_text E_InvalidTable, m_write_table, k_write_table, b_write_table⟩⟩
  have C_table_row_of : CalF l.prog w K mg base "table_row_of" 7 1 (G_table_row_of K A) := ⟨⟨_, _, _, ok_table_row_of F_table_row_of T C_numbers_of C_state_of, m_table_row_of, k_table_row_of, b_table_row_of⟩⟩
  have C_read_table : CalF l.prog w K mg base "read_table" 8 1 (G_read_table K A) := ⟨⟨_, _, _, ok_read_table F_read_table T g_NONE C_require_string C_table_row_of Z_ParseError, m_read_table, k_read_table, b_read_table⟩⟩
  have C_rising : CalF l.prog w K mg base "_law_rising" 3 2 (G_rising K A) := ⟨⟨_, _, _, ok_rising F_rising T C_some C_roll, m_rising, k_rising, b_rising⟩⟩
  have C_a_state : CalF l.prog w K mg base "_law_a_state" 4 1 (G_a_state K A) := ⟨⟨_, _, _, ok_a_state F_a_state T C_roll C_rising, m_a_state, k_a_state, b_a_state⟩⟩
  have C_line : CalF l.prog w K mg base "_law_line" 1 1 (G_line K A) := ⟨⟨_, _, _, ok_line F_line T , m_line, k_line, b_line⟩⟩
  have C_state_line : CalF l.prog w K mg base "_law_state_line" 2 1 (G_state_line K A) := ⟨⟨_, _, _, ok_state_line F_state_line T C_line, m_state_line, k_state_line, b_state_line⟩⟩
  have C_due_numbers : CalF l.prog w K mg base "_law_due_numbers" 1 1 (G_due_numbers K A) := ⟨⟨_, _, _, ok_due_numbers F_due_numbers T , m_due_numbers, k_due_numbers, b_due_numbers⟩⟩
  have C_is_rising' : CalF l.prog w K mg base "_law_is_rising" 1 1 (G_is_rising' K A) := ⟨⟨_, _, _, ok_is_rising' F_is_rising' T , m_is_rising', k_is_rising', b_is_rising'⟩⟩
  have C_due_state : CalF l.prog w K mg base "_law_due_state" 2 1 (G_due_state K A) := ⟨⟨_, _, _, ok_due_state F_due_state T C_due_numbers C_is_rising', m_due_state, k_due_state, b_due_state⟩⟩
  have C_due_table : CalF l.prog w K mg base "_law_due_table" 3 1 (G_due_table K A) := ⟨⟨_, _, _, ok_due_table F_due_table T C_due_numbers C_due_state, m_due_table, k_due_table, b_due_table⟩⟩
  have C_bent : CalF l.prog w K mg base "_law_bent" 3 2 (G_bent K A) := ⟨⟨_, _, _, ok_bent F_bent T C_roll C_pick, m_bent, k_bent, b_bent⟩⟩
  have X_ParseError_line : ErF K A.cParseError "line" := ⟨⟨ga_CE, gg_CE, xb_CE, hd_CE⟩, no_CE⟩
  have G_got_ : CalGot K mg "_law_got" s_got "_law_call" := ⟨⟨_, _, F_got, m_got, k_got, b_got⟩⟩
  have C_strings_right : CalQG _ l.prog w K mg base "_law_strings_right" 11 3 (G_strings_right K A) := ⟨⟨_, _, _, ok_strings_right F_strings_right T C_due_numbers C_read_numbers C_due_state C_read_state C_due_table C_read_table X_ParseError_line G_got_ LT_strings_right m_CE, m_strings_right, k_strings_right, b_strings_right⟩⟩
  have C_right : CalQG _ l.prog w K mg base "_law_right" 12 1 (G_right K A) := ⟨⟨_, _, _, ok_right F_right T C_roll C_pick C_a_state C_some C_line C_state_line C_write_table C_write_state C_write_numbers C_read_table C_read_state C_read_numbers C_bent C_strings_right, m_right, k_right, b_right⟩⟩
  exact law_top EC (ok_law F_law T C_dice C_right)
theorem h_a_CT {K : PySem.W.Frag} (hc : chk0 K = true) (hp : prtH K = expd) : PySem.W.nsIn K mainGlobals "InvalidTable" = some (some (.ref (q_CT K))) := of_ref (ba1 hc)
theorem h_a_CO {K : PySem.W.Frag} (hc : chk0 K = true) (hp : prtH K = expd) : PySem.W.nsIn K mainGlobals "InvalidOperation" = some (some (.ref (q_CO K))) := of_ref (ba1 (ba2 hc))
theorem h_a_CE {K : PySem.W.Frag} (hc : chk0 K = true) (hp : prtH K = expd) : PySem.W.nsIn K mainGlobals "ParseError" = some (some (.ref (q_CE K))) := of_ref (ba1 (ba2 (ba2 hc)))
theorem h_a_ParseError_init {K : PySem.W.Frag} (hc : chk0 K = true) (hp : prtH K = expd) : PySem.W.findIn K (.ref (q_CE K)) "__init__" = some (some (.ref (q_f_ParseError_init K))) := of_ref (ba1 (ba2 (ba2 (ba2 hc))))
theorem h_i_ParseError_init {K : PySem.W.Frag} (hc : chk0 K = true) (hp : prtH K = expd) : PySem.W.isFn K (.ref (q_f_ParseError_init K)) = true := (ba1 (ba2 (ba2 (ba2 (ba2 hc)))))
theorem h_l_ParseError_init {K : PySem.W.Frag} (hc : chk0 K = true) (hp : prtH K = expd) : K.lookup (q_f_ParseError_init K) = some ⟨ocOf (K.lookup (q_f_ParseError_init K)), odOf (K.lookup (q_f_ParseError_init K)), .func (PySem.W.fnOf "__init__" "ParseError.__init__" (defArgs s_ParseError_init) (defBody s_ParseError_init) (defScope s_ParseError_init) .none (fdOf (K.lookup (q_f_ParseError_init K))).kwdefaults (fdOf (K.lookup (q_f_ParseError_init K))).doc (fdOf (K.lookup (q_f_ParseError_init K))).pyModule (fdOf (K.lookup (q_f_ParseError_init K))).annotations (fdOf (K.lookup (q_f_ParseError_init K))).code (fdOf (K.lookup (q_f_ParseError_init K))).closureTuple), slOf (K.lookup (q_f_ParseError_init K))⟩ := of_fn (ba1 (ba2 (ba2 (ba2 (ba2 (ba2 hc)))))) (Option.some.inj (nthEq hp 0))
theorem h_c_ParseError_init {K : PySem.W.Frag} (hc : chk0 K = true) (hp : prtH K = expd) : PySem.W.codeIn K (fdOf (K.lookup (q_f_ParseError_init K))).code "ParseError.__init__" = true := (ba1 (ba2 (ba2 (ba2 (ba2 (ba2 (ba2 hc)))))))
theorem h_k_ParseError_init {K : PySem.W.Frag} (hc : chk0 K = true) (hp : prtH K = expd) : PySem.W.keepIn K (.ref (q_f_ParseError_init K)) = true := (ba1 (ba2 (ba2 (ba2 (ba2 (ba2 (ba2 (ba2 hc))))))))
theorem h_x_ParseError_init {K : PySem.W.Frag} (hc : chk0 K = true) (hp : prtH K = expd) : PySem.W.fnIn K (q_f_ParseError_init K) = true := (ba1 (ba2 (ba2 (ba2 (ba2 (ba2 (ba2 (ba2 (ba2 hc)))))))))
theorem h_xx_CT {K : PySem.W.Frag} (hc : chk0 K = true) (hp : prtH K = expd) : PySem.W.excIn K (q_CT K) [.type "ValueError", .type "Exception", .type "BaseException", .type "object"] "ValueError.__new__" = true := (ba1 (ba2 (ba2 (ba2 (ba2 (ba2 (ba2 (ba2 (ba2 (ba2 hc))))))))))
theorem h_xk_CT {K : PySem.W.Frag} (hc : chk0 K = true) (hp : prtH K = expd) : PySem.W.keepIn K (.ref (q_CT K)) = true := (ba1 (ba2 (ba2 (ba2 (ba2 (ba2 (ba2 (ba2 (ba2 (ba2 (ba2 hc)))))))))))
theorem h_xb_CT {K : PySem.W.Frag} (hc : chk0 K = true) (hp : prtH K = expd) : PySem.W.subIn K (.ref (q_CT K)) (.type "BaseException") = some true := of_ob (ba1 (ba2 (ba2 (ba2 (ba2 (ba2 (ba2 (ba2 (ba2 (ba2 (ba2 (ba2 hc))))))))))))
theorem h_xt_CT {K : PySem.W.Frag} (hc : chk0 K = true) (hp : prtH K = expd) : PySem.W.typeIn K (.ref (q_CT K)) = some (.type "type") := of_ty (ba1 (ba2 (ba2 (ba2 (ba2 (ba2 (ba2 (ba2 (ba2 (ba2 (ba2 (ba2 (ba2 hc)))))))))))))
theorem h_xi_CT {K : PySem.W.Frag} (hc : chk0 K = true) (hp : prtH K = expd) : PySem.W.isClsIn K (q_CT K) = true := (ba1 (ba2 (ba2 (ba2 (ba2 (ba2 (ba2 (ba2 (ba2 (ba2 (ba2 (ba2 (ba2 (ba2 hc))))))))))))))
theorem h_xs_CT {K : PySem.W.Frag} (hc : chk0 K = true) (hp : prtH K = expd) : PySem.W.subIn K (.ref (q_CT K)) (.ref (q_CT K)) = some true := of_ob (ba1 (ba2 (ba2 (ba2 (ba2 (ba2 (ba2 (ba2 (ba2 (ba2 (ba2 (ba2 (ba2 (ba2 (ba2 hc)))))))))))))))
theorem h_xx_CO {K : PySem.W.Frag} (hc : chk0 K = true) (hp : prtH K = expd) : PySem.W.excIn K (q_CO K) [.type "ValueError", .type "Exception", .type "BaseException", .type "object"] "ValueError.__new__" = true := (ba2 (ba2 (ba2 (ba2 (ba2 (ba2 (ba2 (ba2 (ba2 (ba2 (ba2 (ba2 (ba2 (ba2 (ba2 hc)))))))))))))))
theorem h_xk_CO {K : PySem.W.Frag} (hc : chk1 K = true) (hp : prtH K = expd) : PySem.W.keepIn K (.ref (q_CO K)) = true := (ba1 hc)
theorem h_xb_CO {K : PySem.W.Frag} (hc : chk1 K = true) (hp : prtH K = expd) : PySem.W.subIn K (.ref (q_CO K)) (.type "BaseException") = some true := of_ob (ba1 (ba2 hc))
theorem h_xt_CO {K : PySem.W.Frag} (hc : chk1 K = true) (hp : prtH K = expd) : PySem.W.typeIn K (.ref (q_CO K)) = some (.type "type") := of_ty (ba1 (ba2 (ba2 hc)))
theorem h_xi_CO {K : PySem.W.Frag} (hc : chk1 K = true) (hp : prtH K = expd) : PySem.W.isClsIn K (q_CO K) = true := (ba1 (ba2 (ba2 (ba2 hc))))
theorem h_xs_CO {K : PySem.W.Frag} (hc : chk1 K = true) (hp : prtH K = expd) : PySem.W.subIn K (.ref (q_CO K)) (.ref (q_CO K)) = some true := of_ob (ba1 (ba2 (ba2 (ba2 (ba2 hc)))))
theorem h_xk_CE {K : PySem.W.Frag} (hc : chk1 K = true) (hp : prtH K = expd) : PySem.W.keepIn K (.ref (q_CE K)) = true := (ba1 (ba2 (ba2 (ba2 (ba2 (ba2 hc))))))
theorem h_xb_CE {K : PySem.W.Frag} (hc : chk1 K = true) (hp : prtH K = expd) : PySem.W.subIn K (.ref (q_CE K)) (.type "BaseException") = some true := of_ob (ba1 (ba2 (ba2 (ba2 (ba2 (ba2 (ba2 hc)))))))
theorem h_xt_CE {K : PySem.W.Frag} (hc : chk1 K = true) (hp : prtH K = expd) : PySem.W.typeIn K (.ref (q_CE K)) = some (.type "type") := of_ty (ba1 (ba2 (ba2 (ba2 (ba2 (ba2 (ba2 (ba2 hc))))))))
theorem h_xi_CE {K : PySem.W.Frag} (hc : chk1 K = true) (hp : prtH K = expd) : PySem.W.isClsIn K (q_CE K) = true := (ba1 (ba2 (ba2 (ba2 (ba2 (ba2 (ba2 (ba2 (ba2 hc)))))))))
theorem h_xs_CE {K : PySem.W.Frag} (hc : chk1 K = true) (hp : prtH K = expd) : PySem.W.subIn K (.ref (q_CE K)) (.ref (q_CE K)) = some true := of_ob (ba1 (ba2 (ba2 (ba2 (ba2 (ba2 (ba2 (ba2 (ba2 (ba2 hc))))))))))
theorem h_ex_CE {K : PySem.W.Frag} (hc : chk1 K = true) (hp : prtH K = expd) : Pu.excB K (q_CE K) = true := (ba1 (ba2 (ba2 (ba2 (ba2 (ba2 (ba2 (ba2 (ba2 (ba2 (ba2 hc)))))))))))
theorem h_sa_CE {K : PySem.W.Frag} (hc : chk1 K = true) (hp : prtH K = expd) : PySem.W.findIn K (.ref (q_CE K)) "__setattr__" = some (some (.builtin "object.__setattr__")) := of_bi (ba1 (ba2 (ba2 (ba2 (ba2 (ba2 (ba2 (ba2 (ba2 (ba2 (ba2 (ba2 hc))))))))))))
theorem h_ga_CE {K : PySem.W.Frag} (hc : chk1 K = true) (hp : prtH K = expd) : PySem.W.findIn K (.ref (q_CE K)) "__getattribute__" = some (some (.builtin "BaseException.__getattribute__")) := of_bi (ba1 (ba2 (ba2 (ba2 (ba2 (ba2 (ba2 (ba2 (ba2 (ba2 (ba2 (ba2 (ba2 hc)))))))))))))
theorem h_gg_CE {K : PySem.W.Frag} (hc : chk1 K = true) (hp : prtH K = expd) : PySem.W.findIn K (.ref (q_CE K)) "__getattr__" = some none := of_non2 (ba1 (ba2 (ba2 (ba2 (ba2 (ba2 (ba2 (ba2 (ba2 (ba2 (ba2 (ba2 (ba2 (ba2 hc))))))))))))))
theorem h_hd_CE {K : PySem.W.Frag} (hc : chk1 K = true) (hp : prtH K = expd) : PySem.W.hasDictIn K (q_CE K) = true := (ba1 (ba2 (ba2 (ba2 (ba2 (ba2 (ba2 (ba2 (ba2 (ba2 (ba2 (ba2 (ba2 (ba2 (ba2 hc)))))))))))))))
theorem h_no_CE {K : PySem.W.Frag} (hc : chk1 K = true) (hp : prtH K = expd) : PySem.W.findIn K (.ref (q_CE K)) "line" = some none := of_non2 (ba2 (ba2 (ba2 (ba2 (ba2 (ba2 (ba2 (ba2 (ba2 (ba2 (ba2 (ba2 (ba2 (ba2 (ba2 hc)))))))))))))))
theorem h_ti_CE {K : PySem.W.Frag} (hc : chk2 K = true) (hp : prtH K = expd) : PySem.W.typeIn K (.ref (q_f_ParseError_init K)) = some (.type "function") := of_ty (ba1 hc)
theorem h_a_dice {K : PySem.W.Frag} (hc : chk2 K = true) (hp : prtH K = expd) : PySem.W.nsIn K mainGlobals "_law_dice" = some (some (.ref (q_f_dice K))) := of_ref (ba1 (ba2 hc))
theorem h_l_dice {K : PySem.W.Frag} (hc : chk2 K = true) (hp : prtH K = expd) : K.lookup (q_f_dice K) = some ⟨ocOf (K.lookup (q_f_dice K)), odOf (K.lookup (q_f_dice K)), .func (PySem.W.fnOf "_law_dice" "_law_dice" (defArgs s_dice) (defBody s_dice) (defScope s_dice) .none (fdOf (K.lookup (q_f_dice K))).kwdefaults (fdOf (K.lookup (q_f_dice K))).doc (fdOf (K.lookup (q_f_dice K))).pyModule (fdOf (K.lookup (q_f_dice K))).annotations (fdOf (K.lookup (q_f_dice K))).code (fdOf (K.lookup (q_f_dice K))).closureTuple), slOf (K.lookup (q_f_dice K))⟩ := of_fn (ba1 (ba2 (ba2 hc))) (Option.some.inj (nthEq hp 1))
theorem h_c_dice {K : PySem.W.Frag} (hc : chk2 K = true) (hp : prtH K = expd) : PySem.W.codeIn K (fdOf (K.lookup (q_f_dice K))).code "_law_dice" = true := (ba1 (ba2 (ba2 (ba2 hc))))
theorem h_k_dice {K : PySem.W.Frag} (hc : chk2 K = true) (hp : prtH K = expd) : PySem.W.keepIn K (.ref (q_f_dice K)) = true := (ba1 (ba2 (ba2 (ba2 (ba2 hc)))))
theorem h_a_roll {K : PySem.W.Frag} (hc : chk2 K = true) (hp : prtH K = expd) : PySem.W.nsIn K mainGlobals "_law_roll" = some (some (.ref (q_f_roll K))) := of_ref (ba1 (ba2 (ba2 (ba2 (ba2 (ba2 hc))))))
theorem h_l_roll {K : PySem.W.Frag} (hc : chk2 K = true) (hp : prtH K = expd) : K.lookup (q_f_roll K) = some ⟨ocOf (K.lookup (q_f_roll K)), odOf (K.lookup (q_f_roll K)), .func (PySem.W.fnOf "_law_roll" "_law_roll" (defArgs s_roll) (defBody s_roll) (defScope s_roll) .none (fdOf (K.lookup (q_f_roll K))).kwdefaults (fdOf (K.lookup (q_f_roll K))).doc (fdOf (K.lookup (q_f_roll K))).pyModule (fdOf (K.lookup (q_f_roll K))).annotations (fdOf (K.lookup (q_f_roll K))).code (fdOf (K.lookup (q_f_roll K))).closureTuple), slOf (K.lookup (q_f_roll K))⟩ := of_fn (ba1 (ba2 (ba2 (ba2 (ba2 (ba2 (ba2 hc))))))) (Option.some.inj (nthEq hp 2))
theorem h_c_roll {K : PySem.W.Frag} (hc : chk2 K = true) (hp : prtH K = expd) : PySem.W.codeIn K (fdOf (K.lookup (q_f_roll K))).code "_law_roll" = true := (ba1 (ba2 (ba2 (ba2 (ba2 (ba2 (ba2 (ba2 hc))))))))
theorem h_k_roll {K : PySem.W.Frag} (hc : chk2 K = true) (hp : prtH K = expd) : PySem.W.keepIn K (.ref (q_f_roll K)) = true := (ba1 (ba2 (ba2 (ba2 (ba2 (ba2 (ba2 (ba2 (ba2 hc)))))))))
theorem h_a_pick {K : PySem.W.Frag} (hc : chk2 K = true) (hp : prtH K = expd) : PySem.W.nsIn K mainGlobals "_law_pick" = some (some (.ref (q_f_pick K))) := of_ref (ba1 (ba2 (ba2 (ba2 (ba2 (ba2 (ba2 (ba2 (ba2 (ba2 hc))))))))))
theorem h_l_pick {K : PySem.W.Frag} (hc : chk2 K = true) (hp : prtH K = expd) : K.lookup (q_f_pick K) = some ⟨ocOf (K.lookup (q_f_pick K)), odOf (K.lookup (q_f_pick K)), .func (PySem.W.fnOf "_law_pick" "_law_pick" (defArgs s_pick) (defBody s_pick) (defScope s_pick) .none (fdOf (K.lookup (q_f_pick K))).kwdefaults (fdOf (K.lookup (q_f_pick K))).doc (fdOf (K.lookup (q_f_pick K))).pyModule (fdOf (K.lookup (q_f_pick K))).annotations (fdOf (K.lookup (q_f_pick K))).code (fdOf (K.lookup (q_f_pick K))).closureTuple), slOf (K.lookup (q_f_pick K))⟩ := of_fn (ba1 (ba2 (ba2 (ba2 (ba2 (ba2 (ba2 (ba2 (ba2 (ba2 (ba2 hc))))))))))) (Option.some.inj (nthEq hp 3))
theorem h_c_pick {K : PySem.W.Frag} (hc : chk2 K = true) (hp : prtH K = expd) : PySem.W.codeIn K (fdOf (K.lookup (q_f_pick K))).code "_law_pick" = true := (ba1 (ba2 (ba2 (ba2 (ba2 (ba2 (ba2 (ba2 (ba2 (ba2 (ba2 (ba2 hc))))))))))))
theorem h_k_pick {K : PySem.W.Frag} (hc : chk2 K = true) (hp : prtH K = expd) : PySem.W.keepIn K (.ref (q_f_pick K)) = true := (ba1 (ba2 (ba2 (ba2 (ba2 (ba2 (ba2 (ba2 (ba2 (ba2 (ba2 (ba2 (ba2 hc)))))))))))))
theorem h_a_some {K : PySem.W.Frag} (hc : chk2 K = true) (hp : prtH K = expd) : PySem.W.nsIn K mainGlobals "_law_some" = some (some (.ref (q_f_some K))) := of_ref (ba1 (ba2 (ba2 (ba2 (ba2 (ba2 (ba2 (ba2 (ba2 (ba2 (ba2 (ba2 (ba2 (ba2 hc))))))))))))))
theorem h_l_some {K : PySem.W.Frag} (hc : chk2 K = true) (hp : prtH K = expd) : K.lookup (q_f_some K) = some ⟨ocOf (K.lookup (q_f_some K)), odOf (K.lookup (q_f_some K)), .func (PySem.W.fnOf "_law_some" "_law_some" (defArgs s_some) (defBody s_some) (defScope s_some) .none (fdOf (K.lookup (q_f_some K))).kwdefaults (fdOf (K.lookup (q_f_some K))).doc (fdOf (K.lookup (q_f_some K))).pyModule (fdOf (K.lookup (q_f_some K))).annotations (fdOf (K.lookup (q_f_some K))).code (fdOf (K.lookup (q_f_some K))).closureTuple), slOf (K.lookup (q_f_some K))⟩ := of_fn (ba1 (ba2 (ba2 (ba2 (ba2 (ba2 (ba2 (ba2 (ba2 (ba2 (ba2 (ba2 (ba2 (ba2 (ba2 hc))))))))))))))) (Option.some.inj (nthEq hp 4))
theorem h_c_some {K : PySem.W.Frag} (hc : chk2 K = true) (hp : prtH K = expd) : PySem.W.codeIn K (fdOf (K.lookup (q_f_some K))).code "_law_some" = true := (ba2 (ba2 (ba2 (ba2 (ba2 (ba2 (ba2 (ba2 (ba2 (ba2 (ba2 (ba2 (ba2 (ba2 (ba2 hc)))))))))))))))
theorem h_k_some {K : PySem.W.Frag} (hc : chk3 K = true) (hp : prtH K = expd) : PySem.W.keepIn K (.ref (q_f_some K)) = true := (ba1 hc)
theorem h_a_got {K : PySem.W.Frag} (hc : chk3 K = true) (hp : prtH K = expd) : PySem.W.nsIn K mainGlobals "_law_got" = some (some (.ref (q_f_got K))) := of_ref (ba1 (ba2 hc))
theorem h_l_got {K : PySem.W.Frag} (hc : chk3 K = true) (hp : prtH K = expd) : K.lookup (q_f_got K) = some ⟨ocOf (K.lookup (q_f_got K)), odOf (K.lookup (q_f_got K)), .func (PySem.W.fnOf "_law_got" "_law_got" (defArgs s_got) (defBody s_got) (defScope s_got) .none (fdOf (K.lookup (q_f_got K))).kwdefaults (fdOf (K.lookup (q_f_got K))).doc (fdOf (K.lookup (q_f_got K))).pyModule (fdOf (K.lookup (q_f_got K))).annotations (fdOf (K.lookup (q_f_got K))).code (fdOf (K.lookup (q_f_got K))).closureTuple), slOf (K.lookup (q_f_got K))⟩ := of_fn (ba1 (ba2 (ba2 hc))) (Option.some.inj (nthEq hp 5))
theorem h_c_got {K : PySem.W.Frag} (hc : chk3 K = true) (hp : prtH K = expd) : PySem.W.codeIn K (fdOf (K.lookup (q_f_got K))).code "_law_got" = true := (ba1 (ba2 (ba2 (ba2 hc))))
theorem h_k_got {K : PySem.W.Frag} (hc : chk3 K = true) (hp : prtH K = expd) : PySem.W.keepIn K (.ref (q_f_got K)) = true := (ba1 (ba2 (ba2 (ba2 (ba2 hc)))))
theorem h_a_is_integer {K : PySem.W.Frag} (hc : chk3 K = true) (hp : prtH K = expd) : PySem.W.nsIn K mainGlobals "is_integer" = some (some (.ref (q_f_is_integer K))) := of_ref (ba1 (ba2 (ba2 (ba2 (ba2 (ba2 hc))))))
theorem h_l_is_integer {K : PySem.W.Frag} (hc : chk3 K = true) (hp : prtH K = expd) : K.lookup (q_f_is_integer K) = some ⟨ocOf (K.lookup (q_f_is_integer K)), odOf (K.lookup (q_f_is_integer K)), .func (PySem.W.fnOf "is_integer" "is_integer" (defArgs s_is_integer) (defBody s_is_integer) (defScope s_is_integer) .none (fdOf (K.lookup (q_f_is_integer K))).kwdefaults (fdOf (K.lookup (q_f_is_integer K))).doc (fdOf (K.lookup (q_f_is_integer K))).pyModule (fdOf (K.lookup (q_f_is_integer K))).annotations (fdOf (K.lookup (q_f_is_integer K))).code (fdOf (K.lookup (q_f_is_integer K))).closureTuple), slOf (K.lookup (q_f_is_integer K))⟩ := of_fn (ba1 (ba2 (ba2 (ba2 (ba2 (ba2 (ba2 hc))))))) (Option.some.inj (nthEq hp 6))
theorem h_c_is_integer {K : PySem.W.Frag} (hc : chk3 K = true) (hp : prtH K = expd) : PySem.W.codeIn K (fdOf (K.lookup (q_f_is_integer K))).code "is_integer" = true := (ba1 (ba2 (ba2 (ba2 (ba2 (ba2 (ba2 (ba2 hc))))))))
theorem h_k_is_integer {K : PySem.W.Frag} (hc : chk3 K = true) (hp : prtH K = expd) : PySem.W.keepIn K (.ref (q_f_is_integer K)) = true := (ba1 (ba2 (ba2 (ba2 (ba2 (ba2 (ba2 (ba2 (ba2 hc)))))))))
theorem h_a_is_within {K : PySem.W.Frag} (hc : chk3 K = true) (hp : prtH K = expd) : PySem.W.nsIn K mainGlobals "is_within" = some (some (.ref (q_f_is_within K))) := of_ref (ba1 (ba2 (ba2 (ba2 (ba2 (ba2 (ba2 (ba2 (ba2 (ba2 hc))))))))))
theorem h_l_is_within {K : PySem.W.Frag} (hc : chk3 K = true) (hp : prtH K = expd) : K.lookup (q_f_is_within K) = some ⟨ocOf (K.lookup (q_f_is_within K)), odOf (K.lookup (q_f_is_within K)), .func (PySem.W.fnOf "is_within" "is_within" (defArgs s_is_within) (defBody s_is_within) (defScope s_is_within) .none (fdOf (K.lookup (q_f_is_within K))).kwdefaults (fdOf (K.lookup (q_f_is_within K))).doc (fdOf (K.lookup (q_f_is_within K))).pyModule (fdOf (K.lookup (q_f_is_within K))).annotations (fdOf (K.lookup (q_f_is_within K))).code (fdOf (K.lookup (q_f_is_within K))).closureTuple), slOf (K.lookup (q_f_is_within K))⟩ := of_fn (ba1 (ba2 (ba2 (ba2 (ba2 (ba2 (ba2 (ba2 (ba2 (ba2 (ba2 hc))))))))))) (Option.some.inj (nthEq hp 7))
theorem h_c_is_within {K : PySem.W.Frag} (hc : chk3 K = true) (hp : prtH K = expd) : PySem.W.codeIn K (fdOf (K.lookup (q_f_is_within K))).code "is_within" = true := (ba1 (ba2 (ba2 (ba2 (ba2 (ba2 (ba2 (ba2 (ba2 (ba2 (ba2 (ba2 hc))))))))))))
theorem h_k_is_within {K : PySem.W.Frag} (hc : chk3 K = true) (hp : prtH K = expd) : PySem.W.keepIn K (.ref (q_f_is_within K)) = true := (ba1 (ba2 (ba2 (ba2 (ba2 (ba2 (ba2 (ba2 (ba2 (ba2 (ba2 (ba2 (ba2 hc)))))))))))))
theorem h_a_number_of {K : PySem.W.Frag} (hc : chk3 K = true) (hp : prtH K = expd) : PySem.W.nsIn K mainGlobals "number_of" = some (some (.ref (q_f_number_of K))) := of_ref (ba1 (ba2 (ba2 (ba2 (ba2 (ba2 (ba2 (ba2 (ba2 (ba2 (ba2 (ba2 (ba2 (ba2 hc))))))))))))))
theorem h_l_number_of {K : PySem.W.Frag} (hc : chk3 K = true) (hp : prtH K = expd) : K.lookup (q_f_number_of K) = some ⟨ocOf (K.lookup (q_f_number_of K)), odOf (K.lookup (q_f_number_of K)), .func (PySem.W.fnOf "number_of" "number_of" (defArgs s_number_of) (defBody s_number_of) (defScope s_number_of) .none (fdOf (K.lookup (q_f_number_of K))).kwdefaults (fdOf (K.lookup (q_f_number_of K))).doc (fdOf (K.lookup (q_f_number_of K))).pyModule (fdOf (K.lookup (q_f_number_of K))).annotations (fdOf (K.lookup (q_f_number_of K))).code (fdOf (K.lookup (q_f_number_of K))).closureTuple), slOf (K.lookup (q_f_number_of K))⟩ := of_fn (ba1 (ba2 (ba2 (ba2 (ba2 (ba2 (ba2 (ba2 (ba2 (ba2 (ba2 (ba2 (ba2 (ba2 (ba2 hc))))))))))))))) (Option.some.inj (nthEq hp 8))
theorem h_c_number_of {K : PySem.W.Frag} (hc : chk3 K = true) (hp : prtH K = expd) : PySem.W.codeIn K (fdOf (K.lookup (q_f_number_of K))).code "number_of" = true := (ba2 (ba2 (ba2 (ba2 (ba2 (ba2 (ba2 (ba2 (ba2 (ba2 (ba2 (ba2 (ba2 (ba2 (ba2 hc)))))))))))))))
theorem h_k_number_of {K : PySem.W.Frag} (hc : chk4 K = true) (hp : prtH K = expd) : PySem.W.keepIn K (.ref (q_f_number_of K)) = true := (ba1 hc)
theorem h_a_require_string {K : PySem.W.Frag} (hc : chk4 K = true) (hp : prtH K = expd) : PySem.W.nsIn K mainGlobals "require_string" = some (some (.ref (q_f_require_string K))) := of_ref (ba1 (ba2 hc))
theorem h_l_require_string {K : PySem.W.Frag} (hc : chk4 K = true) (hp : prtH K = expd) : K.lookup (q_f_require_string K) = some ⟨ocOf (K.lookup (q_f_require_string K)), odOf (K.lookup (q_f_require_string K)), .func (PySem.W.fnOf "require_string" "require_string" (defArgs s_require_string) (defBody s_require_string) (defScope s_require_string) .none (fdOf (K.lookup (q_f_require_string K))).kwdefaults (fdOf (K.lookup (q_f_require_string K))).doc (fdOf (K.lookup (q_f_require_string K))).pyModule (fdOf (K.lookup (q_f_require_string K))).annotations (fdOf (K.lookup (q_f_require_string K))).code (fdOf (K.lookup (q_f_require_string K))).closureTuple), slOf (K.lookup (q_f_require_string K))⟩ := of_fn (ba1 (ba2 (ba2 hc))) (Option.some.inj (nthEq hp 9))
theorem h_c_require_string {K : PySem.W.Frag} (hc : chk4 K = true) (hp : prtH K = expd) : PySem.W.codeIn K (fdOf (K.lookup (q_f_require_string K))).code "require_string" = true := (ba1 (ba2 (ba2 (ba2 hc))))
theorem h_k_require_string {K : PySem.W.Frag} (hc : chk4 K = true) (hp : prtH K = expd) : PySem.W.keepIn K (.ref (q_f_require_string K)) = true := (ba1 (ba2 (ba2 (ba2 (ba2 hc)))))
theorem h_a_are_numbers {K : PySem.W.Frag} (hc : chk4 K = true) (hp : prtH K = expd) : PySem.W.nsIn K mainGlobals "are_numbers" = some (some (.ref (q_f_are_numbers K))) := of_ref (ba1 (ba2 (ba2 (ba2 (ba2 (ba2 hc))))))
theorem h_l_are_numbers {K : PySem.W.Frag} (hc : chk4 K = true) (hp : prtH K = expd) : K.lookup (q_f_are_numbers K) = some ⟨ocOf (K.lookup (q_f_are_numbers K)), odOf (K.lookup (q_f_are_numbers K)), .func (PySem.W.fnOf "are_numbers" "are_numbers" (defArgs s_are_numbers) (defBody s_are_numbers) (defScope s_are_numbers) .none (fdOf (K.lookup (q_f_are_numbers K))).kwdefaults (fdOf (K.lookup (q_f_are_numbers K))).doc (fdOf (K.lookup (q_f_are_numbers K))).pyModule (fdOf (K.lookup (q_f_are_numbers K))).annotations (fdOf (K.lookup (q_f_are_numbers K))).code (fdOf (K.lookup (q_f_are_numbers K))).closureTuple), slOf (K.lookup (q_f_are_numbers K))⟩ := of_fn (ba1 (ba2 (ba2 (ba2 (ba2 (ba2 (ba2 hc))))))) (Option.some.inj (nthEq hp 10))
theorem h_c_are_numbers {K : PySem.W.Frag} (hc : chk4 K = true) (hp : prtH K = expd) : PySem.W.codeIn K (fdOf (K.lookup (q_f_are_numbers K))).code "are_numbers" = true := (ba1 (ba2 (ba2 (ba2 (ba2 (ba2 (ba2 (ba2 hc))))))))
theorem h_k_are_numbers {K : PySem.W.Frag} (hc : chk4 K = true) (hp : prtH K = expd) : PySem.W.keepIn K (.ref (q_f_are_numbers K)) = true := (ba1 (ba2 (ba2 (ba2 (ba2 (ba2 (ba2 (ba2 (ba2 hc)))))))))
theorem h_a_is_rising {K : PySem.W.Frag} (hc : chk4 K = true) (hp : prtH K = expd) : PySem.W.nsIn K mainGlobals "is_rising" = some (some (.ref (q_f_is_rising K))) := of_ref (ba1 (ba2 (ba2 (ba2 (ba2 (ba2 (ba2 (ba2 (ba2 (ba2 hc))))))))))
theorem h_l_is_rising {K : PySem.W.Frag} (hc : chk4 K = true) (hp : prtH K = expd) : K.lookup (q_f_is_rising K) = some ⟨ocOf (K.lookup (q_f_is_rising K)), odOf (K.lookup (q_f_is_rising K)), .func (PySem.W.fnOf "is_rising" "is_rising" (defArgs s_is_rising) (defBody s_is_rising) (defScope s_is_rising) .none (fdOf (K.lookup (q_f_is_rising K))).kwdefaults (fdOf (K.lookup (q_f_is_rising K))).doc (fdOf (K.lookup (q_f_is_rising K))).pyModule (fdOf (K.lookup (q_f_is_rising K))).annotations (fdOf (K.lookup (q_f_is_rising K))).code (fdOf (K.lookup (q_f_is_rising K))).closureTuple), slOf (K.lookup (q_f_is_rising K))⟩ := of_fn (ba1 (ba2 (ba2 (ba2 (ba2 (ba2 (ba2 (ba2 (ba2 (ba2 (ba2 hc))))))))))) (Option.some.inj (nthEq hp 11))
theorem h_c_is_rising {K : PySem.W.Frag} (hc : chk4 K = true) (hp : prtH K = expd) : PySem.W.codeIn K (fdOf (K.lookup (q_f_is_rising K))).code "is_rising" = true := (ba1 (ba2 (ba2 (ba2 (ba2 (ba2 (ba2 (ba2 (ba2 (ba2 (ba2 (ba2 hc))))))))))))
theorem h_k_is_rising {K : PySem.W.Frag} (hc : chk4 K = true) (hp : prtH K = expd) : PySem.W.keepIn K (.ref (q_f_is_rising K)) = true := (ba1 (ba2 (ba2 (ba2 (ba2 (ba2 (ba2 (ba2 (ba2 (ba2 (ba2 (ba2 (ba2 hc)))))))))))))
theorem h_a_numbers_text {K : PySem.W.Frag} (hc : chk4 K = true) (hp : prtH K = expd) : PySem.W.nsIn K mainGlobals "numbers_text" = some (some (.ref (q_f_numbers_text K))) := of_ref (ba1 (ba2 (ba2 (ba2 (ba2 (ba2 (ba2 (ba2 (ba2 (ba2 (ba2 (ba2 (ba2 (ba2 hc))))))))))))))
theorem h_l_numbers_text {K : PySem.W.Frag} (hc : chk4 K = true) (hp : prtH K = expd) : K.lookup (q_f_numbers_text K) = some ⟨ocOf (K.lookup (q_f_numbers_text K)), odOf (K.lookup (q_f_numbers_text K)), .func (PySem.W.fnOf "numbers_text" "numbers_text" (defArgs s_numbers_text) (defBody s_numbers_text) (defScope s_numbers_text) .none (fdOf (K.lookup (q_f_numbers_text K))).kwdefaults (fdOf (K.lookup (q_f_numbers_text K))).doc (fdOf (K.lookup (q_f_numbers_text K))).pyModule (fdOf (K.lookup (q_f_numbers_text K))).annotations (fdOf (K.lookup (q_f_numbers_text K))).code (fdOf (K.lookup (q_f_numbers_text K))).closureTuple), slOf (K.lookup (q_f_numbers_text K))⟩ := of_fn (ba1 (ba2 (ba2 (ba2 (ba2 (ba2 (ba2 (ba2 (ba2 (ba2 (ba2 (ba2 (ba2 (ba2 (ba2 hc))))))))))))))) (Option.some.inj (nthEq hp 12))
theorem h_c_numbers_text {K : PySem.W.Frag} (hc : chk4 K = true) (hp : prtH K = expd) : PySem.W.codeIn K (fdOf (K.lookup (q_f_numbers_text K))).code "numbers_text" = true := (ba2 (ba2 (ba2 (ba2 (ba2 (ba2 (ba2 (ba2 (ba2 (ba2 (ba2 (ba2 (ba2 (ba2 (ba2 hc)))))))))))))))
theorem h_k_numbers_text {K : PySem.W.Frag} (hc : chk5 K = true) (hp : prtH K = expd) : PySem.W.keepIn K (.ref (q_f_numbers_text K)) = true := (ba1 hc)
theorem h_a_numbers_of {K : PySem.W.Frag} (hc : chk5 K = true) (hp : prtH K = expd) : PySem.W.nsIn K mainGlobals "numbers_of" = some (some (.ref (q_f_numbers_of K))) := of_ref (ba1 (ba2 hc))
theorem h_l_numbers_of {K : PySem.W.Frag} (hc : chk5 K = true) (hp : prtH K = expd) : K.lookup (q_f_numbers_of K) = some ⟨ocOf (K.lookup (q_f_numbers_of K)), odOf (K.lookup (q_f_numbers_of K)), .func (PySem.W.fnOf "numbers_of" "numbers_of" (defArgs s_numbers_of) (defBody s_numbers_of) (defScope s_numbers_of) .none (fdOf (K.lookup (q_f_numbers_of K))).kwdefaults (fdOf (K.lookup (q_f_numbers_of K))).doc (fdOf (K.lookup (q_f_numbers_of K))).pyModule (fdOf (K.lookup (q_f_numbers_of K))).annotations (fdOf (K.lookup (q_f_numbers_of K))).code (fdOf (K.lookup (q_f_numbers_of K))).closureTuple), slOf (K.lookup (q_f_numbers_of K))⟩ := of_fn (ba1 (ba2 (ba2 hc))) (Option.some.inj (nthEq hp 13))
theorem h_c_numbers_of {K : PySem.W.Frag} (hc : chk5 K = true) (hp : prtH K = expd) : PySem.W.codeIn K (fdOf (K.lookup (q_f_numbers_of K))).code "numbers_of" = true := (ba1 (ba2 (ba2 (ba2 hc))))
theorem h_k_numbers_of {K : PySem.W.Frag} (hc : chk5 K = true) (hp : prtH K = expd) : PySem.W.keepIn K (.ref (q_f_numbers_of K)) = true := (ba1 (ba2 (ba2 (ba2 (ba2 hc)))))
theorem h_a_write_numbers {K : PySem.W.Frag} (hc : chk5 K = true) (hp : prtH K = expd) : PySem.W.nsIn K mainGlobals "write_numbers" = some (some (.ref (q_f_write_numbers K))) := of_ref (ba1 (ba2 (ba2 (ba2 (ba2 (ba2 hc))))))
theorem h_l_write_numbers {K : PySem.W.Frag} (hc : chk5 K = true) (hp : prtH K = expd) : K.lookup (q_f_write_numbers K) = some ⟨ocOf (K.lookup (q_f_write_numbers K)), odOf (K.lookup (q_f_write_numbers K)), .func (PySem.W.fnOf "write_numbers" "write_numbers" (defArgs s_write_numbers) (defBody s_write_numbers) (defScope s_write_numbers) .none (fdOf (K.lookup (q_f_write_numbers K))).kwdefaults (fdOf (K.lookup (q_f_write_numbers K))).doc (fdOf (K.lookup (q_f_write_numbers K))).pyModule (fdOf (K.lookup (q_f_write_numbers K))).annotations (fdOf (K.lookup (q_f_write_numbers K))).code (fdOf (K.lookup (q_f_write_numbers K))).closureTuple), slOf (K.lookup (q_f_write_numbers K))⟩ := of_fn (ba1 (ba2 (ba2 (ba2 (ba2 (ba2 (ba2 hc))))))) (Option.some.inj (nthEq hp 14))
theorem h_c_write_numbers {K : PySem.W.Frag} (hc : chk5 K = true) (hp : prtH K = expd) : PySem.W.codeIn K (fdOf (K.lookup (q_f_write_numbers K))).code "write_numbers" = true := (ba1 (ba2 (ba2 (ba2 (ba2 (ba2 (ba2 (ba2 hc))))))))
theorem h_k_write_numbers {K : PySem.W.Frag} (hc : chk5 K = true) (hp : prtH K = expd) : PySem.W.keepIn K (.ref (q_f_write_numbers K)) = true := (ba1 (ba2 (ba2 (ba2 (ba2 (ba2 (ba2 (ba2 (ba2 hc)))))))))
theorem h_a_read_numbers {K : PySem.W.Frag} (hc : chk5 K = true) (hp : prtH K = expd) : PySem.W.nsIn K mainGlobals "read_numbers" = some (some (.ref (q_f_read_numbers K))) := of_ref (ba1 (ba2 (ba2 (ba2 (ba2 (ba2 (ba2 (ba2 (ba2 (ba2 hc))))))))))
theorem h_l_read_numbers {K : PySem.W.Frag} (hc : chk5 K = true) (hp : prtH K = expd) : K.lookup (q_f_read_numbers K) = some ⟨ocOf (K.lookup (q_f_read_numbers K)), odOf (K.lookup (q_f_read_numbers K)), .func (PySem.W.fnOf "read_numbers" "read_numbers" (defArgs s_read_numbers) (defBody s_read_numbers) (defScope s_read_numbers) .none (fdOf (K.lookup (q_f_read_numbers K))).kwdefaults (fdOf (K.lookup (q_f_read_numbers K))).doc (fdOf (K.lookup (q_f_read_numbers K))).pyModule (fdOf (K.lookup (q_f_read_numbers K))).annotations (fdOf (K.lookup (q_f_read_numbers K))).code (fdOf (K.lookup (q_f_read_numbers K))).closureTuple), slOf (K.lookup (q_f_read_numbers K))⟩ := of_fn (ba1 (ba2 (ba2 (ba2 (ba2 (ba2 (ba2 (ba2 (ba2 (ba2 (ba2 hc))))))))))) (Option.some.inj (nthEq hp 15))
theorem h_c_read_numbers {K : PySem.W.Frag} (hc : chk5 K = true) (hp : prtH K = expd) : PySem.W.codeIn K (fdOf (K.lookup (q_f_read_numbers K))).code "read_numbers" = true := (ba1 (ba2 (ba2 (ba2 (ba2 (ba2 (ba2 (ba2 (ba2 (ba2 (ba2 (ba2 hc))))))))))))
theorem h_k_read_numbers {K : PySem.W.Frag} (hc : chk5 K = true) (hp : prtH K = expd) : PySem.W.keepIn K (.ref (q_f_read_numbers K)) = true := (ba1 (ba2 (ba2 (ba2 (ba2 (ba2 (ba2 (ba2 (ba2 (ba2 (ba2 (ba2 (ba2 hc)))))))))))))
theorem h_a_is_state_row {K : PySem.W.Frag} (hc : chk5 K = true) (hp : prtH K = expd) : PySem.W.nsIn K mainGlobals "is_state_row" = some (some (.ref (q_f_is_state_row K))) := of_ref (ba1 (ba2 (ba2 (ba2 (ba2 (ba2 (ba2 (ba2 (ba2 (ba2 (ba2 (ba2 (ba2 (ba2 hc))))))))))))))
theorem h_l_is_state_row {K : PySem.W.Frag} (hc : chk5 K = true) (hp : prtH K = expd) : K.lookup (q_f_is_state_row K) = some ⟨ocOf (K.lookup (q_f_is_state_row K)), odOf (K.lookup (q_f_is_state_row K)), .func (PySem.W.fnOf "is_state_row" "is_state_row" (defArgs s_is_state_row) (defBody s_is_state_row) (defScope s_is_state_row) .none (fdOf (K.lookup (q_f_is_state_row K))).kwdefaults (fdOf (K.lookup (q_f_is_state_row K))).doc (fdOf (K.lookup (q_f_is_state_row K))).pyModule (fdOf (K.lookup (q_f_is_state_row K))).annotations (fdOf (K.lookup (q_f_is_state_row K))).code (fdOf (K.lookup (q_f_is_state_row K))).closureTuple), slOf (K.lookup (q_f_is_state_row K))⟩ := of_fn (ba1 (ba2 (ba2 (ba2 (ba2 (ba2 (ba2 (ba2 (ba2 (ba2 (ba2 (ba2 (ba2 (ba2 (ba2 hc))))))))))))))) (Option.some.inj (nthEq hp 16))
theorem h_c_is_state_row {K : PySem.W.Frag} (hc : chk5 K = true) (hp : prtH K = expd) : PySem.W.codeIn K (fdOf (K.lookup (q_f_is_state_row K))).code "is_state_row" = true := (ba2 (ba2 (ba2 (ba2 (ba2 (ba2 (ba2 (ba2 (ba2 (ba2 (ba2 (ba2 (ba2 (ba2 (ba2 hc)))))))))))))))
theorem h_k_is_state_row {K : PySem.W.Frag} (hc : chk6 K = true) (hp : prtH K = expd) : PySem.W.keepIn K (.ref (q_f_is_state_row K)) = true := (ba1 hc)
theorem h_a_state_text {K : PySem.W.Frag} (hc : chk6 K = true) (hp : prtH K = expd) : PySem.W.nsIn K mainGlobals "state_text" = some (some (.ref (q_f_state_text K))) := of_ref (ba1 (ba2 hc))
theorem h_l_state_text {K : PySem.W.Frag} (hc : chk6 K = true) (hp : prtH K = expd) : K.lookup (q_f_state_text K) = some ⟨ocOf (K.lookup (q_f_state_text K)), odOf (K.lookup (q_f_state_text K)), .func (PySem.W.fnOf "state_text" "state_text" (defArgs s_state_text) (defBody s_state_text) (defScope s_state_text) .none (fdOf (K.lookup (q_f_state_text K))).kwdefaults (fdOf (K.lookup (q_f_state_text K))).doc (fdOf (K.lookup (q_f_state_text K))).pyModule (fdOf (K.lookup (q_f_state_text K))).annotations (fdOf (K.lookup (q_f_state_text K))).code (fdOf (K.lookup (q_f_state_text K))).closureTuple), slOf (K.lookup (q_f_state_text K))⟩ := of_fn (ba1 (ba2 (ba2 hc))) (Option.some.inj (nthEq hp 17))
theorem h_c_state_text {K : PySem.W.Frag} (hc : chk6 K = true) (hp : prtH K = expd) : PySem.W.codeIn K (fdOf (K.lookup (q_f_state_text K))).code "state_text" = true := (ba1 (ba2 (ba2 (ba2 hc))))
theorem h_k_state_text {K : PySem.W.Frag} (hc : chk6 K = true) (hp : prtH K = expd) : PySem.W.keepIn K (.ref (q_f_state_text K)) = true := (ba1 (ba2 (ba2 (ba2 (ba2 hc)))))
theorem h_a_state_of {K : PySem.W.Frag} (hc : chk6 K = true) (hp : prtH K = expd) : PySem.W.nsIn K mainGlobals "state_of" = some (some (.ref (q_f_state_of K))) := of_ref (ba1 (ba2 (ba2 (ba2 (ba2 (ba2 hc))))))
theorem h_l_state_of {K : PySem.W.Frag} (hc : chk6 K = true) (hp : prtH K = expd) : K.lookup (q_f_state_of K) = some ⟨ocOf (K.lookup (q_f_state_of K)), odOf (K.lookup (q_f_state_of K)), .func (PySem.W.fnOf "state_of" "state_of" (defArgs s_state_of) (defBody s_state_of) (defScope s_state_of) .none (fdOf (K.lookup (q_f_state_of K))).kwdefaults (fdOf (K.lookup (q_f_state_of K))).doc (fdOf (K.lookup (q_f_state_of K))).pyModule (fdOf (K.lookup (q_f_state_of K))).annotations (fdOf (K.lookup (q_f_state_of K))).code (fdOf (K.lookup (q_f_state_of K))).closureTuple), slOf (K.lookup (q_f_state_of K))⟩ := of_fn (ba1 (ba2 (ba2 (ba2 (ba2 (ba2 (ba2 hc))))))) (Option.some.inj (nthEq hp 18))
theorem h_c_state_of {K : PySem.W.Frag} (hc : chk6 K = true) (hp : prtH K = expd) : PySem.W.codeIn K (fdOf (K.lookup (q_f_state_of K))).code "state_of" = true := (ba1 (ba2 (ba2 (ba2 (ba2 (ba2 (ba2 (ba2 hc))))))))
theorem h_k_state_of {K : PySem.W.Frag} (hc : chk6 K = true) (hp : prtH K = expd) : PySem.W.keepIn K (.ref (q_f_state_of K)) = true := (ba1 (ba2 (ba2 (ba2 (ba2 (ba2 (ba2 (ba2 (ba2 hc)))))))))
theorem h_a_write_state {K : PySem.W.Frag} (hc : chk6 K = true) (hp : prtH K = expd) : PySem.W.nsIn K mainGlobals "write_state" = some (some (.ref (q_f_write_state K))) := of_ref (ba1 (ba2 (ba2 (ba2 (ba2 (ba2 (ba2 (ba2 (ba2 (ba2 hc))))))))))
theorem h_l_write_state {K : PySem.W.Frag} (hc : chk6 K = true) (hp : prtH K = expd) : K.lookup (q_f_write_state K) = some ⟨ocOf (K.lookup (q_f_write_state K)), odOf (K.lookup (q_f_write_state K)), .func (PySem.W.fnOf "write_state" "write_state" (defArgs s_write_state) (defBody s_write_state) (defScope s_write_state) .none (fdOf (K.lookup (q_f_write_state K))).kwdefaults (fdOf (K.lookup (q_f_write_state K))).doc (fdOf (K.lookup (q_f_write_state K))).pyModule (fdOf (K.lookup (q_f_write_state K))).annotations (fdOf (K.lookup (q_f_write_state K))).code (fdOf (K.lookup (q_f_write_state K))).closureTuple), slOf (K.lookup (q_f_write_state K))⟩ := of_fn (ba1 (ba2 (ba2 (ba2 (ba2 (ba2 (ba2 (ba2 (ba2 (ba2 (ba2 hc))))))))))) (Option.some.inj (nthEq hp 19))
theorem h_c_write_state {K : PySem.W.Frag} (hc : chk6 K = true) (hp : prtH K = expd) : PySem.W.codeIn K (fdOf (K.lookup (q_f_write_state K))).code "write_state" = true := (ba1 (ba2 (ba2 (ba2 (ba2 (ba2 (ba2 (ba2 (ba2 (ba2 (ba2 (ba2 hc))))))))))))
theorem h_k_write_state {K : PySem.W.Frag} (hc : chk6 K = true) (hp : prtH K = expd) : PySem.W.keepIn K (.ref (q_f_write_state K)) = true := (ba1 (ba2 (ba2 (ba2 (ba2 (ba2 (ba2 (ba2 (ba2 (ba2 (ba2 (ba2 (ba2 hc)))))))))))))
theorem h_a_read_state {K : PySem.W.Frag} (hc : chk6 K = true) (hp : prtH K = expd) : PySem.W.nsIn K mainGlobals "read_state" = some (some (.ref (q_f_read_state K))) := of_ref (ba1 (ba2 (ba2 (ba2 (ba2 (ba2 (ba2 (ba2 (ba2 (ba2 (ba2 (ba2 (ba2 (ba2 hc))))))))))))))
theorem h_l_read_state {K : PySem.W.Frag} (hc : chk6 K = true) (hp : prtH K = expd) : K.lookup (q_f_read_state K) = some ⟨ocOf (K.lookup (q_f_read_state K)), odOf (K.lookup (q_f_read_state K)), .func (PySem.W.fnOf "read_state" "read_state" (defArgs s_read_state) (defBody s_read_state) (defScope s_read_state) .none (fdOf (K.lookup (q_f_read_state K))).kwdefaults (fdOf (K.lookup (q_f_read_state K))).doc (fdOf (K.lookup (q_f_read_state K))).pyModule (fdOf (K.lookup (q_f_read_state K))).annotations (fdOf (K.lookup (q_f_read_state K))).code (fdOf (K.lookup (q_f_read_state K))).closureTuple), slOf (K.lookup (q_f_read_state K))⟩ := of_fn (ba1 (ba2 (ba2 (ba2 (ba2 (ba2 (ba2 (ba2 (ba2 (ba2 (ba2 (ba2 (ba2 (ba2 (ba2 hc))))))))))))))) (Option.some.inj (nthEq hp 20))
theorem h_c_read_state {K : PySem.W.Frag} (hc : chk6 K = true) (hp : prtH K = expd) : PySem.W.codeIn K (fdOf (K.lookup (q_f_read_state K))).code "read_state" = true := (ba2 (ba2 (ba2 (ba2 (ba2 (ba2 (ba2 (ba2 (ba2 (ba2 (ba2 (ba2 (ba2 (ba2 (ba2 hc)))))))))))))))
theorem h_k_read_state {K : PySem.W.Frag} (hc : chk7 K = true) (hp : prtH K = expd) : PySem.W.keepIn K (.ref (q_f_read_state K)) = true := (ba1 hc)
theorem h_a_is_table_row {K : PySem.W.Frag} (hc : chk7 K = true) (hp : prtH K = expd) : PySem.W.nsIn K mainGlobals "is_table_row" = some (some (.ref (q_f_is_table_row K))) := of_ref (ba1 (ba2 hc))
theorem h_l_is_table_row {K : PySem.W.Frag} (hc : chk7 K = true) (hp : prtH K = expd) : K.lookup (q_f_is_table_row K) = some ⟨ocOf (K.lookup (q_f_is_table_row K)), odOf (K.lookup (q_f_is_table_row K)), .func (PySem.W.fnOf "is_table_row" "is_table_row" (defArgs s_is_table_row) (defBody s_is_table_row) (defScope s_is_table_row) .none (fdOf (K.lookup (q_f_is_table_row K))).kwdefaults (fdOf (K.lookup (q_f_is_table_row K))).doc (fdOf (K.lookup (q_f_is_table_row K))).pyModule (fdOf (K.lookup (q_f_is_table_row K))).annotations (fdOf (K.lookup (q_f_is_table_row K))).code (fdOf (K.lookup (q_f_is_table_row K))).closureTuple), slOf (K.lookup (q_f_is_table_row K))⟩ := of_fn (ba1 (ba2 (ba2 hc))) (Option.some.inj (nthEq hp 21))
theorem h_c_is_table_row {K : PySem.W.Frag} (hc : chk7 K = true) (hp : prtH K = expd) : PySem.W.codeIn K (fdOf (K.lookup (q_f_is_table_row K))).code "is_table_row" = true := (ba1 (ba2 (ba2 (ba2 hc))))
theorem h_k_is_table_row {K : PySem.W.Frag} (hc : chk7 K = true) (hp : prtH K = expd) : PySem.W.keepIn K (.ref (q_f_is_table_row K)) = true := (ba1 (ba2 (ba2 (ba2 (ba2 hc)))))
theorem h_a_write_table {K : PySem.W.Frag} (hc : chk7 K = true) (hp : prtH K = expd) : PySem.W.nsIn K mainGlobals "write_table" = some (some (.ref (q_f_write_table K))) := of_ref (ba1 (ba2 (ba2 (ba2 (ba2 (ba2 hc))))))
theorem h_l_write_table {K : PySem.W.Frag} (hc : chk7 K = true) (hp : prtH K = expd) : K.lookup (q_f_write_table K) = some ⟨ocOf (K.lookup (q_f_write_table K)), odOf (K.lookup (q_f_write_table K)), .func (PySem.W.fnOf "write_table" "write_table" (defArgs s_write_table) (defBody s_write_table) (defScope s_write_table) .none (fdOf (K.lookup (q_f_write_table K))).kwdefaults (fdOf (K.lookup (q_f_write_table K))).doc (fdOf (K.lookup (q_f_write_table K))).pyModule (fdOf (K.lookup (q_f_write_table K))).annotations (fdOf (K.lookup (q_f_write_table K))).code (fdOf (K.lookup (q_f_write_table K))).closureTuple), slOf (K.lookup (q_f_write_table K))⟩ := of_fn (ba1 (ba2 (ba2 (ba2 (ba2 (ba2 (ba2 hc))))))) (Option.some.inj (nthEq hp 22))
theorem h_c_write_table {K : PySem.W.Frag} (hc : chk7 K = true) (hp : prtH K = expd) : PySem.W.codeIn K (fdOf (K.lookup (q_f_write_table K))).code "write_table" = true := (ba1 (ba2 (ba2 (ba2 (ba2 (ba2 (ba2 (ba2 hc))))))))
theorem h_k_write_table {K : PySem.W.Frag} (hc : chk7 K = true) (hp : prtH K = expd) : PySem.W.keepIn K (.ref (q_f_write_table K)) = true := (ba1 (ba2 (ba2 (ba2 (ba2 (ba2 (ba2 (ba2 (ba2 hc)))))))))
theorem h_a_table_row_of {K : PySem.W.Frag} (hc : chk7 K = true) (hp : prtH K = expd) : PySem.W.nsIn K mainGlobals "table_row_of" = some (some (.ref (q_f_table_row_of K))) := of_ref (ba1 (ba2 (ba2 (ba2 (ba2 (ba2 (ba2 (ba2 (ba2 (ba2 hc))))))))))
theorem h_l_table_row_of {K : PySem.W.Frag} (hc : chk7 K = true) (hp : prtH K = expd) : K.lookup (q_f_table_row_of K) = some ⟨ocOf (K.lookup (q_f_table_row_of K)), odOf (K.lookup (q_f_table_row_of K)), .func (PySem.W.fnOf "table_row_of" "table_row_of" (defArgs s_table_row_of) (defBody s_table_row_of) (defScope s_table_row_of) .none (fdOf (K.lookup (q_f_table_row_of K))).kwdefaults (fdOf (K.lookup (q_f_table_row_of K))).doc (fdOf (K.lookup (q_f_table_row_of K))).pyModule (fdOf (K.lookup (q_f_table_row_of K))).annotations (fdOf (K.lookup (q_f_table_row_of K))).code (fdOf (K.lookup (q_f_table_row_of K))).closureTuple), slOf (K.lookup (q_f_table_row_of K))⟩ := of_fn (ba1 (ba2 (ba2 (ba2 (ba2 (ba2 (ba2 (ba2 (ba2 (ba2 (ba2 hc))))))))))) (Option.some.inj (nthEq hp 23))
theorem h_c_table_row_of {K : PySem.W.Frag} (hc : chk7 K = true) (hp : prtH K = expd) : PySem.W.codeIn K (fdOf (K.lookup (q_f_table_row_of K))).code "table_row_of" = true := (ba1 (ba2 (ba2 (ba2 (ba2 (ba2 (ba2 (ba2 (ba2 (ba2 (ba2 (ba2 hc))))))))))))
theorem h_k_table_row_of {K : PySem.W.Frag} (hc : chk7 K = true) (hp : prtH K = expd) : PySem.W.keepIn K (.ref (q_f_table_row_of K)) = true := (ba1 (ba2 (ba2 (ba2 (ba2 (ba2 (ba2 (ba2 (ba2 (ba2 (ba2 (ba2 (ba2 hc)))))))))))))
theorem h_a_read_table {K : PySem.W.Frag} (hc : chk7 K = true) (hp : prtH K = expd) : PySem.W.nsIn K mainGlobals "read_table" = some (some (.ref (q_f_read_table K))) := of_ref (ba1 (ba2 (ba2 (ba2 (ba2 (ba2 (ba2 (ba2 (ba2 (ba2 (ba2 (ba2 (ba2 (ba2 hc))))))))))))))
theorem h_l_read_table {K : PySem.W.Frag} (hc : chk7 K = true) (hp : prtH K = expd) : K.lookup (q_f_read_table K) = some ⟨ocOf (K.lookup (q_f_read_table K)), odOf (K.lookup (q_f_read_table K)), .func (PySem.W.fnOf "read_table" "read_table" (defArgs s_read_table) (defBody s_read_table) (defScope s_read_table) .none (fdOf (K.lookup (q_f_read_table K))).kwdefaults (fdOf (K.lookup (q_f_read_table K))).doc (fdOf (K.lookup (q_f_read_table K))).pyModule (fdOf (K.lookup (q_f_read_table K))).annotations (fdOf (K.lookup (q_f_read_table K))).code (fdOf (K.lookup (q_f_read_table K))).closureTuple), slOf (K.lookup (q_f_read_table K))⟩ := of_fn (ba1 (ba2 (ba2 (ba2 (ba2 (ba2 (ba2 (ba2 (ba2 (ba2 (ba2 (ba2 (ba2 (ba2 (ba2 hc))))))))))))))) (Option.some.inj (nthEq hp 24))
theorem h_c_read_table {K : PySem.W.Frag} (hc : chk7 K = true) (hp : prtH K = expd) : PySem.W.codeIn K (fdOf (K.lookup (q_f_read_table K))).code "read_table" = true := (ba2 (ba2 (ba2 (ba2 (ba2 (ba2 (ba2 (ba2 (ba2 (ba2 (ba2 (ba2 (ba2 (ba2 (ba2 hc)))))))))))))))
theorem h_k_read_table {K : PySem.W.Frag} (hc : chk8 K = true) (hp : prtH K = expd) : PySem.W.keepIn K (.ref (q_f_read_table K)) = true := (ba1 hc)
theorem h_a_rising {K : PySem.W.Frag} (hc : chk8 K = true) (hp : prtH K = expd) : PySem.W.nsIn K mainGlobals "_law_rising" = some (some (.ref (q_f_rising K))) := of_ref (ba1 (ba2 hc))
theorem h_l_rising {K : PySem.W.Frag} (hc : chk8 K = true) (hp : prtH K = expd) : K.lookup (q_f_rising K) = some ⟨ocOf (K.lookup (q_f_rising K)), odOf (K.lookup (q_f_rising K)), .func (PySem.W.fnOf "_law_rising" "_law_rising" (defArgs s_rising) (defBody s_rising) (defScope s_rising) .none (fdOf (K.lookup (q_f_rising K))).kwdefaults (fdOf (K.lookup (q_f_rising K))).doc (fdOf (K.lookup (q_f_rising K))).pyModule (fdOf (K.lookup (q_f_rising K))).annotations (fdOf (K.lookup (q_f_rising K))).code (fdOf (K.lookup (q_f_rising K))).closureTuple), slOf (K.lookup (q_f_rising K))⟩ := of_fn (ba1 (ba2 (ba2 hc))) (Option.some.inj (nthEq hp 25))
theorem h_c_rising {K : PySem.W.Frag} (hc : chk8 K = true) (hp : prtH K = expd) : PySem.W.codeIn K (fdOf (K.lookup (q_f_rising K))).code "_law_rising" = true := (ba1 (ba2 (ba2 (ba2 hc))))
theorem h_k_rising {K : PySem.W.Frag} (hc : chk8 K = true) (hp : prtH K = expd) : PySem.W.keepIn K (.ref (q_f_rising K)) = true := (ba1 (ba2 (ba2 (ba2 (ba2 hc)))))
theorem h_a_a_state {K : PySem.W.Frag} (hc : chk8 K = true) (hp : prtH K = expd) : PySem.W.nsIn K mainGlobals "_law_a_state" = some (some (.ref (q_f_a_state K))) := of_ref (ba1 (ba2 (ba2 (ba2 (ba2 (ba2 hc))))))
theorem h_l_a_state {K : PySem.W.Frag} (hc : chk8 K = true) (hp : prtH K = expd) : K.lookup (q_f_a_state K) = some ⟨ocOf (K.lookup (q_f_a_state K)), odOf (K.lookup (q_f_a_state K)), .func (PySem.W.fnOf "_law_a_state" "_law_a_state" (defArgs s_a_state) (defBody s_a_state) (defScope s_a_state) .none (fdOf (K.lookup (q_f_a_state K))).kwdefaults (fdOf (K.lookup (q_f_a_state K))).doc (fdOf (K.lookup (q_f_a_state K))).pyModule (fdOf (K.lookup (q_f_a_state K))).annotations (fdOf (K.lookup (q_f_a_state K))).code (fdOf (K.lookup (q_f_a_state K))).closureTuple), slOf (K.lookup (q_f_a_state K))⟩ := of_fn (ba1 (ba2 (ba2 (ba2 (ba2 (ba2 (ba2 hc))))))) (Option.some.inj (nthEq hp 26))
theorem h_c_a_state {K : PySem.W.Frag} (hc : chk8 K = true) (hp : prtH K = expd) : PySem.W.codeIn K (fdOf (K.lookup (q_f_a_state K))).code "_law_a_state" = true := (ba1 (ba2 (ba2 (ba2 (ba2 (ba2 (ba2 (ba2 hc))))))))
theorem h_k_a_state {K : PySem.W.Frag} (hc : chk8 K = true) (hp : prtH K = expd) : PySem.W.keepIn K (.ref (q_f_a_state K)) = true := (ba1 (ba2 (ba2 (ba2 (ba2 (ba2 (ba2 (ba2 (ba2 hc)))))))))
theorem h_a_line {K : PySem.W.Frag} (hc : chk8 K = true) (hp : prtH K = expd) : PySem.W.nsIn K mainGlobals "_law_line" = some (some (.ref (q_f_line K))) := of_ref (ba1 (ba2 (ba2 (ba2 (ba2 (ba2 (ba2 (ba2 (ba2 (ba2 hc))))))))))
theorem h_l_line {K : PySem.W.Frag} (hc : chk8 K = true) (hp : prtH K = expd) : K.lookup (q_f_line K) = some ⟨ocOf (K.lookup (q_f_line K)), odOf (K.lookup (q_f_line K)), .func (PySem.W.fnOf "_law_line" "_law_line" (defArgs s_line) (defBody s_line) (defScope s_line) .none (fdOf (K.lookup (q_f_line K))).kwdefaults (fdOf (K.lookup (q_f_line K))).doc (fdOf (K.lookup (q_f_line K))).pyModule (fdOf (K.lookup (q_f_line K))).annotations (fdOf (K.lookup (q_f_line K))).code (fdOf (K.lookup (q_f_line K))).closureTuple), slOf (K.lookup (q_f_line K))⟩ := of_fn (ba1 (ba2 (ba2 (ba2 (ba2 (ba2 (ba2 (ba2 (ba2 (ba2 (ba2 hc))))))))))) (Option.some.inj (nthEq hp 27))
theorem h_c_line {K : PySem.W.Frag} (hc : chk8 K = true) (hp : prtH K = expd) : PySem.W.codeIn K (fdOf (K.lookup (q_f_line K))).code "_law_line" = true := (ba1 (ba2 (ba2 (ba2 (ba2 (ba2 (ba2 (ba2 (ba2 (ba2 (ba2 (ba2 hc))))))))))))
theorem h_k_line {K : PySem.W.Frag} (hc : chk8 K = true) (hp : prtH K = expd) : PySem.W.keepIn K (.ref (q_f_line K)) = true := (ba1 (ba2 (ba2 (ba2 (ba2 (ba2 (ba2 (ba2 (ba2 (ba2 (ba2 (ba2 (ba2 hc)))))))))))))
theorem h_a_state_line {K : PySem.W.Frag} (hc : chk8 K = true) (hp : prtH K = expd) : PySem.W.nsIn K mainGlobals "_law_state_line" = some (some (.ref (q_f_state_line K))) := of_ref (ba1 (ba2 (ba2 (ba2 (ba2 (ba2 (ba2 (ba2 (ba2 (ba2 (ba2 (ba2 (ba2 (ba2 hc))))))))))))))
theorem h_l_state_line {K : PySem.W.Frag} (hc : chk8 K = true) (hp : prtH K = expd) : K.lookup (q_f_state_line K) = some ⟨ocOf (K.lookup (q_f_state_line K)), odOf (K.lookup (q_f_state_line K)), .func (PySem.W.fnOf "_law_state_line" "_law_state_line" (defArgs s_state_line) (defBody s_state_line) (defScope s_state_line) .none (fdOf (K.lookup (q_f_state_line K))).kwdefaults (fdOf (K.lookup (q_f_state_line K))).doc (fdOf (K.lookup (q_f_state_line K))).pyModule (fdOf (K.lookup (q_f_state_line K))).annotations (fdOf (K.lookup (q_f_state_line K))).code (fdOf (K.lookup (q_f_state_line K))).closureTuple), slOf (K.lookup (q_f_state_line K))⟩ := of_fn (ba1 (ba2 (ba2 (ba2 (ba2 (ba2 (ba2 (ba2 (ba2 (ba2 (ba2 (ba2 (ba2 (ba2 (ba2 hc))))))))))))))) (Option.some.inj (nthEq hp 28))
theorem h_c_state_line {K : PySem.W.Frag} (hc : chk8 K = true) (hp : prtH K = expd) : PySem.W.codeIn K (fdOf (K.lookup (q_f_state_line K))).code "_law_state_line" = true := (ba2 (ba2 (ba2 (ba2 (ba2 (ba2 (ba2 (ba2 (ba2 (ba2 (ba2 (ba2 (ba2 (ba2 (ba2 hc)))))))))))))))
theorem h_k_state_line {K : PySem.W.Frag} (hc : chk9 K = true) (hp : prtH K = expd) : PySem.W.keepIn K (.ref (q_f_state_line K)) = true := (ba1 hc)
theorem h_a_due_numbers {K : PySem.W.Frag} (hc : chk9 K = true) (hp : prtH K = expd) : PySem.W.nsIn K mainGlobals "_law_due_numbers" = some (some (.ref (q_f_due_numbers K))) := of_ref (ba1 (ba2 hc))
theorem h_l_due_numbers {K : PySem.W.Frag} (hc : chk9 K = true) (hp : prtH K = expd) : K.lookup (q_f_due_numbers K) = some ⟨ocOf (K.lookup (q_f_due_numbers K)), odOf (K.lookup (q_f_due_numbers K)), .func (PySem.W.fnOf "_law_due_numbers" "_law_due_numbers" (defArgs s_due_numbers) (defBody s_due_numbers) (defScope s_due_numbers) .none (fdOf (K.lookup (q_f_due_numbers K))).kwdefaults (fdOf (K.lookup (q_f_due_numbers K))).doc (fdOf (K.lookup (q_f_due_numbers K))).pyModule (fdOf (K.lookup (q_f_due_numbers K))).annotations (fdOf (K.lookup (q_f_due_numbers K))).code (fdOf (K.lookup (q_f_due_numbers K))).closureTuple), slOf (K.lookup (q_f_due_numbers K))⟩ := of_fn (ba1 (ba2 (ba2 hc))) (Option.some.inj (nthEq hp 29))
theorem h_c_due_numbers {K : PySem.W.Frag} (hc : chk9 K = true) (hp : prtH K = expd) : PySem.W.codeIn K (fdOf (K.lookup (q_f_due_numbers K))).code "_law_due_numbers" = true := (ba1 (ba2 (ba2 (ba2 hc))))
theorem h_k_due_numbers {K : PySem.W.Frag} (hc : chk9 K = true) (hp : prtH K = expd) : PySem.W.keepIn K (.ref (q_f_due_numbers K)) = true := (ba1 (ba2 (ba2 (ba2 (ba2 hc)))))
theorem h_a_is_rising' {K : PySem.W.Frag} (hc : chk9 K = true) (hp : prtH K = expd) : PySem.W.nsIn K mainGlobals "_law_is_rising" = some (some (.ref (q_f_is_rising' K))) := of_ref (ba1 (ba2 (ba2 (ba2 (ba2 (ba2 hc))))))
theorem h_l_is_rising' {K : PySem.W.Frag} (hc : chk9 K = true) (hp : prtH K = expd) : K.lookup (q_f_is_rising' K) = some ⟨ocOf (K.lookup (q_f_is_rising' K)), odOf (K.lookup (q_f_is_rising' K)), .func (PySem.W.fnOf "_law_is_rising" "_law_is_rising" (defArgs s_is_rising') (defBody s_is_rising') (defScope s_is_rising') .none (fdOf (K.lookup (q_f_is_rising' K))).kwdefaults (fdOf (K.lookup (q_f_is_rising' K))).doc (fdOf (K.lookup (q_f_is_rising' K))).pyModule (fdOf (K.lookup (q_f_is_rising' K))).annotations (fdOf (K.lookup (q_f_is_rising' K))).code (fdOf (K.lookup (q_f_is_rising' K))).closureTuple), slOf (K.lookup (q_f_is_rising' K))⟩ := of_fn (ba1 (ba2 (ba2 (ba2 (ba2 (ba2 (ba2 hc))))))) (Option.some.inj (nthEq hp 30))
theorem h_c_is_rising' {K : PySem.W.Frag} (hc : chk9 K = true) (hp : prtH K = expd) : PySem.W.codeIn K (fdOf (K.lookup (q_f_is_rising' K))).code "_law_is_rising" = true := (ba1 (ba2 (ba2 (ba2 (ba2 (ba2 (ba2 (ba2 hc))))))))
theorem h_k_is_rising' {K : PySem.W.Frag} (hc : chk9 K = true) (hp : prtH K = expd) : PySem.W.keepIn K (.ref (q_f_is_rising' K)) = true := (ba1 (ba2 (ba2 (ba2 (ba2 (ba2 (ba2 (ba2 (ba2 hc)))))))))
theorem h_a_due_state {K : PySem.W.Frag} (hc : chk9 K = true) (hp : prtH K = expd) : PySem.W.nsIn K mainGlobals "_law_due_state" = some (some (.ref (q_f_due_state K))) := of_ref (ba1 (ba2 (ba2 (ba2 (ba2 (ba2 (ba2 (ba2 (ba2 (ba2 hc))))))))))
theorem h_l_due_state {K : PySem.W.Frag} (hc : chk9 K = true) (hp : prtH K = expd) : K.lookup (q_f_due_state K) = some ⟨ocOf (K.lookup (q_f_due_state K)), odOf (K.lookup (q_f_due_state K)), .func (PySem.W.fnOf "_law_due_state" "_law_due_state" (defArgs s_due_state) (defBody s_due_state) (defScope s_due_state) .none (fdOf (K.lookup (q_f_due_state K))).kwdefaults (fdOf (K.lookup (q_f_due_state K))).doc (fdOf (K.lookup (q_f_due_state K))).pyModule (fdOf (K.lookup (q_f_due_state K))).annotations (fdOf (K.lookup (q_f_due_state K))).code (fdOf (K.lookup (q_f_due_state K))).closureTuple), slOf (K.lookup (q_f_due_state K))⟩ := of_fn (ba1 (ba2 (ba2 (ba2 (ba2 (ba2 (ba2 (ba2 (ba2 (ba2 (ba2 hc))))))))))) (Option.some.inj (nthEq hp 31))
theorem h_c_due_state {K : PySem.W.Frag} (hc : chk9 K = true) (hp : prtH K = expd) : PySem.W.codeIn K (fdOf (K.lookup (q_f_due_state K))).code "_law_due_state" = true := (ba1 (ba2 (ba2 (ba2 (ba2 (ba2 (ba2 (ba2 (ba2 (ba2 (ba2 (ba2 hc))))))))))))
theorem h_k_due_state {K : PySem.W.Frag} (hc : chk9 K = true) (hp : prtH K = expd) : PySem.W.keepIn K (.ref (q_f_due_state K)) = true := (ba1 (ba2 (ba2 (ba2 (ba2 (ba2 (ba2 (ba2 (ba2 (ba2 (ba2 (ba2 (ba2 hc)))))))))))))
theorem h_a_due_table {K : PySem.W.Frag} (hc : chk9 K = true) (hp : prtH K = expd) : PySem.W.nsIn K mainGlobals "_law_due_table" = some (some (.ref (q_f_due_table K))) := of_ref (ba1 (ba2 (ba2 (ba2 (ba2 (ba2 (ba2 (ba2 (ba2 (ba2 (ba2 (ba2 (ba2 (ba2 hc))))))))))))))
theorem h_l_due_table {K : PySem.W.Frag} (hc : chk9 K = true) (hp : prtH K = expd) : K.lookup (q_f_due_table K) = some ⟨ocOf (K.lookup (q_f_due_table K)), odOf (K.lookup (q_f_due_table K)), .func (PySem.W.fnOf "_law_due_table" "_law_due_table" (defArgs s_due_table) (defBody s_due_table) (defScope s_due_table) .none (fdOf (K.lookup (q_f_due_table K))).kwdefaults (fdOf (K.lookup (q_f_due_table K))).doc (fdOf (K.lookup (q_f_due_table K))).pyModule (fdOf (K.lookup (q_f_due_table K))).annotations (fdOf (K.lookup (q_f_due_table K))).code (fdOf (K.lookup (q_f_due_table K))).closureTuple), slOf (K.lookup (q_f_due_table K))⟩ := of_fn (ba1 (ba2 (ba2 (ba2 (ba2 (ba2 (ba2 (ba2 (ba2 (ba2 (ba2 (ba2 (ba2 (ba2 (ba2 hc))))))))))))))) (Option.some.inj (nthEq hp 32))
theorem h_c_due_table {K : PySem.W.Frag} (hc : chk9 K = true) (hp : prtH K = expd) : PySem.W.codeIn K (fdOf (K.lookup (q_f_due_table K))).code "_law_due_table" = true := (ba2 (ba2 (ba2 (ba2 (ba2 (ba2 (ba2 (ba2 (ba2 (ba2 (ba2 (ba2 (ba2 (ba2 (ba2 hc)))))))))))))))
theorem h_k_due_table {K : PySem.W.Frag} (hc : chk10 K = true) (hp : prtH K = expd) : PySem.W.keepIn K (.ref (q_f_due_table K)) = true := (ba1 hc)
theorem h_a_bent {K : PySem.W.Frag} (hc : chk10 K = true) (hp : prtH K = expd) : PySem.W.nsIn K mainGlobals "_law_bent" = some (some (.ref (q_f_bent K))) := of_ref (ba1 (ba2 hc))
theorem h_l_bent {K : PySem.W.Frag} (hc : chk10 K = true) (hp : prtH K = expd) : K.lookup (q_f_bent K) = some ⟨ocOf (K.lookup (q_f_bent K)), odOf (K.lookup (q_f_bent K)), .func (PySem.W.fnOf "_law_bent" "_law_bent" (defArgs s_bent) (defBody s_bent) (defScope s_bent) .none (fdOf (K.lookup (q_f_bent K))).kwdefaults (fdOf (K.lookup (q_f_bent K))).doc (fdOf (K.lookup (q_f_bent K))).pyModule (fdOf (K.lookup (q_f_bent K))).annotations (fdOf (K.lookup (q_f_bent K))).code (fdOf (K.lookup (q_f_bent K))).closureTuple), slOf (K.lookup (q_f_bent K))⟩ := of_fn (ba1 (ba2 (ba2 hc))) (Option.some.inj (nthEq hp 33))
theorem h_c_bent {K : PySem.W.Frag} (hc : chk10 K = true) (hp : prtH K = expd) : PySem.W.codeIn K (fdOf (K.lookup (q_f_bent K))).code "_law_bent" = true := (ba1 (ba2 (ba2 (ba2 hc))))
theorem h_k_bent {K : PySem.W.Frag} (hc : chk10 K = true) (hp : prtH K = expd) : PySem.W.keepIn K (.ref (q_f_bent K)) = true := (ba1 (ba2 (ba2 (ba2 (ba2 hc)))))
theorem h_a_strings_right {K : PySem.W.Frag} (hc : chk10 K = true) (hp : prtH K = expd) : PySem.W.nsIn K mainGlobals "_law_strings_right" = some (some (.ref (q_f_strings_right K))) := of_ref (ba1 (ba2 (ba2 (ba2 (ba2 (ba2 hc))))))
theorem h_l_strings_right {K : PySem.W.Frag} (hc : chk10 K = true) (hp : prtH K = expd) : K.lookup (q_f_strings_right K) = some ⟨ocOf (K.lookup (q_f_strings_right K)), odOf (K.lookup (q_f_strings_right K)), .func (PySem.W.fnOf "_law_strings_right" "_law_strings_right" (defArgs s_strings_right) (defBody s_strings_right) (defScope s_strings_right) .none (fdOf (K.lookup (q_f_strings_right K))).kwdefaults (fdOf (K.lookup (q_f_strings_right K))).doc (fdOf (K.lookup (q_f_strings_right K))).pyModule (fdOf (K.lookup (q_f_strings_right K))).annotations (fdOf (K.lookup (q_f_strings_right K))).code (fdOf (K.lookup (q_f_strings_right K))).closureTuple), slOf (K.lookup (q_f_strings_right K))⟩ := of_fn (ba1 (ba2 (ba2 (ba2 (ba2 (ba2 (ba2 hc))))))) (Option.some.inj (nthEq hp 34))
theorem h_c_strings_right {K : PySem.W.Frag} (hc : chk10 K = true) (hp : prtH K = expd) : PySem.W.codeIn K (fdOf (K.lookup (q_f_strings_right K))).code "_law_strings_right" = true := (ba1 (ba2 (ba2 (ba2 (ba2 (ba2 (ba2 (ba2 hc))))))))
theorem h_k_strings_right {K : PySem.W.Frag} (hc : chk10 K = true) (hp : prtH K = expd) : PySem.W.keepIn K (.ref (q_f_strings_right K)) = true := (ba1 (ba2 (ba2 (ba2 (ba2 (ba2 (ba2 (ba2 (ba2 hc)))))))))
theorem h_a_right {K : PySem.W.Frag} (hc : chk10 K = true) (hp : prtH K = expd) : PySem.W.nsIn K mainGlobals "_law_right" = some (some (.ref (q_f_right K))) := of_ref (ba1 (ba2 (ba2 (ba2 (ba2 (ba2 (ba2 (ba2 (ba2 (ba2 hc))))))))))
theorem h_l_right {K : PySem.W.Frag} (hc : chk10 K = true) (hp : prtH K = expd) : K.lookup (q_f_right K) = some ⟨ocOf (K.lookup (q_f_right K)), odOf (K.lookup (q_f_right K)), .func (PySem.W.fnOf "_law_right" "_law_right" (defArgs s_right) (defBody s_right) (defScope s_right) .none (fdOf (K.lookup (q_f_right K))).kwdefaults (fdOf (K.lookup (q_f_right K))).doc (fdOf (K.lookup (q_f_right K))).pyModule (fdOf (K.lookup (q_f_right K))).annotations (fdOf (K.lookup (q_f_right K))).code (fdOf (K.lookup (q_f_right K))).closureTuple), slOf (K.lookup (q_f_right K))⟩ := of_fn (ba1 (ba2 (ba2 (ba2 (ba2 (ba2 (ba2 (ba2 (ba2 (ba2 (ba2 hc))))))))))) (Option.some.inj (nthEq hp 35))
theorem h_c_right {K : PySem.W.Frag} (hc : chk10 K = true) (hp : prtH K = expd) : PySem.W.codeIn K (fdOf (K.lookup (q_f_right K))).code "_law_right" = true := (ba1 (ba2 (ba2 (ba2 (ba2 (ba2 (ba2 (ba2 (ba2 (ba2 (ba2 (ba2 hc))))))))))))
theorem h_k_right {K : PySem.W.Frag} (hc : chk10 K = true) (hp : prtH K = expd) : PySem.W.keepIn K (.ref (q_f_right K)) = true := (ba1 (ba2 (ba2 (ba2 (ba2 (ba2 (ba2 (ba2 (ba2 (ba2 (ba2 (ba2 (ba2 hc)))))))))))))
theorem h_a_law {K : PySem.W.Frag} (hc : chk10 K = true) (hp : prtH K = expd) : PySem.W.nsIn K mainGlobals "law" = some (some (.ref (q_f_law K))) := of_ref (ba1 (ba2 (ba2 (ba2 (ba2 (ba2 (ba2 (ba2 (ba2 (ba2 (ba2 (ba2 (ba2 (ba2 hc))))))))))))))
theorem h_l_law {K : PySem.W.Frag} (hc : chk10 K = true) (hp : prtH K = expd) : K.lookup (q_f_law K) = some ⟨ocOf (K.lookup (q_f_law K)), odOf (K.lookup (q_f_law K)), .func (PySem.W.fnOf "law" "law" (defArgs s_law) (defBody s_law) (defScope s_law) .none (fdOf (K.lookup (q_f_law K))).kwdefaults (fdOf (K.lookup (q_f_law K))).doc (fdOf (K.lookup (q_f_law K))).pyModule (fdOf (K.lookup (q_f_law K))).annotations (fdOf (K.lookup (q_f_law K))).code (fdOf (K.lookup (q_f_law K))).closureTuple), slOf (K.lookup (q_f_law K))⟩ := of_fn (ba1 (ba2 (ba2 (ba2 (ba2 (ba2 (ba2 (ba2 (ba2 (ba2 (ba2 (ba2 (ba2 (ba2 (ba2 hc))))))))))))))) (Option.some.inj (nthEq hp 36))
theorem h_c_law {K : PySem.W.Frag} (hc : chk10 K = true) (hp : prtH K = expd) : PySem.W.codeIn K (fdOf (K.lookup (q_f_law K))).code "law" = true := (ba2 (ba2 (ba2 (ba2 (ba2 (ba2 (ba2 (ba2 (ba2 (ba2 (ba2 (ba2 (ba2 (ba2 (ba2 hc)))))))))))))))
theorem h_k_law {K : PySem.W.Frag} (hc : chk11 K = true) (hp : prtH K = expd) : PySem.W.keepIn K (.ref (q_f_law K)) = true := (ba1 hc)
theorem h_te_strings_right {K : PySem.W.Frag} (hc : chk11 K = true) (hp : prtH K = expd) : (fdOf (K.lookup (q_f_strings_right K))).code = .ref (q_tc_strings_right K) := of_refV (ba1 (ba2 hc))
theorem h_z_set {K : PySem.W.Frag} (hc : chk11 K = true) (hp : prtH K = expd) : PySem.W.nsIn K mainGlobals "set" = some none := of_non2 (ba1 (ba2 (ba2 hc)))
theorem h_z_len {K : PySem.W.Frag} (hc : chk11 K = true) (hp : prtH K = expd) : PySem.W.nsIn K mainGlobals "len" = some none := of_non2 (ba1 (ba2 (ba2 (ba2 hc))))
theorem h_z_int {K : PySem.W.Frag} (hc : chk11 K = true) (hp : prtH K = expd) : PySem.W.nsIn K mainGlobals "int" = some none := of_non2 (ba1 (ba2 (ba2 (ba2 (ba2 hc)))))
theorem h_z_bool {K : PySem.W.Frag} (hc : chk11 K = true) (hp : prtH K = expd) : PySem.W.nsIn K mainGlobals "bool" = some none := of_non2 (ba1 (ba2 (ba2 (ba2 (ba2 (ba2 hc))))))
theorem h_z_str {K : PySem.W.Frag} (hc : chk11 K = true) (hp : prtH K = expd) : PySem.W.nsIn K mainGlobals "str" = some none := of_non2 (ba1 (ba2 (ba2 (ba2 (ba2 (ba2 (ba2 hc)))))))
theorem h_z_list {K : PySem.W.Frag} (hc : chk11 K = true) (hp : prtH K = expd) : PySem.W.nsIn K mainGlobals "list" = some none := of_non2 (ba1 (ba2 (ba2 (ba2 (ba2 (ba2 (ba2 (ba2 hc))))))))
theorem h_z_tuple {K : PySem.W.Frag} (hc : chk11 K = true) (hp : prtH K = expd) : PySem.W.nsIn K mainGlobals "tuple" = some none := of_non2 (ba1 (ba2 (ba2 (ba2 (ba2 (ba2 (ba2 (ba2 (ba2 hc)))))))))
theorem h_z_dict {K : PySem.W.Frag} (hc : chk11 K = true) (hp : prtH K = expd) : PySem.W.nsIn K mainGlobals "dict" = some none := of_non2 (ba1 (ba2 (ba2 (ba2 (ba2 (ba2 (ba2 (ba2 (ba2 (ba2 hc))))))))))
theorem h_z_abs {K : PySem.W.Frag} (hc : chk11 K = true) (hp : prtH K = expd) : PySem.W.nsIn K mainGlobals "abs" = some none := of_non2 (ba1 (ba2 (ba2 (ba2 (ba2 (ba2 (ba2 (ba2 (ba2 (ba2 (ba2 hc)))))))))))
theorem h_z_max {K : PySem.W.Frag} (hc : chk11 K = true) (hp : prtH K = expd) : PySem.W.nsIn K mainGlobals "max" = some none := of_non2 (ba1 (ba2 (ba2 (ba2 (ba2 (ba2 (ba2 (ba2 (ba2 (ba2 (ba2 (ba2 hc))))))))))))
theorem h_z_min {K : PySem.W.Frag} (hc : chk11 K = true) (hp : prtH K = expd) : PySem.W.nsIn K mainGlobals "min" = some none := of_non2 (ba1 (ba2 (ba2 (ba2 (ba2 (ba2 (ba2 (ba2 (ba2 (ba2 (ba2 (ba2 (ba2 hc)))))))))))))
theorem h_z_range {K : PySem.W.Frag} (hc : chk11 K = true) (hp : prtH K = expd) : PySem.W.nsIn K mainGlobals "range" = some none := of_non2 (ba1 (ba2 (ba2 (ba2 (ba2 (ba2 (ba2 (ba2 (ba2 (ba2 (ba2 (ba2 (ba2 (ba2 hc))))))))))))))
theorem h_z_repr {K : PySem.W.Frag} (hc : chk11 K = true) (hp : prtH K = expd) : PySem.W.nsIn K mainGlobals "repr" = some none := of_non2 (ba1 (ba2 (ba2 (ba2 (ba2 (ba2 (ba2 (ba2 (ba2 (ba2 (ba2 (ba2 (ba2 (ba2 (ba2 hc)))))))))))))))
theorem h_z_isinstance {K : PySem.W.Frag} (hc : chk11 K = true) (hp : prtH K = expd) : PySem.W.nsIn K mainGlobals "isinstance" = some none := of_non2 (ba2 (ba2 (ba2 (ba2 (ba2 (ba2 (ba2 (ba2 (ba2 (ba2 (ba2 (ba2 (ba2 (ba2 (ba2 hc)))))))))))))))
theorem h_z_all {K : PySem.W.Frag} (hc : chk12 K = true) (hp : prtH K = expd) : PySem.W.nsIn K mainGlobals "all" = some none := of_non2 (ba1 hc)
theorem h_z_any {K : PySem.W.Frag} (hc : chk12 K = true) (hp : prtH K = expd) : PySem.W.nsIn K mainGlobals "any" = some none := of_non2 (ba1 (ba2 hc))
theorem h_z_sorted {K : PySem.W.Frag} (hc : chk12 K = true) (hp : prtH K = expd) : PySem.W.nsIn K mainGlobals "sorted" = some none := of_non2 (ba1 (ba2 (ba2 hc)))
theorem h_z_enumerate {K : PySem.W.Frag} (hc : chk12 K = true) (hp : prtH K = expd) : PySem.W.nsIn K mainGlobals "enumerate" = some none := of_non2 (ba1 (ba2 (ba2 (ba2 hc))))
theorem h_z_zip {K : PySem.W.Frag} (hc : chk12 K = true) (hp : prtH K = expd) : PySem.W.nsIn K mainGlobals "zip" = some none := of_non2 (ba1 (ba2 (ba2 (ba2 (ba2 hc)))))
theorem h_i_LONGEST {K : PySem.W.Frag} (hc : chk12 K = true) (hp : prtH K = expd) : PySem.W.nsIn K mainGlobals "LONGEST" = some (some (.int (10 ^ 60) (tokI (PySem.W.nsIn K mainGlobals "LONGEST")))) := of_int (ba1 (ba2 (ba2 (ba2 (ba2 (ba2 hc))))))
theorem h_i_MAX_DIGITS {K : PySem.W.Frag} (hc : chk12 K = true) (hp : prtH K = expd) : PySem.W.nsIn K mainGlobals "MAX_DIGITS" = some (some (.int (60) (tokI (PySem.W.nsIn K mainGlobals "MAX_DIGITS")))) := of_int (ba1 (ba2 (ba2 (ba2 (ba2 (ba2 (ba2 hc)))))))
theorem h_i_DIGITS {K : PySem.W.Frag} (hc : chk12 K = true) (hp : prtH K = expd) : PySem.W.nsIn K mainGlobals "DIGITS" = some (some (.str "0123456789" (tokS (PySem.W.nsIn K mainGlobals "DIGITS")))) := of_str (ba1 (ba2 (ba2 (ba2 (ba2 (ba2 (ba2 (ba2 hc))))))))
theorem h_i_NOTHING {K : PySem.W.Frag} (hc : chk12 K = true) (hp : prtH K = expd) : PySem.W.nsIn K mainGlobals "NOTHING" = some (some (.str "-" (tokS (PySem.W.nsIn K mainGlobals "NOTHING")))) := of_str (ba1 (ba2 (ba2 (ba2 (ba2 (ba2 (ba2 (ba2 (ba2 hc)))))))))
theorem h_i_NONE {K : PySem.W.Frag} (hc : chk12 K = true) (hp : prtH K = expd) : PySem.W.nsIn K mainGlobals "NONE" = some (some (.str "none" (tokS (PySem.W.nsIn K mainGlobals "NONE")))) := of_str (ba1 (ba2 (ba2 (ba2 (ba2 (ba2 (ba2 (ba2 (ba2 (ba2 hc))))))))))
theorem h_i_BAR {K : PySem.W.Frag} (hc : chk12 K = true) (hp : prtH K = expd) : PySem.W.nsIn K mainGlobals "BAR" = some (some (.str " | " (tokS (PySem.W.nsIn K mainGlobals "BAR")))) := of_str (ba1 (ba2 (ba2 (ba2 (ba2 (ba2 (ba2 (ba2 (ba2 (ba2 (ba2 hc)))))))))))
theorem h_i_BETWEEN {K : PySem.W.Frag} (hc : chk12 K = true) (hp : prtH K = expd) : PySem.W.nsIn K mainGlobals "BETWEEN" = some (some (.str "; " (tokS (PySem.W.nsIn K mainGlobals "BETWEEN")))) := of_str (ba2 (ba2 (ba2 (ba2 (ba2 (ba2 (ba2 (ba2 (ba2 (ba2 (ba2 hc)))))))))))
theorem all_of {l : PySem.W.OpenLaw} {w : World} {K : PySem.W.Frag} {h : Heap} {mg : Str → Option Value} {fa : Addr} (X : K.In h) (G : h.Ns mainGlobals mg) (hfa : mg "law" = some (.ref fa)) (hc : chk K = true) (hp : prtH K = expd) {tp_strings_right : Addr} (tn : [tp_strings_right].Nodup) :
    ∃ fd : FuncData, (∀ (s : Shared) (v : Value), BindsTo s fd ⟨[v], []⟩ [("_law_script", v)]) ∧ ∀ base : Heap, K.In base → base.Ns mainGlobals mg → LamX.TabB base mg (q_tc_strings_right K) tp_strings_right → FnG l.prog w K mg base (L2.CX l.prog w) 13 fa fd ["_law_script"] (spLaw [(tp_strings_right, "_law_strings_right.<locals>.<lambda>")] K) := by
  have c0 : chk0 K = true := (ba1 hc)
  have c1 : chk1 K = true := (ba1 (ba2 hc))
  have c2 : chk2 K = true := (ba1 (ba2 (ba2 hc)))
  have c3 : chk3 K = true := (ba1 (ba2 (ba2 (ba2 hc))))
  have c4 : chk4 K = true := (ba1 (ba2 (ba2 (ba2 (ba2 hc)))))
  have c5 : chk5 K = true := (ba1 (ba2 (ba2 (ba2 (ba2 (ba2 hc))))))
  have c6 : chk6 K = true := (ba1 (ba2 (ba2 (ba2 (ba2 (ba2 (ba2 hc)))))))
  have c7 : chk7 K = true := (ba1 (ba2 (ba2 (ba2 (ba2 (ba2 (ba2 (ba2 hc))))))))
  have c8 : chk8 K = true := (ba1 (ba2 (ba2 (ba2 (ba2 (ba2 (ba2 (ba2 (ba2 hc)))))))))
  have c9 : chk9 K = true := (ba1 (ba2 (ba2 (ba2 (ba2 (ba2 (ba2 (ba2 (ba2 (ba2 hc))))))))))
  have c10 : chk10 K = true := (ba1 (ba2 (ba2 (ba2 (ba2 (ba2 (ba2 (ba2 (ba2 (ba2 (ba2 hc)))))))))))
  have c11 : chk11 K = true := (ba1 (ba2 (ba2 (ba2 (ba2 (ba2 (ba2 (ba2 (ba2 (ba2 (ba2 (ba2 hc))))))))))))
  have c12 : chk12 K = true := (ba2 (ba2 (ba2 (ba2 (ba2 (ba2 (ba2 (ba2 (ba2 (ba2 (ba2 (ba2 hc))))))))))))
  exact all_mk X G hfa tn (h_a_CT c0 hp) (h_a_CO c0 hp) (h_a_CE c0 hp) (h_a_ParseError_init c0 hp) (h_i_ParseError_init c0 hp) (h_l_ParseError_init c0 hp) (h_c_ParseError_init c0 hp) (h_k_ParseError_init c0 hp) (h_x_ParseError_init c0 hp) (h_xx_CT c0 hp) (h_xk_CT c0 hp) (h_xb_CT c0 hp) (h_xt_CT c0 hp) (h_xi_CT c0 hp) (h_xs_CT c0 hp) (h_xx_CO c0 hp) (h_xk_CO c1 hp) (h_xb_CO c1 hp) (h_xt_CO c1 hp) (h_xi_CO c1 hp) (h_xs_CO c1 hp) (h_xk_CE c1 hp) (h_xb_CE c1 hp) (h_xt_CE c1 hp) (h_xi_CE c1 hp) (h_xs_CE c1 hp) (h_ex_CE c1 hp) (h_sa_CE c1 hp) (h_ga_CE c1 hp) (h_gg_CE c1 hp) (h_hd_CE c1 hp) (h_no_CE c1 hp) (h_ti_CE c2 hp) (h_a_dice c2 hp) (h_l_dice c2 hp) (h_c_dice c2 hp) (h_k_dice c2 hp) (h_a_roll c2 hp) (h_l_roll c2 hp) (h_c_roll c2 hp) (h_k_roll c2 hp) (h_a_pick c2 hp) (h_l_pick c2 hp) (h_c_pick c2 hp) (h_k_pick c2 hp) (h_a_some c2 hp) (h_l_some c2 hp) (h_c_some c2 hp) (h_k_some c3 hp) (h_a_got c3 hp) (h_l_got c3 hp) (h_c_got c3 hp) (h_k_got c3 hp) (h_a_is_integer c3 hp) (h_l_is_integer c3 hp) (h_c_is_integer c3 hp) (h_k_is_integer c3 hp) (h_a_is_within c3 hp) (h_l_is_within c3 hp) (h_c_is_within c3 hp) (h_k_is_within c3 hp) (h_a_number_of c3 hp) (h_l_number_of c3 hp) (h_c_number_of c3 hp) (h_k_number_of c4 hp) (h_a_require_string c4 hp) (h_l_require_string c4 hp) (h_c_require_string c4 hp) (h_k_require_string c4 hp) (h_a_are_numbers c4 hp) (h_l_are_numbers c4 hp) (h_c_are_numbers c4 hp) (h_k_are_numbers c4 hp) (h_a_is_rising c4 hp) (h_l_is_rising c4 hp) (h_c_is_rising c4 hp) (h_k_is_rising c4 hp) (h_a_numbers_text c4 hp) (h_l_numbers_text c4 hp) (h_c_numbers_text c4 hp) (h_k_numbers_text c5 hp) (h_a_numbers_of c5 hp) (h_l_numbers_of c5 hp) (h_c_numbers_of c5 hp) (h_k_numbers_of c5 hp) (h_a_write_numbers c5 hp) (h_l_write_numbers c5 hp) (h_c_write_numbers c5 hp) (h_k_write_numbers c5 hp) (h_a_read_numbers c5 hp) (h_l_read_numbers c5 hp) (h_c_read_numbers c5 hp) (h_k_read_numbers c5 hp) (h_a_is_state_row c5 hp) (h_l_is_state_row c5 hp) (h_c_is_state_row c5 hp) (h_k_is_state_row c6 hp) (h_a_state_text c6 hp) (h_l_state_text c6 hp) (h_c_state_text c6 hp) (h_k_state_text c6 hp) (h_a_state_of c6 hp) (h_l_state_of c6 hp) (h_c_state_of c6 hp) (h_k_state_of c6 hp) (h_a_write_state c6 hp) (h_l_write_state c6 hp) (h_c_write_state c6 hp) (h_k_write_state c6 hp) (h_a_read_state c6 hp) (h_l_read_state c6 hp) (h_c_read_state c6 hp) (h_k_read_state c7 hp) (h_a_is_table_row c7 hp) (h_l_is_table_row c7 hp) (h_c_is_table_row c7 hp) (h_k_is_table_row c7 hp) (h_a_write_table c7 hp) (h_l_write_table c7 hp) (h_c_write_table c7 hp) (h_k_write_table c7 hp) (h_a_table_row_of c7 hp) (h_l_table_row_of c7 hp) (h_c_table_row_of c7 hp) (h_k_table_row_of c7 hp) (h_a_read_table c7 hp) (h_l_read_table c7 hp) (h_c_read_table c7 hp) (h_k_read_table c8 hp) (h_a_rising c8 hp) (h_l_rising c8 hp) (h_c_rising c8 hp) (h_k_rising c8 hp) (h_a_a_state c8 hp) (h_l_a_state c8 hp) (h_c_a_state c8 hp) (h_k_a_state c8 hp) (h_a_line c8 hp) (h_l_line c8 hp) (h_c_line c8 hp) (h_k_line c8 hp) (h_a_state_line c8 hp) (h_l_state_line c8 hp) (h_c_state_line c8 hp) (h_k_state_line c9 hp) (h_a_due_numbers c9 hp) (h_l_due_numbers c9 hp) (h_c_due_numbers c9 hp) (h_k_due_numbers c9 hp) (h_a_is_rising' c9 hp) (h_l_is_rising' c9 hp) (h_c_is_rising' c9 hp) (h_k_is_rising' c9 hp) (h_a_due_state c9 hp) (h_l_due_state c9 hp) (h_c_due_state c9 hp) (h_k_due_state c9 hp) (h_a_due_table c9 hp) (h_l_due_table c9 hp) (h_c_due_table c9 hp) (h_k_due_table c10 hp) (h_a_bent c10 hp) (h_l_bent c10 hp) (h_c_bent c10 hp) (h_k_bent c10 hp) (h_a_strings_right c10 hp) (h_l_strings_right c10 hp) (h_c_strings_right c10 hp) (h_k_strings_right c10 hp) (h_a_right c10 hp) (h_l_right c10 hp) (h_c_right c10 hp) (h_k_right c10 hp) (h_a_law c10 hp) (h_l_law c10 hp) (h_c_law c10 hp) (h_k_law c11 hp) (h_te_strings_right c11 hp) (h_z_set c11 hp) (h_z_len c11 hp) (h_z_int c11 hp) (h_z_bool c11 hp) (h_z_str c11 hp) (h_z_list c11 hp) (h_z_tuple c11 hp) (h_z_dict c11 hp) (h_z_abs c11 hp) (h_z_max c11 hp) (h_z_min c11 hp) (h_z_range c11 hp) (h_z_repr c11 hp) (h_z_isinstance c11 hp) (h_z_all c12 hp) (h_z_any c12 hp) (h_z_sorted c12 hp) (h_z_enumerate c12 hp) (h_z_zip c12 hp) (h_i_LONGEST c12 hp) (h_i_MAX_DIGITS c12 hp) (h_i_DIGITS c12 hp) (h_i_NOTHING c12 hp) (h_i_NONE c12 hp) (h_i_BAR c12 hp) (h_i_BETWEEN c12 hp)
end K70
open PySem PySem.W PySem.Calls PyProof.Rows
set_option maxRecDepth 100000 in
set_option maxHeartbeats 0 in
theorem PySem.Challenge.cw_firstneed_k70_whole_numbers_states_and_t_holds : PySem.Challenge.rw_firstneed_k70_whole_numbers_states_and_t.Holds := by
  w_on; o_law
  refine HandSHeadRun.head_any (r := OpenLaw.row PySem.Challenge.rw_firstneed_k70_whole_numbers_states_and_t) (q := view (OpenLaw.row PySem.Challenge.rw_firstneed_k70_whole_numbers_states_and_t).prog [50]) (H := K70.hk) (ob := Pu.obR 900 K70.chkA K70.prtA) (M := 9000) (loose := K70.hnames) (d := HandSHeadRun.topDef (OpenLaw.row PySem.Challenge.rw_firstneed_k70_whole_numbers_states_and_t).prog 50) (kwd := []) Pu.obR_eq
    (by kernel_rfl) (fun s => by kernel_rfl) K70.run (by kernel_rfl) (by kernel_rfl) (by kernel_rfl) (by rfl) (by first | assumption | decide +kernel) (by decide +kernel) ⟨rfl, rfl, rfl, rfl, rfl, by decide +kernel⟩ ?hw ?hc
  case hw => w_witness2
  case hc =>
    refine Pu.walk_ofT (l := PySem.Challenge.rw_firstneed_k70_whole_numbers_states_and_t) (n := 63) (k := 13) (x := "_law_script") K70.tnms ["_law_strings_right.<locals>.<lambda>"] (Y := fun K => K70.chk K = true ∧ K70.prtH K = K70.expd) (sp := K70.spLaw) rfl (by decide) (by kernel_rfl) ⟨rfl, by decide, by decide⟩ (fun w h Y => (match Y with | ⟨K, i, c, p⟩ => ⟨K, i, Pu.ba1 c, Pu.ba2 c, p⟩)) ?F (fun T K H a ns hl hT hS => ⟨a, ns, rfl, hS, hl, hT, fun _ => rfl⟩)
    intro w mg fa h K KX Y G hmg0 tps nd hl
    have hmg : mg ("law" : PySem.Str) = some (.ref fa) := by
      have e : (HandSHeadRun.topDef (OpenLaw.row PySem.Challenge.rw_firstneed_k70_whole_numbers_states_and_t).prog 50).name = ("law" : PySem.Str) := by kernel_rfl
      rw [← e]
      exact hmg0
    obtain ⟨tp_strings_right, rfl⟩ : ∃ tp_strings_right : PySem.Addr, tps = [tp_strings_right] := (match tps, hl with | [tp_strings_right], _ => ⟨tp_strings_right, rfl⟩)
    obtain ⟨fd, hb, hF⟩ := K70.all_of KX G hmg Y.1 Y.2 nd
    exact ⟨fd, hb, fun base h1 h2 hT => hF base h1 h2 (hT _ (.head _))⟩
