import PyProof.Rows.All
import Wide.All
import OpenK.AllK
import Wide.FinOn
import HandS.Head0
import HandS.Head1
import HandS.Head2
import HandS.HeadHook1
import HandS.HeadHook2
import HandS.ExcInit
import HandS.Words
import KE.KStateDown
import HandS.ForMost
import HandS.IsInst
import HandS.Evl
import HandS.Walk
import HandS.Star
import HandS.Style
import HandS.TupAny
import HandS.DictComp
import HandS.Deep
import KE.GoesMore
import KE.GoesEnum
import HandS.Codes
import HandS.Zip
import HandS.ForExc
import HandS.OwnEq
import HandS.ClsMeth
import HandS.Property
import OpenK.KOps
import OpenK.KMeth
import HandS.TryOnly
import HandS.WordsExc
import HandS.RaiseMore
import HandS.More
import HandS.Dict
import HandS.Conv
import HandS.ListItems
import HandS.Exc
import HandS.TryMany
import HandS.ExcField
import PyProof.ReprRoads
import KE.KCallOwn
import HandS.Finally
import KE.SortData
import PyProof.Rows.CallKwBuiltin
import KE.KMinKey
import HandS.SortKw
import KE.KDictZip
import PyProof.WalksMore
import HandS.SetKeys
import HandS.Strs
import PyProof.Rows.SetFrom
import KE.KDictList
import KE.KEqNest
import HandS.SetTxt0
import HandS.Set
import HandS.NoneIn
import HandS.Defaults
import HandS.FStr
import KE.KFmtOwn
import KE.KeyNested
import PyProof.DictWalks
import HandS.Text
import PyProof.SliceList
import KE.KTryMore
import HandS.ReplaceLit
import HandS.TupMul
import KE.KEqDict
import HandS.DictTup
import PyProof.NeKinds
import HandS.List
import HandS.Iter
import HandS.Comp
import HandS.TupSets
import HandS.SetFor
import HandS.TupLe
import KE.KDictWalk
import HandS.Small
import HandS.TupLen
import PyProof.StrBlock2
import KE.KExcInit
import HandS.ExcCtx
import HandS.SuiteRaise
import HandS.RaiseFrom
import HandS.Lambda
import KE.KDictDisplayH
import KE.KIsAll
import HandS.EndTab
import KE.KIntText
import PyProof.StrLawsTight
import PySem.Challenge.RW_firstneed_k72_errors_of_written_values
set_option Elab.async false
set_option maxRecDepth 100000
set_option maxHeartbeats 1000000
set_option linter.all false
namespace Pu
open PySem PySem.Spec PyProof.Rows L2
theorem ba1 {a b : Bool} (h : (a && b) = true) : a = true := (Bool.and_eq_true_iff.mp h).1
theorem ba2 {a b : Bool} (h : (a && b) = true) : b = true := (Bool.and_eq_true_iff.mp h).2
def refOf : Option (Option Value) → Addr
  | some (some (.ref a)) => a
  | _ => 0
def jaF : Option (Option Value) → Bool
  | some (some (.ref _)) => true
  | _ => false
theorem jaQ {o : Option (Option Value)} (h : jaF o = true) : o = some (some (.ref (refOf o))) := by
  unfold jaF at h
  split at h
  · rfl
  · cases h
def jbJ : Option (Option Value) → Bool
  | some none => true
  | _ => false
theorem jbq {o : Option (Option Value)} (h : jbJ o = true) : o = some none := by
  unfold jbJ at h
  split at h
  · rfl
  · cases h
def isBi (s : String) : Option (Option Value) → Bool
  | some (some (.builtin t)) => t == s
  | _ => false
theorem of_bi {s : String} {o : Option (Option Value)} (h : isBi s o = true) : o = some (some (.builtin s)) := by
  unfold isBi at h
  split at h
  · rw [eq_of_beq h]
  · cases h
def isOB (b : Bool) : Option Bool → Bool
  | some c => c == b
  | _ => false
theorem of_ob {b : Bool} {o : Option Bool} (h : isOB b o = true) : o = some b := by
  unfold isOB at h
  split at h
  · rw [eq_of_beq h]
  · cases h
def isTyO (s : String) : Option Value → Bool
  | some (.type t) => t == s
  | _ => false
theorem of_ty {s : String} {o : Option Value} (h : isTyO s o = true) : o = some (.type s) := by
  unfold isTyO at h
  split at h
  · rw [eq_of_beq h]
  · cases h
def isInt (n : Int) : Option (Option Value) → Bool
  | some (some (.int m _)) => m == n
  | _ => false
def tokI : Option (Option Value) → Tok
  | some (some (.int _ t)) => t
  | _ => 0
theorem jrK {n : Int} {o : Option (Option Value)} (h : isInt n o = true) : o = some (some (.int n (tokI o))) := by
  unfold isInt at h
  split at h
  · rw [eq_of_beq h]; rfl
  · cases h
def isStr (x : Str) : Option (Option Value) → Bool
  | some (some (.str y _)) => y == x
  | _ => false
def tokS : Option (Option Value) → Tok
  | some (some (.str _ t)) => t
  | _ => 0
theorem jhe {x : Str} {o : Option (Option Value)} (h : isStr x o = true) : o = some (some (.str x (tokS o))) := by
  unfold isStr at h
  split at h
  · rw [eq_of_beq h]; rfl
  · cases h
def ocOf : Option Obj → Value
  | some o => o.cls
  | none => .none
def odOf : Option Obj → Option Addr
  | some o => o.dict
  | none => none
def slOf : Option Obj → Array (Option Value)
  | some o => o.slots
  | none => #[]
def fn0 : FuncData := PySem.W.fnOf Str.empty Str.empty ⟨[], [], none, [], [], none, []⟩ [] { kind := .function, names := [], isGenerator := false, isCoroutine := false } .none .none .none .none none .none .none
def fdOf : Option Obj → FuncData
  | some ⟨_, _, .func f, _⟩ => f
  | _ => fn0
def bodyOf : FuncBody → List Stmt
  | .stmts b => b
  | _ => []
def jxi : FuncBody → Bool
  | .stmts _ => true
  | _ => false
def isFnO : Option Obj → Bool
  | some ⟨_, _, .func f, _⟩ => jxi f.body && (f.globals == mainGlobals && (f.closure.isEmpty && f.builtins == builtinsNs))
  | _ => false
def jaw : Value → Bool
  | .none => true
  | _ => false
def jtb : Value → Bool
  | .ref _ => true
  | _ => false
def refV : Value → Addr
  | .ref a => a
  | _ => 0
abbrev FnT : Type := Str × Str × Arguments × List Stmt × Scope
abbrev mkT (a q : Str) (ar : Arguments) (b : List Stmt) (sc : Scope) : FnT := (a, q, ar, b, sc)
def fnT (o : Option Obj) : FnT := ((fdOf o).name, (fdOf o).qualname, (fdOf o).params, bodyOf (fdOf o).body, (fdOf o).scope)
theorem of_fnG {o : Option Obj} {nm q : Str} {ar : Arguments} {b : List Stmt} {sc : Scope} (h : isFnO o = true) (p : fnT o = (nm, q, ar, b, sc)) :
    o = some ⟨ocOf o, odOf o, .func (PySem.W.fnOf nm q ar b sc (fdOf o).defaults (fdOf o).kwdefaults (fdOf o).doc (fdOf o).pyModule (fdOf o).annotations (fdOf o).code (fdOf o).closureTuple), slOf o⟩ := by
  unfold isFnO at h
  split at h
  · rename_i c d f sl
    have p : (f.name, f.qualname, f.params, bodyOf f.body, f.scope) = (nm, q, ar, b, sc) := p
    obtain ⟨n1, q1, a1, b1, s1, g1, c1, d1, k1, dc1, pm1, an1, cd1, ct1, bi1⟩ := f
    have h1 := ba1 h
    have h2 := eq_of_beq (ba1 (ba2 h))
    have h3 := ba1 (ba2 (ba2 h))
    have h4 := eq_of_beq (ba2 (ba2 (ba2 h)))
    try simp only at h1 h2 h3 h4 p
    cases b1 with
    | stmts bb =>
      cases c1 with
      | nil =>
        obtain ⟨rfl, rfl, rfl, rfl, rfl⟩ : n1 = nm ∧ q1 = q ∧ a1 = ar ∧ bb = b ∧ s1 = sc := ⟨congrArg (·.1) p, congrArg (·.2.1) p, congrArg (·.2.2.1) p, congrArg (·.2.2.2.1) p, congrArg (·.2.2.2.2) p⟩
        subst h2 h4
        rfl
      | cons _ _ => cases h3
    | expr _ => cases h1
  · cases h
theorem of_fn {o : Option Obj} {nm q : Str} {ar : Arguments} {b : List Stmt} {sc : Scope} (h : (isFnO o && jaw (fdOf o).defaults) = true) (p : fnT o = (nm, q, ar, b, sc)) :
    o = some ⟨ocOf o, odOf o, .func (PySem.W.fnOf nm q ar b sc .none (fdOf o).kwdefaults (fdOf o).doc (fdOf o).pyModule (fdOf o).annotations (fdOf o).code (fdOf o).closureTuple), slOf o⟩ := by
  have e := of_fnG (ba1 h) p
  have h2 := ba2 h
  generalize (fdOf o).defaults = dv at e h2
  cases dv with
  | none => exact e
  | _ => cases h2
theorem nthEq {α : Type} {l l' : List α} (h : l = l') (i : Nat) : l[i]? = l'[i]? := by rw [h]
def downs : Nat → List Addr
  | 0 => []
  | n + 1 => n :: downs n
/-- the module's names first: most facts look there -/
def hotO : Option Obj → Bool
  | some ⟨.none, _, _, _⟩ => false
  | some ⟨_, _, .seq _ _, _⟩ => false
  | some _ => true
  | none => false
/-- objects that facts look at stand first: no tuples, no parts of codes -/
def addrs (g : Addr → Option Obj) (N : Nat) : List Addr := mainGlobals :: ((downs N).filter (fun a => hotO (g a)) ++ downs N)
def hkR (N : Nat) (chk : PySem.W.Frag → Bool) (prt : PySem.W.Frag → List FnT) (exp : List FnT) : PySem.W.Hook where
  α := Bool × List FnT
  obs s := (chk (He.frG s.heap.get? (addrs s.heap.get? N)), prt (He.frG s.heap.get? (addrs s.heap.get? N)))
  val _ := (true, exp)
  says _ h := ∃ K : PySem.W.Frag, K.In h ∧ chk K = true ∧ prt K = exp
  of _ _ e := ⟨_, He.frG_in, congrArg Prod.fst e, congrArg Prod.snd e⟩
  keeps _ _ _ := fun ⟨K, i, p⟩ k => ⟨K, fun a o l => k a o (i a o l), p⟩
def obR (N : Nat) (chk : PySem.W.Frag → Bool) (prt : PySem.W.Frag → List FnT) (s : PySem.W.SharedT) : Bool × List FnT := (chk (He.frG (HandSHeadRun.getT s) (addrs (HandSHeadRun.getT s) N)), prt (He.frG (HandSHeadRun.getT s) (addrs (HandSHeadRun.getT s) N)))
theorem obR_eq {N : Nat} {chk : PySem.W.Frag → Bool} {prt : PySem.W.Frag → List FnT} {exp : List FnT} (s : PySem.W.SharedT) : obR N chk prt s = (hkR N chk prt exp).obs s.abs := by
  have e : HandSHeadRun.getT s = s.abs.heap.get? := funext (HandSHeadRun.getT_eq s)
  unfold obR
  rw [e]
  rfl
theorem jqI {r : PySem.W.OpenRow} {q : Program} {N M : Nat} {chkA chkB : PySem.W.Frag → Bool} {prt : PySem.W.Frag → List FnT} {exp : List FnT} {loose : List Str} {w : World}
    (h1 : HandSHeadRun.RunEq r q (hkR N chkA (fun _ => []) []) (obR N chkA fun _ => []) M loose w) (h2 : HandSHeadRun.RunEq r q (hkR N chkB prt exp) (obR N chkB prt) M loose w) :
    HandSHeadRun.RunEq r q (hkR N (fun K => chkA K && chkB K) prt exp) (obR N (fun K => chkA K && chkB K) prt) M loose w := fun os => by
  obtain ⟨s, hs, e1⟩ := Option.map_eq_some_iff.mp (h1 os)
  obtain ⟨s', hs', e2⟩ := Option.map_eq_some_iff.mp (h2 os)
  rw [hs] at hs'
  cases hs'
  obtain ⟨a1, e1⟩ := Prod.mk.inj e1
  obtain ⟨a2, e1⟩ := Prod.mk.inj e1
  obtain ⟨a3, e2⟩ := Prod.mk.inj e2
  obtain ⟨a4, e2⟩ := Prod.mk.inj e2
  have f1 : chkA (He.frG (HandSHeadRun.getT s) (addrs (HandSHeadRun.getT s) N)) = true := congrArg Prod.fst e1
  have f2 : chkB (He.frG (HandSHeadRun.getT s) (addrs (HandSHeadRun.getT s) N)) = true := congrArg Prod.fst e2
  have f3 : prt (He.frG (HandSHeadRun.getT s) (addrs (HandSHeadRun.getT s) N)) = exp := congrArg Prod.snd e2
  refine Option.map_eq_some_iff.mpr ⟨s, hs, Prod.ext a1 (Prod.ext a2 (Prod.ext ?_ f3))⟩
  show (chkA (He.frG (HandSHeadRun.getT s) (addrs (HandSHeadRun.getT s) N)) && chkB (He.frG (HandSHeadRun.getT s) (addrs (HandSHeadRun.getT s) N))) = true
  rw [f1, f2]
  rfl
end Pu
namespace Pu
open PySem PySem.Spec PyProof.Rows L2
def slB : List (Option Value) → Bool
  | [_, _, _, _, some (.builtin n), _] => n == "ValueError.__new__"
  | _ => false
def mroB (C : Addr) : List Value → Bool
  | .ref D :: bm => D == C && PySem.HandSPX.refsVE bm
  | _ => false
def excB (K : PySem.W.Frag) (C : Addr) : Bool := match K.lookup C with
  | some ⟨.type t, _, .cls cd, sl⟩ => t == "type" && (slB sl.toList && (mroB C cd.mro && (cd.hasDict && !cd.hasDel)))
  | _ => false
theorem of_exB {K : PySem.W.Frag} {C : Addr} (h : excB K C = true) : ∃ nm q N bs bm sn sub ab col dd k0 k1 k2 k3 k5, K.lookup C = some (excClassObj nm q C N bs bm true sn sub ab col dd k0 k1 k2 k3 k5 "ValueError.__new__") ∧ PySem.HandSPX.refsVE bm = true := by
  unfold excB at h
  split at h
  · rename_i t d cd sl e
    have h1 := eq_of_beq (ba1 h)
    have h2 := ba1 (ba2 h)
    have h3 := ba1 (ba2 (ba2 h))
    have h4 := ba1 (ba2 (ba2 (ba2 h)))
    have h5 := ba2 (ba2 (ba2 (ba2 h)))
    subst h1
    obtain ⟨nm, bs, mro, N, q, hd, sn, sub, ab, col, hdel⟩ := cd
    obtain ⟨sl⟩ := sl
    simp only at h2 h3 h4 h5
    subst h4
    have h5 : hdel = false := by cases hdel <;> first | rfl | cases h5
    subst h5
    unfold slB at h2
    split at h2
    · have h2 := eq_of_beq h2
      subst h2
      unfold mroB at h3
      split at h3
      · rename_i D bm
        have h6 := eq_of_beq (ba1 h3)
        subst h6
        exact ⟨_, _, _, _, _, _, _, _, _, _, _, _, _, _, _, e, ba2 h3⟩
      · cases h3
    · cases h2
  · cases h
end Pu
namespace Pu
open PySem PySem.Spec PyProof.Rows L2
/-- the fragment without the objects at ps -/
def cutK (K : PySem.W.Frag) (ps : List Addr) : PySem.W.Frag := K.filter fun e => !ps.contains e.1
/-- the table of the code object at c -/
def tabOf (K : PySem.W.Frag) (c : Addr) : Addr := match K.lookup c with
  | some o => (match o.data with
    | .fields vs => (match (vs[11]? : Option Value) with
      | some (Value.ref P) => P
      | _ => 0)
    | _ => 0)
  | none => 0
def isStrV : Value → Bool
  | .str _ _ => true
  | _ => false
def jwt : Value → Bool
  | .int _ _ => true
  | _ => false
def isBlV : Value → Bool
  | .bool _ => true
  | _ => false
def jmD (K : PySem.W.Frag) (c : Addr) : Bool := match K.lookup c with
  | some o => (match o.cls with
    | .type t => t == "code"
    | _ => false) && (match o.data with
    | .fields vs => (match (vs[11]? : Option Value) with
      | some (Value.ref P) => !(c == P)
      | _ => false) && isStrV (vs.getD 18 .none) && jwt (vs.getD 7 .none) && isBlV (vs.getD 9 .none) && jwt (vs.getD 10 .none)
    | _ => false)
  | none => false
def isTbO : Option Obj → Bool
  | some o => (match o.cls with
    | .none => true
    | _ => false) && (match o.data with
    | .fields vs => vs.size == 0
    | _ => false) && o.dict.isNone && o.slots.size == 0
  | none => false
def nodB : List Addr → Bool
  | [] => true
  | a :: l => !l.contains a && nodB l
def tcs (nms : List Str) (K : PySem.W.Frag) : List Addr := nms.map fun nm => refV (fdOf (K.lookup (refOf (PySem.W.nsIn K mainGlobals nm)))).code
def KTof (nms : List Str) (K : PySem.W.Frag) : PySem.W.Frag := cutK K ((tcs nms K).map (tabOf K))
def chkTb (nms : List Str) (K : PySem.W.Frag) : Bool := (tcs nms K).all (fun c => isTbO (K.lookup (tabOf K c)) && jmD K c) && (nodB ((tcs nms K).map (tabOf K)) && tcs nms (KTof nms K) == tcs nms K)
end Pu
namespace K72
open PySem PySem.Spec PyProof.Rows L2 Pu
def topR (i : Nat) : Stmt := PySem.Challenge.pw_firstneed_k72_errors_of_written_values.main.body.getD i (.Pass ⟨0, 0, 0, 0⟩)
def q_CP (K : PySem.W.Frag) : Addr := refOf (PySem.W.nsIn K mainGlobals "Program")
def q_CE (K : PySem.W.Frag) : Addr := refOf (PySem.W.nsIn K mainGlobals "ParseError")
def q_CT (K : PySem.W.Frag) : Addr := refOf (PySem.W.nsIn K mainGlobals "InvalidTable")
def q_CR (K : PySem.W.Frag) : Addr := refOf (PySem.W.nsIn K mainGlobals "InvalidRows")
def q_CG (K : PySem.W.Frag) : Addr := refOf (PySem.W.nsIn K mainGlobals "InvalidProgram")
def q_CO (K : PySem.W.Frag) : Addr := refOf (PySem.W.nsIn K mainGlobals "InvalidOperation")
def jab (K : PySem.W.Frag) : Addr := refOf (PySem.W.findIn K (.ref (q_CE K)) "__init__")
def jcl (K : PySem.W.Frag) : Addr := refOf (PySem.W.nsIn K mainGlobals "_law_dice")
def jcm (K : PySem.W.Frag) : Addr := refOf (PySem.W.nsIn K mainGlobals "_law_roll")
def jcn (K : PySem.W.Frag) : Addr := refOf (PySem.W.nsIn K mainGlobals "_law_pick")
def jcT (K : PySem.W.Frag) : Addr := refOf (PySem.W.nsIn K mainGlobals "_law_met")
def jaG (K : PySem.W.Frag) : Addr := refOf (PySem.W.nsIn K mainGlobals "is_integer")
def jaS (K : PySem.W.Frag) : Addr := refOf (PySem.W.nsIn K mainGlobals "is_within")
def jbr (K : PySem.W.Frag) : Addr := refOf (PySem.W.nsIn K mainGlobals "is_word")
def jaT (K : PySem.W.Frag) : Addr := refOf (PySem.W.nsIn K mainGlobals "number_of")
def jaj (K : PySem.W.Frag) : Addr := refOf (PySem.W.nsIn K mainGlobals "require_string")
def jax (K : PySem.W.Frag) : Addr := refOf (PySem.W.nsIn K mainGlobals "are_numbers")
def jaU (K : PySem.W.Frag) : Addr := refOf (PySem.W.nsIn K mainGlobals "is_rising")
def jap (K : PySem.W.Frag) : Addr := refOf (PySem.W.nsIn K mainGlobals "numbers_text")
def jaH (K : PySem.W.Frag) : Addr := refOf (PySem.W.nsIn K mainGlobals "numbers_of")
def jak (K : PySem.W.Frag) : Addr := refOf (PySem.W.nsIn K mainGlobals "write_numbers")
def jaq (K : PySem.W.Frag) : Addr := refOf (PySem.W.nsIn K mainGlobals "read_numbers")
def jar (K : PySem.W.Frag) : Addr := refOf (PySem.W.nsIn K mainGlobals "is_state_row")
def jaI (K : PySem.W.Frag) : Addr := refOf (PySem.W.nsIn K mainGlobals "state_text")
def jay (K : PySem.W.Frag) : Addr := refOf (PySem.W.nsIn K mainGlobals "write_state")
def jaJ (K : PySem.W.Frag) : Addr := refOf (PySem.W.nsIn K mainGlobals "read_state")
def jas (K : PySem.W.Frag) : Addr := refOf (PySem.W.nsIn K mainGlobals "is_table_row")
def jaz (K : PySem.W.Frag) : Addr := refOf (PySem.W.nsIn K mainGlobals "write_table")
def jaK (K : PySem.W.Frag) : Addr := refOf (PySem.W.nsIn K mainGlobals "read_table")
def jbs (K : PySem.W.Frag) : Addr := refOf (PySem.W.nsIn K mainGlobals "is_sign")
def jaV (K : PySem.W.Frag) : Addr := refOf (PySem.W.nsIn K mainGlobals "is_row_at")
def jaL (K : PySem.W.Frag) : Addr := refOf (PySem.W.nsIn K mainGlobals "write_rows")
def jaW (K : PySem.W.Frag) : Addr := refOf (PySem.W.nsIn K mainGlobals "read_rows")
def jah (K : PySem.W.Frag) : Addr := refOf (PySem.W.nsIn K mainGlobals "require_program")
def jal (K : PySem.W.Frag) : Addr := refOf (PySem.W.nsIn K mainGlobals "write_program")
def jat (K : PySem.W.Frag) : Addr := refOf (PySem.W.nsIn K mainGlobals "read_program")
def jbz (K : PySem.W.Frag) : Addr := refOf (PySem.W.nsIn K mainGlobals "_law_right")
def jce (K : PySem.W.Frag) : Addr := refOf (PySem.W.nsIn K mainGlobals "law")
def jmo (K : PySem.W.Frag) : Addr := refV ((fdOf (K.lookup (jbz K))).code)
def jrL (K : PySem.W.Frag) : Addr := refV ((fdOf (K.lookup (jce K))).code)
def chk0 (K : PySem.W.Frag) : Bool := jaF (PySem.W.nsIn K mainGlobals "Program") && (jaF (PySem.W.nsIn K mainGlobals "ParseError") && (jaF (PySem.W.nsIn K mainGlobals "InvalidTable") && (jaF (PySem.W.nsIn K mainGlobals "InvalidRows") && (jaF (PySem.W.nsIn K mainGlobals "InvalidProgram") && (jaF (PySem.W.nsIn K mainGlobals "InvalidOperation") && (jaF (PySem.W.findIn K (.ref (q_CE K)) "__init__") && (PySem.W.isFn K (.ref (jab K)) && ((isFnO (K.lookup (jab K)) && jaw (fdOf (K.lookup (jab K))).defaults) && (PySem.W.codeIn K (fdOf (K.lookup (jab K))).code "ParseError.__init__" && (PySem.W.keepIn K (.ref (jab K)) && (PySem.W.fnIn K (jab K) && (PySem.W.plainGet K (q_CP K) Str.empty && (PySem.W.hasDictIn K (q_CP K) && (PySem.W.plainOver K (q_CP K) && (isBi "object.__setattr__" (PySem.W.findIn K (.ref (q_CP K)) "__setattr__"))))))))))))))))
def chk1 (K : PySem.W.Frag) : Bool := isBi "object.__class__" (PySem.W.findIn K (.ref (q_CP K)) "__class__") && (isBi "getset_descriptor.__get__" (PySem.W.specialIn K (.builtin "object.__class__") "__get__") && (isOB true (PySem.W.takesIn K (.builtin "object.__class__")) && (isOB true (PySem.W.mroIn K (q_CP K) (.type "object")) && (PySem.W.makesIn K (q_CP K) && (PySem.W.keepIn K (.ref (q_CP K)) && (isOB true (PySem.W.kitOne K (.ref (q_CP K)) (.ref (q_CP K))) && (isOB false (PySem.W.kitOne K (.ref (q_CP K)) (.type "int")) && (isOB false (PySem.W.kitOne K (.ref (q_CP K)) (.type "bool")) && (isOB false (PySem.W.kitOne K (.ref (q_CP K)) (.type "str")) && (isOB false (PySem.W.kitOne K (.ref (q_CP K)) (.type "list")) && (isOB false (PySem.W.kitOne K (.ref (q_CP K)) (.type "tuple")) && (isOB false (PySem.W.kitOne K (.ref (q_CP K)) (.type "dict")) && (isOB false (PySem.W.kitOne K (.type "NoneType") (.ref (q_CP K))) && (isOB false (PySem.W.kitOne K (.type "bool") (.ref (q_CP K))) && (isOB false (PySem.W.kitOne K (.type "int") (.ref (q_CP K))))))))))))))))))
def chk2 (K : PySem.W.Frag) : Bool := isOB false (PySem.W.kitOne K (.type "str") (.ref (q_CP K))) && (isOB false (PySem.W.kitOne K (.type "list") (.ref (q_CP K))) && (isOB false (PySem.W.kitOne K (.type "tuple") (.ref (q_CP K))) && (isOB false (PySem.W.kitOne K (.type "dict") (.ref (q_CP K))) && (PySem.W.excIn K (q_CT K) [.type "ValueError", .type "Exception", .type "BaseException", .type "object"] "ValueError.__new__" && (PySem.W.keepIn K (.ref (q_CT K)) && (isOB true (PySem.W.subIn K (.ref (q_CT K)) (.type "BaseException")) && (isTyO "type" (PySem.W.typeIn K (.ref (q_CT K))) && (PySem.W.isClsIn K (q_CT K) && (isOB true (PySem.W.subIn K (.ref (q_CT K)) (.ref (q_CT K))) && (PySem.W.excIn K (q_CR K) [.type "ValueError", .type "Exception", .type "BaseException", .type "object"] "ValueError.__new__" && (PySem.W.keepIn K (.ref (q_CR K)) && (isOB true (PySem.W.subIn K (.ref (q_CR K)) (.type "BaseException")) && (isTyO "type" (PySem.W.typeIn K (.ref (q_CR K))) && (PySem.W.isClsIn K (q_CR K) && (isOB true (PySem.W.subIn K (.ref (q_CR K)) (.ref (q_CR K))))))))))))))))))
def chk3 (K : PySem.W.Frag) : Bool := PySem.W.excIn K (q_CG K) [.type "ValueError", .type "Exception", .type "BaseException", .type "object"] "ValueError.__new__" && (PySem.W.keepIn K (.ref (q_CG K)) && (isOB true (PySem.W.subIn K (.ref (q_CG K)) (.type "BaseException")) && (isTyO "type" (PySem.W.typeIn K (.ref (q_CG K))) && (PySem.W.isClsIn K (q_CG K) && (isOB true (PySem.W.subIn K (.ref (q_CG K)) (.ref (q_CG K))) && (PySem.W.excIn K (q_CO K) [.type "ValueError", .type "Exception", .type "BaseException", .type "object"] "ValueError.__new__" && (PySem.W.keepIn K (.ref (q_CO K)) && (isOB true (PySem.W.subIn K (.ref (q_CO K)) (.type "BaseException")) && (isTyO "type" (PySem.W.typeIn K (.ref (q_CO K))) && (PySem.W.isClsIn K (q_CO K) && (isOB true (PySem.W.subIn K (.ref (q_CO K)) (.ref (q_CO K))) && (PySem.W.keepIn K (.ref (q_CE K)) && (isOB true (PySem.W.subIn K (.ref (q_CE K)) (.type "BaseException")) && (isTyO "type" (PySem.W.typeIn K (.ref (q_CE K))) && (PySem.W.isClsIn K (q_CE K))))))))))))))))
def chk4 (K : PySem.W.Frag) : Bool := isOB true (PySem.W.subIn K (.ref (q_CE K)) (.ref (q_CE K))) && (Pu.excB K (q_CE K) && (isBi "object.__setattr__" (PySem.W.findIn K (.ref (q_CE K)) "__setattr__") && (isBi "BaseException.__getattribute__" (PySem.W.findIn K (.ref (q_CE K)) "__getattribute__") && (jbJ (PySem.W.findIn K (.ref (q_CE K)) "__getattr__") && (PySem.W.hasDictIn K (q_CE K) && (jbJ (PySem.W.findIn K (.ref (q_CE K)) "line") && (isTyO "function" (PySem.W.typeIn K (.ref (jab K))) && (isOB false (PySem.W.subIn K (.ref (q_CR K)) (.ref (q_CT K))) && (isOB false (PySem.W.subIn K (.ref (q_CG K)) (.ref (q_CT K))) && (isOB false (PySem.W.subIn K (.ref (q_CG K)) (.ref (q_CR K))) && (isOB false (PySem.W.subIn K (.ref (q_CO K)) (.ref (q_CT K))) && (isOB false (PySem.W.subIn K (.ref (q_CO K)) (.ref (q_CR K))) && (isOB false (PySem.W.subIn K (.ref (q_CO K)) (.ref (q_CG K))) && (isOB false (PySem.W.subIn K (.ref (q_CE K)) (.ref (q_CT K))) && (isOB false (PySem.W.subIn K (.ref (q_CE K)) (.ref (q_CR K))))))))))))))))))
def chk5 (K : PySem.W.Frag) : Bool := isOB false (PySem.W.subIn K (.ref (q_CE K)) (.ref (q_CG K))) && (isOB false (PySem.W.subIn K (.ref (q_CE K)) (.ref (q_CO K))) && (jaF (PySem.W.nsIn K mainGlobals "_law_dice") && ((isFnO (K.lookup (jcl K)) && jaw (fdOf (K.lookup (jcl K))).defaults) && (PySem.W.codeIn K (fdOf (K.lookup (jcl K))).code "_law_dice" && (PySem.W.keepIn K (.ref (jcl K)) && (jaF (PySem.W.nsIn K mainGlobals "_law_roll") && ((isFnO (K.lookup (jcm K)) && jaw (fdOf (K.lookup (jcm K))).defaults) && (PySem.W.codeIn K (fdOf (K.lookup (jcm K))).code "_law_roll" && (PySem.W.keepIn K (.ref (jcm K)) && (jaF (PySem.W.nsIn K mainGlobals "_law_pick") && ((isFnO (K.lookup (jcn K)) && jaw (fdOf (K.lookup (jcn K))).defaults) && (PySem.W.codeIn K (fdOf (K.lookup (jcn K))).code "_law_pick" && (PySem.W.keepIn K (.ref (jcn K)) && (jaF (PySem.W.nsIn K mainGlobals "_law_met") && ((isFnO (K.lookup (jcT K)) && jaw (fdOf (K.lookup (jcT K))).defaults))))))))))))))))
def chk6 (K : PySem.W.Frag) : Bool := PySem.W.codeIn K (fdOf (K.lookup (jcT K))).code "_law_met" && (PySem.W.keepIn K (.ref (jcT K)) && (jaF (PySem.W.nsIn K mainGlobals "is_integer") && ((isFnO (K.lookup (jaG K)) && jaw (fdOf (K.lookup (jaG K))).defaults) && (PySem.W.codeIn K (fdOf (K.lookup (jaG K))).code "is_integer" && (PySem.W.keepIn K (.ref (jaG K)) && (jaF (PySem.W.nsIn K mainGlobals "is_within") && ((isFnO (K.lookup (jaS K)) && jaw (fdOf (K.lookup (jaS K))).defaults) && (PySem.W.codeIn K (fdOf (K.lookup (jaS K))).code "is_within" && (PySem.W.keepIn K (.ref (jaS K)) && (jaF (PySem.W.nsIn K mainGlobals "is_word") && ((isFnO (K.lookup (jbr K)) && jaw (fdOf (K.lookup (jbr K))).defaults) && (PySem.W.codeIn K (fdOf (K.lookup (jbr K))).code "is_word" && (PySem.W.keepIn K (.ref (jbr K)) && (jaF (PySem.W.nsIn K mainGlobals "number_of") && ((isFnO (K.lookup (jaT K)) && jaw (fdOf (K.lookup (jaT K))).defaults))))))))))))))))
def chk7 (K : PySem.W.Frag) : Bool := PySem.W.codeIn K (fdOf (K.lookup (jaT K))).code "number_of" && (PySem.W.keepIn K (.ref (jaT K)) && (jaF (PySem.W.nsIn K mainGlobals "require_string") && ((isFnO (K.lookup (jaj K)) && jaw (fdOf (K.lookup (jaj K))).defaults) && (PySem.W.codeIn K (fdOf (K.lookup (jaj K))).code "require_string" && (PySem.W.keepIn K (.ref (jaj K)) && (jaF (PySem.W.nsIn K mainGlobals "are_numbers") && ((isFnO (K.lookup (jax K)) && jaw (fdOf (K.lookup (jax K))).defaults) && (PySem.W.codeIn K (fdOf (K.lookup (jax K))).code "are_numbers" && (PySem.W.keepIn K (.ref (jax K)) && (jaF (PySem.W.nsIn K mainGlobals "is_rising") && ((isFnO (K.lookup (jaU K)) && jaw (fdOf (K.lookup (jaU K))).defaults) && (PySem.W.codeIn K (fdOf (K.lookup (jaU K))).code "is_rising" && (PySem.W.keepIn K (.ref (jaU K)) && (jaF (PySem.W.nsIn K mainGlobals "numbers_text") && ((isFnO (K.lookup (jap K)) && jaw (fdOf (K.lookup (jap K))).defaults))))))))))))))))
def chk8 (K : PySem.W.Frag) : Bool := PySem.W.codeIn K (fdOf (K.lookup (jap K))).code "numbers_text" && (PySem.W.keepIn K (.ref (jap K)) && (jaF (PySem.W.nsIn K mainGlobals "numbers_of") && ((isFnO (K.lookup (jaH K)) && jaw (fdOf (K.lookup (jaH K))).defaults) && (PySem.W.codeIn K (fdOf (K.lookup (jaH K))).code "numbers_of" && (PySem.W.keepIn K (.ref (jaH K)) && (jaF (PySem.W.nsIn K mainGlobals "write_numbers") && ((isFnO (K.lookup (jak K)) && jaw (fdOf (K.lookup (jak K))).defaults) && (PySem.W.codeIn K (fdOf (K.lookup (jak K))).code "write_numbers" && (PySem.W.keepIn K (.ref (jak K)) && (jaF (PySem.W.nsIn K mainGlobals "read_numbers") && ((isFnO (K.lookup (jaq K)) && jaw (fdOf (K.lookup (jaq K))).defaults) && (PySem.W.codeIn K (fdOf (K.lookup (jaq K))).code "read_numbers" && (PySem.W.keepIn K (.ref (jaq K)) && (jaF (PySem.W.nsIn K mainGlobals "is_state_row") && ((isFnO (K.lookup (jar K)) && jaw (fdOf (K.lookup (jar K))).defaults))))))))))))))))
def chk9 (K : PySem.W.Frag) : Bool := PySem.W.codeIn K (fdOf (K.lookup (jar K))).code "is_state_row" && (PySem.W.keepIn K (.ref (jar K)) && (jaF (PySem.W.nsIn K mainGlobals "state_text") && ((isFnO (K.lookup (jaI K)) && jaw (fdOf (K.lookup (jaI K))).defaults) && (PySem.W.codeIn K (fdOf (K.lookup (jaI K))).code "state_text" && (PySem.W.keepIn K (.ref (jaI K)) && (jaF (PySem.W.nsIn K mainGlobals "write_state") && ((isFnO (K.lookup (jay K)) && jaw (fdOf (K.lookup (jay K))).defaults) && (PySem.W.codeIn K (fdOf (K.lookup (jay K))).code "write_state" && (PySem.W.keepIn K (.ref (jay K)) && (jaF (PySem.W.nsIn K mainGlobals "read_state") && ((isFnO (K.lookup (jaJ K)) && jaw (fdOf (K.lookup (jaJ K))).defaults) && (PySem.W.codeIn K (fdOf (K.lookup (jaJ K))).code "read_state" && (PySem.W.keepIn K (.ref (jaJ K)) && (jaF (PySem.W.nsIn K mainGlobals "is_table_row") && ((isFnO (K.lookup (jas K)) && jaw (fdOf (K.lookup (jas K))).defaults))))))))))))))))
def chk10 (K : PySem.W.Frag) : Bool := PySem.W.codeIn K (fdOf (K.lookup (jas K))).code "is_table_row" && (PySem.W.keepIn K (.ref (jas K)) && (jaF (PySem.W.nsIn K mainGlobals "write_table") && ((isFnO (K.lookup (jaz K)) && jaw (fdOf (K.lookup (jaz K))).defaults) && (PySem.W.codeIn K (fdOf (K.lookup (jaz K))).code "write_table" && (PySem.W.keepIn K (.ref (jaz K)) && (jaF (PySem.W.nsIn K mainGlobals "read_table") && ((isFnO (K.lookup (jaK K)) && jaw (fdOf (K.lookup (jaK K))).defaults) && (PySem.W.codeIn K (fdOf (K.lookup (jaK K))).code "read_table" && (PySem.W.keepIn K (.ref (jaK K)) && (jaF (PySem.W.nsIn K mainGlobals "is_sign") && ((isFnO (K.lookup (jbs K)) && jaw (fdOf (K.lookup (jbs K))).defaults) && (PySem.W.codeIn K (fdOf (K.lookup (jbs K))).code "is_sign" && (PySem.W.keepIn K (.ref (jbs K)) && (jaF (PySem.W.nsIn K mainGlobals "is_row_at") && ((isFnO (K.lookup (jaV K)) && jaw (fdOf (K.lookup (jaV K))).defaults))))))))))))))))
def chk11 (K : PySem.W.Frag) : Bool := PySem.W.codeIn K (fdOf (K.lookup (jaV K))).code "is_row_at" && (PySem.W.keepIn K (.ref (jaV K)) && (jaF (PySem.W.nsIn K mainGlobals "write_rows") && ((isFnO (K.lookup (jaL K)) && jaw (fdOf (K.lookup (jaL K))).defaults) && (PySem.W.codeIn K (fdOf (K.lookup (jaL K))).code "write_rows" && (PySem.W.keepIn K (.ref (jaL K)) && (jaF (PySem.W.nsIn K mainGlobals "read_rows") && ((isFnO (K.lookup (jaW K)) && jaw (fdOf (K.lookup (jaW K))).defaults) && (PySem.W.codeIn K (fdOf (K.lookup (jaW K))).code "read_rows" && (PySem.W.keepIn K (.ref (jaW K)) && (jaF (PySem.W.nsIn K mainGlobals "require_program") && ((isFnO (K.lookup (jah K)) && jaw (fdOf (K.lookup (jah K))).defaults) && (PySem.W.codeIn K (fdOf (K.lookup (jah K))).code "require_program" && (PySem.W.keepIn K (.ref (jah K)) && (jaF (PySem.W.nsIn K mainGlobals "write_program") && ((isFnO (K.lookup (jal K)) && jaw (fdOf (K.lookup (jal K))).defaults))))))))))))))))
def chk12 (K : PySem.W.Frag) : Bool := PySem.W.codeIn K (fdOf (K.lookup (jal K))).code "write_program" && (PySem.W.keepIn K (.ref (jal K)) && (jaF (PySem.W.nsIn K mainGlobals "read_program") && ((isFnO (K.lookup (jat K)) && jaw (fdOf (K.lookup (jat K))).defaults) && (PySem.W.codeIn K (fdOf (K.lookup (jat K))).code "read_program" && (PySem.W.keepIn K (.ref (jat K)) && (jaF (PySem.W.nsIn K mainGlobals "_law_right") && ((isFnO (K.lookup (jbz K)) && jaw (fdOf (K.lookup (jbz K))).defaults) && (PySem.W.codeIn K (fdOf (K.lookup (jbz K))).code "_law_right" && (PySem.W.keepIn K (.ref (jbz K)) && (jaF (PySem.W.nsIn K mainGlobals "law") && ((isFnO (K.lookup (jce K)) && jaw (fdOf (K.lookup (jce K))).defaults) && (PySem.W.codeIn K (fdOf (K.lookup (jce K))).code "law" && (PySem.W.keepIn K (.ref (jce K)) && (jtb ((fdOf (K.lookup (jbz K))).code) && (jtb ((fdOf (K.lookup (jce K))).code))))))))))))))))
def chk13 (K : PySem.W.Frag) : Bool := jbJ (PySem.W.nsIn K mainGlobals "set") && (jbJ (PySem.W.nsIn K mainGlobals "len") && (jbJ (PySem.W.nsIn K mainGlobals "int") && (jbJ (PySem.W.nsIn K mainGlobals "bool") && (jbJ (PySem.W.nsIn K mainGlobals "str") && (jbJ (PySem.W.nsIn K mainGlobals "list") && (jbJ (PySem.W.nsIn K mainGlobals "tuple") && (jbJ (PySem.W.nsIn K mainGlobals "dict") && (jbJ (PySem.W.nsIn K mainGlobals "abs") && (jbJ (PySem.W.nsIn K mainGlobals "max") && (jbJ (PySem.W.nsIn K mainGlobals "min") && (jbJ (PySem.W.nsIn K mainGlobals "range") && (jbJ (PySem.W.nsIn K mainGlobals "repr") && (jbJ (PySem.W.nsIn K mainGlobals "isinstance") && (jbJ (PySem.W.nsIn K mainGlobals "all") && (jbJ (PySem.W.nsIn K mainGlobals "any"))))))))))))))))
def chk14 (K : PySem.W.Frag) : Bool := jbJ (PySem.W.nsIn K mainGlobals "sorted") && (jbJ (PySem.W.nsIn K mainGlobals "enumerate") && (jbJ (PySem.W.nsIn K mainGlobals "zip") && (isInt (10 ^ 60) (PySem.W.nsIn K mainGlobals "LONGEST") && (isInt (60) (PySem.W.nsIn K mainGlobals "MAX_DIGITS") && (isInt (8) (PySem.W.nsIn K mainGlobals "MAX_LETTERS") && (isInt (3) (PySem.W.nsIn K mainGlobals "MAX_ARITY") && (isStr "0123456789" (PySem.W.nsIn K mainGlobals "DIGITS") && (isStr "-" (PySem.W.nsIn K mainGlobals "NOTHING") && (isStr "none" (PySem.W.nsIn K mainGlobals "NONE") && (isStr " | " (PySem.W.nsIn K mainGlobals "BAR") && (isStr "; " (PySem.W.nsIn K mainGlobals "BETWEEN") && (isStr "_" (PySem.W.nsIn K mainGlobals "ANY") && (isStr "#" (PySem.W.nsIn K mainGlobals "LOST") && (isStr "abcdefghijklmnopqrstuvwxyz" (PySem.W.nsIn K mainGlobals "LETTERS")))))))))))))))
def chkP0 (K : PySem.W.Frag) : Bool := chk0 K && (chk1 K && (chk2 K && (chk3 K && (chk4 K))))
def chkP1 (K : PySem.W.Frag) : Bool := chk5 K && (chk6 K && (chk7 K && (chk8 K && (chk9 K))))
def chkP2 (K : PySem.W.Frag) : Bool := chk10 K && (chk11 K && (chk12 K && (chk13 K && (chk14 K))))
def chkT (_ : PySem.W.Frag) : Bool := true
def chk (K : PySem.W.Frag) : Bool := chkP0 K && (chkP1 K && (chkP2 K && (chkT K)))
def prtH (K : PySem.W.Frag) : List FnT := [fnT (K.lookup (jab K)), fnT (K.lookup (jcl K)), fnT (K.lookup (jcm K)), fnT (K.lookup (jcn K)), fnT (K.lookup (jcT K)), fnT (K.lookup (jaG K)), fnT (K.lookup (jaS K)), fnT (K.lookup (jbr K)), fnT (K.lookup (jaT K)), fnT (K.lookup (jaj K)), fnT (K.lookup (jax K)), fnT (K.lookup (jaU K)), fnT (K.lookup (jap K)), fnT (K.lookup (jaH K)), fnT (K.lookup (jak K)), fnT (K.lookup (jaq K)), fnT (K.lookup (jar K)), fnT (K.lookup (jaI K)), fnT (K.lookup (jay K)), fnT (K.lookup (jaJ K)), fnT (K.lookup (jas K)), fnT (K.lookup (jaz K)), fnT (K.lookup (jaK K)), fnT (K.lookup (jbs K)), fnT (K.lookup (jaV K)), fnT (K.lookup (jaL K)), fnT (K.lookup (jaW K)), fnT (K.lookup (jah K)), fnT (K.lookup (jal K)), fnT (K.lookup (jat K)), fnT (K.lookup (jbz K)), fnT (K.lookup (jce K))]
abbrev tnms : List Str := ["_law_right", "law"]
def jtc (K : PySem.W.Frag) : Bool := chkP0 (KTof tnms K)
def jtd (K : PySem.W.Frag) : Bool := chkP1 (KTof tnms K)
def jte (K : PySem.W.Frag) : Bool := chkP2 (KTof tnms K)
def chkLA (K : PySem.W.Frag) : Bool := chkTb tnms K && chkT (KTof tnms K)
def chkA (K : PySem.W.Frag) : Bool := jtc K && (jtd K && (jte K && (chkLA K)))
def prtA (K : PySem.W.Frag) : List FnT := prtH (KTof tnms K)
def expd : List FnT := [mkT "__init__" "ParseError.__init__" (defArgs (inClass (topR 23) 0)) (defBody (inClass (topR 23) 0)) (defScope (inClass (topR 23) 0)), mkT "_law_dice" "_law_dice" (defArgs (topR 113)) (defBody (topR 113)) (defScope (topR 113)), mkT "_law_roll" "_law_roll" (defArgs (topR 114)) (defBody (topR 114)) (defScope (topR 114)), mkT "_law_pick" "_law_pick" (defArgs (topR 115)) (defBody (topR 115)) (defScope (topR 115)), mkT "_law_met" "_law_met" (defArgs (topR 116)) (defBody (topR 116)) (defScope (topR 116)), mkT "is_integer" "is_integer" (defArgs (topR 9)) (defBody (topR 9)) (defScope (topR 9)), mkT "is_within" "is_within" (defArgs (topR 10)) (defBody (topR 10)) (defScope (topR 10)), mkT "is_word" "is_word" (defArgs (topR 11)) (defBody (topR 11)) (defScope (topR 11)), mkT "number_of" "number_of" (defArgs (topR 89)) (defBody (topR 89)) (defScope (topR 89)), mkT "require_string" "require_string" (defArgs (topR 90)) (defBody (topR 90)) (defScope (topR 90)), mkT "are_numbers" "are_numbers" (defArgs (topR 91)) (defBody (topR 91)) (defScope (topR 91)), mkT "is_rising" "is_rising" (defArgs (topR 92)) (defBody (topR 92)) (defScope (topR 92)), mkT "numbers_text" "numbers_text" (defArgs (topR 93)) (defBody (topR 93)) (defScope (topR 93)), mkT "numbers_of" "numbers_of" (defArgs (topR 94)) (defBody (topR 94)) (defScope (topR 94)), mkT "write_numbers" "write_numbers" (defArgs (topR 95)) (defBody (topR 95)) (defScope (topR 95)), mkT "read_numbers" "read_numbers" (defArgs (topR 96)) (defBody (topR 96)) (defScope (topR 96)), mkT "is_state_row" "is_state_row" (defArgs (topR 97)) (defBody (topR 97)) (defScope (topR 97)), mkT "state_text" "state_text" (defArgs (topR 98)) (defBody (topR 98)) (defScope (topR 98)), mkT "write_state" "write_state" (defArgs (topR 100)) (defBody (topR 100)) (defScope (topR 100)), mkT "read_state" "read_state" (defArgs (topR 101)) (defBody (topR 101)) (defScope (topR 101)), mkT "is_table_row" "is_table_row" (defArgs (topR 102)) (defBody (topR 102)) (defScope (topR 102)), mkT "write_table" "write_table" (defArgs (topR 103)) (defBody (topR 103)) (defScope (topR 103)), mkT "read_table" "read_table" (defArgs (topR 105)) (defBody (topR 105)) (defScope (topR 105)), mkT "is_sign" "is_sign" (defArgs (topR 106)) (defBody (topR 106)) (defScope (topR 106)), mkT "is_row_at" "is_row_at" (defArgs (topR 107)) (defBody (topR 107)) (defScope (topR 107)), mkT "write_rows" "write_rows" (defArgs (topR 108)) (defBody (topR 108)) (defScope (topR 108)), mkT "read_rows" "read_rows" (defArgs (topR 109)) (defBody (topR 109)) (defScope (topR 109)), mkT "require_program" "require_program" (defArgs (topR 80)) (defBody (topR 80)) (defScope (topR 80)), mkT "write_program" "write_program" (defArgs (topR 110)) (defBody (topR 110)) (defScope (topR 110)), mkT "read_program" "read_program" (defArgs (topR 111)) (defBody (topR 111)) (defScope (topR 111)), mkT "_law_right" "_law_right" (defArgs (topR 117)) (defBody (topR 117)) (defScope (topR 117)), mkT "law" "law" (defArgs (topR 118)) (defBody (topR 118)) (defScope (topR 118))]
def names0 : List PySem.Str := ["_wall", "MAX_LETTERS", "MAX_ARITY", "MAX_SYMBOLS", "ANY", "LOST", "LETTERS", "LONGEST", "is_integer", "is_within", "is_word", "is_node", "is_symbols", "ascending_rows", "NeedError", "InvalidTerm", "InvalidBook", "InvalidProgram", "InvalidTable", "InvalidRows", "InvalidOperation", "ParseError", "UnknownPlace", "InvalidNumber", "MAX_NODES", "SIGNS", "children_of", "ends_of", "arities_in", "is_term_row"]
def names1 : List PySem.Str := ["text_of", "tokens_of", "Reader", "nodes_of", "require_clear", "Nodes", "term_in", "Term", "places_with", "part_in", "common_nodes", "common_instance", "shape_nodes", "common_shape", "MAX_RULES", "MAX_RULE_NODES", "MAX_PARTS", "ARROW", "is_term_of", "is_side", "is_rule", "parts_in", "is_rules", "read_symbols", "read_rule", "side_of", "Book", "united_book", "VARIABLES", "MAX_SIDE"]
def names2 : List PySem.Str := ["MAX_PROGRAM", "is_variable", "is_side_node", "is_scheme_row", "is_scheme", "scheme_of", "scheme_text", "side_text", "rule_of", "variables_of", "known_nodes", "known_term", "is_program_rule", "book_of", "overlaps_in", "require_program", "Program", "MAX_DIGITS", "DIGITS", "NOTHING", "NONE", "BAR", "BETWEEN", "number_of", "require_string", "are_numbers", "is_rising", "numbers_text", "numbers_of", "write_numbers"]
def names3 : List PySem.Str := ["read_numbers", "is_state_row", "state_text", "state_of", "write_state", "read_state", "is_table_row", "write_table", "table_row_of", "read_table", "is_sign", "is_row_at", "write_rows", "read_rows", "write_program", "read_program", "_law_dice", "_law_roll", "_law_pick", "_law_met", "_law_right"]
def hnames : List PySem.Str := names0 ++ names1 ++ names2 ++ names3
abbrev RR : PySem.W.OpenRow := PySem.W.OpenLaw.row PySem.Challenge.rw_firstneed_k72_errors_of_written_values
abbrev hk : PySem.W.Hook := hkR 1800 chkA prtA expd
theorem run0 (w : World) : HandSHeadRun.RunEq RR (PySem.W.view RR.prog [118]) (hkR 1800 jtc (fun _ => []) []) (obR 1800 jtc (fun _ => [])) 14000 hnames w := by
  intro os
  kernel_rfl
theorem run1 (w : World) : HandSHeadRun.RunEq RR (PySem.W.view RR.prog [118]) (hkR 1800 jtd (fun _ => []) []) (obR 1800 jtd (fun _ => [])) 14000 hnames w := by
  intro os
  kernel_rfl
theorem run2 (w : World) : HandSHeadRun.RunEq RR (PySem.W.view RR.prog [118]) (hkR 1800 jte (fun _ => []) []) (obR 1800 jte (fun _ => [])) 14000 hnames w := by
  intro os
  kernel_rfl
theorem run3 (w : World) : HandSHeadRun.RunEq RR (PySem.W.view RR.prog [118]) (hkR 1800 chkLA prtA expd) (obR 1800 chkLA prtA) 14000 hnames w := by
  intro os
  kernel_rfl
theorem run (w : World) : HandSHeadRun.RunEq RR (PySem.W.view RR.prog [118]) hk (obR 1800 chkA prtA) 14000 hnames w := (jqI (run0 w) (jqI (run1 w) (jqI (run2 w) (run3 w))))
end K72
namespace Pu
def t0 : Bool := false
end Pu
namespace Ly
open PySem PySem.Spec PyProof.Rows L2
def Gx (H H' : Hp) : Prop := ∀ a o, H a = some o → H' a = some o
theorem Gx.refl (H : Hp) : Gx H H := fun _ _ h => h
theorem Gx.trans {H H1 H2 : Hp} (a : Gx H H1) (b : Gx H1 H2) : Gx H H2 := fun x o h => b x o (a x o h)
theorem Gx.new {H : Hp} {p : Addr} {o : HO} (h : H p = none) : Gx H (upd H p o) := fun a u e => by
  rw [upd_ne (ne_of_none e h)]
  exact e
theorem Gx.mut {H H' : Hp} {p : Addr} {o : HO} (e : Gx H H') (h : H p = none) : Gx H (upd H' p o) := fun a u ha => by
  rw [upd_ne (ne_of_none ha h)]
  exact e a u ha
theorem Gx.free {H H' : Hp} {p : Addr} (e : Gx H H') (h : H' p = none) : H p = none := by
  cases q : H p with
  | none => rfl
  | some o =>
    rw [e p o q] at h
    cases h
theorem Gx.rd {H H' : Hp} {a : Addr} {u : HO} (e : Gx H H') (h : Rd H a u) : Rd H' a u := by
  rcases h with h | ⟨o, h⟩
  · exact Or.inl (e a _ h)
  · exact Or.inr ⟨o, e a _ h⟩
theorem Gx.l {K : PySem.W.Frag} {H H' : Hp} {a : Addr} {xs : List V} (e : Gx H H') (h : SqL K H a xs) : SqL K H' a xs := by
  rcases h with h | h
  · exact Or.inl (e.rd h)
  · exact Or.inr h
theorem Gx.t {K : PySem.W.Frag} {H H' : Hp} {a : Addr} {xs : List V} (e : Gx H H') (h : SqT K H a xs) : SqT K H' a xs := by
  rcases h with h | h
  · exact Or.inl (e.rd h)
  · exact Or.inr h
def diceP (p : Addr) : Heap → Prop := fun h => ∃ (a b c : Int) (t u v : Tok) (n : Nat), h.get? p = some { cls := .type "list", data := .seq #[.int a t, .int b u, .int c v] n }
def diceO (p : Addr) : HO := .ext (diceP p)
abbrev three (a b c : Int) : HO := .lst [.int a, .int b, .int c]
section
variable {P : Program} {w : World} {H H1 : Hp} {h h1 : Heap} {p : Addr} {fs ex : List Addr}
theorem jrM {a b c : Int} (x : HOk P w H h) (e : H p = some (three a b c)) : HOk P w (upd H p (diceO p)) h := by
  intro q o eq
  by_cases hq : q = p
  · subst hq
    rw [upd_same] at eq
    cases eq
    obtain ⟨_, its, n, r, g⟩ := x q _ e
    cases r with
    | cons ra r =>
      cases r with
      | cons rb r =>
        cases r with
        | cons rc r =>
          cases r
          obtain ⟨t, rfl⟩ := ra
          obtain ⟨u, rfl⟩ := rb
          obtain ⟨v, rfl⟩ := rc
          refine ⟨⟨a, b, c, t, u, v, n, g⟩, ⟨_, g⟩, ?_⟩
          rintro h1 h2 ⟨a, b, c, t, u, v, n, g⟩ k
          exact ⟨a, b, c, t, u, v, n, k _ g⟩
  · rw [upd_ne hq] at eq
    refine (x q o eq).stay (fun _ _ _ z => z) (fun b z => ?_) fun b xs z => ?_
    · rw [upd_ne]
      · exact z
      · intro z2
        subst z2
        rw [e] at z
        cases z
    · rw [upd_ne]
      · exact z
      · intro z2
        subst z2
        rw [e] at z
        cases z
theorem jvf (x : HOk P w H h) (e : H p = some (diceO p)) : ∃ a b c, HOk P w (upd H p (three a b c)) h := by
  obtain ⟨⟨a, b, c, t, u, v, n, g⟩, _, _⟩ := x p _ e
  refine ⟨a, b, c, fun q o eq => ?_⟩
  by_cases hq : q = p
  · subst hq
    rw [upd_same] at eq
    cases eq
    refine ⟨by show 3 ≤ sizeLine; decide, [.int a t, .int b u, .int c v], n, .cons ⟨t, rfl⟩ (.cons ⟨u, rfl⟩ (.cons ⟨v, rfl⟩ .nil)), g⟩
  · rw [upd_ne hq] at eq
    refine (x q o eq).stay (fun _ _ _ z => z) (fun b z => ?_) fun b xs z => ?_
    · rw [upd_ne]
      · exact z
      · intro z2
        subst z2
        rw [e] at z
        cases z
    · rw [upd_ne]
      · exact z
      · intro z2
        subst z2
        rw [e] at z
        cases z
theorem jtf {xs : List V} (u : Un fs ex H H1 h h1) (e : H1 p = some (.lst xs)) : Un fs ex H (upd H1 p (diceO p)) h h1 where
  keep := u.keep
  slot := u.slot
  free := fun b o g n hx => by
    have z := u.free b o g n hx
    rw [upd_ne (fun q => by subst q; rw [e] at z; cases z)]
    exact z
  there := u.there
  tups := fun b ys g => by
    have z := u.tups b ys g
    rw [upd_ne (fun q => by subst q; rw [e] at z; cases z)]
    exact z
  frzs := fun b o v g => by
    have z := u.frzs b o v g
    rw [upd_ne (fun q => by subst q; rw [e] at z; cases z)]
    exact z
  tbls := fun b ps g => by
    obtain ⟨m, z⟩ := u.tbls b ps g
    refine ⟨m, ?_⟩
    rw [upd_ne (fun q => by subst q; rw [e] at z; cases z)]
    exact z
theorem jxj {o : HO} (u : Un fs ex (upd H p o) H1 h h1) (e : H p = some (diceO p)) : Un fs ex H H1 h h1 where
  keep := fun b o g n => u.keep b o g (by rw [upd_ne (fun q => by subst q; rw [e] at n; cases n)]; exact n)
  slot := fun b o g n => u.slot b o g (by rw [upd_ne (fun q => by subst q; rw [e] at n; cases n)]; exact n)
  free := fun b o g n => u.free b o g (by rw [upd_ne (fun q => by subst q; rw [e] at n; cases n)]; exact n)
  there := u.there
  tups := fun b ys g => u.tups b ys (by rw [upd_ne (fun q => by subst q; rw [e] at g; cases g)]; exact g)
  frzs := fun b o v g => u.frzs b o v (by rw [upd_ne (fun q => by subst q; rw [e] at g; cases g)]; exact g)
  tbls := fun b ps g => u.tbls b ps (by rw [upd_ne (fun q => by subst q; rw [e] at g; cases g)]; exact g)
end
section
variable {P : Program} {w : World} {K : PySem.W.Frag} {mg : Str → Option Value} {base : Heap} {k : Nat} {f : Addr} {fd : FuncData} {ps : List Str} {sp : Sp} {CX : CXT}
/-- a def that reads and writes dice, seen from without -/
theorem jxk (F : FnOk P w K mg base CX0 k f fd ps sp) : FnOk P w K mg base CX0 k f fd ps (fun vs H Q E => vs.length = ps.length ∧ ∃ p, H p = some (diceO p) ∧
    ∀ a b c, sp vs (upd H p (three a b c)) (fun v H' => (∃ a' b' c', H' p = some (three a' b' c')) ∧ Q v (upd H' p (diceO p))) E) := by
  refine ⟨fun vs H Q E h => h.1, fun A outer s H args us vs Q E hr he hb hv hs => ?_⟩
  obtain ⟨_, p, hp, hs⟩ := hs
  obtain ⟨a, b, c, hok⟩ := jvf he.hok hp
  have he' : Env0 P w K mg base A outer s (upd H p (three a b c)) := ⟨he.frames, he.mod, fun q o g => by
    obtain ⟨z1, z2⟩ := he.bs q o g
    refine ⟨z1, ?_⟩
    rw [upd_ne (fun y => by subst y; rw [hp] at z2; cases z2)]
    exact z2, he.bsz, he.funs, fun q g => by
    have z2 := he.frf q g
    rw [upd_ne (fun y => by subst y; rw [hp] at z2; cases z2)]
    exact z2, hok, he.bare⟩
  refine codeAny_mono (F.run A outer s _ args us vs _ E hr he' hb hv (hs a b c)) fun r s' h => ?_
  match r, h with
  | .ok (.ret u), h =>
    obtain ⟨v, H', os, bare, un, hok', rv, ⟨a', b', c', e'⟩, q⟩ := h
    exact ⟨v, upd H' p (diceO p), os, bare, jtf (jxj un hp) e', jrM hok' e', rv, q⟩
/-- a def that makes dice -/
theorem jtg (F : FnOk P w K mg base CX0 k f fd ps sp) : FnOk P w K mg base CX0 k f fd ps (fun vs H Q E => sp vs H (fun v H' => ∃ p a b c, v = .ref p ∧ H' p = some (three a b c) ∧ Q (.ref p) (upd H' p (diceO p))) E) := by
  refine ⟨fun vs H Q E h => F.len _ _ _ _ h, fun A outer s H args us vs Q E hr he hb hv hs => ?_⟩
  refine codeAny_mono (F.run A outer s _ args us vs _ E hr he hb hv hs) fun r s' h => ?_
  match r, h with
  | .ok (.ret u), h =>
    obtain ⟨v, H', os, bare, un, hok', rv, p, a, b, c, rfl, e, q⟩ := h
    exact ⟨.ref p, upd H' p (diceO p), os, bare, jtf un e, jrM hok' e, rv, q⟩
end
theorem joG {H : Hp} {p : Addr} {o : HO} (h : H p = some o) : upd H p o = H := by
  funext q
  by_cases e : q = p
  · subst e
    rw [upd_same, h]
  · rw [upd_ne e]
structure Cal (P : Program) (w : World) (K : PySem.W.Frag) (mg : Str → Option Value) (base : Heap) (x : Str) (k : Nat) (ps : List Str) (sp : Sp) : Prop where
  ex : ∃ (f : Addr) (fd : FuncData), FnOk P w K mg base CX0 k f fd ps sp ∧ mg x = some (.ref f) ∧ PySem.W.keepIn K (.ref f) = true ∧ Binds K fd ps []
section
variable {X : Cx} {k : Nat} {ps : List Str} {sp : Sp} {x : Str} {p pos : Pos} {e : Expr} {es : List Expr} {t : TA}
theorem pe_cal (C : Cal X.prog X.w X.K X.mg X.base x k ps sp) (hr : Room k X.A) (hg : Gl X x) (ha : PA X (e :: es) t) (hdb : (x == ("__debug__" : Str)) = false := by decide)
    (he : starEach (e :: es) X.env = (false, eval e X.env) :: starEach es X.env := by rfl) (hpl : (backTo pos (starEach es X.env)).any (·.1) = false := by rfl) :
    PE X (.Call (.Name x p) (e :: es) [] pos) (tCall sp [] E0 t) := by
  obtain ⟨f, fd, F, hm, hk, hb⟩ := C.ex
  exact pe_call F hr hg hm hk hb .nil pass0 ha hdb he hpl
end
section
variable {X : Cx}
def CPowW (i j : Int) : Prop := 0 ≤ j ∧ (Builtin.Int.intBits i : Int) * j ≤ 2 ^ 27
theorem jiH : OpR X (binaryOp .Pow) (rI CPowW fun i j => .int (i ^ j.toNat)) := opI fun _ _ _ _ _ _ _ hc q => pow_int hc.1 hc.2 q
theorem jsn : CallR X (.builtin "repr") (fun xs H Q => ∃ b, xs = [.bl b] ∧ Q (.str (if b then "True" else "False")) H) := by
  intro pins s σ H xs us Q I r h
  obtain ⟨b, rfl, q⟩ := h
  obtain ⟨u, rfl, ru⟩ := vals1 r
  obtain rfl : u = Value.bool b := ru
  exact PySem.P.repr_of_bool ⟨.str _, H, I.tok _, ⟨_, rfl⟩, q⟩
end
abbrev Ty := V → Hp → Prop
def Mono (Φ : Ty) : Prop := ∀ v H H', Gx H H' → Φ v H → Φ v H'
def EvG (te : TE) (σ : L2.St) (H : Hp) (Φ : Ty) : Prop := ∀ H1, Gx H H1 → ∀ Q : VK, (∀ v H2, Gx H1 H2 → Φ v H2 → Q v H2) → te σ H1 Q
section
variable {σ : L2.St} {H H' : Hp} {te ta tb : TE} {tr : TA} {Φ Φ' : Ty} {v : V} {Q : VK}
theorem EvG.mono (e : Gx H H') (h : EvG te σ H Φ) : EvG te σ H' Φ := fun H1 a Q q => h H1 (e.trans a) Q q
theorem EvG.imp (h : EvG te σ H Φ) (i : ∀ v H2, Gx H H2 → Φ v H2 → Φ' v H2) : EvG te σ H Φ' := fun H1 a Q q => h H1 a Q fun v H2 e f => q v H2 e (i v H2 (a.trans e) f)
/-- all of one kind -/
def AllT (Φ : Ty) (n : Nat) : List V → Hp → Prop := fun vs H => vs.length = n ∧ ∀ x ∈ vs, Φ x H
theorem AllT.mono {n : Nat} {vs : List V} (m : Mono Φ) (e : Gx H H') (h : AllT Φ n vs H) : AllT Φ n vs H' := ⟨h.1, fun x hx => m _ _ _ e (h.2 x hx)⟩
end
/-- heaps in which all stays but what lists hold -/
def Kx (H H' : Hp) : Prop := ∀ a o, H a = some o → H' a = some o ∨ ∃ xs ys, o = .lst xs ∧ H' a = some (.lst ys)
theorem Gx.k {H H' : Hp} (e : Gx H H') : Kx H H' := fun a o h => .inl (e a o h)
theorem Kx.trans {H H1 H2 : Hp} (a : Kx H H1) (b : Kx H1 H2) : Kx H H2 := fun x o h => by
  rcases a x o h with h1 | ⟨xs, ys, e, h1⟩
  · exact b x o h1
  · rcases b x _ h1 with h2 | ⟨xs2, ys2, _, h2⟩
    · exact .inr ⟨xs, ys, e, h2⟩
    · exact .inr ⟨xs, ys2, e, h2⟩
theorem Kx.put {H : Hp} {p : Addr} {xs ys : List V} (h : H p = some (.lst xs)) : Kx H (upd H p (.lst ys)) := fun a o e => by
  by_cases q : a = p
  · subst q
    rw [h] at e
    cases e
    exact .inr ⟨xs, ys, rfl, upd_same⟩
  · exact .inl (by rw [upd_ne q]; exact e)
theorem Kx.keep {H H' : Hp} (e : Kx H H') {a : Addr} {o : HO} (h : H a = some o) (n : ∀ xs, o ≠ .lst xs) : H' a = some o := by
  rcases e a o h with h1 | ⟨xs, _, z, _⟩
  · exact h1
  · exact absurd z (n xs)
theorem Kx.tup {H H' : Hp} (e : Kx H H') {a : Addr} {xs : List V} (h : H a = some (.tup xs)) : H' a = some (.tup xs) := e.keep h fun _ z => by cases z
theorem Kx.dice {H H' : Hp} (e : Kx H H') {a : Addr} (h : H a = some (diceO a)) : H' a = some (diceO a) := e.keep h fun _ z => by cases z
/-- true whatever lists hold -/
def Firm (Φ : Ty) : Prop := ∀ v H H', Kx H H' → Φ v H → Φ v H'
theorem Firm.mono {Φ : Ty} (h : Firm Φ) : Mono Φ := fun v H H' e f => h v H H' e.k f
inductive Kd | non | bl | int | str | lst | tup | dic | own
  deriving DecidableEq
/-- the answer of isinstance of such a value and a built-in type -/
def kdIs : Kd → String → Bool
  | .bl, n => n == "bool" || n == "int"
  | .int, n => n == "int"
  | .str, n => n == "str"
  | .lst, n => n == "list"
  | .tup, n => n == "tuple"
  | .dic, n => n == "dict"
  | _, _ => false
/-- the built-in types that are asked for -/
def asked : List String := ["int", "bool", "str", "list", "tuple", "dict"]
/-- a class of the text whose instances are none of these -/
structure Own (K : PySem.W.Frag) (C : Addr) : Prop where
  cl : Cls K C
  ha : PySem.W.findIn K (.ref C) "__class__" = some (some (.builtin "object.__class__"))
  hn : PySem.W.specialIn K (.builtin "object.__class__") "__get__" = some (some (.builtin "getset_descriptor.__get__"))
  htk : PySem.W.takesIn K (.builtin "object.__class__") = some true
  hm : PySem.W.mroIn K C (.type "object") = some true
  no : ∀ n ∈ asked, PySem.W.kitOne K (.ref C) (.type n) = some false
/-- a plain value of a built-in type, or an instance -/
inductive Pl (K : PySem.W.Frag) (H : Hp) : V → Kd → Prop
  | non : Pl K H .non .non
  | bl (b : Bool) : Pl K H (.bl b) .bl
  | int (i : Int) : Pl K H (.int i) .int
  | str (x : Str) : Pl K H (.str x) .str
  | lst {a : Addr} {xs : List V} (e : H a = some (.lst xs)) : Pl K H (.ref a) .lst
  | tup {a : Addr} {xs : List V} (e : H a = some (.tup xs)) : Pl K H (.ref a) .tup
  | dK {a : Addr} {kvs : List (Key × V)} (e : H a = some (.dK kvs)) : Pl K H (.ref a) .dic
  | own {a C dx : Addr} {fs : List (Str × V)} (e : H a = some (.ins C dx fs)) (o : Own K C) : Pl K H (.ref a) .own
theorem Pl.firm {K : PySem.W.Frag} {k : Kd} : Firm (fun v H => Pl K H v k) := fun v H H' e h => by
  cases h with
  | non => exact .non
  | bl b => exact .bl b
  | int i => exact .int i
  | str x => exact .str x
  | lst h =>
    rcases e _ _ h with h1 | ⟨_, _, _, h1⟩
    · exact .lst h1
    · exact .lst h1
  | tup h => exact .tup (e.tup h)
  | dK h => exact .dK (e.keep h fun _ z => by cases z)
  | own h o => exact .own (e.keep h fun _ z => by cases z) o
theorem Pl.gx {K : PySem.W.Frag} {H H' : Hp} {v : V} {k : Kd} (e : Gx H H') (h : Pl K H v k) : Pl K H' v k := Pl.firm v H H' e.k h
section
variable {X : Cx} {x : Str} {pos : Pos}
theorem pe_ty (n : String) (hg : Gl X x) (hm : X.mg x = none) (hv : bootBuiltins x = some (.type n)) (hn : x ≠ "__name__" := by decide) (hd : (x == ("__debug__" : Str)) = false := by decide) : PE X (.Name x pos) (tC (.ty n)) := pe_bltn hg hm hv rfl hn hd
theorem jgq {i : Int} {t : Tok} (hg : Gl X x) (hm : X.mg x = some (.int i t)) (hd : (x == ("__debug__" : Str)) = false := by decide) : PE X (.Name x pos) (tC (.int i)) := pe_glob hg hm ⟨t, rfl⟩ hd
theorem jcU {i : Str} {t : Tok} (hg : Gl X x) (hm : X.mg x = some (.str i t)) (hd : (x == ("__debug__" : Str)) = false := by decide) : PE X (.Name x pos) (tC (.str i)) := pe_glob hg hm ⟨t, rfl⟩ hd
theorem jxl {a : Addr} (hg : Gl X x) (hm : X.mg x = some (.ref a)) (hd : (x == ("__debug__" : Str)) = false := by decide) : PE X (.Name x pos) (tC (.ref a)) := pe_glob hg hm rfl hd
end
def EvN (te : TE) (σ : L2.St) (H : Hp) (Φ : Addr → Hp → Prop) : Prop := ∀ H1, Gx H H1 → ∀ Q : VK, (∀ p H2, Gx H1 H2 → H1 p = none → Φ p H2 → Q (.ref p) H2) → te σ H1 Q
section
variable {K : PySem.W.Frag} {σ : L2.St} {H H' : Hp} {te ta tb : TE} {tr : TA} {Φ Φ' : Ty} {v : V} {Q : VK}
theorem EvN.g {Φ : Addr → Hp → Prop} (h : EvN te σ H Φ) (k : ∀ p H1 H2, Gx H H1 → H1 p = none → Gx H1 H2 → Φ p H2 → Φ' (.ref p) H2) : EvG te σ H Φ' := fun H1 e Q q => h H1 e Q fun p H2 e2 n f => q _ H2 e2 (k p H1 H2 e n e2 f)
/-- a list of things of one kind, at a place -/
def Lof (Φ : Ty) (n : Nat) : Addr → Hp → Prop := fun p H => ∃ xs, H p = some (.lst xs) ∧ AllT Φ n xs H
def LofT (Φ : Ty) (n : Nat) : Ty := fun v H => ∃ p, v = .ref p ∧ Lof Φ n p H
theorem Lof.mono {n : Nat} {p : Addr} (m : Mono Φ) (e : Gx H H') (h : Lof Φ n p H) : Lof Φ n p H' := by
  obtain ⟨xs, h1, h2⟩ := h
  exact ⟨xs, e _ _ h1, h2.mono m e⟩
theorem LofT.mono {n : Nat} (m : Mono Φ) : Mono (LofT Φ n) := fun _ _ _ e ⟨p, h1, h2⟩ => ⟨p, h1, h2.mono m e⟩
end
def jxm (K : PySem.W.Frag) : Sp := fun vs H Q _ => ∃ (a : Addr) (ns : List Int) (n : Nat), vs = [.ref a, .int n] ∧ SqL K H a (ns.map V.int) ∧
  ∀ p x y z, H p = none → Q (.ref p) (upd H p (three x y z))
def jwu (K : PySem.W.Frag) : Sp := fun vs H Q _ => ∃ (a : Addr) (ns : List Int) (n : Nat), vs = [.ref a, .int n] ∧ SqL K H a (ns.map V.int) ∧
  ∀ p, H p = none → Q (.ref p) (upd H p (diceO p))
def jxn : Sp := fun vs H Q _ => ∃ (p : Addr) (t a b c : Int), vs = [.ref p, .int t] ∧ 0 < t ∧ t < 1073741824 ∧ H p = some (three a b c) ∧
  ∀ r a' b' c', 0 ≤ r → r < t → Q (.int r) (upd H p (three a' b' c'))
def jth : Sp := fun vs H Q _ => ∃ (p : Addr) (t : Int), vs = [.ref p, .int t] ∧ 0 < t ∧ t < 1073741824 ∧ H p = some (diceO p) ∧ ∀ r, 0 ≤ r → r < t → Q (.int r) H
def jwv (K : PySem.W.Frag) : Sp := fun vs H Q _ => ∃ (p l : Addr) (xs : List V), vs = [.ref p, .ref l] ∧ H p = some (diceO p) ∧ SqL K H l xs ∧ 0 < xs.length ∧ xs.length < 1073741824 ∧ ∀ (j : Nat) x, xs[j]? = some x → Q x H
section
variable {K : PySem.W.Frag} {σ : L2.St} {H H' : Hp} {td tl : TE} {Φ : Ty} {p : Addr}
def DiceT : Ty := fun v H => ∃ p, v = .ref p ∧ H p = some (diceO p)
theorem DiceT.mono : Mono DiceT := fun _ _ _ e ⟨p, h1, h2⟩ => ⟨p, h1, e _ _ h2⟩
end
/-- what a comprehension gives: the items whose test holds, in order -/
inductive LcR (B : Nat → Bool → Prop) (R : Nat → Ty) (H : Hp) : Nat → List V → Prop
  | nil : LcR B R H 0 []
  | keep {n : Nat} {ys : List V} {y : V} : LcR B R H n ys → B n true → R n y H → LcR B R H (n + 1) (ys ++ [y])
  | skip {n : Nat} {ys : List V} : LcR B R H n ys → B n false → LcR B R H (n + 1) ys
theorem LcR.firm {B : Nat → Bool → Prop} {R : Nat → Ty} {H H' : Hp} (m : ∀ i, Firm (R i)) (e : Kx H H') {n : Nat} {ys : List V} (h : LcR B R H n ys) : LcR B R H' n ys := by
  induction h with
  | nil => exact .nil
  | keep _ b r ih => exact .keep ih b (m _ _ _ _ e r)
  | skip _ b ih => exact .skip ih b
theorem LcR.gx {B : Nat → Bool → Prop} {R : Nat → Ty} {H H' : Hp} (m : ∀ i, Mono (R i)) (e : Gx H H') {n : Nat} {ys : List V} (h : LcR B R H n ys) : LcR B R H' n ys := by
  induction h with
  | nil => exact .nil
  | keep _ b r ih => exact .keep ih b (m _ _ _ _ e r)
  | skip _ b ih => exact .skip ih b
theorem LcR.len {B : Nat → Bool → Prop} {R : Nat → Ty} {H : Hp} {n : Nat} {ys : List V} (h : LcR B R H n ys) : ys.length ≤ n := by
  induction h with
  | nil => exact Nat.le_refl 0
  | keep _ _ _ ih =>
    rw [List.length_append]
    show _ + 1 ≤ _
    omega
  | skip _ _ ih => omega
/-- without a test: item by item -/
theorem LcR.all {B : Nat → Bool → Prop} {R : Nat → Ty} {H : Hp} {n : Nat} {ys : List V} (h : LcR B R H n ys) (hB : ∀ i, ¬ B i false) : ys.length = n ∧ ∀ i y, ys[i]? = some y → R i y H := by
  induction h with
  | nil => exact ⟨rfl, fun i y e => by simp at e⟩
  | @keep n ys y _ _ r ih =>
    refine ⟨by rw [List.length_append, ih.1]; rfl, fun i z e => ?_⟩
    by_cases hi : i < ys.length
    · rw [List.getElem?_append_left hi] at e
      exact ih.2 i z e
    · rw [List.getElem?_append_right (by omega)] at e
      have h0 : i - ys.length = 0 := by
        cases q : i - ys.length with
        | zero => rfl
        | succ m => rw [q] at e; simp at e
      rw [h0] at e
      cases e
      have : i = n := by rw [← ih.1]; omega
      rw [this]
      exact r
  | skip _ b _ => exact absurd b (hB _)
section
variable {K : PySem.W.Frag} {σ : L2.St} {H : Hp} {te : TE} {wi : TI} {g : TG} {tt : TT} {vs : List Nat} {n : Nat}
theorem wipe1 {j : Nat} {x : Option V} : wipe ((wipe σ [j]).set j x) [j] = wipe σ [j] := by
  show ((σ.set j none).set j x).set j none = σ.set j none
  rw [List.set_set, List.set_set]
end
theorem EvN.imp {σ : L2.St} {H : Hp} {te : TE} {Φ Φ' : Addr → Hp → Prop} (h : EvN te σ H Φ) (i : ∀ p H2, Gx H H2 → Φ p H2 → Φ' p H2) : EvN te σ H Φ' := fun H1 a Q q => h H1 a Q fun p H2 e n f => q p H2 e n (i p H2 (a.trans e) f)
def isI : V → Bool
  | .int i => decide (-(10 ^ 60) < i) && decide (i < 10 ^ 60)
  | _ => false
def wthn (x : V) (lo hi : Int) : Bool := match x with
  | .int i => isI x && (decide (lo ≤ i) && decide (i ≤ hi))
  | _ => false
def jqJ : List Nat := (("abcdefghijklmnopqrstuvwxyz" : Str)).cps.toList
def isW : V → Bool
  | .str z => (decide (1 ≤ (z.length : Int)) && decide ((z.length : Int) ≤ 8)) && z.cps.toList.all fun c => decide (c ∈ jqJ)
  | _ => false
def jgr (s n : V) : Bool := wthn n 0 3 && (isW s || (decide (s = .str "_" ∨ s = .str "#") && decide (n = .int 0)))
/-- no text too long -/
def Small (x : V) : Prop := ∀ z, x = .str z → z.length ≤ 100000
/-- a value, and whether it is a node -/
inductive NodeIn (K : PySem.W.Frag) (H : Hp) : V → Bool → Prop
  | other {x : V} {k : Kd} : Pl K H x k → k ≠ .tup → NodeIn K H x false
  | size {a : Addr} {xs : List V} : H a = some (.tup xs) → xs.length ≠ 2 → NodeIn K H (.ref a) false
  | pair {a : Addr} {s n : V} {ks kn : Kd} : H a = some (.tup [s, n]) → Pl K H s ks → Pl K H n kn → Small s → NodeIn K H (.ref a) (jgr s n)
def AtT : List Ty → List V → Hp → Prop
  | [], [], _ => True
  | Φ :: Φs, v :: vs, H => Φ v H ∧ AtT Φs vs H
  | _, _, _ => False
theorem AtT.mono {H H' : Hp} (e : Gx H H') : ∀ {Φs : List Ty} {vs : List V}, (∀ Φ ∈ Φs, Mono Φ) → AtT Φs vs H → AtT Φs vs H'
  | [], [], _, h => h
  | Φ :: Φs, v :: vs, m, h => ⟨m Φ (List.mem_cons_self ..) _ _ _ e h.1, AtT.mono e (fun Φ hp => m Φ (List.mem_cons_of_mem _ hp)) h.2⟩
  | [], _ :: _, _, h => h.elim
  | _ :: _, [], _, h => h.elim
theorem AtT.len {H : Hp} : ∀ {Φs : List Ty} {vs : List V}, AtT Φs vs H → vs.length = Φs.length
  | [], [], _ => rfl
  | Φ :: Φs, v :: vs, h => by rw [List.length_cons, List.length_cons, AtT.len h.2]
  | [], _ :: _, h => h.elim
  | _ :: _, [], h => h.elim
theorem AtT.get {H : Hp} : ∀ {Φs : List Ty} {vs : List V} {i : Nat} {x : V}, AtT Φs vs H → vs[i]? = some x → ∃ Φ, Φs[i]? = some Φ ∧ Φ x H
  | [], [], _, _, _, e => by simp at e
  | Φ :: Φs, v :: vs, 0, x, h, e => by
    simp at e
    subst e
    exact ⟨Φ, rfl, h.1⟩
  | Φ :: Φs, v :: vs, i + 1, x, h, e => by
    obtain ⟨Ψ, h1, h2⟩ := AtT.get (i := i) (x := x) h.2 (by simpa using e)
    exact ⟨Ψ, by simpa using h1, h2⟩
  | [], _ :: _, _, _, h, _ => h.elim
  | _ :: _, [], _, _, h, _ => h.elim
section
variable {K : PySem.W.Frag} {σ : L2.St} {H : Hp} {ta : TE} {tr : TA} {Φ : Ty} {Φs : List Ty}
def TupA (Φs : List Ty) : Addr → Hp → Prop := fun p H => ∃ xs, H p = some (.tup xs) ∧ AtT Φs xs H
def LstA (Φs : List Ty) : Addr → Hp → Prop := fun p H => ∃ xs, H p = some (.lst xs) ∧ AtT Φs xs H
def TupT (Φs : List Ty) : Ty := fun v H => ∃ p, v = .ref p ∧ TupA Φs p H
def LstT (Φs : List Ty) : Ty := fun v H => ∃ p, v = .ref p ∧ LstA Φs p H
theorem TupT.mono (m : ∀ Φ ∈ Φs, Mono Φ) : Mono (TupT Φs) := fun _ _ _ e ⟨p, z, xs, h1, h2⟩ => ⟨p, z, xs, e _ _ h1, h2.mono e m⟩
theorem LstT.mono (m : ∀ Φ ∈ Φs, Mono Φ) : Mono (LstT Φs) := fun _ _ _ e ⟨p, z, xs, h1, h2⟩ => ⟨p, z, xs, e _ _ h1, h2.mono e m⟩
end
theorem NodeIn.mono {K : PySem.W.Frag} {b : Bool} : Mono (fun v H => NodeIn K H v b) := fun v H H' e h => by
  cases h with
  | other p hk => exact .other (p.gx e) hk
  | size h hl => exact .size (e _ _ h) hl
  | pair h ps pn sm => exact .pair (e _ _ h) (ps.gx e) (pn.gx e) sm
/-- is this value that? -/
abbrev Eq1 (x : V) : Ty := fun v _ => v = x
theorem Eq1.mono {x : V} : Mono (Eq1 x) := fun _ _ _ _ h => h
theorem Eq1.firm {x : V} : Firm (Eq1 x) := fun _ _ _ _ h => h
mutual
theorem Dp.gx {K : PySem.W.Frag} {H H' : Hp} (e : Gx H H') : ∀ {v : V} {d : PyData}, Dp K H v d → Dp K H' v d
  | _, _, .non => .non
  | _, _, .bl b => .bl b
  | _, _, .int i => .int i
  | _, _, .str x => .str x
  | _, _, .lst h hs => .lst (e.l h) (DpAll.gx e hs)
  | _, _, .tup h hs => .tup (e.t h) (DpAll.gx e hs)
theorem DpAll.gx {K : PySem.W.Frag} {H H' : Hp} (e : Gx H H') : ∀ {vs : List V} {ds : List PyData}, DpAll K H vs ds → DpAll K H' vs ds
  | _, _, .nil => .nil
  | _, _, .cons h hs => .cons (Dp.gx e h) (DpAll.gx e hs)
end
def DatT (K : PySem.W.Frag) (d : PyData) : Ty := fun v H => Dp K H v d
theorem DatT.mono {K : PySem.W.Frag} {d : PyData} : Mono (DatT K d) := fun _ _ _ e h => Dp.gx e h
theorem DpAll.len {K : PySem.W.Frag} {H : Hp} : ∀ {vs : List V} {ds : List PyData}, DpAll K H vs ds → vs.length = ds.length
  | _, _, .nil => rfl
  | _, _, .cons _ hs => by rw [List.length_cons, List.length_cons, DpAll.len hs]
section
variable {X : Cx} {K : PySem.W.Frag}
theorem kix_list (hK : X.K = K := by rfl) : IxR X (rIxL K) := by subst hK; exact ix_list
theorem jxo (hu : X.A.units + 64 < cLine) (hK : X.K = K := by rfl) : OpR X (compareOp .Eq) (rEqD K) := by subst hK; exact op_eqD hu
theorem jxp (hu : X.A.units + 64 < cLine) (hK : X.K = K := by rfl) : OpR X (compareOp .NotEq) (rNeD K) := by subst hK; exact op_neD hu
def rLenK (K : PySem.W.Frag) : List V → Hp → VK → Prop := fun xs H Q => ∃ p ys, xs = [.ref p] ∧ (SqL K H p ys ∨ SqT K H p ys) ∧ Q (.int ys.length) H
def rTupK (K : PySem.W.Frag) : List V → Hp → VK → Prop := fun xs H Q => ∃ p ys, xs = [.ref p] ∧ ((SqL K H p ys ∧ ∀ l, H l = none → Q (.ref l) (upd H l (.tup ys))) ∨ (SqT K H p ys ∧ Q (.ref p) H))
theorem jiI (hK : X.K = K := by rfl) : CallR X (.builtin "len") (rLenK K) := by subst hK; exact call_len_seq
theorem jqK (hK : X.K = K := by rfl) : CallR X (.type "tuple") (rTupK K) := by subst hK; exact call_tuple_of
theorem jiJ (hK : X.K = K := by rfl) : CallR X (.builtin "isinstance") (rIsi K) := by subst hK; exact call_isi
theorem jcV (hc : X.calm = true) (hK : X.K = K := by rfl) : CallR X (.builtin "all") (rAll K) := by subst hK; exact cr_all hc
variable {tg l : Expr} {tl : TE}
section
variable {o e : Expr} {es : List Expr} {to te : TE} {t : TA} {name : Str} {apos cpos pos : Pos} {T id : String} {r : V → List V → Hp → VK → Prop}
theorem jdD (pa : PlainAttrs T) (slot : Slot T name id) (hty : typeOf (.builtin id) = pure (.type "method_descriptor")) (hm : MtR X id r) (ho : PE X o to) (ha : PA X (e :: es) t) (hK : X.K = K := by rfl)
    (hbase : attributeBase o name X.env (eval o X.env) = eval o X.env := by rfl)
    (hfew : ((backTo cpos (starEach (e :: es) X.env)).all (fun x => !x.1) && (backToKw cpos (keywordEach [] X.env)).all (fun x => x.1.isSome)
      && decide ((e :: es).length + ([] : List Keyword).length + (if ([] : List Keyword).isEmpty then 0 else 1) < 30)) = true := by rfl)
    (hline : (apos.endLine == cpos.line) = true := by rfl) (hs : starEach (e :: es) X.env = (false, eval e X.env) :: starEach es X.env := by rfl) (hplain : (backTo cpos (starEach es X.env)).any (·.1) = false := by rfl) :
    PE X (.Call (.Attribute o name apos) (e :: es) [] cpos) (tBM K T r to t) := by
  subst hK
  exact pe_bm pa slot hty hm ho ha hbase hfew hline hs hplain
def rJoinK (K : PySem.W.Frag) : V → List V → Hp → VK → Prop := fun x xs H Q => ∃ a p, ∃ ys : List Str, x = .str a ∧ xs = [.ref p] ∧ (SqL K H p (ys.map V.str) ∨ SqT K H p (ys.map V.str)) ∧
      (ys.map (·.length)).sum + ys.length * a.length ≤ 16777216 ∧ Q (.str (Txt.join a ys)) H
theorem jvg (ho : PE X o to) (he : PE X e te) (hK : X.K = K := by rfl) (hs : starEach [e] X.env = [(false, eval e X.env)] := by rfl) (hbase : attributeBase o "join" X.env (eval o X.env) = eval o X.env := by rfl) (hline : (apos.endLine == pos.line) = true := by rfl) :
    PE X (.Call (.Attribute o "join" apos) [e] [] pos) (tM1 (rJoinK K) to te) := by
  subst hK
  exact pe_join ho he hs hbase hline
end
end
def StrT (P : Str → Prop) : Ty := fun v _ => ∃ z, v = .str z ∧ P z
theorem StrT.firm {P : Str → Prop} : Firm (StrT P) := fun _ _ _ _ h => h
/-- some data -/
def DatP (K : PySem.W.Frag) (P : PyData → Prop) : Ty := fun v H => ∃ d, Dp K H v d ∧ SeqAt.shaped d = true ∧ P d
section
variable {K : PySem.W.Frag} {σ : L2.St} {H : Hp} {ta tb : TE} {P R : PyData → Prop}
theorem DatP.mono : Mono (DatP K P) := fun _ _ _ e ⟨d, h1, h2, h3⟩ => ⟨d, Dp.gx e h1, h2, h3⟩
end
section
variable {X : Cx} {K : PySem.W.Frag}
theorem jvh {e : Expr} {es : List Expr} {te : TE} {t : TA} {p : Pos} (he : PE X e te) (hr : PA X es t) (hK : X.K = K := by rfl) (hs : starEach (.Starred e p :: es) X.env = (true, eval e X.env) :: starEach es X.env := by rfl) : PA X (.Starred e p :: es) (StX.tStar K te t) := by
  subst hK
  exact StX.pa_star he hr hs
end
theorem Dp.ints {K : PySem.W.Frag} {H : Hp} : ∀ (l : List Nat), DpAll K H (l.map fun (n : Nat) => V.int (n : Int)) (l.map fun (n : Nat) => PyData.int (n : Int))
  | [] => .nil
  | n :: l => .cons (.int _) (Dp.ints l)
abbrev intsV (l : List Nat) : List V := l.map fun (n : Nat) => V.int (n : Int)
section
variable {K : PySem.W.Frag} {σ : L2.St} {H : Hp} {ta tb tc te tl : TE} {tr : TA} {tz : TS} {D : Ends} {Φ : Ty}
/-- a list whose items are known -/
def LstK (K : PySem.W.Frag) (xs : List V) : Ty := fun v H => ∃ p, v = .ref p ∧ SqL K H p xs
def TupK (K : PySem.W.Frag) (xs : List V) : Ty := fun v H => ∃ p, v = .ref p ∧ SqT K H p xs
theorem LstK.mono {xs : List V} : Mono (LstK K xs) := fun _ _ _ e ⟨p, z, h⟩ => ⟨p, z, e.l h⟩
theorem TupK.mono {xs : List V} : Mono (TupK K xs) := fun _ _ _ e ⟨p, z, h⟩ => ⟨p, z, e.t h⟩
end
theorem Kx.rdT {H H' : Hp} {a : Addr} {xs : List V} (e : Kx H H') (h : Rd H a (.tup xs)) : Rd H' a (.tup xs) := by
  rcases h with h | ⟨o, h⟩
  · exact .inl (e.tup h)
  · exact .inr ⟨o, e.keep h fun _ z => by cases z⟩
theorem Kx.t {K : PySem.W.Frag} {H H' : Hp} {a : Addr} {xs : List V} (e : Kx H H') (h : SqT K H a xs) : SqT K H' a xs := by
  rcases h with h | h
  · exact .inl (e.rdT h)
  · exact .inr h
theorem jqL {X : Cx} {K : PySem.W.Frag} {es : List Expr} {k : Nat} {t : TGs} {n : Nat} {pos : Pos} (hc : X.calm = true) (h : PGs X es t) (hK : X.K = K := by rfl)
    (hn : (assignEach es X.env).length = n := by rfl) (hst : (assignEach es X.env).findIdx? (·.1) = none := by rfl) : PG X (.Tuple es k pos) (gTup K n t) := by
  subst hK
  exact pg_tup hc h hn hst
end Ly
namespace Pu
open PySem PySem.Spec PyProof.Rows L2 Ly
inductive D where
  | non | bl (b : Bool) | int (i : Int) | str (x : Str)
  | lst (ds : List D) | tup (ds : List D)
  | dic (ks : List Key) (ds : List D)
  | obj (C : Addr) (ns : List Str) (ds : List D)
  | dice
  | cls (C : Addr)
  | exn (a dd : Addr) (ns : List Str) (ds : List D)
  | lsk (ds : List D)
  | dit (ks : List (List Key)) (ds : List D)
  | exm (C : Addr) (m : Str)
  | exf (C : Addr) (f : Str) (d : D)
  | xt (T : Addr → List V → Heap → Prop) (ds : List D)
/-- at a: an error of the class at C that was made of the things in the tuple at t1 -/
def exS (a C t1 : Addr) : HO := .ext fun h => h.get? a = some ({ cls := .ref C, dict := none, data := .fields #[.ref t1, .none, .none, .none, .bool false, .none] } : Obj)
/-- an empty tuple of the program's own -/
def KT0 (K : PySem.W.Frag) (a : Addr) : Prop := t0 = true ∧ ∃ (o : Obj) (n : Nat), K.lookup a = some o ∧ o.cls = .type "tuple" ∧ o.data = .seq #[] n
theorem KT0.sq {K : PySem.W.Frag} {a : Addr} {H : Hp} (h : KT0 K a) : SqT K H a [] := by
  obtain ⟨_, o, n, h1, h2, h3⟩ := h
  exact .inr ⟨o, #[], n, h1, h2, h3, Nat.zero_le _, .nil⟩
mutual
/-- v is d, by what is seen of the heap -/
inductive Rep (K : PySem.W.Frag) (W : Hp) : V → D → Prop
  | non : Rep K W .non .non
  | bl (b : Bool) : Rep K W (.bl b) (.bl b)
  | int (i : Int) : Rep K W (.int i) (.int i)
  | str (x : Str) : Rep K W (.str x) (.str x)
  | lst {a : Addr} {vs : List V} {ds : List D} : W a = some (.lst vs) → RepAll K W vs ds → vs.length ≤ sizeLine → Rep K W (.ref a) (.lst ds)
  | tup {a : Addr} {vs : List V} {ds : List D} : W a = some (.tup vs) → RepAll K W vs ds → vs.length ≤ sizeLine → Rep K W (.ref a) (.tup ds)
  | tup0 {a : Addr} : KT0 K a → Rep K W (.ref a) (.tup [])
  | dic {a : Addr} {kvs : List (Key × V)} {ks : List Key} {ds : List D} : Rd W a (.dK kvs) → kvs.map Prod.fst = ks → RepAll K W (kvs.map Prod.snd) ds → kvs.length ≤ sizeLine → Rep K W (.ref a) (.dic ks ds)
  | obj {a C dx : Addr} {fs : List (Str × V)} {ns : List Str} {ds : List D} : W a = some (.ins C dx fs) → fs.map Prod.fst = ns → RepAll K W (fs.map Prod.snd) ds → Rep K W (.ref a) (.obj C ns ds)
  | dice {a : Addr} : W a = some (diceO a) → Rep K W (.ref a) .dice
  | cls (C : Addr) : Rep K W (.ref C) (.cls C)
  | exn {a dd : Addr} {fs : List (Str × V)} {ns : List Str} {ds : List D} : W dd = some (.xd fs) → fs.map Prod.fst = ns → RepAll K W (fs.map Prod.snd) ds → Rep K W (.ref a) (.exn a dd ns ds)
  | lsk {a : Addr} {vs : List V} {ds : List D} : SqL K W a vs → RepAll K W vs ds → vs.length ≤ sizeLine → Rep K W (.ref a) (.lsk ds)
  | dit {a : Addr} {kvs : List (List Key × V)} {ks : List (List Key)} {ds : List D} : Rd W a (.dT kvs) → kvs.map Prod.fst = ks → RepAll K W (kvs.map Prod.snd) ds → kvs.length ≤ sizeLine → Rep K W (.ref a) (.dit ks ds)
  | exm {a C t1 : Addr} {m : Str} : W a = some (exS a C t1) → W t1 = some (.tup [.str m]) → Rep K W (.ref a) (.exm C m)
  | exf {a C dx : Addr} {f : Str} {v : V} {d : D} : W a = some (L2.exo a C (some dx)) → W dx = some (L2.exd dx [(f, v)]) → Rep K W v d → Rep K W (.ref a) (.exf C f d)
  | xt {a : Addr} {T : Addr → List V → Heap → Prop} {vs : List V} {ds : List D} : W a = some (.ext (T a vs)) → RepAll K W vs ds → Rep K W (.ref a) (.xt T ds)
inductive RepAll (K : PySem.W.Frag) (W : Hp) : List V → List D → Prop
  | nil : RepAll K W [] []
  | cons {v : V} {vs : List V} {d : D} {ds : List D} : Rep K W v d → RepAll K W vs ds → RepAll K W (v :: vs) (d :: ds)
end
/-- what is read stays readable -/
def Le (W W' : Hp) : Prop := (∀ a vs, W a = some (.lst vs) → W' a = some (.lst vs)) ∧ (∀ a u, (∀ o v, u ≠ .frz o v) → Rd W a u → Rd W' a u) ∧ (∀ a C dx fs, W a = some (.ins C dx fs) → W' a = some (.ins C dx fs)) ∧ (∀ a φ, W a = some (.ext φ) → W' a = some (.ext φ)) ∧ (∀ a fs, W a = some (.xd fs) → W' a = some (.xd fs)) ∧ ∀ a vs, W a = some (.tup vs) → W' a = some (.tup vs)
theorem Gx.le {W W' : Hp} (e : Gx W W') : Le W W' := ⟨fun _ _ h => e _ _ h, fun _ _ _ h => e.rd h, fun _ _ _ _ h => e _ _ h, fun _ _ h => e _ _ h, fun _ _ h => e _ _ h, fun _ _ h => e _ _ h⟩
theorem Le.t {K : PySem.W.Frag} {W W' : Hp} (e : Le W W') {a : Addr} {vs : List V} (h : SqT K W a vs) : SqT K W' a vs := by
  rcases h with h | h
  · exact .inl (e.2.1 _ _ (fun _ _ z => by cases z) h)
  · exact .inr h
theorem Le.l {K : PySem.W.Frag} {W W' : Hp} (e : Le W W') {a : Addr} {vs : List V} (h : SqL K W a vs) : SqL K W' a vs := by
  rcases h with h | h
  · exact .inl (e.2.1 _ _ (fun _ _ z => by cases z) h)
  · exact .inr h
mutual
theorem Rep.le {K : PySem.W.Frag} {W W' : Hp} (e : Le W W') : ∀ {v : V} {d : D}, Rep K W v d → Rep K W' v d
  | _, _, .non => .non
  | _, _, .bl b => .bl b
  | _, _, .int i => .int i
  | _, _, .str x => .str x
  | _, _, .lst h hs n => .lst (e.1 _ _ h) (RepAll.le e hs) n
  | _, _, .tup h hs n => .tup (e.2.2.2.2.2 _ _ h) (RepAll.le e hs) n
  | _, _, .tup0 h => .tup0 h
  | _, _, .dic h k hs n => .dic (e.2.1 _ _ (fun _ _ z => by cases z) h) k (RepAll.le e hs) n
  | _, _, .obj h k hs => .obj (e.2.2.1 _ _ _ _ h) k (RepAll.le e hs)
  | _, _, .dice h => .dice (e.2.2.2.1 _ _ h)
  | _, _, .cls C => .cls C
  | _, _, .exn h k hs => .exn (e.2.2.2.2.1 _ _ h) k (RepAll.le e hs)
  | _, _, .lsk h hs n => .lsk (e.l h) (RepAll.le e hs) n
  | _, _, .dit h k hs n => .dit (e.2.1 _ _ (fun _ _ z => by cases z) h) k (RepAll.le e hs) n
  | _, _, .exm h h2 => .exm (e.2.2.2.1 _ _ h) (e.2.2.2.2.2 _ _ h2)
  | _, _, .exf h h2 r => .exf (e.2.2.2.1 _ _ h) (e.2.2.2.1 _ _ h2) (Rep.le e r)
  | _, _, .xt h r => .xt (e.2.2.2.1 _ _ h) (RepAll.le e r)
theorem RepAll.le {K : PySem.W.Frag} {W W' : Hp} (e : Le W W') : ∀ {vs : List V} {ds : List D}, RepAll K W vs ds → RepAll K W' vs ds
  | _, _, .nil => .nil
  | _, _, .cons h hs => .cons (Rep.le e h) (RepAll.le e hs)
end
section
variable {K : PySem.W.Frag} {W W' : Hp}
theorem Rep.gx (e : Gx W W') {v : V} {d : D} (h : Rep K W v d) : Rep K W' v d := h.le (Gx.le e)
theorem RepAll.gx (e : Gx W W') {vs : List V} {ds : List D} (h : RepAll K W vs ds) : RepAll K W' vs ds := h.le (Gx.le e)
theorem RepAll.len : ∀ {vs : List V} {ds : List D}, RepAll K W vs ds → vs.length = ds.length
  | _, _, .nil => rfl
  | _, _, .cons _ hs => by rw [List.length_cons, List.length_cons, RepAll.len hs]
theorem RepAll.get : ∀ {vs : List V} {ds : List D} {i : Nat} {v : V}, RepAll K W vs ds → vs[i]? = some v → ∃ d, ds[i]? = some d ∧ Rep K W v d
  | _, _, _, _, .nil, e => by simp at e
  | _, _, 0, _, .cons h _, e => by simp at e; subst e; exact ⟨_, rfl, h⟩
  | _, _, i + 1, v, .cons _ hs, e => by
    obtain ⟨d, h1, h2⟩ := RepAll.get (i := i) (v := v) hs (by simpa using e)
    exact ⟨d, by simpa using h1, h2⟩
theorem RepAll.getD : ∀ {vs : List V} {ds : List D} {i : Nat} {d : D}, RepAll K W vs ds → ds[i]? = some d → ∃ v, vs[i]? = some v ∧ Rep K W v d
  | _, _, _, _, .nil, e => by simp at e
  | _, _, 0, _, .cons h _, e => by simp at e; subst e; exact ⟨_, rfl, h⟩
  | _, _, i + 1, v, .cons _ hs, e => by
    obtain ⟨d, h1, h2⟩ := RepAll.getD (i := i) (d := v) hs (by simpa using e)
    exact ⟨d, by simpa using h1, h2⟩
theorem RepAll.app : ∀ {vs us : List V} {ds es : List D}, RepAll K W vs ds → RepAll K W us es → RepAll K W (vs ++ us) (ds ++ es)
  | _, _, _, _, .nil, h => h
  | _, _, _, _, .cons h hs, k => .cons h (RepAll.app hs k)
theorem RepAll.one {v : V} {d : D} (h : Rep K W v d) : RepAll K W [v] [d] := .cons h .nil
theorem RepAll.take : ∀ {vs : List V} {ds : List D} (n : Nat), RepAll K W vs ds → RepAll K W (vs.take n) (ds.take n)
  | _, _, 0, _ => .nil
  | _, _, _ + 1, .nil => .nil
  | _, _, n + 1, .cons h hs => .cons h (RepAll.take n hs)
theorem RepAll.drop : ∀ {vs : List V} {ds : List D} (n : Nat), RepAll K W vs ds → RepAll K W (vs.drop n) (ds.drop n)
  | _, _, 0, h => h
  | _, _, _ + 1, .nil => .nil
  | _, _, n + 1, .cons _ hs => RepAll.drop n hs
theorem RepAll.set {v : V} {d : D} (h : Rep K W v d) : ∀ {vs : List V} {ds : List D} (n : Nat), RepAll K W vs ds → RepAll K W (vs.set n v) (ds.set n d)
  | _, _, _, .nil => .nil
  | _, _, 0, .cons _ hs => .cons h hs
  | _, _, n + 1, .cons k hs => .cons k (RepAll.set h n hs)
theorem RepAll.map {α : Type} {f : α → V} {g : α → D} (h : ∀ x, Rep K W (f x) (g x)) : ∀ l : List α, RepAll K W (l.map f) (l.map g)
  | [] => .nil
  | x :: l => .cons (h x) (RepAll.map h l)
end
/-- new, or a tuple: nobody changes a tuple -/
def Nw (H : Hp) (a : Addr) (o : HO) : Prop := H a = none ∨ ∃ vs, o = .tup vs
structure Ex (W H W' H' : Hp) : Prop where
  h : Gx H H'
  w : Gx W W'
  s : Gx W' H'
  n : ∀ a o, W' a = some o → W a = some o ∨ Nw H a o
section
variable {W H W1 H1 W2 H2 : Hp} {p : Addr} {o : HO}
theorem Ex.refl (s : Gx W H) : Ex W H W H := ⟨Gx.refl _, Gx.refl _, s, fun _ _ h => .inl h⟩
theorem Ex.trans (a : Ex W H W1 H1) (b : Ex W1 H1 W2 H2) : Ex W H W2 H2 := ⟨a.h.trans b.h, a.w.trans b.w, b.s, fun x o h => by
  rcases b.n x o h with h | h
  · exact a.n x o h
  · exact .inr (h.imp (fun h => a.h.free h) id)⟩
theorem gx_upd {W H : Hp} (s : Gx W H) (p : Addr) (o : HO) : Gx (upd W p o) (upd H p o) := fun a u h => by
  by_cases e : a = p
  · subst e
    rw [upd_same] at h ⊢
    exact h
  · rw [upd_ne e] at h ⊢
    exact s _ _ h
theorem Ex.new (s : Gx W H) (hp : H p = none) : Ex W H (upd W p o) (upd H p o) := ⟨Gx.new hp, Gx.new (s.free hp), gx_upd s p o, fun a u h => by
  by_cases e : a = p
  · subst e
    exact .inr (.inl hp)
  · rw [upd_ne e] at h
    exact .inl h⟩
/-- a new thing that is not seen -/
theorem Ex.hid (s : Gx W H) (hp : H p = none) : Ex W H W (upd H p o) := ⟨Gx.new hp, Gx.refl _, s.trans (Gx.new hp), fun a u h => .inl h⟩
/-- .. and then it is -/
theorem Ex.see {W' H' : Hp} (e : Ex W H W' H') (hp : H p = none) (hw : W' p = none) (h' : H' p = some o) : Ex W H (upd W' p o) H' := ⟨e.h, e.w.trans (Gx.new hw), fun a u h => by
  by_cases q : a = p
  · subst q
    rw [upd_same] at h
    rw [← h]
    exact h'
  · rw [upd_ne q] at h
    exact e.s _ _ h, fun a u h => by
  by_cases q : a = p
  · subst q
    exact .inr (.inl hp)
  · rw [upd_ne q] at h
    exact e.n _ _ h⟩
/-- what is hidden and no tuple stays hidden -/
theorem Ex.hide {W' H' : Hp} (e : Ex W H W' H') (hw : W p = none) (hp : H p = some o) (hu : ∀ vs, o ≠ .tup vs) : W' p = none := by
  cases q : W' p with
  | none => rfl
  | some u' =>
    rcases e.n p u' q with z | z | ⟨vs, z⟩
    · rw [hw] at z; cases z
    · rw [hp] at z; cases z
    · subst z
      have h1 := e.s _ _ q
      rw [e.h _ _ hp] at h1
      exact absurd (Option.some.inj h1) (hu vs)
/-- a tuple that is there may be seen -/
theorem Ex.adopt (s : Gx W H) {vs : List V} (hp : H p = some (.tup vs)) : Ex W H (upd W p (.tup vs)) H := ⟨Gx.refl _, fun a u h => by
  by_cases e : a = p
  · subst e
    rw [s _ _ h] at hp
    cases hp
    exact upd_same
  · rw [upd_ne e]
    exact h, fun a u h => by
  by_cases e : a = p
  · subst e
    rw [upd_same] at h
    rw [← h]
    exact hp
  · rw [upd_ne e] at h
    exact s _ _ h, fun a u h => by
  by_cases e : a = p
  · subst e
    rw [upd_same] at h
    cases h
    exact .inr (.inr ⟨vs, rfl⟩)
  · rw [upd_ne e] at h
    exact .inl h⟩
end
inductive B where
  | un | val (d : D)
  | lst (ds : List D)
  | dic (ks : List Key) (ds : List D)
  | obj (a C : Addr) (ns : List Str) (ds : List D)
  | bor (a : Addr) (ks : List Key) (ds : List D)
  | dit (ks : List (List Key)) (ds : List D)
abbrev Env := List B
/-- what stands in a slot: o its own thing's place -/
def BRep (K : PySem.W.Frag) (H0 W H : Hp) (o : Option Addr) : B → Option V → Prop
  | .un, _ => o = none
  | .val d, s => o = none ∧ ∃ v, s = some v ∧ Rep K W v d
  | .lst ds, s => ∃ p vs, o = some p ∧ s = some (.ref p) ∧ W p = none ∧ H0 p = none ∧ H p = some (.lst vs) ∧ RepAll K W vs ds ∧ vs.length ≤ sizeLine
  | .dic ks ds, s => ∃ p kvs, o = some p ∧ s = some (.ref p) ∧ W p = none ∧ H0 p = none ∧ H p = some (.dK kvs) ∧ kvs.map Prod.fst = ks ∧ RepAll K W (kvs.map Prod.snd) ds ∧ kvs.length ≤ sizeLine
  | .obj a C ns ds, s => ∃ p dx fs, p = a ∧ o = some p ∧ s = some (.ref p) ∧ W p = none ∧ H0 p = none ∧ H p = some (.ins C dx fs) ∧ H dx = some (.own p) ∧ H0 dx = none ∧ fs.map Prod.fst = ns ∧ RepAll K W (fs.map Prod.snd) ds ∧ ns.length ≤ 100
  | .bor q ks ds, s => o = some q ∧ s = some (.ref q) ∧ W q = none ∧ ∃ od kvs, H q = some (.frz od (.dK kvs)) ∧ kvs.map Prod.fst = ks ∧ RepAll K W (kvs.map Prod.snd) ds ∧ kvs.length ≤ sizeLine
  | .dit ks ds, s => ∃ p kvs, o = some p ∧ s = some (.ref p) ∧ W p = none ∧ H0 p = none ∧ H p = some (.dT kvs) ∧ kvs.map Prod.fst = ks ∧ RepAll K W (kvs.map Prod.snd) ds ∧ kvs.length ≤ sizeLine
structure Sat (K : PySem.W.Frag) (W0 H0 W : Hp) (ρ : Env) (σ : L2.St) (H : Hp) : Prop where
  ex : Ex W0 H0 W H
  len : σ.length = ρ.length
  rep : ∃ oa : Nat → Option Addr, (∀ i j p, oa i = some p → oa j = some p → i = j) ∧ ∀ i b, ρ[i]? = some b → ∃ s, σ[i]? = some s ∧ BRep K H0 W H (oa i) b s
section
variable {K : PySem.W.Frag} {W0 H0 W H W' H' : Hp} {ρ : Env} {σ : L2.St} {i : Nat}
theorem BRep.ext {o : Option Addr} {b : B} {s : Option V} (e : Ex W H W' H') (h : BRep K H0 W H o b s) : BRep K H0 W' H' o b s := by
  have hid : ∀ {p : Addr} {u : HO}, (∀ vs, u ≠ .tup vs) → W p = none → H p = some u → W' p = none := fun hu hw hp => e.hide hw hp hu
  cases b with
  | un => exact h
  | val d =>
    obtain ⟨h1, v, h2, h3⟩ := h
    exact ⟨h1, v, h2, h3.gx e.w⟩
  | lst ds =>
    obtain ⟨p, vs, h1, h2, h3, h4, h5, h6, h7⟩ := h
    exact ⟨p, vs, h1, h2, hid (fun _ z => by cases z) h3 h5, h4, e.h _ _ h5, h6.gx e.w, h7⟩
  | dic ks ds =>
    obtain ⟨p, vs, h1, h2, h3, h4, h5, h6, h7, h8⟩ := h
    exact ⟨p, vs, h1, h2, hid (fun _ z => by cases z) h3 h5, h4, e.h _ _ h5, h6, h7.gx e.w, h8⟩
  | obj a C ns ds =>
    obtain ⟨p, dx, vs, h0, h1, h2, h3, h4, h5, h6, h7, h8, h9⟩ := h
    exact ⟨p, dx, vs, h0, h1, h2, hid (fun _ z => by cases z) h3 h5, h4, e.h _ _ h5, e.h _ _ h6, h7, h8, h9.1.gx e.w, h9.2⟩
  | bor q ks ds =>
    obtain ⟨h1, h2, h3, od, kvs, h5, h6, h7, h8⟩ := h
    exact ⟨h1, h2, hid (fun _ z => by cases z) h3 h5, od, kvs, e.h _ _ h5, h6, h7.gx e.w, h8⟩
  | dit ks ds =>
    obtain ⟨p, vs, h1, h2, h3, h4, h5, h6, h7, h8⟩ := h
    exact ⟨p, vs, h1, h2, hid (fun _ z => by cases z) h3 h5, h4, e.h _ _ h5, h6, h7.gx e.w, h8⟩
theorem Sat.ext (h : Sat K W0 H0 W ρ σ H) (e : Ex W H W' H') : Sat K W0 H0 W' ρ σ H' := ⟨h.ex.trans e, h.len, by
  obtain ⟨oa, h1, h2⟩ := h.rep
  refine ⟨oa, h1, fun i b hb => ?_⟩
  obtain ⟨s, h3, h4⟩ := h2 i b hb
  exact ⟨s, h3, h4.ext e⟩⟩
theorem Sat.see (h : Sat K W0 H0 W ρ σ H) : Gx W H := h.ex.s
theorem Sat.val (h : Sat K W0 H0 W ρ σ H) {d : D} (hi : ρ[i]? = some (.val d)) : ∃ v, σ[i]? = some (some v) ∧ Rep K W v d := by
  obtain ⟨oa, _, h2⟩ := h.rep
  obtain ⟨s, h3, _, v, h4, h5⟩ := h2 i _ hi
  exact ⟨v, by rw [h3, h4], h5⟩
theorem Sat.own (h : Sat K W0 H0 W ρ σ H) {ds : List D} (hi : ρ[i]? = some (.lst ds)) : ∃ p vs, σ[i]? = some (some (.ref p)) ∧ W p = none ∧ H0 p = none ∧ H p = some (.lst vs) ∧ RepAll K W vs ds ∧ vs.length ≤ sizeLine := by
  obtain ⟨oa, _, h2⟩ := h.rep
  obtain ⟨s, h3, p, vs, _, h4, h5⟩ := h2 i _ hi
  exact ⟨p, vs, by rw [h3, h4], h5⟩
def setO (oa : Nat → Option Addr) (i : Nat) (o : Option Addr) : Nat → Option Addr := fun j => if j = i then o else oa j
theorem jiK {oa : Nat → Option Addr} {o : Option Addr} : setO oa i o i = o := if_pos rfl
theorem jmE {oa : Nat → Option Addr} {o : Option Addr} {j : Nat} (h : j ≠ i) : setO oa i o j = oa j := if_neg h
/-- one slot anew: b with its own place o -/
theorem jmF {oa : Nat → Option Addr} {b : B} {s : Option V} {o : Option Addr} (ex : Ex W0 H0 W' H') (len : σ.length = ρ.length) (h1 : ∀ i j p, oa i = some p → oa j = some p → i = j) (hn : ∀ j p, o = some p → j ≠ i → j < ρ.length → oa j ≠ some p)
    (h2 : ∀ j b, j ≠ i → ρ[j]? = some b → ∃ s, σ[j]? = some s ∧ BRep K H0 W' H' (oa j) b s) (r : BRep K H0 W' H' o b s) : Sat K W0 H0 W' (ρ.set i b) (σ.set i s) H' := ⟨ex, by rw [List.length_set, List.length_set]; exact len, by
  refine ⟨fun j => if j < ρ.length then setO oa i o j else none, fun a c p ha hc => ?_, fun j b' hb => ?_⟩
  · dsimp only at ha hc
    by_cases la : a < ρ.length
    · rw [if_pos la] at ha
      by_cases lc : c < ρ.length
      · rw [if_pos lc] at hc
        by_cases qa : a = i
        · rw [qa, jiK] at ha
          by_cases qc : c = i
          · rw [qa, qc]
          · rw [jmE qc] at hc
            exact absurd hc (hn c p ha qc lc)
        · rw [jmE qa] at ha
          by_cases qc : c = i
          · rw [qc, jiK] at hc
            exact absurd ha (hn a p hc qa la)
          · rw [jmE qc] at hc
            exact h1 a c p ha hc
      · rw [if_neg lc] at hc; cases hc
    · rw [if_neg la] at ha; cases ha
  · have hj : j < ρ.length := by
      have := (List.getElem?_eq_some_iff.mp hb).1
      rw [List.length_set] at this
      exact this
    dsimp only
    rw [if_pos hj]
    by_cases q : j = i
    · subst q
      rw [List.getElem?_set_self hj] at hb
      cases hb
      rw [jiK]
      exact ⟨s, by rw [List.getElem?_set_self (by rw [len]; exact hj)], r⟩
    · rw [List.getElem?_set_ne (Ne.symm q)] at hb
      obtain ⟨s', h3, h4⟩ := h2 j b' q hb
      rw [jmE q]
      exact ⟨s', by rw [List.getElem?_set_ne (Ne.symm q)]; exact h3, h4⟩⟩
/-- a value stored -/
theorem Sat.set (h : Sat K W0 H0 W ρ σ H) {v : V} {d : D} (r : Rep K W v d) : Sat K W0 H0 W (ρ.set i (.val d)) (σ.set i (some v)) H := by
  obtain ⟨oa, h1, h2⟩ := h.rep
  exact jmF (o := none) h.ex h.len h1 (fun _ _ z => by cases z) (fun j b _ hb => h2 j b hb) ⟨rfl, v, rfl, r⟩
theorem Sat.wipe1 (h : Sat K W0 H0 W ρ σ H) : Sat K W0 H0 W (ρ.set i .un) (σ.set i none) H := by
  obtain ⟨oa, h1, h2⟩ := h.rep
  exact jmF (o := none) h.ex h.len h1 (fun _ _ z => by cases z) (fun j b _ hb => h2 j b hb) rfl
theorem BRep.place {o : Option Addr} {p : Addr} {b : B} {s : Option V} (h : BRep K H0 W H o b s) (e : o = some p) : (∃ u, H p = some u) ∧ W p = none := by
  cases b with
  | un => rw [show o = none from h] at e; cases e
  | val d => rw [h.1] at e; cases e
  | lst ds =>
    obtain ⟨q, vs, h1, h2, h3, h4, h5, _⟩ := h
    rw [h1] at e; cases e
    exact ⟨⟨_, h5⟩, h3⟩
  | dic ks ds =>
    obtain ⟨q, vs, h1, h2, h3, h4, h5, _⟩ := h
    rw [h1] at e; cases e
    exact ⟨⟨_, h5⟩, h3⟩
  | obj a C ns ds =>
    obtain ⟨q, dx, vs, _, h1, h2, h3, h4, h5, _⟩ := h
    rw [h1] at e; cases e
    exact ⟨⟨_, h5⟩, h3⟩
  | bor q ks ds =>
    obtain ⟨h1, h2, h3, od, kvs, h5, _⟩ := h
    rw [h1] at e; cases e
    exact ⟨⟨_, h5⟩, h3⟩
  | dit ks ds =>
    obtain ⟨q, vs, h1, h2, h3, h4, h5, _⟩ := h
    rw [h1] at e; cases e
    exact ⟨⟨_, h5⟩, h3⟩
/-- a new own thing stored -/
theorem Sat.put (h : Sat K W0 H0 W ρ σ H) {p : Addr} {b : B} (e : Ex W H W' H') (hp : H p = none) (r : BRep K H0 W' H' (some p) b (some (.ref p))) : Sat K W0 H0 W' (ρ.set i b) (σ.set i (some (.ref p))) H' := by
  obtain ⟨oa, h1, h2⟩ := h.rep
  refine jmF (o := some p) (h.ex.trans e) h.len h1 (fun j q z hj hl hq => ?_) (fun j b _ hb => ?_) r
  · cases z
    obtain ⟨s, _, h4⟩ := h2 j _ (List.getElem?_eq_getElem hl)
    obtain ⟨⟨u, h5⟩, _⟩ := h4.place hq
    rw [hp] at h5; cases h5
  · obtain ⟨s, h3, h4⟩ := h2 j b hb
    exact ⟨s, h3, h4.ext e⟩
/-- what an own thing's change leaves -/
theorem BRep.mut {o : Option Addr} {p : Addr} {u : HO} {b : B} {s : Option V} (h : BRep K H0 W H o b s) (ho : o ≠ some p) (hown : ∀ x, H p ≠ some (.own x)) : BRep K H0 W (upd H p u) o b s := by
  cases b with
  | un => exact h
  | val d => exact h
  | lst ds =>
    obtain ⟨q, vs, h1, h2, h3, h4, h5, h6⟩ := h
    exact ⟨q, vs, h1, h2, h3, h4, by rw [upd_ne (fun z => ho (by rw [h1, z]))]; exact h5, h6⟩
  | dic ks ds =>
    obtain ⟨q, vs, h1, h2, h3, h4, h5, h6⟩ := h
    exact ⟨q, vs, h1, h2, h3, h4, by rw [upd_ne (fun z => ho (by rw [h1, z]))]; exact h5, h6⟩
  | obj a C ns ds =>
    obtain ⟨q, dx, vs, h0, h1, h2, h3, h4, h5, h6, h7⟩ := h
    exact ⟨q, dx, vs, h0, h1, h2, h3, h4, by rw [upd_ne (fun z => ho (by rw [h1, z]))]; exact h5, by rw [upd_ne (fun z => hown q (by rw [← z]; exact h6))]; exact h6, h7⟩
  | bor q ks ds =>
    obtain ⟨h1, h2, h3, od, kvs, h5, h6⟩ := h
    exact ⟨h1, h2, h3, od, kvs, by rw [upd_ne (fun z => ho (by rw [h1, z]))]; exact h5, h6⟩
  | dit ks ds =>
    obtain ⟨q, vs, h1, h2, h3, h4, h5, h6⟩ := h
    exact ⟨q, vs, h1, h2, h3, h4, by rw [upd_ne (fun z => ho (by rw [h1, z]))]; exact h5, h6⟩
theorem Ex.mut {p : Addr} {u : HO} (e : Ex W0 H0 W H) (h0 : H0 p = none) (hw : W p = none) : Ex W0 H0 W (upd H p u) := ⟨e.h.mut h0, e.w, fun a o h => by
  by_cases q : a = p
  · subst q
    rw [hw] at h; cases h
  · rw [upd_ne q]
    exact e.s _ _ h, e.n⟩
/-- an own list changed -/
theorem Sat.chg (h : Sat K W0 H0 W ρ σ H) {ds es : List D} {p : Addr} {us : List V} (hi : ρ[i]? = some (.lst ds)) (hs : σ[i]? = some (some (.ref p))) (r : RepAll K W us es) (hn : us.length ≤ sizeLine) : Sat K W0 H0 W (ρ.set i (.lst es)) σ (upd H p (.lst us)) := by
  obtain ⟨oa, h1, h2⟩ := h.rep
  obtain ⟨s, h3, q, vs, h4, h5, h6, h7, h8, _⟩ := h2 i _ hi
  have hq : q = p := by
    rw [h3, h5] at hs
    cases hs
    rfl
  subst hq
  have hσ : σ.set i (some (.ref q)) = σ := by
    apply List.ext_getElem?
    intro j
    by_cases e : j = i
    · subst e
      rw [List.getElem?_set_self (List.getElem?_eq_some_iff.mp hs).1, hs]
    · rw [List.getElem?_set_ne (Ne.symm e)]
  rw [← hσ]
  refine jmF (o := some q) (Ex.mut h.ex h7 h6) h.len h1 (fun j p z hj _ hp => ?_) (fun j b hj hb => ?_) ⟨q, us, rfl, rfl, h6, h7, upd_same, r, hn⟩
  · cases z
    exact hj (h1 j i q hp h4)
  · obtain ⟨s', h9, h10⟩ := h2 j b hb
    exact ⟨s', h9, h10.mut (fun z => hj (h1 j i q z h4)) fun x z => by rw [h8] at z; cases z⟩
end
end Pu
namespace Pu
open PySem PySem.Spec PyProof.Rows L2 Ly
inductive Exn where
  | bare (C : Addr)
  | kept (C : Addr) (ns : List Str) (ds : List D)
inductive XRep (K : PySem.W.Frag) (W : Hp) : Exn → Value → Option Addr → Prop
  | bare (C : Addr) : XRep K W (.bare C) (.ref C) none
  | kept {C a : Addr} {fs : List (Str × V)} {ns : List Str} {ds : List D} : W a = some (.xd fs) → fs.map Prod.fst = ns → RepAll K W (fs.map Prod.snd) ds → XRep K W (.kept C ns ds) (.ref C) (some a)
def XC (K : PySem.W.Frag) (E : XK) (W H : Hp) (Z : Exn → Prop) : Prop := ∀ x cls dd W' H', Ex W H W' H' → XRep K W' x cls dd → Z x → E cls dd H'
theorem XC.ext {K : PySem.W.Frag} {E : XK} {W H W' H' : Hp} {Z : Exn → Prop} (h : XC K E W H Z) (e : Ex W H W' H') : XC K E W' H' Z := fun x cls dd W2 H2 e2 => h x cls dd W2 H2 (e.trans e2)
inductive RepT (K : PySem.W.Frag) (W H : Hp) : V → D → Prop
  | val {v : V} {d : D} : Rep K W v d → RepT K W H v d
  | lst {a : Addr} {vs : List V} {ds : List D} : H a = some (.lst vs) → RepAll K W vs ds → vs.length ≤ sizeLine → RepT K W H (.ref a) (.lst ds)
  | dic {a : Addr} {kvs : List (Key × V)} {ks : List Key} {ds : List D} : Rd H a (.dK kvs) → kvs.map Prod.fst = ks → RepAll K W (kvs.map Prod.snd) ds → kvs.length ≤ sizeLine → RepT K W H (.ref a) (.dic ks ds)
  | obj {a C dx : Addr} {fs : List (Str × V)} {ns : List Str} {ds : List D} : H a = some (.ins C dx fs) → fs.map Prod.fst = ns → RepAll K W (fs.map Prod.snd) ds → RepT K W H (.ref a) (.obj C ns ds)
  | dit {a : Addr} {kvs : List (List Key × V)} {ks : List (List Key)} {ds : List D} : Rd H a (.dT kvs) → kvs.map Prod.fst = ks → RepAll K W (kvs.map Prod.snd) ds → kvs.length ≤ sizeLine → RepT K W H (.ref a) (.dit ks ds)
inductive RepTs (K : PySem.W.Frag) (W H : Hp) : List V → List D → Prop
  | nil : RepTs K W H [] []
  | cons {v : V} {vs : List V} {d : D} {ds : List D} : RepT K W H v d → RepTs K W H vs ds → RepTs K W H (v :: vs) (d :: ds)
section
variable {K : PySem.W.Frag} {W H W' H' : Hp}
theorem RepT.full {v : V} {d : D} (s : Gx W H) (h : RepT K W H v d) : Rep K H v d := by
  cases h with
  | val h => exact h.gx s
  | lst h hs n => exact .lst h (hs.gx s) n
  | dic h k hs n => exact .dic h k (hs.gx s) n
  | obj h k hs => exact .obj h k (hs.gx s)
  | dit h k hs n => exact .dit h k (hs.gx s) n
theorem RepT.ext {v : V} {d : D} (e : Ex W H W' H') (h : RepT K W H v d) : RepT K W' H' v d := by
  cases h with
  | val h => exact .val (h.gx e.w)
  | lst h hs n => exact .lst (e.h _ _ h) (hs.gx e.w) n
  | dic h k hs n => exact .dic (e.h.rd h) k (hs.gx e.w) n
  | obj h k hs => exact .obj (e.h _ _ h) k (hs.gx e.w)
  | dit h k hs n => exact .dit (e.h.rd h) k (hs.gx e.w) n
theorem RepTs.ext {vs : List V} {ds : List D} (e : Ex W H W' H') (h : RepTs K W H vs ds) : RepTs K W' H' vs ds := by
  induction h with
  | nil => exact .nil
  | cons h _ ih => exact .cons (h.ext e) ih
theorem RepAll.ts {vs : List V} {ds : List D} : ∀ {vs : List V} {ds : List D}, RepAll K W vs ds → RepTs K W H vs ds
  | _, _, .nil => .nil
  | _, _, .cons h hs => .cons (.val h) (RepAll.ts (vs := []) (ds := []) hs)
/-- a sequence's items -/
theorem RepT.lst_inv {v : V} {ds : List D} (s : Gx W H) (h : RepT K W H v (.lst ds)) : ∃ a vs, v = .ref a ∧ H a = some (.lst vs) ∧ RepAll K W vs ds ∧ vs.length ≤ sizeLine := by
  cases h with
  | val h =>
    cases h with
    | lst h hs n => exact ⟨_, _, rfl, s _ _ h, hs, n⟩
  | lst h hs n => exact ⟨_, _, rfl, h, hs, n⟩
theorem _root_.Pu.Rep.tupW {v : V} {ds : List D} (h : Rep K W v (.tup ds)) : ∃ a vs, v = .ref a ∧ SqT K W a vs ∧ RepAll K W vs ds ∧ vs.length ≤ sizeLine := by
  cases h with
  | tup h hs n => exact ⟨_, _, rfl, SqT.of h, hs, n⟩
  | tup0 h => exact ⟨_, _, rfl, h.sq, .nil, Nat.zero_le _⟩
theorem RepT.tup_inv {v : V} {ds : List D} (s : Gx W H) (h : RepT K W H v (.tup ds)) : ∃ a vs, v = .ref a ∧ SqT K H a vs ∧ RepAll K W vs ds ∧ vs.length ≤ sizeLine := by
  cases h with
  | val h =>
    cases h with
    | tup h hs n => exact ⟨_, _, rfl, SqT.of (s _ _ h), hs, n⟩
    | tup0 h => exact ⟨_, _, rfl, h.sq, .nil, Nat.zero_le _⟩
theorem RepT.dic_inv {v : V} {ks : List Key} {ds : List D} (s : Gx W H) (h : RepT K W H v (.dic ks ds)) : ∃ a kvs, v = .ref a ∧ Rd H a (.dK kvs) ∧ kvs.map Prod.fst = ks ∧ RepAll K W (kvs.map Prod.snd) ds ∧ kvs.length ≤ sizeLine := by
  cases h with
  | val h =>
    cases h with
    | dic h k hs n => exact ⟨_, _, rfl, s.rd h, k, hs, n⟩
  | dic h k hs n => exact ⟨_, _, rfl, h, k, hs, n⟩
theorem RepT.dit_inv {v : V} {ks : List (List Key)} {ds : List D} (s : Gx W H) (h : RepT K W H v (.dit ks ds)) : ∃ a kvs, v = .ref a ∧ Rd H a (.dT kvs) ∧ kvs.map Prod.fst = ks ∧ RepAll K W (kvs.map Prod.snd) ds ∧ kvs.length ≤ sizeLine := by
  cases h with
  | val h =>
    cases h with
    | dit h k hs n => exact ⟨_, _, rfl, s.rd h, k, hs, n⟩
  | dit h k hs n => exact ⟨_, _, rfl, h, k, hs, n⟩
theorem RepT.obj_inv {v : V} {C : Addr} {ns : List Str} {ds : List D} (s : Gx W H) (h : RepT K W H v (.obj C ns ds)) : ∃ a dx fs, v = .ref a ∧ H a = some (.ins C dx fs) ∧ fs.map Prod.fst = ns ∧ RepAll K W (fs.map Prod.snd) ds := by
  cases h with
  | val h =>
    cases h with
    | obj h k hs => exact ⟨_, _, _, rfl, s _ _ h, k, hs⟩
  | obj h k hs => exact ⟨_, _, _, rfl, h, k, hs⟩
theorem RepT.int_inv {v : V} {i : Int} (h : RepT K W H v (.int i)) : v = .int i := by
  cases h with
  | val h => cases h; rfl
theorem RepT.str_inv {v : V} {i : Str} (h : RepT K W H v (.str i)) : v = .str i := by
  cases h with
  | val h => cases h; rfl
theorem RepT.bl_inv {v : V} {i : Bool} (h : RepT K W H v (.bl i)) : v = .bl i := by
  cases h with
  | val h => cases h; rfl
theorem RepT.non_inv {v : V} (h : RepT K W H v .non) : v = .non := by
  cases h with
  | val h => cases h; rfl
/-- items of a list or a tuple -/
def seqD : D → Option (List D)
  | .lst ds => some ds
  | .tup ds => some ds
  | _ => none
theorem RepT.seq_inv {v : V} {d : D} {ds : List D} (s : Gx W H) (h : RepT K W H v d) (hd : seqD d = some ds) : ∃ a vs, v = .ref a ∧ (SqL K H a vs ∨ SqT K H a vs) ∧ RepAll K W vs ds ∧ vs.length ≤ sizeLine := by
  cases d with
  | lst es =>
    cases hd
    obtain ⟨a, vs, h1, h2, h3⟩ := h.lst_inv s
    exact ⟨a, vs, h1, .inl (SqL.of h2), h3⟩
  | tup es =>
    cases hd
    obtain ⟨a, vs, h1, h2, h3⟩ := h.tup_inv s
    exact ⟨a, vs, h1, .inr h2, h3⟩
  | _ => cases hd
end
abbrev ZX := Exn → Prop
abbrev FE := Env → (D → Prop) → ZX → Prop
abbrev FT := Env → (Bool → Prop) → ZX → Prop
abbrev FA := Env → (List D → Prop) → ZX → Prop
def tD (K : PySem.W.Frag) (E : XK) (F : FE) : TE := fun σ H Qh => ∃ W0 H0 W ρ Q Z, Sat K W0 H0 W ρ σ H ∧ F ρ Q Z ∧ (∀ v W' H' d, Ex W H W' H' → Rep K W' v d → Q d → Qh v H') ∧ XC K E W H Z
def tDT (K : PySem.W.Frag) (E : XK) (F : FE) : TE := fun σ H Qh => ∃ W0 H0 W ρ Q Z, Sat K W0 H0 W ρ σ H ∧ F ρ Q Z ∧ (∀ v W' H' d, Ex W H W' H' → RepT K W' H' v d → Q d → Qh v H') ∧ XC K E W H Z
def tDN (K : PySem.W.Frag) (E : XK) (F : FA) : TE := fun σ H Qh => ∃ W0 H0 W ρ Q Z, Sat K W0 H0 W ρ σ H ∧ F ρ Q Z ∧
  (∀ p vs W' H' ds, Ex W H W' H' → H p = none → W' p = none → H' p = some (.lst vs) → RepAll K W' vs ds → vs.length ≤ sizeLine → Q ds → Qh (.ref p) H') ∧ XC K E W H Z
def tDB (K : PySem.W.Frag) (E : XK) (F : FT) : TT := fun σ H Qh => ∃ W0 H0 W ρ Q Z, Sat K W0 H0 W ρ σ H ∧ F ρ Q Z ∧ (∀ b W' H', Ex W H W' H' → Q b → Qh b H') ∧ XC K E W H Z
def tDA (K : PySem.W.Frag) (E : XK) (F : FA) : TA := fun σ H Qh => ∃ W0 H0 W ρ Q Z, Sat K W0 H0 W ρ σ H ∧ F ρ Q Z ∧ (∀ vs W' H' ds, Ex W H W' H' → RepAll K W' vs ds → Q ds → Qh vs H') ∧ XC K E W H Z
def tDAT (K : PySem.W.Frag) (E : XK) (F : FA) : TA := fun σ H Qh => ∃ W0 H0 W ρ Q Z, Sat K W0 H0 W ρ σ H ∧ F ρ Q Z ∧ (∀ vs W' H' ds, Ex W H W' H' → RepTs K W' H' vs ds → Q ds → Qh vs H') ∧ XC K E W H Z
theorem _root_.L2.PE.mono {X : Cx} {e : Expr} {t u : TE} (h : PE X e t) (m : ∀ σ H Q, u σ H Q → t σ H Q) : PE X e u := ⟨fun pins s σ H Q I q => h.run pins s σ H Q I (m _ _ _ q)⟩
theorem _root_.L2.PT.mono {X : Cx} {e : Expr} {t u : TT} (h : PT X e t) (m : ∀ σ H Q, u σ H Q → t σ H Q) : PT X e u := ⟨fun pins s σ H Q I q => h.run pins s σ H Q I (m _ _ _ q)⟩
theorem _root_.L2.PW.mono {X : Cx} {e : Expr} {t u : TT} (h : PW X e t) (m : ∀ σ H Q, u σ H Q → t σ H Q) : PW X e u := ⟨fun wh pins s σ H Q I q => h.run wh pins s σ H Q I (m _ _ _ q)⟩
theorem _root_.L2.PA.mono {X : Cx} {e : List Expr} {t u : TA} (h : PA X e t) (m : ∀ σ H Q, u σ H Q → t σ H Q) : PA X e u := ⟨fun pos pins s σ H Q I q => h.run pos pins s σ H Q I (m _ _ _ q)⟩
def bD : B → Option D
  | .val d => some d
  | .lst ds => some (.lst ds)
  | .dic ks ds => some (.dic ks ds)
  | .obj _ C ns ds => some (.obj C ns ds)
  | .bor _ ks ds => some (.dic ks ds)
  | .dit ks ds => some (.dit ks ds)
  | .un => none
def fVar (i : Nat) : FE := fun ρ Q _ => ∃ d, ρ[i]? = some (.val d) ∧ Q d
def fVarT (i : Nat) : FE := fun ρ Q _ => ∃ b d, ρ[i]? = some b ∧ bD b = some d ∧ Q d
def fC (d : D) : FE := fun _ Q _ => Q d
section
variable {X : Cx} {K : PySem.W.Frag} {E : XK} {F G : FE} {N : FA} {e a b : Expr} {i : Nat} {pos : Pos}
theorem d_var {x : Str} (h : PE X (.Name x pos) (tVar i)) : PE X (.Name x pos) (tD K E (fVar i)) := h.mono fun σ H Qh ⟨W0, H0, W, ρ, Q, Z, st, ⟨d, hi, q⟩, k, _⟩ => by
  obtain ⟨v, h1, h2⟩ := st.val hi
  exact ⟨v, h1, k v W H d (Ex.refl st.see) h2 q⟩
theorem jac {x : Str} (h : PE X (.Name x pos) (tVar i)) : PE X (.Name x pos) (tDT K E (fVarT i)) := h.mono fun σ H Qh ⟨W0, H0, W, ρ, Q, Z, st, ⟨b, d, hi, hd, q⟩, k, _⟩ => by
  obtain ⟨oa, _, h2⟩ := st.rep
  obtain ⟨s, h3, h4⟩ := h2 i b hi
  cases b with
  | un => cases hd
  | val d' =>
    cases hd
    obtain ⟨_, v, h5, h6⟩ := h4
    exact ⟨v, by rw [h3, h5], k v W H d (Ex.refl st.see) (.val h6) q⟩
  | lst ds =>
    cases hd
    obtain ⟨p, vs, _, h5, _, _, h6, h7, h8⟩ := h4
    exact ⟨.ref p, by rw [h3, h5], k _ W H _ (Ex.refl st.see) (.lst h6 h7 h8) q⟩
  | dic ks ds =>
    cases hd
    obtain ⟨p, vs, _, h5, _, _, h6, h7, h8, h9⟩ := h4
    exact ⟨.ref p, by rw [h3, h5], k _ W H _ (Ex.refl st.see) (.dic (.inl h6) h7 h8 h9) q⟩
  | obj a C ns ds =>
    cases hd
    obtain ⟨p, dx, vs, _, _, h5, _, _, h6, _, _, h7, h8, _⟩ := h4
    exact ⟨.ref p, by rw [h3, h5], k _ W H _ (Ex.refl st.see) (.obj h6 h7 h8) q⟩
  | bor p ks ds =>
    cases hd
    obtain ⟨_, h5, _, od, kvs, h6, h7, h8, h9⟩ := h4
    exact ⟨.ref p, by rw [h3, h5], k _ W H _ (Ex.refl st.see) (.dic (.inr ⟨od, h6⟩) h7 h8 h9) q⟩
  | dit ks ds =>
    cases hd
    obtain ⟨p, vs, _, h5, _, _, h6, h7, h8, h9⟩ := h4
    exact ⟨.ref p, by rw [h3, h5], k _ W H _ (Ex.refl st.see) (.dit (.inl h6) h7 h8 h9) q⟩
theorem d_c {v : V} {d : D} (h : PE X e (tC v)) (r : ∀ W, Rep K W v d) : PE X e (tD K E (fC d)) := h.mono fun σ H Qh ⟨W0, H0, W, ρ, Q, Z, st, q, k, _⟩ => k v W H d (Ex.refl st.see) (r W) q
theorem d_int {n : Int} (h : PE X e (tC (.int n))) : PE X e (tD K E (fC (.int n))) := d_c h fun _ => .int n
theorem d_str {n : Str} (h : PE X e (tC (.str n))) : PE X e (tD K E (fC (.str n))) := d_c h fun _ => .str n
theorem d_bl {n : Bool} (h : PE X e (tC (.bl n))) : PE X e (tD K E (fC (.bl n))) := d_c h fun _ => .bl n
theorem d_non (h : PE X e (tC .non)) : PE X e (tD K E (fC .non)) := d_c h fun _ => .non
/-- a value may be read -/
theorem d_t (h : PE X e (tD K E F)) : PE X e (tDT K E F) := h.mono fun σ H Qh ⟨W0, H0, W, ρ, Q, Z, st, f, k, x⟩ => ⟨W0, H0, W, ρ, Q, Z, st, f, fun v W' H' d e r q => k v W' H' d e (.val r) q, x⟩
/-- a new list is a value -/
def fNew (F : FA) : FE := fun ρ Q Z => F ρ (fun ds => Q (.lst ds)) Z
theorem d_n (h : PE X e (tDN K E N)) : PE X e (tD K E (fNew N)) := h.mono fun σ H Qh ⟨W0, H0, W, ρ, Q, Z, st, f, k, x⟩ => ⟨W0, H0, W, ρ, _, Z, st, f, fun p vs W' H' ds e hp hw h' r n q =>
  k _ _ H' _ (e.see hp hw h') (.lst upd_same (r.gx (Gx.new hw)) n) q, x⟩
theorem d_nt (h : PE X e (tDN K E N)) : PE X e (tDT K E (fNew N)) := d_t (d_n h)
/-- an operation by values -/
def RSnd (K : PySem.W.Frag) (r : R2) (R : D → D → (D → Prop) → Prop) : Prop := ∀ W H x y a b Q Qh, Gx W H → RepT K W H x a → RepT K W H y b → R a b Q → (∀ v W' H' d, Ex W H W' H' → Rep K W' v d → Q d → Qh v H') → r x y H Qh
def fOp (R : D → D → (D → Prop) → Prop) (F G : FE) : FE := fun ρ Q Z => F ρ (fun a => G ρ (fun b => R a b Q) Z) Z
theorem op_to {r : R2} {R : D → D → (D → Prop) → Prop} (hR : RSnd K r R) {σ : L2.St} {H : Hp} {Qh : VK} (h : tD K E (fOp R F G) σ H Qh) : tOp r (tDT K E F) (tDT K E G) σ H Qh := by
  obtain ⟨W0, H0, W, ρ, Q, Z, st, f, k, x⟩ := h
  refine ⟨W0, H0, W, ρ, _, Z, st, f, fun v W1 H1 d e1 r1 g => ?_, x⟩
  refine ⟨W0, H0, W1, ρ, _, Z, st.ext e1, g, fun v2 W2 H2 d2 e2 r2 q => ?_, x.ext e1⟩
  exact hR W2 H2 v v2 d d2 Q Qh e2.s (r1.ext e2) r2 q fun v3 W3 H3 d3 e3 r3 q3 => k v3 W3 H3 d3 ((e1.trans e2).trans e3) r3 q3
theorem d_op {op : Operator} {r : R2} {R : D → D → (D → Prop) → Prop} (ho : OpR X (binaryOp op) r) (hR : RSnd K r R) (ha : PE X a (tDT K E F)) (hb : PE X b (tDT K E G)) : PE X (.BinOp a op b pos) (tD K E (fOp R F G)) := (pe_op ho ha hb).mono fun _ _ _ h => op_to hR h
theorem d_cmp {op : CmpOp} {r : R2} {R : D → D → (D → Prop) → Prop} (ho : OpR X (compareOp op) r) (hR : RSnd K r R) (ha : PE X a (tDT K E F)) (hb : PE X b (tDT K E G)) (hm : behindInMarks op b = false) : PE X (.Compare a [op] [b] pos) (tD K E (fOp R F G)) := (pe_cmpR ho ha hb hm).mono fun _ _ _ h => op_to hR h
theorem d_ix {r : R2} {R : D → D → (D → Prop) → Prop} (hr : IxR X r) (hR : RSnd K r R) (ha : PE X a (tDT K E F)) (hb : PE X b (tDT K E G)) (hs : PlainIx b) : PE X (.Subscript a b pos) (tD K E (fOp R F G)) := (pe_ix hr ha hb hs).mono fun _ _ _ h => op_to hR h
/-- a value that is a truth value, as a test -/
def fTst (F : FE) : FT := fun ρ Q Z => F ρ (fun d => ∃ b, d = .bl b ∧ Q b) Z
theorem jti {σ : L2.St} {H : Hp} {Qh : Bool → Hp → Prop} (h : tDB K E (fTst F) σ H Qh) : tD K E F σ H fun x H1 => ∃ c, x = .bl c ∧ Qh c H1 := by
  obtain ⟨W0, H0, W, ρ, Q, Z, st, f, k, x⟩ := h
  refine ⟨W0, H0, W, ρ, _, Z, st, f, fun v W' H' d e r ⟨b, z, q⟩ => ?_, x⟩
  subst z
  cases r
  exact ⟨b, rfl, k b W' H' e q⟩
theorem jct (h : PE X e (tD K E F)) (he : ∀ whole, isTrue e X.env whole = (do let v ← whole; standAt e.pos; holding [v] (truthy v)) := by intro _; rfl) : PT X e (tDB K E (fTst F)) := (pt_val h he).mono fun _ _ _ h => jti h
theorem jdE {op : CmpOp} {r : R2} {R : D → D → (D → Prop) → Prop} (ho : OpR X (compareOp op) r) (hR : RSnd K r R) (ha : PE X a (tDT K E F)) (hb : PE X b (tDT K E G)) (hm : behindInMarks op b = false) : PT X (.Compare a [op] [b] pos) (tDB K E (fTst (fOp R F G))) :=
  (pt_cmpR ho ha hb hm).mono fun σ H Qh h => op_to hR (jti h)
end
end Pu
namespace Pu
open PySem PySem.Spec PyProof.Rows L2 Ly
mutual
def toP : D → PyData
  | .non => .none
  | .bl b => .bool b
  | .int i => .int i
  | .str x => .str x
  | .lst ds => .list (toPs ds)
  | .tup ds => .tuple (toPs ds)
  | _ => .dict []
def toPs : List D → List PyData
  | [] => []
  | d :: ds => toP d :: toPs ds
end
mutual
theorem Rep.dp {K : PySem.W.Frag} {W : Hp} : ∀ {v : V} {d : D}, Rep K W v d → (toP d).canLay0 = true → Dp K W v (toP d)
  | _, _, .non, _ => .non
  | _, _, .bl b, _ => .bl b
  | _, _, .int i, _ => .int i
  | _, _, .str x, _ => .str x
  | _, _, .lst h hs _, z => .lst (SqL.of h) (RepAll.dp hs (by simpa [toP, PyData.canLay0] using z))
  | _, _, .tup h hs _, z => .tup (SqT.of h) (RepAll.dp hs (by simpa [toP, PyData.canLay0] using z))
  | _, _, .tup0 h, _ => .tup h.sq .nil
  | _, _, .dic .., z => by simp [toP, PyData.canLay0] at z
  | _, _, .obj .., z => by simp [toP, PyData.canLay0] at z
  | _, _, .dice .., z => by simp [toP, PyData.canLay0] at z
  | _, _, .cls .., z => by simp [toP, PyData.canLay0] at z
  | _, _, .exn .., z => by simp [toP, PyData.canLay0] at z
  | _, _, .lsk .., z => by simp [toP, PyData.canLay0] at z
  | _, _, .dit .., z => by simp [toP, PyData.canLay0] at z
  | _, _, .exm .., z => by simp [toP, PyData.canLay0] at z
  | _, _, .exf .., z => by simp [toP, PyData.canLay0] at z
  | _, _, .xt .., z => by simp [toP, PyData.canLay0] at z
theorem RepAll.dp {K : PySem.W.Frag} {W : Hp} : ∀ {vs : List V} {ds : List D}, RepAll K W vs ds → PyData.canLayAll0 (toPs ds) = true → DpAll K W vs (toPs ds)
  | _, _, .nil, _ => .nil
  | _, _, .cons h hs, z => by
    rw [toPs, PyData.canLayAll0, Bool.and_eq_true] at z
    exact .cons (Rep.dp h z.1) (RepAll.dp hs z.2)
end
/-- may be compared as data -/
def shp (d : D) : Prop := SeqAt.shaped (toP d) = true
theorem jgs {d : D} (h : shp d) : (toP d).canLay0 = true := by
  unfold shp SeqAt.shaped at h
  rw [Bool.and_eq_true] at h
  exact h.1
/-- == of scalars -/
def sc : D → D → Option Bool
  | .int i, .int j => some (decide (i = j))
  | .str i, .str j => some (decide (i = j))
  | .bl i, .bl j => some (decide (i = j))
  | .non, .non => some true
  | .non, .int _ => some false | .int _, .non => some false | .non, .bl _ => some false | .bl _, .non => some false | .non, .str _ => some false | .str _, .non => some false
  | .int _, .str _ => some false | .str _, .int _ => some false | .bl _, .str _ => some false | .str _, .bl _ => some false
  | _, _ => none
def REq (a b : D) (Q : D → Prop) : Prop := match sc a b with
  | some c => Q (.bl c)
  | none => shp a ∧ shp b ∧ Q (.bl (PyData.eqv (toP a) (toP b)))
def RNe (a b : D) (Q : D → Prop) : Prop := match sc a b with
  | some c => Q (.bl (!c))
  | none => shp a ∧ shp b ∧ Q (.bl (!PyData.eqv (toP a) (toP b)))
section
variable {K : PySem.W.Frag} {X : Cx}
theorem sc_v {W H : Hp} {x y : V} {a b : D} {c : Bool} (r1 : RepT K W H x a) (r2 : RepT K W H y b) (h : sc a b = some c) : scal x y = true ∧ decide (x = y) = c := by
  cases a <;> cases b <;> first
    | (cases h; done)
    | skip
  all_goals
    first
    | (rw [r1.int_inv, r2.int_inv]; cases h; exact ⟨rfl, by simp⟩)
    | (rw [r1.str_inv, r2.str_inv]; cases h; exact ⟨rfl, by simp⟩)
    | (rw [r1.bl_inv, r2.bl_inv]; cases h; exact ⟨rfl, by simp⟩)
    | (rw [r1.non_inv, r2.non_inv]; cases h; exact ⟨rfl, by simp⟩)
    | (rw [r1.non_inv, r2.int_inv]; cases h; exact ⟨rfl, by simp⟩)
    | (rw [r1.int_inv, r2.non_inv]; cases h; exact ⟨rfl, by simp⟩)
    | (rw [r1.non_inv, r2.bl_inv]; cases h; exact ⟨rfl, by simp⟩)
    | (rw [r1.bl_inv, r2.non_inv]; cases h; exact ⟨rfl, by simp⟩)
    | (rw [r1.non_inv, r2.str_inv]; cases h; exact ⟨rfl, by simp⟩)
    | (rw [r1.str_inv, r2.non_inv]; cases h; exact ⟨rfl, by simp⟩)
    | (rw [r1.int_inv, r2.str_inv]; cases h; exact ⟨rfl, by simp⟩)
    | (rw [r1.str_inv, r2.int_inv]; cases h; exact ⟨rfl, by simp⟩)
    | (rw [r1.bl_inv, r2.str_inv]; cases h; exact ⟨rfl, by simp⟩)
    | (rw [r1.str_inv, r2.bl_inv]; cases h; exact ⟨rfl, by simp⟩)
def rEqA (K : PySem.W.Frag) : R2 := fun x y H Q => rEq x y H Q ∨ rEqD K x y H Q
def rNeA (K : PySem.W.Frag) : R2 := fun x y H Q => rNe x y H Q ∨ rNeD K x y H Q
theorem jiL (hu : X.A.units + 64 < cLine) (hK : X.K = K := by rfl) : OpR X (compareOp .Eq) (rEqA K) := OpR.or op_eq (jxo hu hK)
theorem jhf (hu : X.A.units + 64 < cLine) (hK : X.K = K := by rfl) : OpR X (compareOp .NotEq) (rNeA K) := OpR.or op_ne (jxp hu hK)
theorem s_eq : RSnd K (rEqA K) REq := fun W H x y a b Q Qh s r1 r2 h k => by
  unfold REq at h
  cases q : sc a b with
  | some c =>
    rw [q] at h
    obtain ⟨h1, h2⟩ := sc_v r1 r2 q
    refine .inl ⟨h1, ?_⟩
    rw [h2]
    exact k _ W H _ (Ex.refl s) (.bl c) h
  | none =>
    rw [q] at h
    obtain ⟨ha, hb, h⟩ := h
    exact .inr ⟨_, _, (r1.full s).dp (jgs ha), (r2.full s).dp (jgs hb), ha, hb, k _ W H _ (Ex.refl s) (.bl _) h⟩
theorem s_ne : RSnd K (rNeA K) RNe := fun W H x y a b Q Qh s r1 r2 h k => by
  unfold RNe at h
  cases q : sc a b with
  | some c =>
    rw [q] at h
    obtain ⟨h1, h2⟩ := sc_v r1 r2 q
    refine .inl ⟨h1, ?_⟩
    rw [h2]
    exact k _ W H _ (Ex.refl s) (.bl _) h
  | none =>
    rw [q] at h
    obtain ⟨ha, hb, h⟩ := h
    exact .inr ⟨_, _, (r1.full s).dp (jgs ha), (r2.full s).dp (jgs hb), ha, hb, k _ W H _ (Ex.refl s) (.bl _) h⟩
def RAdd : D → D → (D → Prop) → Prop
  | .int i, .int j, Q => Q (.int (i + j))
  | .str x, .str y, Q => x.length + y.length ≤ sizeLine ∧ Q (.str (x ++ y))
  | .lst x, .lst y, Q => x.length + y.length ≤ sizeLine ∧ Q (.lst (x ++ y))
  | .tup x, .tup y, Q => x.length + y.length ≤ sizeLine ∧ Q (.tup (x ++ y))
  | _, _, _ => False
def rAddS : R2 := fun x y H Q => ∃ i j, x = .str i ∧ y = .str j ∧ i.length + j.length ≤ sizeLine ∧ Q (.str (i ++ j)) H
def rAddA (K : PySem.W.Frag) : R2 := fun x y H Q => (rI0 (fun i j => .int (i + j)) x y H Q ∨ rAddS x y H Q) ∨ (rCat x y H Q ∨ rCatA K x y H Q)
theorem jgt (hK : X.K = K := by rfl) : OpR X (binaryOp .Add) (rAddA K) := by
  subst hK
  exact OpR.or (OpR.or op_add op_add_str) (OpR.or op_cat op_catA)
theorem s_add : RSnd K (rAddA K) RAdd := fun W H x y a b Q Qh s r1 r2 h k => by
  cases a <;> cases b <;> first
    | exact h.elim
    | skip
  · exact .inl (.inl ⟨_, _, r1.int_inv, r2.int_inv, k _ W H _ (Ex.refl s) (.int _) h⟩)
  · exact .inl (.inr ⟨_, _, r1.str_inv, r2.str_inv, h.1, k _ W H _ (Ex.refl s) (.str _) h.2⟩)
  · obtain ⟨p, vs, e1, h1, h2, h3⟩ := r1.lst_inv s
    obtain ⟨q, us, e2, h4, h5, h6⟩ := r2.lst_inv s
    refine .inr (.inl ⟨p, q, vs, us, e1, e2, h1, h4, by rw [h2.len, h5.len]; exact h.1, fun l hl => k _ _ _ _ (Ex.new s hl) (.lst upd_same ((h2.app h5).gx (Gx.new (s.free hl))) ?_) h.2⟩)
    rw [List.length_append, h2.len, h5.len]
    exact h.1
  · obtain ⟨p, vs, e1, h1, h2, h3⟩ := r1.tup_inv s
    obtain ⟨q, us, e2, h4, h5, h6⟩ := r2.tup_inv s
    rename_i xs ys
    have hn : vs.length + us.length ≤ sizeLine := by rw [h2.len, h5.len]; exact h.1
    refine .inr (.inr ⟨p, q, vs, us, e1, e2, h1, h4, hn, fun z => ?_, fun _ z => ?_, fun _ _ l hl => k _ _ _ _ (Ex.new s hl) (.tup upd_same ((h2.app h5).gx (Gx.new (s.free hl))) (by rw [List.length_append]; exact hn)) h.2⟩)
    · subst z
      cases h2
      cases r2 with
      | val r2 =>
        subst e2
        exact k _ W H _ (Ex.refl s) r2 h.2
    · subst z
      cases h5
      cases r1 with
      | val r1 =>
        subst e1
        have h7 := h.2
        rw [List.append_nil] at h7
        exact k _ W H _ (Ex.refl s) r1 h7
def RI0 (g : Int → Int → D) : D → D → (D → Prop) → Prop
  | .int i, .int j, Q => Q (g i j)
  | _, _, _ => False
theorem s_I0 {f : Int → Int → V} {g : Int → Int → D} (hg : ∀ W i j, Rep K W (f i j) (g i j)) : RSnd K (rI0 f) (RI0 g) := fun W H x y a b Q Qh s r1 r2 h k => by
  cases a <;> cases b <;> first
    | exact h.elim
    | skip
  exact ⟨_, _, r1.int_inv, r2.int_inv, k _ W H _ (Ex.refl s) (hg W _ _) h⟩
abbrev RSub := RI0 fun i j => .int (i - j)
abbrev RLt := RI0 fun i j => .bl (decide (i < j))
abbrev RLe := RI0 fun i j => .bl (decide (i ≤ j))
theorem s_sub : RSnd K (rI0 fun i j => .int (i - j)) RSub := s_I0 fun _ _ _ => .int _
theorem s_lt : RSnd K (rI0 fun i j => .bl (decide (i < j))) RLt := s_I0 fun _ _ _ => .bl _
theorem s_le : RSnd K (rI0 fun i j => .bl (decide (i ≤ j))) RLe := s_I0 fun _ _ _ => .bl _
/-- is None -/
def isN : D → Bool
  | .non => true
  | _ => false
def RIsN (a b : D) (Q : D → Prop) : Prop := b = .non ∧ Q (.bl (isN a))
theorem isN_v {W H : Hp} {x : V} {a : D} (r : RepT K W H x a) : decide (x = .non) = isN a := by
  cases r with
  | val r => cases r <;> simp [isN]
  | _ => simp [isN]
theorem s_isN : RSnd K (fun x y H Q => y = .non ∧ Q (.bl (decide (x = .non))) H) RIsN := fun W H x y a b Q Qh s r1 r2 h k => by
  obtain ⟨rfl, h⟩ := h
  exact ⟨r2.non_inv, k _ W H _ (Ex.refl s) (.bl _) (by rw [isN_v r1]; exact h)⟩
def flD : D → Bool
  | .non => true
  | .bl _ => true
  | .int _ => true
  | .str _ => true
  | _ => false
def eqF : D → D → Bool
  | .non, .non => true
  | .bl a, .bl b => a == b
  | .bl a, .int b => (if a then 1 else 0) == b
  | .int a, .bl b => a == (if b then 1 else 0)
  | .int a, .int b => a == b
  | .str a, .str b => a == b
  | _, _ => false
/-- a flat value in a list or tuple of flat ones; data in a list of data; a sign in a text -/
def RIn (neg : Bool) (a b : D) (Q : D → Prop) : Prop := match b with
  | .lst ds => (flD a = true ∧ ds.all flD = true ∧ Q (.bl (neg != ds.any fun y => eqF y a))) ∨ (shp a ∧ shp b ∧ Q (.bl (neg != ds.any fun y => PyData.eqv (toP y) (toP a))))
  | .tup ds => flD a = true ∧ ds.all flD = true ∧ Q (.bl (neg != ds.any fun y => eqF y a))
  | .str z => ∃ x, a = .str x ∧ Q (.bl (neg != !(Builtin.Str.occurrences z x 0 z.length 1).isEmpty))
  | _ => False
theorem jrN {W : Hp} {x : V} {a : D} (r : Rep K W x a) (h : flD a = true) : flatV x = true := by
  cases r <;> first | rfl | cases h
theorem eqF_v {W : Hp} {x y : V} {a b : D} (r : Rep K W x a) (q : Rep K W y b) (h : flD a = true) (h2 : flD b = true) : eqV x y = eqF a b := by
  cases r <;> first
    | (cases h; done)
    | (cases q <;> first | (cases h2; done) | rfl)
theorem any_v {W : Hp} {x : V} {a : D} (r : Rep K W x a) (h : flD a = true) : ∀ {vs : List V} {ds : List D}, RepAll K W vs ds → ds.all flD = true → vs.all flatV = true ∧ inV x vs = ds.any fun y => eqF y a
  | _, _, .nil, _ => ⟨rfl, rfl⟩
  | _, _, .cons q hs, z => by
    rw [List.all_cons, Bool.and_eq_true] at z
    obtain ⟨h1, h2⟩ := any_v r h hs z.2
    refine ⟨by rw [List.all_cons, h1, jrN q z.1]; rfl, ?_⟩
    unfold inV at h2 ⊢
    rw [List.any_cons, List.any_cons, h2, eqF_v q r z.1 h]
def rInS (neg : Bool) : R2 := fun x y H Q => ∃ i j, x = .str i ∧ y = .str j ∧ Q (.bl (neg != !(Builtin.Str.occurrences j i 0 j.length 1).isEmpty)) H
def rInA (K : PySem.W.Frag) : R2 := fun x y H Q => (rIn K false x y H Q ∨ rInD K x y H Q) ∨ rInS false x y H Q
theorem jrO (hu : X.A.units + 65 < cLine) (hK : X.K = K := by rfl) : OpR X (compareOp .In) (rInA K) := by
  subst hK
  exact OpR.or (OpR.or op_in_seq (op_inD hu)) (fun pins s σ H x y v u Q I rx ry h => op_in_str pins s σ H x y v u Q I rx ry (by
    obtain ⟨i, j, h1, h2, h3⟩ := h
    refine ⟨i, j, h1, h2, ?_⟩
    rw [Bool.false_bne] at h3
    exact h3))
theorem anyP : ∀ (ds : List D) (a : D), ((toPs ds).any fun z => PyData.eqv z (toP a)) = ds.any fun y => PyData.eqv (toP y) (toP a)
  | [], _ => rfl
  | d :: ds, a => by rw [toPs, List.any_cons, List.any_cons, anyP ds a]
theorem s_in : RSnd K (rInA K) (RIn false) := fun W H x y a b Q Qh s r1 r2 h k => by
  cases b with
  | lst ds =>
    obtain ⟨p, vs, e, h1, h2, h3⟩ := r2.lst_inv s
    rcases h with ⟨f1, f2, h⟩ | ⟨f1, f2, h⟩
    · obtain ⟨h4, h5⟩ := any_v (r1.full s) f1 (h2.gx s) f2
      refine .inl (.inl ⟨p, vs, e, .inl (SqL.of h1), jrN (r1.full s) f1, h4, k _ W H _ (Ex.refl s) (.bl _) ?_⟩)
      rw [h5]
      rw [Bool.false_bne] at h
      exact h
    · refine .inl (.inr ⟨_, toPs ds, (r1.full s).dp (jgs f1), (r2.full s).dp (jgs f2), f1, f2, k _ W H _ (Ex.refl s) (.bl _) ?_⟩)
      rw [anyP]
      rw [Bool.false_bne] at h
      exact h
  | tup ds =>
    obtain ⟨p, vs, e, h1, h2, h3⟩ := r2.tup_inv s
    obtain ⟨f1, f2, h⟩ := h
    obtain ⟨h4, h5⟩ := any_v (r1.full s) f1 (h2.gx s) f2
    refine .inl (.inl ⟨p, vs, e, .inr h1, jrN (r1.full s) f1, h4, k _ W H _ (Ex.refl s) (.bl _) ?_⟩)
    rw [h5]
    rw [Bool.false_bne] at h
    exact h
  | str z =>
    obtain ⟨x', rfl, h⟩ := h
    exact .inr ⟨_, _, r1.str_inv, r2.str_inv, k _ W H _ (Ex.refl s) (.bl _) h⟩
  | _ => exact h.elim
def RIx : D → D → (D → Prop) → Prop
  | .lst ds, .int i, Q => ∃ d, atI ds i = some d ∧ Q d
  | .tup ds, .int i, Q => ∃ d, atI ds i = some d ∧ Q d
  | .str z, .int i, Q => z.length ≤ sizeLine ∧ ∃ c, atI z.cps.toList i = some c ∧ Q (.str ⟨#[c]⟩)
  | _, _, _ => False
def rIxA (K : PySem.W.Frag) : R2 := fun x y H Q => (rIxL K x y H Q ∨ rIxT K x y H Q) ∨ rIxS x y H Q
theorem ix_A (hK : X.K = K := by rfl) : IxR X (rIxA K) := by
  subst hK
  exact IxR.or (IxR.or ix_list ix_tup) ix_str
theorem at_v {W : Hp} {vs : List V} {ds : List D} {i : Int} {d : D} (r : RepAll K W vs ds) (h : atI ds i = some d) : ∃ v, atI vs i = some v ∧ Rep K W v d := by
  unfold atI at h ⊢
  rw [r.len]
  cases q : ixN ds.length i with
  | none => rw [q] at h; cases h
  | some j =>
    rw [q] at h
    exact r.getD h
theorem s_ix : RSnd K (rIxA K) RIx := fun W H x y a b Q Qh s r1 r2 h k => by
  cases a <;> cases b <;> first
    | exact h.elim
    | skip
  · obtain ⟨z, c, h1, h2⟩ := h
    exact .inr ⟨_, _, c, r1.str_inv, r2.int_inv, z, h1, k _ W H _ (Ex.refl s) (.str _) h2⟩
  · obtain ⟨p, vs, e1, h1, h2, h3⟩ := r1.lst_inv s
    obtain ⟨d, h4, h5⟩ := h
    obtain ⟨v, h6, h7⟩ := at_v h2 h4
    exact .inl (.inl ⟨p, vs, _, v, e1, r2.int_inv, SqL.of h1, h6, k _ W H _ (Ex.refl s) h7 h5⟩)
  · obtain ⟨p, vs, e1, h1, h2, h3⟩ := r1.tup_inv s
    obtain ⟨d, h4, h5⟩ := h
    obtain ⟨v, h6, h7⟩ := at_v h2 h4
    exact .inl (.inr ⟨p, vs, _, v, e1, r2.int_inv, h1, h6, k _ W H _ (Ex.refl s) h7 h5⟩)
end
end Pu
set_option maxHeartbeats 2000000
namespace Ly
open PySem PySem.Spec PyProof.Rows L2
open AutoSeq1 (wpAny_loadPart')
theorem jtj (tp : Addr) (vals : Array Value) (ob : Obj) (hcl : ob.cls = .type "tuple") (hda : ∃ nn, ob.data = .seq vals nn) :
    Meets (Builtin.«enumerate.__new__» ⟨[.type "enumerate", .ref tp], []⟩) (fun _ R st => st.heap.get? tp = some ob ∧
      R (.ok (.ret (.ref (st.heap.push { cls := .type "tuple_iterator", data := .fields #[.ref tp, .int 0 0] }).objs.size)))
        { st with heap := (st.heap.push { cls := .type "tuple_iterator", data := .fields #[.ref tp, .int 0 0] }).push { cls := .type "enumerate", data := .fields #[.none, .bool false, .ref st.heap.objs.size, rawInt 0, .none, .none] } }) :=
  .of_wp fun prog w A R st hh => by
    obtain ⟨hp, gs, dr, tk, os⟩ := st
    obtain ⟨hob, hh⟩ := hh
    obtain ⟨oc, od, dt, sl⟩ := ob
    obtain ⟨nn, hda⟩ := hda
    simp only at hcl hda
    subst hcl hda
    have ss := sub_enumerate
    have it : Heap.IsTuple (Shared.heap ⟨hp, gs, dr, tk, os⟩) tp vals := ⟨_, hob, rfl, nn, rfl⟩
    wp_walk using wpAny_loadPart' hob
    refine wpAny_stack_any fun _ => wpAny_pure ?_
    split
    · rename_i cc _ _ _ _ _
      cases (cc == Value.type "enumerate")
      all_goals
        wp_walk using wpAny_loadPart' hob, wpAny_pyIter_tuple it
        exact ⟨_, rfl, hh⟩
    · wp_walk using wpAny_loadPart' hob, wpAny_pyIter_tuple it
      exact ⟨_, rfl, hh⟩
theorem jso {prog : Program} {w : World} {A : Around} {E : Value → Shared → Prop} {s : Shared} {tp : Addr} {vals : Array Value} {Q : Value → Shared → Prop} (ht : s.heap.IsTuple tp vals)
    (k : ∀ h', IsEnum h' (s.heap.objs.size + 1) s.heap.objs.size 0 .none → h'.IsTupleIter s.heap.objs.size tp 0 → (∀ b ob, s.heap.get? b = some ob → h'.get? b = some ob) → Q (.ref (s.heap.objs.size + 1)) { s with heap := h' }) :
    wpAny (model prog w) A (call (.type "enumerate") [.ref tp]) Q E s := by
  obtain ⟨ob, hob, hcl, nn, hda⟩ := ht
  have sz : (s.heap.push { cls := .type "tuple_iterator", data := .fields #[.ref tp, .int 0 0] }).objs.size = s.heap.objs.size + 1 := Heap.size_push ..
  refine callType_new F.called_enumerate (by decide) (F.typeCall_enumerate_1 _) (F.newCall_enumerate_1 _) (fun o => F.args_object_init_2 o _) F.entry_enumerate_new (jtj tp vals ob hcl ⟨nn, hda⟩) ⟨hob, ?_⟩
  show _ ∧ _
  rw [sz]
  have en : IsEnum ((s.heap.push { cls := .type "tuple_iterator", data := .fields #[.ref tp, .int 0 0] }).push { cls := .type "enumerate", data := .fields #[.none, .bool false, .ref s.heap.objs.size, rawInt 0, .none, .none] }) (s.heap.objs.size + 1) s.heap.objs.size 0 .none := by
    have q := Heap.get?_push_size (s.heap.push { cls := .type "tuple_iterator", data := .fields #[.ref tp, .int 0 0] }) (o := { cls := .type "enumerate", data := .fields #[.none, .bool false, .ref s.heap.objs.size, rawInt 0, .none, .none] }) rfl
    rw [sz] at q
    exact q
  exact ⟨⟨_, en, rfl⟩, k _ en ⟨_, Heap.get?_push_of_some _ (Heap.get?_push_size _ rfl), rfl, rfl⟩ fun b o x => Heap.get?_push_of_some _ (Heap.get?_push_of_some _ x)⟩
/-- the tuple at a, its items in new pairs with their places -/
def Ityt (K : PySem.W.Frag) (a : Addr) : It :=
  ⟨fun i H => ∃ xs x, SqT K H a xs ∧ xs[i]? = some x, fun i H v H' => ∃ T x, v = .ref T ∧ H T = none ∧ H' = upd H T (.tup [.int (i : Nat), x]) ∧ ∀ xs, SqT K H a xs → xs[i]? = some x, fun i H => ∃ xs, SqT K H a xs ∧ xs.length = i⟩
theorem jsp {P : Program} {w : World} {K : PySem.W.Frag} {elts : List Expr} {kk : Nat} {tpos : Pos} (a e it : Addr) :
    Turn P w K (.Tuple elts kk tpos) (Ityt K a) [e, it] e (fun i h => (∃ old, IsEnum h e it ((i : Nat) : Int) old) ∧ h.IsTupleIter it a i ∧ e ≠ it ∧ a ≠ it ∧ a ≠ e) where
  mem := by simp
  obj := fun i h st b hb => by
    obtain ⟨⟨old, he⟩, ⟨o, ho, hc, hd⟩, _⟩ := st
    rcases (by simpa using hb : b = e ∨ b = it) with rfl | rfl
    · exact ⟨_, he, fun v q => nomatch q⟩
    · exact ⟨o, ho, fun v q => by rw [hd] at q; cases q⟩
  keep := fun i h h' st k => by
    obtain ⟨⟨old, he⟩, hi, r⟩ := st
    exact ⟨⟨old, k e (by simp) _ he⟩, hi.at fun o q => k it (by simp) o q, r⟩
  item := by
    intro X hP hw hK hc i pins s σ H E I hf st hg
    subst hP hw hK
    obtain ⟨⟨old, he⟩, hit, hne, hat, hae⟩ := st
    obtain ⟨xs, x, hq, hx⟩ := hg
    obtain ⟨its, rv, p, hz⟩ := I.tuple hq
    obtain ⟨u, hu, ru⟩ := rv.get hx
    have hel : e < s.heap.objs.size := Heap.lt_size he
    have hil : it < s.heap.objs.size := by
      obtain ⟨_, q, _⟩ := hit
      exact Heap.lt_size q
    have hin : i < its.toArray.size := by
      have := (List.getElem?_eq_some_iff.mp hu).1
      simpa using this
    have hh : X.A.handled = none := I.ok.hd hc
    refine wpAny_pyNext_enum_itemD (Draws.tuple (A := X.A.in1) hh it a hat its.toArray) he ⟨hit, p⟩ hin hne (by simp [hne, Ne.symm hae]) fun y h' tk hy ho hst hT hsz hk => ?_
    have hyu : y = u := by
      have hy : its.toArray[i]? = some y := hy
      rw [show its.toArray[i]? = its[i]? by simp, hu] at hy
      exact (Option.some.inj hy).symm
    subst hyu
    refine ⟨_, rfl, wpAny_letOwnedTupleGo_enum (s := { s with heap := h', toks := tk + 1 }) ho fun h'' he' sb => ?_⟩
    have hT2 : h''.get? s.heap.objs.size = some { cls := .type "tuple", data := .seq #[.int i tk, y] } := (sb.2 _ (Nat.ne_of_gt hel)).trans hT
    have fresh : ObjOk X.prog X.w (upd H s.heap.objs.size (.tup [.int (i : Nat), x])) h'' s.heap.objs.size (.tup [.int (i : Nat), x]) :=
      ⟨by show 2 ≤ sizeLine; decide, [.int i tk, y], .cons ⟨_, rfl⟩ (.cons ru .nil), ⟨_, hT2, rfl, _, rfl⟩⟩
    have J : Inv X pins σ (upd H s.heap.objs.size (.tup [.int (i : Nat), x])) { s with heap := h'', toks := tk + 1 } :=
      I.turnedNew (ch := [e, it]) (fun b o hb q => (sb.2 b (fun z => hb (by simp [z]))).trans (hk b o (fun z => hb (by simp [z])) (fun z => hb (by simp [z])) q)) hf (Nat.le_refl _) fresh
    refine ⟨.ref s.heap.objs.size, _, J, rfl, ⟨_, x, rfl, I.hok.fresh (Nat.le_refl _), rfl, fun ys hy => by rw [I.tuple_inj hy hq]; exact hx⟩, ⟨⟨y, ?_⟩, hst.1.at fun o q => (sb.2 it (Ne.symm hne)).trans q, hne, hat, hae⟩, fun b hb => ?_⟩
    · rw [show ((i + 1 : Nat) : Int) = (i : Int) + 1 by omega]
      exact he'
    · have lt : b < s.heap.objs.size := by
        rcases (by simpa using hb : b = e ∨ b = it) with rfl | rfl
        · exact hel
        · exact hil
      rw [upd_ne (Nat.ne_of_lt lt)]
      exact (hf b hb).1
  done := by
    intro X hP hw hK hc i pins s σ H E I hf st hg
    subst hP hw hK
    obtain ⟨⟨old, he⟩, hit, hne, hat, hae⟩ := st
    obtain ⟨xs, hq, hx⟩ := hg
    obtain ⟨its, rv, p, hz⟩ := I.tuple hq
    obtain ⟨f0, f1, f2, f3, f4, f5⟩ := hf it (by simp)
    have hl := rv.length
    have hh : X.A.handled = none := I.ok.hd hc
    have hi : i = its.toArray.size := by
      rw [← hx, hl]
      simp
    rw [hi] at he hit
    exact wpAny_pyNext_enum_endD (Draws.tuple (A := X.A.in1) hh it a hat its.toArray) he ⟨hit, p⟩ fun h' eb => ⟨rfl, I.turned (t' := s.toks) (fun b o hb q => eb b o hb q) f0 f1 f3 f4 f5⟩
  self := fun A i s Q E st h => by
    obtain ⟨⟨_, he⟩, _⟩ := st
    exact wpAny_pyIter_enum he h
def jtk (K : PySem.W.Frag) (ta : TA) : TI := fun σ H R => ta σ H fun vs H1 => ∃ a xs, vs = [.ref a] ∧ SqT K H1 a xs ∧ R (Ityt K a) H1
theorem jvi {X : Cx} {e : Expr} {ta : TA} {p pos tpos : Pos} {elts : List Expr} {kk : Nat} (hg : Gl X "enumerate") (hm : X.mg "enumerate" = none) (ha : PA X [e] ta) (hs : starEach [e] X.env = [(false, eval e X.env)] := by rfl) :
    PI X (.Tuple elts kk tpos) (.Call (.Name "enumerate" p) [e] [] pos) (jtk X.K ta) := by
  refine ⟨fun pins s σ H R I h => ?_⟩
  refine Call_ (ld_blt I hg hm boot_enumerate (PyProof.Rows.callWith_type1 (thn (ha.run pos pins s σ H _ I h) fun us s1 ⟨vs, H1, I1, r1, a, xs, ex, hq, q⟩ => ?_) hs rfl))
  subst ex
  obtain ⟨u, rfl, ru⟩ := vals1 r1
  obtain rfl : u = Value.ref a := ru
  obtain ⟨its, rv, tup, hz⟩ := I1.tuple hq
  have hal : a < s1.heap.objs.size := tup.lt
  refine jso tup fun h' he hit hk => wpAny_pyIter_enum he ?_
  have J : Inv X pins σ H1 { s1 with heap := h' } := I1.kept (t' := s1.toks) hk
  refine ⟨s1.heap.objs.size + 1, [s1.heap.objs.size + 1, s1.heap.objs.size], _, _, H1, rfl, J, jsp a (s1.heap.objs.size + 1) s1.heap.objs.size, ⟨⟨.none, he⟩, hit, Nat.succ_ne_self _, Nat.ne_of_lt hal, Nat.ne_of_lt (Nat.lt_succ_of_lt hal)⟩, fun b hb => ?_, q⟩
  have le : s1.heap.objs.size ≤ b := by
    rcases (by simpa using hb : b = s1.heap.objs.size + 1 ∨ b = s1.heap.objs.size) with rfl | rfl
    · exact Nat.le_succ _
    · exact Nat.le_refl _
  exact I1.fpOk le (I1.hok.fresh le)
theorem jtl {X : Cx} {K : PySem.W.Frag} {e : Expr} {ta : TA} {p pos tpos : Pos} {elts : List Expr} {kk : Nat} (hg : Gl X "enumerate") (hm : X.mg "enumerate" = none) (ha : PA X [e] ta) (hK : X.K = K := by rfl) (hs : starEach [e] X.env = [(false, eval e X.env)] := by rfl) :
    PI X (.Tuple elts kk tpos) (.Call (.Name "enumerate" p) [e] [] pos) (jtk K ta) := by
  subst hK
  exact jvi hg hm ha hs
theorem jsq {K : PySem.W.Frag} {a : Addr} {xs : List V} : Walk (Ityt K a) xs.length (fun H => SqT K H a xs) (YPair (fun i => some (.int (i : Nat))) (fun i => xs[i]?)) :=
  ⟨fun i _ hi q => ⟨xs, xs[i], q, by simp [hi]⟩, fun _ q => ⟨xs, q, rfl⟩, fun i H v H' _ q ⟨T, x, h1, h2, h3, h4⟩ => ⟨T, .int (i : Nat), x, h1, h2, h3, rfl, h4 xs q⟩⟩
end Ly
namespace Pu
open PySem PySem.Spec PyProof.Rows L2 Ly
section
variable {X : Cx} {K : PySem.W.Frag} {E : XK} {F G L : FE} {N : FA} {T U : FT} {A A' : FA} {e a b c : Expr} {es rest : List Expr} {i : Nat} {pos : Pos}
def fAnd (T U : FT) : FT := fun ρ Q Z => T ρ (fun c => if c = true then U ρ Q Z else Q false) Z
def fOr (T U : FT) : FT := fun ρ Q Z => T ρ (fun c => if c = true then Q true else U ρ Q Z) Z
def fNot (T : FT) : FT := fun ρ Q Z => T ρ (fun c => Q (!c)) Z
theorem d_or1 (h : PT X a (tDB K E T)) : PW X (.BoolOp .Or [a] pos) (tDB K E T) := pw_or1 h
theorem d_or (ha : PT X a (tDB K E T)) (hb : PW X (.BoolOp .Or (b :: rest) pos) (tDB K E U)) : PW X (.BoolOp .Or (a :: b :: rest) pos) (tDB K E (fOr T U)) := (pw_or ha hb).mono fun σ H Qh ⟨W0, H0, W, ρ, Q, Z, st, f, k, x⟩ =>
  ⟨W0, H0, W, ρ, _, Z, st, f, fun c W1 H1 e1 q => by
    cases c with
    | true =>
      rw [if_pos rfl] at q
      exact iteT (k true W1 H1 e1 q)
    | false =>
      rw [if_neg (by decide)] at q
      exact iteF ⟨W0, H0, W1, ρ, Q, Z, st.ext e1, q, fun c W2 H2 e2 q2 => k c W2 H2 (e1.trans e2) q2, x.ext e1⟩, x⟩
theorem d_not (h : PT X a (tDB K E T)) : PT X (.UnaryOp .Not a pos) (tDB K E (fNot T)) := (pt_not h).mono fun σ H Qh ⟨W0, H0, W, ρ, Q, Z, st, f, k, x⟩ => ⟨W0, H0, W, ρ, _, Z, st, f, fun c W1 H1 e1 q => k _ W1 H1 e1 q, x⟩
def fAndV (F G : FE) : FE := fun ρ Q Z => F ρ (fun d => ∃ c, d = .bl c ∧ if c = true then G ρ Q Z else Q (.bl false)) Z
def fOrV (F G : FE) : FE := fun ρ Q Z => F ρ (fun d => ∃ c, d = .bl c ∧ if c = true then Q (.bl true) else G ρ Q Z) Z
def fNotV (F : FE) : FE := fun ρ Q Z => F ρ (fun d => ∃ c, d = .bl c ∧ Q (.bl (!c))) Z
theorem d_one {op : BoolOp} (h : PE X a (tD K E F)) : PE X (.BoolOp op [a] pos) (tD K E F) := pe_one h
theorem jdg (ha : PE X a (tD K E F)) (hb : PE X (.BoolOp .And (b :: rest) pos) (tD K E G)) : PE X (.BoolOp .And (a :: b :: rest) pos) (tD K E (fAndV F G)) := (pe_and ha hb).mono fun σ H Qh ⟨W0, H0, W, ρ, Q, Z, st, f, k, x⟩ =>
  ⟨W0, H0, W, ρ, _, Z, st, f, fun v W1 H1 d e1 r ⟨c, z, q⟩ => by
    subst z
    cases r
    refine ⟨c, rfl, ?_⟩
    cases c with
    | true =>
      rw [if_pos rfl] at q
      exact iteT ⟨W0, H0, W1, ρ, Q, Z, st.ext e1, q, fun c W2 H2 d e2 r2 q2 => k c W2 H2 d (e1.trans e2) r2 q2, x.ext e1⟩
    | false =>
      rw [if_neg (by decide)] at q
      exact iteF (k _ W1 H1 _ e1 (.bl _) q), x⟩
theorem d_orV (ha : PE X a (tD K E F)) (hb : PE X (.BoolOp .Or (b :: rest) pos) (tD K E G)) : PE X (.BoolOp .Or (a :: b :: rest) pos) (tD K E (fOrV F G)) := (pe_or ha hb).mono fun σ H Qh ⟨W0, H0, W, ρ, Q, Z, st, f, k, x⟩ =>
  ⟨W0, H0, W, ρ, _, Z, st, f, fun v W1 H1 d e1 r ⟨c, z, q⟩ => by
    subst z
    cases r
    refine ⟨c, rfl, ?_⟩
    cases c with
    | true =>
      rw [if_pos rfl] at q
      exact iteT (k _ W1 H1 _ e1 (.bl _) q)
    | false =>
      rw [if_neg (by decide)] at q
      exact iteF ⟨W0, H0, W1, ρ, Q, Z, st.ext e1, q, fun c W2 H2 d e2 r2 q2 => k c W2 H2 d (e1.trans e2) r2 q2, x.ext e1⟩, x⟩
theorem d_notV (ha : PE X a (tD K E F)) : PE X (.UnaryOp .Not a pos) (tD K E (fNotV F)) := (pe_not ha).mono fun σ H Qh ⟨W0, H0, W, ρ, Q, Z, st, f, k, x⟩ =>
  ⟨W0, H0, W, ρ, _, Z, st, f, fun v W1 H1 d e1 r ⟨c, z, q⟩ => by
    subst z
    cases r
    exact ⟨c, rfl, k _ W1 H1 _ e1 (.bl _) q⟩, x⟩
def fIf (T : FT) (F G : FE) : FE := fun ρ Q Z => T ρ (fun c => if c = true then F ρ Q Z else G ρ Q Z) Z
theorem d_if (hc : PT X c (tDB K E T)) (ha : PE X a (tD K E F)) (hb : PE X b (tD K E G)) : PE X (.IfExp c a b pos) (tD K E (fIf T F G)) := (pe_ifExp hc ha hb).mono fun σ H Qh ⟨W0, H0, W, ρ, Q, Z, st, f, k, x⟩ =>
  ⟨W0, H0, W, ρ, _, Z, st, f, fun c W1 H1 e1 q => by
    cases c with
    | true =>
      rw [if_pos rfl] at q
      exact iteT ⟨W0, H0, W1, ρ, Q, Z, st.ext e1, q, fun c W2 H2 d e2 r2 q2 => k c W2 H2 d (e1.trans e2) r2 q2, x.ext e1⟩
    | false =>
      rw [if_neg (by decide)] at q
      exact iteF ⟨W0, H0, W1, ρ, Q, Z, st.ext e1, q, fun c W2 H2 d e2 r2 q2 => k c W2 H2 d (e1.trans e2) r2 q2, x.ext e1⟩, x⟩
def jaf (R R' : D → D → (D → Prop) → Prop) (F G L : FE) : FE := fun ρ Q Z => F ρ (fun a => G ρ (fun b => R a b fun z => ∃ k, z = .bl k ∧ if k = true then L ρ (fun c => R' b c Q) Z else Q (.bl false)) Z) Z
theorem jrP {r r' : R2} {R R' : D → D → (D → Prop) → Prop} (hR : RSnd K r R) (hR' : RSnd K r' R') {σ : L2.St} {H : Hp} {Qh : VK} (h : tD K E (jaf R R' F G L) σ H Qh) : tChain r r' (tDT K E F) (tDT K E G) (tDT K E L) σ H Qh := by
  obtain ⟨W0, H0, W, ρ, Q, Z, st, f, k, x⟩ := h
  refine ⟨W0, H0, W, ρ, _, Z, st, f, fun v W1 H1 d e1 r1 g => ?_, x⟩
  refine ⟨W0, H0, W1, ρ, _, Z, st.ext e1, g, fun v2 W2 H2 d2 e2 r2 q => ?_, x.ext e1⟩
  refine hR W2 H2 v v2 d d2 _ _ e2.s (r1.ext e2) r2 q fun v3 W3 H3 d3 e3 r3 ⟨kk, z, q3⟩ => ?_
  subst z
  cases r3
  refine ⟨kk, rfl, ?_⟩
  cases kk with
  | true =>
    rw [if_pos rfl] at q3
    refine iteT ⟨W0, H0, W3, ρ, _, Z, st.ext ((e1.trans e2).trans e3), q3, fun v4 W4 H4 d4 e4 r4 q4 => ?_, x.ext ((e1.trans e2).trans e3)⟩
    exact hR' W4 H4 _ _ _ _ _ _ e4.s (r2.ext (e3.trans e4)) r4 q4 fun v5 W5 H5 d5 e5 r5 q5 => k v5 W5 H5 d5 ((((e1.trans e2).trans e3).trans e4).trans e5) r5 q5
  | false =>
    rw [if_neg (by decide)] at q3
    exact iteF (k _ W3 H3 _ ((e1.trans e2).trans e3) (.bl _) q3)
theorem jqM {op op' : CmpOp} {r r' : R2} {R R' : D → D → (D → Prop) → Prop} (ho : OpR X (compareOp op) r) (ho' : OpR X (compareOp op') r') (hR : RSnd K r R) (hR' : RSnd K r' R') (ha : PE X a (tDT K E F)) (hb : PE X b (tDT K E G)) (hc : PE X c (tDT K E L))
    (hm : lastMarks [op, op'] [b, c] = false := by with_unfolding_all rfl) : PE X (.Compare a [op, op'] [b, c] pos) (tD K E (jaf R R' F G L)) := (pe_chain ho ho' ha hb hc hm).mono fun _ _ _ h => jrP hR hR' h
theorem jvj {op op' : CmpOp} {r r' : R2} {R R' : D → D → (D → Prop) → Prop} (ho : OpR X (compareOp op) r) (ho' : OpR X (compareOp op') r') (hR : RSnd K r R) (hR' : RSnd K r' R') (ha : PE X a (tDT K E F)) (hb : PE X b (tDT K E G)) (hc : PE X c (tDT K E L))
    (hm : lastMarks [op, op'] [b, c] = false := by with_unfolding_all rfl) : PT X (.Compare a [op, op'] [b, c] pos) (tDB K E (fTst (jaf R R' F G L))) := (pt_chain ho ho' ha hb hc hm).mono fun _ _ _ h => jrP hR hR' (jti h)
def fNeg (F : FE) : FE := fun ρ Q Z => F ρ (fun d => ∃ i, d = .int i ∧ Q (.int (-i))) Z
theorem d_neg (h : PE X a (tD K E F)) : PE X (.UnaryOp .USub a pos) (tD K E (fNeg F)) := (pe_un un_neg h).mono fun σ H Qh ⟨W0, H0, W, ρ, Q, Z, st, f, k, x⟩ => ⟨W0, H0, W, ρ, _, Z, st, f, fun v W1 H1 d e1 r ⟨i, z, q⟩ => by
  subst z
  cases r
  exact ⟨i, rfl, k _ W1 H1 _ e1 (.int _) q⟩, x⟩
def fNil : FA := fun _ Q _ => Q []
def fCons (F : FE) (A : FA) : FA := fun ρ Q Z => F ρ (fun d => A ρ (fun ds => Q (d :: ds)) Z) Z
def fStar (F : FE) (A : FA) : FA := fun ρ Q Z => F ρ (fun d => ∃ xs, seqD d = some xs ∧ A ρ (fun ds => Q (xs ++ ds)) Z) Z
theorem d_nil : PA X [] (tDA K E fNil) := pa_nil.mono fun σ H Qh ⟨W0, H0, W, ρ, Q, Z, st, f, k, x⟩ => k [] W H [] (Ex.refl st.see) .nil f
theorem jby : PA X [] (tDAT K E fNil) := pa_nil.mono fun σ H Qh ⟨W0, H0, W, ρ, Q, Z, st, f, k, x⟩ => k [] W H [] (Ex.refl st.see) .nil f
theorem jaa (ha : PE X e (tD K E F)) (hr : PA X es (tDA K E A)) (hs : starEach (e :: es) X.env = (false, eval e X.env) :: starEach es X.env := by rfl) : PA X (e :: es) (tDA K E (fCons F A)) := (pa_cons ha hr hs).mono fun σ H Qh ⟨W0, H0, W, ρ, Q, Z, st, f, k, x⟩ =>
  ⟨W0, H0, W, ρ, _, Z, st, f, fun v W1 H1 d e1 r q => ⟨W0, H0, W1, ρ, _, Z, st.ext e1, q, fun vs W2 H2 ds e2 rs q2 => k _ W2 H2 _ (e1.trans e2) (.cons (r.gx e2.w) rs) q2, x.ext e1⟩, x⟩
theorem jaE (ha : PE X e (tDT K E F)) (hr : PA X es (tDAT K E A)) (hs : starEach (e :: es) X.env = (false, eval e X.env) :: starEach es X.env := by rfl) : PA X (e :: es) (tDAT K E (fCons F A)) := (pa_cons ha hr hs).mono fun σ H Qh ⟨W0, H0, W, ρ, Q, Z, st, f, k, x⟩ =>
  ⟨W0, H0, W, ρ, _, Z, st, f, fun v W1 H1 d e1 r q => ⟨W0, H0, W1, ρ, _, Z, st.ext e1, q, fun vs W2 H2 ds e2 rs q2 => k _ W2 H2 _ (e1.trans e2) (.cons (r.ext e2) rs) q2, x.ext e1⟩, x⟩
theorem d_star {p : Pos} (he : PE X e (tDT K E F)) (hr : PA X es (tDA K E A)) (hK : X.K = K := by rfl) (hs : starEach (.Starred e p :: es) X.env = (true, eval e X.env) :: starEach es X.env := by rfl) : PA X (.Starred e p :: es) (tDA K E (fStar F A)) := (jvh he hr hK hs).mono fun σ H Qh ⟨W0, H0, W, ρ, Q, Z, st, f, k, x⟩ =>
  ⟨W0, H0, W, ρ, _, Z, st, f, fun v W1 H1 d e1 r ⟨xs, hd, q⟩ => by
    obtain ⟨a, vs, h1, h2, h3, h4⟩ := r.seq_inv e1.s hd
    exact ⟨a, vs, h1, h2.symm, W0, H0, W1, ρ, _, Z, st.ext e1, q, fun us W2 H2 ds e2 rs q2 => k _ W2 H2 _ (e1.trans e2) ((h3.gx e2.w).app rs) q2, x.ext e1⟩, x⟩
def fTup (A : FA) : FE := fun ρ Q Z => A ρ (fun ds => ds.length ≤ sizeLine ∧ Q (.tup ds)) Z
def fLst (A : FA) : FA := fun ρ Q Z => A ρ (fun ds => ds.length ≤ sizeLine ∧ Q ds) Z
theorem d_tup {x1} (h : PA X es (tDA K E A)) : PE X (.Tuple es x1 pos) (tD K E (fTup A)) := (pe_tup h).mono fun σ H Qh ⟨W0, H0, W, ρ, Q, Z, st, f, k, x⟩ => ⟨W0, H0, W, ρ, _, Z, st, f, fun vs W1 H1 ds e1 r ⟨n, q⟩ =>
  ⟨by rw [r.len]; exact n, fun p hp => k _ _ _ _ (e1.trans (Ex.new e1.s hp)) (.tup upd_same (r.gx (Gx.new (e1.s.free hp))) (by rw [r.len]; exact n)) q⟩, x⟩
theorem d_lst (h : PA X es (tDA K E A)) : PE X (.List es pos) (tDN K E (fLst A)) := (pe_lst h).mono fun σ H Qh ⟨W0, H0, W, ρ, Q, Z, st, f, k, x⟩ => ⟨W0, H0, W, ρ, _, Z, st, f, fun vs W1 H1 ds e1 r ⟨n, q⟩ =>
  ⟨by rw [r.len]; exact n, fun p hp => k p vs W1 _ ds (e1.trans (Ex.hid e1.s hp)) (e1.h.free hp) (e1.s.free hp) upd_same r (by rw [r.len]; exact n) q⟩, x⟩
abbrev FO := Env → (Option Int → Prop) → ZX → Prop
def tDO (K : PySem.W.Frag) (E : XK) (O : FO) : TO := fun σ H Qh => ∃ W0 H0 W ρ Q Z, Sat K W0 H0 W ρ σ H ∧ O ρ Q Z ∧ (∀ o W' H', Ex W H W' H' → Q o → Qh o H') ∧ XC K E W H Z
def oNo : FO := fun _ Q _ => Q none
def oAt (F : FE) : FO := fun ρ Q Z => F ρ (fun d => ∃ i, d = .int i ∧ Q (some i)) Z
theorem _root_.L2.PO.mono {X : Cx} {e : Option Expr} {t u : TO} (h : PO X e t) (m : ∀ σ H Q, u σ H Q → t σ H Q) : PO X e u := ⟨fun pins s σ H Q I q => h.run pins s σ H Q I (m _ _ _ q)⟩
theorem d_ono : PO X none (tDO K E oNo) := po_none.mono fun σ H Qh ⟨W0, H0, W, ρ, Q, Z, st, f, k, x⟩ => k none W H (Ex.refl st.see) f
theorem d_oat (h : PE X e (tD K E F)) : PO X (some e) (tDO K E (oAt F)) := (po_some h).mono fun σ H Qh ⟨W0, H0, W, ρ, Q, Z, st, f, k, x⟩ => ⟨W0, H0, W, ρ, _, Z, st, f, fun v W1 H1 d e1 r ⟨i, z, q⟩ => by
  subst z
  cases r
  exact ⟨i, rfl, k _ W1 H1 e1 q⟩, x⟩
def cutD (xs : List D) (lo hi : Option Int) : List D := (xs.drop (HT.sIx xs.length 0 lo)).take (HT.sIx xs.length xs.length hi - HT.sIx xs.length 0 lo)
theorem RepAll.cut {W : Hp} {vs : List V} {ds : List D} (h : RepAll K W vs ds) (lo hi : Option Int) : RepAll K W (cutV vs lo hi) (cutD ds lo hi) := by
  unfold cutV cutD
  rw [h.len]
  exact (h.drop _).take _
def RSl (a : D) (lo hi : Option Int) (Q : D → Prop) : Prop := match a with
  | .lst ds => Q (.lst (cutD ds lo hi))
  | .tup ds => Q (.tup (cutD ds lo hi))
  | .str z => z.length ≤ sizeLine ∧ Q (.str (Txt.slice z lo hi))
  | _ => False
def rSlAll (K : PySem.W.Frag) : V → Option Int → Option Int → Hp → VK → Prop := fun x lo hi H Q => (rSlL K x lo hi H Q ∨ rSlA K x lo hi H Q) ∨ C8.rSlX x lo hi H Q
theorem sl_All (hK : X.K = K := by rfl) : SlR X (rSlAll K) := by
  subst hK
  exact SlR.or (SlR.or sl_list sl_tupA) C8.sl_txt
def fSl (F : FE) (O P : FO) : FE := fun ρ Q Z => F ρ (fun a => O ρ (fun lo => P ρ (fun hi => RSl a lo hi Q) Z) Z) Z
theorem jtm {α : Type} {n : Nat} (xs : List α) (hn : xs.length = n) (lo hi : Option Int) (h : HT.sIx n 0 lo = 0 ∧ HT.sIx n n hi = n) : (xs.drop (HT.sIx n 0 lo)).take (HT.sIx n n hi - HT.sIx n 0 lo) = xs := by
  rw [h.1, h.2, List.drop_zero, Nat.sub_zero, List.take_of_length_le (by omega)]
theorem jtn {lo hi : Option Expr} {O P : FO} {p2 : Pos} (he : PE X e (tDT K E F)) (hl : PO X lo (tDO K E O)) (hu : PO X hi (tDO K E P)) (hK : X.K = K := by rfl) : PE X (.Subscript e (.Slice lo hi none p2) pos) (tD K E (fSl F O P)) := (pe_slice (sl_All hK) he hl hu).mono fun σ H Qh ⟨W0, H0, W, ρ, Q, Z, st, f, k, x⟩ => by
  refine ⟨W0, H0, W, ρ, _, Z, st, f, fun v W1 H1 d e1 r1 q1 => ?_, x⟩
  refine ⟨W0, H0, W1, ρ, _, Z, st.ext e1, q1, fun lo W2 H2 e2 q2 => ?_, x.ext e1⟩
  refine ⟨W0, H0, W2, ρ, _, Z, st.ext (e1.trans e2), q2, fun hi W3 H3 e3 q3 => ?_, x.ext (e1.trans e2)⟩
  have e13 := (e1.trans e2).trans e3
  have r3 := r1.ext (e2.trans e3)
  cases d with
  | lst ds =>
    obtain ⟨p, vs, h1, h2, h3, h4⟩ := r3.lst_inv e3.s
    exact .inl (.inl ⟨p, vs, h1, SqL.of h2, fun q hq => k _ _ _ _ (e13.trans (Ex.new e3.s hq)) (.lst upd_same ((h3.cut lo hi).gx (Gx.new (e3.s.free hq))) (Nat.le_trans (cutV_length _ _ _) h4)) q3⟩)
  | tup ds =>
    obtain ⟨p, vs, h1, h2, h3, h4⟩ := r3.tup_inv e3.s
    refine .inl (.inr ⟨p, vs, h1, h2, fun z => ?_, fun _ q hq => k _ _ _ _ (e13.trans (Ex.new e3.s hq)) (.tup upd_same ((h3.cut lo hi).gx (Gx.new (e3.s.free hq))) (Nat.le_trans (cutV_length _ _ _) h4)) q3⟩)
    have z2 : cutD ds lo hi = ds := by
      unfold cutD
      rw [h3.len] at z
      exact jtm ds rfl lo hi z
    have q3 : Q (.tup (cutD ds lo hi)) := q3
    rw [z2] at q3
    cases r3 with
    | val r3 =>
      subst h1
      exact k _ W3 H3 _ e13 r3 q3
  | str z => exact .inr ⟨z, r3.str_inv, q3.1, k _ W3 H3 _ e13 (.str _) q3.2⟩
  | _ => exact False.elim q3
def lookD : List Str → List D → Str → Option D
  | n :: ns, d :: ds, f => if f == n then some d else lookD ns ds f
  | _, _, _ => none
theorem jww {W : Hp} {f : Str} {d : D} : ∀ {fs : List (Str × V)} {ds : List D}, RepAll K W (fs.map Prod.snd) ds → lookD (fs.map Prod.fst) ds f = some d → ∃ v, fs.lookup f = some v ∧ Rep K W v d
  | [], _, _, h => by cases h
  | (n, v) :: fs, d' :: ds, .cons r rs, h => by
    simp only [List.map_cons, lookD] at h
    rw [List.lookup_cons]
    cases q : f == n with
    | true =>
      rw [q, if_pos rfl] at h
      cases h
      exact ⟨v, rfl, r⟩
    | false =>
      rw [q, if_neg (by decide)] at h
      exact jww rs h
end
end Pu
namespace Pu
open PySem PySem.Spec PyProof.Rows L2 Ly RZ
/-- J walks ds while what is seen stays -/
def IterF (K : PySem.W.Frag) (W : Hp) (J : It) (ds : List D) : Prop := ∃ G Y, Walk J ds.length G Y ∧ (∀ H3, Gx W H3 → G H3) ∧
  ∀ i H3 x H4 W3, i < ds.length → Gx W W3 → Gx W3 H3 → Y i H3 x H4 → ∃ W4 d, ds[i]? = some d ∧ Ex W3 H3 W4 H4 ∧ Rep K W4 x d
/-- .. while all of the heap stays -/
def IterC (K : PySem.W.Frag) (W H : Hp) (J : It) (ds : List D) : Prop := ∃ G Y, Walk J ds.length G Y ∧ (∀ H3, Gx H H3 → G H3) ∧
  ∀ i H3 x H4 W3, i < ds.length → Gx H H3 → Gx W W3 → Gx W3 H3 → Y i H3 x H4 → ∃ W4 d, ds[i]? = some d ∧ Ex W3 H3 W4 H4 ∧ Rep K W4 x d
def tDI (K : PySem.W.Frag) (E : XK) (A : FA) : TI := fun σ H R => ∃ W0 H0 W ρ Q Z, Sat K W0 H0 W ρ σ H ∧ A ρ Q Z ∧ (∀ J W' H' ds, Ex W H W' H' → IterC K W' H' J ds → Q ds → R J H') ∧ XC K E W H Z
def tDF (K : PySem.W.Frag) (E : XK) (A : FA) : TI := fun σ H R => ∃ W0 H0 W ρ Q Z, Sat K W0 H0 W ρ σ H ∧ A ρ Q Z ∧ (∀ J W' H' ds, Ex W H W' H' → IterF K W' J ds → Q ds → R J H') ∧ XC K E W H Z
theorem _root_.L2.PI.mono {X : Cx} {tg e : Expr} {t u : TI} (h : PI X tg e t) (m : ∀ σ H R, u σ H R → t σ H R) : PI X tg e u := ⟨fun pins s σ H Q I q => h.run pins s σ H Q I (m _ _ _ q)⟩
section
variable {X : Cx} {K : PySem.W.Frag} {E : XK} {F G L : FE} {T U : FT} {A : FA} {tg e a b : Expr} {es : List Expr} {pos : Pos}
theorem jsr {W H : Hp} {p : Addr} {vs : List V} {ds : List D} (h : H p = some (.lst vs)) (r : RepAll K W vs ds) : IterC K W H (Itl K p) ds :=
  ⟨fun H => SqL K H p vs, YAt vs, by rw [← r.len]; exact walk_list, fun H3 e => SqL.of (e _ _ h), fun i H3 x H4 W3 hi _ e s y => by
    obtain ⟨rfl, hx⟩ := y
    obtain ⟨d, h1, h2⟩ := r.get hx
    exact ⟨W3, d, h1, Ex.refl s, h2.gx e⟩⟩
theorem jvk {W : Hp} {p : Addr} {vs : List V} {ds : List D} (h : SqT K W p vs) (r : RepAll K W vs ds) : IterF K W (Itt K p) ds :=
  ⟨fun H => SqT K H p vs, YAt vs, by rw [← r.len]; exact walk_tup, fun H3 e => e.t h, fun i H3 x H4 W3 hi e s y => by
    obtain ⟨rfl, hx⟩ := y
    obtain ⟨d, h1, h2⟩ := r.get hx
    exact ⟨W3, d, h1, Ex.refl s, h2.gx e⟩⟩
def jiM (z : Str) : List D := z.cps.toList.map fun c => .str ⟨#[c]⟩
theorem jvl {W : Hp} {z : Str} : IterF K W (Its z) (jiM z) :=
  ⟨_, _, by unfold jiM; rw [List.length_map, Array.length_toList]; exact walk_str (z := z), fun _ _ => trivial, fun i H3 x H4 W3 hi e s y => by
    obtain ⟨rfl, c, hc, rfl⟩ := y
    exact ⟨W3, .str ⟨#[c]⟩, by unfold jiM; rw [List.getElem?_map]; simp [hc], Ex.refl s, .str _⟩⟩
theorem IterF.c {W H : Hp} {J : It} {ds : List D} (s : Gx W H) (h : IterF K W J ds) : IterC K W H J ds := by
  obtain ⟨G, Y, h1, h2, h3⟩ := h
  exact ⟨G, Y, h1, fun H3 e => h2 H3 (s.trans e), fun i H3 x H4 W3 hi _ => h3 i H3 x H4 W3 hi⟩
def iAny (K : PySem.W.Frag) (tl : TE) : TI := fun σ H R => tl σ H fun x H1 => (∃ a, x = .ref a ∧ (∃ xs, SqL K H1 a xs) ∧ R (Itl K a) H1) ∨ (∃ a, x = .ref a ∧ (∃ xs, SqT K H1 a xs) ∧ R (Itt K a) H1) ∨ ∃ z, x = .str z ∧ R (Its z) H1
theorem pi_any {l : Expr} {tl : TE} (hl : PE X l tl) (hK : X.K = K := by rfl) : PI X tg l (iAny K tl) := by
  subst hK
  refine ⟨fun pins s σ H R I h => ?_⟩
  refine thn (hl.run pins s σ H _ I h) fun v s1 ⟨x, H1, I1, r1, q1⟩ => ?_
  rcases q1 with ⟨a, e, ⟨xs, hq⟩, q⟩ | ⟨a, e, ⟨xs, hq⟩, q⟩ | ⟨z, e, q⟩
  · subst e
    cases r1
    obtain ⟨its, rv, p, hz⟩ := I1.list hq
    refine wpAny_pyIter_list p.isList ?_
    refine ⟨s1.heap.objs.size, [s1.heap.objs.size], _, _, H1, rfl, I1.kept (t' := s1.toks) fun b o e => Heap.get?_push_of_some _ e, turn_list a _, ⟨_, Heap.get?_push_size _ rfl, rfl, rfl⟩, fun b hb => ?_, q⟩
    have e : b = s1.heap.objs.size := by simpa using hb
    subst e
    exact I1.fpOk (Nat.le_refl _) (I1.hok.fresh (Nat.le_refl _))
  · subst e
    cases r1
    obtain ⟨its, rv, p, hz⟩ := I1.tuple hq
    refine wpAny_pyIter_tuple (show s1.heap.IsTuple a its.toArray from p) ?_
    refine ⟨s1.heap.objs.size, [s1.heap.objs.size], _, _, H1, rfl, I1.kept (t' := s1.toks) fun b o e => Heap.get?_push_of_some _ e, turn_tuple a _, ⟨_, Heap.get?_push_size _ rfl, rfl, rfl⟩, fun b hb => ?_, q⟩
    have e : b = s1.heap.objs.size := by simpa using hb
    subst e
    exact I1.fpOk (Nat.le_refl _) (I1.hok.fresh (Nat.le_refl _))
  · subst e
    obtain ⟨t, rfl⟩ := r1
    cases ha : z.cps.all (· < 128)
    · exact wpAny_pyIter_wide ha (pi_one (tk := s1.toks) I1 _ (turn_str _ z t "str_iterator" (.inr rfl)) ⟨_, Heap.get?_push_size _ rfl, rfl, rfl⟩ q)
    · exact wpAny_pyIter_ascii ha (pi_one (tk := s1.toks) I1 _ (turn_str _ z t "str_ascii_iterator" (.inl rfl)) ⟨_, Heap.get?_push_size _ rfl, rfl, rfl⟩ q)
/-- the items of what is walked -/
def itD : D → Option (List D)
  | .lst ds => some ds
  | .tup ds => some ds
  | .str z => if z.length ≤ sizeLine then some (jiM z) else none
  | _ => none
def fIt (F : FE) : FA := fun ρ Q Z => F ρ (fun d => ∃ ds, itD d = some ds ∧ Q ds) Z
theorem d_itC (h : PE X e (tDT K E F)) (hK : X.K = K := by rfl) : PI X tg e (tDI K E (fIt F)) := (pi_any h hK).mono fun σ H R ⟨W0, H0, W, ρ, Q, Z, st, f, k, x⟩ => ⟨W0, H0, W, ρ, _, Z, st, f, fun v W1 H1 d e1 r ⟨ds, hd, q⟩ => (by
  cases d with
  | lst es =>
    cases hd
    obtain ⟨p, vs, h1, h2, h3, h4⟩ := r.lst_inv e1.s
    exact .inl ⟨p, h1, ⟨vs, SqL.of h2⟩, k _ W1 H1 _ e1 (jsr h2 h3) q⟩
  | tup es =>
    cases hd
    cases r with
    | val r =>
      obtain ⟨_, _, rfl, h2, h3, h4⟩ := r.tupW
      exact .inr (.inl ⟨_, rfl, ⟨_, e1.s.t h2⟩, k _ W1 H1 _ e1 ((jvk h2 h3).c e1.s) q⟩)
  | str z =>
    have hd : (if z.length ≤ sizeLine then some (jiM z) else none) = some ds := hd
    by_cases hz : z.length ≤ sizeLine
    · rw [if_pos hz] at hd
      cases hd
      exact .inr (.inr ⟨z, r.str_inv, k _ W1 H1 _ e1 (jvl.c e1.s) q⟩)
    · rw [if_neg hz] at hd
      cases hd
  | _ => cases hd), x⟩
/-- ranges -/
def rngD (lo : Int) (c : Int) (n : Nat) : List D := (List.range n).map fun k => .int (lo + (k : Nat) * c)
def fRng1 (A : FA) : FA := fun ρ Q Z => A ρ (fun as => ∃ j, as = [.int j] ∧ (-1000000 ≤ j ∧ j ≤ 1000000) ∧ Q (rngD 0 1 j.toNat)) Z
theorem jvm {W : Hp} {lo : Int} {n : Nat} : IterF K W (Itr lo n) (rngD lo 1 n) :=
  ⟨_, _, by unfold rngD; rw [List.length_map, List.length_range]; exact walk_range (lo := lo) (n := n), fun _ _ => trivial, fun i H3 x H4 W3 hi e s y => by
    obtain ⟨rfl, rfl⟩ := y
    have hi : i < n := by
      unfold rngD at hi
      rw [List.length_map, List.length_range] at hi
      exact hi
    refine ⟨W3, .int (lo + (i : Nat) * 1), by unfold rngD; rw [List.getElem?_map, List.getElem?_range hi]; rfl, Ex.refl s, ?_⟩
    rw [Int.mul_one]
    exact .int _⟩
theorem ints1 {W : Hp} {vs : List V} {i : Int} (r : RepAll K W vs [.int i]) : vs = [.int i] := by
  cases r with
  | cons r rs => cases r; cases rs; rfl
/-- what a for may walk, a comprehension may -/
theorem df_di {σ : L2.St} {H : Hp} {R : It → Hp → Prop} (h : tDI K E A σ H R) : tDF K E A σ H R := by
  obtain ⟨W0, H0, W, ρ, Q, Z, st, f, k, x⟩ := h
  exact ⟨W0, H0, W, ρ, Q, Z, st, f, fun J W' H' ds e i q => k J W' H' ds e (i.c e.s) q, x⟩
theorem d_fc (h : PI X tg e (tDF K E A)) : PI X tg e (tDI K E A) := h.mono fun _ _ _ q => df_di q
/-- pairs -/
def jdF : List D → List D → List D
  | a :: as, b :: bs => .tup [a, b] :: jdF as bs
  | _, _ => []
theorem jew : ∀ as bs : List D, (jdF as bs).length = min as.length bs.length
  | [], _ => by simp [jdF]
  | _ :: _, [] => by simp [jdF]
  | a :: as, b :: bs => by simp [jdF, jew as bs]
theorem jgu : ∀ (as bs : List D) (i : Nat) (a b : D), as[i]? = some a → bs[i]? = some b → (jdF as bs)[i]? = some (.tup [a, b])
  | [], _, _, _, _, h, _ => by simp at h
  | _ :: _, [], _, _, _, _, h => by simp at h
  | a :: as, b :: bs, 0, x, y, h, h2 => by simp at h h2; subst h; subst h2; rfl
  | a :: as, b :: bs, i + 1, x, y, h, h2 => by
    rw [jdF, List.getElem?_cons_succ]
    exact jgu as bs i x y (by simpa using h) (by simpa using h2)
theorem jmG {W3 H3 H4 : Hp} {x : V} {T : Addr} {v w : V} {a b : D} (s : Gx W3 H3) (hx : x = .ref T) (hT : H3 T = none) (h4 : H4 = upd H3 T (.tup [v, w])) (r1 : Rep K W3 v a) (r2 : Rep K W3 w b) : ∃ W4, Ex W3 H3 W4 H4 ∧ Rep K W4 x (.tup [a, b]) := by
  subst h4
  subst hx
  have e := Gx.new (o := .tup [v, w]) (s.free hT)
  exact ⟨_, Ex.new s hT, .tup upd_same (.cons (r1.gx e) (.cons (r2.gx e) .nil)) (by show 2 ≤ sizeLine; decide)⟩
/-- zip of two lists or of two tuples -/
def fZip (A : FA) : FA := fun ρ Q Z => A ρ (fun as => ∃ xs ys, (as = [.lst xs, .lst ys] ∨ as = [.tup xs, .tup ys]) ∧ Q (jdF xs ys)) Z
theorem zip_to {σ : L2.St} {H : Hp} {R : It → Hp → Prop} (h : tDF K E (fZip A) σ H R) : iZipA K (tDA K E A) σ H R := by
  obtain ⟨W0, H0, W, ρ, Q, Z, st, f, k, x⟩ := h
  refine ⟨W0, H0, W, ρ, _, Z, st, f, fun vs W1 H1 ds e1 r ⟨xs, ys, z, q⟩ => ?_, x⟩
  rcases z with z | z
  · subst z
    cases r with
    | cons r1 r =>
      cases r with
      | cons r2 r =>
        cases r
        cases r1 with
        | lst h1 h2 h3 =>
          cases r2 with
          | lst h4 h5 h6 =>
            refine ⟨_, _, _, _, rfl, .inl ⟨SqL.of (e1.s _ _ h1), SqL.of (e1.s _ _ h4), k _ W1 H1 _ e1 ⟨_, _, walk_zip (by rw [jew, h2.len, h5.len]), fun H3 e => ⟨SqL.of (e _ _ h1), SqL.of (e _ _ h4)⟩, fun i H3 x H4 W3 hi e s y => ?_⟩ q⟩⟩
            obtain ⟨T, v, w, y1, y2, y3, y4, y5⟩ := y
            obtain ⟨a, g1, g2⟩ := h2.get y4
            obtain ⟨b, g3, g4⟩ := h5.get y5
            obtain ⟨W4, g5, g6⟩ := jmG s y1 y2 y3 (g2.gx e) (g4.gx e)
            exact ⟨W4, _, jgu _ _ i _ _ g1 g3, g5, g6⟩
  · subst z
    cases r with
    | cons r1 r =>
      cases r with
      | cons r2 r =>
        cases r
        obtain ⟨a1, us, rfl, h1, h2, h3⟩ := r1.tupW
        · skip
          obtain ⟨a2, ws, rfl, h4, h5, h6⟩ := r2.tupW
          · skip
            refine ⟨_, _, _, _, rfl, .inr ⟨e1.s.t h1, e1.s.t h4, k _ W1 H1 _ e1 ⟨fun H => SqT K H _ us ∧ SqT K H _ ws, YPair (fun i => us[i]?) (fun i => ws[i]?), ⟨fun i H hi q => ?_, fun H q => ?_, fun i H v H' hi q y => ?_⟩, fun H3 e => ⟨e.t h1, e.t h4⟩, fun i H3 x H4 W3 hi e s y => ?_⟩ q⟩⟩
            · rw [jew, ← h2.len, ← h5.len] at hi
              have g1 : i < us.length := by omega
              have g2 : i < ws.length := by omega
              exact ⟨us, ws, us[i], ws[i], q.1, q.2, by simp [g1], by simp [g2]⟩
            · rw [jew, ← h2.len, ← h5.len]
              exact ⟨us, ws, q.1, q.2, by omega⟩
            · obtain ⟨T, x, z, g1, g2, g3, g4, g5⟩ := y
              exact ⟨T, x, z, g1, g2, g3, g4 us q.1, g5 ws q.2⟩
            · obtain ⟨T, v, w, y1, y2, y3, y4, y5⟩ := y
              obtain ⟨a, g1, g2⟩ := h2.get y4
              obtain ⟨b, g3, g4⟩ := h5.get y5
              obtain ⟨W4, g5, g6⟩ := jmG s y1 y2 y3 (g2.gx e) (g4.gx e)
              exact ⟨W4, _, jgu _ _ i _ _ g1 g3, g5, g6⟩
theorem d_zip {p tpos : Pos} {elts : List Expr} {kk : Nat} (hg : Gl X "zip") (hm : X.mg "zip" = none) (ha : PA X [a, b] (tDA K E A)) (hK : X.K = K := by rfl) (hs : starEach [a, b] X.env = (false, eval a X.env) :: starEach [b] X.env := by rfl) (hpl : (backTo pos (starEach [b] X.env)).any (·.1) = false := by rfl) :
    PI X (.Tuple elts kk tpos) (.Call (.Name "zip" p) [a, b] [] pos) (tDF K E (fZip A)) := by
  subst hK
  exact (pi_zipA hg hm ha hs hpl).mono fun _ _ _ h => zip_to h
/-- enumerate of a tuple -/
def enumD (i : Nat) : List D → List D
  | [] => []
  | d :: ds => .tup [.int (i : Nat), d] :: enumD (i + 1) ds
theorem jiN : ∀ (ds : List D) (i : Nat), (enumD i ds).length = ds.length
  | [], _ => rfl
  | d :: ds, i => by rw [enumD, List.length_cons, List.length_cons, jiN ds]
theorem joH : ∀ (ds : List D) (j i : Nat) (d : D), ds[i]? = some d → (enumD j ds)[i]? = some (.tup [.int ((j + i : Nat) : Int), d])
  | [], _, _, _, h => by simp at h
  | d :: ds, j, 0, x, h => by simp at h; subst h; rfl
  | d :: ds, j, i + 1, x, h => by
    rw [enumD, List.getElem?_cons_succ, joH ds (j + 1) i x (by simpa using h), show j + 1 + i = j + (i + 1) by omega]
def fEnum (A : FA) : FA := fun ρ Q Z => A ρ (fun as => ∃ xs, as = [.tup xs] ∧ Q (enumD 0 xs)) Z
theorem jxq {σ : L2.St} {H : Hp} {R : It → Hp → Prop} (h : tDF K E (fEnum A) σ H R) : jtk K (tDA K E A) σ H R := by
  obtain ⟨W0, H0, W, ρ, Q, Z, st, f, k, x⟩ := h
  refine ⟨W0, H0, W, ρ, _, Z, st, f, fun vs W1 H1 ds e1 r ⟨xs, z, q⟩ => ?_, x⟩
  subst z
  cases r with
  | cons r1 r =>
    cases r
    obtain ⟨_, _, rfl, h1, h2, h3⟩ := r1.tupW
    · skip
      refine ⟨_, _, rfl, e1.s.t h1, k _ W1 H1 _ e1 ⟨_, _, by rw [jiN, ← h2.len]; exact jsq, fun H3 e => e.t h1, fun i H3 x H4 W3 hi e s y => ?_⟩ q⟩
      obtain ⟨T, v, w, y1, y2, y3, y4, y5⟩ := y
      cases y4
      obtain ⟨b, g3, g4⟩ := h2.get y5
      obtain ⟨W4, g5, g6⟩ := jmG s y1 y2 y3 (.int _) (g4.gx e)
      exact ⟨W4, _, by rw [joH _ 0 i _ g3, Nat.zero_add], g5, g6⟩
theorem d_enum {p tpos : Pos} {elts : List Expr} {kk : Nat} (hg : Gl X "enumerate") (hm : X.mg "enumerate" = none) (ha : PA X [e] (tDA K E A)) (hK : X.K = K := by rfl) (hs : starEach [e] X.env = [(false, eval e X.env)] := by rfl) :
    PI X (.Tuple elts kk tpos) (.Call (.Name "enumerate" p) [e] [] pos) (tDF K E (fEnum A)) := (jtl hg hm ha hK hs).mono fun _ _ _ h => jxq h
abbrev FG := D → Env → (Env → Prop) → Prop
/-- a target: the slots it stores are among vs -/
def GSnd (K : PySem.W.Frag) (gh : TG) (g : FG) (vs : List Nat) : Prop := ∀ W0 H0 W ρ σ H x d k Q, Sat K W0 H0 W ρ σ H → Rep K W x d → g d ρ k → (∀ ρ2 σ2, Sat K W0 H0 W ρ2 σ2 H → wipe σ2 vs = wipe σ vs → k ρ2 → Q σ2 H) → gh x σ H Q
def gN (i : Nat) : FG := fun d ρ k => k (ρ.set i (.val d))
def gT (is : List Nat) : FG := fun d ρ k => ∃ ds, d = .tup ds ∧ ds.length = is.length ∧ k ((is.zip ds).foldl (fun ρ p => ρ.set p.1 (.val p.2)) ρ)
theorem jfr {σ : L2.St} {x : Option V} {j : Nat} : ∀ {vs : List Nat}, j ∈ vs → wipe (σ.set j x) vs = wipe σ vs
  | [], h => by cases h
  | v :: vs, h => by
    by_cases hj : j ∈ vs
    · show (wipe (σ.set j x) vs).set v none = (wipe σ vs).set v none
      rw [jfr hj]
    · have hv : j = v := by
        rcases List.mem_cons.mp h with h | h
        · exact h
        · exact absurd h hj
      subst hv
      show (wipe (σ.set j x) vs).set j none = (wipe σ vs).set j none
      have : ∀ {us : List Nat}, j ∉ us → wipe (σ.set j x) us = (wipe σ us).set j x := fun {us} => by
        induction us with
        | nil => intro _; rfl
        | cons u us ih =>
          intro hn
          show (wipe (σ.set j x) us).set u none = ((wipe σ us).set u none).set j x
          rw [ih (fun z => hn (List.mem_cons_of_mem _ z)), List.set_comm _ _ (fun z => hn (by rw [← z]; exact List.mem_cons_self ..))]
      rw [this hj, List.set_set]
theorem jcu {j : Nat} {vs : List Nat} (hj : j ∈ vs) : GSnd K (gName j) (gN j) vs := fun W0 H0 W ρ σ H x d k Q st r g q => q _ _ (st.set r) (jfr hj) g
theorem jto {i j : Nat} {vs : List Nat} (hi : i ∈ vs) (hj : j ∈ vs) : GSnd K (gTup K 2 (gCons (gName i) (gCons (gName j) gNil))) (gT [i, j]) vs := fun W0 H0 W ρ σ H x d k Q st r ⟨ds, z, hl, g⟩ q => by
  subst z
  obtain ⟨_, _, rfl, h1, h2, h3⟩ := r.tupW
  · skip
    cases h2 with
    | nil => cases hl
    | cons r1 h2 =>
      cases h2 with
      | nil => cases hl
      | cons r2 h2 =>
        cases h2 with
        | cons _ _ => simp at hl
        | nil => exact ⟨_, _, rfl, st.see.t h1, rfl, _, _, rfl, _, _, rfl, rfl, q _ _ ((st.set r1).set r2) (by rw [jfr hj, jfr hi]) g⟩
abbrev F0 : ZX := fun _ => False
def wipeB (ρ : Env) : List Nat → Env
  | [] => ρ
  | v :: vs => (wipeB ρ vs).set v .un
theorem Sat.wipe {W0 H0 W H : Hp} {ρ : Env} {σ : L2.St} (h : Sat K W0 H0 W ρ σ H) : ∀ vs : List Nat, Sat K W0 H0 W (wipeB ρ vs) (L2.wipe σ vs) H
  | [] => h
  | v :: vs => (Sat.wipe h vs).wipe1
theorem joI {σ : L2.St} : ∀ vs : List Nat, L2.wipe (L2.wipe σ vs) vs = L2.wipe σ vs := by
  intro vs
  have key : ∀ (us ws : List Nat), (∀ u ∈ us, u ∈ ws) → L2.wipe (L2.wipe σ us) ws = L2.wipe σ ws := by
    intro us
    induction us with
    | nil => intro ws _; rfl
    | cons u us ih =>
      intro ws hs
      show L2.wipe ((L2.wipe σ us).set u none) ws = _
      rw [jfr (hs u (List.mem_cons_self ..))]
      exact ih ws fun v hv => hs v (List.mem_cons_of_mem _ hv)
  exact key vs vs fun _ h => h
def lcD (g : FG) (T : FT) (F : FE) (ρ : Env) : List D → (List D → Prop) → Prop
  | [], Q => Q []
  | d :: ds, Q => g d ρ fun ρ2 => T ρ2 (fun b => if b = true then F ρ2 (fun y => lcD g T F ρ ds fun ys => Q (y :: ys)) F0 else lcD g T F ρ ds Q) F0
def fLc (A : FA) (g : FG) (T : FT) (F : FE) (vs : List Nat) : FA := fun ρ Q Z => A ρ (fun ds => ds.length ≤ sizeLine ∧ lcD g T F (wipeB ρ vs) ds Q) Z
theorem xc0 {W H : Hp} : XC K E0 W H F0 := fun _ _ _ _ _ _ _ z => z.elim
theorem lc_to {wi : TI} {gh : TG} {tt : TT} {te : TE} {g : FG} {vs : List Nat} {σ : L2.St} {H : Hp} {Qh : VK} (hw : ∀ σ H R, tDI K E A σ H R → wi σ H R) (gs : GSnd K gh g vs) (ht : ∀ σ H Q, tDB K E0 T σ H Q → tt σ H Q) (he : ∀ σ H Q, tD K E0 F σ H Q → te σ H Q)
    (h : tDN K E (fLc A g T F vs) σ H Qh) : tLc wi gh tt te vs σ H Qh := by
  obtain ⟨W0, H0, W, ρ, Q, Z, st, f, k, x⟩ := h
  refine hw _ _ _ ⟨W0, H0, W, ρ, _, Z, st, f, fun J W1 H1 ds e1 ⟨G, Y, hW, hG, hY⟩ ⟨hn, q⟩ => ?_, x⟩
  intro Dd hD
  refine lc_it hW (fun i H' => ∃ W' us acc, i ≤ ds.length ∧ Ex W1 H1 W' H' ∧ W' Dd = none ∧ H' Dd = some (.lst us) ∧ RepAll K W' us acc ∧ us.length ≤ i ∧ lcD g T F (wipeB ρ vs) (ds.drop i) fun ys => Q (acc ++ ys)) ?_ ?_ ?_ ?_
  · exact ⟨W1, [], [], Nat.zero_le _, Ex.hid e1.s hD, e1.s.free hD, upd_same, .nil, Nat.le_refl _, q⟩
  · rintro i H' _ ⟨W', us, acc, _, e2, _⟩
    exact hG H' e2.h
  · rintro i v H3 H4 hi ⟨W3, us, acc, _, e3, hw3, hd3, r3, l3, q3⟩ y
    obtain ⟨W4, d, hd, e4, r4⟩ := hY i H3 v H4 W3 hi e3.h e3.w e3.s y
    have e5 := e3.trans e4
    have hw4 : ∀ {W' H' : Hp}, Ex W3 H3 W' H' → W' Dd = none := fun {W' H'} e => e.hide hw3 hd3 (fun _ z => by cases z)
    have hdr : ds.drop i = d :: ds.drop (i + 1) := by
      rw [List.drop_eq_getElem_cons hi]
      congr 1
      rw [List.getElem?_eq_getElem hi] at hd
      exact Option.some.inj hd
    rw [hdr] at q3
    have stw : Sat K W0 H0 W4 (wipeB ρ vs) (L2.wipe σ vs) H4 := (st.ext (e1.trans e5)).wipe vs
    refine gs W0 H0 W4 _ _ H4 v d _ _ stw r4 q3 fun ρ2 σ2 st2 hw2 q4 => ⟨by rw [hw2, joI], ?_⟩
    refine ht _ _ _ ⟨W0, H0, W4, ρ2, _, F0, st2, q4, fun b W5 H5 e6 q5 => ?_, xc0⟩
    cases b with
    | true =>
      rw [if_pos rfl] at q5
      refine iteT (he _ _ _ ⟨W0, H0, W5, ρ2, _, F0, st2.ext e6, q5, fun u W6 H6 d6 e7 r6 q6 => ?_, xc0⟩)
      have e8 := (e4.trans e6).trans e7
      have hd6 := e8.h _ _ hd3
      refine ⟨us, hd6, by omega, W6, us ++ [u], acc ++ [d6], hi, Ex.mut (e3.trans e8) hD (hw4 e8), hw4 e8, upd_same, (r3.gx e8.w).app (.one r6), by rw [List.length_append]; show us.length + 1 ≤ i + 1; omega, ?_⟩
      have : (fun ys => Q (acc ++ [d6] ++ ys)) = fun ys => Q (acc ++ (d6 :: ys)) := by
        funext ys
        rw [List.append_assoc]
        rfl
      rw [this]
      exact q6
    | false =>
      rw [if_neg (by decide)] at q5
      have e8 := e4.trans e6
      exact iteF ⟨W5, us, acc, hi, e3.trans e8, hw4 e8, e8.h _ _ hd3, r3.gx e8.w, by omega, q5⟩
  · rintro H3 ⟨W3, us, acc, _, e3, hw3, hd3, r3, l3, q3⟩
    rw [List.drop_length] at q3
    have q3 : Q (acc ++ []) := q3
    rw [List.append_nil] at q3
    exact k Dd us W3 H3 acc (e1.trans e3) (e1.h.free hD) hw3 hd3 r3 (by omega) q3
theorem d_lc {elt tg iter : Expr} {ifs : List Expr} {scope : Scope} {own : List (Str × Nat)} {gh : TG} {g : FG} (hc : X.calm = true) (hN : X.N.Nodup) (hi : PI X tg iter (tDI K E A)) (ok : BlkOk X.N X.env.scope scope own) (gs : GSnd K gh g (own.map (·.2)))
    (hg : ∀ (s : Shared) (H : Hp) (C : Addr) (cl : List (Str × Addr)) (fp : List Addr), PG (X.blk s H scope (compEnvC scope cl C X.env) fp) tg gh) (ht : ∀ (s : Shared) (H : Hp) (C : Addr) (cl : List (Str × Addr)) (fp : List Addr), PTs (X.blk s H scope (compEnvC scope cl C X.env) fp) ifs (tDB K E0 T))
    (he : ∀ (s : Shared) (H : Hp) (C : Addr) (cl : List (Str × Addr)) (fp : List Addr), PE (X.blk s H scope (compEnvC scope cl C X.env) fp) elt (tD K E0 F)) (hs : ∀ x, foldedSetIterable iter X.env x = pure x := by intro _; rfl) :
    PE X (.ListComp elt [⟨tg, iter, ifs, 0⟩] scope pos) (tDN K E (fLc A g T F (own.map (·.2)))) := (pe_lc hc hN hi ok hg ht he hs).mono fun _ _ _ h => lc_to (fun _ _ _ q => q) gs (fun _ _ _ q => q) (fun _ _ _ q => q) h
def fYes : FT := fun _ Q _ => Q true
theorem jcd : PTs X [] (tDB K E fYes) := ⟨fun pins s σ H Q I ⟨W0, H0, W, ρ, Q', Z, st, f, k, x⟩ => pts_nil.run pins s σ H Q I (k true W H (Ex.refl st.see) f)⟩
end
end Pu
namespace TM
open PySem L2 Ly
abbrev Nd := Str × Nat
/-- the stack of the roots that wait for a word (the leftmost last), and the children of each place, from the right -/
def chF : List Nat → Nat → Option (List Nat × List (List Nat))
  | [], _ => some ([], [])
  | a :: as, off => match chF as (off + 1) with
    | none => none
    | some (w, f) => if w.length < a then none else some (w.take (w.length - a) ++ [off], (w.drop (w.length - a)).reverse :: f)
/-- the children of all places, or none -/
def chOf (nds : List Nd) : Option (List (List Nat)) := match chF (nds.map (·.2)) 0 with
  | some (w, f) => if w = [0] then some f else none
  | none => none
/-- words and arities in the order of their first places, or none if a word has two -/
def arF : List Nd → List Nd → Option (List Nd)
  | [], acc => some acc
  | (w, a) :: r, acc => match acc.lookup w with
    | none => arF r (acc ++ [(w, a)])
    | some b => if b = a then arF r acc else none
def plc (nds : List Nd) (w : Str) : List Nat := (List.range nds.length).filter fun i => (nds[i]?.map (·.1)) == some w
def intsD (l : List Nat) : PyData := .tuple (l.map fun (n : Nat) => PyData.int (n : Int))
/-- a node -/
def NodeV (K : PySem.W.Frag) (n : Nd) : Ty := fun v H => ∃ p, v = .ref p ∧ SqT K H p [.str n.1, .int n.2]
/-- a tuple of nodes -/
def Nodes (K : PySem.W.Frag) (H : Hp) (nds : List Nd) (xs : List V) : Prop := xs.length = nds.length ∧ ∀ (i : Nat) (n : Nd), nds[i]? = some n → ∃ x, xs[i]? = some x ∧ NodeV K n x H
structure NodesAt (K : PySem.W.Frag) (H : Hp) (a : Addr) (nds : List Nd) : Prop where
  ex : ∃ xs, SqT K H a xs ∧ Nodes K H nds xs
theorem NodeV.gx {K : PySem.W.Frag} {H H' : Hp} {n : Nd} {v : V} (e : Gx H H') (h : NodeV K n v H) : NodeV K n v H' := by
  obtain ⟨p, z, q⟩ := h
  exact ⟨p, z, e.t q⟩
theorem Nodes.gx {K : PySem.W.Frag} {H H' : Hp} {nds : List Nd} {xs : List V} (e : Gx H H') (h : Nodes K H nds xs) : Nodes K H' nds xs := ⟨h.1, fun i n q => by
  obtain ⟨x, h1, h2⟩ := h.2 i n q
  exact ⟨x, h1, h2.gx e⟩⟩
/-- a tuple of indices -/
def IntsT (K : PySem.W.Frag) (l : List Nat) : Ty := fun v H => ∃ p, v = .ref p ∧ SqT K H p (intsV l)
/-- the children of all places: a list of tuples -/
def ChL (K : PySem.W.Frag) (H : Hp) (cs : List (List Nat)) (ys : List V) : Prop := ys.length = cs.length ∧ ∀ (i : Nat) (c : List Nat), cs[i]? = some c → ∃ y, ys[i]? = some y ∧ IntsT K c y H
theorem IntsT.firm {K : PySem.W.Frag} {l : List Nat} : Firm (IntsT K l) := fun _ _ _ e ⟨p, z, h⟩ => ⟨p, z, e.t h⟩
/-- the children of all places: a tuple of tuples -/
def ChT (K : PySem.W.Frag) (H : Hp) (a : Addr) (cs : List (List Nat)) : Prop := ∃ ys, SqT K H a ys ∧ ChL K H cs ys
theorem ChL.firm {K : PySem.W.Frag} {H H' : Hp} {cs : List (List Nat)} {ys : List V} (e : Kx H H') (h : ChL K H cs ys) : ChL K H' cs ys := ⟨h.1, fun i c q => by
  obtain ⟨y, h1, h2⟩ := h.2 i c q
  exact ⟨y, h1, IntsT.firm _ _ _ e h2⟩⟩
theorem ChT.firm {K : PySem.W.Frag} {H H' : Hp} {a : Addr} {cs : List (List Nat)} (e : Kx H H') (h : ChT K H a cs) : ChT K H' a cs := by
  obtain ⟨ys, h1, h2⟩ := h
  exact ⟨ys, e.t h1, h2.firm e⟩
def kvD (l : List Nd) : List (Key × V) := l.map fun n => ((Sum.inr n.1 : Key), V.int (n.2 : Int))
/-- a dict of words, ascending -/
def Asc (l l' : List Nd) : Prop := l'.Perm l ∧ PyProof.Rows.sortedS (l'.map (·.1)) = true
def isLeaf (w : Str) : Bool := decide (w = "_" ∨ w = "#")
/-- a node as it must be -/
def jwx (n : Nd) : Prop := jgr (.str n.1) (.int (n.2 : Int)) = true ∧ n.1.length ≤ 1000
/-- a value, and whether it is a row of nodes of a term -/
inductive RowIn (K : PySem.W.Frag) (H : Hp) : V → Bool → Prop
  | other {x : V} {k : Kd} : Pl K H x k → k ≠ .tup → RowIn K H x false
  | size {a : Addr} {xs : List V} : H a = some (.tup xs) → xs.length < 1 ∨ 40 < xs.length → RowIn K H (.ref a) false
  | items {a : Addr} {xs : List V} {bs : List Bool} : H a = some (.tup xs) → (1 ≤ xs.length ∧ xs.length ≤ 40) → bs.length = xs.length ∧ (∀ (i : Nat) (x : V), xs[i]? = some x → ∃ b, bs[i]? = some b ∧ NodeIn K H x b) ∧ bs.all id = false → RowIn K H (.ref a) false
  | nodes {a : Addr} {nds : List Nd} : (∃ xs, H a = some (.tup xs) ∧ xs.length = nds.length ∧ ∀ (i : Nat) (n : Nd), nds[i]? = some n → ∃ p, xs[i]? = some (.ref p) ∧ H p = some (.tup [.str n.1, .int (n.2 : Int)])) → (1 ≤ nds.length ∧ nds.length ≤ 40) → (∀ n ∈ nds, jwx n) → RowIn K H (.ref a) ((chOf nds).isSome && (arF nds []).isSome)
end TM
namespace TM
open PySem L2 Ly
inductive Tr where
  | nd (w : Str) (ts : List Tr)
mutual
def Tr.nodes : Tr → List Nd
  | .nd w ts => (w, ts.length) :: jiO ts
def jiO : List Tr → List Nd
  | [] => []
  | t :: ts => t.nodes ++ jiO ts
end
def Tr.size (t : Tr) : Nat := t.nodes.length
/-- the places of the roots of a row of trees that begins at a place -/
def roots : List Tr → Nat → List Nat
  | [], _ => []
  | t :: ts, off => off :: roots ts (off + t.size)
mutual
def Tr.ch : Tr → Nat → List (List Nat)
  | .nd _ ts, off => roots ts (off + 1) :: chL ts (off + 1)
def chL : List Tr → Nat → List (List Nat)
  | [], _ => []
  | t :: ts, off => t.ch off ++ chL ts (off + t.size)
end
mutual
def Tr.ends : Tr → Nat → List Nat
  | .nd _ ts, off => (off + 1 + (jiO ts).length) :: endsL ts (off + 1)
def endsL : List Tr → Nat → List Nat
  | [], _ => []
  | t :: ts, off => t.ends off ++ endsL ts (off + t.size)
end
/-- the tree s stands at the place p of a row -/
def Sub (nds : List Nd) (cs : List (List Nat)) (p : Nat) (s : Tr) : Prop := s.nodes <+: nds.drop p ∧ s.ch p <+: cs.drop p
theorem jfs {α : Type} {x : α} {r l : List α} {p : Nat} (h : x :: r <+: l.drop p) : l[p]? = some x := by
  obtain ⟨q, hq⟩ := h
  have : (l.drop p)[0]? = some x := by rw [← hq]; rfl
  rw [List.getElem?_drop] at this
  simpa using this
theorem Sub.at {nds : List Nd} {cs : List (List Nat)} {p : Nat} {w : Str} {ts : List Tr} (h : Sub nds cs p (.nd w ts)) : nds[p]? = some (w, ts.length) ∧ cs[p]? = some (roots ts (p + 1)) := ⟨jfs h.1, jfs h.2⟩
theorem ChT.gx {K : PySem.W.Frag} {H H' : Hp} {a : Addr} {cs : List (List Nat)} (e : Gx H H') (h : ChT K H a cs) : ChT K H' a cs := h.firm e.k
theorem NodesAt.gx {K : PySem.W.Frag} {H H' : Hp} {a : Addr} {nds : List Nd} (e : Gx H H') (h : NodesAt K H a nds) : NodesAt K H' a nds := by
  obtain ⟨xs, h1, h2⟩ := h.ex
  exact ⟨⟨xs, e.t h1, h2.gx e⟩⟩
end TM
set_option maxHeartbeats 1000000
namespace TM
open PySem L2 Ly
/-- heaps in which all stays but lists and instances -/
def Sx (H H' : Hp) : Prop := ∀ a o, H a = some o → (∀ xs, o ≠ .lst xs) → (∀ C dx fs, o ≠ .ins C dx fs) → H' a = some o
theorem Sx.trans {H H1 H2 : Hp} (a : Sx H H1) (b : Sx H1 H2) : Sx H H2 := fun x o h h1 h2 => b x o (a x o h h1 h2) h1 h2
theorem Sx.t {K : PySem.W.Frag} {H H' : Hp} {a : Addr} {xs : List V} (e : Sx H H') (h : SqT K H a xs) : SqT K H' a xs := by
  rcases h with (h | ⟨o, h⟩) | h
  · exact .inl (.inl (e _ _ h (fun _ z => by cases z) fun _ _ _ z => by cases z))
  · exact .inl (.inr ⟨o, e _ _ h (fun _ z => by cases z) fun _ _ _ z => by cases z⟩)
  · exact .inr h
/-- a row of nodes told: the tuple and its nodes, tracked -/
def RowAt (H : Hp) (a : Addr) (nds : List Nd) : Prop := ∃ xs, H a = some (.tup xs) ∧ xs.length = nds.length ∧ ∀ (i : Nat) (n : Nd), nds[i]? = some n → ∃ p, xs[i]? = some (.ref p) ∧ H p = some (.tup [.str n.1, .int (n.2 : Int)])
theorem RowAt.nodes {K : PySem.W.Frag} {H : Hp} {a : Addr} {nds : List Nd} (h : RowAt H a nds) : NodesAt K H a nds := by
  obtain ⟨xs, h1, h2, h3⟩ := h
  refine ⟨⟨xs, SqT.of h1, h2, fun i n q => ?_⟩⟩
  obtain ⟨p, h4, h5⟩ := h3 i n q
  exact ⟨_, h4, p, rfl, SqT.of h5⟩
theorem RowAt.firm {H H' : Hp} {a : Addr} {nds : List Nd} (e : Kx H H') (h : RowAt H a nds) : RowAt H' a nds := by
  obtain ⟨xs, h1, h2, h3⟩ := h
  refine ⟨xs, e.tup h1, h2, fun i n q => ?_⟩
  obtain ⟨p, h4, h5⟩ := h3 i n q
  exact ⟨p, h4, e.tup h5⟩
theorem RowAt.gx {H H' : Hp} {a : Addr} {nds : List Nd} (e : Gx H H') (h : RowAt H a nds) : RowAt H' a nds := h.firm e.k
/-- the attributes of a term -/
def tfs (n c e s u l : Addr) : List (Str × V) := [("own_nodes", .ref n), ("own_children", .ref c), ("own_ends", .ref e), ("own_symbols", .ref s), ("own_unknown", .ref u), ("own_lost", .ref l)]
/-- what a tree needs to be a term -/
structure Good (t : Tr) : Prop where
  nodes : ∀ n ∈ t.nodes, jwx n
  size : t.size ≤ 40
  ar : ∃ l, arF t.nodes [] = some l
/-- the parts of a term -/
structure TermB (K : PySem.W.Frag) (H : Hp) (n c e s u l : Addr) (t : Tr) : Prop where
  nd : RowAt H n t.nodes
  ch : ChT K H c (t.ch 0)
  en : SqT K H e (intsV (t.ends 0))
  sy : ∃ r r', arF t.nodes [] = some r ∧ Asc (r.filter fun n => !isLeaf n.1) r' ∧ H s = some (.dK (kvD r'))
  un : SqT K H u (intsV (plc t.nodes "_"))
  lo : SqT K H l (intsV (plc t.nodes "#"))
structure TermAt (K : PySem.W.Frag) (C : Addr) (H : Hp) (a : Addr) (t : Tr) : Prop where
  ex : ∃ dx n c e s u l, H a = some (.ins C dx (tfs n c e s u l)) ∧ TermB K H n c e s u l t
  good : Good t
theorem TermAt.firm {K : PySem.W.Frag} {C : Addr} {H H' : Hp} {a : Addr} {t : Tr} (x : Kx H H') (h : TermAt K C H a t) : TermAt K C H' a t := by
  obtain ⟨⟨dx, n, c, e, s, u, l, h1, h2⟩, g⟩ := h
  refine ⟨⟨dx, n, c, e, s, u, l, x.keep h1 (fun _ z => by cases z), ?_⟩, g⟩
  obtain ⟨h1, h2, h3, ⟨r, r', h4, h5, h6⟩, h7, h8⟩ := h2
  exact ⟨h1.firm x, h2.firm x, x.t h3, ⟨r, r', h4, h5, x.keep h6 (fun _ z => by cases z)⟩, x.t h7, x.t h8⟩
theorem TermAt.gx {K : PySem.W.Frag} {C : Addr} {H H' : Hp} {a : Addr} {t : Tr} (x : Gx H H') (h : TermAt K C H a t) : TermAt K C H' a t := h.firm x.k
def TermT (K : PySem.W.Frag) (C : Addr) (t : Tr) : Ty := fun v H => ∃ a, v = .ref a ∧ TermAt K C H a t
theorem TermT.firm {K : PySem.W.Frag} {C : Addr} {t : Tr} : Firm (TermT K C t) := fun _ _ _ e ⟨a, z, h⟩ => ⟨a, z, h.firm e⟩
end TM
namespace Ly
open PySem PySem.Spec PyProof.Rows L2
/-- a class of errors over ValueError without __init__ -/
structure ExC (K : PySem.W.Frag) (mg : Str → Option Value) (nm : Str) (C : Addr) : Prop where
  x : PySem.W.excIn K C [.type "ValueError", .type "Exception", .type "BaseException", .type "object"] "ValueError.__new__" = true
  g : mg nm = some (.ref C)
  k : PySem.W.keepIn K (.ref C) = true
  b : PySem.W.subIn K (.ref C) (.type "BaseException") = some true
  t : PySem.W.typeIn K (.ref C) = some (.type "type")
end Ly
namespace TM
open PySem L2 Ly
/-- what the text has of the class Term -/
structure TermC (K : PySem.W.Frag) (mg : Str → Option Value) (C CN CI : Addr) : Prop where
  cl : Cls K C
  n1 : NoAttr K C "own_nodes"
  n2 : NoAttr K C "own_children"
  n3 : NoAttr K C "own_ends"
  n4 : NoAttr K C "own_symbols"
  n5 : NoAttr K C "own_unknown"
  n6 : NoAttr K C "own_lost"
  gT : mg "Term" = some (.ref C)
  own : Own K C
  isT : PySem.W.kitOne K (.ref C) (.ref C) = some true
  clN : Cls K CN
  nN : NoAttr K CN "told_nodes"
  gN : mg "Nodes" = some (.ref CN)
  ownN : Own K CN
  isN : PySem.W.kitOne K (.ref CN) (.ref CN) = some true
  noTN : PySem.W.kitOne K (.ref C) (.ref CN) = some false
  noN : ∀ n ∈ ["NoneType", "bool", "int", "str", "list", "tuple", "dict"], PySem.W.kitOne K (.type n) (.ref CN) = some false
  noT : ∀ n ∈ ["NoneType", "bool", "int", "str", "list", "tuple", "dict"], PySem.W.kitOne K (.type n) (.ref C) = some false
  inv : ExC K mg "InvalidTerm" CI
def kdTy : Kd → String
  | .non => "NoneType"
  | .bl => "bool"
  | .int => "int"
  | .str => "str"
  | .lst => "list"
  | .tup => "tuple"
  | .dic => "dict"
  | .own => "object"
theorem kd_ty {K : PySem.W.Frag} {H : Hp} {v : V} {k : Kd} (h : Pl K H v k) (hk : k ≠ .own) : TyX K H v (.type (kdTy k)) ∧ kdTy k ∈ ["NoneType", "bool", "int", "str", "list", "tuple", "dict"] := by
  cases h with
  | non => exact ⟨.base .non, by decide⟩
  | bl b => exact ⟨.base (.bl b), by decide⟩
  | int i => exact ⟨.base (.int i), by decide⟩
  | str x => exact ⟨.base (.str x), by decide⟩
  | lst e => exact ⟨.base (.lst e), by decide⟩
  | tup e => exact ⟨.base (.tup e), by decide⟩
  | dK e => exact ⟨.base (.dK e), by decide⟩
  | own e o => exact absurd rfl hk
/-- all but one thing stays -/
def Gxa (a : Addr) (H H' : Hp) : Prop := ∀ b o, b ≠ a → H b = some o → H' b = some o
end TM
namespace TM
open PySem L2 Ly
theorem Gxa.gx {a : Addr} {H H1 H2 : Hp} (e : Gxa a H H1) (g : Gx H1 H2) : Gxa a H H2 := fun b o n h => g _ _ (e b o n h)
theorem Gxa.put {a : Addr} {H H1 : Hp} {o : HO} (e : Gxa a H H1) : Gxa a H (upd H1 a o) := fun b u n h => by
  rw [upd_ne n]
  exact e b u n h
/-- from the place where an instance is made -/
theorem Gxa.made {x dx C : Addr} {H H' : Hp} (hx : H x = none) (hd : H dx = none) (e : Gxa x (upd (upd H dx (.own x)) x (.ins C dx [])) H') : Gx H H' := fun b o h => by
  have n1 : b ≠ x := fun z => by rw [z, hx] at h; cases h
  have n2 : b ≠ dx := fun z => by rw [z, hd] at h; cases h
  exact e b o n1 (by rw [upd_ne n1, upd_ne n2]; exact h)
end TM
namespace TM
open PySem L2 Ly
section
variable {n c e s u l : V}
abbrev fs2 (n c : V) : List (Str × V) := [("own_nodes", n), ("own_children", c)]
abbrev fs3 (n c e : V) : List (Str × V) := [("own_nodes", n), ("own_children", c), ("own_ends", e)]
abbrev fs4 (n c e s : V) : List (Str × V) := [("own_nodes", n), ("own_children", c), ("own_ends", e), ("own_symbols", s)]
end
end TM
namespace TM
open PySem L2 Ly
theorem RowIn.gx {K : PySem.W.Frag} {H H' : Hp} {x : V} {b : Bool} (e : Gx H H') (h : RowIn K H x b) : RowIn K H' x b := by
  cases h with
  | other p q => exact .other (p.gx e) q
  | size p q => exact .size (e _ _ p) q
  | items p q r => exact .items (e _ _ p) q ⟨r.1, fun i x hx => by
      obtain ⟨b, h1, h2⟩ := r.2.1 i x hx
      exact ⟨b, h1, NodeIn.mono _ _ _ e h2⟩, r.2.2⟩
  | nodes p q r =>
    obtain ⟨xs, h1, h2, h3⟩ := p
    refine .nodes ⟨xs, e _ _ h1, h2, fun i n hn => ?_⟩ q r
    obtain ⟨p, h4, h5⟩ := h3 i n hn
    exact ⟨p, h4, e _ _ h5⟩
end TM
namespace Ly
open PySem PySem.Spec PyProof.Rows L2
end Ly
namespace Ly
open PySem PySem.Spec PyProof.Rows L2
end Ly
namespace TM
open PySem L2 Ly
/-- items that are nodes -/
def RowL (H : Hp) (xs : List V) (nds : List Nd) : Prop := xs.length = nds.length ∧ ∀ (i : Nat) (n : Nd), nds[i]? = some n → ∃ p, xs[i]? = some (.ref p) ∧ H p = some (.tup [.str n.1, .int (n.2 : Int)])
theorem RowL.nil {H : Hp} : RowL H [] [] := ⟨rfl, fun i n h => by cases h⟩
theorem RowL.gx {H H' : Hp} {xs : List V} {nds : List Nd} (e : Gx H H') (h : RowL H xs nds) : RowL H' xs nds := ⟨h.1, fun i n q => by
  obtain ⟨p, h1, h2⟩ := h.2 i n q
  exact ⟨p, h1, e _ _ h2⟩⟩
theorem RowL.app {H : Hp} {xs ys : List V} {nds mds : List Nd} (h : RowL H xs nds) (k : RowL H ys mds) : RowL H (xs ++ ys) (nds ++ mds) := by
  refine ⟨by rw [List.length_append, List.length_append, h.1, k.1], fun i n q => ?_⟩
  by_cases hi : i < nds.length
  · rw [List.getElem?_append_left hi] at q
    rw [List.getElem?_append_left (by rw [h.1]; exact hi)]
    exact h.2 i n q
  · rw [List.getElem?_append_right (by omega)] at q
    rw [List.getElem?_append_right (by rw [h.1]; omega), h.1]
    exact k.2 _ n q
theorem RowL.one {H : Hp} {p : Addr} {n : Nd} (h : H p = some (.tup [.str n.1, .int (n.2 : Int)])) : RowL H [.ref p] [n] := ⟨rfl, fun i m q => by
  cases i with
  | zero => cases q; exact ⟨p, rfl, h⟩
  | succ i => cases q⟩
/-- a value that is a term, or surely none -/
inductive IsTerm (K : PySem.W.Frag) (C : Addr) (H : Hp) : V → Option Tr → Prop
  | term {a : Addr} {t : Tr} : TermAt K C H a t → IsTerm K C H (.ref a) (some t)
  | none {x : V} {kd : Kd} : Pl K H x kd → kd ≠ .own → IsTerm K C H x none
theorem IsTerm.gx {K : PySem.W.Frag} {C : Addr} {H H' : Hp} {x : V} {o : Option Tr} (e : Gx H H') (h : IsTerm K C H x o) : IsTerm K C H' x o := by
  cases h with
  | term h => exact .term (h.gx e)
  | none p k => exact .none (p.gx e) k
theorem IsTerm.ty {K : PySem.W.Frag} {mg : Str → Option Value} {C CN CI : Addr} (TC : TermC K mg C CN CI) {H : Hp} {x : V} {o : Option Tr} (h : IsTerm K C H x o) : ∃ t, TyX K H x t ∧ PySem.W.kitOne K t (.ref C) = some o.isSome := by
  cases h with
  | term h =>
    obtain ⟨⟨dx, n, c, e, s, u, l, h1, _⟩, _⟩ := h
    exact ⟨_, .base (.ins h1 TC.cl TC.own.ha TC.own.hn TC.own.htk TC.own.hm), TC.isT⟩
  | none p k => exact ⟨_, (kd_ty p k).1, TC.noT _ (kd_ty p k).2⟩
/-- what build is given: the word, the arguments; the term, or none -/
inductive BuildIn (K : PySem.W.Frag) (C : Addr) (H : Hp) : V → List V → Option Tr → Prop
  | word {x : V} {kd : Kd} {xs : List V} : Pl K H x kd → Small x → jgr x (.int (xs.length : Int)) = false → BuildIn K C H x xs none
  | arg {x : V} {kd : Kd} {xs : List V} {os : List (Option Tr)} : Pl K H x kd → Small x → jgr x (.int (xs.length : Int)) = true → os.length = xs.length → (∀ (i : Nat) (y : V), xs[i]? = some y → ∃ o, os[i]? = some o ∧ IsTerm K C H y o) → os.all Option.isSome = false → BuildIn K C H x xs none
  | made {w : Str} {xs : List V} {ts : List Tr} : w.length ≤ 1000 → jgr (.str w) (.int (ts.length : Int)) = true → xs.length = ts.length → (∀ (i : Nat) (t : Tr), ts[i]? = some t → ∃ a, xs[i]? = some (.ref a) ∧ TermAt K C H a t) → Good (.nd w ts) → BuildIn K C H (.str w) xs (some (.nd w ts))
  | bad {w : Str} {xs : List V} {ts : List Tr} : w.length ≤ 1000 → jgr (.str w) (.int (ts.length : Int)) = true → xs.length = ts.length → (∀ (i : Nat) (t : Tr), ts[i]? = some t → ∃ a, xs[i]? = some (.ref a) ∧ TermAt K C H a t) → 40 < Tr.size (.nd w ts) ∨ arF (Tr.nodes (.nd w ts)) [] = none → BuildIn K C H (.str w) xs none
end TM
namespace TM
open PySem L2 Ly
end TM
namespace TM
open PySem L2 Ly
end TM
namespace Ly
open PySem PySem.Spec PyProof.Rows L2
end Ly
namespace TM
open PySem L2 Ly
theorem BuildIn.gx {K : PySem.W.Frag} {C : Addr} {H H' : Hp} {x : V} {xs : List V} {o : Option Tr} (e : Gx H H') (h : BuildIn K C H x xs o) : BuildIn K C H' x xs o := by
  cases h with
  | word p s b => exact .word (p.gx e) s b
  | arg p s b l k a => exact .arg (p.gx e) s b l (fun i y hy => by
      obtain ⟨o, h1, h2⟩ := k i y hy
      exact ⟨o, h1, h2.gx e⟩) a
  | made w b l k g => exact .made w b l (fun i t ht => by
      obtain ⟨a, h1, h2⟩ := k i t ht
      exact ⟨a, h1, h2.gx e⟩) g
  | bad w b l k g => exact .bad w b l (fun i t ht => by
      obtain ⟨a, h1, h2⟩ := k i t ht
      exact ⟨a, h1, h2.gx e⟩) g
end TM
namespace Pu
open PySem PySem.Spec PyProof.Rows L2 Ly
structure EndsD where
  nx : Env → Prop
  rt : D → Prop
  bk : Env → Prop := fun _ => False
  ct : Env → Prop := fun _ => False
  ex : ZX
abbrev FS := Env → EndsD → Prop
structure Ok (K : PySem.W.Frag) (W0 H0 : Hp) (E : XK) (W : Hp) (De : EndsD) (Dh : Ends) : Prop where
  nx : ∀ W' ρ' σ' H', Gx W W' → Sat K W0 H0 W' ρ' σ' H' → De.nx ρ' → Dh.nx σ' H'
  rt : ∀ v W' H' d, Ex W0 H0 W' H' → Rep K W' v d → De.rt d → Dh.rt v H'
  bk : ∀ W' ρ' σ' H', Gx W W' → Sat K W0 H0 W' ρ' σ' H' → De.bk ρ' → Dh.bk σ' H'
  ct : ∀ W' ρ' σ' H', Gx W W' → Sat K W0 H0 W' ρ' σ' H' → De.ct ρ' → Dh.ct σ' H'
  ex : XC K E W0 H0 De.ex
def tDS (K : PySem.W.Frag) (W0 H0 : Hp) (E : XK) (S : FS) : TS := fun Dh σ H => ∃ W ρ De, Sat K W0 H0 W ρ σ H ∧ S ρ De ∧ Ok K W0 H0 E W De Dh
theorem _root_.L2.PS.mono {X : Cx} {st : Stmt} {t u : TS} (h : PS X st t) (m : ∀ D σ H, u D σ H → t D σ H) : PS X st u := ⟨fun pins s σ H D I q => h.run pins s σ H D I (m _ _ _ q)⟩
theorem _root_.L2.PSs.mono {X : Cx} {st : List Stmt} {t u : TS} (h : PSs X st t) (m : ∀ D σ H, u D σ H → t D σ H) : PSs X st u := ⟨fun pins s σ H D I q => h.run pins s σ H D I (m _ _ _ q)⟩
section
variable {X : Cx} {K : PySem.W.Frag} {E : XK} {W0 H0 : Hp} {F G L : FE} {T U : FT} {A N : FA} {S S' : FS} {tg e a b : Expr} {es : List Expr} {pos pos' : Pos} {st : Stmt} {rest body : List Stmt} {i j : Nat}
theorem Ok.up {De : EndsD} {Dh : Ends} {W W1 : Hp} (o : Ok K W0 H0 E W De Dh) (e : Gx W W1) : Ok K W0 H0 E W1 De Dh := ⟨fun W' ρ' σ' H' g => o.nx W' ρ' σ' H' (e.trans g), o.rt, fun W' ρ' σ' H' g => o.bk W' ρ' σ' H' (e.trans g), fun W' ρ' σ' H' g => o.ct W' ρ' σ' H' (e.trans g), o.ex⟩
theorem Ok.xc {De : EndsD} {Dh : Ends} {W H Wb : Hp} {ρ : Env} {σ : L2.St} (o : Ok K W0 H0 E Wb De Dh) (s : Sat K W0 H0 W ρ σ H) : XC K E W H De.ex := o.ex.ext s.ex
def sNext : FS := fun ρ De => De.nx ρ
def sSeq (S S' : FS) : FS := fun ρ De => S ρ { De with nx := fun ρ' => S' ρ' De }
theorem jdh : PSs X [] (tDS K W0 H0 E sNext) := pss_nil.mono fun D σ H ⟨W, ρ, De, s, q, o⟩ => o.nx W ρ σ H (Gx.refl W) s q
theorem d_seq (h1 : PS X st (tDS K W0 H0 E S)) (h2 : PSs X rest (tDS K W0 H0 E S')) : PSs X (st :: rest) (tDS K W0 H0 E (sSeq S S')) := (pss_cons h1 h2).mono fun D σ H ⟨W, ρ, De, s, q, o⟩ =>
  ⟨W, ρ, _, s, q, ⟨fun W' ρ' σ' H' g s' q' => ⟨W', ρ', De, s', q', o.up g⟩, o.rt, o.bk, o.ct, o.ex⟩⟩
theorem jaR (h1 : PS X st (tDS K W0 H0 E S)) : PSs X [st] (tDS K W0 H0 E S) := pss_one h1
def sRet (F : FE) : FS := fun ρ De => F ρ De.rt De.ex
theorem d_ret (h : PE X e (tD K E F)) : PS X (.Return (some e) pos) (tDS K W0 H0 E (sRet F)) := (ps_ret h).mono fun D σ H ⟨W, ρ, De, s, q, o⟩ => ⟨W0, H0, W, ρ, _, _, s, q, fun v W' H' d e r z => o.rt v W' H' d (s.ex.trans e) r z, o.xc s⟩
def sIf (T : FT) (S S' : FS) : FS := fun ρ De => T ρ (fun b => if b = true then S ρ De else S' ρ De) De.ex
theorem d_ifs {c : Expr} {u v : List Stmt} (hc : PT X c (tDB K E T)) (ha : PSs X u (tDS K W0 H0 E S)) (hb : PSs X v (tDS K W0 H0 E S')) : PS X (.If c u v pos) (tDS K W0 H0 E (sIf T S S')) := (ps_if hc ha hb).mono fun D σ H ⟨W, ρ, De, s, q, o⟩ =>
  ⟨W0, H0, W, ρ, _, _, s, q, fun b W' H' e z => by
    cases b with
    | true =>
      rw [if_pos rfl] at z
      exact iteT ⟨W', ρ, De, s.ext e, z, o.up e.w⟩
    | false =>
      rw [if_neg (by decide)] at z
      exact iteF ⟨W', ρ, De, s.ext e, z, o.up e.w⟩, o.xc s⟩
/-- x = a value -/
def sAsg (i : Nat) (F : FE) : FS := fun ρ De => F ρ (fun d => De.nx (ρ.set i (.val d))) De.ex
theorem d_asg (he : PE X e (tD K E F)) (hg : PG X tg (gName i)) (hs : swapsWithSole [tg] e pos.line X.env = pure false := by rfl) (hw : swappedStores [tg] e X.env = pure none := by rfl)
    (h1 : (assignEach [tg] X.env).map (·.2) = [assign tg X.env] := by rfl) : PS X (.Assign [tg] e pos) (tDS K W0 H0 E (sAsg i F)) := (ps_asg he hg hs hw h1).mono fun D σ H ⟨W, ρ, De, s, q, o⟩ =>
  ⟨W0, H0, W, ρ, _, _, s, q, fun v W' H' d e r z => o.nx W' _ _ H' e.w ((s.ext e).set r) z, o.xc s⟩
/-- x = a new list -/
def sNew (i : Nat) (N : FA) : FS := fun ρ De => N ρ (fun ds => De.nx (ρ.set i (.lst ds))) De.ex
/-- a, b = x, y -/
def sPar (i j : Nat) (A : FA) : FS := fun ρ De => A ρ (fun ds => ∃ d f, ds = [d, f] ∧ De.nx ((ρ.set i (.val d)).set j (.val f))) De.ex
/-- a list is given away ahead of a statement -/
def demB (i : Nat) (ρ : Env) : Env := match ρ[i]? with
  | some (.lst ds) => ρ.set i (.val (.lst ds))
  | _ => ρ
def sDem (i : Nat) (S : FS) : FS := fun ρ De => S (demB i ρ) De
/-- x.append(v), x.extend(v) of an own list -/
def sApp (i : Nat) (F : FE) : FS := fun ρ De => ∃ ds, ρ[i]? = some (.lst ds) ∧ F ρ (fun d => ds.length < sizeLine ∧ De.nx (ρ.set i (.lst (ds ++ [d])))) De.ex
def forD (g : FG) (S : FS) : List D → Env → EndsD → Prop
  | [], ρ, De => De.nx ρ
  | d :: ds, ρ, De => g d ρ fun ρ2 => S ρ2 { De with nx := fun ρ3 => forD g S ds ρ3 De, ct := fun ρ3 => forD g S ds ρ3 De, bk := De.nx }
def sFor (A : FA) (g : FG) (S : FS) : FS := fun ρ De => A ρ (fun ds => forD g S ds ρ De) De.ex
end
end Pu
namespace Pu
open PySem PySem.Spec PyProof.Rows L2 Ly
abbrev Fn := List D → (D → Prop) → ZX → Prop
def spD (K : PySem.W.Frag) (n : Nat) (f : Fn) : Sp := fun vs H Qh E => ∃ W ds Q Z, Gx W H ∧ RepAll K W vs ds ∧ ds.length = n ∧ f ds Q Z ∧ (∀ v W' H' d, Ex W H W' H' → Rep K W' v d → Q d → Qh v H') ∧ XC K E W H Z
def startB (n : Nat) (ds : List D) : Env := ds.map .val ++ List.replicate (n - ds.length) .un
def fnS (n : Nat) (S : FS) : Fn := fun ds Q Z => S (startB n ds) { nx := fun _ => Q .non, rt := Q, ex := Z }
section
variable {K : PySem.W.Frag}
theorem joJ {W H : Hp} {n : Nat} {N : List Str} {vs : List V} {ds : List D} (s : Gx W H) (hN : N.length = n) (r : RepAll K W vs ds) : Sat K W H W (startB n ds) (L2.start N vs) H := by
  refine ⟨Ex.refl s, ?_, fun _ => none, (fun _ _ _ z => by cases z), fun i b hb => ?_⟩
  · unfold startB L2.start
    simp [r.len, hN]
  · unfold startB at hb
    unfold L2.start
    by_cases hi : i < ds.length
    · rw [List.getElem?_append_left (by simpa using hi), List.getElem?_map, List.getElem?_eq_getElem hi] at hb
      cases hb
      obtain ⟨v, h1, h2⟩ := r.getD (List.getElem?_eq_getElem hi)
      refine ⟨some v, ?_, rfl, v, rfl, h2⟩
      rw [List.getElem?_append_left (by rw [List.length_map, r.len]; exact hi), List.getElem?_map, h1]
      rfl
    · rw [List.getElem?_append_right (by simpa using Nat.le_of_not_lt hi), List.length_map] at hb
      have hlt : i - ds.length < n - ds.length := by
        have := (List.getElem?_eq_some_iff.mp hb).1
        rw [List.length_replicate] at this
        exact this
      rw [List.getElem?_replicate_of_lt hlt] at hb
      cases hb
      refine ⟨none, ?_, rfl⟩
      rw [List.getElem?_append_right (by rw [List.length_map, r.len]; omega), List.length_map, r.len, hN, List.getElem?_replicate_of_lt hlt]
end
section
variable {P : Program} {w : World} {K : PySem.W.Frag} {mg : Str → Option Value} {base : Heap}
/-- a def by its body -/
theorem fn_d {x qual : Str} {st : Stmt} {f : Addr} {fd : FuncData} {N ps : List Str} {k n : Nat} {g : Fn} {S : FS} (F : Fun K x qual st f fd) (Sc : FnScope N ps (defScope st)) (hn : ps.length = n)
    (hbody : ∀ (cdv : Value) (A : Around) (outer : List PySem.Env) (s : Shared) (H : Hp) (E : XK) (W0 : Hp), Room k (A.deeper (envOfC qual (defScope st) s.heap.objs.size f cdv)) →
      PSs (cxOf (L2.CX P w) P w K mg base N qual (defScope st) f cdv A outer s H E) (defBody st) (tDS K W0 H E S)) (hg : ∀ ds Q Z, ds.length = n → g ds Q Z → fnS N.length S ds Q Z) : FnOk P w K mg base (L2.CX P w) (k + 1) f fd ps (spD K n g) :=
  F.okX Sc (fun vs H Q E ⟨W, ds, _, _, _, r, hl, _⟩ => by rw [r.len, hl, hn]) fun cdv A outer s H vs Q E hr ⟨W, ds, Qd, Z, sw, r, hl, hf, k, x⟩ =>
    ⟨_, hbody cdv A outer s H E W hr, W, startB N.length ds, _, joJ sw rfl r, hg ds Qd Z hl hf, ⟨fun W' ρ' σ' H' _ s' q => k _ W' H' _ s'.ex .non q, fun v W' H' d e r q => k v W' H' d e r q, (fun _ _ _ _ _ _ z => z.elim), (fun _ _ _ _ _ _ z => z.elim), x⟩⟩
/-- nothing raised is within all that may be -/
theorem fn_cx {k : Nat} {f : Addr} {fd : FuncData} {ps : List Str} {sp : Sp} (F : FnOk P w K mg base CX0 k f fd ps sp) : FnOk P w K mg base (L2.CX P w) k f fd ps sp :=
  ⟨F.len, fun A outer s H args us vs Q E hr he hb hv hs => codeAny_mono (F.run A outer s H args us vs Q E hr he hb hv hs) fun r s' h => by
    cases r with
    | error e => exact False.elim h
    | ok fl => cases fl <;> exact h⟩
/-- a def for its callers -/
structure CalF (P : Program) (w : World) (K : PySem.W.Frag) (mg : Str → Option Value) (base : Heap) (x : Str) (k n : Nat) (g : Fn) : Prop where
  ex : ∃ (f : Addr) (fd : FuncData) (ps : List Str), FnOk P w K mg base (L2.CX P w) k f fd ps (spD K n g) ∧ mg x = some (.ref f) ∧ PySem.W.keepIn K (.ref f) = true ∧ Binds K fd ps []
end
section
variable {X : Cx} {K : PySem.W.Frag} {E : XK} {W0 H0 : Hp} {F G L : FE} {T U : FT} {A N : FA} {S S' : FS} {g : Fn} {tg e a b o : Expr} {es : List Expr} {p pos apos : Pos} {i j k n : Nat} {x m f : Str} {C : Addr}
def fCall (g : Fn) (n : Nat) (A : FA) : FE := fun ρ Q Z => A ρ (fun ds => ds.length = n ∧ g ds Q Z) Z
theorem sp_to {σ : L2.St} {H : Hp} {Qh : VK} (h : tD K E (fCall g n A) σ H Qh) : tCall (spD K n g) [] E (tDA K E A) σ H Qh := by
  obtain ⟨W0, H0, W, ρ, Q, Z, st, f, k, x⟩ := h
  refine ⟨W0, H0, W, ρ, _, Z, st, f, fun vs W1 H1 ds e1 r ⟨hl, q⟩ => ?_, x⟩
  show spD K n g (vs ++ []) H1 Qh E
  rw [List.append_nil]
  exact ⟨W1, ds, Q, Z, e1.s, r, hl, q, fun v W2 H2 d e2 r2 q2 => k v W2 H2 d (e1.trans e2) r2 q2, x.ext e1⟩
theorem jao (c : CalF X.prog X.w X.K X.mg X.base x k n g) (hr : Room k X.A) (hg : Gl X x) (hx : Passes (L2.CX X.prog X.w) X E) (ha : PA X (e :: es) (tDA K E A)) (hK : X.K = K := by rfl) (hdb : (x == ("__debug__" : Str)) = false := by decide)
    (he : starEach (e :: es) X.env = (false, eval e X.env) :: starEach es X.env := by rfl) (hpl : (backTo pos (starEach es X.env)).any (·.1) = false := by rfl) : PE X (.Call (.Name x p) (e :: es) [] pos) (tD K E (fCall g n A)) := by
  subst hK
  obtain ⟨f, fd, ps, F, hm, hk, hb⟩ := c.ex
  exact (pe_call F hr hg hm hk hb .nil hx ha hdb he hpl).mono fun _ _ _ h => sp_to h
end
end Pu
namespace Pu
open PySem PySem.Spec PyProof.Rows L2 Ly
section
variable {X : Cx} {K : PySem.W.Frag} {E : XK} {W0 H0 : Hp} {F G L : FE} {T U : FT} {A N : FA} {S S' : FS} {g : Fn} {tg e a b o : Expr} {es : List Expr} {p pos apos : Pos} {i j k n : Nat} {x m f : Str} {C : Addr}
def CSnd (K : PySem.W.Frag) (r : List V → Hp → VK → Prop) (R : List D → (D → Prop) → Prop) : Prop := ∀ W H xs ds Q Qh, Gx W H → RepTs K W H xs ds → R ds Q → (∀ v W' H' d, Ex W H W' H' → Rep K W' v d → Q d → Qh v H') → r xs H Qh
def CSndN (K : PySem.W.Frag) (r : List V → Hp → VK → Prop) (R : List D → (List D → Prop) → Prop) : Prop := ∀ W H xs ds Q Qh, Gx W H → RepTs K W H xs ds → R ds Q →
  (∀ p vs W' H' ds, Ex W H W' H' → H p = none → W' p = none → H' p = some (.lst vs) → RepAll K W' vs ds → vs.length ≤ sizeLine → Q ds → Qh (.ref p) H') → r xs H Qh
def fCB (R : List D → (D → Prop) → Prop) (A : FA) : FE := fun ρ Q Z => A ρ (fun ds => R ds Q) Z
def fCBN (R : List D → (List D → Prop) → Prop) (A : FA) : FA := fun ρ Q Z => A ρ (fun ds => R ds Q) Z
variable {r : List V → Hp → VK → Prop} {R : List D → (D → Prop) → Prop} {RN : List D → (List D → Prop) → Prop} {idn Tn : String}
theorem cb_to (hR : CSnd K r R) {σ : L2.St} {H : Hp} {Qh : VK} (h : tD K E (fCB R A) σ H Qh) : tCB r (tDAT K E A) σ H Qh := by
  obtain ⟨W0, H0, W, ρ, Q, Z, st, f, k, x⟩ := h
  exact ⟨W0, H0, W, ρ, _, Z, st, f, fun vs W1 H1 ds e1 r1 q => hR W1 H1 vs ds Q Qh e1.s r1 q fun v W2 H2 d e2 r2 q2 => k v W2 H2 d (e1.trans e2) r2 q2, x⟩
theorem jwy (hR : CSndN K r RN) {σ : L2.St} {H : Hp} {Qh : VK} (h : tDN K E (fCBN RN A) σ H Qh) : tCB r (tDAT K E A) σ H Qh := by
  obtain ⟨W0, H0, W, ρ, Q, Z, st, f, k, x⟩ := h
  exact ⟨W0, H0, W, ρ, _, Z, st, f, fun vs W1 H1 ds e1 r1 q => hR W1 H1 vs ds Q Qh e1.s r1 q fun p vs W2 H2 ds e2 hp hw h' r2 n q2 => k p vs W2 H2 ds (e1.trans e2) (e1.h.free hp) hw h' r2 n q2, x⟩
theorem d_cb (hc : CallR X (.builtin idn) r) (hR : CSnd K r R) (hg : Gl X x) (hm : X.mg x = none) (hv : bootBuiltins x = some (.builtin idn)) (ha : PA X (e :: es) (tDAT K E A)) (hn : x ≠ "__name__" := by decide) (hdb : (x == ("__debug__" : Str)) = false := by decide)
    (hs : starEach (e :: es) X.env = (false, eval e X.env) :: starEach es X.env := by rfl) (hpl : (backTo pos (starEach es X.env)).any (·.1) = false := by rfl) : PE X (.Call (.Name x p) (e :: es) [] pos) (tD K E (fCB R A)) :=
  (pe_callB hc hg hm hv ha hn hdb hs hpl).mono fun _ _ _ h => cb_to hR h
theorem d_ct (hc : CallR X (.type Tn) r) (hR : CSnd K r R) (hg : Gl X x) (hm : X.mg x = none) (hv : bootBuiltins x = some (.type Tn)) (ha : PA X (e :: es) (tDAT K E A)) (hn : x ≠ "__name__" := by decide) (hdb : (x == ("__debug__" : Str)) = false := by decide)
    (hs : starEach (e :: es) X.env = (false, eval e X.env) :: starEach es X.env := by rfl) (hpl : (backTo pos (starEach es X.env)).any (·.1) = false := by rfl) : PE X (.Call (.Name x p) (e :: es) [] pos) (tD K E (fCB R A)) :=
  (pe_callTy hc hg hm hv ha hn hdb hs hpl).mono fun _ _ _ h => cb_to hR h
theorem d_ctN (hc : CallR X (.type Tn) r) (hR : CSndN K r RN) (hg : Gl X x) (hm : X.mg x = none) (hv : bootBuiltins x = some (.type Tn)) (ha : PA X (e :: es) (tDAT K E A)) (hn : x ≠ "__name__" := by decide) (hdb : (x == ("__debug__" : Str)) = false := by decide)
    (hs : starEach (e :: es) X.env = (false, eval e X.env) :: starEach es X.env := by rfl) (hpl : (backTo pos (starEach es X.env)).any (·.1) = false := by rfl) : PE X (.Call (.Name x p) (e :: es) [] pos) (tDN K E (fCBN RN A)) :=
  (pe_callTy hc hg hm hv ha hn hdb hs hpl).mono fun _ _ _ h => jwy hR h
theorem d_cbN (hc : CallR X (.builtin idn) r) (hR : CSndN K r RN) (hg : Gl X x) (hm : X.mg x = none) (hv : bootBuiltins x = some (.builtin idn)) (ha : PA X (e :: es) (tDAT K E A)) (hn : x ≠ "__name__" := by decide) (hdb : (x == ("__debug__" : Str)) = false := by decide)
    (hs : starEach (e :: es) X.env = (false, eval e X.env) :: starEach es X.env := by rfl) (hpl : (backTo pos (starEach es X.env)).any (·.1) = false := by rfl) : PE X (.Call (.Name x p) (e :: es) [] pos) (tDN K E (fCBN RN A)) :=
  (pe_callB hc hg hm hv ha hn hdb hs hpl).mono fun _ _ _ h => jwy hR h
theorem ts1 {W H : Hp} {xs : List V} {d : D} (h : RepTs K W H xs [d]) : ∃ v, xs = [v] ∧ RepT K W H v d := by
  cases h with
  | cons r rs => cases rs; exact ⟨_, rfl, r⟩
theorem ts2 {W H : Hp} {xs : List V} {d d' : D} (h : RepTs K W H xs [d, d']) : ∃ v v', xs = [v, v'] ∧ RepT K W H v d ∧ RepT K W H v' d' := by
  cases h with
  | cons r rs =>
    obtain ⟨v', z, r'⟩ := ts1 rs
    subst z
    exact ⟨_, v', rfl, r, r'⟩
/-- len -/
def lenD : D → Option Nat
  | .lst ds => some ds.length
  | .tup ds => some ds.length
  | .dic ks _ => some ks.length
  | .lsk ds => some ds.length
  | .str z => if z.length ≤ sizeLine then some z.length else none
  | _ => none
def RLen (ds : List D) (Q : D → Prop) : Prop := ∃ d n, ds = [d] ∧ lenD d = some n ∧ Q (.int (n : Nat))
def rLenA (K : PySem.W.Frag) : List V → Hp → VK → Prop := fun xs H Q => (rLenK K xs H Q ∨ ∃ z, xs = [.str z] ∧ z.length ≤ sizeLine ∧ Q (.int z.length) H) ∨ ∃ a kvs, xs = [V.ref a] ∧ Rd H a (.dK kvs) ∧ Q (.int kvs.length) H
theorem jcL {r r' : List V → Hp → VK → Prop} {v : Value} (h : CallR X v r) (h' : CallR X v r') : CallR X v (fun xs H Q => r xs H Q ∨ r' xs H Q) := fun pins s σ H xs us Q I rv q => by
  rcases q with q | q
  · exact h pins s σ H xs us Q I rv q
  · exact h' pins s σ H xs us Q I rv q
theorem jss : CallR X (.builtin "len") (fun xs H Q => ∃ a kvs, xs = [V.ref a] ∧ Rd H a (.dK kvs) ∧ Q (.int kvs.length) H) := by
  intro pins s σ H xs us Q I r h
  obtain ⟨a, kvs, rfl, ha, q⟩ := h
  obtain ⟨u, rfl, ru⟩ := vals1 r
  cases ru
  exact d_len I ha fun t s' I' => ⟨.int kvs.length, H, I', ⟨t, rfl⟩, q⟩
theorem c_len (hK : X.K = K := by rfl) : CallR X (.builtin "len") (rLenA K) := jcL (jcL (jiI hK) call_len_str) jss
theorem s_len : CSnd K (rLenA K) RLen := fun W H xs ds Q Qh s rr ⟨d, n, z, hd, q⟩ k => by
  subst z
  obtain ⟨v, rfl, r⟩ := ts1 rr
  cases d with
  | lst ds =>
    cases hd
    obtain ⟨p, vs, h1, h2, h3, h4⟩ := r.lst_inv s
    subst h1
    refine .inl (.inl ⟨p, vs, rfl, .inl (SqL.of h2), ?_⟩)
    rw [h3.len]
    exact k _ W H _ (Ex.refl s) (.int _) q
  | tup ds =>
    cases hd
    obtain ⟨p, vs, h1, h2, h3, h4⟩ := r.tup_inv s
    subst h1
    refine .inl (.inl ⟨p, vs, rfl, .inr h2, ?_⟩)
    rw [h3.len]
    exact k _ W H _ (Ex.refl s) (.int _) q
  | str z =>
    have hd : (if z.length ≤ sizeLine then some z.length else none) = some n := hd
    by_cases hz : z.length ≤ sizeLine
    · rw [if_pos hz] at hd
      cases hd
      rw [r.str_inv]
      exact .inl (.inr ⟨z, rfl, hz, k _ W H _ (Ex.refl s) (.int _) q⟩)
    · rw [if_neg hz] at hd
      cases hd
  | dic ks ds =>
    cases hd
    obtain ⟨p, vs, h1, h2, h3, h4, h5⟩ := r.dic_inv s
    subst h1
    refine .inr ⟨p, vs, rfl, h2, ?_⟩
    rw [← List.length_map (f := Prod.fst), h3]
    exact k _ W H _ (Ex.refl s) (.int _) q
  | lsk ds =>
    cases hd
    cases r with
    | val r =>
      cases r with
      | @lsk p vs _ h2 h3 h4 =>
        refine .inl (.inl ⟨p, vs, rfl, .inl (s.l h2), ?_⟩)
        rw [h3.len]
        exact k _ W H _ (Ex.refl s) (.int _) q
  | _ => cases hd
/-- tuple(x) -/
def jag (ds : List D) (Q : D → Prop) : Prop := ∃ d xs, ds = [d] ∧ seqD d = some xs ∧ Q (.tup xs)
theorem jxr : CSnd K (rTupK K) jag := fun W H xs ds Q Qh s rr ⟨d, ys, z, hd, q⟩ k => by
  subst z
  obtain ⟨v, rfl, r⟩ := ts1 rr
  cases d with
  | lst es =>
    cases hd
    obtain ⟨p, vs, h1, h2, h3, h4⟩ := r.lst_inv s
    subst h1
    exact ⟨p, vs, rfl, .inl ⟨SqL.of h2, fun l hl => k _ _ _ _ (Ex.new s hl) (.tup upd_same (h3.gx (Gx.new (s.free hl))) h4) q⟩⟩
  | tup es =>
    cases hd
    cases r with
    | val r =>
      cases r with
      | tup h1 h2 h3 => exact ⟨_, _, rfl, .inr ⟨SqT.of (s _ _ h1), k _ W H _ (Ex.refl s) (.tup h1 h2 h3) q⟩⟩
      | tup0 h1 => exact ⟨_, _, rfl, .inr ⟨h1.sq, k _ W H _ (Ex.refl s) (.tup0 h1) q⟩⟩
  | _ => cases hd
/-- all, any of truth values -/
def blsD : List D → Option (List Bool)
  | [] => some []
  | .bl b :: ds => (blsD ds).map (b :: ·)
  | _ => none
theorem bls_v {W : Hp} : ∀ {ds : List D} {vs : List V} {bs : List Bool}, RepAll K W vs ds → blsD ds = some bs → vs = bs.map V.bl
  | [], _, _, .nil, h => by cases h; rfl
  | d :: ds, _, bs, .cons r rs, h => by
    cases d with
    | bl b =>
      have h : (blsD ds).map (b :: ·) = some bs := h
      cases q : blsD ds with
      | none => rw [q] at h; cases h
      | some cs =>
        rw [q] at h
        cases h
        cases r
        rw [bls_v rs q]
        rfl
    | _ => cases h
def RAll (ds : List D) (Q : D → Prop) : Prop := ∃ xs bs, ds = [.lst xs] ∧ blsD xs = some bs ∧ Q (.bl (bs.all id))
theorem s_all : CSnd K (rAll K) RAll := fun W H xs ds Q Qh s rr ⟨ys, bs, z, hb, q⟩ k => by
  subst z
  obtain ⟨v, rfl, r⟩ := ts1 rr
  obtain ⟨p, vs, h1, h2, h3, h4⟩ := r.lst_inv s
  subst h1
  exact ⟨p, bs, rfl, by rw [← bls_v h3 hb]; exact SqL.of h2, k _ W H _ (Ex.refl s) (.bl _) q⟩
/-- max, min of two numbers -/
def RMax2 (ds : List D) (Q : D → Prop) : Prop := ∃ i j : Int, ds = [.int i, .int j] ∧ Q (.int (if j > i then j else i))
def RMin2 (ds : List D) (Q : D → Prop) : Prop := ∃ i j : Int, ds = [.int i, .int j] ∧ Q (.int (if j < i then j else i))
theorem s_max2 : CSnd K (fun xs H Q => ∃ i j, xs = [.int i, .int j] ∧ Q (.int (if j > i then j else i)) H) RMax2 := fun W H xs ds Q Qh s rr ⟨i, j, z, q⟩ k => by
  subst z
  obtain ⟨v, v', rfl, r, r'⟩ := ts2 rr
  exact ⟨i, j, by rw [r.int_inv, r'.int_inv], k _ W H _ (Ex.refl s) (.int _) q⟩
theorem s_min2 : CSnd K (fun xs H Q => ∃ i j, xs = [.int i, .int j] ∧ Q (.int (if j < i then j else i)) H) RMin2 := fun W H xs ds Q Qh s rr ⟨i, j, z, q⟩ k => by
  subst z
  obtain ⟨v, v', rfl, r, r'⟩ := ts2 rr
  exact ⟨i, j, by rw [r.int_inv, r'.int_inv], k _ W H _ (Ex.refl s) (.int _) q⟩
def kdD : D → Kd
  | .non => .non
  | .bl _ => .bl
  | .int _ => .int
  | .str _ => .str
  | .lst _ => .lst
  | .tup _ => .tup
  | .dic _ _ => .dic
  | _ => .own
def okI (K : PySem.W.Frag) : D → Prop
  | .obj C _ _ => Own K C
  | .dice => False
  | .cls _ => False
  | .exn _ _ _ _ => False
  | .lsk _ => False
  | .dit _ _ => False
  | .exm _ _ => False
  | .exf _ _ _ => False
  | .xt _ _ => False
  | _ => True
def seven : List String := ["NoneType", "bool", "int", "str", "list", "tuple", "dict"]
theorem ty_of {H : Hp} {v : V} {d : D} (r : Rep K H v d) (o : okI K d) : (∃ t ∈ seven, TyX K H v (.type t) ∧ (∀ C ns ds, d ≠ .obj C ns ds) ∧ ∀ n ∈ asked, kitB t n = some (kdIs (kdD d) n)) ∨ ∃ C ns ds, d = .obj C ns ds ∧ TyX K H v (.ref C) ∧ Own K C := by
  cases r with
  | non => exact .inl ⟨_, by decide, .base .non, (by intros; simp), show ∀ n ∈ asked, kitB "NoneType" n = some (kdIs .non n) by decide +kernel⟩
  | bl b => exact .inl ⟨_, by decide, .base (.bl b), (by intros; simp), show ∀ n ∈ asked, kitB "bool" n = some (kdIs .bl n) by decide +kernel⟩
  | int i => exact .inl ⟨_, by decide, .base (.int i), (by intros; simp), show ∀ n ∈ asked, kitB "int" n = some (kdIs .int n) by decide +kernel⟩
  | str x => exact .inl ⟨_, by decide, .base (.str x), (by intros; simp), show ∀ n ∈ asked, kitB "str" n = some (kdIs .str n) by decide +kernel⟩
  | lst h _ _ => exact .inl ⟨_, by decide, .base (.lst h), (by intros; simp), show ∀ n ∈ asked, kitB "list" n = some (kdIs .lst n) by decide +kernel⟩
  | tup h _ _ =>
    refine .inl ⟨"tuple", by decide, ?_, (by intros; simp), show ∀ n ∈ asked, kitB "tuple" n = some (kdIs .tup n) by decide +kernel⟩
    exact .base (.tup h)
  | tup0 h =>
    refine .inl ⟨"tuple", by decide, ?_, (by intros; simp), show ∀ n ∈ asked, kitB "tuple" n = some (kdIs .tup n) by decide +kernel⟩
    obtain ⟨_, o, n, h1, h2, _⟩ := h
    exact .kTuple h1 h2
  | dic h _ _ _ =>
    refine .inl ⟨"dict", by decide, ?_, (by intros; simp), show ∀ n ∈ asked, kitB "dict" n = some (kdIs .dic n) by decide +kernel⟩
    rcases h with h | ⟨o, h⟩
    · exact .base (.dK h)
    · exact .fDict h
  | obj h _ _ => exact .inr ⟨_, _, _, rfl, .base (.ins h o.cl o.ha o.hn o.htk o.hm), o⟩
  | dice => exact o.elim
  | cls => exact o.elim
  | exn => exact o.elim
  | lsk => exact o.elim
  | dit => exact o.elim
  | exm => exact o.elim
  | exf => exact o.elim
  | xt => exact o.elim
def fIsi (K : PySem.W.Frag) (n : String) (F : FE) : FE := fun ρ Q Z => F ρ (fun d => okI K d ∧ Q (.bl (kdIs (kdD d) n))) Z
theorem d_isi {n : String} {y : Str} {p2 : Pos} (hn : n ∈ asked) (hg : Gl X "isinstance") (hm : X.mg "isinstance" = none) (h : PE X e (tDT K E F)) (ht : PE X (.Name y p2) (tC (.ty n))) (hK : X.K = K := by rfl)
    (hs : starEach [e, .Name y p2] X.env = (false, eval e X.env) :: starEach [.Name y p2] X.env := by rfl) (hs2 : starEach [.Name y p2] X.env = [(false, eval (.Name y p2) X.env)] := by rfl) (hpl : (backTo pos (starEach [.Name y p2] X.env)).any (·.1) = false := by rfl) :
    PE X (.Call (.Name "isinstance" p) [e, .Name y p2] [] pos) (tD K E (fIsi K n F)) := by
  refine (pe_callB (jiJ hK) hg hm (by decide +kernel) (pa_cons h (pa_cons ht pa_nil hs2) hs) (by decide) (by decide) hs hpl).mono fun σ H Qh ⟨W0, H0, W, ρ, Q, Z, st, f, k, x⟩ => ⟨W0, H0, W, ρ, _, Z, st, f, fun v W1 H1 d e1 r ⟨o, q⟩ => ?_, x⟩
  have fin := k _ W1 H1 _ e1 (.bl _) q
  rcases ty_of (r.full e1.s) o with ⟨t, _, h1, _, h2⟩ | ⟨C, ns, ds, z, h1, h2⟩
  · exact ⟨v, .ty n, .type t, .type n, _, rfl, .ty n, h1, kit_ty (h2 n hn), fin⟩
  · subst z
    refine ⟨v, .ty n, .ref C, .type n, false, rfl, .ty n, h1, h2.no n hn, ?_⟩
    have : kdIs (kdD (.obj C ns ds)) n = false := by
      show kdIs .own n = false
      rfl
    rw [this] at fin
    exact fin
/-- is of the class at C -/
def isC (K : PySem.W.Frag) (C : Addr) (d : D) (b : Bool) : Prop := okI K d ∧ match d with
  | .obj C' _ _ => PySem.W.kitOne K (.ref C') (.ref C) = some b
  | _ => b = false ∧ ∀ n ∈ seven, PySem.W.kitOne K (.type n) (.ref C) = some false
def fIsc (K : PySem.W.Frag) (C : Addr) (F : FE) : FE := fun ρ Q Z => F ρ (fun d => ∃ b, isC K C d b ∧ Q (.bl b)) Z
theorem d_isc {y : Str} {p2 : Pos} (hg : Gl X "isinstance") (hm : X.mg "isinstance" = none) (h : PE X e (tDT K E F)) (ht : PE X (.Name y p2) (tC (.ref C))) (hK : X.K = K := by rfl)
    (hs : starEach [e, .Name y p2] X.env = (false, eval e X.env) :: starEach [.Name y p2] X.env := by rfl) (hs2 : starEach [.Name y p2] X.env = [(false, eval (.Name y p2) X.env)] := by rfl) (hpl : (backTo pos (starEach [.Name y p2] X.env)).any (·.1) = false := by rfl) :
    PE X (.Call (.Name "isinstance" p) [e, .Name y p2] [] pos) (tD K E (fIsc K C F)) := by
  refine (pe_callB (jiJ hK) hg hm (by decide +kernel) (pa_cons h (pa_cons ht pa_nil hs2) hs) (by decide) (by decide) hs hpl).mono fun σ H Qh ⟨W0, H0, W, ρ, Q, Z, st, f, k, x⟩ => ⟨W0, H0, W, ρ, _, Z, st, f, fun v W1 H1 d e1 r ⟨b, ⟨o, hb⟩, q⟩ => ?_, x⟩
  have fin := k _ W1 H1 _ e1 (.bl _) q
  rcases ty_of (r.full e1.s) o with ⟨t, ht, h1, h0, h2⟩ | ⟨C', ns, ds, z, h1, h2⟩
  · cases d with
    | obj C' ns ds => exact absurd rfl (h0 C' ns ds)
    | _ =>
      obtain ⟨rfl, hb⟩ := hb
      exact ⟨v, .ref C, .type t, .ref C, false, rfl, .own C, h1, hb t ht, fin⟩
  · subst z
    exact ⟨v, .ref C, .ref C', .ref C, b, rfl, .own C, h1, hb, fin⟩
def strsD : List D → Option (List Str)
  | [] => some []
  | .str b :: ds => (strsD ds).map (b :: ·)
  | _ => none
theorem jwz {W : Hp} : ∀ {ds : List D} {vs : List V} {bs : List Str}, RepAll K W vs ds → strsD ds = some bs → vs = bs.map V.str
  | [], _, _, .nil, h => by cases h; rfl
  | d :: ds, _, bs, .cons r rs, h => by
    cases d with
    | str b =>
      have h : (strsD ds).map (b :: ·) = some bs := h
      cases q : strsD ds with
      | none => rw [q] at h; cases h
      | some cs =>
        rw [q] at h
        cases h
        cases r
        rw [jwz rs q]
        rfl
    | _ => cases h
def fJoin (F G : FE) : FE := fun ρ Q Z => F ρ (fun a => ∃ s, a = .str s ∧ G ρ (fun d => ∃ xs ys, seqD d = some xs ∧ strsD xs = some ys ∧ (ys.map (·.length)).sum + ys.length * s.length ≤ 16777216 ∧ Q (.str (Txt.join s ys))) Z) Z
theorem joK (ho : PE X o (tD K E F)) (he : PE X e (tDT K E G)) (hK : X.K = K := by rfl) (hs : starEach [e] X.env = [(false, eval e X.env)] := by rfl) (hbase : attributeBase o "join" X.env (eval o X.env) = eval o X.env := by rfl) (hline : (apos.endLine == pos.line) = true := by rfl) :
    PE X (.Call (.Attribute o "join" apos) [e] [] pos) (tD K E (fJoin F G)) := (jvg ho he hK hs hbase hline).mono fun σ H Qh ⟨W0, H0, W, ρ, Q, Z, st, f, k, x⟩ => by
  refine ⟨W0, H0, W, ρ, _, Z, st, f, fun v W1 H1 d e1 r ⟨s, z, q⟩ => ?_, x⟩
  subst z
  cases r
  refine ⟨⟨s, rfl⟩, W0, H0, W1, ρ, _, Z, st.ext e1, q, fun v2 W2 H2 d2 e2 r2 ⟨xs, ys, h1, h2, h3, q2⟩ => ?_, x.ext e1⟩
  obtain ⟨p, vs, g1, g2, g3, g4⟩ := r2.seq_inv e2.s h1
  subst g1
  rw [jwz g3 h2] at g2
  exact ⟨s, p, ys, rfl, rfl, g2, h3, k _ W2 H2 _ (e1.trans e2) (.str _) q2⟩
end
end Pu
namespace Pu
open PySem PySem.Spec PyProof.Rows L2 Ly
section
variable {X : Cx} {K : PySem.W.Frag} {E : XK} {W0 H0 : Hp} {F G L : FE} {T U : FT} {A N : FA} {S S' : FS} {g : Fn} {tg e a b o : Expr} {es : List Expr} {p pos apos : Pos} {i j k n : Nat} {x m f : Str} {C : Addr} {st : Stmt} {body : List Stmt}
theorem jvn {gh : TG} {gg : FG} {vs : List Nat} (gs : GSnd K gh gg vs) (h : PS X st (tAsg (tLc (tDI K E A) gh (tDB K E0 T) (tD K E0 F) vs) (gName i))) : PS X st (tDS K W0 H0 E (sAsg i (fNew (fLc A gg T F vs)))) := h.mono fun D σ H ⟨W, ρ, De, s, q, o⟩ =>
  lc_to (K := K) (E := E) (A := A) (T := T) (F := F) (g := gg) (fun _ _ _ q => q) gs (fun _ _ _ q => q) (fun _ _ _ q => q) ⟨W0, H0, W, ρ, _, _, s, q, fun p vs W' H' ds e hp hw h' r n z =>
    o.nx _ _ _ H' (e.w.trans (Gx.new hw)) ((s.ext (e.see hp hw h')).set (.lst upd_same (r.gx (Gx.new hw)) n)) z, o.xc s⟩
/-- raise C('..') -/
def jcM (C : Addr) : FS := fun _ De => De.ex (.bare C)
theorem jiP (h : PS X st (fun _ σ H => E (.ref C) none H)) : PS X st (tDS K W0 H0 E (jcM C)) := h.mono fun D σ H ⟨W, ρ, De, s, q, o⟩ => o.ex _ _ _ W H s.ex (.bare C) q
/-- an expression whose value is dropped -/
def sDrop (F : FE) : FS := fun ρ De => F ρ (fun _ => De.nx ρ) De.ex
theorem jmp (h : PE X e (tD K E F)) (hs : swapsWith e none pos.line X.env = pure false := by rfl) : PS X (.Expr e pos) (tDS K W0 H0 E (sDrop F)) := (ps_expr h hs).mono fun D σ H ⟨W, ρ, De, s, q, o⟩ =>
  ⟨W0, H0, W, ρ, _, _, s, q, fun v W' H' d e r z => o.nx W' ρ σ H' e.w (s.ext e) z, o.xc s⟩
end
theorem hr65 {k : Nat} {A : Around} (hr : Room k A) : A.units + 65 < cLine := by have := hr.un; omega
theorem hr1 {k : Nat} {A : Around} (hr : Room k A) : A.units + 1 < cLine := by have := hr.un; omega
end Pu
namespace Pu
open PySem PySem.Spec PyProof.Rows L2 Ly
def keyD : D → Option Key
  | .int i => some (.inl i)
  | .str x => some (.inr x)
  | _ => none
def kD : Key → D
  | .inl i => .int i
  | .inr x => .str x
def putKs (ks : List Key) (k : Key) : List Key := if (ks.any fun x => decide (x = k)) = true then ks else ks ++ [k]
def putDs (ks : List Key) (ds : List D) (k : Key) (d : D) : List D := if (ks.any fun x => decide (x = k)) = true then List.zipWith (fun x y => if x = k then d else y) ks ds else ds ++ [d]
section
variable {K : PySem.W.Frag} {W H : Hp}
theorem key_v {v : V} {d : D} {k : Key} (r : Rep K W v d) (h : keyD d = some k) : v = kV k := by
  cases r <;> cases h <;> rfl
theorem jwA (k : Key) : Rep K W (kV k) (kD k) := by
  cases k with
  | inl i => exact .int i
  | inr x => exact .str x
theorem any_k {k : Key} : ∀ kvs : List (Key × V), (kvs.any fun kv => decide (kv.1 = k)) = ((kvs.map Prod.fst).any fun x => decide (x = k))
  | [] => rfl
  | p :: kvs => by rw [List.any_cons, List.map_cons, List.any_cons, any_k kvs]
theorem jxs {k : Key} {v : V} {d : D} {kvs : List (Key × V)} {ds : List D} (r : Rep K W v d) (rs : RepAll K W (kvs.map Prod.snd) ds) : (putK kvs k v).map Prod.fst = putKs (kvs.map Prod.fst) k ∧ RepAll K W ((putK kvs k v).map Prod.snd) (putDs (kvs.map Prod.fst) ds k d) := by
  unfold putK putKs putDs
  rw [any_k]
  by_cases h : ((kvs.map Prod.fst).any fun x => decide (x = k)) = true
  · rw [if_pos h, if_pos h, if_pos h]
    clear h
    have : ∀ {kvs : List (Key × V)} {ds : List D}, RepAll K W (kvs.map Prod.snd) ds → (kvs.map fun kv => if kv.1 = k then (kv.1, v) else kv).map Prod.fst = kvs.map Prod.fst ∧ RepAll K W ((kvs.map fun kv => if kv.1 = k then (kv.1, v) else kv).map Prod.snd) (List.zipWith (fun x y => if x = k then d else y) (kvs.map Prod.fst) ds) := by
      intro kvs
      induction kvs with
      | nil =>
        intro ds h
        cases h
        exact ⟨rfl, .nil⟩
      | cons p kvs ih =>
        intro ds h
        cases h with
        | cons r1 rs =>
          obtain ⟨h1, h2⟩ := ih rs
          refine ⟨?_, ?_⟩
          · rw [List.map_cons, List.map_cons, h1, List.map_cons]
            congr 1
            split <;> rfl
          · rw [List.map_cons, List.map_cons, List.map_cons, List.zipWith_cons_cons]
            refine .cons ?_ h2
            split
            · exact r
            · exact r1
    exact this rs
  · rw [if_neg h, if_neg h, if_neg h]
    refine ⟨by rw [List.map_append]; rfl, ?_⟩
    rw [List.map_append]
    exact rs.app (.one r)
end
section
variable {X : Cx} {K : PySem.W.Frag} {E : XK} {W0 H0 : Hp} {F G L : FE} {T U : FT} {A N : FA} {S S' : FS} {g : Fn} {tg e a b o : Expr} {es : List Expr} {p pos apos : Pos} {i j k n : Nat} {x m f : Str} {C : Addr} {st : Stmt} {body : List Stmt}
/-- an expression that makes a dict -/
abbrev FDi := Env → (List Key → List D → Prop) → ZX → Prop
def tDD (K : PySem.W.Frag) (E : XK) (F : FDi) : TE := fun σ H Qh => ∃ W0 H0 W ρ Q Z, Sat K W0 H0 W ρ σ H ∧ F ρ Q Z ∧
  (∀ p kvs W' H' ds, Ex W H W' H' → H p = none → W' p = none → H' p = some (.dK kvs) → RepAll K W' (kvs.map Prod.snd) ds → kvs.length ≤ sizeLine → Q (kvs.map Prod.fst) ds → Qh (.ref p) H') ∧ XC K E W H Z
def fDic (F : FDi) : FE := fun ρ Q Z => F ρ (fun ks ds => Q (.dic ks ds)) Z
variable {Fd : FDi}
theorem d_dd (h : PE X e (tDD K E Fd)) : PE X e (tD K E (fDic Fd)) := h.mono fun σ H Qh ⟨W0, H0, W, ρ, Q, Z, st, f, k, x⟩ => ⟨W0, H0, W, ρ, _, Z, st, f, fun p kvs W' H' ds e hp hw h' r n q =>
  k _ _ H' _ (e.see hp hw h') (.dic (.inl upd_same) rfl (r.gx (Gx.new hw)) n) q, x⟩
def fDic0 : FDi := fun _ Q _ => Q [] []
theorem joL (h : PE X e tDNewK) : PE X e (tDD K E fDic0) := h.mono fun σ H Qh ⟨W0, H0, W, ρ, Q, Z, st, f, k, x⟩ p hp => k p [] W _ [] (Ex.hid st.see hp) hp (st.see.free hp) upd_same .nil (by decide) f
abbrev FP := Env → (List (D × D) → Prop) → ZX → Prop
def jmH : List Key → List (Key × D) → List Key
  | ks, [] => ks
  | ks, p :: ps => jmH (putKs ks p.1) ps
def jmI : List Key → List D → List (Key × D) → List D
  | _, ds, [] => ds
  | ks, ds, p :: ps => jmI (putKs ks p.1) (putDs ks ds p.1 p.2) ps
def keysD : List (D × D) → Option (List (Key × D))
  | [] => some []
  | p :: ps => match keyD p.1, keysD ps with
    | some k, some r => some ((k, p.2) :: r)
    | _, _ => none
theorem jtp {W : Hp} : ∀ {more : List (Key × V)} {rs : List (Key × D)}, Paired (fun (p : Key × V) (q : Key × D) => p.1 = q.1 ∧ Rep K W p.2 q.2) more rs → ∀ {kvs : List (Key × V)} {ds : List D}, RepAll K W (kvs.map Prod.snd) ds →
    (mergeK kvs more).map Prod.fst = jmH (kvs.map Prod.fst) rs ∧ RepAll K W ((mergeK kvs more).map Prod.snd) (jmI (kvs.map Prod.fst) ds rs)
  | _, _, .nil, kvs, ds, h => ⟨rfl, h⟩
  | _, _, .cons (a := p) (b := q) h t, kvs, ds, r => by
    obtain ⟨h1, h2⟩ := jxs (k := p.1) h.2 r
    obtain ⟨g1, g2⟩ := jtp t h2
    show (mergeK (putK kvs p.1 p.2) _).map Prod.fst = jmH (putKs (kvs.map Prod.fst) q.1) _ ∧ RepAll K W ((mergeK (putK kvs p.1 p.2) _).map Prod.snd) (jmI (putKs (kvs.map Prod.fst) q.1) (putDs (kvs.map Prod.fst) ds q.1 q.2) _)
    rw [← h.1, ← h1]
    exact ⟨g1, g2⟩
end
end Pu
namespace Pu
open PySem PySem.Spec PyProof.Rows L2 Ly
section
variable {K : PySem.W.Frag} {E : XK} {F G L Fk Fv : FE} {T : FT} {A : FA} {g : FG} {vs : List Nat}
/-- a comprehension's turns, once its source is there -/
theorem jmJ {gh : TG} {tt : TT} {te : TE} {σ : L2.St} {W0 H0 W1 H1 : Hp} {ρ : Env} {J : It} {ds : List D} {Q : List D → Prop} {Qh : VK} (gs : GSnd K gh g vs) (ht : ∀ σ H Q, tDB K E0 T σ H Q → tt σ H Q) (he : ∀ σ H Q, tD K E0 F σ H Q → te σ H Q)
    (st : Sat K W0 H0 W1 ρ σ H1) (it : IterC K W1 H1 J ds) (hn : ds.length ≤ sizeLine) (q : lcD g T F (wipeB ρ vs) ds Q)
    (k : ∀ p us W' H' es, Ex W1 H1 W' H' → H1 p = none → W' p = none → H' p = some (.lst us) → RepAll K W' us es → us.length ≤ sizeLine → Q es → Qh (.ref p) H') :
    ∀ D, H1 D = none → ∃ W : Nat → Nat → Hp → Prop, (∃ m, W 0 m (upd H1 D (.lst []))) ∧ ∀ i m H, W i m H →
      (J.stop i H ∧ Qh (.ref D) H) ∨ (J.go i H ∧ ∃ Nx : Hp → Prop, (∀ H', Nx H' → ∃ m', m' < m ∧ W (i + 1) m' H') ∧ ∀ x H', J.yld i H x H' → gh x (wipe σ vs) H' fun σ2 H2 => wipe σ2 vs = wipe σ vs ∧ tt σ2 H2 fun b H3 =>
        if b = true then te σ2 H3 fun y H4 => ∃ acc, H4 D = some (.lst acc) ∧ acc.length < sizeLine ∧ Nx (upd H4 D (.lst (acc ++ [y]))) else Nx H3) := by
  obtain ⟨G, Y, hW, hG, hY⟩ := it
  intro Dd hD
  refine lc_it hW (fun i H' => ∃ W' us acc, i ≤ ds.length ∧ Ex W1 H1 W' H' ∧ W' Dd = none ∧ H' Dd = some (.lst us) ∧ RepAll K W' us acc ∧ us.length ≤ i ∧ lcD g T F (wipeB ρ vs) (ds.drop i) fun ys => Q (acc ++ ys)) ?_ ?_ ?_ ?_
  · exact ⟨W1, [], [], Nat.zero_le _, Ex.hid st.see hD, st.see.free hD, upd_same, .nil, Nat.le_refl _, q⟩
  · rintro i H' _ ⟨W', us, acc, _, e2, _⟩
    exact hG H' e2.h
  · rintro i v H3 H4 hi ⟨W3, us, acc, _, e3, hw3, hd3, r3, l3, q3⟩ y
    obtain ⟨W4, d, hd, e4, r4⟩ := hY i H3 v H4 W3 hi e3.h e3.w e3.s y
    have e5 := e3.trans e4
    have hw4 : ∀ {W' H' : Hp}, Ex W3 H3 W' H' → W' Dd = none := fun {W' H'} e => e.hide hw3 hd3 (fun _ z => by cases z)
    have hdr : ds.drop i = d :: ds.drop (i + 1) := by
      rw [List.drop_eq_getElem_cons hi]
      congr 1
      rw [List.getElem?_eq_getElem hi] at hd
      exact Option.some.inj hd
    rw [hdr] at q3
    have stw : Sat K W0 H0 W4 (wipeB ρ vs) (L2.wipe σ vs) H4 := (st.ext e5).wipe vs
    refine gs W0 H0 W4 _ _ H4 v d _ _ stw r4 q3 fun ρ2 σ2 st2 hw2 q4 => ⟨by rw [hw2, joI], ?_⟩
    refine ht _ _ _ ⟨W0, H0, W4, ρ2, _, F0, st2, q4, fun b W5 H5 e6 q5 => ?_, xc0⟩
    cases b with
    | true =>
      rw [if_pos rfl] at q5
      refine iteT (he _ _ _ ⟨W0, H0, W5, ρ2, _, F0, st2.ext e6, q5, fun u W6 H6 d6 e7 r6 q6 => ?_, xc0⟩)
      have e8 := (e4.trans e6).trans e7
      have hd6 := e8.h _ _ hd3
      refine ⟨us, hd6, by omega, W6, us ++ [u], acc ++ [d6], hi, Ex.mut (e3.trans e8) hD (hw4 e8), hw4 e8, upd_same, (r3.gx e8.w).app (.one r6), by rw [List.length_append]; show us.length + 1 ≤ i + 1; omega, ?_⟩
      have : (fun ys => Q (acc ++ [d6] ++ ys)) = fun ys => Q (acc ++ (d6 :: ys)) := by
        funext ys
        rw [List.append_assoc]
        rfl
      rw [this]
      exact q6
    | false =>
      rw [if_neg (by decide)] at q5
      have e8 := e4.trans e6
      exact iteF ⟨W5, us, acc, hi, e3.trans e8, hw4 e8, e8.h _ _ hd3, r3.gx e8.w, by omega, q5⟩
  · rintro H3 ⟨W3, us, acc, _, e3, hw3, hd3, r3, l3, q3⟩
    rw [List.drop_length] at q3
    have q3 : Q (acc ++ []) := q3
    rw [List.append_nil] at q3
    exact k Dd us W3 H3 acc e3 hD hw3 hd3 r3 (by omega) q3
end
/-- the heap with a dict locked -/
def LkH (H Hl : Hp) : Prop := ∀ a o, H a = some o → Hl a = some o ∨ ∃ kvs od, o = .dK kvs ∧ Hl a = some (.frz od (.dK kvs))
def Stat (K : PySem.W.Frag) (te : TE) (F : FE) : Prop := ∀ W0 H0 W ρ σ H Q Z, Sat K W0 H0 W ρ σ H → F ρ Q Z → ∃ v d, Rep K W v d ∧ Q d ∧ ∀ Hl Qh, LkH H Hl → Qh v Hl → te σ Hl Qh
section
variable {K : PySem.W.Frag} {E : XK} {F G L Fk Fv : FE} {T : FT} {A : FA} {g : FG} {vs : List Nat} {te : TE} {f : Str} {i : Nat}
theorem stat_var : Stat K (tVar i) (fVar i) := fun W0 H0 W ρ σ H Q Z st ⟨d, hi, q⟩ => by
  obtain ⟨v, h1, h2⟩ := st.val hi
  exact ⟨v, d, h2, q, fun Hl Qh _ h => ⟨v, h1, h⟩⟩
/-- the walkers of a dict -/
structure DWalk (K : PySem.W.Frag) (mk : Addr → Obj → List (Key × V) → It) (its : List Key → List D → List D) : Prop where
  len : ∀ ks ds, ks.length = ds.length → (its ks ds).length ≤ ks.length
  it : ∀ W H d o kvs ds, W d = some (.frz o (.dK kvs)) → Gx W H → RepAll K W (kvs.map Prod.snd) ds → IterC K W H (mk d o kvs) (its (kvs.map Prod.fst) ds)
def iDw (mk : Addr → Obj → List (Key × V) → It) (td : TE) : TI := fun σ H R => td σ H fun x H1 => ∃ d o kvs, x = .ref d ∧ H1 d = some (.frz o (.dK kvs)) ∧ R (mk d o kvs) H1
def fDw (its : List Key → List D → List D) (F : FE) : FA := fun ρ Q Z => F ρ (fun d => ∃ ks ds, d = .dic ks ds ∧ Q (its ks ds)) Z
theorem dw_keys : DWalk K Itk (fun ks _ => ks.map kD) := ⟨fun ks ds h => by rw [List.length_map]; omega, fun W H d o kvs ds hd s r => by
  refine ⟨_, _, by rw [List.length_map, List.length_map]; exact walk_keys (d := d) (o := o) (kvs := kvs), fun H3 e => e _ _ (s _ _ hd), fun i H3 x H4 W3 hi _ e s3 y => ?_⟩
  obtain ⟨rfl, k, v, hk, rfl⟩ := y
  exact ⟨W3, kD k, by rw [List.getElem?_map, List.getElem?_map, hk]; rfl, Ex.refl s3, jwA k⟩⟩
/-- with a dict locked or unlocked -/
def lk (d : Addr) (u : HO) (H : Hp) : Hp := fun a => if a = d then (H d).map fun _ => u else H a
theorem lk_at {d : Addr} {u o : HO} {H : Hp} (h : H d = some o) : lk d u H = upd H d u := by
  funext a
  unfold lk upd
  by_cases q : a = d
  · rw [if_pos q, if_pos q, h]
    rfl
  · rw [if_neg q, if_neg q]
theorem lk_ne {d a : Addr} {u : HO} {H : Hp} (h : a ≠ d) : lk d u H a = H a := if_neg h
theorem jcx {d a : Addr} {u : HO} {H : Hp} : lk d u H a = none ↔ H a = none := by
  unfold lk
  by_cases q : a = d
  · rw [if_pos q, q]
    cases H d <;> simp
  · rw [if_neg q]
theorem lk_gx {d : Addr} {u : HO} {W H : Hp} (e : Gx W H) : Gx (lk d u W) (lk d u H) := fun a o h => by
  by_cases q : a = d
  · subst q
    unfold lk at h ⊢
    rw [if_pos rfl] at h ⊢
    cases z : W a with
    | none => rw [z] at h; cases h
    | some o' =>
      rw [z] at h
      rw [e _ _ z]
      exact h
  · rw [lk_ne q] at h ⊢
    exact e _ _ h
theorem lk_ex {d : Addr} {u : HO} {W H W' H' : Hp} (hd : ∀ vs, H' d ≠ some (.tup vs)) (e : Ex W H W' H') : Ex (lk d u W) (lk d u H) (lk d u W') (lk d u H') := ⟨lk_gx e.h, lk_gx e.w, lk_gx e.s, fun a o h => by
  by_cases q : a = d
  · subst q
    unfold lk at h
    rw [if_pos rfl] at h
    cases z : W' a with
    | none => rw [z] at h; cases h
    | some o' =>
      rw [z] at h
      cases h
      rcases e.n _ _ z with z2 | z2 | ⟨vs, z2⟩
      · left
        unfold lk
        rw [if_pos rfl, z2]
        rfl
      · exact .inr (.inl (jcx.mpr z2))
      · exact absurd (by rw [← z2]; exact e.s _ _ z) (hd vs)
  · rw [lk_ne q] at h ⊢
    unfold Nw
    rw [lk_ne q]
    exact e.n _ _ h⟩
theorem jeX {d : Addr} {od : Obj} {kvs : List (Key × V)} {W : Hp} (h : W d = some (.dK kvs)) : Le W (upd W d (.frz od (.dK kvs))) := by
  refine ⟨fun a xs q => ?_, fun a u hu q => ?_, fun a C dx fs q => ?_, fun a φ q => ?_, fun a fs q => ?_, fun a vs q => by rw [upd_ne (fun z => by rw [z, h] at q; cases q)]; exact q⟩
  · rw [upd_ne (fun z => by rw [z, h] at q; cases q)]; exact q
  · by_cases z : a = d
    · subst z
      rcases q with q | ⟨o, q⟩
      · rw [h] at q
        cases q
        exact .inr ⟨od, upd_same⟩
      · rw [h] at q; cases q
    · rcases q with q | ⟨o, q⟩
      · exact .inl (by rw [upd_ne z]; exact q)
      · exact .inr ⟨o, by rw [upd_ne z]; exact q⟩
  · rw [upd_ne (fun z => by rw [z, h] at q; cases q)]; exact q
  · rw [upd_ne (fun z => by rw [z, h] at q; cases q)]; exact q
  · rw [upd_ne (fun z => by rw [z, h] at q; cases q)]; exact q
theorem jtq {d : Addr} {od : Obj} {kvs : List (Key × V)} {W : Hp} (h : W d = some (.frz od (.dK kvs))) : Le W (upd W d (.dK kvs)) := by
  refine ⟨fun a xs q => ?_, fun a u hu q => ?_, fun a C dx fs q => ?_, fun a φ q => ?_, fun a fs q => ?_, fun a vs q => by rw [upd_ne (fun z => by rw [z, h] at q; cases q)]; exact q⟩
  · rw [upd_ne (fun z => by rw [z, h] at q; cases q)]; exact q
  · by_cases z : a = d
    · subst z
      rcases q with q | ⟨o, q⟩
      · rw [h] at q
        cases q
        exact absurd rfl (hu _ _)
      · rw [h] at q
        cases q
        exact .inl upd_same
    · rcases q with q | ⟨o, q⟩
      · exact .inl (by rw [upd_ne z]; exact q)
      · exact .inr ⟨o, by rw [upd_ne z]; exact q⟩
  · rw [upd_ne (fun z => by rw [z, h] at q; cases q)]; exact q
  · rw [upd_ne (fun z => by rw [z, h] at q; cases q)]; exact q
  · rw [upd_ne (fun z => by rw [z, h] at q; cases q)]; exact q
/-- a state with a dict locked -/
theorem Sat.lock {W0 H0 W H : Hp} {ρ : Env} {σ : L2.St} {d : Addr} {od : Obj} {kvs : List (Key × V)} (st : Sat K W0 H0 W ρ σ H) (hd : W d = some (.dK kvs)) : ∃ W0' H0', Sat K W0' H0' (upd W d (.frz od (.dK kvs))) ρ σ (upd H d (.frz od (.dK kvs))) := by
  have hH := st.see _ _ hd
  have e := lk_ex (d := d) (u := .frz od (.dK kvs)) (fun vs z => by rw [hH] at z; cases z) st.ex
  rw [lk_at hd, lk_at hH] at e
  refine ⟨_, _, e, st.len, ?_⟩
  obtain ⟨oa, h1, h2⟩ := st.rep
  refine ⟨oa, h1, fun i b hb => ?_⟩
  obtain ⟨s, h3, h4⟩ := h2 i b hb
  refine ⟨s, h3, ?_⟩
  have ne : ∀ p, W p = none → p ≠ d := fun p hp z => by rw [z, hd] at hp; cases hp
  cases b with
  | un => exact h4
  | val d' =>
    obtain ⟨k1, v, k2, k3⟩ := h4
    exact ⟨k1, v, k2, k3.le (jeX hd)⟩
  | lst es =>
    obtain ⟨p, us, k1, k2, k3, k4, k5, k6, k7⟩ := h4
    exact ⟨p, us, k1, k2, by rw [upd_ne (ne p k3)]; exact k3, jcx.mpr k4, by rw [upd_ne (ne p k3)]; exact k5, k6.le (jeX hd), k7⟩
  | dic ks es =>
    obtain ⟨p, us, k1, k2, k3, k4, k5, k6, k7, k8⟩ := h4
    exact ⟨p, us, k1, k2, by rw [upd_ne (ne p k3)]; exact k3, jcx.mpr k4, by rw [upd_ne (ne p k3)]; exact k5, k6, k7.le (jeX hd), k8⟩
  | obj a C ns es =>
    obtain ⟨p, dx, us, k0, k1, k2, k3, k4, k5, k6, k7, k8, k9, k10⟩ := h4
    exact ⟨p, dx, us, k0, k1, k2, by rw [upd_ne (ne p k3)]; exact k3, jcx.mpr k4, by rw [upd_ne (ne p k3)]; exact k5, by rw [upd_ne (fun z => by rw [z, hH] at k6; cases k6)]; exact k6, jcx.mpr k7, k8, k9.le (jeX hd), k10⟩
  | bor p ks es =>
    obtain ⟨k1, k2, k3, od', kvs', k5, k6, k7, k8⟩ := h4
    exact ⟨k1, k2, by rw [upd_ne (ne p k3)]; exact k3, od', kvs', by rw [upd_ne (ne p k3)]; exact k5, k6, k7.le (jeX hd), k8⟩
  | dit ks es =>
    obtain ⟨p, us, k1, k2, k3, k4, k5, k6, k7, k8⟩ := h4
    exact ⟨p, us, k1, k2, by rw [upd_ne (ne p k3)]; exact k3, jcx.mpr k4, by rw [upd_ne (ne p k3)]; exact k5, k6, k7.le (jeX hd), k8⟩
theorem jvo (H : Hp) : LkH H H := fun _ _ h => .inl h
theorem jvp {H : Hp} {d : Addr} {od : Obj} {kvs : List (Key × V)} (h : H d = some (.dK kvs)) : LkH H (upd H d (.frz od (.dK kvs))) := fun a o q => by
  by_cases z : a = d
  · subst z
    rw [h] at q
    cases q
    exact .inr ⟨kvs, od, rfl, upd_same⟩
  · exact .inl (by rw [upd_ne z]; exact q)
/-- what was made under a lock -/
theorem jtr {W H W' H' : Hp} {d : Addr} {od : Obj} {kvs : List (Key × V)} (hd : W d = some (.dK kvs)) (hH : H d = some (.dK kvs)) (e : Ex (upd W d (.frz od (.dK kvs))) (upd H d (.frz od (.dK kvs))) W' H') : Ex W H (upd W' d (.dK kvs)) (upd H' d (.dK kvs)) := by
  have h := lk_ex (d := d) (u := .dK kvs) (fun vs z => by rw [e.h _ _ upd_same] at z; cases z) e
  rw [lk_at (o := .frz od (.dK kvs)) upd_same, lk_at (o := .frz od (.dK kvs)) upd_same, upd_upd, upd_upd, joG hd, joG hH, lk_at (e.w _ _ upd_same), lk_at (e.h _ _ upd_same)] at h
  exact h
variable {mk : Addr → Obj → List (Key × V) → It} {its : List Key → List D → List D}
theorem lcw_to {gh : TG} {tt : TT} {td te : TE} {σ : L2.St} {H : Hp} {Qh : VK} (hs : Stat K td F) (dw : DWalk K mk its) (gs : GSnd K gh g vs) (ht : ∀ σ H Q, tDB K E0 T σ H Q → tt σ H Q) (he : ∀ σ H Q, tD K E0 G σ H Q → te σ H Q)
    (h : tDN K E (fLc (fDw its F) g T G vs) σ H Qh) : tLockE (tLc (iDw mk td) gh tt te vs) σ H Qh ∨ tLc (iDw mk td) gh tt te vs σ H Qh := by
  obtain ⟨W0, H0, W, ρ, Q, Z, st, f, k, x⟩ := h
  obtain ⟨v, d, r, ⟨ks, ds, z, hn, q⟩, hst⟩ := hs W0 H0 W ρ σ H _ Z st f
  subst z
  cases r with
  | @dic a kvs _ _ hd hk hr hl =>
    subst hk
    rcases hd with hd | ⟨od, hd⟩
    · have hH := st.see _ _ hd
      refine .inl ⟨a, .dK kvs, hH, trivial, fun od => ?_⟩
      obtain ⟨W0', H0', st'⟩ := st.lock (od := od) hd
      refine hst _ _ (jvp hH) ⟨a, od, kvs, rfl, upd_same, ?_⟩
      refine jmJ (Qh := fun v H' => H' a = some (.frz od (.dK kvs)) ∧ Qh v (upd H' a (.dK kvs))) gs ht he st' (dw.it _ _ a od kvs ds upd_same st'.see (hr.le (jeX hd))) hn q fun p us W' H' es e hp hw h' r n q => ?_
      have hpa : p ≠ a := fun z => by rw [z, upd_same] at hp; cases hp
      rw [upd_ne hpa] at hp
      refine ⟨e.h _ _ upd_same, k p us _ _ es (jtr hd hH e) hp (by rw [upd_ne hpa]; exact hw) (by rw [upd_ne hpa]; exact h') (r.le (jtq (e.w _ _ upd_same))) n q⟩
    · refine .inr (hst _ _ (jvo H) ⟨a, od, kvs, rfl, st.see _ _ hd, ?_⟩)
      exact jmJ (Qh := Qh) gs ht he st (dw.it _ _ a od kvs ds hd st.see hr) hn q k
end
theorem _root_.L2.PE.or {X : Cx} {e : Expr} {t u : TE} (h : PE X e t) (h2 : PE X e u) : PE X e (fun σ H Q => t σ H Q ∨ u σ H Q) := ⟨fun pins s σ H Q I q => by
  rcases q with q | q
  · exact h.run pins s σ H Q I q
  · exact h2.run pins s σ H Q I q⟩
section
variable {X : Cx} {K : PySem.W.Frag} {E : XK} {W0 H0 : Hp} {F G L Fk Fv : FE} {T U : FT} {A N : FA} {S S' : FS} {tg e a b o : Expr} {es : List Expr} {p pos apos : Pos} {i j k n : Nat} {x m f : Str} {C : Addr} {st : Stmt} {body : List Stmt} {g : FG} {gh : TG} {td : TE} {scope : Scope} {own : List (Str × Nat)} {ifs : List Expr} {elt iter kx vx : Expr}
  {mk : Addr → Obj → List (Key × V) → It} {its : List Key → List D → List D}
/-- [.. for .. in a dict's walk] -/
theorem d_lcw (hs : Stat K td F) (dw : DWalk K mk its) (gs : GSnd K gh g (own.map (·.2))) (hp : PE X (.ListComp elt [⟨tg, iter, ifs, 0⟩] scope pos) (tLc (iDw mk td) gh (tDB K E0 T) (tD K E0 G) (own.map (·.2)))) :
    PE X (.ListComp elt [⟨tg, iter, ifs, 0⟩] scope pos) (tDN K E (fLc (fDw its F) g T G (own.map (·.2)))) := (PE.or (pe_lock hp) hp).mono fun _ _ _ h => lcw_to hs dw gs (fun _ _ _ q => q) (fun _ _ _ q => q) h
def tPs (K : PySem.W.Frag) (E : XK) : List (FE × FE) → List (TE × TE) := List.map fun p => (tD K E p.1, tD K E p.2)
def jmq : List (FE × FE) → FP
  | [] => fun _ Q _ => Q []
  | (k, v) :: r => fun ρ Q Z => k ρ (fun x => v ρ (fun y => jmq r ρ (fun ps => Q ((x, y) :: ps)) Z) Z) Z
theorem jiF {σ : L2.St} : ∀ {fs : List (FE × FE)} {H : Hp} {W0 H0 W : Hp} {ρ : Env} {Q : List (D × D) → Prop} {Z : ZX} {R : List (V × V) → Hp → Prop}, Sat K W0 H0 W ρ σ H → jmq fs ρ Q Z → XC K E W H Z →
    (∀ vs W' H' ps, Ex W H W' H' → Paired (fun (p : V × V) (q : D × D) => Rep K W' p.1 q.1 ∧ Rep K W' p.2 q.2) vs ps → Q ps → R vs H') → tPairs (tPs K E fs) σ H R
  | [], H, W0, H0, W, ρ, Q, Z, R, st, f, x, k => k [] W H [] (Ex.refl st.see) .nil f
  | (a, b) :: fs, H, W0, H0, W, ρ, Q, Z, R, st, f, x, k => by
    refine ⟨W0, H0, W, ρ, _, Z, st, f, fun v W1 H1 d e1 r q => ?_, x⟩
    refine ⟨W0, H0, W1, ρ, _, Z, st.ext e1, q, fun v2 W2 H2 d2 e2 r2 q2 => ?_, x.ext e1⟩
    refine jiF (st.ext (e1.trans e2)) q2 (x.ext (e1.trans e2)) fun vs W3 H3 ps e3 rp q3 => k _ W3 H3 _ ((e1.trans e2).trans e3) (.cons ⟨r.gx (e2.trans e3).w, r2.gx e3.w⟩ rp) q3
def fDisp (fs : List (FE × FE)) : FDi := fun ρ Q Z => jmq fs ρ (fun ps => ∃ kds, keysD ps = some kds ∧ ps.length ≤ 15 ∧ Q (jmH [] kds) (jmI [] [] kds)) Z
theorem jwB {W : Hp} : ∀ {vs : List (V × V)} {ps : List (D × D)} {kds : List (Key × D)}, Paired (fun (p : V × V) (q : D × D) => Rep K W p.1 q.1 ∧ Rep K W p.2 q.2) vs ps → keysD ps = some kds →
    ∃ kvs : List (Key × V), vs = kvs.map (fun kv => (kV kv.1, kv.2)) ∧ kvs.length = ps.length ∧ Paired (fun (p : Key × V) (q : Key × D) => p.1 = q.1 ∧ Rep K W p.2 q.2) kvs kds
  | _, _, _, .nil, h => by cases h; exact ⟨[], rfl, rfl, .nil⟩
  | _, _, kds, .cons (a := v) (b := p) (l₁ := vs) (l₂ := ps) h t, hk => by
    simp only [keysD] at hk
    cases h1 : keyD p.1 with
    | none => rw [h1] at hk; cases hk
    | some kk =>
      cases h2 : keysD ps with
      | none => rw [h1, h2] at hk; cases hk
      | some r =>
        rw [h1, h2] at hk
        cases hk
        obtain ⟨kvs, g1, g2, g3⟩ := jwB t h2
        refine ⟨(kk, v.2) :: kvs, ?_, by rw [List.length_cons, List.length_cons, g2], .cons ⟨rfl, h.2⟩ g3⟩
        rw [List.map_cons, ← g1]
        congr 1
        exact Prod.ext (key_v h.1 h1) rfl
theorem d_disp {keys : List (Option Expr)} {values : List Expr} {fs : List (FE × FE)} (h : PE X (.Dict keys values pos) (tDisp (tPs K E fs))) : PE X (.Dict keys values pos) (tDD K E (fDisp fs)) := h.mono fun σ H Qh ⟨W0, H0, W, ρ, Q, Z, st, f, k, x⟩ p hp => by
  have e0 := Ex.hid (o := .dK []) st.see hp
  refine jiF (st.ext e0) f (x.ext e0) fun vs W1 H1 ps e1 rp ⟨kds, hk, hl, q⟩ => ?_
  have hw : W1 p = none := e1.hide (st.see.free hp) upd_same (fun _ z => by cases z)
  obtain ⟨kvs, g1, g2, g3⟩ := jwB rp hk
  obtain ⟨g4, g5⟩ := jtp g3 (kvs := []) (ds := []) .nil
  refine ⟨e1.h _ _ upd_same, kvs, g1, by omega, k p _ W1 _ _ (Ex.mut (e0.trans e1) hp hw) hp hw upd_same g5 ?_ ?_⟩
  · have h1 := length_mergeK kvs []
    rw [List.length_nil] at h1
    rw [sizeLine_eq]; omega
  · rw [g4]
    exact q
end
end Pu
namespace Pu
open PySem PySem.Spec PyProof.Rows L2 Ly
end Pu
namespace TM
open PySem L2 Ly
mutual
def PT (H : Hp) : Tr → V → Prop
  | .nd w ts, v => ∃ p q vs, v = .ref p ∧ H p = some (.tup [.str w, .ref q]) ∧ H q = some (.tup vs) ∧ PTL H ts vs
def PTL (H : Hp) : List Tr → List V → Prop
  | [], vs => vs = []
  | t :: ts, vs => ∃ v r, vs = v :: r ∧ PT H t v ∧ PTL H ts r
end
mutual
theorem PT.firm {H H' : Hp} (e : Kx H H') (t : Tr) : ∀ v, PT H t v → PT H' t v := by
  cases t with
  | nd w ts =>
    intro v h
    unfold PT at h ⊢
    obtain ⟨p, q, vs, z, h1, h2, h3⟩ := h
    exact ⟨p, q, vs, z, e.tup h1, e.tup h2, PTL.firm e ts vs h3⟩
theorem PTL.firm {H H' : Hp} (e : Kx H H') (ts : List Tr) : ∀ vs, PTL H ts vs → PTL H' ts vs := by
  cases ts with
  | nil =>
    intro vs h
    unfold PTL at h ⊢
    exact h
  | cons t ts =>
    intro vs h
    unfold PTL at h ⊢
    obtain ⟨v, r, z, h1, h2⟩ := h
    exact ⟨v, r, z, PT.firm e t v h1, PTL.firm e ts r h2⟩
end
theorem PT.gx {H H' : Hp} (e : Gx H H') {t : Tr} {v : V} (h : PT H t v) : PT H' t v := PT.firm e.k t v h
theorem PTL.gx {H H' : Hp} (e : Gx H H') {ts : List Tr} {vs : List V} (h : PTL H ts vs) : PTL H' ts vs := PTL.firm e.k ts vs h
theorem PT.ex {H : Hp} {w : Str} {ts : List Tr} {v : V} (h : PT H (.nd w ts) v) : ∃ p q vs, v = .ref p ∧ H p = some (.tup [.str w, .ref q]) ∧ H q = some (.tup vs) ∧ PTL H ts vs := by
  unfold PT at h
  exact h
theorem PT.mk {H : Hp} {w : Str} {ts : List Tr} {p q : Addr} {vs : List V} (h1 : H p = some (.tup [.str w, .ref q])) (h2 : H q = some (.tup vs)) (h3 : PTL H ts vs) : PT H (.nd w ts) (.ref p) := by
  unfold PT
  exact ⟨p, q, vs, rfl, h1, h2, h3⟩
theorem PTL.nil {H : Hp} : PTL H [] [] := by
  unfold PTL
  rfl
theorem PTL.cons {H : Hp} {t : Tr} {ts : List Tr} {v : V} {vs : List V} (h : PT H t v) (k : PTL H ts vs) : PTL H (t :: ts) (v :: vs) := by
  unfold PTL
  exact ⟨v, vs, rfl, h, k⟩
theorem PTL.len {H : Hp} : ∀ {ts : List Tr} {vs : List V}, PTL H ts vs → vs.length = ts.length
  | [], vs, h => by
    unfold PTL at h
    rw [h]
    rfl
  | t :: ts, vs, h => by
    unfold PTL at h
    obtain ⟨v, r, rfl, _, h⟩ := h
    rw [List.length_cons, List.length_cons, PTL.len h]
theorem PTL.get {H : Hp} : ∀ {ts : List Tr} {vs : List V}, PTL H ts vs → ∀ {i : Nat} {v : V}, vs[i]? = some v → ∃ t, ts[i]? = some t ∧ PT H t v
  | [], vs, h, i, v, q => by
    unfold PTL at h
    subst h
    cases q
  | t :: ts, vs, h, i, v, q => by
    unfold PTL at h
    obtain ⟨x, r, rfl, h1, h2⟩ := h
    cases i with
    | zero => cases q; exact ⟨t, rfl, h1⟩
    | succ i => exact PTL.get h2 (i := i) q
theorem PTL.of {H : Hp} {P : Tr → Prop} : ∀ {vs : List V}, (∀ v ∈ vs, ∃ t, PT H t v ∧ P t) → ∃ ts, PTL H ts vs ∧ ∀ t ∈ ts, P t
  | [], _ => ⟨[], PTL.nil, fun t h => by cases h⟩
  | v :: vs, h => by
    obtain ⟨t, h1, h2⟩ := h v (List.mem_cons_self ..)
    obtain ⟨ts, h3, h4⟩ := PTL.of fun u hu => h u (List.mem_cons_of_mem _ hu)
    refine ⟨t :: ts, h3.cons h1, fun u hu => ?_⟩
    rcases List.mem_cons.mp hu with rfl | hu
    · exact h2
    · exact h4 u hu
/-- words of a table, or leaves -/
def Fit (D : List Nd) (ls : List Str) (t : Tr) : Prop := ∀ n ∈ t.nodes, n ∈ D ∨ (n.1 ∈ ls ∧ n.2 = 0)
theorem jmr {n : Nd} : ∀ {ts : List Tr}, n ∈ jiO ts → ∃ t ∈ ts, n ∈ t.nodes
  | t :: ts, h => by
    rcases List.mem_append.mp (show n ∈ t.nodes ++ jiO ts from h) with q | q
    · exact ⟨t, List.mem_cons_self .., q⟩
    · obtain ⟨u, h1, h2⟩ := jmr q
      exact ⟨u, List.mem_cons_of_mem _ h1, h2⟩
theorem Fit.nd {D : List Nd} {ls : List Str} {w : Str} {ts : List Tr} (h : (w, ts.length) ∈ D ∨ (w ∈ ls ∧ ts.length = 0)) (k : ∀ t ∈ ts, Fit D ls t) : Fit D ls (.nd w ts) := fun n hn => by
  rcases List.mem_cons.mp (show n ∈ (w, ts.length) :: jiO ts from hn) with rfl | q
  · exact h
  · obtain ⟨t, h1, h2⟩ := jmr q
    exact k t h1 n h2
end TM
namespace TM
open PySem L2 Ly
def LstE (xs : List V) : Ty := fun v H => ∃ p, v = .ref p ∧ H p = some (.lst xs)
theorem LstE.mono {xs : List V} : Mono (LstE xs) := fun _ _ _ e ⟨p, z, h⟩ => ⟨p, z, e _ _ h⟩
end TM
namespace TM
open PySem L2 Ly
end TM
namespace Ly
open PySem L2
end Ly
namespace Pu
open PySem PySem.Spec PyProof.Rows L2 Ly
end Pu
namespace Pu
open PySem PySem.Spec PyProof.Rows L2 Ly
section
variable {P : Program} {w : World} {K : PySem.W.Frag} {mg : Str → Option Value} {base : Heap} {k : Nat} {f : Addr} {fd : FuncData} {ps : List Str}
def FPick : Fn := fun ds Q _ => ∃ xs : List D, ds = [.dice, .lst xs] ∧ 0 < xs.length ∧ xs.length < 1073741824 ∧ ∀ x ∈ xs, Q x
def FDice : Fn := fun ds Q _ => ∃ (ns : List Int) (n : Nat), ds = [.lsk (ns.map .int), .int (n : Int)] ∧ Q .dice
theorem dice_v {W : Hp} {v : V} (h : Rep K W v .dice) : ∃ a, v = .ref a ∧ W a = some (diceO a) := by
  cases h with
  | dice h => exact ⟨_, rfl, h⟩
theorem jts {W : Hp} : ∀ {vs : List V} {ds : List D}, RepAll K W vs ds → ∀ (j : Nat) (v : V), vs[j]? = some v → ∃ d, d ∈ ds ∧ Rep K W v d
  | [], _, _, j, v, h => by simp at h
  | u :: vs, _, .cons r rs, 0, v, h => by
    cases h
    exact ⟨_, List.mem_cons_self .., r⟩
  | u :: vs, _, .cons r rs, j + 1, v, h => by
    obtain ⟨d, h1, h2⟩ := jts rs j v (by simpa using h)
    exact ⟨d, List.mem_cons_of_mem _ h1, h2⟩
theorem jtt {W : Hp} : ∀ {vs : List V} {ds : List D}, RepAll K W vs ds → vs.length = ds.length
  | _, _, .nil => rfl
  | _, _, .cons r rs => by rw [List.length_cons, List.length_cons, jtt rs]
theorem jxt (F : FnOk P w K mg base CX0 k f fd ps (jwv K)) : FnOk P w K mg base (L2.CX P w) k f fd ps (spD K 2 FPick) := (fn_cx F).imp fun vs H Qh E ⟨W, ds, Q, Z, s, r, hl, ⟨xs, z, h1, h2, q⟩, kk, _⟩ => by
  subst z
  cases r with
  | cons r1 r =>
    cases r with
    | cons r2 r =>
      cases r
      obtain ⟨a, rfl, ha⟩ := dice_v r1
      cases r2 with
      | @lst b us _ g1 g2 g3 =>
        have hlen := jtt g2
        exact ⟨a, b, us, rfl, s _ _ ha, SqL.of (s _ _ g1), by omega, by omega, fun j x hx => by
          obtain ⟨d, e1, e2⟩ := jts g2 j x hx
          exact kk _ W H _ (Ex.refl s) e2 (q d e1)⟩
theorem jwC {W : Hp} : ∀ {vs : List V} {ns : List Int}, RepAll K W vs (ns.map D.int) → vs = ns.map V.int
  | [], [], _ => rfl
  | v :: vs, z :: zs, .cons r rs => by
    cases r
    rw [jwC rs]
    rfl
  | [], z :: zs, h => by cases h
  | v :: vs, [], h => by cases h
theorem jwD {W : Hp} : ∀ ns : List Int, RepAll K W (ns.map V.int) (ns.map D.int)
  | [] => .nil
  | z :: zs => .cons (.int z) (jwD zs)
theorem jvq (F : FnOk P w K mg base CX0 k f fd ps (jwu K)) : FnOk P w K mg base (L2.CX P w) k f fd ps (spD K 2 FDice) := (fn_cx F).imp fun vs H Qh E ⟨W, ds, Q, Z, s, r, hl, ⟨ns, n, z, q⟩, kk, _⟩ => by
  subst z
  cases r with
  | cons r1 r =>
    cases r with
    | cons r2 r =>
      cases r
      cases r2
      cases r1 with
      | @lsk a us _ h1 h2 h3 =>
        rw [jwC h2] at h1
        exact ⟨a, ns, n, rfl, s.l h1, fun p hp => kk _ _ _ _ (Ex.new s hp) (.dice upd_same) q⟩
end
end Pu
namespace Pu
open PySem PySem.Spec PyProof.Rows L2 Ly
/-- one clause: its class, the slot of its name, its suite -/
structure Cl where
  c : Value
  nm : Option Nat
  ts : Addr → Value → Option Addr → TS
def shut (D : Ends) : Option Nat → Ends
  | none => D
  | some i => { nx := fun σ H => D.nx (σ.set i none) H, rt := D.rt, bk := fun σ H => D.bk (σ.set i none) H, ct := fun σ H => D.ct (σ.set i none) H }
def put1 (a : Addr) : Option Nat → L2.St → L2.St
  | none, σ => σ
  | some i, σ => σ.set i (some (.ref a))
def wCls (K : PySem.W.Frag) (Wo : WX) (D : Ends) : List Cl → WX
  | [] => Wo
  | q :: r => fun cls d σ H => ∃ b, PySem.W.exmOne K cls q.c = some b ∧ (b = true → ∀ a, H a = none → q.ts a cls d (shut D q.nm) (put1 a q.nm σ) H) ∧ (b = false → wCls K Wo D r cls d σ H)
def NmOk (X : Cx) : Option Str → Option Nat → Prop
  | none, none => True
  | some n, some i => X.N[i]? = some n ∧ X.env.kindOf n = some .local
  | _, _ => False
inductive ClsOk (X : Cx) : List ExceptHandler → List Cl → Prop
  | nil : ClsOk X [] []
  | cons {x : Str} {q : Cl} {n : Option Str} {b1 : Stmt} {su : List Stmt} {p1 p2 : Pos} {hs : List ExceptHandler} {qs : List Cl} (hc : Names X x q.c) (hn : NmOk X n q.nm)
      (hsu : ∀ (a : Addr) (ob : Obj) (cls : Value) (d : Option Addr) (pn : List (Addr × Obj)), Zc cls d ob → (∃ fs, ob.data = .fields fs) → PSs (X.suite a ((a, ob) :: pn)) (b1 :: su) (q.ts a cls d)) (r : ClsOk X hs qs) :
      ClsOk X (.ExceptHandler (some (.Name x p1)) n (b1 :: su) p2 :: hs) (q :: qs)
section
variable {X : Cx} {body : List Stmt} {h1 : ExceptHandler} {hs : List ExceptHandler} {qs : List Cl} {pos : Pos} {tb : WX → TS} {Wo : WX}
theorem jvr (st : X.stack = X.env :: X.outer) (fr : X.env.frame = some X.env.locals) (nd : X.N.Nodup) (tk : Takes X Wo)
    (hb : ∀ (W : WX) (pn : List (Addr × Obj)) (xe : Value → Shared → Prop), Takes (X.tr pn xe) W →
      PassesOwn (model X.prog X.w) X.A X.env xe → PSs (X.tr pn xe) body (tb W))
    (hh : ClsOk X (h1 :: hs) qs) : PS X (.Try body (h1 :: hs) [] [] pos) (fun D σ H => tb (wCls X.K Wo D qs) D σ H) := by
  refine ⟨fun pins s σ H D I h => ?_⟩
  have ok := I.ok
  have frs' : X.A.frames = some (X.env :: X.outer) := ok.frames.trans (congrArg some st)
  refine wpAny_Try_except ?_
  refine wpAny_mono ((hb (wCls X.K Wo D qs) (X.pn ++ pins) _ (fun u z caught => ?_) PassesOwn.looking).run [] s σ H D (I.toTry _) h) (fun fl z done => ?_) (fun _ _ y => y)
  · obtain ⟨a, B, z0, pins', σ', H', cls, d, rfl, J', nb, up, sky, na, os, ag, wish⟩ := caught
    have J : Inv X pins σ' H' z0 := J'.ofTry ok
    have sky2 : Sky B (X.env :: X.outer) a (Zc cls d) X.env.locals z.heap := st ▸ sky
    show wpAny (model X.prog X.w) X.A (noteFrame (.ref a) X.env) _ _ _
    refine Sky.land Zc.steady frs' fr sky2 fun g3 fl3 up3 => ?_
    have J3 : Inv X pins σ' H' { z with heap := g3 } :=
      J.landed nb fl3.1 (up.trans up3) os ag
    obtain ⟨ob3, fs3, at3, zc3, dt3⟩ := fl3.there
    have off : a ∉ frs (X.env :: X.outer) := fun hm => by
      obtain ⟨_, ob', at', no⟩ := fl3.2.2.1.mem hm
      rw [at3] at at'
      cases at'
      exact no _ dt3
    have nL : a ≠ X.env.locals := fun y => off (List.mem_filterMap.mpr ⟨X.env, List.mem_cons_self, fr.trans (congrArg some y.symm)⟩)
    have nF : a ∉ X.fs := fun hm => by
      obtain ⟨e, he, q⟩ := List.mem_filterMap.mp hm
      exact off (List.mem_filterMap.mpr ⟨e, List.mem_cons_of_mem _ he, q⟩)
    have S3 := J3.suite at3 dt3 na nL nF
    have go : ∀ {hs' : List ExceptHandler} {qs' : List Cl}, ClsOk X hs' qs' → wCls X.K Wo D qs' cls d σ' H' →
        wpAny (model X.prog X.w) X.A (handleBy (.ref a) X.env hs') (SP X pins D) X.xe { z with heap := g3 } := by
      intro hs' qs' hk
      induction hk with
      | nil =>
        intro wi
        refine wpAny_handleBy_nil ?_
        obtain ⟨_, _, _, ob, fs, T, _, _, at_, _, dt, f1, _⟩ := id fl3
        unfold PySem.passOn
        refine wpAny_bind (wpAny_field at_ dt f1 ?_)
        rw [if_neg (show ¬ (Value.ref T == Value.none) = true by simp)]
        have fin : wpAny (model X.prog X.w) X.A (setFlight (.ref a) X.env.frame)
            (fun _ y => wpAny (model X.prog X.w) X.A (throw (.ref a) : Sem Flow) (SP X pins D) X.xe y) X.xe { z with heap := g3 } := by
          rw [fr]
          refine HandSPX.setFlight_upZ fl3 fun g4 hh4 up4 => wpAny_throw (tk _ _ ?_)
          exact ⟨a, B, z0, pins, σ', H', cls, d, rfl, J, nb, (up.trans up3).trans up4, .inr (.inr (st ▸ hh4)), na, os, ag, wi⟩
        first
          | exact wpAny_bind (wpAny_pure (wpAny_bind fin))
          | exact wpAny_bind fin
      | @cons x q n b1 su p1 p2 hs2 qs2 hc hn hsu r ih =>
        intro wi
        obtain ⟨b, hb1, hyes, hno⟩ := wi
        refine wpAny_handleBy_cons (codeAny_handlers_test ?_) (by intro y; cases y)
        have LT : PySem.W.Looks (model X.prog X.w) g3 (typeOf (.ref a)) cls :=
          fun _ _ _ _ k y => wpAny_typeOf_ref (k _ _ at3) (zc3.1.symm ▸ y)
        have LM := PySem.W.exm_one (M := model X.prog X.w) J3.kIn LT hb1
        have test : ∀ {Q : Value → Shared → Prop} {E : Value → Shared → Prop}, Q q.c { z with heap := g3 } →
            wpAny (model X.prog X.w) (X.A.mark (some (.ref a))) (eval (.Name x p1) X.env) Q E { z with heap := g3 } := fun {Q E} y => by
          obtain ⟨hg, hdb, hm | ⟨hm, hv, hnn⟩⟩ := hc
          · exact ld_glob (X := X.suite a ((a, ob3) :: (X.pn ++ pins))) S3 hg hm y hdb
          · exact ld_blt (X := X.suite a ((a, ob3) :: (X.pn ++ pins))) S3 hg hm hv y hnn hdb
        refine test (LM.here ?_)
        cases b with
        | false =>
          show wpAny _ X.A (handleBy (.ref a) X.env hs2) _ _ _
          exact ih (hno rfl)
        | true =>
          have wy := hyes rfl a na
          revert hn hsu wy
          obtain ⟨qc, qn, qt⟩ := q
          dsimp only
          intro hn hsu wy
          cases qn with
          | none =>
            cases n with
            | some n => exact hn.elim
            | none =>
            refine codeAny_handlers_suite ?_
            refine HandSPX.lands_againZ fl3 fun g4 fl4 up4 => ?_
            have J4 : Inv X pins σ' H' { z with heap := g4 } :=
              J.landed nb fl4.1 ((up.trans up3).trans up4) os ag
            obtain ⟨ob4, fs4, at4, zc4, dt4⟩ := fl4.there
            have S4 := J4.suite at4 dt4 na nL nF
            refine wpAny_mono ((hsu a ob4 cls d (X.pn ++ pins) zc4 ⟨_, dt4⟩).run [] _ _ H' _ S4 wy) (fun f y dn => ?_) (fun _ _ y => False.elim y)
            cases f with
            | ret u =>
              obtain ⟨v6, σ6, H6, S6, r6, q6⟩ := dn
              exact ⟨v6, σ6, H6, S6.unsuite ok, r6, q6⟩
            | _ =>
              obtain ⟨σ6, H6, S6, q6⟩ := dn
              exact ⟨σ6, H6, S6.unsuite ok, q6⟩
          | some i =>
            cases n with
            | none => exact hn.elim
            | some n =>
            obtain ⟨hi, hln⟩ := hn
            refine codeAny_handlers_suite_as ?_
            refine HandSPX.lands_againZ fl3 fun g4 fl4 up4 => ?_
            have J4 : Inv X pins σ' H' { z with heap := g4 } :=
              J.landed nb fl4.1 ((up.trans up3).trans up4) os ag
            obtain ⟨ob4, fs4, at4, zc4, dt4⟩ := fl4.there
            have S4 := J4.suite at4 dt4 na nL nF
            refine store_ok (X := X.suite a ((a, ob4) :: (X.pn ++ pins))) (v := .ref a) S4 nd hi (.inl hln) rfl (fun z5 S5 => ?_) (.inr hln)
            refine wpAny_mono ((hsu a ob4 cls d (X.pn ++ pins) zc4 ⟨_, dt4⟩).run [] z5 _ H' _ S5 wy) (fun f y dn => ?_) (fun _ _ y => False.elim y)
            have fin : ∀ {σ6 : L2.St} {H6 : Hp} {R : Shared → Prop}, Inv (X.suite a ((a, ob4) :: (X.pn ++ pins))) [] σ6 H6 y → (∀ z7, Inv X pins (σ6.set i none) H6 z7 → R z7) →
                wpAny (model X.prog X.w) X.A (do bindName X.env n .none; unbindBehindTheSuite X.env n p2) (fun _ z7 => R z7) X.xe y :=
              fun S6 hq => gone_ok (S6.unsuite ok) nd hi hln hq
            cases f with
            | ret u =>
              obtain ⟨v6, σ6, H6, S6, r6, q6⟩ := dn
              exact fin S6 fun z7 J7 => ⟨_, _, _, J7, r6, q6⟩
            | _ =>
              obtain ⟨σ6, H6, S6, q6⟩ := dn
              exact fin S6 fun z7 J7 => ⟨_, _, J7, q6⟩
    exact go hh wish
  · cases fl with
    | next =>
      obtain ⟨σ', H', J', y⟩ := done
      exact wpAny_execs_nil ⟨σ', H', J'.ofTry ok, y⟩
    | ret u =>
      obtain ⟨v, σ', H', J', r, y⟩ := done
      exact ⟨v, σ', H', J'.ofTry ok, r, y⟩
    | _ =>
      obtain ⟨σ', H', J', y⟩ := done
      exact ⟨σ', H', J'.ofTry ok, y⟩
end
end Pu
namespace Pu
open PySem PySem.Spec PyProof.Rows L2 Ly
/-- a clause -/
structure HC where
  C : Addr
  nm : Option Nat
  S : Exn → Addr → Value → Option Addr → FS
def exC : Exn → Addr
  | .bare C => C
  | .kept C _ _ => C
def exV (a : Addr) (d : Option Addr) : Exn → D
  | .bare _ => .cls a
  | .kept _ ns ds => .exn a (d.getD 0) ns ds
def slotE (n : Nat) (a : Addr) (d : Option Addr) (x : Exn) : Option Nat → Pu.Env
  | none => List.replicate n .un
  | some i => (List.replicate n .un).set i (.val (exV a d x))
def backE (De : EndsD) : EndsD := { nx := fun _ => False, rt := De.rt, ex := fun _ => False }
def jwE : Exn → Value → Option Addr → Prop
  | .bare C, cls, d => cls = .ref C ∧ d = none
  | .kept C _ _, cls, d => cls = .ref C ∧ ∃ dd, d = some dd
def jrQ (K : PySem.W.Frag) (n : Nat) (De : EndsD) : List HC → ZX
  | [] => De.ex
  | q :: r => fun x => ∃ b, PySem.W.exmOne K (.ref (exC x)) (.ref q.C) = some b ∧ if b = true then ∀ a cls d, jwE x cls d → q.S x a cls d (slotE n a d x q.nm) (backE De) else jrQ K n De r x
def sTry (K : PySem.W.Frag) (S : FS) (hs : List HC) : FS := fun ρ De => S ρ { De with ex := jrQ K ρ.length De hs }
section
variable {X : Cx} {K : PySem.W.Frag} {E : XK} {W0 H0 : Hp}
def tDH (K : PySem.W.Frag) (W0 H0 : Hp) (E : XK) (q : HC) (a : Addr) (cls : Value) (d : Option Addr) : TS := fun Dh σ H => ∃ x, tDS K W0 H0 E (q.S x a cls d) Dh σ H
def clOf (K : PySem.W.Frag) (W0 H0 : Hp) (E : XK) (q : HC) : Cl := ⟨.ref q.C, q.nm, tDH K W0 H0 E q⟩
theorem pss_ex {α : Type} {X : Cx} {su : List Stmt} {t : α → TS} (h : ∀ x, PSs X su (t x)) : PSs X su (fun D σ H => ∃ x, t x D σ H) := ⟨fun pins s σ H D I ⟨x, q⟩ => (h x).run pins s σ H D I q⟩
inductive HcOk (X : Cx) (K : PySem.W.Frag) (W0 H0 : Hp) (E : XK) : List ExceptHandler → List HC → Prop
  | nil : HcOk X K W0 H0 E [] []
  | cons {x : Str} {q : HC} {n : Option Str} {b1 : Stmt} {su : List Stmt} {p1 p2 : Pos} {hs : List ExceptHandler} {qs : List HC} (hc : Names X x (.ref q.C)) (hn : NmOk X n q.nm)
      (hsu : ∀ (a : Addr) (ob : Obj) (cls : Value) (d : Option Addr) (pn : List (Addr × Obj)), Zc cls d ob → (∃ fs, ob.data = .fields fs) → ∀ x, PSs (X.suite a ((a, ob) :: pn)) (b1 :: su) (tDS K W0 H0 E (q.S x a cls d))) (r : HcOk X K W0 H0 E hs qs) :
      HcOk X K W0 H0 E (.ExceptHandler (some (.Name x p1)) n (b1 :: su) p2 :: hs) (q :: qs)
theorem HcOk.cls : ∀ {hs : List ExceptHandler} {qs : List HC}, HcOk X K W0 H0 E hs qs → ClsOk X hs (qs.map (clOf K W0 H0 E))
  | _, _, .nil => .nil
  | _, _, .cons hc hn hsu r => .cons (q := clOf K W0 H0 E _) hc hn (fun a ob cls d pn z f => pss_ex (hsu a ob cls d pn z f)) r.cls
theorem jtu {n : Nat} {σ : L2.St} {W H : Hp} (e : Pu.Ex W0 H0 W H) (hl : σ.length = n) : Sat K W0 H0 W (List.replicate n .un) σ H := by
  refine ⟨e, by rw [List.length_replicate]; exact hl, fun _ => none, fun _ _ _ z => (by cases z), fun i b hb => ?_⟩
  have hi : i < n := by
    have := (List.getElem?_eq_some_iff.mp hb).1
    rw [List.length_replicate] at this
    exact this
  rw [List.getElem?_replicate_of_lt hi] at hb
  cases hb
  exact ⟨_, List.getElem?_eq_getElem (by rw [hl]; exact hi), rfl⟩
theorem jwF {W : Hp} {x : Exn} {cls : Value} {d : Option Addr} (r : XRep K W x cls d) (a : Addr) : cls = .ref (exC x) ∧ jwE x cls d ∧ Rep K W (.ref a) (exV a d x) := by
  cases r with
  | bare C => exact ⟨rfl, ⟨rfl, rfl⟩, .cls a⟩
  | kept h1 h2 h3 => exact ⟨rfl, ⟨rfl, _, rfl⟩, .exn h1 h2 h3⟩
theorem jtv {n : Nat} {De : EndsD} {Dh : Ends} {W : Hp} (ok : Ok K W0 H0 E W De Dh) {x : Exn} {cls : Value} {dd : Option Addr} {W' H' : Hp} (e : Pu.Ex W0 H0 W' H') (r : XRep K W' x cls dd) {σ : L2.St} (hl : σ.length = n) :
    ∀ {hs : List HC}, jrQ K n De hs x → wCls K (fun cls d _ H => E cls d H) Dh (hs.map (clOf K W0 H0 E)) cls dd σ H'
  | [], h => ok.ex x cls dd W' H' e r h
  | q :: hs, ⟨b, hb, h⟩ => by
    refine ⟨b, by rw [(jwF r 0).1]; exact hb, fun z a ha => ?_, fun z => ?_⟩
    · subst z
      rw [if_pos rfl] at h
      obtain ⟨_, sh, rv⟩ := jwF r a
      refine ⟨x, W', slotE n a dd x q.nm, backE De, ?_, h a cls dd sh, ⟨fun _ _ _ _ _ _ z => z.elim, fun v W2 H2 d e2 r2 z => ?_, (fun _ _ _ _ _ _ z => z.elim), (fun _ _ _ _ _ _ z => z.elim), fun _ _ _ _ _ _ _ z => z.elim⟩⟩
      · show Sat K W0 H0 W' (slotE n a dd x q.nm) (put1 a q.nm σ) H'
        cases q.nm with
        | none => exact jtu e hl
        | some i => exact (jtu e hl).set rv
      · show (shut Dh q.nm).rt v H2
        cases q.nm with
        | none => exact ok.rt v W2 H2 d e2 r2 z
        | some i => exact ok.rt v W2 H2 d e2 r2 z
    · subst z
      rw [if_neg (by decide)] at h
      exact jtv ok e r hl h
/-- error.f -/
def fXf (cls : Value) (d : Option Addr) (C : Addr) (a : Addr) (f : Str) (F : FE) : FE := fun ρ Q Z => F ρ (fun v => ∃ dd ns ds u, v = .exn a dd ns ds ∧ cls = .ref C ∧ d = some dd ∧ lookD ns ds f = some u ∧ Q u) Z
theorem d_xf {a C : Addr} {oe : Obj} {cls : Value} {d : Option Addr} {pn : List (Addr × Obj)} {e : Expr} {F : FE} {pos : Pos} {n : Str} (T : XfC X.K C) (hno : PySem.W.findIn X.K (.ref C) n = some none) (hz : Zc cls d oe) (hf : ∃ vs, oe.data = .fields vs)
    (he : PE (X.suite a ((a, oe) :: pn)) e (tD K E F)) (hb : attributeBase e n X.env (eval e X.env) = eval e X.env := by rfl) : PE (X.suite a ((a, oe) :: pn)) (.Attribute e n pos) (tD K E (fXf cls d C a n F)) :=
  (pe_xf T hno hz hf he hb).mono fun σ H Qh ⟨W0, H0, W, ρ, Q, Z, st, f, k, x⟩ => ⟨W0, H0, W, ρ, _, Z, st, f, fun v W1 H1 d e1 r ⟨dd, ns, ds, u, z, hc, hd, hl, q⟩ => by
    subst z
    cases r with
    | @exn _ _ fs _ _ h1 h2 h3 =>
      subst h2
      obtain ⟨v, h4, h5⟩ := jww h3 hl
      exact ⟨rfl, hc, dd, fs, v, hd, e1.s _ _ h1, h4, k v W1 H1 u e1 h5 q⟩, x⟩
end
/-- what is known of a class of errors whose field f is read -/
structure ErF (K : PySem.W.Frag) (C : Addr) (f : Str) : Prop where
  xf : XfC K C
  no : PySem.W.findIn K (.ref C) f = some none
def spXi (C : Addr) (f : Str) : Sp := fun vs H Q _ => ∃ a v, vs = [.ref a, v] ∧ H a = some (exo a C none) ∧ ∀ dx, H dx = none → dx ≠ a → Q .non (upd (upd H dx (exd dx [(f, v)])) a (exo a C (some dx)))
structure CalX (P : Program) (w : World) (K : PySem.W.Frag) (mg : Str → Option Value) (base : Heap) (x : Str) (C : Addr) (k : Nat) (f : Str) : Prop where
  o : OexC K C
  g : mg x = some (.ref C)
  ex : ∃ (fI : Addr) (fd : FuncData) (ps : List Str), PySem.W.findIn K (.ref C) "__init__" = some (some (.ref fI)) ∧ PySem.W.typeIn K (.ref fI) = some (.type "function") ∧ FnOk P w K mg base CX0 k fI fd ps (spXi C f) ∧ Binds K fd ps []
def jdO (C : Addr) (f : Str) (F : FE) : FS := fun ρ De => F ρ (fun d => De.ex (.kept C [f] [d])) De.ex
section
variable {X : Cx} {K : PySem.W.Frag} {E : XK} {W0 H0 : Hp} {F : FE} {e : Expr} {x f : Str} {C : Addr} {k : Nat} {p pos pos' : Pos}
theorem jxu {H1 : Hp} {a dx C : Addr} {f : Str} {v : V} (ha : H1 a = none) (hd : dx ≠ a) : upd (del (upd (upd (upd H1 a (exo a C none)) dx (exd dx [(f, v)])) a (exo a C (some dx))) a) dx (.xd [(f, v)]) = upd H1 dx (.xd [(f, v)]) := by
  funext b
  by_cases e1 : b = dx
  · subst e1
    rw [upd_same, upd_same]
  · rw [upd_ne e1, upd_ne e1]
    by_cases e2 : b = a
    · subst e2
      rw [del_same, ha]
    · rw [del_ne e2, upd_ne e2, upd_ne e1, upd_ne e2]
theorem jrR (c : CalX X.prog X.w X.K X.mg X.base x C k f) (hc : X.calm = true) (tk : Takes X (fun cls d _ H => E cls d H)) (hr : Room (k + 1) X.A) (hg : Gl X x) (he : PE X e (tD K E F)) (hK : X.K = K := by rfl) (hdb : (x == ("__debug__" : Str)) = false := by decide)
    (hs : starEach [e] X.env = (false, eval e X.env) :: starEach [] X.env := by rfl) (hpl : (backTo pos (starEach [] X.env)).any (·.1) = false := by rfl) : PS X (.Raise (some (.Call (.Name x p) [e] [] pos)) none pos') (tDS K W0 H0 E (jdO C f F)) := by
  obtain ⟨fI, fd, ps, h1, h2, h3, h4⟩ := c.ex
  refine (ps_raise hc tk (pmk_oex c.o h1 h2 h3 hr h4 .nil pass0 hg c.g (pa_cons he pa_nil hs) hdb hs hpl)).mono fun D σ H ⟨W, ρ, De, s, q, o⟩ => ?_
  refine ⟨W0, H0, W, ρ, _, _, s, q, fun v W1 H1 d e1 r1 z => ⟨(show 1 ≤ 1000 by decide), fun a ha => ?_⟩, o.xc s⟩
  refine ⟨a, v, rfl, upd_same, fun dx hdx hne => ⟨rfl, dx, [(f, v)], upd_same, ?_, ?_, ?_⟩⟩
  · rw [upd_ne hne, upd_same]
  · rw [upd_ne hne] at hdx
    exact hdx
  · rw [jxu ha hne]
    have hdx' : H1 dx = none := by rw [upd_ne hne] at hdx; exact hdx
    have e2 := Ex.new (o := .xd [(f, v)]) e1.s hdx'
    exact o.ex _ _ _ _ _ ((s.ex.trans e1).trans e2) (.kept upd_same rfl (.one (r1.gx e2.w))) z
end
section
variable {X : Cx} {K : PySem.W.Frag} {E : XK} {A : FA} {g : Fn} {o e : Expr} {es : List Expr} {x m y : Str} {C : Addr} {k n i : Nat} {p pos apos : Pos}
/-- repr(None), repr of a number -/
def rRepr : List V → Hp → VK → Prop := fun xs H Q => (xs = [.non] ∧ Q (.str "None") H) ∨ ∃ i : Int, xs = [.int i] ∧ i.natAbs.log2 < 1920 ∧ Q (.str (toString i)) H
theorem c_repr : CallR X (.builtin "repr") rRepr := by
  intro pins s σ H xs us Q I r h
  rcases h with ⟨rfl, q⟩ | ⟨i, rfl, hi, q⟩
  · obtain ⟨u, rfl, ru⟩ := vals1 r
    obtain rfl : u = Value.none := ru
    exact PySem.P.repr_of_none ⟨.str _, H, I.tok _, ⟨_, rfl⟩, q⟩
  · obtain ⟨u, rfl, ru⟩ := vals1 r
    obtain ⟨t, rfl⟩ := ru
    exact PySem.P.repr_of_int hi ⟨.str _, H, I.tok _, ⟨_, rfl⟩, q⟩
def RRepr (ds : List D) (Q : D → Prop) : Prop := (ds = [.non] ∧ Q (.str "None")) ∨ ∃ i : Int, ds = [.int i] ∧ i.natAbs.log2 < 1920 ∧ Q (.str (toString i))
theorem s_repr : CSnd K rRepr RRepr := fun W H xs ds Q Qh s rr h k => by
  rcases h with ⟨z, q⟩ | ⟨i, z, hi, q⟩
  · subst z
    obtain ⟨v, rfl, r⟩ := ts1 rr
    exact .inl ⟨by rw [r.non_inv], k _ W H _ (Ex.refl s) (.str _) q⟩
  · subst z
    obtain ⟨v, rfl, r⟩ := ts1 rr
    exact .inr ⟨i, by rw [r.int_inv], hi, k _ W H _ (Ex.refl s) (.str _) q⟩
end
end Pu
namespace Pu
open PySem PySem.Spec PyProof.Rows L2 Ly
section
variable {X : Cx} {K : PySem.W.Frag} {CX : CXT} {k : Nat} {C f : Addr} {fd : FuncData} {ps : List Str} {sp : Sp} {E : XK} {m : Str} {pins : List (Addr × Obj)} {σ : L2.St} {H : Hp} {s : Shared} {Q : VK}
/-- the other operand: an instance of the class, or a plain value -/
def YOk (C : Addr) (H : Hp) (y : V) : Prop := (∃ b dx fs, y = .ref b ∧ H b = some (.ins C dx fs)) ∨ flatV y = true
/-- what an own method of two is asked for -/
def rMet (C : Addr) (sp : Sp) (E : XK) (g : VK → VK) : R2 := fun x y H Q => ∃ a dx fs, x = .ref a ∧ H a = some (.ins C dx fs) ∧ YOk C H y ∧ sp [x, y] H (g Q) E
/-- a truth value, as it is or turned -/
def blQ (neg : Bool) (Q : VK) : VK := fun v H' => ∃ b, v = .bl b ∧ Q (.bl (neg != b)) H'
variable {prog : Program} {w : World} {A : Around} {ox : Obj} {od : Option Obj} {a : Addr} {h₀ : Heap} {L : Addr} {mm : Str → Option Value}
end
end Pu
namespace Pu
open PySem PySem.Spec PyProof.Rows L2 Ly
section
variable {X : Cx} {K : PySem.W.Frag} {C : Addr} {k : Nat} {g : Fn}
def rMetD (K : PySem.W.Frag) (C : Addr) (g : Fn) (neg : Bool) : R2 := rMet C (spD K 2 g) E0 (blQ neg)
def RMetO (C : Addr) (g : Fn) (neg : Bool) : D → D → (D → Prop) → Prop := fun a b Q => (∃ ns ds, a = .obj C ns ds) ∧ (flD b = true ∨ ∃ ns ds, b = .obj C ns ds) ∧ g [a, b] (fun d => ∃ c, d = .bl c ∧ Q (.bl (neg != c))) F0
theorem s_met {neg : Bool} : RSnd K (rMetD K C g neg) (RMetO C g neg) := fun W H x y a b Q Qh s r1 r2 ⟨⟨ns, ds, ha⟩, hb, q⟩ k => by
  subst ha
  obtain ⟨p, dx, fs, rfl, h2, h3, h4⟩ := r1.obj_inv s
  have hy : YOk C H y := by
    rcases hb with hb | ⟨ns, ds, hb⟩
    · exact .inr (jrN (r2.full s) hb)
    · subst hb
      obtain ⟨p2, dx2, fs2, rfl, h5, _⟩ := r2.obj_inv s
      exact .inl ⟨_, _, _, rfl, h5⟩
  have fin : ∀ v W' H' d, Ex H H W' H' → Rep K W' v d → (∃ c, d = .bl c ∧ Q (.bl (neg != c))) → blQ neg Qh v H' := fun v W' H' d e r ⟨c, z, q2⟩ => by
    subst z
    cases r
    exact ⟨c, rfl, k _ W H' _ ⟨e.h, Gx.refl _, s.trans e.h, fun _ _ h => .inl h⟩ (.bl _) q2⟩
  exact ⟨p, dx, fs, rfl, h2, hy, H, [.obj C ns ds, b], _, _, Gx.refl _, .cons (r1.full s) (.cons (r2.full s) .nil), rfl, q, fin, fun _ _ _ _ _ _ _ z => z.elim⟩
end
end Pu
namespace Pu
open PySem PySem.Spec PyProof.Rows L2 Ly
section
variable {X : Cx} {K : PySem.W.Frag}
def RRep : D → D → (D → Prop) → Prop
  | .lst ds, .int k, Q => 0 ≤ k ∧ k < 2 ^ 63 ∧ ds.length * k.toNat ≤ sizeLine ∧ Q (.lst (List.replicate k.toNat ds).flatten)
  | _, _, _ => False
theorem jtw {W : Hp} {vs : List V} {ds : List D} (r : RepAll K W vs ds) : ∀ n : Nat, RepAll K W (List.replicate n vs).flatten (List.replicate n ds).flatten
  | 0 => .nil
  | n + 1 => by
    rw [List.replicate_succ, List.replicate_succ, List.flatten_cons, List.flatten_cons]
    exact r.app (jtw r n)
theorem s_rep : RSnd K rRep RRep := fun W H x y a b Q Qh s r1 r2 h k => by
  cases a <;> cases b <;> first
    | exact h.elim
    | skip
  obtain ⟨p, vs, e1, h1, h2, h3⟩ := r1.lst_inv s
  obtain ⟨hk, hk2, hl, q⟩ := h
  have e2 := r2.int_inv
  subst e1
  subst e2
  refine ⟨p, _, vs, rfl, rfl, h1, by omega, hk2, by rw [h2.len]; exact hl, fun l hl2 => ?_⟩
  have r3 := jtw h2
  refine k _ _ _ _ (Ex.new s hl2) (.lst upd_same ((r3 _).gx (Gx.new (s.free hl2))) ?_) q
  rw [List.length_flatten, List.map_replicate, h2.len]
  have e : ∀ (n m : Nat), (List.replicate n m).sum = m * n := fun n m => by
    induction n with
    | zero => simp
    | succ n ih => rw [List.replicate_succ, List.sum_cons, ih, Nat.mul_succ]; omega
  rw [e]
  exact hl
end
end Pu
namespace Pu
open PySem PySem.Spec PyProof.Rows L2 Ly
structure FnG (P : Program) (w : World) (K : PySem.W.Frag) (mg : Str → Option Value) (base : Heap) (CX : CXT) (k : Nat) (f : Addr) (fd : FuncData) (ps : List Str) (sp : Sp) : Prop where
  len : ∀ vs H Q E, sp vs H Q E → vs.length = ps.length
  run : ∀ (A : Around) (outer : List PySem.Env) (s : Shared) (H : Hp) (args : Args) (us : List Value) (vs : List V) (Q : VK) (E : XK),
    Room k A → A.guards = some [] → Env0 P w K mg base A outer s H → BindsTo s fd args (ps.zip us) → Vals vs us → sp vs H Q E →
      codeAny (model P w) A (.call (.ref f) args) (CR CX outer P w H s Q E) s
section
variable {P : Program} {w : World} {K : PySem.W.Frag} {mg : Str → Option Value} {base : Heap}
theorem FnG.of {CX : CXT} {k : Nat} {f : Addr} {fd : FuncData} {ps : List Str} {sp : Sp} (F : FnOk P w K mg base CX k f fd ps sp) : FnG P w K mg base CX k f fd ps sp :=
  ⟨F.len, fun A outer s H args us vs Q E hr _ he hb hv hs => F.run A outer s H args us vs Q E hr he hb hv hs⟩
end
section
variable {X : Cx} {K : PySem.W.Frag} {E : XK} {A : FA} {g : Fn} {e : Expr} {es : List Expr} {p pos : Pos} {k n : Nat} {x : Str}
theorem run_g {CX : CXT} {f : Addr} {fd : FuncData} {ps : List Str} {sp : Sp} {pins : List (Addr × Obj)} {σ : L2.St} {H : Hp} {s : Shared} {Q : VK} {us : List Value} {vs : List V} (F : FnG X.prog X.w X.K X.mg X.base CX k f fd ps sp) (hr : Room k X.A) (gd : X.A.guards = some [])
    (hb : Binds X.K fd ps []) (hx : Passes CX X E) (I : Inv X pins σ H s) (r : Vals vs us) (h : sp vs H Q E) : wpAny (model X.prog X.w) X.A (call (.ref f) us) (EP X pins σ Q) X.xe s := by
  have hl : us.length = ps.length := by rw [← r.length]; exact F.len _ _ _ _ h
  have hb2 := hb s us I.kIn (by rw [List.append_nil]; exact hl)
  rw [List.append_nil] at hb2
  refine wpAny_call (codeAny_mono (F.run X.A X.stack s H ⟨us, []⟩ us vs Q E hr gd I.env0 hb2 r h) fun res s' hq => ?_)
  cases res with
  | error e => exact hx pins σ H s e s' I hq
  | ok fl =>
    cases fl with
    | ret u => exact I.after hq
    | next => exact hq.elim
    | brk => exact hq.elim
    | cont => exact hq.elim
def jwG (K : PySem.W.Frag) : List V → Hp → VK → Prop := fun xs H Q => ∃ a d, xs = [.ref a] ∧ Dp K H (.ref a) d ∧ d.showable = true ∧ d.hasDict = false ∧ d.shown.length ≤ sizeLine ∧ d.depth ≤ 60 ∧ Q (.str d.shown) H
theorem jxv (gd : X.A.guards = some []) (hu : X.A.units + 64 < cLine) (hK : X.K = K := by rfl) : CallR X (.builtin "repr") (jwG K) := by
  subst hK
  intro pins s σ H xs us Q I r h
  obtain ⟨a, d, rfl, dp, h1, h2, h3, h4, q⟩ := h
  obtain ⟨u, rfl, ru⟩ := vals1 r
  cases ru
  obtain ⟨as, rd⟩ := Dp.reads I d _ _ dp rfl
  exact repr_of_reads' rd h1 (fun z => by rw [h2] at z; cases z) gd (by omega) (fun _ _ z => z) (fun h' u tk kk => ⟨.str _, H, I.kept kk, ⟨_, rfl⟩, q⟩) h3
structure ShO (d : D) : Prop where
  sq : ∃ es, seqD d = some es
  lay : (toP d).canLay0 = true
  sho : (toP d).showable = true
  nod : (toP d).hasDict = false
  sz : (toP d).shown.length ≤ sizeLine
  dep : (toP d).depth ≤ 60
def rReprB : List V → Hp → VK → Prop := fun xs H Q => ∃ b, xs = [.bl b] ∧ Q (.str (if b then "True" else "False")) H
def jtx (K : PySem.W.Frag) : List V → Hp → VK → Prop := fun xs H Q => (rRepr xs H Q ∨ rReprB xs H Q) ∨ jwG K xs H Q
theorem jxw (gd : X.A.guards = some []) (hu : X.A.units + 64 < cLine) (hK : X.K = K := by rfl) : CallR X (.builtin "repr") (jtx K) := jcL (jcL c_repr jsn) (jxv gd hu hK)
def jwH (ds : List D) (Q : D → Prop) : Prop := (RRepr ds Q ∨ ∃ b, ds = [.bl b] ∧ Q (.str (if b then "True" else "False"))) ∨ ∃ d, ds = [d] ∧ ShO d ∧ Q (.str (toP d).shown)
theorem jxx : CSnd K (jtx K) jwH := fun W H xs ds Q Qh s rr h kk => by
  rcases h with (h | ⟨b, z, q⟩) | ⟨d, z, o, q⟩
  · exact .inl (.inl (s_repr W H xs ds Q Qh s rr h kk))
  · subst z
    obtain ⟨v, rfl, r⟩ := ts1 rr
    exact .inl (.inr ⟨b, by rw [r.bl_inv], kk _ W H _ (Ex.refl s) (.str _) q⟩)
  · subst z
    obtain ⟨v, rfl, r⟩ := ts1 rr
    obtain ⟨es, hes⟩ := o.sq
    obtain ⟨a, vs, rfl, _⟩ := r.seq_inv s hes
    exact .inr ⟨a, _, rfl, (r.full s).dp o.lay, o.sho, o.nod, o.sz, o.dep, kk _ W H _ (Ex.refl s) (.str _) q⟩
end
end Pu
namespace Pu
open PySem PySem.Spec PyProof.Rows L2 Ly
end Pu
namespace Pu
open PySem PySem.Spec PyProof.Rows L2 Ly PySem.W
section
variable {X : Cx} {K : PySem.W.Frag} {E : XK} {W0 H0 : Hp}
theorem jrS {W : Hp} {R : V → D → Prop} (h : ∀ v d, Rep K W v d → R v d) : ∀ {vs : List V} {ds : List D}, RepAll K W vs ds → EachIs R vs ds
  | _, _, .nil => .nil
  | _, _, .cons r rs => .cons (h _ _ r) (jrS h rs)
theorem joM {R : V → D → Prop} : ∀ {vs : List V} {us : List Value} {ds : List D}, Vals vs us → EachIs R vs ds → EachIs (fun u d => ∃ v, R v d ∧ RelV v u) us ds
  | _, _, _, .nil, .nil => .nil
  | _, _, _, .cons r rs, .cons h hs => .cons ⟨_, h, r⟩ (joM rs hs)
theorem joN {R : V → D → Prop} : ∀ {us : List Value} {ds : List D}, EachIs (fun u d => ∃ v, R v d ∧ RelV v u) us ds → ∃ vs, Vals vs us ∧ EachIs R vs ds
  | _, _, .nil => ⟨[], .nil, .nil⟩
  | _, _, .cons ⟨v, h, r⟩ hs => by
    obtain ⟨vs, h1, h2⟩ := joN hs
    exact ⟨v :: vs, .cons r h1, .cons h h2⟩
theorem jrT {W : Hp} : ∀ {vs : List V} {ds : List D}, EachIs (Rep K W) vs ds → RepAll K W vs ds
  | _, _, .nil => .nil
  | _, _, .cons h hs => .cons h (jrT hs)
def sortD (xs : List D) : List D := xs.mergeSort (dataLe false toP)
theorem each_mem {α β : Type} {R S : α → β → Prop} : ∀ {as : List α} {bs : List β}, EachIs R as bs → (∀ a b, b ∈ bs → R a b → S a b) → EachIs S as bs
  | _, _, .nil, _ => .nil
  | _, _, .cons h hs, k => .cons (k _ _ (List.mem_cons_self ..) h) (each_mem hs fun a b m => k a b (List.mem_cons_of_mem _ m))
theorem Sat.set_comm {W H : Hp} {ρ : Pu.Env} {σ : L2.St} {i j : Nat} (hij : i ≠ j) {a b : B} {x y : Option V} (h : Sat K W0 H0 W ((ρ.set i a).set j b) ((σ.set i x).set j y) H) : Sat K W0 H0 W ((ρ.set j b).set i a) ((σ.set j y).set i x) H := by
  rw [List.set_comm _ _ hij, List.set_comm _ _ hij] at h
  exact h
end
end Pu
namespace Pu
open PySem PySem.Spec PyProof.Rows L2 Ly PySem.W
end Pu
namespace Pu
open PySem PySem.Spec PyProof.Rows L2 Ly
end Pu
namespace Pu
open PySem PySem.Spec PyProof.Rows L2 Ly
end Pu
namespace Pu
open PySem PySem.Spec PyProof.Rows L2 Ly
end Pu
set_option maxHeartbeats 2000000
namespace LzZ
open PySem PySem.Spec PyProof.Rows L2
open PySem.W (kdx_alive)
/-- the tuples made -/
structure LzG (xs ys : Array Value) (lo : Addr) (h : Heap) (as : List Addr) : Prop where
  rise : as.Pairwise (· < ·)
  above : ∀ a ∈ as, lo < a
  pairs : ∀ (j : Nat) (a : Addr), as[j]? = some a → ∃ x y, xs[j]? = some x ∧ ys[j]? = some y ∧ h.get? a = some { cls := .type "tuple", data := .seq #[x, y] }
theorem LzG.there {xs ys : Array Value} {lo : Addr} {h : Heap} {as : List Addr} (g : LzG xs ys lo h as) {a : Addr} (ha : a ∈ as) : a < h.objs.size := by
  obtain ⟨j, hj⟩ := List.mem_iff_getElem?.mp ha
  obtain ⟨_, _, _, _, e⟩ := g.pairs j a hj
  exact Heap.lt_size e
end LzZ
namespace Pu
open PySem PySem.Spec PyProof.Rows L2 Ly
end Pu
set_option maxHeartbeats 1000000
namespace Pu
open PySem PySem.Spec PyProof.Rows L2 Ly
end Pu
namespace Pu
open PySem PySem.Spec PyProof.Rows L2 Ly
theorem pi_keysA {X : Cx} {tg e : Expr} {td : TE} (he : PE X e td) : PI X tg e (iDw Itk td) := by
  refine ⟨fun pins s σ H R I h => ?_⟩
  refine thn (he.run pins s σ H _ I h) fun u s1 ⟨x, H1, I1, rx, d, o, kvs, ex, hd, q⟩ => ?_
  subst ex
  obtain rfl : u = Value.ref d := rx
  obtain ⟨hs, hgd, hx, es, ep, vs, hdt, hsz, kv, hm⟩ := I1.frzK hd
  refine iter_keys hs hgd hx hdt (pi_one (tk := s1.toks) I1 _ (turn_keys _ hdt) ⟨_, Heap.get?_push_size _ rfl, rfl, ?_⟩ q)
  rw [hsz] <;> rfl
end Pu
namespace Pu
open PySem PySem.Spec PyProof.Rows L2 Ly
end Pu
namespace Pu
open PySem PySem.Spec PyProof.Rows L2 Ly
end Pu
namespace Pu
open PySem PySem.Spec PyProof.Rows L2 Ly
end Pu
namespace Pu
open PySem PySem.Spec PyProof.Rows L2 Ly
end Pu
namespace Pu
open PySem PySem.Spec PyProof.Rows L2 Ly
end Pu
namespace Pu
open PySem PySem.Spec PyProof.Rows L2 Ly
end Pu
namespace Pu
open PySem PySem.Spec PyProof.Rows L2 Ly
/-- str(i) -/
def RStrI (ds : List D) (Q : D → Prop) : Prop := ∃ i : Int, ds = [.int i] ∧ i.natAbs.log2 < 1920 ∧ Q (.str (toString i))
theorem jwI {K : PySem.W.Frag} : CSnd K (fun xs H Q => ∃ i, xs = [.int i] ∧ i.natAbs.log2 < 1920 ∧ Q (.str (toString i)) H) RStrI := fun W H xs ds Q Qh s rr ⟨i, z, hi, q⟩ k => by
  subst z
  obtain ⟨v, z, r⟩ := ts1 rr
  subst z
  cases r with
  | val r =>
    cases r
    exact ⟨i, rfl, hi, k _ W H _ (Ex.refl s) (.str _) q⟩
end Pu
namespace Pu
open PySem PySem.Spec PyProof.Rows L2 Ly
end Pu
namespace Pu
open PySem PySem.Spec PyProof.Rows L2 Ly
end Pu
namespace Pu
open PySem PySem.Spec PyProof.Rows L2 Ly
section
variable {X : Cx} {K : PySem.W.Frag} {E : XK} {C : Addr} {k : Nat} {g : Fn} {F : FE} {e v1 v2 : Expr} {rest : List Expr} {pos : Pos}
/-- {e}: a text or a number -/
def fFmt (F : FE) : FE := fun ρ Q Z => F ρ (fun d => (∃ y, d = .str y ∧ y.length ≤ sizeLine ∧ Q (.str y)) ∨ ∃ i, d = .int i ∧ i.natAbs.log2 < 1920 ∧ Q (.str (toString i))) Z
theorem d_fmt (he : PE X e (tD K E F)) : PE X (.FormattedValue e (-1) none pos) (tD K E (fFmt F)) := (pe_fmt he).mono fun σ H Qh ⟨W0, H0, W, ρ, Q, Z, st, f, k, x⟩ => by
  refine ⟨W0, H0, W, ρ, _, Z, st, f, fun v W1 H1 d e1 r q => ?_, x⟩
  rcases q with ⟨y, z, hy, q⟩ | ⟨i, z, hi, q⟩
  · subst z
    cases r
    exact .inl ⟨y, rfl, hy, k _ W1 H1 _ e1 (.str _) q⟩
  · subst z
    cases r
    exact .inr ⟨i, rfl, hi, k _ W1 H1 _ e1 (.str _) q⟩
def fJs : List FE → Str → FE
  | [], acc => fun _ Q _ => Q (.str acc)
  | F :: Fs, acc => fun ρ Q Z => F ρ (fun d => ∃ y, d = .str y ∧ (acc ++ y).length ≤ sizeLine ∧ fJs Fs (acc ++ y) ρ Q Z) Z
inductive PFs (X : Cx) (K : PySem.W.Frag) (E : XK) : List Expr → List FE → Prop where
  | nil : PFs X K E [] []
  | cons {e : Expr} {F : FE} {es : List Expr} {Fs : List FE} (h : PE X e (tD K E F)) (r : PFs X K E es Fs) : PFs X K E (e :: es) (F :: Fs)
theorem PFs.pj {es : List Expr} {Fs : List FE} (h : PFs X K E es Fs) : PJ X es (Fs.map (tD K E)) := by
  induction h with
  | nil => exact .nil
  | cons h _ ih => exact .cons h ih
theorem js_to {σ : L2.St} {Qh : VK} {W0 H0 : Hp} {ρ : Env} {Q : D → Prop} {Z : ZX} : ∀ (Fs : List FE) (acc : Str) (W H : Hp), Sat K W0 H0 W ρ σ H → fJs Fs acc ρ Q Z → (∀ v W' H' d, Ex W H W' H' → Rep K W' v d → Q d → Qh v H') → XC K E W H Z →
    tJs (Fs.map (tD K E)) acc σ H fun out H1 => Qh (.str out) H1
  | [], acc, W, H, st, q, kk, x => kk _ W H _ (Ex.refl st.see) (.str _) q
  | F :: Fs, acc, W, H, st, q, kk, x => by
    refine ⟨W0, H0, W, ρ, _, Z, st, q, fun v W1 H1 d e1 r ⟨y, z, hy, q2⟩ => ?_, x⟩
    subst z
    cases r
    exact ⟨y, rfl, hy, js_to Fs _ W1 H1 (st.ext e1) q2 (fun v W' H' d e r q => kk v W' H' d (e1.trans e) r q) (x.ext e1)⟩
/-- f'..' of two parts or more -/
theorem d_js {Fs : List FE} (h : PFs X K E (v1 :: v2 :: rest) Fs) : PE X (.JoinedStr (v1 :: v2 :: rest) pos) (tD K E (fJs Fs Str.empty)) := (pe_joined h.pj).mono fun σ H Qh ⟨W0, H0, W, ρ, Q, Z, st, f, k, x⟩ => js_to Fs _ W H st f k x
end
end Pu
namespace Od
open PySem PySem.Spec PyProof.Rows L2 Ly
section
variable {prog : Program} {w : World} {A : Around} {E : Value → Shared → Prop} {s : Shared}
/-- what the object of a dict shows of its keys -/
def DObj (o : Obj) (ks : List V) : Prop := o.ExactDict ∧ ∃ (es : Array DictEntry) (ep : Nat), o.data = .dict es ep ∧ Paired (fun (k : V) (e : DictEntry) => RelV k e.key) ks es.toList
end
end Od
namespace Od
open PySem PySem.Spec PyProof.Rows L2 Ly
def Fz (H : Hp) (d : Addr) (ks : List V) : Prop := (d == sysModules) = false ∧ ∃ o u, H d = some (.frz o u) ∧ DObj o ks
theorem Fz.gx {H H' : Hp} {d : Addr} {ks : List V} (e : Gx H H') (h : Fz H d ks) : Fz H' d ks := let ⟨a, o, u, b, c⟩ := h; ⟨a, o, u, e _ _ b, c⟩
end Od
namespace Pu
open PySem PySem.Spec PyProof.Rows L2 Ly
end Pu
namespace Pu
open PySem PySem.Spec PyProof.Rows L2 Ly
section
variable {X : Cx} {K : PySem.W.Frag} {E : XK} {F G : FE} {e o : Expr} {te : TE} {pos apos : Pos}
def jty (F G : FE) : FA := fun ρ Q Z => F ρ (fun a => ∃ z, a = .str z ∧ G ρ (fun b => ∃ y, b = .str y ∧ (y.length == 0) = false ∧ z.length + 2 ≤ sizeLine ∧ (Txt.split z y).length ≤ sizeLine ∧ Q ((Txt.split z y).map .str)) Z) Z
theorem jrU {W : Hp} : ∀ ys : List Str, RepAll K W (ys.map V.str) (ys.map D.str)
  | [] => .nil
  | y :: ys => .cons (.str y) (jrU ys)
end
def RIntS (ds : List D) (Q : D → Prop) : Prop := ∃ z n, ds = [.str z] ∧ PySem.intText? z = some n ∧ z.length ≤ 640 ∧ Q (.int n)
theorem s_intS {K : PySem.W.Frag} : CSnd K (fun xs H Q => ∃ a n, xs = [.str a] ∧ PySem.intText? a = some n ∧ a.length ≤ 640 ∧ Q (.int n) H) RIntS := fun W H xs ds Q Qh s rr ⟨z, n, e, hn, hl, q⟩ k => by
  subst e
  obtain ⟨v, rfl, r⟩ := ts1 rr
  cases r with
  | val r =>
    cases r
    exact ⟨z, n, rfl, hn, hl, k _ W H _ (Ex.refl s) (.int _) q⟩
end Pu
namespace Pu
open PySem PySem.Spec PyProof.Rows L2 Ly
end Pu
namespace Pu
open PySem PySem.Spec PyProof.Rows L2 Ly
end Pu
namespace Pu
open PySem PySem.Spec PyProof.Rows L2 Ly
section
variable {X : Cx} {K : PySem.W.Frag} {E : XK} {F G : FE} {A : FA} {g : Fn} {e o : Expr} {es : List Expr} {m x : Str} {C : Addr} {k n : Nat} {p pos apos : Pos}
theorem jxy (ho : PE X o (tD K E F)) (he : PE X e (tD K E G)) (hs : starEach [e] X.env = [(false, eval e X.env)] := by rfl) (hbase : attributeBase o "split" X.env (eval o X.env) = eval o X.env := by rfl) (hline : (apos.endLine == pos.line) = true := by rfl) :
    PE X (.Call (.Attribute o "split" apos) [e] [] pos) (tDN K E (jty F G)) := (pe_split ho he hs hbase hline).mono fun σ H Qh ⟨W0, H0, W, ρ, Q, Z, st, f, k, x⟩ => by
  refine ⟨W0, H0, W, ρ, _, Z, st, f, fun v W1 H1 d e1 r ⟨z, hz, q⟩ => ?_, x⟩
  subst hz
  cases r
  refine ⟨⟨z, rfl⟩, W0, H0, W1, ρ, _, Z, st.ext e1, q, fun v2 W2 H2 d2 e2 r2 ⟨y, hy, h0, hl, hn, q2⟩ => ?_, x.ext e1⟩
  subst hy
  cases r2
  exact ⟨z, y, rfl, rfl, h0, hl, fun p hp => k p _ W2 _ _ ((e1.trans e2).trans (Ex.hid e2.s hp)) ((e1.trans e2).h.free hp) (e2.s.free hp) upd_same (jrU _) (by rw [List.length_map]; exact hn) q2⟩
end
end Pu
namespace Pu
open PySem PySem.Spec PyProof.Rows L2 Ly
end Pu
namespace Pu
open PySem PySem.Spec PyProof.Rows L2 Ly
end Pu
namespace L2
open PySem PySem.Spec PyProof.Rows
end L2
namespace Pu
open PySem PySem.Spec PyProof.Rows L2 Ly
end Pu
namespace Pu
open PySem PySem.Spec PyProof.Rows L2 Ly
/-- Sat, and no own slot stands at Dd -/
def SatO (K : PySem.W.Frag) (W0 H0 W : Hp) (ρ : Env) (σ : L2.St) (H : Hp) (Dd : Addr) : Prop := Ex W0 H0 W H ∧ σ.length = ρ.length ∧
  ∃ oa : Nat → Option Addr, (∀ i j p, oa i = some p → oa j = some p → i = j) ∧ (∀ i b, ρ[i]? = some b → ∃ s, σ[i]? = some s ∧ BRep K H0 W H (oa i) b s) ∧ ∀ i, oa i = some Dd → ρ.length ≤ i
section
variable {K : PySem.W.Frag} {W0 H0 W H W' H' Hb : Hp} {ρ ρ' : Env} {σ σ' : L2.St} {Dd : Addr} {us us' : List V}
theorem SatO.base (h : SatO K W0 H0 W ρ σ H Dd) (hw : W Dd = none) (hd : H Dd = some (.lst us)) : ∃ Hb, Hb Dd = some (.lst us) ∧ Gx H0 Hb ∧ Sat K W Hb W ρ σ H := by
  obtain ⟨h1, h2, oa, h3, h4, h5⟩ := h
  classical
  let P : Addr → Prop := fun a => H0 a = none ∧ ((∃ i, i < ρ.length ∧ oa i = some a) ∨ ∃ p, H a = some (.own p))
  have hP : ∀ a, P a → (if P a then none else H a) = none := fun a q => if_pos q
  refine ⟨fun a => if P a then none else H a, ?_, fun a o ho => ?_, ⟨fun a o ho => ?_, Gx.refl _, h1.s, fun a o ho => .inl ho⟩, h2, oa, h3, fun i b hb => ?_⟩
  · have : ¬ P Dd := by
      rintro ⟨_, ⟨i, hl, hi⟩ | ⟨p, hp⟩⟩
      · exact absurd (h5 i hi) (Nat.not_le_of_lt hl)
      · rw [hd] at hp; cases hp
    show (if P Dd then none else H Dd) = _
    rw [if_neg this]
    exact hd
  · have : ¬ P a := fun q => by rw [q.1] at ho; cases ho
    show (if P a then none else H a) = _
    rw [if_neg this]
    exact h1.h _ _ ho
  · have ho : (if P a then none else H a) = some o := ho
    by_cases q : P a
    · rw [if_pos q] at ho; cases ho
    · rw [if_neg q] at ho
      exact ho
  · have hl : i < ρ.length := (List.getElem?_eq_some_iff.mp hb).1
    obtain ⟨s, h6, h7⟩ := h4 i b hb
    refine ⟨s, h6, ?_⟩
    cases b with
    | un => exact h7
    | val d => exact h7
    | lst ds =>
      obtain ⟨q, vs, e1, e2, e3, e4, e5⟩ := h7
      exact ⟨q, vs, e1, e2, e3, hP q ⟨e4, .inl ⟨i, hl, e1⟩⟩, e5⟩
    | dic ks ds =>
      obtain ⟨q, vs, e1, e2, e3, e4, e5⟩ := h7
      exact ⟨q, vs, e1, e2, e3, hP q ⟨e4, .inl ⟨i, hl, e1⟩⟩, e5⟩
    | obj a C ns ds =>
      obtain ⟨q, dx, vs, e0, e1, e2, e3, e4, e5, e6, e7, e8⟩ := h7
      exact ⟨q, dx, vs, e0, e1, e2, e3, hP q ⟨e4, .inl ⟨i, hl, e1⟩⟩, e5, e6, hP dx ⟨e7, .inr ⟨q, e6⟩⟩, e8⟩
    | bor q ks ds => exact h7
    | dit ks ds =>
      obtain ⟨q, vs, e1, e2, e3, e4, e5⟩ := h7
      exact ⟨q, vs, e1, e2, e3, hP q ⟨e4, .inl ⟨i, hl, e1⟩⟩, e5⟩
theorem SatO.mut (h : SatO K W0 H0 W ρ σ H Dd) (h0 : H0 Dd = none) (hw : W Dd = none) (hd : H Dd = some (.lst us)) : SatO K W0 H0 W ρ σ (upd H Dd (.lst us')) Dd := by
  obtain ⟨h1, h2, oa, h3, h4, h5⟩ := h
  refine ⟨h1.mut h0 hw, h2, oa, h3, fun i b hb => ?_, h5⟩
  obtain ⟨s, h6, h7⟩ := h4 i b hb
  have hl : i < ρ.length := (List.getElem?_eq_some_iff.mp hb).1
  exact ⟨s, h6, h7.mut (fun z => absurd (h5 i z) (Nat.not_le_of_lt hl)) fun x z => by rw [hd] at z; cases z⟩
end
end Pu
namespace Pu
open PySem PySem.Spec PyProof.Rows L2 Ly
end Pu
namespace Pu
open PySem PySem.Spec PyProof.Rows L2 Ly
end Pu
namespace Pu
open PySem PySem.Spec PyProof.Rows L2 Ly
end Pu
namespace Pu
open PySem PySem.Spec PyProof.Rows L2 Ly
end Pu
namespace Pu
open PySem PySem.Spec PyProof.Rows L2 Ly
end Pu
namespace Pu
open PySem PySem.W PySem.Spec PyProof.Rows L2 Ly
section
variable {X : Cx} {K : PySem.W.Frag} {E : XK} {F G : FE} {e a b : Expr} {te : TE} {p apos cpos pos : Pos}
def encS (q : Str × Int) : PyData := .tuple [.str q.1, .int q.2]
/-- the pair's tuple in the heap -/
def PrAt (h : Heap) (lo : Addr) (v : Value) (q : Str × Int) : Prop := ∃ t t1 t2, v = .ref t ∧ lo < t ∧ h.get? t = some { cls := .type "tuple", data := .seq #[.str q.1 t1, .int q.2 t2] }
theorem PrAt.reads {h h' : Heap} {lo : Addr} {v : Value} {q : Str × Int} (x : PrAt h lo v q) (k : ∀ b o, h.get? b = some o → h'.get? b = some o) : Reads h' v (encS q) [] := by
  obtain ⟨t, t1, t2, rfl, _, e⟩ := x
  exact .tuple (k _ _ e) rfl rfl (.cons (.str q.1 t1) (.cons (.int q.2 t2) .nil))
end
end Pu
namespace Pu
open PySem PySem.W PySem.Spec PyProof.Rows L2 Ly
end Pu
namespace Pu
open PySem PySem.Spec PyProof.Rows L2 Ly
end Pu
namespace Pu
open PySem PySem.Spec PyProof.Rows L2 Ly
inductive TupD : D → Prop
  | str (x : Str) : TupD (.str x)
  | int (i : Int) : TupD (.int i)
  | tup {ds : List D} (h : ∀ d ∈ ds, TupD d) : TupD (.tup ds)
section
variable {K : PySem.W.Frag} {H : Hp}
mutual
theorem Rep.uniq (hI : ∀ a us vs, SqT K H a us → SqT K H a vs → us = vs) : ∀ {v : V} {d : D}, Rep K H v d → ∀ {d' : D}, TupD d → TupD d' → Rep K H v d' → d = d'
  | _, _, .non, _, t, _, _ => nomatch t
  | _, _, .bl _, _, t, _, _ => nomatch t
  | _, _, .int _, _, _, _, r => by cases r; rfl
  | _, _, .str _, _, _, _, r => by cases r; rfl
  | _, _, .lst _ _ _, _, t, _, _ => nomatch t
  | _, _, .tup h hs _, d', t, t', r => by
    cases r with
    | tup h2 hs2 _ =>
      cases t with
      | tup t =>
      cases t' with
      | tup t' =>
      have e := hI _ _ _ (SqT.of h) (SqT.of h2)
      subst e
      rw [RepAll.uniq hI hs t t' hs2]
    | tup0 h2 =>
      have e := hI _ _ _ (SqT.of h) h2.sq
      subst e
      cases hs
      rfl
    | lst => cases t'
    | dic => cases t'
    | obj => cases t'
    | dice => cases t'
    | cls => cases t'
    | exn => cases t'
    | lsk => cases t'
    | dit => cases t'
    | exm => cases t'
    | exf => cases t'
    | xt => cases t'
  | _, _, .tup0 h, d', t, t', r => by
    cases r with
    | tup h2 hs2 _ =>
      have e := hI _ _ _ h.sq (SqT.of h2)
      subst e
      cases hs2
      rfl
    | tup0 _ => rfl
    | lst => cases t'
    | dic => cases t'
    | obj => cases t'
    | dice => cases t'
    | cls => cases t'
    | exn => cases t'
    | lsk => cases t'
    | dit => cases t'
    | exm => cases t'
    | exf => cases t'
    | xt => cases t'
  | _, _, .dic _ _ _ _, _, t, _, _ => nomatch t
  | _, _, .obj _ _ _, _, t, _, _ => nomatch t
  | _, _, .dice _, _, t, _, _ => nomatch t
  | _, _, .cls _, _, t, _, _ => nomatch t
  | _, _, .exn _ _ _, _, t, _, _ => nomatch t
  | _, _, .lsk _ _ _, _, t, _, _ => nomatch t
  | _, _, .dit _ _ _ _, _, t, _, _ => nomatch t
  | _, _, .exm _ _, _, t, _, _ => nomatch t
  | _, _, .exf _ _ _, _, t, _, _ => nomatch t
  | _, _, .xt _ _, _, t, _, _ => nomatch t
theorem RepAll.uniq (hI : ∀ a us vs, SqT K H a us → SqT K H a vs → us = vs) : ∀ {vs : List V} {ds : List D}, RepAll K H vs ds → ∀ {ds' : List D}, (∀ d ∈ ds, TupD d) → (∀ d ∈ ds', TupD d) → RepAll K H vs ds' → ds = ds'
  | _, _, .nil, _, _, _, r => by cases r; rfl
  | _, _, .cons h hs, ds', t, t', r => by
    cases r with
    | cons h2 hs2 =>
      rw [Rep.uniq hI h (t _ (List.mem_cons_self ..)) (t' _ (List.mem_cons_self ..)) h2, RepAll.uniq hI hs (fun d hd => t d (List.mem_cons_of_mem _ hd)) (fun d hd => t' d (List.mem_cons_of_mem _ hd)) hs2]
end
end
section
variable {X : Cx} {K : PySem.W.Frag} {C : Addr} {k n : Nat} {g : Fn}
/-- what the own == says of two instances whose first fields differ -/
def NeTo (K : PySem.W.Frag) (g : Fn) (a b : Addr) (H : Hp) : Prop := ∃ W C ns ns2 x0 y0 xs ys, Gx W H ∧ Rep K W (.ref a) (.obj C ns (x0 :: xs)) ∧ Rep K W (.ref b) (.obj C ns2 (y0 :: ys)) ∧ TupD x0 ∧ TupD y0 ∧ x0 ≠ y0 ∧ g [.obj C ns (x0 :: xs), .obj C ns2 (y0 :: ys)] (fun d => d = .bl false) F0
theorem NeTo.ne {pins : List (Addr × Obj)} {s : Shared} {σ : L2.St} {H : Hp} {a b : Addr} (I : Inv X pins σ H s) (h : NeTo X.K g a b H) : a ≠ b := by
  rintro rfl
  obtain ⟨W, C, ns, ns2, x0, y0, xs, ys, hg, r1, r2, t1, t2, hne, _⟩ := h
  cases r1 with
  | obj k1 k2 k3 =>
  cases r2 with
  | obj k4 k5 k6 =>
  rw [k1] at k4
  cases k4
  generalize List.map Prod.snd _ = vs at k3 k6
  cases k3 with
  | cons p1 p2 =>
  cases k6 with
  | cons p3 p4 =>
  exact hne (Rep.uniq (fun a us vs h1 h2 => I.tuple_inj h1 h2) (p1.gx hg) t1 t2 (p3.gx hg))
end
end Pu
namespace Pu
open PySem PySem.Spec PyProof.Rows L2 Ly
end Pu
namespace Pu
open PySem PySem.Spec PyProof.Rows L2 Ly
def keyDs : List D → Option (List Key)
  | [] => some []
  | d :: ds => match keyD d, keyDs ds with
    | some k, some r => some (k :: r)
    | _, _ => none
def keyTD : D → Option (List Key)
  | .tup (d :: ds) => keyDs (d :: ds)
  | .tup [] => bif t0 then none else some []
  | _ => none
def valDt : List (List Key) → List D → List Key → Option D
  | k' :: ks, d :: ds, k => if k' = k then some d else valDt ks ds k
  | _, _, _ => none
def jms (ks : List (List Key)) (k : List Key) : List (List Key) := if (ks.any fun x => decide (x = k)) = true then ks else ks ++ [k]
def jrV (ks : List (List Key)) (ds : List D) (k : List Key) (d : D) : List D := if (ks.any fun x => decide (x = k)) = true then List.zipWith (fun x y => if x = k then d else y) ks ds else ds ++ [d]
section
variable {K : PySem.W.Frag} {W H : Hp}
theorem jtz : ∀ {vs : List V} {ds : List D} {k : List Key}, RepAll K W vs ds → keyDs ds = some k → vs = k.map kV
  | _, _, k, .nil, h => by cases h; rfl
  | _, _, k, .cons (d := d) (ds := ds) r rs, h => by
    unfold keyDs at h
    cases c : keyD d with
    | none => rw [c] at h; cases h
    | some k0 =>
      cases c2 : keyDs ds with
      | none => rw [c, c2] at h; cases h
      | some r0 =>
        rw [c, c2] at h
        cases h
        rw [key_v r c, jtz rs c2]
        rfl
theorem jwJ {v : V} {d : D} {k : List Key} (r : Rep K W v d) (h : keyTD d = some k) : ∃ b, v = .ref b ∧ W b = some (.tup (k.map kV)) := by
  cases r with
  | @tup a vs ds h1 h2 h3 =>
    cases ds with
    | nil =>
      cases h2
      cases q : t0 with
      | true =>
        unfold keyTD at h
        rw [q] at h
        cases h
      | false =>
        unfold keyTD at h
        rw [q] at h
        cases h
        exact ⟨a, rfl, h1⟩
    | cons d ds =>
    have := jtz h2 (show keyDs (d :: ds) = some k from h)
    subst this
    exact ⟨a, rfl, h1⟩
  | tup0 q =>
    unfold keyTD at h
    rw [q.1] at h
    cases h
  | _ => cases h
theorem jqN : ∀ k : List Key, RepAll K W (k.map kV) (k.map kD)
  | [] => .nil
  | k :: r => .cons (jwA k) (jqN r)
theorem jwK {k : List Key} : ∀ {kvs : List (List Key × V)} {ds : List D}, RepAll K W (kvs.map Prod.snd) ds → (valV kvs k = none ∧ valDt (kvs.map Prod.fst) ds k = none) ∨ ∃ v d, valV kvs k = some v ∧ valDt (kvs.map Prod.fst) ds k = some d ∧ Rep K W v d
  | [], _, _ => .inl ⟨rfl, rfl⟩
  | (k', v) :: kvs, d :: ds, .cons r rs => by
    unfold valV
    rw [List.find?_cons, List.map_cons]
    by_cases h : k' = k
    · refine .inr ⟨v, d, ?_, ?_, r⟩
      · rw [decide_eq_true h]
        rfl
      · show (if k' = k then some d else _) = some d
        rw [if_pos h]
    · rw [decide_eq_false h]
      have e : valDt (k' :: kvs.map Prod.fst) (d :: ds) k = valDt (kvs.map Prod.fst) ds k := by
        show (if k' = k then some d else _) = _
        rw [if_neg h]
      rw [e]
      exact jwK rs
theorem jwL {k : List Key} : ∀ kvs : List (List Key × V), (kvs.any fun kv => decide (kv.1 = k)) = ((kvs.map Prod.fst).any fun x => decide (x = k))
  | [] => rfl
  | p :: kvs => by rw [List.any_cons, List.map_cons, List.any_cons, jwL kvs]
theorem jvs {k : List Key} {v : V} {d : D} {kvs : List (List Key × V)} {ds : List D} (r : Rep K W v d) (rs : RepAll K W (kvs.map Prod.snd) ds) : (putK kvs k v).map Prod.fst = jms (kvs.map Prod.fst) k ∧ RepAll K W ((putK kvs k v).map Prod.snd) (jrV (kvs.map Prod.fst) ds k d) := by
  unfold putK jms jrV
  rw [jwL]
  by_cases h : ((kvs.map Prod.fst).any fun x => decide (x = k)) = true
  · rw [if_pos h, if_pos h, if_pos h]
    clear h
    have : ∀ {kvs : List (List Key × V)} {ds : List D}, RepAll K W (kvs.map Prod.snd) ds → (kvs.map fun kv => if kv.1 = k then (kv.1, v) else kv).map Prod.fst = kvs.map Prod.fst ∧ RepAll K W ((kvs.map fun kv => if kv.1 = k then (kv.1, v) else kv).map Prod.snd) (List.zipWith (fun x y => if x = k then d else y) (kvs.map Prod.fst) ds) := by
      intro kvs
      induction kvs with
      | nil =>
        intro ds h
        cases h
        exact ⟨rfl, .nil⟩
      | cons p kvs ih =>
        intro ds h
        cases h with
        | cons r1 rs =>
          obtain ⟨h1, h2⟩ := ih rs
          refine ⟨?_, ?_⟩
          · rw [List.map_cons, List.map_cons, h1, List.map_cons]
            congr 1
            split <;> rfl
          · rw [List.map_cons, List.map_cons, List.map_cons, List.zipWith_cons_cons]
            refine .cons ?_ h2
            split
            · exact r
            · exact r1
    exact this rs
  · rw [if_neg h, if_neg h, if_neg h]
    refine ⟨by rw [List.map_append]; rfl, ?_⟩
    rw [List.map_append]
    exact rs.app (.one r)
end
section
variable {X : Cx} {K : PySem.W.Frag} {E : XK} {W0 H0 : Hp} {F G L : FE} {T U : FT} {A N : FA} {S S' : FS} {g : Fn} {tg e a b o : Expr} {es : List Expr} {p pos apos : Pos} {i j k n : Nat} {x m f : Str} {C : Addr} {st : Stmt} {body : List Stmt}
def fGetT (F G : FE) : FE := fun ρ Q Z => F ρ (fun d => ∃ ks ds, d = .dit ks ds ∧ G ρ (fun y => ∃ k v, keyTD y = some k ∧ valDt ks ds k = some v ∧ Q v) Z) Z
theorem d_getT (hu : X.A.units + 1 < cLine) (ho : PE X o (tDT K E F)) (hi : PE X a (tD K E G)) (hs : NoSl a) : PE X (.Subscript o a pos) (tD K E (fGetT F G)) := (pe_dget hu ho hi hs).mono fun σ H Qh ⟨W0, H0, W, ρ, Q, Z, st, f, k, x⟩ => by
  refine ⟨W0, H0, W, ρ, _, Z, st, f, fun v W1 H1 d e1 r ⟨ks, ds, z, q⟩ => ?_, x⟩
  subst z
  refine ⟨W0, H0, W1, ρ, _, Z, st.ext e1, q, fun v2 W2 H2 d2 e2 r2 ⟨kk, u, hk, hv, q2⟩ => ?_, x.ext e1⟩
  obtain ⟨ad, kvs, h1, h2, h3, h4, h5⟩ := (r.ext e2).dit_inv e2.s
  subst h3
  rcases jwK (k := kk) h4 with ⟨g1, g2⟩ | ⟨w, d', g1, g2, g3⟩
  · rw [hv] at g2; cases g2
  · rw [hv] at g2
    cases g2
    obtain ⟨b, hb1, hb2⟩ := jwJ r2 hk
    exact ⟨ad, w, h1, .inr ⟨kvs, kk, b, h2, hb1, e2.s _ _ hb2, g1.symm⟩, k _ W2 H2 _ (e1.trans e2) g3 q2⟩
/-- an expression that makes a dict -/
abbrev FDt := Env → (List (List Key) → List D → Prop) → ZX → Prop
def tDDt (K : PySem.W.Frag) (E : XK) (F : FDt) : TE := fun σ H Qh => ∃ W0 H0 W ρ Q Z, Sat K W0 H0 W ρ σ H ∧ F ρ Q Z ∧
  (∀ p kvs W' H' ds, Ex W H W' H' → H p = none → W' p = none → H' p = some (.dT kvs) → RepAll K W' (kvs.map Prod.snd) ds → kvs.length ≤ sizeLine → Q (kvs.map Prod.fst) ds → Qh (.ref p) H') ∧ XC K E W H Z
def fDit (F : FDt) : FE := fun ρ Q Z => F ρ (fun ks ds => Q (.dit ks ds)) Z
variable {Fd : FDt}
theorem d_ddt (h : PE X e (tDDt K E Fd)) : PE X e (tD K E (fDit Fd)) := h.mono fun σ H Qh ⟨W0, H0, W, ρ, Q, Z, st, f, k, x⟩ => ⟨W0, H0, W, ρ, _, Z, st, f, fun p kvs W' H' ds e hp hw h' r n q =>
  k _ _ H' _ (e.see hp hw h') (.dit (.inl upd_same) rfl (r.gx (Gx.new hw)) n) q, x⟩
def fDit0 : FDt := fun _ Q _ => Q [] []
theorem d_dit0 (h : PE X e tDNewT) : PE X e (tDDt K E fDit0) := h.mono fun σ H Qh ⟨W0, H0, W, ρ, Q, Z, st, f, k, x⟩ p hp => k p [] W _ [] (Ex.hid st.see hp) hp (st.see.free hp) upd_same .nil (by decide) f
theorem jmt {W H : Hp} : ∀ {kvs : List (List Key × V)} {bs : List Addr}, Gx W H → IsKeys H kvs bs → (∀ k ∈ kvs.map Prod.fst, k.length ≤ sizeLine) → ∃ W', Ex W H W' H ∧ RepAll K W' (bs.map V.ref) (kvs.map fun kv => .tup (kv.1.map kD))
  | _, _, s, .nil, _ => ⟨W, Ex.refl s, .nil⟩
  | kv :: kvs, b :: bs, s, .cons h t, hl => by
    have e1 := Ex.adopt s h
    obtain ⟨W', e2, r⟩ := jmt e1.s t fun k hk => hl k (List.mem_cons_of_mem _ hk)
    refine ⟨W', e1.trans e2, .cons (.tup (e2.w _ _ upd_same) (jqN _) ?_) r⟩
    rw [List.length_map]
    exact hl _ (List.mem_cons_self ..)
def jtA : List V → Hp → VK → Prop := fun xs H Q => ∃ d kvs, xs = [V.ref d] ∧ Rd H d (.dT kvs) ∧ ∀ p bs, H p = none → IsKeys H kvs bs → Q (.ref p) (upd H p (.lst (bs.map V.ref)))
theorem jvt (hc : X.calm = true) : CallR X (.type "list") jtA := call_list_dT hc
def jtB (ds : List D) (Q : List D → Prop) : Prop := ∃ ks es, ds = [.dit ks es] ∧ (∀ k ∈ ks, k.length ≤ sizeLine) ∧ Q (ks.map fun k => .tup (k.map kD))
theorem jrW : ∀ {kvs : List (List Key × V)} {bs : List Addr} {H : Hp}, IsKeys H kvs bs → bs.length = kvs.length
  | _, _, _, .nil => rfl
  | _, _, _, .cons _ t => by rw [List.length_cons, List.length_cons, jrW t]
theorem jvu : CSndN K jtA jtB := fun W H xs ds Q Qh s rr ⟨ks, es, z, hk, q⟩ k => by
  subst z
  obtain ⟨v, rfl, r⟩ := ts1 rr
  obtain ⟨a, kvs, rfl, h2, rfl, h4, h5⟩ := r.dit_inv s
  refine ⟨a, kvs, rfl, h2, fun l bs hl hb => ?_⟩
  obtain ⟨W', e, rk⟩ := jmt (K := K) s hb hk
  refine k l _ W' _ _ (e.trans (Ex.hid e.s hl)) hl (e.s.free hl) upd_same rk (by rw [List.length_map, jrW hb]; exact h5) ?_
  rw [List.map_map] at q
  exact q
end
end Pu
namespace Pu
open PySem PySem.Spec PyProof.Rows L2 Ly
end Pu
namespace Pu
open PySem PySem.Spec PyProof.Rows L2 Ly
end Pu
namespace Pu
open PySem PySem.Spec PyProof.Rows L2 Ly PySem.W PySem.SeqAt
section
variable {prog : Program} {w : World} {A : Around} {E : Value → Shared → Prop} {s : Shared}
theorem jmK {Q : Value → Shared → Prop} {l b : Addr} {items items2 : Array Value} {e r : Nat → Bool} (hl : s.heap.IsTuple l items) (hb : s.heap.IsTuple b items2)
    (he : ∀ j (h1 : j < items.size) (h2 : j < items2.size), EqAt A.in1 s items[j] items2[j] (e j)) (hr : ∀ j (h1 : j < items.size) (h2 : j < items2.size), e j = false → RcLt A.in1 s items[j] items2[j] (r j))
    (h : Q (.bool (firstLt e r (decide (items.size < items2.size)) (List.range (min items.size items2.size)))) s) : wpAny (model prog w) A (call (.builtin "tuple.__lt__") [.ref l, .ref b]) Q E s := by
  obtain ⟨⟨cls, dd, data, sl⟩, ho, hc, n, hd⟩ := id hl
  obtain ⟨⟨cls2, dd2, data2, sl2⟩, ho2, hc2, n2, hd2⟩ := id hb
  simp only at hc hd hc2 hd2
  subst hc hd hc2 hd2
  exact call_meets PySem.F.slot_tuple_lt ⟨_, ho, rfl⟩ PySem.F.entry_tuple_lt (PySem.F.args_tuple_lt_2 _ _) (tuple_ltAt l b items items2 n n2 dd dd2 sl sl2 e r) ⟨ho, ho2, he, hr, h⟩
theorem jtC {f : Bool} {xs ys : List PyData} {a b : Value} {as bs : List Addr} {Q : Bool → Shared → Prop} (ra : Reads s.heap a (.tuple xs) as) (rb : Reads s.heap b (.tuple ys) bs) (h : alike (.tuple xs) (.tuple ys) = true)
    (hu : A.units + min (PyData.tuple xs).depth (PyData.tuple ys).depth < cLine) (hq : Q (dataLt (.tuple xs) (.tuple ys)) s) : wpAny (model prog w) A (oneLt' f a b) Q E s := by
  cases f with
  | false => exact oneLt_alike (fun z => by cases z) ra rb h (fun z => by cases z) hu hq
  | true =>
    have hal : alikeAll xs ys = true := by simpa [alike] using h
    cases ra with
    | @tuple l o vs n _ as₁ h1 h2 h3 h4 =>
      cases rb with
      | @tuple l' o' vs' n' _ bs₁ k1 k2 k3 k4 =>
        have n1 : vs.size = xs.length := by simpa using ReadsAll.length _ _ _ h4
        have n2 : vs'.size = ys.length := by simpa using ReadsAll.length _ _ _ k4
        rw [dataLt_tuple, ← firstLt_toks xs ys hal, ← n1, ← n2] at hq
        rw [oneLt'_eq]
        simp only [if_true]
        refine wpAny_bind (wpAny_cRoomFor (room_here hu) ?_)
        refine wpAny_bind (wpAny_callSpecialIfBound?_slot (T := "tuple") ⟨_, h1, h2⟩ PySem.F.slot_tuple_lt (jmK (e := pairEq xs ys) (r := fun j => dataLt (xs.getD j .none) (ys.getD j .none)) ⟨_, h1, h2, _, h3⟩ ⟨_, k1, k2, _, k3⟩ (fun j j1 j2 => ?_) (fun j j1 j2 hj => ?_) ?_))
        · have := eqAt_alikeAll xs ys A.in1 s vs.toList vs'.toList _ _ h4 k4 hal (room_in hu) j (by simpa using j1) (by simpa using j2)
          simpa using this
        · have := rcLt_alikeAll xs ys A.in1 s vs.toList vs'.toList _ _ h4 k4 hal (room_in hu) j (by simpa using j1) (by simpa using j2) hj
          simpa using this
        · exact wpAny_truthy_bool hq
/-- tuples, and the first item of each, if there is one -/
inductive TupFs (h : Heap) : List Value → List (Option Value) → Prop
  | nil : TupFs h [] []
  | cons {a : Addr} {o : Obj} {xs : Array Value} {n : Nat} {vs : List Value} {fs : List (Option Value)} (ho : h.get? a = some o) (hc : o.cls = .type "tuple") (hd : o.data = .seq xs n) (r : TupFs h vs fs) : TupFs h (.ref a :: vs) (xs[0]? :: fs)
theorem jmu {M : Model} : ∀ {vs : List Value} {fs : List (Option Value)} {Q : List (Option Value) → Shared → Prop}, TupFs s.heap vs fs → Q fs s → wpAny M A (vs.mapM firstOfTuple') Q E s
  | _, _, _, .nil, h => by rw [List.mapM_nil]; exact wpAny_pure h
  | _, _, Q, .cons ho hc hd t, h => by
    rw [List.mapM_cons]
    refine wpAny_bind ?_
    rw [kas_first_eq]
    refine wpAny_bind (Looks.here (show Looks M s.heap (typeOf (.ref _)) _ from (Looks.ld ho).andThen .now) ?_)
    rw [hc, if_neg (by first | decide | simp)]
    refine wpAny_bind (listItems_at ho hd (wpAny_pure ?_))
    exact wpAny_bind (jmu (Q := fun bs s' => wpAny M A (pure (_ :: bs)) Q E s') t (wpAny_pure h))
theorem joO {M : Model} : ∀ {vs : List Value} {fs : List (Option Value)}, TupFs s.heap vs fs → ∀ v ∈ vs, Looks M s.heap (typeOf v) (.type "tuple")
  | _, _, .cons ho hc hd t, v, hv => by
    rcases List.mem_cons.mp hv with rfl | hv
    · exact hc ▸ (show Looks M s.heap (typeOf (.ref _)) _ from (Looks.ld ho).andThen .now)
    · exact joO t v hv
theorem jtD {M : Model} {vs : List Value} {fs : List (Option Value)} {Q : SortKind → Shared → Prop} (t : TupFs s.heap vs fs) (h2 : 2 ≤ vs.length) (hn : none ∈ fs) (h : Q (if (fs[0]?.bind id).isSome = true then general' else oneType') s) : wpAny M A (keyKind' vs.toArray) Q E s := by
  rw [keyKind'_eq, List.mapM_toArray, map_eq_pure_bind]
  refine wpAny_bind (wpAny_bind (jmu t (wpAny_pure ?_)))
  have hall : (fs.toArray.all fun x => x.isSome) = false := by
    rw [Bool.eq_false_iff]
    intro z
    simp only [List.all_toArray, List.all_eq_true] at z
    exact absurd (z none hn) (by simp)
  rw [if_neg (by rw [hall]; simp)]
  have e0 : fs.toArray[0]? = fs[0]? := by simp
  rw [e0]
  by_cases c : (fs[0]?.bind id).isSome = true
  · rw [if_pos c] at h ⊢
    exact wpAny_pure h
  · rw [if_neg c] at h ⊢
    rw [oneTypeOnly'_eq, List.mapM_toArray, map_eq_pure_bind]
    refine wpAny_bind (wpAny_bind (wpAny_bind (kas_mapM (r := Value.type "tuple") _ (fun v hv Q' hq => (joO t v hv).here hq) (wpAny_pure ?_))))
    obtain ⟨v₁, rest, rfl⟩ : ∃ v₁ rest, vs = v₁ :: rest := by
      match vs, h2 with
      | v₁ :: rest, _ => exact ⟨v₁, rest, rfl⟩
    have hall2 : ((List.map (fun _ => Value.type "tuple") (v₁ :: rest)).toArray.all fun x => x == Value.type "tuple") = true := by
      simp only [List.all_toArray, List.all_map, List.all_eq_true]
      intro _ _
      rfl
    have h0 : (List.map (fun _ => Value.type "tuple") (v₁ :: rest)).toArray[0]? = some (Value.type "tuple") := by simp
    rw [h0]
    simp only [hall2, if_true]
    exact wpAny_pure (wpAny_pure h)
theorem jmv {h : Heap} : ∀ {vs : List Value} {ds : List PyData}, EachIs (fun v d => ∃ as, Reads h v d as) vs ds → (∀ d, d ∈ ds → ∃ xs, d = .tuple xs) → ∃ fs, TupFs h vs fs ∧ ((∃ d ∈ ds, d = .tuple []) → none ∈ fs)
  | _, _, .nil, _ => ⟨[], .nil, fun ⟨_, h, _⟩ => by cases h⟩
  | _, _, .cons (b := d) ⟨as, r⟩ t, ht => by
    obtain ⟨fs, h1, h2⟩ := jmv t fun d hd => ht d (List.mem_cons_of_mem _ hd)
    obtain ⟨xs, rfl⟩ := ht d (List.mem_cons_self ..)
    cases r with
    | @tuple a o vs n _ _ ho hc hd hr =>
      refine ⟨_, .cons ho hc hd h1, fun ⟨d', m, e⟩ => ?_⟩
      rcases List.mem_cons.mp m with q | m
      · rw [e] at q
        have q : xs = [] := by injection q with q; exact q.symm
        subst q
        have hz : vs.toList.length = 0 := by simpa using ReadsAll.length _ _ _ hr
        have e0 : vs[0]? = none := by
          rw [Array.getElem?_eq_none_iff]
          rw [Array.length_toList] at hz
          omega
        rw [e0]
        exact List.mem_cons_self ..
      · exact List.mem_cons_of_mem _ (h2 ⟨d', m, e⟩)
theorem jst {vs : List Value} {ds : List PyData} (e : EachIs (fun v d => ∃ as, Reads s.heap v d as) vs ds) (hal : AllAlike ds) (ht : ∀ d, d ∈ ds → ∃ xs, d = .tuple xs) (hu : ∀ d, d ∈ ds → A.units + d.depth < cLine) : SortsAt prog w A s (dataKind s.heap ds) vs := by
  by_cases c : ∃ d ∈ ds, d = .tuple []
  · have room : ∀ {d d' : PyData}, d ∈ ds → A.units + min d.depth d'.depth < cLine := fun {d d'} hd => Nat.lt_of_le_of_lt (Nat.add_le_add_left (Nat.min_le_left _ _) _) (hu d hd)
    have lt : ∀ (f : Bool) (E : Value → Shared → Prop) (x y : Value) (a b : (dataKind s.heap ds).α) {Q : Bool → Shared → Prop}, (dataKind s.heap ds).keyOf x = some a → (dataKind s.heap ds).keyOf y = some b → Q ((dataKind s.heap ds).blt a b) s → wpAny (model prog w) A (oneLt' f x y) Q E s := fun f E x y a b Q ha hb hq => by
      obtain ⟨d, as, hd, ra, rfl⟩ := dataKind_inv ha
      obtain ⟨d', as', hd', rb, rfl⟩ := dataKind_inv hb
      obtain ⟨xs, rfl⟩ := ht d hd
      obtain ⟨ys, rfl⟩ := ht d' hd'
      exact jtC ra rb (hal _ hd _ hd') (room hd) hq
    obtain ⟨fs, t, hn⟩ := jmv e ht
    refine ⟨fun v hv => ?_, (if (fs[0]?.bind id).isSome = true then general' else oneType'), ?_, fun h2 E Q hq => jtD t h2 (hn c) hq⟩
    · obtain ⟨d, hd, as, r⟩ := e.left v hv
      exact ⟨_, dataKind_some hal hd r⟩
    · by_cases z : (fs[0]?.bind id).isSome = true
      · rw [if_pos z]
        exact fun E x y a b Q ha hb hq => lt false E x y a b ha hb hq
      · rw [if_neg z]
        exact fun E x y a b Q ha hb hq => lt true E x y a b ha hb hq
  · refine SortsAt.data e hal (.inl fun d hd => ?_) hu
    obtain ⟨xs, rfl⟩ := ht d hd
    cases xs with
    | nil => exact absurd ⟨_, hd, rfl⟩ c
    | cons x r => exact ⟨x, r, rfl⟩
theorem joP {β : Type} {vs : List Value} {bs : List β} {enc : β → PyData} {R : Value → β → Prop} {l : Addr} {Q : Value → Shared → Prop} (hl : s.heap.IsList l vs.toArray) (e : EachIs R vs bs) (er : EachIs (fun v b => ∃ as, Reads s.heap v (enc b) as) vs bs) (hal : AllAlike (bs.map enc)) (hk : ∀ d ∈ bs.map enc, ∃ xs, d = .tuple xs) (hL : bs.length ≤ sizeLine)
    (hu : ∀ b, b ∈ bs → A.units + 2 + (enc b).depth < cLine) (h : ∀ out, out.length = bs.length → EachIs R out (bs.mergeSort (dataLe false enc)) → Q (.ref (s.heap.objs.size + 1)) { s with heap := sortedAll s.heap vs (List.toArray out) }) :
    wpAny (model prog w) A (call (.builtin "sorted") [.ref l]) Q E s := by
  have er' : EachIs (fun v b => ∃ as, Reads (sortingHeap (copyHeap s.heap vs) (s.heap.objs.size + 1) vs) v (enc b) as) vs bs := er.mono fun _ _ ⟨as, r⟩ => ⟨as, PyProof.Rows.Reads.keeps (fun _ _ => sorting_copy_old) r⟩
  exact sorted_vals hl (jst (s := { s with heap := sortingHeap (copyHeap s.heap vs) (s.heap.objs.size + 1) vs }) (each_map (R := fun v d => ∃ as, Reads (sortingHeap (copyHeap s.heap vs) (s.heap.objs.size + 1) vs) v d as) enc er') hal hk (bound_map hu)) (by rw [e.length]; exact hL)
    (h _ (by rw [sortVals_length false rfl]; exact e.length) (sortVals_data false e er' hal))
end
section
variable {X : Cx} {K : PySem.W.Frag} {E : XK}
structure SrtT (xs : List D) : Prop where
  lay : ∀ x ∈ xs, (toP x).canLay0 = true
  ali : AllAlike (xs.map toP)
  tup : ∀ d ∈ xs.map toP, ∃ ys, d = .tuple ys
  dep : ∀ x ∈ xs, (toP x).depth ≤ 60
def jtE (K : PySem.W.Frag) : List V → Hp → VK → Prop := fun vs H Q => ∃ (a : Addr) (us : List V) (W : Hp) (xs : List D), vs = [.ref a] ∧ SqL K H a us ∧ Gx W H ∧ RepAll K W us xs ∧ SrtT xs ∧ ∀ us' p, RepAll K W us' (sortD xs) → H p = none → Q (.ref p) (upd H p (.lst us'))
theorem jvv (hu : X.A.units + 64 < cLine) (hK : X.K = K := by rfl) : CallR X (.builtin "sorted") (jtE K) := by
  subst hK
  intro pins s σ H vs us Q I r h
  obtain ⟨a, xs, W, ds, rfl, hs, sw, rp, so, q⟩ := h
  obtain ⟨its, rv, hl, hz⟩ := I.list hs
  rw [Vals.ref1 r]
  have e := joM rv (jrS (R := Rep X.K W) (fun _ _ h => h) rp)
  have len1 := rp.len
  refine joP (enc := toP) hl.isList e (Pu.each_mem e fun u d m ⟨v, rv', ru⟩ => Dp.reads I (toP d) v u ((rv'.gx sw).dp (so.lay d m)) ru) so.ali so.tup (by rw [← len1]; exact hz) (fun d m => by have := so.dep d m; omega) fun out hlen ho => ?_
  obtain ⟨vs', hv, hr⟩ := joN ho
  obtain ⟨ep, he⟩ := PyProof.Rows.sortedAll_at s.heap its out.toArray
  refine ⟨.ref _, upd H (s.heap.objs.size + 1) (.lst vs'), I.laid (t' := s.toks) (fun _ _ => PyProof.Rows.sortedAll_old) (Nat.le_succ _) ⟨?_, out, ep, hv, he⟩, rfl, q vs' _ (jrT hr) (I.hok.fresh (Nat.le_succ _))⟩
  rw [hv.length, hlen, ← len1]
  exact hz
def jtF (ds : List D) (Q : List D → Prop) : Prop := ∃ xs, ds = [.lst xs] ∧ SrtT xs ∧ Q (sortD xs)
theorem jvw : CSndN K (jtE K) jtF := fun W H xs ds Q Qh s rr ⟨ys, z, o, q⟩ k => by
  subst z
  obtain ⟨v, rfl, r⟩ := ts1 rr
  obtain ⟨a, vs, rfl, h2, h3, h4⟩ := r.lst_inv s
  exact ⟨a, vs, W, ys, rfl, SqL.of h2, s, h3, o, fun us' p r2 hp => k p us' W _ _ (Ex.hid s hp) hp (s.free hp) upd_same r2 (by rw [r2.len, sortD, List.length_mergeSort, ← h3.len]; exact h4) q⟩
end
end Pu
namespace Pu
open PySem PySem.Spec PyProof.Rows L2 Ly
end Pu
namespace Pu
open PySem PySem.Spec PyProof.Rows L2 Ly
end Pu
set_option maxHeartbeats 2000000
namespace Pu
open PySem PySem.Spec PyProof.Rows L2 Ly PySem.W PySem.SeqAt
end Pu
namespace Pu
open PySem PySem.Spec PyProof.Rows L2 Ly PySem.W PySem.SeqAt
end Pu
set_option maxHeartbeats 1000000
namespace Pu
open PySem PySem.Spec PyProof.Rows L2 Ly PySem.W
def ltI : List Int → List Int → Bool
  | [], [] => false
  | [], _ :: _ => true
  | _ :: _, [] => false
  | x :: a, y :: b => if x = y then ltI a b else decide (x < y)
theorem jiQ (e r : Nat → Bool) (z : Bool) : ∀ k i, Ob.lexAt (fun j => e (j + 1)) (fun j => r (j + 1)) z i k = Ob.lexAt e r z (i + 1) k
  | 0, _ => rfl
  | k + 1, i => by
    rw [Ob.lexAt_succ, Ob.lexAt_succ, jiQ e r z k (i + 1)]
theorem jrX : ∀ ns ms : List Int, Ob.lexAt (fun j => decide (ns.getD j 0 = ms.getD j 0)) (fun j => decide (ns.getD j 0 < ms.getD j 0)) (decide (ns.length < ms.length)) 0 (min ns.length ms.length) = ltI ns ms
  | [], [] => rfl
  | [], _ :: _ => rfl
  | _ :: _, [] => rfl
  | x :: ns, y :: ms => by
    have ih := jrX ns ms
    have e : min (x :: ns).length (y :: ms).length = min ns.length ms.length + 1 := by
      rw [List.length_cons, List.length_cons]
      omega
    rw [e, Ob.lexAt_succ]
    unfold ltI
    have e0 : decide ((x :: ns).getD 0 0 = (y :: ms).getD 0 0) = decide (x = y) := rfl
    have e1 : decide ((x :: ns).getD 0 0 < (y :: ms).getD 0 0) = decide (x < y) := rfl
    have e2 : decide ((x :: ns).length < (y :: ms).length) = decide (ns.length < ms.length) := by
      rw [List.length_cons, List.length_cons]
      exact decide_eq_decide.mpr (by omega)
    rw [e0, e1, e2]
    by_cases h : x = y
    · rw [decide_eq_true h, if_pos rfl, if_pos h, ← jiQ]
      exact ih
    · rw [decide_eq_false h, if_neg h, if_neg (by decide)]
section
variable {X : Cx} {K : PySem.W.Frag} {E : XK} {W0 H0 : Hp} {F : FE} {a e : Expr} {p p2 q pos : Pos} {i : Nat}
def rLtTI (K : PySem.W.Frag) : R2 := fun x y H Q => ∃ (a b : Addr) (ns ms : List Int), x = .ref a ∧ y = .ref b ∧ SqT K H a (ns.map V.int) ∧ SqT K H b (ms.map V.int) ∧ Q (.bl (ltI ns ms)) H
theorem jxz (hu : X.A.units < cLine) (hK : X.K = K := by rfl) : OpR X (compareOp .Lt) (rLtTI K) := by
  subst hK
  intro pins s σ H x y v u Q I rx ry h
  obtain ⟨a, b, ns, ms, rfl, rfl, ha, hb, q⟩ := h
  cases rx
  cases ry
  obtain ⟨its, r1, p1, _⟩ := I.tuple ha
  obtain ⟨its2, r2, p2, _⟩ := I.tuple hb
  have i1 : IntsAre its ns := Vals.ints r1
  have i2 : IntsAre its2 ms := Vals.ints r2
  have e1 : its.toArray.size = ns.length := by rw [List.size_toArray]; exact i1.length
  have e2 : its2.toArray.size = ms.length := by rw [List.size_toArray]; exact i2.length
  have at1 : ∀ j (h1 : j < its.toArray.size), ∃ t, its.toArray[j] = .int (ns.getD j 0) t := fun j h1 => PyProof.Rows.IntsAre.int_at i1 _ _ (by simp at h1; simp [h1])
  have at2 : ∀ j (h1 : j < its2.toArray.size), ∃ t, its2.toArray[j] = .int (ms.getD j 0) t := fun j h1 => PyProof.Rows.IntsAre.int_at i2 _ _ (by simp at h1; simp [h1])
  have R := Ob.RcOp.tuples_lt (A := X.A) (s := s) (e := fun j => decide (ns.getD j 0 = ms.getD j 0)) (r := fun j => decide (ns.getD j 0 < ms.getD j 0)) p1 p2 hu (fun j h1 h2 => by
    obtain ⟨t, et⟩ := at1 j h1
    obtain ⟨t', et'⟩ := at2 j h2
    rw [et, et']
    have z : (ns.getD j 0 == ms.getD j 0) = decide (ns.getD j 0 = ms.getD j 0) := by
      by_cases q : ns.getD j 0 = ms.getD j 0
      · rw [decide_eq_true q]; exact beq_iff_eq.mpr q
      · rw [decide_eq_false q]; exact beq_eq_false_iff_ne.mpr q
    rw [← z]
    exact SeqAt.EqAt.int_int _ _ _ _) (fun j h1 h2 _ => by
    obtain ⟨t, et⟩ := at1 j h1
    obtain ⟨t', et'⟩ := at2 j h2
    rw [et, et']
    exact Ob.RcOp.lt_int _ _ _ _)
  rw [e1, e2, jrX] at R
  have z : wpAny (model X.prog X.w) X.A (compareOp .Lt (.ref a) (.ref b)) (EP X pins σ Q) X.xe s := R X.prog X.w X.xe (EP X pins σ Q) ⟨.bl _, H, I, rfl, q⟩
  exact z
def tupI (k : List Int) : D := .tup (k.map .int)
theorem jtG {W : Hp} : ∀ {vs : List V} {ns : List Int}, RepAll K W vs (ns.map D.int) → vs = ns.map V.int
  | [], [], _ => rfl
  | [], _ :: _, r => by cases r
  | _ :: _, [], r => by cases r
  | v :: vs, k :: ks, r => by
    cases r with
    | cons r1 r2 =>
      cases r1
      rw [jtG r2]
      rfl
def RLtT (x y : D) (Q : D → Prop) : Prop := ∃ ns ms, x = tupI ns ∧ y = tupI ms ∧ Q (.bl (ltI ns ms))
theorem s_ltT : RSnd K (rLtTI K) RLtT := fun W H x y a b Q Qh s r1 r2 ⟨ns, ms, h1, h2, q⟩ kk => by
  subst h1 h2
  obtain ⟨a, us, rfl, h1, h2, _⟩ := r1.tup_inv s
  obtain ⟨b, vs, rfl, h3, h4, _⟩ := r2.tup_inv s
  rw [jtG h2] at h1
  rw [jtG h4] at h3
  exact ⟨a, b, ns, ms, rfl, rfl, h1, h3, kk _ W H _ (Ex.refl s) (.bl _) q⟩
end
end Pu
namespace Pu
open PySem PySem.Spec PyProof.Rows L2 Ly
def LkHT (H Hl : Hp) : Prop := ∀ a o, H a = some o → Hl a = some o ∨ ∃ (kvs : List (List Key × V)) (od : Obj), o = .dT kvs ∧ Hl a = some (.frz od (.dT kvs))
def StatT (K : PySem.W.Frag) (te : TE) (F : FE) : Prop := ∀ W0 H0 W ρ σ H Q Z, Sat K W0 H0 W ρ σ H → F ρ Q Z → ∃ v d, Rep K W v d ∧ Q d ∧ ∀ Hl Qh, LkHT H Hl → Qh v Hl → te σ Hl Qh
section
variable {K : PySem.W.Frag} {E : XK} {F G L Fk Fv : FE} {T : FT} {A : FA} {g : FG} {vs : List Nat} {te : TE} {f : Str} {i : Nat} {mk : Addr → Obj → List (List Key × V) → It} {its : List (List Key) → List D → List D} {ok : List (List Key) → Prop}
theorem joQ : StatT K (tVar i) (fVar i) := fun W0 H0 W ρ σ H Q Z st ⟨d, hi, q⟩ => by
  obtain ⟨v, h1, h2⟩ := st.val hi
  exact ⟨v, d, h2, q, fun Hl Qh _ h => ⟨v, h1, h⟩⟩
structure DWalkT (K : PySem.W.Frag) (mk : Addr → Obj → List (List Key × V) → It) (its : List (List Key) → List D → List D) (ok : List (List Key) → Prop) : Prop where
  len : ∀ ks ds, ks.length = ds.length → (its ks ds).length ≤ ks.length
  it : ∀ W H d o kvs ds, W d = some (.frz o (.dT kvs)) → Gx W H → RepAll K W (kvs.map Prod.snd) ds → ok (kvs.map Prod.fst) → IterC K W H (mk d o kvs) (its (kvs.map Prod.fst) ds)
def iDwT (mk : Addr → Obj → List (List Key × V) → It) (td : TE) : TI := fun σ H R => td σ H fun x H1 => ∃ d o kvs, x = .ref d ∧ H1 d = some (.frz o (.dT kvs)) ∧ R (mk d o kvs) H1
def fDwT (its : List (List Key) → List D → List D) (ok : List (List Key) → Prop) (F : FE) : FA := fun ρ Q Z => F ρ (fun d => ∃ ks ds, d = .dit ks ds ∧ ok ks ∧ Q (its ks ds)) Z
end
section
variable {X : Cx} {pins : List (Addr × Obj)} {σ : L2.St} {H : Hp} {s : Shared} {d : Addr} {o : Obj}
theorem frzTV {kvs : List (List Key × V)} (I : L2.Inv X pins σ H s) (h : H d = some (.frz o (.dT kvs))) :
    (d == sysModules) = false ∧ s.heap.get? d = some o ∧ o.ExactDict ∧ ∃ (es : Array DictEntry) (ep : Nat), o.data = .dict es ep ∧ es.size = kvs.length ∧
      ∀ (i : Nat) (k : List Key) (v : V), kvs[i]? = some (k, v) → ∃ (en : DictEntry), es[i]? = some en ∧ RelV v en.val := by
  obtain ⟨hd, z, hs, xs, pr, o', es, ep, ho, hx, hdt, he, _⟩ := I.hok d _ h
  rw [hd] at ho
  cases ho
  refine ⟨hs, hd, hx, es, ep, hdt, ?_, fun i k v e => ?_⟩
  · have l1 : es.size = xs.length := size_of_entries he
    have l2 : kvs.length = xs.length := Paired.length pr
    omega
  · obtain ⟨b, hb, e1, e2, e3⟩ := paired_get pr e
    have q := entry_at he i
    rw [hb] at q
    exact ⟨_, q, e3⟩
end
def Itdt (d : Addr) (o : Obj) (kvs : List (List Key × V)) : It :=
  ⟨fun i H => H d = some (.frz o (.dT kvs)) ∧ i < kvs.length, fun i H x H' => H' = H ∧ ∃ k, kvs[i]? = some (k, x), fun i H => H d = some (.frz o (.dT kvs)) ∧ kvs.length ≤ i⟩
section
variable {P : Program} {w : World} {K : PySem.W.Frag} {tg : Expr} {d : Addr} {o : Obj} {es : Array DictEntry} {ep : Nat}
theorem jsu {kvs : List (List Key × V)} (it : Addr) (hod : o.data = .dict es ep) : Turn P w K tg (Itdt d o kvs) [it] it (fun i h => h.IsValIter it d i kvs.length ep) where
  mem := by simp
  obj := fun i h st b hb => by
    have e : b = it := by simpa using hb
    subst e
    obtain ⟨oi, e, c, dd⟩ := st
    exact ⟨oi, e, fun v z => by rw [dd] at z; cases z⟩
  keep := fun i h h' st k => st.at fun oi e => k it (by simp) oi e
  item := by
    intro X hP hw hK hc i pins s σ H E I hf st hg
    subst hP hw hK
    obtain ⟨hd, hi⟩ := hg
    obtain ⟨f0, f1, f2, f3, f4, f5⟩ := hf it (by simp)
    obtain ⟨hs, hgd, hx, es', ep', hdt, hsz, ent⟩ := frzTV I hd
    obtain ⟨rfl, rfl⟩ := dict_ep hod hdt
    obtain ⟨⟨k, v⟩, hkv⟩ : ∃ p, kvs[i]? = some p := ⟨kvs[i], List.getElem?_eq_getElem hi⟩
    obtain ⟨en, hen, ru⟩ := ent i k v hkv
    rw [← hsz] at st
    have hlt : i < es'.size := by omega
    refine wpAny_pyNext_values_item_raw st ⟨o, hgd, hx, hdt⟩ hlt fun h' st' sb => ?_
    have I1 : Inv X pins σ H { s with heap := h' } := I.turned (t' := s.toks) (fun b ob hb e => (sb.2 b hb).trans e) f0 f1 f3 f4 f5
    obtain ⟨oi, e, c, dd⟩ := id st'
    have ev : es'[i].val = en.val := by
      rw [Array.getElem?_eq_getElem hlt] at hen
      cases hen
      rfl
    rw [ev]
    refine ⟨en.val, rfl, go_of (s := { s with heap := h' }) e c dd (by decide) ⟨v, H, I1, ru, ⟨rfl, k, hkv⟩, ?_, fun b hb => (hf b hb).1⟩⟩
    show h'.IsValIter it d (i + 1) kvs.length _
    rw [← hsz]
    exact st'
  done := by
    intro X hP hw hK hc i pins s σ H E I hf st hg
    subst hP hw hK
    obtain ⟨hd, hi⟩ := hg
    obtain ⟨f0, f1, f2, f3, f4, f5⟩ := hf it (by simp)
    obtain ⟨hs, hgd, hx, es', ep', hdt, hsz, ent⟩ := frzTV I hd
    obtain ⟨rfl, rfl⟩ := dict_ep hod hdt
    rw [← hsz] at st
    exact wpAny_pyNext_values_end_raw (I.ok.hd hc) st ⟨o, hgd, hx, hdt⟩ (by omega) fun h' eb => ⟨rfl, I.turned (t' := s.toks) (fun b ob hb e => eb b ob hb e) f0 f1 f3 f4 f5⟩
  self := fun A i s Q E st h => wpAny_pyIter_valiter st h
theorem jsv {kvs : List (List Key × V)} : Walk (Itdt d o kvs) kvs.length (fun H => H d = some (.frz o (.dT kvs))) (fun i H x H' => H' = H ∧ ∃ k, kvs[i]? = some (k, x)) :=
  ⟨fun _ _ hi q => ⟨q, hi⟩, fun _ q => ⟨q, Nat.le_refl _⟩, fun _ _ _ _ _ _ y => y⟩
end
section
variable {X : Cx} {tg e : Expr} {td : TE} {apos cpos : Pos}
theorem jvx (he : PE X e td) : PI X tg e (iDwT Itkt td) := by
  refine ⟨fun pins s σ H R I h => ?_⟩
  refine thn (he.run pins s σ H _ I h) fun u s1 ⟨x, H1, I1, rx, d, o, kvs, ex, hd, q⟩ => ?_
  subst ex
  obtain rfl : u = Value.ref d := rx
  obtain ⟨hs, hgd, hx, es, ep, hdt, hsz, ent⟩ := I1.frzT hd
  refine iter_keys hs hgd hx hdt (pi_one (tk := s1.toks) I1 _ (turn_keysT _ hdt) ⟨_, Heap.get?_push_size _ rfl, rfl, ?_⟩ q)
  rw [hsz] <;> rfl
theorem jsw (he : PE X e td) (hbase : attributeBase e "values" X.env (eval e X.env) = eval e X.env := by rfl) (hline : (apos.endLine == cpos.line) = true := by rfl) : PI X tg (.Call (.Attribute e "values" apos) [] [] cpos) (iDwT Itdt td) := by
  refine ⟨fun pins s σ H R I h => ?_⟩
  refine wpAny_Call_method (T := "dict") (id := "dict.values") hbase rfl hline F.plainAttrs_dict F.slot_dict_values F.type_dict_values (thn (he.run pins s σ H _ I h) fun u s1 ⟨x, H1, I1, rx, d, o, kvs, ex, hd, q⟩ => ?_)
  subst ex
  obtain rfl : u = Value.ref d := rx
  obtain ⟨hs, hgd, hx, es, ep, hdt, hsz, ent⟩ := I1.frzT hd
  have hm : s1.heap.DictRaw d es ep := ⟨o, hgd, hx, hdt⟩
  refine ⟨⟨o, hgd, hx.1⟩, ?_, ?_⟩
  · exact fun b e => by cases e; exact ⟨o, hgd, hx.2.1⟩
  have I2 : Inv X pins σ H1 { s1 with heap := s1.heap.push { cls := .type "dict_values", data := .fields #[.ref d] } } := I1.kept (t' := s1.toks) fun b ob q => Heap.get?_push_of_some _ q
  have fin : wpAny (model X.prog X.w) X.A (pyIter (.ref s1.heap.objs.size)) (PIE X pins σ tg R) X.xe { s1 with heap := s1.heap.push { cls := .type "dict_values", data := .fields #[.ref d] } } := by
    refine wpAny_pyIter_values_raw (d := d) ⟨_, Heap.get?_push_size _ rfl, rfl, rfl⟩ ⟨o, Heap.get?_push_of_some _ hgd, hx, hdt⟩ (pi_one (tk := s1.toks) I2 _ (jsu _ hdt) ⟨_, Heap.get?_push_size _ rfl, rfl, ?_⟩ q)
    rw [hsz] <;> rfl
  show wpAny _ _ (callWith cpos (.builtin "dict.values") [.ref d] [] []) _ X.xe s1
  exact method_meetsIn F.slot_dict_values F.entry_dict_values rfl (PySem.evalArgs_none ⟨rfl, ⟨o, hgd, hx.1⟩, F.args_dict_values_1 _, _, meets_dict_values_raw d hs, ⟨es, ep, hm⟩, fin⟩)
end
section
variable {K : PySem.W.Frag} {E : XK} {F G L Fk Fv : FE} {T : FT} {A : FA} {g : FG} {vs : List Nat} {te : TE} {f : Str} {i : Nat} {mk : Addr → Obj → List (List Key × V) → It} {its : List (List Key) → List D → List D} {ok : List (List Key) → Prop}
abbrev okAny : List (List Key) → Prop := fun _ => True
theorem jvy : DWalkT K Itdt (fun _ ds => ds) okAny := ⟨fun ks ds h => by omega, fun W H d o kvs ds hd s r _ => by
  have hl : ds.length = kvs.length := by rw [← r.len, List.length_map]
  refine ⟨_, _, by rw [hl]; exact jsv (d := d) (o := o) (kvs := kvs), fun H3 e => e _ _ (s _ _ hd), fun i H3 x H4 W3 hi _ e s3 y => ?_⟩
  obtain ⟨rfl, k, hk⟩ := y
  obtain ⟨b, g3, g4⟩ := r.get (i := i) (v := x) (by rw [List.getElem?_map, hk]; rfl)
  exact ⟨W3, b, g3, Ex.refl s3, g4.gx e⟩⟩
abbrev jwM : List (List Key) → Prop := fun ks => ∀ k ∈ ks, k.length ≤ sizeLine
theorem jvz : DWalkT K Itkt (fun ks _ => ks.map fun k => .tup (k.map kD)) jwM := ⟨fun ks ds h => by rw [List.length_map]; omega, fun W H d o kvs ds hd s r hok => by
  refine ⟨_, _, by rw [List.length_map, List.length_map]; exact walk_keysT (d := d) (o := o) (kvs := kvs), fun H3 e => e _ _ (s _ _ hd), fun i H3 x H4 W3 hi _ e s3 y => ?_⟩
  obtain ⟨rfl, k, v, q, hk, rfl, hq⟩ := y
  have e1 := Ex.adopt s3 hq
  refine ⟨_, .tup (k.map kD), by rw [List.getElem?_map, List.getElem?_map, hk]; rfl, e1, .tup upd_same (jqN _) ?_⟩
  rw [List.length_map]
  exact hok k (List.mem_map.mpr ⟨(k, v), List.mem_of_getElem? hk, rfl⟩)⟩
theorem jdp {d : Addr} {od : Obj} {kvs : List (List Key × V)} {W : Hp} (h : W d = some (.dT kvs)) : Le W (upd W d (.frz od (.dT kvs))) := by
  refine ⟨fun a xs q => ?_, fun a u hu q => ?_, fun a C dx fs q => ?_, fun a φ q => ?_, fun a fs q => ?_, fun a vs q => by rw [upd_ne (fun z => by rw [z, h] at q; cases q)]; exact q⟩
  · rw [upd_ne (fun z => by rw [z, h] at q; cases q)]; exact q
  · by_cases z : a = d
    · subst z
      rcases q with q | ⟨o, q⟩
      · rw [h] at q
        cases q
        exact .inr ⟨od, upd_same⟩
      · rw [h] at q; cases q
    · rcases q with q | ⟨o, q⟩
      · exact .inl (by rw [upd_ne z]; exact q)
      · exact .inr ⟨o, by rw [upd_ne z]; exact q⟩
  · rw [upd_ne (fun z => by rw [z, h] at q; cases q)]; exact q
  · rw [upd_ne (fun z => by rw [z, h] at q; cases q)]; exact q
  · rw [upd_ne (fun z => by rw [z, h] at q; cases q)]; exact q
theorem jsx {d : Addr} {od : Obj} {kvs : List (List Key × V)} {W : Hp} (h : W d = some (.frz od (.dT kvs))) : Le W (upd W d (.dT kvs)) := by
  refine ⟨fun a xs q => ?_, fun a u hu q => ?_, fun a C dx fs q => ?_, fun a φ q => ?_, fun a fs q => ?_, fun a vs q => by rw [upd_ne (fun z => by rw [z, h] at q; cases q)]; exact q⟩
  · rw [upd_ne (fun z => by rw [z, h] at q; cases q)]; exact q
  · by_cases z : a = d
    · subst z
      rcases q with q | ⟨o, q⟩
      · rw [h] at q
        cases q
        exact absurd rfl (hu _ _)
      · rw [h] at q
        cases q
        exact .inl upd_same
    · rcases q with q | ⟨o, q⟩
      · exact .inl (by rw [upd_ne z]; exact q)
      · exact .inr ⟨o, by rw [upd_ne z]; exact q⟩
  · rw [upd_ne (fun z => by rw [z, h] at q; cases q)]; exact q
  · rw [upd_ne (fun z => by rw [z, h] at q; cases q)]; exact q
  · rw [upd_ne (fun z => by rw [z, h] at q; cases q)]; exact q
theorem Sat.lockT {W0 H0 W H : Hp} {ρ : Env} {σ : L2.St} {d : Addr} {od : Obj} {kvs : List (List Key × V)} (st : Sat K W0 H0 W ρ σ H) (hd : W d = some (.dT kvs)) : ∃ W0' H0', Sat K W0' H0' (upd W d (.frz od (.dT kvs))) ρ σ (upd H d (.frz od (.dT kvs))) := by
  have hH := st.see _ _ hd
  have e := lk_ex (d := d) (u := .frz od (.dT kvs)) (fun vs z => by rw [hH] at z; cases z) st.ex
  rw [lk_at hd, lk_at hH] at e
  refine ⟨_, _, e, st.len, ?_⟩
  obtain ⟨oa, h1, h2⟩ := st.rep
  refine ⟨oa, h1, fun i b hb => ?_⟩
  obtain ⟨s, h3, h4⟩ := h2 i b hb
  refine ⟨s, h3, ?_⟩
  have ne : ∀ p, W p = none → p ≠ d := fun p hp z => by rw [z, hd] at hp; cases hp
  cases b with
  | un => exact h4
  | val d' =>
    obtain ⟨k1, v, k2, k3⟩ := h4
    exact ⟨k1, v, k2, k3.le (jdp hd)⟩
  | lst es =>
    obtain ⟨p, us, k1, k2, k3, k4, k5, k6, k7⟩ := h4
    exact ⟨p, us, k1, k2, by rw [upd_ne (ne p k3)]; exact k3, jcx.mpr k4, by rw [upd_ne (ne p k3)]; exact k5, k6.le (jdp hd), k7⟩
  | dic ks es =>
    obtain ⟨p, us, k1, k2, k3, k4, k5, k6, k7, k8⟩ := h4
    exact ⟨p, us, k1, k2, by rw [upd_ne (ne p k3)]; exact k3, jcx.mpr k4, by rw [upd_ne (ne p k3)]; exact k5, k6, k7.le (jdp hd), k8⟩
  | obj a C ns es =>
    obtain ⟨p, dx, us, k0, k1, k2, k3, k4, k5, k6, k7, k8, k9, k10⟩ := h4
    exact ⟨p, dx, us, k0, k1, k2, by rw [upd_ne (ne p k3)]; exact k3, jcx.mpr k4, by rw [upd_ne (ne p k3)]; exact k5, by rw [upd_ne (fun z => by rw [z, hH] at k6; cases k6)]; exact k6, jcx.mpr k7, k8, k9.le (jdp hd), k10⟩
  | bor p ks es =>
    obtain ⟨k1, k2, k3, od', kvs', k5, k6, k7, k8⟩ := h4
    exact ⟨k1, k2, by rw [upd_ne (ne p k3)]; exact k3, od', kvs', by rw [upd_ne (ne p k3)]; exact k5, k6, k7.le (jdp hd), k8⟩
  | dit ks es =>
    obtain ⟨p, us, k1, k2, k3, k4, k5, k6, k7, k8⟩ := h4
    exact ⟨p, us, k1, k2, by rw [upd_ne (ne p k3)]; exact k3, jcx.mpr k4, by rw [upd_ne (ne p k3)]; exact k5, k6, k7.le (jdp hd), k8⟩
theorem jtH (H : Hp) : LkHT H H := fun _ _ h => .inl h
theorem jtI {H : Hp} {d : Addr} {od : Obj} {kvs : List (List Key × V)} (h : H d = some (.dT kvs)) : LkHT H (upd H d (.frz od (.dT kvs))) := fun a o q => by
  by_cases z : a = d
  · subst z
    rw [h] at q
    cases q
    exact .inr ⟨kvs, od, rfl, upd_same⟩
  · exact .inl (by rw [upd_ne z]; exact q)
theorem jsy {W H W' H' : Hp} {d : Addr} {od : Obj} {kvs : List (List Key × V)} (hd : W d = some (.dT kvs)) (hH : H d = some (.dT kvs)) (e : Ex (upd W d (.frz od (.dT kvs))) (upd H d (.frz od (.dT kvs))) W' H') : Ex W H (upd W' d (.dT kvs)) (upd H' d (.dT kvs)) := by
  have h := lk_ex (d := d) (u := .dT kvs) (fun vs z => by rw [e.h _ _ upd_same] at z; cases z) e
  rw [lk_at (o := .frz od (.dT kvs)) upd_same, lk_at (o := .frz od (.dT kvs)) upd_same, upd_upd, upd_upd, joG hd, joG hH, lk_at (e.w _ _ upd_same), lk_at (e.h _ _ upd_same)] at h
  exact h
theorem jxA {gh : TG} {tt : TT} {td te : TE} {σ : L2.St} {H : Hp} {Qh : VK} (hs : StatT K td F) (dw : DWalkT K mk its ok) (gs : GSnd K gh g vs) (ht : ∀ σ H Q, tDB K E0 T σ H Q → tt σ H Q) (he : ∀ σ H Q, tD K E0 G σ H Q → te σ H Q)
    (h : tDN K E (fLc (fDwT its ok F) g T G vs) σ H Qh) : tLockE (tLc (iDwT mk td) gh tt te vs) σ H Qh ∨ tLc (iDwT mk td) gh tt te vs σ H Qh := by
  obtain ⟨W0, H0, W, ρ, Q, Z, st, f, k, x⟩ := h
  obtain ⟨v, d, r, ⟨ks, ds, z, hok, hn, q⟩, hst⟩ := hs W0 H0 W ρ σ H _ Z st f
  subst z
  cases r with
  | @dit a kvs _ _ hd hk hr hl =>
    subst hk
    rcases hd with hd | ⟨od, hd⟩
    · have hH := st.see _ _ hd
      refine .inl ⟨a, .dT kvs, hH, trivial, fun od => ?_⟩
      obtain ⟨W0', H0', st'⟩ := st.lockT (od := od) hd
      refine hst _ _ (jtI hH) ⟨a, od, kvs, rfl, upd_same, ?_⟩
      refine jmJ (Qh := fun v H' => H' a = some (.frz od (.dT kvs)) ∧ Qh v (upd H' a (.dT kvs))) gs ht he st' (dw.it _ _ a od kvs ds upd_same st'.see (hr.le (jdp hd)) hok) hn q fun p us W' H' es e hp hw h' r n q => ?_
      have hpa : p ≠ a := fun z => by rw [z, upd_same] at hp; cases hp
      rw [upd_ne hpa] at hp
      refine ⟨e.h _ _ upd_same, k p us _ _ es (jsy hd hH e) hp (by rw [upd_ne hpa]; exact hw) (by rw [upd_ne hpa]; exact h') (r.le (jsx (e.w _ _ upd_same))) n q⟩
    · refine .inr (hst _ _ (jtH H) ⟨a, od, kvs, rfl, st.see _ _ hd, ?_⟩)
      exact jmJ (Qh := Qh) gs ht he st (dw.it _ _ a od kvs ds hd st.see hr hok) hn q k
end
section
variable {X : Cx} {K : PySem.W.Frag} {E : XK} {F G : FE} {T : FT} {tg : Expr} {pos : Pos} {g : FG} {gh : TG} {td : TE} {scope : Scope} {own : List (Str × Nat)} {ifs : List Expr} {elt iter : Expr} {mk : Addr → Obj → List (List Key × V) → It} {its : List (List Key) → List D → List D} {ok : List (List Key) → Prop}
theorem jwN (hs : StatT K td F) (dw : DWalkT K mk its ok) (gs : GSnd K gh g (own.map (·.2))) (hp : PE X (.ListComp elt [⟨tg, iter, ifs, 0⟩] scope pos) (tLc (iDwT mk td) gh (tDB K E0 T) (tD K E0 G) (own.map (·.2)))) :
    PE X (.ListComp elt [⟨tg, iter, ifs, 0⟩] scope pos) (tDN K E (fLc (fDwT its ok F) g T G (own.map (·.2)))) := (PE.or (pe_lock hp) hp).mono fun _ _ _ h => jxA hs dw gs (fun _ _ _ q => q) (fun _ _ _ q => q) h
end
end Pu
namespace Pu
open PySem PySem.Spec PyProof.Rows L2 Ly
end Pu
namespace Pu
open PySem PySem.Spec PyProof.Rows L2 Ly
section
variable {X : Cx} {K : PySem.W.Frag} {E : XK} {F : FE} {e : Expr} {p pos : Pos}
def rIsiF (K : PySem.W.Frag) : List V → Hp → VK → Prop := fun xs H Q => ∃ (a : Addr) (o : Obj) (kvs : List (List Key × V)) (n : String) (b : Bool), xs = [.ref a, .ty n] ∧ H a = some (.frz o (.dT kvs)) ∧ PySem.W.kitOne K (.type "dict") (.type n) = some b ∧ Q (.bl b) H
theorem jtJ (hK : X.K = K := by rfl) : CallR X (.builtin "isinstance") (rIsiF K) := by
  subst hK
  intro pins s σ H xs us Q I r h
  obtain ⟨a, o, kvs, n, b, rfl, ea, e, q⟩ := h
  obtain ⟨u1, u2, rfl, r1, r2⟩ := vals2 r
  cases r1
  cases r2
  obtain ⟨_, _, _, xs, _, o', es, ep, h1, h2, _⟩ := (show ObjOk X.prog X.w H s.heap a (.frz o (.dT kvs)) from I.hok a _ ea)
  exact PySem.W.kia_one PySem.W.kitx_dict I.kIn ⟨o', h1, h2.1⟩ e (fun z => nomatch z) fun tk => ⟨.bl b, H, I.tok tk, rfl, q⟩
def okIT (K : PySem.W.Frag) : D → Prop
  | .dit _ _ => True
  | d => okI K d
def kdT : D → Kd
  | .dit _ _ => .dic
  | d => kdD d
/-- isinstance(x, T), x perhaps a dict with tuples as keys -/
def fIsiT (K : PySem.W.Frag) (n : String) (F : FE) : FE := fun ρ Q Z => F ρ (fun d => okIT K d ∧ Q (.bl (kdIs (kdT d) n))) Z
theorem jtK {n : String} (hn : n ∈ asked) : PySem.W.kitOne K (.type "dict") (.type n) = some (kdIs .dic n) := kit_ty ((show ∀ n ∈ asked, kitB "dict" n = some (kdIs .dic n) by decide +kernel) n hn)
theorem d_isiT {n : String} {y : Str} {p2 : Pos} (hn : n ∈ asked) (hg : Gl X "isinstance") (hm : X.mg "isinstance" = none) (h : PE X e (tDT K E F)) (ht : PE X (.Name y p2) (tC (.ty n))) (hK : X.K = K := by rfl)
    (hs : starEach [e, .Name y p2] X.env = (false, eval e X.env) :: starEach [.Name y p2] X.env := by rfl) (hs2 : starEach [.Name y p2] X.env = [(false, eval (.Name y p2) X.env)] := by rfl) (hpl : (backTo pos (starEach [.Name y p2] X.env)).any (·.1) = false := by rfl) :
    PE X (.Call (.Name "isinstance" p) [e, .Name y p2] [] pos) (tD K E (fIsiT K n F)) := by
  refine (pe_callB (jcL (jiJ hK) (jtJ hK)) hg hm (by decide +kernel) (pa_cons h (pa_cons ht pa_nil hs2) hs) (by decide) (by decide) hs hpl).mono fun σ H Qh ⟨W0, H0, W, ρ, Q, Z, st, f, k, x⟩ => ⟨W0, H0, W, ρ, _, Z, st, f, fun v W1 H1 d e1 r ⟨o, q⟩ => ?_, x⟩
  have fin := k _ W1 H1 _ e1 (.bl _) q
  have full := r.full e1.s
  by_cases c : ∃ ks ds, d = .dit ks ds
  · obtain ⟨ks, ds, rfl⟩ := c
    cases full with
    | dit h1 h2 h3 h4 =>
      rcases h1 with h1 | ⟨od, h1⟩
      · exact .inl ⟨_, .ty n, .type "dict", .type n, _, rfl, .ty n, .base (.dT h1), jtK hn, fin⟩
      · exact .inr ⟨_, od, _, n, _, rfl, h1, jtK hn, fin⟩
  · have o : okI K d := by
      cases d with
      | dit ks ds => exact absurd ⟨ks, ds, rfl⟩ c
      | _ => exact o
    have fin : Qh (V.bl (kdIs (kdD d) n)) H1 := by
      cases d with
      | dit ks ds => exact absurd ⟨ks, ds, rfl⟩ c
      | _ => exact fin
    rcases ty_of full o with ⟨t, _, h1, _, h2⟩ | ⟨C, ns, ds, z, h1, h2⟩
    · exact .inl ⟨v, .ty n, .type t, .type n, _, rfl, .ty n, h1, kit_ty (h2 n hn), fin⟩
    · subst z
      refine .inl ⟨v, .ty n, .ref C, .type n, false, rfl, .ty n, h1, h2.no n hn, ?_⟩
      have : kdIs (kdD (.obj C ns ds)) n = false := by
        show kdIs .own n = false
        rfl
      rw [this] at fin
      exact fin
/-- i ** j of small numbers -/
def RPow (x y : D) (Q : D → Prop) : Prop := ∃ i j : Int, x = .int i ∧ y = .int j ∧ CPowW i j ∧ Q (.int (i ^ j.toNat))
theorem s_pow : RSnd K (rI CPowW fun i j => .int (i ^ j.toNat)) RPow := fun W H x y a b Q Qh s r1 r2 ⟨i, j, h1, h2, hc, q⟩ kk => by
  subst h1 h2
  exact ⟨i, j, r1.int_inv, r2.int_inv, hc, kk _ W H _ (Ex.refl s) (.int _) q⟩
end
end Pu
namespace Pu
open PySem PySem.Spec PyProof.Rows L2 Ly
section
variable {X : Cx} {K : PySem.W.Frag}
def rMulS : R2 := fun x y H Q => ∃ z n, x = .str z ∧ y = .int n ∧ MulOk z n ∧ Q (.str (PySem.Txt.mul z n)) H
theorem jtL : OpR X (binaryOp .Mult) rMulS := by
  intro pins s σ H x y v u Q I rx ry h
  obtain ⟨z, n, rfl, rfl, hz, q⟩ := h
  obtain ⟨t, rfl⟩ := rx
  obtain ⟨t', rfl⟩ := ry
  exact SB.mul hz fun t2 k => ⟨.str (PySem.Txt.mul z n), H, I.tok _, ⟨_, rfl⟩, q⟩
def RMulS : D → D → (D → Prop) → Prop
  | .str z, .int n, Q => MulOk z n ∧ Q (.str (PySem.Txt.mul z n))
  | _, _, _ => False
theorem jwO : RSnd K rMulS RMulS := fun W H x y a b Q Qh s r1 r2 h k => by
  cases a <;> cases b <;> first
    | exact h.elim
    | skip
  exact ⟨_, _, r1.str_inv, r2.int_inv, h.1, k _ W H _ (Ex.refl s) (.str _) h.2⟩
end
end Pu
set_option maxHeartbeats 4000000
namespace Pu
open PySem PySem.Spec PyProof.Rows L2 Ly
end Pu
set_option maxHeartbeats 1000000
namespace Pu
open PySem PySem.Spec PyProof.Rows L2
end Pu
namespace Pu
open PySem PySem.Spec PyProof.Rows L2 Ly
end Pu
namespace Pu
open PySem PySem.Spec PyProof.Rows L2 Ly LamX
def noT (H : Hp) : Hp := fun a => match H a with
  | some (.tbl _) => none
  | o => o
def NoTb (H : Hp) : Prop := ∀ a ps, H a ≠ some (.tbl ps)
section
variable {H H1 H2 H' W W1 W2 W' W0 H0 : Hp} {a : Addr} {o : HO} {T : List (Addr × Str)}
theorem jcv (h : noT H a = some o) : H a = some o ∧ ∀ ps, o ≠ .tbl ps := by
  unfold noT at h
  split at h
  · cases h
  · rename_i n
    exact ⟨h, fun ps z => by subst z; exact n ps h⟩
theorem jbK (h : H a = some o) (n : ∀ ps, o ≠ .tbl ps) : noT H a = some o := by
  unfold noT
  split
  · rename_i ps q
    rw [h] at q
    exact absurd (Option.some.inj q) (n ps)
  · exact h
theorem jex (h : H a = none) : noT H a = none := by
  unfold noT
  rw [h]
theorem jbA : NoTb (noT H) := fun a ps h => (jcv h).2 ps rfl
theorem NoTb.ne (n : NoTb W) (h : W a = some o) : ∀ ps, o ≠ .tbl ps := fun ps z => n a ps (by rw [h, z])
theorem jiR (n : NoTb W) (g : Gx W H) : Gx W (noT H) := fun a o h => jbK (g a o h) (n.ne h)
theorem jft : Gx (noT H) H := fun a o h => (jcv h).1
theorem jvA (g : Gx (noT H) H') (h : noT H' a = none) : noT H a = none := by
  cases q : noT H a with
  | none => rfl
  | some u =>
    rw [jbK (g a u q) (jcv q).2] at h
    cases h
theorem jtM {u : HO} (h : Rd W a u) (n : ∀ ps, u ≠ .tbl ps) : Rd (noT W) a u := by
  rcases h with h | ⟨o, h⟩
  · exact .inl (jbK h n)
  · exact .inr ⟨o, jbK h (fun ps z => by cases z)⟩
theorem noT_l {K : PySem.W.Frag} {vs : List V} (h : SqL K W a vs) : SqL K (noT W) a vs := by
  rcases h with h | h
  · exact .inl (jtM h (fun ps z => by cases z))
  · exact .inr h
mutual
theorem Rep.noT {K : PySem.W.Frag} {W : Hp} : ∀ {v : V} {d : D}, Rep K W v d → Rep K (Pu.noT W) v d
  | _, _, .non => .non
  | _, _, .bl b => .bl b
  | _, _, .int i => .int i
  | _, _, .str x => .str x
  | _, _, .lst h hs n => .lst (jbK h (fun ps z => by cases z)) (RepAll.noT hs) n
  | _, _, .tup h hs n => .tup (jbK h (fun ps z => by cases z)) (RepAll.noT hs) n
  | _, _, .tup0 h => .tup0 h
  | _, _, .dic h k hs n => .dic (jtM h (fun ps z => by cases z)) k (RepAll.noT hs) n
  | _, _, .obj h k hs => .obj (jbK h (fun ps z => by cases z)) k (RepAll.noT hs)
  | _, _, .dice h => .dice (jbK h (fun ps z => by cases z))
  | _, _, .cls C => .cls C
  | _, _, .exn h k hs => .exn (jbK h (fun ps z => by cases z)) k (RepAll.noT hs)
  | _, _, .lsk h hs n => .lsk (noT_l h) (RepAll.noT hs) n
  | _, _, .dit h k hs n => .dit (jtM h (fun ps z => by cases z)) k (RepAll.noT hs) n
  | _, _, .exm h h2 => .exm (jbK h (fun ps z => by cases z)) (jbK h2 (fun ps z => by cases z))
  | _, _, .exf h h2 r => .exf (jbK h (fun ps z => by cases z)) (jbK h2 (fun ps z => by cases z)) (Rep.noT r)
  | _, _, .xt h r => .xt (jbK h (fun ps z => by cases z)) (RepAll.noT r)
theorem RepAll.noT {K : PySem.W.Frag} {W : Hp} : ∀ {vs : List V} {ds : List D}, RepAll K W vs ds → RepAll K (Pu.noT W) vs ds
  | _, _, .nil => .nil
  | _, _, .cons h hs => .cons (Rep.noT h) (RepAll.noT hs)
end
/-- the tables may have grown -/
structure ExT (T : List (Addr × Str)) (W H W' H' : Hp) : Prop where
  ex : Ex W (noT H) W' H'
  tb : Tabs T H'
  nt : NoTb W'
theorem ExT.of (n : NoTb W) (t : Tabs T H) (e : Ex W H W' H') : ExT T W H (noT W') H' := ⟨⟨jft.trans e.h, jiR n e.w, jft.trans e.s, fun a o h => (e.n a o (jcv h).1).imp id (fun z => z.imp jex id)⟩, t.ext e.h, jbA⟩
theorem ExT.trans (x : ExT T W H W1 H1) (y : ExT T W1 H1 W2 H2) : ExT T W H W2 H2 := ⟨⟨fun a o h => y.ex.h a o (jbK (x.ex.h a o h) (jcv h).2), x.ex.w.trans y.ex.w, y.ex.s, fun a o h => by
  rcases y.ex.n a o h with h | h
  · exact x.ex.n a o h
  · exact .inr (h.imp (fun z => jvA x.ex.h z) id)⟩, y.tb, y.nt⟩
theorem Ex.base (s : Ex W0 H0 W H) (n : NoTb H0) (e : Ex W (noT H) W' H') : Ex W0 H0 W' H' := ⟨fun a o h => e.h a o (jbK (s.h a o h) (n.ne h)), s.w.trans e.w, e.s, fun a o h => by
  rcases e.n a o h with h | h
  · exact s.n a o h
  · refine .inr (h.imp (fun z => ?_) id)
    cases q : H0 a with
    | none => rfl
    | some u =>
      rw [jbK (s.h a u q) (n.ne q)] at z
      cases z⟩
theorem ExT.base (s : Ex W0 H0 W H) (n : NoTb H0) (e : ExT T W H W' H') : Ex W0 H0 W' H' := Ex.base s n e.ex
end
section
variable {K : PySem.W.Frag} {H H1 H2 H' W W1 W2 W' W0 H0 : Hp} {ρ : Env} {σ : L2.St} {i : Nat} {T : List (Addr × Str)}
theorem BRep.noT {o : Option Addr} {b : B} {s : Option V} (h : BRep K H0 W H o b s) : BRep K H0 W (noT H) o b s := by
  cases b with
  | un => exact h
  | val d => exact h
  | lst ds =>
    obtain ⟨p, vs, h1, h2, h3, h4, h5, h6⟩ := h
    exact ⟨p, vs, h1, h2, h3, h4, jbK h5 (fun ps z => by cases z), h6⟩
  | dic ks ds =>
    obtain ⟨p, vs, h1, h2, h3, h4, h5, h6⟩ := h
    exact ⟨p, vs, h1, h2, h3, h4, jbK h5 (fun ps z => by cases z), h6⟩
  | obj a C ns ds =>
    obtain ⟨p, dx, vs, h0, h1, h2, h3, h4, h5, h6, h7⟩ := h
    exact ⟨p, dx, vs, h0, h1, h2, h3, h4, jbK h5 (fun ps z => by cases z), jbK h6 (fun ps z => by cases z), h7⟩
  | bor q ks ds =>
    obtain ⟨h1, h2, h3, od, kvs, h5, h6⟩ := h
    exact ⟨h1, h2, h3, od, kvs, jbK h5 (fun ps z => by cases z), h6⟩
  | dit ks ds =>
    obtain ⟨p, vs, h1, h2, h3, h4, h5, h6⟩ := h
    exact ⟨p, vs, h1, h2, h3, h4, jbK h5 (fun ps z => by cases z), h6⟩
/-- another base, below -/
theorem BRep.low {H0' : Hp} {o : Option Addr} {b : B} {s : Option V} (h : BRep K H0 W H o b s) (g : ∀ p, H0 p = none → H0' p = none) : BRep K H0' W H o b s := by
  cases b with
  | un => exact h
  | val d => exact h
  | lst ds =>
    obtain ⟨p, vs, h1, h2, h3, h4, h5⟩ := h
    exact ⟨p, vs, h1, h2, h3, g _ h4, h5⟩
  | dic ks ds =>
    obtain ⟨p, vs, h1, h2, h3, h4, h5⟩ := h
    exact ⟨p, vs, h1, h2, h3, g _ h4, h5⟩
  | obj a C ns ds =>
    obtain ⟨p, dx, vs, h0, h1, h2, h3, h4, h5, h6, h7, h8⟩ := h
    exact ⟨p, dx, vs, h0, h1, h2, h3, g _ h4, h5, h6, g _ h7, h8⟩
  | bor q ks ds => exact h
  | dit ks ds =>
    obtain ⟨p, vs, h1, h2, h3, h4, h5⟩ := h
    exact ⟨p, vs, h1, h2, h3, g _ h4, h5⟩
theorem BRep.wT {o : Option Addr} {b : B} {s : Option V} (h : BRep K H0 W H o b s) : BRep K H0 (Pu.noT W) H o b s := by
  cases b with
  | un => exact h
  | val d =>
    obtain ⟨h1, v, h2, h3⟩ := h
    exact ⟨h1, v, h2, h3.noT⟩
  | lst ds =>
    obtain ⟨p, vs, h1, h2, h3, h4, h5, h6, h7⟩ := h
    exact ⟨p, vs, h1, h2, jex h3, h4, h5, h6.noT, h7⟩
  | dic ks ds =>
    obtain ⟨p, vs, h1, h2, h3, h4, h5, h6, h7, h8⟩ := h
    exact ⟨p, vs, h1, h2, jex h3, h4, h5, h6, h7.noT, h8⟩
  | obj a C ns ds =>
    obtain ⟨p, dx, vs, h0, h1, h2, h3, h4, h5, h6, h7, h8, h9, h10⟩ := h
    exact ⟨p, dx, vs, h0, h1, h2, jex h3, h4, h5, h6, h7, h8, h9.noT, h10⟩
  | bor q ks ds =>
    obtain ⟨h1, h2, h3, od, kvs, h5, h6, h7, h8⟩ := h
    exact ⟨h1, h2, jex h3, od, kvs, h5, h6, h7.noT, h8⟩
  | dit ks ds =>
    obtain ⟨p, vs, h1, h2, h3, h4, h5, h6, h7, h8⟩ := h
    exact ⟨p, vs, h1, h2, jex h3, h4, h5, h6, h7.noT, h8⟩
theorem Sat.extE (s : Sat K W0 H0 W ρ σ H) (n : NoTb H0) (e : Ex W (Pu.noT H) W' H') : Sat K W0 H0 W' ρ σ H' := ⟨Ex.base s.ex n e, s.len, by
  obtain ⟨oa, h1, h2⟩ := s.rep
  refine ⟨oa, h1, fun i b hb => ?_⟩
  obtain ⟨v, h3, h4⟩ := h2 i b hb
  exact ⟨v, h3, h4.noT.ext e⟩⟩
theorem Sat.extT (s : Sat K W0 H0 W ρ σ H) (n : NoTb H0) (e : ExT T W H W' H') : Sat K W0 H0 W' ρ σ H' := s.extE n e.ex
theorem Sat.low {H0' : Hp} (s : Sat K W0 H0 W ρ σ H) (g : Gx H0' H0) : Sat K W0 H0' W ρ σ H := ⟨⟨g.trans s.ex.h, s.ex.w, s.ex.s, fun a o h => (s.ex.n a o h).imp id (fun z => z.imp g.free id)⟩, s.len, by
  obtain ⟨oa, h1, h2⟩ := s.rep
  refine ⟨oa, h1, fun i b hb => ?_⟩
  obtain ⟨v, h3, h4⟩ := h2 i b hb
  exact ⟨v, h3, h4.low fun p => g.free⟩⟩
theorem Sat.wT (s : Sat K W0 H0 W ρ σ H) (n : NoTb W0) : Sat K W0 H0 (Pu.noT W) ρ σ H := ⟨⟨s.ex.h, jiR n s.ex.w, jft.trans s.ex.s, fun a o h => s.ex.n a o (jcv h).1⟩, s.len, by
  obtain ⟨oa, h1, h2⟩ := s.rep
  refine ⟨oa, h1, fun i b hb => ?_⟩
  obtain ⟨v, h3, h4⟩ := h2 i b hb
  exact ⟨v, h3, h4.wT⟩⟩
def upT (H0 H : Hp) : Hp := fun a => match H0 a with
  | some o => some o
  | none => match H a with
    | some (.tbl ps) => some (.tbl ps)
    | some (.ext φ) => some (.ext φ)
    | _ => none
theorem jwP : Gx H0 (upT H0 H) := fun a o h => by
  unfold upT
  rw [h]
theorem upT_hi (g : Gx H0 H) : Gx (upT H0 H) H := fun a o h => by
  unfold upT at h
  split at h
  · rename_i q
    cases h
    exact g _ _ q
  · split at h
    · rename_i q
      cases h
      exact q
    · rename_i q
      cases h
      exact q
    · cases h
theorem jiS {p : Addr} {o : HO} (h0 : H0 p = none) (h : H p = some o) (n1 : ∀ ps, o ≠ .tbl ps) (n2 : ∀ φ, o ≠ .ext φ) : upT H0 H p = none := by
  unfold upT
  rw [h0, h]
  cases o with
  | tbl ps => exact absurd rfl (n1 ps)
  | ext φ => exact absurd rfl (n2 φ)
  | _ => rfl
theorem jrY {p : Addr} (h : upT H0 H p = none) : H0 p = none := jwP.free h
theorem jvB (g : Gx H0 H) (t : Tabs T H) : Tabs T (upT H0 H) := fun p hp => by
  obtain ⟨ps, h1, h2, h3⟩ := t p hp
  have at_ : ∀ {a : Addr} {o : HO}, H a = some o → ((∃ ps, o = .tbl ps) ∨ ∃ φ, o = .ext φ) → upT H0 H a = some o := fun {a o} h k => by
    unfold upT
    split
    · rename_i u q
      rw [← g _ _ q, h]
    · rw [h]
      rcases k with ⟨ps, rfl⟩ | ⟨φ, rfl⟩ <;> rfl
  refine ⟨ps, at_ h1 (.inl ⟨_, rfl⟩), h2, fun pos cv hc => ?_⟩
  obtain ⟨c, e1, e2⟩ := h3 pos cv hc
  exact ⟨c, e1, at_ e2 (.inr ⟨_, rfl⟩)⟩
theorem BRep.upT {o : Option Addr} {b : B} {s : Option V} (h : BRep K H0 W H o b s) : BRep K (Pu.upT H0 H) W H o b s := by
  cases b with
  | un => exact h
  | val d => exact h
  | lst ds =>
    obtain ⟨p, vs, h1, h2, h3, h4, h5, h6⟩ := h
    exact ⟨p, vs, h1, h2, h3, jiS h4 h5 (fun _ z => by cases z) (fun _ z => by cases z), h5, h6⟩
  | dic ks ds =>
    obtain ⟨p, vs, h1, h2, h3, h4, h5, h6⟩ := h
    exact ⟨p, vs, h1, h2, h3, jiS h4 h5 (fun _ z => by cases z) (fun _ z => by cases z), h5, h6⟩
  | obj a C ns ds =>
    obtain ⟨p, dx, vs, h0, h1, h2, h3, h4, h5, h6, h7, h8⟩ := h
    exact ⟨p, dx, vs, h0, h1, h2, h3, jiS h4 h5 (fun _ z => by cases z) (fun _ z => by cases z), h5, h6, jiS h7 h6 (fun _ z => by cases z) (fun _ z => by cases z), h8⟩
  | bor q ks ds => exact h
  | dit ks ds =>
    obtain ⟨p, vs, h1, h2, h3, h4, h5, h6⟩ := h
    exact ⟨p, vs, h1, h2, h3, jiS h4 h5 (fun _ z => by cases z) (fun _ z => by cases z), h5, h6⟩
theorem Sat.up0 (s : Sat K W0 H0 W ρ σ H) : Sat K W (Pu.upT H0 H) W ρ σ H := ⟨⟨upT_hi s.ex.h, Gx.refl _, s.ex.s, fun a o h => .inl h⟩, s.len, by
  obtain ⟨oa, h1, h2⟩ := s.rep
  refine ⟨oa, h1, fun i b hb => ?_⟩
  obtain ⟨v, h3, h4⟩ := h2 i b hb
  exact ⟨v, h3, h4.upT⟩⟩
theorem Ex.down (s : Ex W0 H0 W H) (e : Ex W (upT H0 H) W' H') : Ex W0 H0 W' H' := ⟨jwP.trans e.h, s.w.trans e.w, e.s, fun a o h => (e.n a o h).elim (s.n a o) (fun z => .inr (z.imp jrY id))⟩
theorem Sat.down {ρ' : Env} {σ' : L2.St} (s : Ex W0 H0 W H) (t : Sat K W (Pu.upT H0 H) W' ρ' σ' H') : Sat K W0 H0 W' ρ' σ' H' := ⟨Ex.down s t.ex, t.len, by
  obtain ⟨oa, h1, h2⟩ := t.rep
  refine ⟨oa, h1, fun i b hb => ?_⟩
  obtain ⟨v, h3, h4⟩ := h2 i b hb
  exact ⟨v, h3, h4.low fun p => jrY⟩⟩
end
def ZN : ZX := fun _ => False
def tQ (T : List (Addr × Str)) (K : PySem.W.Frag) (F : FE) : TE := fun σ H Qh => ∃ W0 H0 W ρ Q, Sat K W0 H0 W ρ σ H ∧ NoTb W ∧ Tabs T H ∧ F ρ Q ZN ∧ ∀ v W' H' d, ExT T W H W' H' → Rep K W' v d → Q d → Qh v H'
def tQB (T : List (Addr × Str)) (K : PySem.W.Frag) (F : FT) : TT := fun σ H Qh => ∃ W0 H0 W ρ Q, Sat K W0 H0 W ρ σ H ∧ NoTb W ∧ Tabs T H ∧ F ρ Q ZN ∧ ∀ b W' H', ExT T W H W' H' → Q b → Qh b H'
/-- the list of arguments -/
def tQA (T : List (Addr × Str)) (K : PySem.W.Frag) (F : FA) : TA := fun σ H Qh => ∃ W0 H0 W ρ Q, Sat K W0 H0 W ρ σ H ∧ NoTb W ∧ Tabs T H ∧ F ρ Q ZN ∧ ∀ vs W' H' ds, ExT T W H W' H' → RepAll K W' vs ds → Q ds → Qh vs H'
structure OkQ (T : List (Addr × Str)) (K : PySem.W.Frag) (W0 H0 W : Hp) (De : EndsD) (Dh : Ends) : Prop where
  nx : ∀ W' ρ' σ' H', Gx W W' → Sat K W0 H0 W' ρ' σ' H' → NoTb W' → Tabs T H' → De.nx ρ' → Dh.nx σ' H'
  rt : ∀ v W' H' d, Ex W0 H0 W' H' → NoTb W' → Tabs T H' → Rep K W' v d → De.rt d → Dh.rt v H'
  bk : ∀ W' ρ' σ' H', Gx W W' → Sat K W0 H0 W' ρ' σ' H' → NoTb W' → Tabs T H' → De.bk ρ' → Dh.bk σ' H'
  ct : ∀ W' ρ' σ' H', Gx W W' → Sat K W0 H0 W' ρ' σ' H' → NoTb W' → Tabs T H' → De.ct ρ' → Dh.ct σ' H'
  ex : De.ex = ZN
/-- a statement: the base holds no table -/
def tQS (T : List (Addr × Str)) (K : PySem.W.Frag) (W0 H0 : Hp) (S : FS) : TS := fun Dh σ H => ∃ W ρ De, Sat K W0 H0 W ρ σ H ∧ NoTb W ∧ Tabs T H ∧ S ρ De ∧ OkQ T K W0 H0 W De Dh
section
variable {X : Cx} {T : List (Addr × Str)} {K : PySem.W.Frag} {E : XK} {W0 H0 : Hp} {F G L : FE} {U V : FT} {A N : FA} {S S' : FS} {tg e a b : Expr} {es : List Expr} {pos pos' : Pos} {st : Stmt} {rest body : List Stmt} {i j : Nat}
theorem OkQ.up {W W1 : Hp} {De : EndsD} {Dh : Ends} (o : OkQ T K W0 H0 W De Dh) (g : Gx W W1) : OkQ T K W0 H0 W1 De Dh := ⟨fun W' ρ' σ' H' h => o.nx W' ρ' σ' H' (g.trans h), o.rt, fun W' ρ' σ' H' h => o.bk W' ρ' σ' H' (g.trans h), fun W' ρ' σ' H' h => o.ct W' ρ' σ' H' (g.trans h), o.ex⟩
theorem tq_a (h : PA X es (tDA K E A)) : PA X es (tQA T K A) := h.mono fun σ H Qh ⟨W0, H0, W, ρ, Q, s, n, t, f, k⟩ => ⟨W0, H0, W, ρ, Q, _, s, f, fun v W' H' d e r q => k v _ H' d (ExT.of n t e) r.noT q, fun _ _ _ _ _ _ _ z => z.elim⟩
/-- statements as before: their readings stand over any base -/
theorem jvC {W H : Hp} {ρ : Env} {σ : L2.St} {De : EndsD} {Dh : Ends} (s : Sat K W0 H0 W ρ σ H) (n : NoTb W) (t : Tabs T H) (o : OkQ T K W0 H0 W De Dh) : Ok K W (upT H0 H) E W De Dh := by
  have tb : ∀ {W' H' : Hp}, Ex W (upT H0 H) W' H' → Tabs T H' := fun e => (jvB s.ex.h t).ext e.h
  have go : ∀ {W' H' : Hp} {ρ' : Env} {σ' : L2.St}, Gx W W' → Sat K W (upT H0 H) W' ρ' σ' H' → Gx W (noT W') ∧ Sat K W0 H0 (noT W') ρ' σ' H' := fun g s' => ⟨jiR n g, Sat.down s.ex (s'.wT n)⟩
  refine ⟨fun W' ρ' σ' H' g s' q => ?_, fun v W' H' d e r q => ?_, fun W' ρ' σ' H' g s' q => ?_, fun W' ρ' σ' H' g s' q => ?_, fun x cls dd W' H' e r z => ?_⟩
  · exact o.nx _ ρ' σ' H' (go g s').1 (go g s').2 jbA (tb s'.ex) q
  · refine o.rt v (noT W') H' d ?_ jbA (tb e) r.noT q
    have e' : Ex W0 H0 W' H' := Ex.down s.ex e
    exact ⟨e'.h, s.ex.w.trans (jiR n e.w), jft.trans e'.s, fun a o h => e'.n a o (jcv h).1⟩
  · exact o.bk _ ρ' σ' H' (go g s').1 (go g s').2 jbA (tb s'.ex) q
  · exact o.ct _ ρ' σ' H' (go g s').1 (go g s').2 jbA (tb s'.ex) q
  · rw [o.ex] at z
    exact z.elim
theorem tq_s (h : ∀ W0 H0, PS X st (tDS K W0 H0 E S)) : PS X st (tQS T K W0 H0 S) := ⟨fun pins s σ H D I ⟨W, ρ, De, sat, n, t, q, o⟩ => (h W (upT H0 H)).run pins s σ H D I ⟨W, ρ, De, sat.up0, q, jvC sat n t o⟩⟩
theorem tq_nil : PSs X [] (tQS T K W0 H0 sNext) := pss_nil.mono fun D σ H ⟨W, ρ, De, s, n, t, q, o⟩ => o.nx W ρ σ H (Gx.refl W) s n t q
theorem jbD (h1 : PS X st (tQS T K W0 H0 S)) (h2 : PSs X rest (tQS T K W0 H0 S')) : PSs X (st :: rest) (tQS T K W0 H0 (sSeq S S')) := (pss_cons h1 h2).mono fun D σ H ⟨W, ρ, De, s, n, t, q, o⟩ =>
  ⟨W, ρ, _, s, n, t, q, ⟨fun W' ρ' σ' H' g s' n' t' q' => ⟨W', ρ', De, s', n', t', q', o.up g⟩, o.rt, o.bk, o.ct, o.ex⟩⟩
theorem jrZ (h1 : PS X st (tQS T K W0 H0 S)) : PSs X [st] (tQS T K W0 H0 S) := pss_one h1
theorem tq_if (hN : NoTb H0) {c : Expr} {u v : List Stmt} (hc : PT X c (tQB T K U)) (ha : PSs X u (tQS T K W0 H0 S)) (hb : PSs X v (tQS T K W0 H0 S')) : PS X (.If c u v pos) (tQS T K W0 H0 (sIf U S S')) := (ps_if hc ha hb).mono fun D σ H ⟨W, ρ, De, s, n, t, q, o⟩ =>
  ⟨W0, H0, W, ρ, _, s, n, t, by rw [← o.ex]; exact q, fun b W' H' e z => by
    cases b with
    | true =>
      rw [if_pos rfl] at z
      exact iteT ⟨W', ρ, De, s.extT hN e, e.nt, e.tb, z, o.up e.ex.w⟩
    | false =>
      rw [if_neg (by decide)] at z
      exact iteF ⟨W', ρ, De, s.extT hN e, e.nt, e.tb, z, o.up e.ex.w⟩⟩
theorem jvD {H : Hp} {p : Addr} {o u : HO} (t : Tabs T H) (h : H p = some o) (n1 : ∀ ps, o ≠ .tbl ps) (n2 : ∀ φ, o ≠ .ext φ) : Tabs T (upd H p u) := fun x hx => by
  obtain ⟨ps, h1, h2, h3⟩ := t x hx
  have e1 : x.1 ≠ p := fun z => by
    rw [z, h] at h1
    exact n1 _ (Option.some.inj h1)
  refine ⟨ps, by rw [upd_ne e1]; exact h1, h2, fun pos cv hc => ?_⟩
  obtain ⟨c, e2, e3⟩ := h3 pos cv hc
  refine ⟨c, e2, ?_⟩
  have e4 : c ≠ p := fun z => by
    rw [z, h] at e3
    exact n2 _ (Option.some.inj e3)
  rw [upd_ne e4]
  exact e3
theorem jdG (hN : NoTb H0) {st : Stmt} (h : PS X st (tDrop (tBM K "list" rAppend (tVar i) (tCons (tQ T K F) tNil)))) : PS X st (tQS T K W0 H0 (sApp i F)) := h.mono fun D σ H ⟨W, ρ, De, s, n, t, ⟨ds, hi, q⟩, o⟩ => by
  obtain ⟨p, vs, h1, _, _, h4, _⟩ := s.own hi
  rw [o.ex] at q
  refine ⟨.ref p, h1, .inl ⟨rfl, vs, SqL.of h4⟩, W0, H0, W, ρ, _, s, n, t, q, fun v W1 H1 d e1 r1 ⟨hn, q1⟩ => ?_⟩
  have s1 := s.extT hN e1
  obtain ⟨p', us, g1, g2, g3, g4, g5, g6⟩ := s1.own hi
  rw [h1] at g1
  cases g1
  refine ⟨p, us, v, rfl, rfl, g4, by rw [g5.len]; exact hn, ?_⟩
  exact o.nx W1 _ σ _ e1.ex.w (s1.chg hi h1 (g5.app (.one r1)) (by rw [List.length_append, g5.len]; exact hn)) e1.nt (jvD e1.tb g4 (fun _ z => by cases z) (fun _ z => by cases z)) q1
/-- what is walked -/
def tQF (T : List (Addr × Str)) (K : PySem.W.Frag) (A : FA) : TI := fun σ H R => ∃ W0 H0 W ρ Q, Sat K W0 H0 W ρ σ H ∧ NoTb W ∧ Tabs T H ∧ A ρ Q ZN ∧ ∀ J W' H' ds, ExT T W H W' H' → IterF K W' J ds → Q ds → R J H'
theorem tq_for {iter : Expr} {gh : TG} {g : FG} {vs : List Nat} (hN : NoTb H0) (hp : PassesOwn (model X.prog X.w) X.A X.env X.xe) (hc : X.calm = true) (hi : PI X tg iter (tQF T K A)) (hg : PG X tg gh) (gs : GSnd K gh g vs) (hb : PSs X body (tQS T K W0 H0 S))
    (hs : ∀ x, foldedSetIterable iter X.env x = pure x := by intro _; rfl) : PS X (.For tg iter body [] pos) (tQS T K W0 H0 (sFor A g S)) := (ps_for hp hc hi hg hb hs).mono fun D σ H ⟨W, ρ, De, s, n, t, q, o⟩ => by
  have q : A ρ (fun ds => forD g S ds ρ De) ZN := by rw [← o.ex]; exact q
  refine ⟨W0, H0, W, ρ, _, s, n, t, q, fun J W1 H1 ds e1 ⟨G, Y, hW, hG, hY⟩ q1 => ?_⟩
  refine for_it hW (D := D) (fun i σ' H' => ∃ W' ρ', Gx W1 W' ∧ Sat K W0 H0 W' ρ' σ' H' ∧ NoTb W' ∧ Tabs T H' ∧ forD g S (ds.drop i) ρ' De) ⟨W1, ρ, Gx.refl _, s.extT hN e1, e1.nt, e1.tb, q1⟩ ?_ ?_ ?_
  · rintro i σ' H' _ ⟨W', ρ', e2, s2, _⟩
    exact hG H' (e2.trans s2.see)
  · rintro i x σ' H2 H3 hi ⟨W2, ρ2, e2, s2, n2, t2, q2⟩ y
    obtain ⟨W3, d, hd, e3, r3⟩ := hY i H2 x H3 W2 hi e2 s2.see y
    have x3 := ExT.of n2 t2 e3
    have hdr : ds.drop i = d :: ds.drop (i + 1) := by
      rw [List.drop_eq_getElem_cons hi]
      congr 1
      rw [List.getElem?_eq_getElem hi] at hd
      exact Option.some.inj hd
    rw [hdr] at q2
    refine gs W0 H0 (noT W3) ρ2 σ' H3 x d _ _ (s2.extT hN x3) r3.noT q2 fun ρ3 σ3 s3 _ q3 => ?_
    exact ⟨noT W3, ρ3, _, s3, jbA, x3.tb, q3, ⟨fun W' ρ' σ' H' g s' n' t' q' => ⟨W', ρ', (e2.trans x3.ex.w).trans g, s', n', t', q'⟩, o.rt, fun W' ρ' σ' H' g s' n' t' q' => o.nx W' ρ' σ' H' (((e1.ex.w.trans e2).trans x3.ex.w).trans g) s' n' t' q', fun W' ρ' σ' H' g s' n' t' q' => ⟨W', ρ', (e2.trans x3.ex.w).trans g, s', n', t', q'⟩, o.ex⟩⟩
  · rintro σ' H' ⟨W', ρ', e2, s2, n2, t2, q2⟩
    rw [List.drop_length] at q2
    exact o.nx W' ρ' σ' H' (e1.ex.w.trans e2) s2 n2 t2 q2
end
end Pu
namespace Pu
open PySem PySem.Spec PyProof.Rows L2 Ly LamX
def spQ (T : List (Addr × Str)) (K : PySem.W.Frag) (n : Nat) (g : Fn) : Sp := fun vs H Qh _ => ∃ W ds Q, Gx W H ∧ NoTb W ∧ Tabs T H ∧ RepAll K W vs ds ∧ ds.length = n ∧ g ds Q ZN ∧ ∀ v W' H' d, ExT T W H W' H' → Rep K W' v d → Q d → Qh v H'
section
variable {X : Cx} {T : List (Addr × Str)} {K : PySem.W.Frag} {E : XK} {W0 H0 : Hp} {F G L : FE} {U V : FT} {A N : FA} {S S' : FS} {g : Fn} {tg e a b : Expr} {es : List Expr} {p pos pos' : Pos} {st : Stmt} {rest body : List Stmt} {i j k n : Nat} {x : Str}
theorem d_tryP {P : L2.St → Hp → Prop} {body : List Stmt} {h1 : ExceptHandler} {hs : List ExceptHandler} {qs : List HC} {pos : Pos} {S : FS} (st : X.stack = X.env :: X.outer) (fr : X.env.frame = some X.env.locals) (nd : X.N.Nodup) (tk : Takes X (fun cls d _ H => E cls d H))
    (hb : ∀ (E' : XK) (pn : List (Addr × Obj)) (xe : Value → Shared → Prop), Takes (X.tr pn xe) (fun cls d _ H => E' cls d H) → PassesOwn (model X.prog X.w) X.A X.env xe → PSs (X.tr pn xe) body (fun Dh σ H => P σ H ∧ tDS K W0 H0 E' S Dh σ H))
    (hh : HcOk X K W0 H0 E (h1 :: hs) qs) (hK : X.K = K := by rfl) : PS X (.Try body (h1 :: hs) [] [] pos) (fun Dh σ H => P σ H ∧ tDS K W0 H0 E (sTry K S qs) Dh σ H) := by
  subst hK
  have key := jvr (pos := pos) (tb := fun W Dh σ H => P σ H ∧ tDS X.K W0 H0 (fun cls d H => ∀ σ : L2.St, σ.length = X.N.length → W cls d σ H) S Dh σ H) st fr nd tk (fun W pn xe t p => hb _ pn xe (fun u s' ⟨a, B, sI, pins, σ, H, cls, d, e1, I, nb, up, sky, na, os, ag, w⟩ =>
    t u s' ⟨a, B, sI, pins, σ, H, cls, d, e1, I, nb, up, sky, na, os, ag, w σ I.len⟩) p) hh.cls
  refine ⟨fun pins s σ H D I h => key.run pins s σ H D I ?_⟩
  obtain ⟨hP, W, ρ, De, sat, q, ok⟩ := h
  have hρ : ρ.length = X.N.length := by rw [← sat.len]; exact I.len
  exact ⟨hP, W, ρ, _, sat, q, ⟨ok.nx, ok.rt, ok.bk, ok.ct, fun x cls dd W' H' e r z σ' hl => jtv ok e r (by rw [hρ]; exact hl) z⟩⟩
end
abbrev RB := (D → Prop) → ZX → Prop
/-- tl answers as R does, from Wc and H1 on -/
def LamR (K : PySem.W.Frag) (Wc H1 : Hp) (R : RB) (tl : XK → Hp → VK → Prop) : Prop :=
  ∀ (E' : XK) (W HZ : Hp) (Q : D → Prop) (Z : ZX) (Qh : VK), Ex Wc H1 W HZ → R Q Z → (∀ v W' H' d, Ex W HZ W' H' → Rep K W' v d → Q d → Qh v H') → XC K E' W HZ Z → tl E' HZ Qh
/-- the promise of a def that calls what it got: S, in terms of what the call answers -/
def TGot (K : PySem.W.Frag) (N : Nat) (S : RB → FS) : (XK → Hp → VK → Prop) → Hp → VK → Prop := fun tl H1 Qh =>
  ∃ Wc R Q, Gx Wc H1 ∧ LamR K Wc H1 R tl ∧ S R (List.replicate N .un) { nx := fun _ => Q .non, rt := Q, ex := ZN } ∧ ∀ v W' H' d, Ex Wc H1 W' H' → Rep K W' v d → Q d → Qh v H'
/-- x(lambda: body) -/
def fLam (N : Nat) (S : RB → FS) (F : FE) : FE := fun ρ Q _ => S (F ρ) (List.replicate N .un) { nx := fun _ => Q .non, rt := Q, ex := ZN }
section
variable {X : Cx} {T : List (Addr × Str)} {K : PySem.W.Frag}
theorem tq_lam {Nn : Nat} {S : RB → FS} {x a : Str} {g c P : Addr} {k : Nat} {pg : Arguments} {bg : List Stmt} {sg : Scope} {dV kV doc pm cdv ct oc : Value} {an od : Option Addr} {osl : Array (Option Value)} {Ng : List Str}
    {params : Arguments} {body : Expr} {scope : Scope} {F : FE} {p lpos pos : Pos} (hg : Gl X x) (hm : X.mg x = some (.ref g)) (hk : PySem.W.keepIn X.K (.ref g) = true)
    (lk : X.K.lookup g = some ⟨oc, od, .func (PySem.W.fnOf x x pg bg sg dV kV doc pm an cdv ct), osl⟩) (hcg : PySem.W.codeIn X.K cdv x = true) (hb : L2.Binds X.K (PySem.W.fnOf x x pg bg sg dV kV doc pm an cdv ct) [a] []) (Sg : FnScope Ng [a] sg) (hNg : Ng[0]? = some a) (hva : Vis sg a)
    (hG : GivesTo X Ng x sg g cdv bg a (X.env.qual ++ "<lambda>") (TGot X.K Nn S))
    (TB : TabB X.base X.mg c P) (hcode : X.env.code = .ref c) (hmT : (P, X.env.qual ++ "<lambda>") ∈ T) (hu : ∀ p ∈ T, p.1 = P → p.2 = X.env.qual ++ "<lambda>") (hr : Room (k + 2) X.A) (L : LamS X.env.scope scope) (hdef : defaultsOf params X.env = ([], []))
    (hbind : ∀ (q : Str) (cl : List (Str × Addr)) (pm cv ctv : Value), bindArgs (PySem.W.kla_fn "<lambda>" q params body scope cl pm cv ctv) ⟨[], []⟩ = pure [])
    (hbody : ∀ (A : Around) (outer : List PySem.Env) (s : Shared) (H : Hp) (E : XK) (f c' : Addr), Room k (A.deeper (lamEnv X scope s.heap.objs.size f c')) → PE (lamCx X A outer s H E scope f c') body (tD K E F))
    (hK : X.K = K := by rfl) (hdb : (x == ("__debug__" : Str)) = false := by decide) (hd : (a == ("__debug__" : Str)) = false := by decide) (hcd : (a == ("__classdict__" : Str)) = false := by decide) :
    PE X (.Call (.Name x p) [.Lambda params body scope lpos] [] pos) (tQ T K (fLam Nn S F)) := by
  subst hK
  refine (pe_lamcall hg hm hk lk hcg hb Sg hNg hva hG TB hcode hmT hu hr L hdef hbind hbody hdb hd hcd).mono fun σ H Qh ⟨W0, H0, W, ρ, Q, s, nw, tb, f, kk⟩ => ?_
  refine ⟨tb, fun H1 eN T1 => ?_⟩
  have g1 : Gx W H1 := fun a o h => eN a o (s.ex.s a o h) (nw.ne h)
  refine ⟨W, F ρ, Q, g1, fun E' W2 HZ Q2 Z2 Qh2 e2 r2 k2 x2 => ?_, f, fun v W' H' d e r q => ?_⟩
  · -- the lambda's body, asked at HZ
    refine ⟨W0, noT H0, W2, ρ, Q2, Z2, ?_, r2, k2, x2⟩
    exact (s.low jft).extE jbA ⟨fun a o h => e2.h a o (eN a o (jcv h).1 (jcv h).2), e2.w, e2.s, fun a o h => (e2.n a o h).imp id (fun z => z.imp (fun z => by
      cases q : noT H a with
      | none => rfl
      | some u =>
        rw [eN a u (jcv q).1 (jcv q).2] at z
        cases z) id)⟩
  · refine kk v (noT W') H' d ⟨⟨fun a o h => e.h a o (eN a o (jcv h).1 (jcv h).2), jiR nw e.w, jft.trans e.s, fun a o h => (e.n a o (jcv h).1).imp id (fun z => z.imp (fun z => by
      cases q : noT H a with
      | none => rfl
      | some u =>
        rw [eN a u (jcv q).1 (jcv q).2] at z
        cases z) id)⟩, T1.ext e.h, jbA⟩ r.noT q
end
def GotP (f c' : Addr) (q : Str) : L2.St → Hp → Prop := fun σ H => σ[0]? = some (some (.ref f)) ∧ H c' = some (CodeO c' q)
section
variable {X : Cx} {K : PySem.W.Frag} {Wc H1 : Hp} {E : XK} {R : RB} {tl : XK → Hp → VK → Prop} {f c' : Addr} {q a : Str} {p1 p2 p3 p4 : Pos}
def GotA (X : Cx) (f c' : Addr) (q a : Str) (tl : XK → Hp → VK → Prop) (E : XK) : Prop := ∀ (p1 p2 : Pos), PE X (.Call (.Name a p1) [] [] p2) (fun σZ HZ Q => σZ[0]? = some (some (.ref f)) ∧ HZ c' = some (CodeO c' q) ∧ tl E HZ Q)
/-- a() -/
def sGotX (R : RB) : FS := fun ρ De => R (fun _ => De.nx ρ) De.ex
theorem d_gotX (act : GotA X f c' q a tl E) (lam : LamR K Wc H1 R tl) (hs : swapsWith (.Call (.Name a p1) [] [] p2) none p4.line X.env = pure false := by rfl) : PS X (.Expr (.Call (.Name a p1) [] [] p2) p4) (fun Dh σ H => GotP f c' q σ H ∧ tDS K Wc H1 E (sGotX R) Dh σ H) := (ps_expr (act p1 p2) hs).mono fun D σ H ⟨⟨g1, g2⟩, W, ρ, De, s, r, o⟩ =>
  ⟨g1, g2, lam E W H _ _ _ s.ex r (fun v W' H' d e r' z => o.nx W' ρ σ H' e.w (s.ext e) z) (o.xc s)⟩
theorem got_of {Nn : Nat} {S : RB → FS} {Ng : List Str} {x : Str} {sg : Scope} {g : Addr} {cdg : Value} {bg : List Stmt} (hNn : ∀ f : Addr, (L2.start Ng [V.ref f]).length = Nn) (h0 : ∀ f : Addr, (L2.start Ng [V.ref f])[0]? = some (some (V.ref f)))
    (hb : ∀ (f c' : Addr) (s : Shared) (H : Hp) (tl : XK → Hp → VK → Prop) (R : RB) (Wc : Hp),
      (∀ (E : XK) (pn : List (Addr × Obj)) (xe : Value → Shared → Prop), Takes ((cxOf C8.CX0 X.prog X.w X.K X.mg X.base Ng x sg g cdg X.A X.stack s H C8.E0).tr pn xe) (fun cls d _ H => E cls d H) → GotA ((cxOf C8.CX0 X.prog X.w X.K X.mg X.base Ng x sg g cdg X.A X.stack s H C8.E0).tr pn xe) f c' q a tl E) →
      LamR X.K Wc H R tl → PSs (cxOf C8.CX0 X.prog X.w X.K X.mg X.base Ng x sg g cdg X.A X.stack s H C8.E0).nox bg (fun Dh σ H' => GotP f c' q σ H' ∧ tDS X.K Wc H C8.E0 (S R) Dh σ H')) :
    GivesTo X Ng x sg g cdg bg a q (TGot X.K Nn S) := by
  rintro f c' s H Qh tl act hc ⟨Wc, R, Q, g1, lam, hS, k⟩
  refine ⟨_, hb f c' s H tl R Wc (fun E pn xe tk p1 p2 => act _ pn xe E p1 p2 tk fun _ _ _ _ h => h) lam, ⟨h0 f, hc⟩, Wc, List.replicate Nn .un, _, jtu (Ex.refl g1) (hNn f), hS, ⟨fun W' ρ' σ' H' _ s' z => k _ W' H' _ s'.ex .non z, fun v W' H' d e r z => k v W' H' d e r z, (fun _ _ _ _ _ _ z => z.elim), (fun _ _ _ _ _ _ z => z.elim), fun _ _ _ _ _ _ _ z => z.elim⟩⟩
end
end Pu
namespace Pu
open PySem PySem.Spec PyProof.Rows L2 Ly LamX
theorem Sat.noT {K : PySem.W.Frag} {W0 H0 W H : Hp} {ρ : Env} {σ : L2.St} (s : Sat K W0 H0 W ρ σ H) (n0 : NoTb H0) (n : NoTb W) : Sat K W0 H0 W ρ σ (Pu.noT H) := ⟨⟨jiR n0 s.ex.h, s.ex.w, jiR n s.ex.s, s.ex.n⟩, s.len, by
  obtain ⟨oa, h1, h2⟩ := s.rep
  refine ⟨oa, h1, fun i b hb => ?_⟩
  obtain ⟨v, h3, h4⟩ := h2 i b hb
  exact ⟨v, h3, h4.noT⟩⟩
def tQN (T : List (Addr × Str)) (K : PySem.W.Frag) (N : FA) : TE := fun σ H Qh => ∃ W0 H0 W ρ Q, Sat K W0 H0 W ρ σ H ∧ NoTb W ∧ Tabs T H ∧ N ρ Q ZN ∧
  ∀ p vs W' H' ds, ExT T W H W' H' → noT H p = none → W' p = none → H' p = some (.lst vs) → RepAll K W' vs ds → vs.length ≤ sizeLine → Q ds → Qh (.ref p) H'
section
variable {X : Cx} {T : List (Addr × Str)} {K : PySem.W.Frag} {E : XK} {W0 H0 : Hp} {F G L : FE} {U U2 : FT} {A N : FA} {S S' : FS} {g : Fn} {tg e a b : Expr} {es rest : List Expr} {p pos pos' : Pos} {st : Stmt} {i j k n : Nat} {x : Str}
theorem jvE {H : Hp} {p : Addr} {o : HO} (t : Tabs T H) (h : H p = none) : Tabs T (upd H p o) := t.ext (Gx.new h)
theorem Sat.go {W H W' H' : Hp} {ρ : Env} {σ : L2.St} (s : Sat K W0 H0 W ρ σ H) (e : ExT T W H W' H') (n0 : NoTb W) : ∃ W1 H1, Sat K W1 H1 W' ρ σ H' := ⟨W0, Pu.noT H0, (s.low jft).extT jbA e⟩
theorem tqt_to {σ : L2.St} {H : Hp} {Qh : Bool → Hp → Prop} (h : tQB T K (fTst F) σ H Qh) : tQ T K F σ H fun x H1 => ∃ c, x = .bl c ∧ Qh c H1 := by
  obtain ⟨W0, H0, W, ρ, Q, s, n, t, f, k⟩ := h
  refine ⟨W0, H0, W, ρ, _, s, n, t, f, fun v W' H' d e r ⟨b, z, q⟩ => ?_⟩
  subst z
  cases r
  exact ⟨b, rfl, k b W' H' e q⟩
theorem jxB (h : PE X e (tQ T K F)) (he : ∀ whole, isTrue e X.env whole = (do let v ← whole; standAt e.pos; holding [v] (truthy v)) := by intro _; rfl) : PT X e (tQB T K (fTst F)) := (pt_val h he).mono fun _ _ _ h => tqt_to h
theorem tq_not (h : PT X a (tQB T K U)) : PT X (.UnaryOp .Not a pos) (tQB T K (fNot U)) := (pt_not h).mono fun σ H Qh ⟨W0, H0, W, ρ, Q, s, n, t, f, k⟩ => ⟨W0, H0, W, ρ, _, s, n, t, f, fun c W1 H1 e1 q => k _ W1 H1 e1 q⟩
theorem jqO : PA X [] (tQA T K fNil) := pa_nil.mono fun σ H Qh ⟨W0, H0, W, ρ, Q, s, n, t, f, k⟩ => k [] _ H [] (ExT.of n t (Ex.refl s.ex.s)) .nil f
theorem jmL (ha : PE X e (tQ T K F)) (hr : PA X es (tQA T K A)) (hs : starEach (e :: es) X.env = (false, eval e X.env) :: starEach es X.env := by rfl) : PA X (e :: es) (tQA T K (fCons F A)) := (pa_cons ha hr hs).mono fun σ H Qh ⟨W0, H0, W, ρ, Q, s, n, t, f, k⟩ =>
  ⟨W0, H0, W, ρ, _, s, n, t, f, fun v W1 H1 d e1 r q => by
    obtain ⟨W2, H2, s2⟩ := s.go e1 n
    exact ⟨W2, H2, W1, ρ, _, s2, e1.nt, e1.tb, q, fun vs W3 H3 ds e3 rs q3 => k _ W3 H3 _ (e1.trans e3) (.cons (r.gx e3.ex.w) rs) q3⟩⟩
theorem jtN (h : PA X es (tQA T K A)) : PE X (.List es pos) (tQN T K (fLst A)) := (pe_lst h).mono fun σ H Qh ⟨W0, H0, W, ρ, Q, s, n, t, f, k⟩ => ⟨W0, H0, W, ρ, _, s, n, t, f, fun vs W1 H1 ds e1 r ⟨hn, q⟩ =>
  ⟨by rw [r.len]; exact hn, fun p hp => k p vs W1 _ ds ⟨e1.ex.trans (Ex.hid e1.ex.s hp), jvE e1.tb hp, e1.nt⟩ (e1.ex.h.free hp) (e1.ex.s.free hp) upd_same r (by rw [r.len]; exact hn) q⟩⟩
theorem jtO (hN : NoTb H0) (he : PE X e (tQN T K N)) (hg : PG X tg (gName i)) (hs : swapsWithSole [tg] e pos.line X.env = pure false := by rfl) (hw : swappedStores [tg] e X.env = pure none := by rfl)
    (h1 : (assignEach [tg] X.env).map (·.2) = [assign tg X.env] := by rfl) : PS X (.Assign [tg] e pos) (tQS T K W0 H0 (sNew i N)) := (ps_asg he hg hs hw h1).mono fun D σ H ⟨W, ρ, De, s, n, t, q, o⟩ => by
  have q : N ρ (fun ds => De.nx (ρ.set i (.lst ds))) ZN := by rw [← o.ex]; exact q
  have sn := s.noT hN n
  exact ⟨W0, H0, W, ρ, _, s, n, t, q, fun p vs W' H' ds e hp hw h' r hl z => o.nx W' _ _ H' e.ex.w (sn.put (b := .lst ds) e.ex hp ⟨p, vs, rfl, rfl, hw, sn.ex.h.free hp, h', r, hl⟩) e.nt e.tb z⟩
end
end Pu
namespace Pu
open PySem PySem.Spec PyProof.Rows L2 Ly
section
variable {X : Cx} {K : PySem.W.Frag} {E : XK} {W0 H0 : Hp} {F : FE} {e : Expr} {x f : Str} {C : Addr} {k : Nat} {p pos pos' : Pos} {B newId initId : String} {bmB : List Value}
/-- try with a body that knows more, then the rest -/
theorem d_seqP {P : L2.St → Hp → Prop} {S S' : FS} {st : Stmt} {rest : List Stmt} (h1 : PS X st (fun Dh σ H => P σ H ∧ tDS K W0 H0 E S Dh σ H)) (h2 : PSs X rest (tDS K W0 H0 E S')) : PSs X (st :: rest) (fun Dh σ H => P σ H ∧ tDS K W0 H0 E (sSeq S S') Dh σ H) :=
  (pss_cons h1 h2).mono fun D σ H ⟨hP, W, ρ, De, s, q, o⟩ => ⟨hP, W, ρ, _, s, q, ⟨fun W' ρ' σ' H' g s' q' => ⟨W', ρ', De, s', q', o.up g⟩, o.rt, o.bk, o.ct, o.ex⟩⟩
end
end Pu
namespace Pu
open PySem PySem.W PySem.Spec PyProof.Rows L2 Ly
mutual
/-- whole numbers, texts, None, bools and tuples of them -/
def onlyT : D → Bool
  | .non => true
  | .bl _ => true
  | .int _ => true
  | .str _ => true
  | .tup ds => jez ds
  | _ => false
def jez : List D → Bool
  | [] => true
  | d :: ds => onlyT d && jez ds
end
def keyP : Key → PyData
  | .inl i => .int i
  | .inr x => .str x
def toX : D → PyData
  | .dit ks ds => .dict ((ks.map fun k => PyData.tuple (k.map keyP)).zip (toPs ds))
  | d => toP d
def okX : D → Bool
  | .dit ks ds => jez ds && decide (ks.length = ds.length)
  | d => onlyT d
section
variable {X : Cx} {K : PySem.W.Frag}
mutual
theorem jgv {pins : List (Addr × Obj)} {σ : L2.St} {H W : Hp} {s : Shared} (I : L2.Inv X pins σ H s) (g : Gx W H) : ∀ {d : D} {v : V} {u : Value}, Rep X.K W v d → onlyT d = true → RelV v u → Reads s.heap u (toP d) []
  | .non, _, _, .non, _, r => by cases r; exact .none
  | .bl b, _, _, .bl _, _, r => by cases r; exact .bool b
  | .int i, _, _, .int _, _, r => by obtain ⟨t, rfl⟩ := r; exact .int i t
  | .str x, _, _, .str _, _, r => by obtain ⟨t, rfl⟩ := r; exact .str x t
  | .tup ds, _, _, .tup h hs n, o, r => by
    cases r
    obtain ⟨its, rv, ⟨ob, ho, hc, k, hd⟩, hz⟩ := I.tuple (SqT.of (g _ _ h))
    exact .tuple ho hc hd (by simpa using jiT I g hs (show jez ds = true from o) rv)
  | .tup [], _, _, .tup0 h, o, r => by
    cases r
    obtain ⟨its, rv, ⟨ob, ho, hc, k, hd⟩, hz⟩ := I.tuple h.sq
    cases rv
    exact .tuple ho hc hd .nil
theorem jiT {pins : List (Addr × Obj)} {σ : L2.St} {H W : Hp} {s : Shared} (I : L2.Inv X pins σ H s) (g : Gx W H) : ∀ {ds : List D} {vs : List V} {us : List Value}, RepAll X.K W vs ds → jez ds = true → Vals vs us → ReadsAll s.heap us (toPs ds) []
  | [], _, _, .nil, _, r => by cases r; exact .nil
  | d :: ds, _, _, .cons h hs, o, r => by
    cases r with
    | cons r rs =>
      have o : (onlyT d && jez ds) = true := o
      rw [Bool.and_eq_true] at o
      exact .cons (as := []) (bs := []) (jgv I g h o.1 r) (jiT I g hs o.2 rs)
end
theorem jmM : ∀ {k : List Key} {us : List Value} {h : Heap}, Vals (k.map kV) us → ReadsAll h us (k.map keyP) []
  | [], _, _, .nil => .nil
  | .inl i :: k, _, _, .cons r rs => by obtain ⟨t, rfl⟩ := r; exact .cons (as := []) (bs := []) (.int i t) (jmM rs)
  | .inr x :: k, _, _, .cons r rs => by obtain ⟨t, rfl⟩ := r; exact .cons (as := []) (bs := []) (.str x t) (jmM rs)
theorem jtP {pins : List (Addr × Obj)} {σ : L2.St} {H W : Hp} {s : Shared} (I : L2.Inv X pins σ H s) (g : Gx W H) {d : Addr} {kvs : List (List Key × V)} {ds : List D} (hd : Rd W d (.dT kvs)) (r : RepAll X.K W (kvs.map Prod.snd) ds) (o : jez ds = true) :
    Reads s.heap (.ref d) (toX (.dit (kvs.map Prod.fst) ds)) [d] ∧ (d == sysModules) = false := by
  obtain ⟨z, hs, ks, pr, ob, es, ep, ho, hx, hdt, he, hn⟩ := (show ObjOk X.prog X.w H s.heap d (.dT kvs) from (g.rd hd).ok I.hok)
  refine ⟨?_, hs⟩
  have main : ∀ {kvs : List (List Key × V)} {ks : List (List Key × Addr × Value)} {ds : List D}, Paired (fun (p : List Key × V) (q : List Key × Addr × Value) => p.1 = q.1 ∧ H q.2.1 = some (.tup (p.1.map kV)) ∧ RelV p.2 q.2.2) kvs ks → RepAll X.K W (kvs.map Prod.snd) ds → jez ds = true →
      ReadsAll s.heap ((ks.map (entryOfKey (tupleKind (mixKind X.prog X.w)))).map (·.key)) ((((kvs.map Prod.fst).map fun k => PyData.tuple (k.map keyP)).zip (toPs ds)).map (·.1)) [] ∧
        ReadsAll s.heap ((ks.map (entryOfKey (tupleKind (mixKind X.prog X.w)))).map (·.val)) ((((kvs.map Prod.fst).map fun k => PyData.tuple (k.map keyP)).zip (toPs ds)).map (·.2)) [] := by
    intro kvs ks ds pr
    induction pr generalizing ds with
    | nil =>
      intro r _
      cases r
      exact ⟨.nil, .nil⟩
    | @cons p q _ _ h _ ih =>
      intro r o
      cases r with
      | @cons _ _ d0 ds0 r rs =>
        have o : (onlyT d0 && jez ds0) = true := o
        rw [Bool.and_eq_true] at o
        obtain ⟨k1, k2⟩ := ih rs o.2
        obtain ⟨h1, h2, h3⟩ := h
        obtain ⟨its, rv, ⟨ob, ho, hc, k, hd⟩, hz⟩ := I.tuple (X := X) (SqT.of h2)
        exact ⟨.cons (as := []) (bs := []) (.tuple ho hc hd (by simpa using jmM rv)) k1, .cons (as := []) (bs := []) (jgv I g r o.1 h3) k2⟩
  obtain ⟨k1, k2⟩ := main pr r o
  rw [← he] at k1 k2
  exact .dict ho hx.1 hdt k1 k2
theorem toX_of : ∀ {d : D}, onlyT d = true → toX d = toP d
  | .non, _ => rfl
  | .bl _, _ => rfl
  | .int _, _ => rfl
  | .str _, _ => rfl
  | .tup _, _ => rfl
/-- each item of the list -/
theorem jxC {pins : List (Addr × Obj)} {σ : L2.St} {H W : Hp} {s : Shared} (I : L2.Inv X pins σ H s) (g : Gx W H) {d : D} {v : V} {u : Value} (r : Rep X.K W v d) (o : okX d = true) (rel : RelV v u) : ∃ as, Reads s.heap u (toX d) as ∧ sysModules ∉ as := by
  cases d with
  | dit ks ds =>
    have o : (jez ds && decide (ks.length = ds.length)) = true := o
    rw [Bool.and_eq_true] at o
    cases r with
    | @dit a kvs _ _ h1 h2 h3 h4 =>
      subst h2
      cases rel
      obtain ⟨k1, k2⟩ := jtP I g h1 h3 o.1
      refine ⟨_, k1, fun hm => ?_⟩
      have hm : sysModules = a := by simpa using hm
      rw [← hm] at k2
      simp at k2
  | _ =>
    first
      | exact ⟨[], by rw [toX_of (show onlyT _ = true from o)]; exact jgv I g r o rel, by simp⟩
      | cases o
structure ShX (ds : List D) : Prop where
  ne : ds ≠ []
  ok : ∀ d ∈ ds, okX d = true
  sho : PyData.showableAll (ds.map toX) = true
  sz : (PyData.list (ds.map toX)).shown.length ≤ sizeLine
  dep : (PyData.list (ds.map toX)).depth ≤ 60
def jtQ (K : PySem.W.Frag) : List V → Hp → VK → Prop := fun vs H Q => ∃ (a : Addr) (us : List V) (W : Hp) (ds : List D), vs = [.ref a] ∧ SqL K H a us ∧ Gx W H ∧ RepAll K W us ds ∧ ShX ds ∧ Q (.str (PyData.list (ds.map toX)).shown) H
theorem jtR {pins : List (Addr × Obj)} {σ : L2.St} {H W : Hp} {s : Shared} (I : L2.Inv X pins σ H s) (g : Gx W H) : ∀ {ds : List D} {vs : List V} {us : List Value}, RepAll X.K W vs ds → (∀ d ∈ ds, okX d = true) → PyData.showableAll (ds.map toX) = true → (∀ t ∈ PyData.shownAll (ds.map toX), t.length ≤ sizeLine) → Vals vs us →
    ∃ bs as, ReadAtMost s.heap (PyData.depthAll (ds.map toX)) bs ∧ ReprAllK X.prog X.w bs s.heap (PyData.depthAll (ds.map toX)) us (PyData.shownAll (ds.map toX)) ∧ ReadsAll s.heap us (ds.map toX) as
  | [], _, _, .nil, _, _, _, r => by
    cases r
    exact ⟨[], [], (fun _ h => nomatch h), .nil, .nil⟩
  | d :: ds, _, _, .cons h hs, ok, sho, sz, r => by
    cases r with
    | cons r rs =>
      rw [List.map_cons, PyData.showableAll, Bool.and_eq_true] at sho
      have e1 : PyData.shownAll ((d :: ds).map toX) = (toX d).shown :: PyData.shownAll (ds.map toX) := by rw [List.map_cons, PyData.shownAll]
      have e2 : PyData.depthAll ((d :: ds).map toX) = max (toX d).depth (PyData.depthAll (ds.map toX)) := by rw [List.map_cons, PyData.depthAll]
      rw [e1] at sz
      obtain ⟨as1, rd, hn⟩ := jxC I g h (ok d (List.mem_cons_self ..)) r
      obtain ⟨b1, hb1, k1⟩ := ReprK.of_reads (prog := X.prog) (w := X.w) rd sho.1 (fun _ => hn) (sz _ (List.mem_cons_self ..))
      obtain ⟨b2, as2, hb2, k2, r2⟩ := jtR I g hs (fun x hx => ok x (List.mem_cons_of_mem _ hx)) sho.2 (fun t ht => sz t (List.mem_cons_of_mem _ ht)) rs
      rw [e1, e2]
      exact ⟨b1 ++ b2, as1 ++ as2, (hb1.mono (Nat.le_max_left _ _)).append (hb2.mono (Nat.le_max_right _ _)),
        .cons ((k1.more fun b hb => List.mem_append_left _ hb).level_le (Nat.le_max_left _ _)) (k2.more_le (fun b hb => List.mem_append_right _ hb) (Nat.le_max_right _ _)), .cons rd r2⟩
theorem jxD (gd : X.A.guards = some []) (hu : X.A.units + 64 < cLine) (hK : X.K = K := by rfl) : CallR X (.builtin "repr") (jtQ K) := by
  subst hK
  intro pins s σ H xs us0 Q I r h
  obtain ⟨a, us, W, ds, rfl, hs, g, rr, so, q⟩ := h
  obtain ⟨u, rfl, ru⟩ := vals1 r
  cases ru
  obtain ⟨its, rv, ⟨o, n, ho, hc, hd0, hdat⟩, hz⟩ := I.list hs
  have hz' : (listText (PyData.shownAll (ds.map toX))).length ≤ sizeLine := by
    have h := so.sz
    rw [PyData.shown] at h
    exact h
  obtain ⟨bs, as, hb, hk, ra⟩ := jtR I g rr so.ok so.sho (fun t ht => Nat.le_trans (listText_mem_le ht) hz') rv
  have rl : Reads s.heap (.ref a) (.list (ds.map toX)) (a :: as) := .list ho hc hdat (by simpa using ra)
  have hna : a ∉ bs := not_mem_of_deeper rl (by simp only [PyData.depth]; omega) hb
  have hdep : PyData.depthAll (ds.map toX) + 1 ≤ 60 := by
    have h := so.dep
    rw [PyData.depth] at h
    exact h
  refine call_repr_slot (T := "list") (idr := "list.__repr__") (by omega) ⟨o, ho, hc⟩ F.slot_list_repr.toG ?_
  obtain ⟨v1, vs1, rfl⟩ : ∃ v1 vs1, its = v1 :: vs1 := by
    cases rv with
    | nil =>
      cases rr
      exact absurd rfl so.ne
    | cons _ _ => exact ⟨_, _, rfl⟩
  refine call_list_reprK (d := PyData.depthAll (ds.map toX)) (ts := PyData.shownAll (ds.map toX)) ho hc hdat hna (by simpa using hk.length_eq) (fun i y e => hk.item i y (by simpa using e)) gd (fun b _ => Clear.nil b) (by show X.A.units + 1 + _ < cLine; omega) (fun _ _ z => z) (fun h' u tk kk => ?_) hz'
  refine ⟨_, _, rfl, .str _, H, I.kept kk, ⟨_, rfl⟩, ?_⟩
  rw [PyData.shown] at q
  exact q
def jwQ (ds : List D) (Q : D → Prop) : Prop := ∃ es, ds = [.lst es] ∧ ShX es ∧ Q (.str (PyData.list (es.map toX)).shown)
theorem jxE : CSnd K (jtQ K) jwQ := fun W H vs ds Q Qh s rr ⟨es, z, o, q⟩ kk => by
  subst z
  obtain ⟨v, rfl, r⟩ := ts1 rr
  obtain ⟨a, us, rfl, h1, h2, h3⟩ := r.lst_inv s
  exact ⟨a, us, W, es, rfl, SqL.of h1, s, h2, o, kk _ W H _ (Ex.refl s) (.str _) q⟩
end
end Pu
namespace Pu
open PySem PySem.Spec PyProof.Rows L2 Ly
section
variable {X : Cx} {K : PySem.W.Frag}
def jwR : List V → Hp → VK → Prop := fun xs H Q => ∃ z, xs = [.str z] ∧ (reprText z).length ≤ sizeLine ∧ Q (.str (reprText z)) H
theorem jxF : CallR X (.builtin "repr") jwR := by
  intro pins s σ H xs us Q I r h
  obtain ⟨z, rfl, h1, q⟩ := h
  obtain ⟨u, rfl, ru⟩ := vals1 r
  obtain ⟨t, rfl⟩ := ru
  exact PySem.P.repr_of_str ⟨.str _, H, I.tok _, ⟨_, rfl⟩, q⟩ h1
def jqP (K : PySem.W.Frag) : List V → Hp → VK → Prop := fun xs H Q => jtx K xs H Q ∨ jwR xs H Q
theorem jvF (gd : X.A.guards = some []) (hu : X.A.units + 64 < cLine) (hK : X.K = K := by rfl) : CallR X (.builtin "repr") (jqP K) := jcL (jxw gd hu hK) jxF
def jtS (ds : List D) (Q : D → Prop) : Prop := jwH ds Q ∨ ∃ z, ds = [.str z] ∧ (reprText z).length ≤ sizeLine ∧ Q (.str (reprText z))
theorem jvG : CSnd K (jqP K) jtS := fun W H xs ds Q Qh s rr h kk => by
  rcases h with h | ⟨z, e, h1, q⟩
  · exact .inl (jxx W H xs ds Q Qh s rr h kk)
  · subst e
    obtain ⟨v, rfl, r⟩ := ts1 rr
    exact .inr ⟨z, by rw [r.str_inv], h1, kk _ W H _ (Ex.refl s) (.str _) q⟩
end
end Pu
namespace Pu
open PySem PySem.W PySem.Spec PyProof.Rows L2 Ly
section
variable {X : Cx} {K : PySem.W.Frag}
def jqQ (K : PySem.W.Frag) : List V → Hp → VK → Prop := fun xs H Q => jqP K xs H Q ∨ jtQ K xs H Q
theorem jvH (gd : X.A.guards = some []) (hu : X.A.units + 64 < cLine) (hK : X.K = K := by rfl) : CallR X (.builtin "repr") (jqQ K) := jcL (jvF gd hu hK) (jxD gd hu hK)
def jtT (ds : List D) (Q : D → Prop) : Prop := jtS ds Q ∨ jwQ ds Q
theorem jvI : CSnd K (jqQ K) jtT := fun W H xs ds Q Qh s rr h kk => by
  rcases h with h | h
  · exact .inl (jvG W H xs ds Q Qh s rr h kk)
  · exact .inr (jxE W H xs ds Q Qh s rr h kk)
end
end Pu
namespace Pu
open PySem PySem.W PySem.Spec PyProof.Rows L2 Ly
section
variable {X : Cx} {K : PySem.W.Frag}
def jtU : List V → Hp → VK → Prop := fun xs H Q => ∃ a, xs = [.ref a] ∧ Rd H a (.dK []) ∧ Q (.str "{}") H
theorem jvJ (gd : X.A.guards = some []) (hu : X.A.units + 64 < cLine) : CallR X (.builtin "repr") jtU := by
  intro pins s σ H xs us Q I r h
  obtain ⟨a, rfl, hd, q⟩ := h
  obtain ⟨u, rfl, ru⟩ := vals1 r
  cases ru
  obtain ⟨_, hs, vs, kv, o, es, ep, ho, hx, hdt, he, hp, _⟩ := (show ObjOk X.prog X.w H s.heap a (.dK []) from hd.ok I.hok)
  cases kv
  have he : es.toList = [] := by
    generalize es.toList = l at hp
    cases hp
    rfl
  have rd : Reads s.heap (.ref a) (.dict []) [a] := by
    refine Reads.dict (as := []) (bs := []) ho hx.1 hdt ?_ ?_
    · rw [he]; exact .nil
    · rw [he]; exact .nil
  have hn : sysModules ∉ [a] := fun hm => by
    have hm : sysModules = a := by simpa using hm
    rw [← hm] at hs
    simp at hs
  exact repr_of_reads' rd rfl (fun _ => hn) gd (by show X.A.units + (0 + 1 + 1) < cLine; omega) (fun _ _ z => z) (fun h' u tk kk => ⟨.str _, H, I.kept kk, ⟨_, rfl⟩, q⟩) (by rw [sizeLine_eq]; decide +kernel)
def jtV (K : PySem.W.Frag) : List V → Hp → VK → Prop := fun xs H Q => jqQ K xs H Q ∨ jtU xs H Q
theorem jvK (gd : X.A.guards = some []) (hu : X.A.units + 64 < cLine) (hK : X.K = K := by rfl) : CallR X (.builtin "repr") (jtV K) := jcL (jvH gd hu hK) (jvJ gd hu)
def jiU (ds : List D) (Q : D → Prop) : Prop := jtT ds Q ∨ (ds = [.dic [] []] ∧ Q (.str "{}"))
theorem jvL : CSnd K (jtV K) jiU := fun W H xs ds Q Qh s rr h kk => by
  rcases h with h | ⟨z, q⟩
  · exact .inl (jvI W H xs ds Q Qh s rr h kk)
  · subst z
    obtain ⟨v, rfl, r⟩ := ts1 rr
    obtain ⟨a, kvs, h1, h2, h3, h4⟩ := r.dic_inv s
    cases kvs with
    | nil => subst h1; exact .inr ⟨a, rfl, h2, kk _ W H _ (Ex.refl s) (.str _) q⟩
    | cons _ _ => cases h3
end
end Pu
namespace Pu
open PySem PySem.Spec PyProof.Rows L2 Ly
def jiV : FS := fun _ _ => False
theorem jgw {X : Cx} {K : PySem.W.Frag} {W0 H0 : Hp} {E : XK} {sts : List Stmt} : PSs X sts (tDS K W0 H0 E jiV) :=
  ⟨fun _ _ _ _ _ _ h => by
    obtain ⟨_, _, _, _, z, _⟩ := h
    exact z.elim⟩
end Pu
namespace Pu
open PySem PySem.Spec PyProof.Rows L2 Ly
end Pu
namespace Pu
open PySem PySem.Spec PyProof.Rows L2 Ly
theorem _root_.L2.PS.or {X : Cx} {st : Stmt} {t u : TS} (h : PS X st t) (h2 : PS X st u) : PS X st (fun D σ H => t D σ H ∨ u D σ H) := ⟨fun pins s σ H D I q => by
  rcases q with q | q
  · exact h.run pins s σ H D I q
  · exact h2.run pins s σ H D I q⟩
end Pu
namespace Pu
open PySem PySem.Spec PyProof.Rows L2 Ly
end Pu
namespace Pu
open PySem PySem.Spec PyProof.Rows L2 Ly
def mgT (kvs more : List (List Key × V)) : List (List Key × V) := more.foldl (fun acc kv => putK acc kv.1 kv.2) kvs
theorem jgx : ∀ (more kvs : List (List Key × V)), (mgT kvs more).length ≤ kvs.length + more.length
  | [], kvs => Nat.le_refl _
  | p :: r, kvs => by
    have h1 := jgx r (putK kvs p.1 p.2)
    have h2 := length_putK kvs p.1 p.2
    show (mgT (putK kvs p.1 p.2) r).length ≤ _
    rw [List.length_cons]
    omega
theorem kt_mg {H : Hp} {more : List (List Key × V)} {rs : List (List Key × Addr × Value)} (r : KT H more rs) : ∀ {kvs : List (List Key × V)} {xs : List (List Key × Addr × Value)}, KT H kvs xs → KT H (mgT kvs more) (storedAllH xs rs) := by
  unfold KT at r
  induction r with
  | nil => exact fun q => q
  | @cons p q ps qs h t ih =>
    intro kvs xs r0
    have e : KT H (putK kvs p.1 p.2) (storedH xs q.1 q.2.1 q.2.2) := by
      have := KT.put r0 p.1 h.2.1 h.2.2
      rw [← h.1]
      exact this
    exact ih e
/-- the keys are tuples that are seen -/
def KRef (H : Hp) : List (V × V) → List (List Key × V) → Prop := Paired fun q kv => ∃ b, q.1 = .ref b ∧ H b = some (.tup (kv.1.map kV)) ∧ q.2 = kv.2
theorem jhg {P : Program} {w : World} {H : Hp} {h : Heap} (ok : HOk P w H h) : ∀ {ps : List (V × V)} {kvs : List (List Key × V)} {ws : List (Value × Value)}, KRef H ps kvs → VV ps ws → ∃ rs, CarriesH (tupleKind (mixKind P w)) h ws rs ∧ KT H kvs rs
  | _, _, _, .nil, r => by cases r; exact ⟨[], trivial, .nil⟩
  | _, _, _, .cons (b := kv) hk tk, r => by
    cases r with
    | @cons a b as bs hr t =>
      obtain ⟨rs, c, q⟩ := jhg ok tk t
      obtain ⟨ad, e1, e2, e3⟩ := hk
      obtain ⟨b1, b2⟩ := b
      rw [e1] at hr
      have e4 : b1 = Value.ref ad := hr.1
      exact ⟨(kv.1, ad, b2) :: rs, ⟨e4, rfl, key_of ok e2, c⟩, .cons ⟨rfl, e2, e3 ▸ hr.2⟩ q⟩
def jwS (trs : List (TE × TE)) : TE := fun σ H Q => ∀ p, H p = none → tPairs trs σ (upd H p (.dT [])) fun ps H2 => H2 p = some (.dT []) ∧ ∃ kvs : List (List Key × V), KRef H2 ps kvs ∧ kvs.length ≤ 15 ∧ Q (.ref p) (upd H2 p (.dT (mgT [] kvs)))
theorem jfu {X : Cx} {pos : Pos} {keys : List (Option Expr)} {values : List Expr} {trs : List (TE × TE)} (hu : X.A.units + 1 < cLine) (h : PPs X pos keys values trs) (hall : keys.all (·.isSome) = true) (hl : keys.length = values.length) (h0 : keys ≠ [])
    (h15 : keys.length ≤ 15) : PE X (.Dict keys values pos) (jwS trs) := by
  refine ⟨fun pins s σ H Q I q => ?_⟩
  have hn := I.hok.fresh (Nat.le_refl s.heap.objs.size)
  have I1 := I.laid (a := s.heap.objs.size) (o := .dT []) (h' := s.heap.push { cls := .type "dict", data := .dict #[] }) (t' := s.toks) (fun _ _ q => Heap.get?_push_of_some _ q) (Nat.le_refl _) (dt_empty s.heap I.big)
  have hne : pairTrees keys values X.env pos ≠ [] := by
    intro he
    have e := pairTrees_length keys values X.env pos hall hl
    rw [he] at e
    exact h0 (List.length_eq_zero_iff.mp e.symm)
  have h15' : (pairTrees keys values X.env pos).length ≤ 15 := by rw [pairTrees_length keys values X.env pos hall hl]; exact h15
  rw [arm_eval_Dict, zip_pairTrees keys values X.env pos hall hl, dictDisplay_pairs _ hne (by omega)]
  refine wpAny_bind (wpAny_standAt (wpAny_bind (wpAny_subDictH (knd := tupleKind (mixKind X.prog X.w)) (Q := fun d s' => wpAny (model X.prog X.w) X.A (pure (Value.ref d)) _ X.xe s') (show (tupleKind (mixKind X.prog X.w)).room X.A from Nat.lt_of_succ_lt hu) h15'
    (thn (h.run pins _ σ _ _ I1 (q _ hn)) fun ws s2 ⟨ps, H2, I2, rel, e, kvs, kr, lk, q2⟩ => ?_))))
  obtain ⟨rs, c, rk⟩ := jhg I2.hok kr rel
  obtain ⟨z, hd, xs0, r0, dd⟩ := dt_of I2.hok e
  cases r0
  refine ⟨rs, c, dd, fun h' tk dd' hs => wpAny_pure ⟨.ref s.heap.objs.size, _, ?_, rfl, q2⟩⟩
  have hz : (mgT [] kvs).length ≤ sizeLine := by
    have h1 := jgx kvs []
    rw [List.length_nil] at h1
    rw [sizeLine_eq]
    omega
  obtain ⟨o, es, ep, hq, h2, h3, h4, _, h5⟩ := dd'
  refine d_write I2 (by rw [e]; exact True.intro) hs ⟨o, hq⟩ ⟨hz, hd, _, (kt_mg rk (kvs := []) (xs := []) .nil).keeps fun c ys ec => ?_, o, es, ep, hq, h2, h3, h4, h5⟩
  rw [upd_ne (ne_of ec e (fun z => nomatch z))]
  exact ec
def joR : List (D × D) → Option (List (List Key × D))
  | [] => some []
  | p :: ps => match keyTD p.1, joR ps with
    | some k, some r => some ((k, p.2) :: r)
    | _, _ => none
def mgKt (ks : List (List Key)) (kds : List (List Key × D)) : List (List Key) := kds.foldl (fun acc kd => jms acc kd.1) ks
def mgDt : List (List Key) → List D → List (List Key × D) → List D
  | _, ds, [] => ds
  | ks, ds, kd :: r => mgDt (jms ks kd.1) (jrV ks ds kd.1 kd.2) r
section
variable {K : PySem.W.Frag} {X : Cx} {E : XK} {W H : Hp} {pos : Pos}
theorem krefs : ∀ {vs : List (V × V)} {ps : List (D × D)} {kds : List (List Key × D)}, Paired (fun (p : V × V) (q : D × D) => Rep K W p.1 q.1 ∧ Rep K W p.2 q.2) vs ps → joR ps = some kds →
    ∃ kvs : List (List Key × V), KRef W vs kvs ∧ kvs.length = ps.length ∧ Paired (fun (p : List Key × V) (q : List Key × D) => p.1 = q.1 ∧ Rep K W p.2 q.2) kvs kds
  | _, _, _, .nil, h => by cases h; exact ⟨[], .nil, rfl, .nil⟩
  | _, _, kds, .cons (a := v) (b := p) (l₁ := vs) (l₂ := ps) h t, hk => by
    simp only [joR] at hk
    cases h1 : keyTD p.1 with
    | none => rw [h1] at hk; cases hk
    | some kk =>
      cases h2 : joR ps with
      | none => rw [h1, h2] at hk; cases hk
      | some r =>
        rw [h1, h2] at hk
        cases hk
        obtain ⟨kvs, g1, g2, g3⟩ := krefs t h2
        obtain ⟨b, b1, b2⟩ := jwJ h.1 h1
        exact ⟨(kk, v.2) :: kvs, .cons ⟨b, b1, b2, rfl⟩ g1, by rw [List.length_cons, List.length_cons, g2], .cons ⟨rfl, h.2⟩ g3⟩
theorem KRef.gx {W H : Hp} {vs : List (V × V)} {kvs : List (List Key × V)} (g : Gx W H) (r : KRef W vs kvs) : KRef H vs kvs := Paired.mapP r fun _ _ ⟨b, h1, h2, h3⟩ => ⟨b, h1, g _ _ h2, h3⟩
theorem jtW : ∀ {more : List (List Key × V)} {kds : List (List Key × D)}, Paired (fun (p : List Key × V) (q : List Key × D) => p.1 = q.1 ∧ Rep K W p.2 q.2) more kds → ∀ {kvs : List (List Key × V)} {ds : List D}, RepAll K W (kvs.map Prod.snd) ds →
    (mgT kvs more).map Prod.fst = mgKt (kvs.map Prod.fst) kds ∧ RepAll K W ((mgT kvs more).map Prod.snd) (mgDt (kvs.map Prod.fst) ds kds)
  | _, _, .nil, kvs, ds, r => ⟨rfl, r⟩
  | _, _, .cons (a := p) (b := q) (l₁ := more) (l₂ := kds) h t, kvs, ds, r => by
    obtain ⟨e, r1⟩ := jvs (k := p.1) h.2 r
    obtain ⟨g1, g2⟩ := jtW t r1
    rw [e, h.1] at g1 g2
    refine ⟨?_, ?_⟩
    · show (mgT (putK kvs p.1 p.2) more).map Prod.fst = mgKt (jms (kvs.map Prod.fst) q.1) kds
      rw [← g1, h.1]
    · show RepAll K W ((mgT (putK kvs p.1 p.2) more).map Prod.snd) (mgDt (jms (kvs.map Prod.fst) q.1) (jrV (kvs.map Prod.fst) ds q.1 q.2) kds)
      rw [h.1]
      exact g2
def jiW (fs : List (FE × FE)) : FDt := fun ρ Q Z => jmq fs ρ (fun ps => ∃ kds, joR ps = some kds ∧ ps.length ≤ 15 ∧ Q (mgKt [] kds) (mgDt [] [] kds)) Z
theorem jiX {keys : List (Option Expr)} {values : List Expr} {fs : List (FE × FE)} (h : PE X (.Dict keys values pos) (jwS (tPs K E fs))) : PE X (.Dict keys values pos) (tDDt K E (jiW fs)) := h.mono fun σ H Qh ⟨W0, H0, W, ρ, Q, Z, st, f, k, x⟩ p hp => by
  have e0 := Ex.hid (o := .dT []) st.see hp
  refine jiF (st.ext e0) f (x.ext e0) fun vs W1 H1 ps e1 rp ⟨kds, hk, hl, q⟩ => ?_
  have hw : W1 p = none := e1.hide (st.see.free hp) upd_same (fun _ z => by cases z)
  obtain ⟨kvs, g1, g2, g3⟩ := krefs rp hk
  obtain ⟨g4, g5⟩ := jtW g3 (kvs := []) (ds := []) .nil
  refine ⟨e1.h _ _ upd_same, kvs, g1.gx e1.s, by omega, k p _ W1 _ _ (Ex.mut (e0.trans e1) hp hw) hp hw upd_same g5 ?_ ?_⟩
  · have h1 := jgx kvs []
    rw [List.length_nil] at h1
    rw [sizeLine_eq]
    omega
  · rw [g4]
    exact q
end
end Pu
namespace Pu
open PySem PySem.Spec PyProof.Rows L2 Ly
/-- a dict of one pair, by its object -/
def OdT (o : Obj) : Addr → List V → Heap → Prop := fun a vs h => h.get? a = some o ∧ (a == sysModules) = false ∧ o.ExactDict ∧ ∃ es ep en k v, o.data = .dict es ep ∧ es.toList = [en] ∧ vs = [k, v] ∧ RelV k en.key ∧ RelV v en.val
theorem od_ok {P : Program} {w : World} {H : Hp} {h : Heap} {o : Obj} {a : Addr} {vs : List V} (x : OdT o a vs h) : ObjOk P w H h a (.ext (OdT o a vs)) := ⟨x, ⟨o, x.1⟩, fun h1 h2 ⟨g1, g2⟩ k => ⟨k o g1, g2⟩⟩
theorem od_at {X : Cx} {pins : List (Addr × Obj)} {σ : L2.St} {H : Hp} {s : Shared} {o : Obj} {a : Addr} {vs : List V} (I : L2.Inv X pins σ H s) (e : H a = some (.ext (OdT o a vs))) : OdT o a vs s.heap := by
  have x : ObjOk X.prog X.w H s.heap a (.ext (OdT o a vs)) := I.hok a _ e
  exact x.1
def tOd (trs : List (TE × TE)) : TE := fun σ H Q => ∀ p, H p = none → tPairs trs σ (upd H p (.dT [])) fun ps H2 => H2 p = some (.dT []) ∧ ∃ (a : Addr) (i : Int) (b : Bool) (v : V), ps = [(.ref a, v)] ∧ H2 a = some (.tup [.int i, .bl b]) ∧ ∀ o, Q (.ref p) (upd H2 p (.ext (OdT o p [.ref a, v])))
theorem pe_od {X : Cx} {pos : Pos} {ke ve : Expr} {trs : List (TE × TE)} (hu : X.A.units + 9 < cLine) (h : PPs X pos [some ke] [ve] trs) : PE X (.Dict [some ke] [ve] pos) (tOd trs) := by
  refine ⟨fun pins s σ H Q I q => ?_⟩
  have hn := I.hok.fresh (Nat.le_refl s.heap.objs.size)
  have I1 := I.laid (a := s.heap.objs.size) (o := .dT []) (h' := s.heap.push { cls := .type "dict", data := .dict #[] }) (t' := s.toks) (fun _ _ q => Heap.get?_push_of_some _ q) (Nat.le_refl _) (dt_empty s.heap I.big)
  have hl : [some ke].length = [ve].length := rfl
  have hall : [some ke].all (·.isSome) = true := rfl
  have hne : pairTrees [some ke] [ve] X.env pos ≠ [] := by
    intro he
    have e := pairTrees_length [some ke] [ve] X.env pos hall hl
    rw [he] at e
    cases e
  have h15' : (pairTrees [some ke] [ve] X.env pos).length ≤ 15 := by rw [pairTrees_length [some ke] [ve] X.env pos hall hl]; exact (show 1 ≤ 15 by decide)
  rw [arm_eval_Dict, zip_pairTrees [some ke] [ve] X.env pos hall hl, dictDisplay_pairs _ hne (by omega)]
  refine wpAny_bind (wpAny_standAt (wpAny_bind (wpAny_subDictH (knd := nestedKind X.prog X.w) (Q := fun d s' => wpAny (model X.prog X.w) X.A (pure (Value.ref d)) _ X.xe s') (show X.A.units + 8 < cLine by omega) h15'
    (thn (h.run pins _ σ _ _ I1 (q _ hn)) fun ws s2 ⟨ps, H2, I2, rel, e, a, i, b, v, ep, ea, q2⟩ => ?_))))
  subst ep
  obtain ⟨z, hd, xs0, r0, o0, es0, ep0, g1, g2, g3, g4, g5⟩ := (show ObjOk X.prog X.w H2 s2.heap s.heap.objs.size (.dT []) from I2.hok _ _ e)
  cases r0
  cases rel with
  | @cons _ w1 _ ws1 r1 r2 =>
    cases r2
    obtain ⟨w1a, w1b⟩ := w1
    have e1 : w1a = Value.ref a := r1.1
    obtain ⟨_, its, rv, ot, k1, k2, n, k3⟩ := (show ObjOk X.prog X.w H2 s2.heap a (.tup [.int i, .bl b]) from I2.hok _ _ ea)
    have nest : NestedIs s2.heap (.tup [.num i, .num (if b = true then 1 else 0)]) (.ref a) := by
      cases rv with
      | @cons _ u1 _ us1 q1 rv =>
        cases rv with
        | @cons _ u2 _ us2 q2 rv =>
          cases rv
          obtain ⟨t1, rfl⟩ : ∃ t, u1 = Value.int i t := q1
          obtain rfl : u2 = Value.bool b := q2
          exact .tup k1 k2 k3 (.cons (.int i t1) (.cons (.bool rfl) .nil))
    refine ⟨[(.tup [.num i, .num (if b = true then 1 else 0)], a, w1b)], ⟨e1, rfl, ⟨nest, by simp [NestedKey.depth, NestedKey.depthAll]⟩, True.intro⟩, ⟨o0, es0, ep0, g1, g2, g3, g4, (fun x hx => by cases hx), List.nodup_nil⟩, fun h' tk dd hs => ?_⟩
    obtain ⟨o, es, ep, hq, h2, h3, h4, _, _⟩ := dd
    refine wpAny_pure ⟨.ref s.heap.objs.size, _, ?_, rfl, q2 o⟩
    refine d_write I2 (by rw [e]; exact True.intro) hs ⟨o, hq⟩ (od_ok ⟨hq, hd, h2, es, ep, _, _, _, h3, h4, rfl, ?_, ?_⟩)
    · show RelV (V.ref a) (Value.ref a)
      rfl
    · exact r1.2
section
variable {X : Cx} {K : PySem.W.Frag} {E : XK} {F G : FE} {e : Expr} {p pos : Pos}
def fOd (F G : FE) : FE := fun ρ Q Z => jmq [(F, G)] ρ (fun ps => ∃ i b v, ps = [(.tup [.int i, .bl b], v)] ∧ ∀ o, Q (.xt (OdT o) [.tup [.int i, .bl b], v])) Z
theorem d_od {ke ve : Expr} (hu : X.A.units + 9 < cLine) (h : PPs X pos [some ke] [ve] (tPs K E [(F, G)])) : PE X (.Dict [some ke] [ve] pos) (tD K E (fOd F G)) := (pe_od hu h).mono fun σ H Qh ⟨W0, H0, W, ρ, Q, Z, st, f, k, x⟩ p hp => by
  have e0 := Ex.hid (o := .dT []) st.see hp
  refine jiF (st.ext e0) f (x.ext e0) fun vs W1 H1 ps e1 rp ⟨i, b, v, hps, q⟩ => ?_
  have hw : W1 p = none := e1.hide (st.see.free hp) upd_same (fun _ z => by cases z)
  subst hps
  cases rp with
  | @cons a1 _ as1 _ hr t =>
    cases t
    obtain ⟨kv, vv⟩ := a1
    obtain ⟨h1, h2⟩ := hr
    have h1 : Rep K W1 kv (.tup [.int i, .bl b]) := h1
    have h2 : Rep K W1 vv v := h2
    cases h1 with
    | @tup a0 _ _ g1 g2 g3 =>
      cases g2 with
      | cons r1 g2 =>
        cases r1
        cases g2 with
        | cons r2 g2 =>
          cases r2
          cases g2
          refine ⟨e1.h _ _ upd_same, _, i, b, vv, rfl, e1.s _ _ g1, fun o => ?_⟩
          have e2 := Ex.mut (u := .ext (OdT o p [.ref a0, vv])) (e0.trans e1) hp hw
          have e3 := e2.see hp hw upd_same
          exact k _ _ _ _ e3 (.xt upd_same (.cons (.tup (by rw [upd_ne (fun z => by rw [z, hw] at g1; cases g1)]; exact g1) (.cons (.int _) (.cons (.bl _) .nil)) g3) (.cons (h2.gx (Gx.new hw)) .nil))) (q o)
/-- isinstance(x, dict) of it -/
def rIsiOd : List V → Hp → VK → Prop := fun xs H Q => ∃ a o vs, xs = [.ref a, .ty "dict"] ∧ H a = some (.ext (OdT o a vs)) ∧ Q (.bl true) H
theorem jsz : CallR X (.builtin "isinstance") rIsiOd := by
  intro pins s σ H xs us Q I r h
  obtain ⟨a, o, vs, rfl, ha, q⟩ := h
  obtain ⟨u1, u2, rfl, r1, r2⟩ := vals2 r
  obtain rfl : u1 = Value.ref a := r1
  obtain rfl : u2 = Value.type "dict" := r2
  obtain ⟨g1, g2, g3, _⟩ := od_at I ha
  exact PySem.W.kia_one (K := X.K) PySem.W.kitx_dict I.kIn ⟨o, g1, g3.1⟩ (kit_ty (show kitB "dict" "dict" = some true by decide +kernel)) (fun z => nomatch z) fun tk => ⟨.bl true, H, I.tok tk, rfl, q⟩
def jmw (F : FE) : FE := fun ρ Q Z => F ρ (fun d => ∃ o ds, d = .xt (OdT o) ds ∧ Q (.bl true)) Z
theorem jxG {y : Str} {p2 : Pos} (hg : Gl X "isinstance") (hm : X.mg "isinstance" = none) (h : PE X e (tD K E F)) (ht : PE X (.Name y p2) (tC (.ty "dict")))
    (hs : starEach [e, .Name y p2] X.env = (false, eval e X.env) :: starEach [.Name y p2] X.env := by rfl) (hs2 : starEach [.Name y p2] X.env = [(false, eval (.Name y p2) X.env)] := by rfl) (hpl : (backTo pos (starEach [.Name y p2] X.env)).any (·.1) = false := by rfl) :
    PE X (.Call (.Name "isinstance" p) [e, .Name y p2] [] pos) (tD K E (jmw F)) :=
  (pe_callB jsz hg hm (by decide +kernel) (pa_cons h (pa_cons ht pa_nil hs2) hs) (by decide) (by decide) hs hpl).mono fun σ H Qh ⟨W0, H0, W, ρ, Q, Z, st, f, k, x⟩ => ⟨W0, H0, W, ρ, _, Z, st, f, fun v W1 H1 d e1 r ⟨o, ds, z, q⟩ => (by
    subst z
    cases r with
    | xt h1 h2 => exact ⟨_, o, _, rfl, e1.s _ _ h1, k _ W1 H1 _ e1 (.bl true) q⟩), x⟩
def fOrE (F G : FE) : FE := fun ρ Q Z => F ρ Q Z ∨ G ρ Q Z
theorem d_orE (h1 : PE X e (tD K E F)) (h2 : PE X e (tD K E G)) : PE X e (tD K E (fOrE F G)) := (PE.or h1 h2).mono fun σ H Qh ⟨W0, H0, W, ρ, Q, Z, st, f, k, x⟩ => f.imp (fun f => ⟨W0, H0, W, ρ, Q, Z, st, f, k, x⟩) (fun f => ⟨W0, H0, W, ρ, Q, Z, st, f, k, x⟩)
def fOrA (F G : FA) : FA := fun ρ Q Z => F ρ Q Z ∨ G ρ Q Z
theorem d_orN {F G : FA} (h1 : PE X e (tDN K E F)) (h2 : PE X e (tDN K E G)) : PE X e (tDN K E (fOrA F G)) := (PE.or h1 h2).mono fun σ H Qh ⟨W0, H0, W, ρ, Q, Z, st, f, k, x⟩ => f.imp (fun f => ⟨W0, H0, W, ρ, Q, Z, st, f, k, x⟩) (fun f => ⟨W0, H0, W, ρ, Q, Z, st, f, k, x⟩)
end
def Itod (d : Addr) (o : Obj) (k v : V) : It := ⟨fun i H => H d = some (.ext (OdT o d [k, v])) ∧ i < 1, fun i H x H' => H' = H ∧ x = k, fun i H => H d = some (.ext (OdT o d [k, v])) ∧ 1 ≤ i⟩
section
variable {P : Program} {w : World} {K : PySem.W.Frag} {tg : Expr} {d : Addr} {o : Obj} {es : Array DictEntry} {ep : Nat}
theorem jxH {k v : V} (it : Addr) (hod : o.data = .dict es ep) (hz : es.size = 1) : Turn P w K tg (Itod d o k v) [it] it (fun i h => h.IsKeyIter it d i 1 ep) where
  mem := by simp
  obj := fun i h st b hb => by
    have e : b = it := by simpa using hb
    subst e
    obtain ⟨oi, e, c, dd⟩ := st
    exact ⟨oi, e, fun v z => by rw [dd] at z; cases z⟩
  keep := fun i h h' st k => st.at fun oi e => k it (by simp) oi e
  item := by
    intro X hP hw hK hc i pins s σ H E I hf st hg
    subst hP hw hK
    obtain ⟨hd, hi⟩ := hg
    have h0 : i = 0 := by omega
    subst h0
    obtain ⟨f0, f1, f2, f3, f4, f5⟩ := hf it (by simp)
    obtain ⟨hgd, hs, hx, es', ep', en, k0, v0, hdt, hes, hvs, rk, rv⟩ := od_at I hd
    obtain ⟨rfl, rfl⟩ := dict_ep hod hdt
    cases hvs
    have hen : es'[0]? = some en := by rw [← Array.getElem?_toList, hes]; rfl
    refine next_key_item st hgd hdt hz hen fun h' st' sb => ?_
    have I1 : Inv X pins σ H { s with heap := h' } := I.turned (t' := s.toks) (fun b ob hb e => (sb.2 b hb).trans e) f0 f1 f3 f4 f5
    obtain ⟨oi, e, c, dd⟩ := id st'
    exact ⟨en.key, rfl, go_of (s := { s with heap := h' }) e c dd (by decide) ⟨k, H, I1, rk, ⟨rfl, rfl⟩, st', fun b hb => (hf b hb).1⟩⟩
  done := by
    intro X hP hw hK hc i pins s σ H E I hf st hg
    subst hP hw hK
    obtain ⟨hd, hi⟩ := hg
    obtain ⟨f0, f1, f2, f3, f4, f5⟩ := hf it (by simp)
    obtain ⟨hgd, hs, hx, es', ep', en, k0, v0, hdt, hes, hvs, rk, rv⟩ := od_at I hd
    obtain ⟨rfl, rfl⟩ := dict_ep hod hdt
    exact next_key_end (I.ok.hd hc) st hgd hdt hz hi fun h' eb => ⟨rfl, I.turned (t' := s.toks) (fun b ob hb e => eb b ob hb e) f0 f1 f3 f4 f5⟩
  self := fun A i s Q E st h => wpAny_pyIter_keyiter st h
end
section
variable {X : Cx} {K : PySem.W.Frag} {E : XK} {F : FE} {tg e : Expr}
def iOd (td : TE) : TI := fun σ H R => td σ H fun x H1 => ∃ d o k v, x = .ref d ∧ H1 d = some (.ext (OdT o d [k, v])) ∧ R (Itod d o k v) H1
theorem pi_od0 {td : TE} (he : PE X e td) : PI X tg e (iOd td) := by
  refine ⟨fun pins s σ H R I h => ?_⟩
  refine thn (he.run pins s σ H _ I h) fun u s1 ⟨x, H1, I1, rx, d, o, k, v, ex, hd, q⟩ => ?_
  subst ex
  obtain rfl : u = Value.ref d := rx
  obtain ⟨hgd, hs, hx, es, ep, en, k0, v0, hdt, hes, _, _, _⟩ := od_at I1 hd
  have hz : es.size = 1 := by rw [← Array.length_toList, hes]; rfl
  refine iter_keys hs hgd hx hdt (pi_one (tk := s1.toks) I1 _ (jxH _ hdt hz) ⟨_, Heap.get?_push_size _ rfl, rfl, ?_⟩ q)
  rw [hz] <;> rfl
def fItOd (F : FE) : FA := fun ρ Q Z => F ρ (fun d => ∃ o k v, d = .xt (OdT o) [k, v] ∧ Q [k]) Z
theorem d_itOd (h : PE X e (tD K E F)) : PI X tg e (tDI K E (fItOd F)) := (pi_od0 h).mono fun σ H R ⟨W0, H0, W, ρ, Q, Z, st, f, kk, x⟩ => ⟨W0, H0, W, ρ, _, Z, st, f, fun v W1 H1 d e1 r ⟨o, k, v', z, q⟩ => (by
  subst z
  cases r with
  | @xt a _ _ _ h1 h2 =>
    cases h2 with
    | @cons kv _ _ _ r1 h2 =>
      cases h2 with
      | @cons vv _ _ _ r2 h2 =>
        cases h2
        have it : IterC K W1 H1 (Itod a o kv vv) [k] := by
          refine ⟨fun H => H a = some (.ext (OdT o a [kv, vv])), fun i H x H' => H' = H ∧ x = kv, ⟨fun i H hi g => ⟨g, hi⟩, fun H g => ⟨g, Nat.le_refl _⟩, fun i H x H' hi g y => y⟩, fun H3 e => e _ _ (e1.s _ _ h1), fun i H3 x H4 W3 hi e s3 s4 y => ?_⟩
          have h0 : i = 0 := by
            have : i < 1 := hi
            omega
          subst h0
          obtain ⟨rfl, rfl⟩ := y
          exact ⟨W3, k, rfl, Ex.refl s4, r1.gx s3⟩
        exact ⟨a, o, kv, vv, rfl, e1.s _ _ h1, kk _ W1 H1 _ e1 it q⟩), x⟩
end
end Pu
namespace Pu
open PySem PySem.Spec PyProof.Rows L2 Ly LamX
section
variable {P : Program} {w : World} {K : PySem.W.Frag} {mg : Str → Option Value} {base : Heap} {T : List (Addr × Str)}
theorem fng_xl {x qual : Str} {st : Stmt} {f : Addr} {fd : FuncData} {N ps : List Str} {k : Nat} {sp : Sp} (F : Fun K x qual st f fd) (S : FnScope N ps (defScope st)) (hlen : ∀ vs H Q E, sp vs H Q E → vs.length = ps.length)
    (hbody : ∀ (cdv : Value) (A : Around) (outer : List PySem.Env) (s : Shared) (H : Hp) (vs : List V) (Q : VK) (E : XK), Room k (A.deeper (envOfC qual (defScope st) s.heap.objs.size f cdv)) → A.guards = some [] → fd.code = cdv → sp vs H Q E →
      ∃ t, PSs (cxOf (L2.CX P w) P w K mg base N qual (defScope st) f cdv A outer s H E) (defBody st) t ∧ t { nx := fun _ H' => Q .non H', rt := Q } (L2.start N vs) H) : FnG P w K mg base (L2.CX P w) (k + 1) f fd ps sp := by
  obtain ⟨oc, od, kV, doc, pm, an, cdv, ct, osl, hfd, look, code⟩ := F.ex
  subst hfd
  refine ⟨hlen, fun A outer s H args us vs Q E room gd env bnd rv want => ?_⟩
  have keepB : ∀ b o, base.get? b = some o → s.heap.get? b = some o := fun b o e => (env.bs b o e).1
  have inK : K.In s.heap := env.mod.kin.keeps keepB
  have noLim : s.heap.NoLimit := env.mod.nolimit.keeps keepB
  have kinds : ∀ y ∈ ps.zip us, (defScope st).names.lookup y.1 = some .local ∨ ((defScope st).names.lookup y.1 = some .cell ∧ ((cellsFrom (s.heap.objs.size + 1) (defScope st).names []).lookup y.1).isSome = true) := by
    rintro ⟨n, v⟩ hy
    rcases S.par n (List.of_mem_zip hy).1 with q | q
    · exact .inl q
    · exact .inr ⟨q, PySem.W.cellsFrom_some _ _ _ (.inl q)⟩
  refine codeAny_call_function room.depth (inK _ _ look) rfl S.co S.gen rfl (PySem.W.codeRec_of inK code) (bnd _ _ _ _ ?_)
  refine wpAny_newFunctionEnv_cells S.kind kinds fun ev hev s1 inside => ?_
  subst hev
  refine ⟨noLim.keeps inside.toInCall.keep, codeAny_func ?_⟩
  obtain ⟨t, ht, hq⟩ := hbody cdv A outer s H vs Q E (room.deeper _) gd rfl want
  have I0 := inv_start (CX := L2.CX P w) (E := E) S room.hd env (hlen _ _ _ _ want) rv inside
  refine wpAny_mono (ht.run [] s1 (L2.start N vs) H _ I0 hq) (fun fl s' done => ?_) (fun _ _ z => z)
  cases fl with
  | ret u =>
    obtain ⟨v, σ', H', J, r2, q2⟩ := done
    exact ⟨v, H', J.os, J.bare, J.base, J.hok, r2, q2⟩
  | next =>
    obtain ⟨σ', H', J, q2⟩ := done
    exact ⟨.non, H', J.os, J.bare, J.base, J.hok, rfl, q2⟩
  | brk =>
    obtain ⟨_, _, _, q2⟩ := done
    exact q2.elim
  | cont =>
    obtain ⟨_, _, _, q2⟩ := done
    exact q2.elim
/-- a def that makes lambdas or calls one that does, where no text of a container is under way -/
theorem fn_qG {x qual : Str} {st : Stmt} {f : Addr} {fd : FuncData} {N ps : List Str} {k n : Nat} {g : Fn} {S : FS} (F : Fun K x qual st f fd) (Sc : FnScope N ps (defScope st)) (hn : ps.length = n)
    (hbody : ∀ (cdv : Value) (A : Around) (outer : List PySem.Env) (s : Shared) (H : Hp) (E : XK) (W0 : Hp), Room k (A.deeper (envOfC qual (defScope st) s.heap.objs.size f cdv)) → A.guards = some [] → fd.code = cdv →
      PSs (cxOf (L2.CX P w) P w K mg base N qual (defScope st) f cdv A outer s H E) (defBody st) (tQS T K W0 (noT H) S)) (hg : ∀ ds Q, ds.length = n → g ds Q ZN → fnS N.length S ds Q ZN) : FnG P w K mg base (L2.CX P w) (k + 1) f fd ps (spQ T K n g) :=
  fng_xl F Sc (fun vs H Q E ⟨W, ds, _, _, _, _, r, hl, _⟩ => by rw [r.len, hl, hn]) fun cdv A outer s H vs Q E hr gd hc ⟨W, ds, Qd, sw, nw, tb, r, hl, hf, k⟩ =>
    ⟨_, hbody cdv A outer s H E W hr gd hc, W, startB N.length ds, { nx := fun _ => Qd .non, rt := Qd, ex := ZN }, (joJ sw rfl r).low jft, nw, tb, hg ds Qd hl hf, ⟨fun W' ρ' σ' H' _ s' n' t' q => k _ W' H' _ ⟨s'.ex, t', n'⟩ .non q, fun v W' H' d e n t r q => k v W' H' d ⟨e, t, n⟩ r q, (fun _ _ _ _ _ _ _ _ z => z.elim), (fun _ _ _ _ _ _ _ _ z => z.elim), rfl⟩⟩
structure CalQG (T : List (Addr × Str)) (P : Program) (w : World) (K : PySem.W.Frag) (mg : Str → Option Value) (base : Heap) (x : Str) (k n : Nat) (g : Fn) : Prop where
  ex : ∃ (f : Addr) (fd : FuncData) (ps : List Str), FnG P w K mg base (L2.CX P w) k f fd ps (spQ T K n g) ∧ mg x = some (.ref f) ∧ PySem.W.keepIn K (.ref f) = true ∧ Binds K fd ps []
end
section
variable {X : Cx} {T : List (Addr × Str)} {K : PySem.W.Frag} {E : XK} {W0 H0 : Hp} {F G L : FE} {A N : FA} {g : Fn} {tg e a b : Expr} {es : List Expr} {p pos : Pos} {i j k n : Nat} {x : Str}
theorem jvM (c : CalQG T X.prog X.w X.K X.mg X.base x k n g) (hr : Room k X.A) (gd : X.A.guards = some []) (hg : Gl X x) (ha : PA X (e :: es) (tQA T K A)) (hK : X.K = K := by rfl) (hdb : (x == ("__debug__" : Str)) = false := by decide)
    (he : starEach (e :: es) X.env = (false, eval e X.env) :: starEach es X.env := by rfl) (hpl : (backTo pos (starEach es X.env)).any (·.1) = false := by rfl) : PE X (.Call (.Name x p) (e :: es) [] pos) (tQ T K (fCall g n A)) := by
  subst hK
  obtain ⟨f, fd, ps, F, hm, hk, hb⟩ := c.ex
  refine ⟨fun pins s σ H Qh I ⟨W0, H0, W, ρ, Q, st, nw, tb, f, k⟩ => ?_⟩
  refine wpAny_Call_Name_kw (ld_glob I hg hm ?_ hdb)
  refine PySem.W.callWith_K (h₀ := X.base) I.ok.mod.kin hk (thn (ha.run pos pins s σ H (fun vs H1 => spQ T X.K n g vs H1 Qh E0) I ⟨W0, H0, W, ρ, _, st, nw, tb, f, fun vs W1 H1 ds e1 r ⟨hl, q⟩ => ⟨W1, ds, Q, e1.ex.s, e1.nt, e1.tb, r, hl, q, fun v W2 H2 d e2 r2 q2 => k v W2 H2 d (e1.trans e2) r2 q2⟩⟩) fun us s1 ⟨vs, H1, I1, r, q⟩ => ⟨I1.kIn, ?_⟩) he hpl
  exact run_g F hr gd hb passL I1 r q
/-- range(n), walked -/
theorem jxI {p : Pos} (hg : Gl X "range") (hm : X.mg "range" = none) (ha : PA X [a] (tDA K E A)) (hs : starEach [a] X.env = [(false, eval a X.env)] := by rfl) : PI X tg (.Call (.Name "range" p) [a] [] pos) (tQF T K (fRng1 A)) :=
  (pi_range1 hg hm ha hs).mono fun σ H R ⟨W0, H0, W, ρ, Q, s, n, t, f, k⟩ => ⟨W0, H0, W, ρ, _, _, s, f, fun vs W1 H1 ds e1 r ⟨j, z, hb, q⟩ => by
    subst z
    exact ⟨j, ints1 r, by omega, by omega, k _ _ H1 _ (ExT.of n t e1) jvm q⟩, fun _ _ _ _ _ _ _ z => z.elim⟩
end
end Pu
namespace Pu
open PySem PySem.Spec PyProof.Rows L2 Ly LamX
abbrev tbO : Obj := { cls := .none, data := .fields #[] }
theorem jtX {h h' : Heap} {c P : Addr} (x : PySem.W.CodeHd h c P) (k : ∀ o, h.get? c = some o → o.cls = .type "code" → h'.get? c = some o) : PySem.W.CodeHd h' c P := by
  obtain ⟨o, us, fi, tf, fl, tg, iF, tx, tt, g0, g1, g⟩ := x
  exact ⟨o, us, fi, tf, fl, tg, iF, tx, tt, k o g0 g1, g1, g⟩
section
variable {P : Program} {w : World} {K : PySem.W.Frag} {mg mb : Str → Option Value} {k : Nat} {fa a : Addr} {fd : FuncData} {x : Str} {sp : Sp} {s1 : Shared} {vs : List Value} {ns : List Int} {cs : List (Addr × Addr)}
theorem jsA (inK : K.In s1.heap) (hns : s1.heap.Ns mainGlobals mg) (hb : s1.heap.Ns builtinsNs mb) (hbb : ∀ y : Str, y ≠ "__name__" → mb y = bootBuiltins y) (nl : s1.heap.NoLimit) (ng : s1.gens = #[])
    (emp : ∀ p ∈ cs, s1.heap.get? p.2 = some tbO) (outK : ∀ p ∈ cs, K.lookup p.2 = none) (cod : ∀ p ∈ cs, PySem.W.CodeHd s1.heap p.1 p.2)
    (bmod : ∃ (bm : Addr) (ob : Obj), mg "__builtins__" = some (.ref bm) ∧ bm ≠ builtinsNs ∧ s1.heap.get? bm = some ob ∧ ob.cls = .type "module" ∧ ob.dict = some builtinsNs ∧ ob.data = .plain)
    (ha : s1.heap.get? a = some { cls := .type "list", data := .seq vs.toArray }) (hi : IntsAre vs ns) (hl : ns.length ≤ sizeLine) (room : Room k callerA)
    (F : ∀ base : Heap, K.In base → base.Ns mainGlobals mg → (∀ p ∈ cs, TabB base mg p.1 p.2) → FnG P w K mg base (L2.CX P w) k fa fd [x] sp) (bnd : ∀ (s : Shared) (u : Value), BindsTo s fd ⟨[u], []⟩ [(x, u)])
    (want : ∀ H : Hp, (∀ p ∈ cs, H p.2 = some (.tbl #[])) → SqL K H a (ns.map V.int) → sp [.ref a] H (fun v _ => v = .bl true) fun _ _ _ => False) :
    codeAny (model P w) callerA (.call (.ref fa) ⟨[.ref a], []⟩) (fun r s' => r = .ok (.ret (.bool true)) ∧ OldK s1.heap s'.heap ∧ s'.os = s1.os ∧ AllBare s'.gens) s1 := by
  have rv := vals_ints hi
  have lenV := hi.length
  let ts := cs.map (·.2)
  have tin : ∀ {p : Addr × Addr}, p ∈ cs → p.2 ∈ ts := fun h => List.mem_map.mpr ⟨_, h, rfl⟩
  have tat : ∀ {b : Addr}, b ∈ ts → s1.heap.get? b = some tbO := fun h => by
    obtain ⟨p, hp, e⟩ := List.mem_map.mp h
    rw [← e]
    exact emp p hp
  have nat_ : a ∉ ts := fun h => by
    have z := tat h
    rw [ha] at z
    cases z
  have main : ∀ H : Hp, (∀ p ∈ cs, H p.2 = some (.tbl #[])) → (∀ b, b ∉ ts → H b = none ∨ ∃ ob xs, H b = some (.frz ob (.lst xs))) → SqL K H a (ns.map V.int) → HOk P w H s1.heap → (∀ b, H b ≠ none → b = a ∨ b ∈ ts) → (H a ≠ none → K.lookup a = none) →
      codeAny (model P w) callerA (.call (.ref fa) ⟨[.ref a], []⟩) (fun r s' => r = .ok (.ret (.bool true)) ∧ OldK s1.heap s'.heap ∧ s'.os = s1.os ∧ AllBare s'.gens) s1 := by
    intro H htb only sq hok dom noK
    -- what is neither the script nor a table is not tracked
    have free : ∀ {b : Addr} {o : Obj}, s1.heap.get? b = some o → (o.cls ≠ .type "list") → o ≠ tbO → H b = none := fun {b o} e n1 n2 => by
      cases q : H b with
      | none => rfl
      | some u =>
        rcases dom b (by rw [q]; simp) with z | z
        · subst z
          rw [ha] at e
          cases e
          exact absurd rfl n1
        · rw [tat z] at e
          cases e
          exact absurd rfl n2
    have dictN : ∀ {b : Addr} {o : Obj} {es : Array DictEntry} {ep : Nat}, s1.heap.get? b = some o → o.data = .dict es ep → H b = none := fun {b o es ep} e d => by
      cases q : H b with
      | none => rfl
      | some u =>
        rcases dom b (by rw [q]; simp) with z | z
        · subst z
          rw [ha] at e
          cases e
          cases (show Data.seq vs.toArray _ = Data.dict es ep from d)
        · rw [tat z] at e
          cases e
          cases (show Data.fields #[] = Data.dict es ep from d)
    have nsN : ∀ {b : Addr} {m : Str → Option Value}, s1.heap.Ns b m → (hidT s1.heap H).Ns b m := fun {b m} ⟨o, es, ep, e, d, r⟩ => ⟨o, es, ep, hidT_get e (dictN e d), d, r⟩
    have kN : ∀ b o, K.lookup b = some o → H b = none := fun b o e => by
      cases q : H b with
      | none => rfl
      | some u =>
        rcases dom b (by rw [q]; simp) with z | z
        · subst z
          rw [noK (by rw [q]; simp)] at e
          cases e
        · obtain ⟨p, hp, z⟩ := List.mem_map.mp z
          rw [← z, outK p hp] at e
          cases e
    have hKb : K.In (hidT s1.heap H) := fun b o e => hidT_get (inK b o e) (kN b o e)
    have md : Mod K mg (hidT s1.heap H) := ⟨hKb, nsN hns, ⟨mb, nsN hb, hbb⟩, let ⟨mc, n1, n2⟩ := nl; ⟨mc, nsN n1, n2⟩⟩
    have ev : Env0 P w K mg (hidT s1.heap H) callerA [] s1 H := ⟨rfl, md, fun b o e => of_hidT e, Nat.le_of_eq (hidT_size _ _), trivial, (fun b hb => (nomatch (show b ∈ ([] : List Addr) from hb))), hok, .of_eq ng⟩
    have tbs : ∀ p ∈ cs, TabB (hidT s1.heap H) mg p.1 p.2 := fun p hp => by
      refine ⟨jtX (cod p hp) fun o e c => hidT_get e (free e (by rw [c]; decide) fun z => by rw [z] at c; cases c), ?_, fun z => ?_⟩
      · obtain ⟨bm, ob, g1, g2, g3, g4, g5, g6⟩ := bmod
        refine ⟨bm, ob, g1, g2, fun z => ?_, fun z => ?_, hidT_get g3 (free g3 (by rw [g4]; decide) fun z => by rw [z] at g6; cases g6), g4, g5, g6⟩
        · obtain ⟨o, es, ep, e, d, _⟩ := hns
          rw [z, e] at g3
          cases g3
          rw [d] at g6
          cases g6
        · rw [z, emp p hp] at g3
          cases g3
          cases g6
      · obtain ⟨o, es, ep, e, d, _⟩ := hns
        rw [z, emp p hp] at e
        cases e
        cases d
    refine codeAny_mono ((F _ hKb (nsN hns) tbs).run callerA [] s1 H ⟨[.ref a], []⟩ [.ref a] [.ref a] _ _ room rfl ev (bnd s1 (.ref a)) (.cons rfl .nil) (want H htb sq)) fun r s' h => ?_
    cases r with
    | error e =>
      obtain ⟨_, _, _, _, _, _, _, _, _, _, _, _, hE⟩ := h
      exact hE.elim
    | ok fl =>
      cases fl with
      | next => exact h.elim
      | brk => exact h.elim
      | cont => exact h.elim
      | ret u =>
        obtain ⟨v, H', os, bare, un, hok', r', q⟩ := h
        have q : v = .bl true := q
        subst q
        obtain rfl : u = Value.bool true := r'
        have stay : ∀ b o, b ∉ ts → s1.heap.get? b = some o → s'.heap.get? b = some o := fun b o nb e => by
          rcases only b nb with z | ⟨ob, xs, z⟩
          · exact un.keep b o e z (fun y => (nomatch (show b ∈ ([] : List Addr) from y))) (by simp)
          · obtain ⟨e1, _⟩ := hok b _ z
            obtain ⟨e2, _⟩ := hok' b _ (un.frzs b ob _ z)
            rw [e] at e1
            cases e1
            exact e2
        have tab : ∀ p ∈ cs, ∃ more : Array Value, s'.heap.get? p.2 = some { cls := .none, data := .fields more } := fun p hp => by
          obtain ⟨more, z⟩ := un.tbls p.2 #[] (htb p hp)
          exact ⟨_, hok' p.2 _ z⟩
        refine ⟨rfl, ⟨fun b o e => ?_, fun b o e => ?_⟩, os, bare⟩
        · by_cases nb : b ∈ ts
          · obtain ⟨p, hp, z⟩ := List.mem_map.mp nb
            subst z
            obtain ⟨more, hm⟩ := tab p hp
            rw [emp p hp] at e
            cases e
            exact .inr (.inl ⟨((cod p hp).tab (emp p hp)).isCodeTable, rfl, #[], more, rfl, by rw [Array.empty_append]; exact hm⟩)
          · exact .inl (stay b o nb e)
        · by_cases nb : b ∈ ts
          · obtain ⟨p, hp, z⟩ := List.mem_map.mp nb
            subst z
            obtain ⟨more, hm⟩ := tab p hp
            exact ⟨_, hm⟩
          · exact ⟨o, stay b o nb e⟩
  cases hk : K.lookup a with
  | some o =>
    have e := inK a o hk
    rw [ha] at e
    cases e
    have no : ∀ {b}, b ∉ ts → (fun b => if b ∈ ts then some (HO.tbl #[]) else none : Hp) b = none := fun h => if_neg h
    refine main (fun b => if b ∈ ts then some (.tbl #[]) else none) (fun p hp => if_pos (tin hp)) (fun b nb => .inl (no nb)) (.inr ⟨_, vs.toArray, _, hk, rfl, rfl, rfl, by rw [List.size_toArray, lenV]; exact hl, by simpa using rv⟩) (fun b u z => ?_) (fun b z => ?_) fun z => absurd (no nat_) z
    · by_cases hb : b ∈ ts
      · have z := (if_pos hb).symm.trans z
        cases z
        exact tat hb
      · rw [no hb] at z
        cases z
    · by_cases hb : b ∈ ts
      · exact .inr hb
      · exact absurd (no hb) z
  | none =>
    refine main (fun b => if b = a then some (.frz { cls := .type "list", data := .seq vs.toArray } (.lst (ns.map V.int))) else if b ∈ ts then some (.tbl #[]) else none) (fun p hp => ?_) (fun b nb => ?_) (.inl (.inr ⟨{ cls := .type "list", data := .seq vs.toArray }, if_pos rfl⟩)) (fun b u z => ?_) (fun b z => ?_) fun _ => hk
    · exact (if_neg fun z => nat_ (by rw [← z]; exact tin hp)).trans (if_pos (tin hp))
    · by_cases hb : b = a
      · exact .inr ⟨_, _, if_pos hb⟩
      · exact .inl ((if_neg hb).trans (if_neg nb))
    · by_cases hb : b = a
      · have z := (if_pos hb).symm.trans z
        cases z
        subst hb
        exact ⟨ha, by rw [List.length_map]; exact hl, vs, _, rv, ha⟩
      · have z := (if_neg hb).symm.trans z
        by_cases hb2 : b ∈ ts
        · have z := (if_pos hb2).symm.trans z
          cases z
          exact tat hb2
        · have z := (if_neg hb2).symm.trans z
          cases z
    · by_cases hb : b = a
      · exact .inl hb
      · by_cases hb2 : b ∈ ts
        · exact .inr hb2
        · exact absurd ((if_neg hb).trans (if_neg hb2)) z
end
end Pu
namespace Pu
open PySem PySem.Spec PyProof.Rows L2 Ly
end Pu
namespace Pu
open PySem PySem.Spec PyProof.Rows L2 Ly LamX
structure CalGot (K : PySem.W.Frag) (mg : Str → Option Value) (x : Str) (st : Stmt) (a : Str) : Prop where
  ex : ∃ (f : Addr) (fd : FuncData), Fun K x x st f fd ∧ mg x = some (.ref f) ∧ PySem.W.keepIn K (.ref f) = true ∧ Binds K fd [a] []
/-- the table of the def fd, whose lambdas bear the name q -/
structure LamT (T : List (Addr × Str)) (base : Heap) (mg : Str → Option Value) (fd : FuncData) (q : Str) : Prop where
  ex : ∃ c P : Addr, fd.code = .ref c ∧ TabB base mg c P ∧ (P, q) ∈ T ∧ ∀ p ∈ T, p.1 = P → p.2 = q
section
variable {X : Cx} {T : List (Addr × Str)} {K : PySem.W.Frag}
theorem jbS {Nn : Nat} {S : RB → FS} {x a q : Str} {k : Nat} {st : Stmt} {fd : FuncData} {Ng : List Str} {params : Arguments} {body : Expr} {scope : Scope} {F : FE} {p lpos pos : Pos}
    (G : CalGot X.K X.mg x st a) (LT : LamT T X.base X.mg fd q) (hc : fd.code = X.env.code) (hr : Room (k + 2) X.A) (Sg : FnScope Ng [a] (defScope st)) (hG : ∀ (g : Addr) (cdg : Value), GivesTo X Ng x (defScope st) g cdg (defBody st) a q (TGot X.K Nn S))
    (hq : X.env.qual ++ "<lambda>" = q) (L : LamS X.env.scope scope)
    (hbody : ∀ (A : Around) (outer : List PySem.Env) (s : Shared) (H : Hp) (E : XK) (f c' : Addr), Room k (A.deeper (lamEnv X scope s.heap.objs.size f c')) → PE (lamCx X A outer s H E scope f c') body (tD K E F))
    (hg : Gl X x := by rfl) (hNg : Ng[0]? = some a := by rfl) (hva : Vis (defScope st) a := by exact .inl rfl) (hdef : defaultsOf params X.env = ([], []) := by rfl)
    (hbind : ∀ (q : Str) (cl : List (Str × Addr)) (pm cv ctv : Value), bindArgs (PySem.W.kla_fn "<lambda>" q params body scope cl pm cv ctv) ⟨[], []⟩ = pure [] := by intros; rfl)
    (hK : X.K = K := by rfl) (hdb : (x == ("__debug__" : Str)) = false := by decide) (hd : (a == ("__debug__" : Str)) = false := by decide) (hcd : (a == ("__classdict__" : Str)) = false := by decide) :
    PE X (.Call (.Name x p) [.Lambda params body scope lpos] [] pos) (tQ T K (fLam Nn S F)) := by
  obtain ⟨g, gd, FG, hm, hk, hb⟩ := G.ex
  obtain ⟨oc, od, kV, doc, pm, an, cdv, ct, osl, rfl, lk, hcg⟩ := FG.ex
  obtain ⟨c, P, h1, TB, hmT, hu⟩ := LT.ex
  subst hq
  exact tq_lam hg hm hk lk hcg hb Sg hNg hva (hG g cdv) TB (by rw [← hc, h1]) hmT hu hr L hdef hbind hbody hK hdb hd hcd
end
end Pu
namespace Pu
open PySem PySem.Spec PyProof.Rows L2 Ly LamX
end Pu
namespace K72
open PySem PySem.Spec PyProof.Rows L2 Ly Pu
def top (i : Nat) : Stmt := PySem.Challenge.pw_firstneed_k72_errors_of_written_values.main.body.getD i (.Pass ⟨0, 0, 0, 0⟩)
structure Txt (K : PySem.W.Frag) (mg : Str → Option Value) : Prop where
  z_set : mg "set" = none
  z_len : mg "len" = none
  z_int : mg "int" = none
  z_bool : mg "bool" = none
  z_str : mg "str" = none
  z_list : mg "list" = none
  z_tuple : mg "tuple" = none
  z_dict : mg "dict" = none
  z_abs : mg "abs" = none
  z_max : mg "max" = none
  z_min : mg "min" = none
  z_range : mg "range" = none
  z_repr : mg "repr" = none
  z_isinstance : mg "isinstance" = none
  z_all : mg "all" = none
  z_any : mg "any" = none
  z_sorted : mg "sorted" = none
  z_enumerate : mg "enumerate" = none
  z_zip : mg "zip" = none
structure Adr where
  cProgram : Addr
  cInvalidTable : Addr
  cInvalidRows : Addr
  cInvalidProgram : Addr
  cInvalidOperation : Addr
  cParseError : Addr
section
variable {P : Program} {w : World} {K : PySem.W.Frag} {mg : Str → Option Value} {base : Heap} {A : Adr}
def jfv (K : PySem.W.Frag) (A : Adr) : Fn := FPick
def jtY (K : PySem.W.Frag) (A : Adr) : Fn := FDice
abbrev jbn : Stmt := top 9
abbrev jmN : List Str := ["value"]
abbrev jdq : List Str := ["value"]
theorem jfw : FnScope jmN jdq (defScope jbn) := ⟨rfl, rfl, rfl, by decide +kernel, rfl, by decide +kernel, by decide +kernel⟩
def jhh (K : PySem.W.Frag) (A : Adr) : FS :=
  (sRet (fAndV (fIsi K "int" (fVarT 0)) (fAndV (fNotV (fIsi K "bool" (fVarT 0))) (jaf RLt RLt (fNeg (fC (.int 1000000000000000000000000000000000000000000000000000000000000))) (fVarT 0) (fC (.int 1000000000000000000000000000000000000000000000000000000000000))))))
def jbV (K : PySem.W.Frag) (A : Adr) : Fn := fnS 1 (jhh K A)
theorem jmO {f : Addr} {fd : FuncData} (F : Fun K "is_integer" "is_integer" jbn f fd) (T : Txt K mg) {t_LONGEST : Tok} (g_LONGEST : mg "LONGEST" = some (.int (1000000000000000000000000000000000000000000000000000000000000) t_LONGEST)) : FnOk P w K mg base (L2.CX P w) 1 f fd jdq (spD K 1 (jbV K A)) := by
  have nd := jfw.nd
  exact fn_d (k := 0) F jfw rfl (fun cdv Ar outer s H E W0 hr => (jaR (d_ret (jdg (d_isi (K := K) (by decide) rfl T.z_isinstance (jac (pv 0)) (pe_ty "int" (by rfl) T.z_int (by decide +kernel))) (jdg (d_notV (d_isi (K := K) (by decide) rfl T.z_isinstance (jac (pv 0)) (pe_ty "bool" (by rfl) T.z_bool (by decide +kernel)))) (d_one (jqM op_lt op_lt s_lt s_lt (d_t (d_neg (d_int (jgq rfl g_LONGEST)))) (jac (pv 0)) (d_t (d_int (jgq rfl g_LONGEST)))))))))) fun _ _ _ _ h => h
abbrev jbE : Stmt := top 10
abbrev joS : List Str := ["value", "least", "most"]
abbrev jdP : List Str := ["value", "least", "most"]
theorem jhi : FnScope joS jdP (defScope jbE) := ⟨rfl, rfl, rfl, by decide +kernel, rfl, by decide +kernel, by decide +kernel⟩
def jiY (K : PySem.W.Frag) (A : Adr) : FS :=
  (sRet (fAndV (fCall (jbV K A) 1 (fCons (fVar 0) fNil)) (jaf RLe RLe (fVarT 1) (fVarT 0) (fVarT 2))))
def jbL (K : PySem.W.Frag) (A : Adr) : Fn := fnS 3 (jiY K A)
theorem joT {f : Addr} {fd : FuncData} (F : Fun K "is_within" "is_within" jbE f fd) (T : Txt K mg) (jdQ : CalF P w K mg base "is_integer" 1 1 (jbV K A)) : FnOk P w K mg base (L2.CX P w) 2 f fd jdP (spD K 3 (jbL K A)) := by
  have nd := jhi.nd
  exact fn_d (k := 1) F jhi rfl (fun cdv Ar outer s H E W0 hr => (jaR (d_ret (jdg (jao jdQ (hr.mono (by first | decide | omega)) rfl (passes_call (takes_of rfl rfl rfl rfl) fun _ _ _ _ h => h) (jaa (d_var (pv 0)) d_nil)) (d_one (jqM op_le op_le s_le s_le (jac (pv 1)) (jac (pv 0)) (jac (pv 2)))))))) fun _ _ _ _ h => h
abbrev jbP : Stmt := top 11
abbrev jmx : List Str := ["value", "sign"]
abbrev jgy : List Str := ["value"]
theorem jmy : FnScope jmx jgy (defScope jbP) := ⟨rfl, rfl, rfl, by decide +kernel, rfl, by decide +kernel, by decide +kernel⟩
def jiZ (K : PySem.W.Frag) (A : Adr) : FS :=
  (sRet (fAndV (fIsi K "str" (fVarT 0)) (fAndV (jaf RLe RLe (fC (.int 1)) (fCB RLen (fCons (fVarT 0) fNil)) (fC (.int 8))) (fCB RAll (fCons (fNew (fLc (fIt (fVarT 0)) (gN 1) fYes (fOp (RIn false) (fVarT 1) (fC (.str "abcdefghijklmnopqrstuvwxyz"))) [1])) fNil)))))
def jcy (K : PySem.W.Frag) (A : Adr) : Fn := fnS 2 (jiZ K A)
theorem jsB {f : Addr} {fd : FuncData} (F : Fun K "is_word" "is_word" jbP f fd) (T : Txt K mg) {t_LETTERS : Tok} (g_LETTERS : mg "LETTERS" = some (.str "abcdefghijklmnopqrstuvwxyz" t_LETTERS))
    {t_MAX_LETTERS : Tok} (g_MAX_LETTERS : mg "MAX_LETTERS" = some (.int (8) t_MAX_LETTERS)) : FnOk P w K mg base (L2.CX P w) 1 f fd jgy (spD K 1 (jcy K A)) := by
  have nd := jmy.nd
  exact fn_d (k := 0) F jmy rfl (fun cdv Ar outer s H E W0 hr => (jaR (d_ret (jdg (d_isi (K := K) (by decide) rfl T.z_isinstance (jac (pv 0)) (pe_ty "str" (by rfl) T.z_str (by decide +kernel))) (jdg (jqM op_le op_le s_le s_le (d_t (d_int pe_int)) (d_t (d_cb (c_len (K := K)) s_len (by rfl) T.z_len (by decide +kernel) (jaE (jac (pv 0)) jby))) (d_t (d_int (jgq rfl g_MAX_LETTERS)))) (d_one (d_cb (jcV (K := K) rfl) s_all (by rfl) T.z_all (by decide +kernel) (jaE (d_nt (d_lc (own := [("sign", 1)]) (by rfl) nd (d_itC (K := K) (jac (pv 0))) (blkOk_by (own := [("sign", 1)]) (N := jmx) (sc := defScope jbP) (by decide +kernel)) (jcu (by decide)) (fun _ _ _ _ _ => (pg_name (i := 1) nd rfl (Or.inl rfl))) (fun _ _ _ _ _ => jcd) (fun _ _ _ _ _ => (d_cmp (jrO (K := K) (hr65 hr)) s_in (jac (pv 1)) (d_t (d_str (jcU rfl g_LETTERS))) rfl)))) jby)))))))) fun _ _ _ _ h => h
abbrev jbt : Stmt := top 89
abbrev jhj : List Str := ["word", "sign"]
abbrev jdR : List Str := ["word"]
theorem jhk : FnScope jhj jdR (defScope jbt) := ⟨rfl, rfl, rfl, by decide +kernel, rfl, by decide +kernel, by decide +kernel⟩
def jja (K : PySem.W.Frag) (A : Adr) : FS :=
  (sSeq (sIf (fOr (fNot (fTst (jaf RLe RLe (fC (.int 1)) (fCB RLen (fCons (fVarT 0) fNil)) (fC (.int 60))))) (fNot (fTst (fCB RAll (fCons (fNew (fLc (fIt (fVarT 0)) (gN 1) fYes (fOp (RIn false) (fVarT 1) (fC (.str "0123456789"))) [1])) fNil))))) (sRet (fC .non)) sNext)
      (sRet (fIf (fOr (fTst (fOp REq (fVarT 0) (fC (.str "0")))) (fTst (fOp RNe (fOp RIx (fVarT 0) (fC (.int 0))) (fC (.str "0"))))) (fCB RIntS (fCons (fVarT 0) fNil)) (fC .non))))
def jcf (K : PySem.W.Frag) (A : Adr) : Fn := fnS 2 (jja K A)
theorem joU {f : Addr} {fd : FuncData} (F : Fun K "number_of" "number_of" jbt f fd) (T : Txt K mg) {t_DIGITS : Tok} (g_DIGITS : mg "DIGITS" = some (.str "0123456789" t_DIGITS))
    {t_MAX_DIGITS : Tok} (g_MAX_DIGITS : mg "MAX_DIGITS" = some (.int (60) t_MAX_DIGITS)) : FnOk P w K mg base (L2.CX P w) 1 f fd jdR (spD K 1 (jcf K A)) := by
  have nd := jhk.nd
  exact fn_d (k := 0) F jhk rfl (fun cdv Ar outer s H E W0 hr => (d_seq (d_ifs (PW.pt (d_or (d_not (jvj op_le op_le s_le s_le (d_t (d_int pe_int)) (d_t (d_cb (c_len (K := K)) s_len (by rfl) T.z_len (by decide +kernel) (jaE (jac (pv 0)) jby))) (d_t (d_int (jgq rfl g_MAX_DIGITS))))) (d_or1 (d_not (jct (d_cb (jcV (K := K) rfl) s_all (by rfl) T.z_all (by decide +kernel) (jaE (d_nt (d_lc (own := [("sign", 1)]) (by rfl) nd (d_itC (K := K) (jac (pv 0))) (blkOk_by (own := [("sign", 1)]) (N := jhj) (sc := defScope jbt) (by decide +kernel)) (jcu (by decide)) (fun _ _ _ _ _ => (pg_name (i := 1) nd rfl (Or.inl rfl))) (fun _ _ _ _ _ => jcd) (fun _ _ _ _ _ => (d_cmp (jrO (K := K) (hr65 hr)) s_in (jac (pv 1)) (d_t (d_str (jcU rfl g_DIGITS))) rfl)))) jby))))))) (jaR (d_ret (d_non pe_non))) jdh)
      (jaR (d_ret (d_if (PW.pt (d_or (jdE (jiL (K := K) hr.units) s_eq (jac (pv 0)) (d_t (d_str pe_str)) (nomark _)) (d_or1 (jdE (jhf (K := K) hr.units) s_ne (d_t (d_ix (ix_A (K := K)) s_ix (jac (pv 0)) (d_t (d_int pe_int)) (fun _ _ => rfl))) (d_t (d_str pe_str)) (nomark _))))) (d_ct L2.call_int_str s_intS (by rfl) T.z_int (by decide +kernel) (jaE (jac (pv 0)) jby)) (d_non pe_non)))))) fun _ _ _ _ h => h
abbrev jaC : Stmt := top 90
abbrev jgz : List Str := ["text"]
abbrev jcg : List Str := ["text"]
theorem jdi : FnScope jgz jcg (defScope jaC) := ⟨rfl, rfl, rfl, by decide +kernel, rfl, by decide +kernel, by decide +kernel⟩
def jbR (K : PySem.W.Frag) (A : Adr) : FS :=
  (sIf (fNot (fTst (fIsi K "str" (fVarT 0)))) (jdO A.cParseError "line" (fC .non)) sNext)
def jad (K : PySem.W.Frag) (A : Adr) : Fn := fnS 1 (jbR K A)
theorem jgA {f : Addr} {fd : FuncData} (F : Fun K "require_string" "require_string" jaC f fd) (T : Txt K mg) (Z_ParseError : CalX P w K mg base "ParseError" A.cParseError 1 "line") : FnOk P w K mg base (L2.CX P w) 3 f fd jcg (spD K 1 (jad K A)) := by
  have nd := jdi.nd
  exact fn_d (k := 2) F jdi rfl (fun cdv Ar outer s H E W0 hr => (jaR (d_ifs (d_not (jct (d_isi (K := K) (by decide) rfl T.z_isinstance (jac (pv 0)) (pe_ty "str" (by rfl) T.z_str (by decide +kernel))))) (jaR (jrR Z_ParseError rfl (takes_of rfl rfl rfl rfl) (hr.mono (by first | decide | omega)) rfl (d_non pe_non))) jdh))) fun _ _ _ _ h => h
abbrev jaX : Stmt := top 91
abbrev jeA : List Str := ["value", "number"]
abbrev jcW : List Str := ["value"]
theorem jeB : FnScope jeA jcW (defScope jaX) := ⟨rfl, rfl, rfl, by decide +kernel, rfl, by decide +kernel, by decide +kernel⟩
def jfx (K : PySem.W.Frag) (A : Adr) : FS :=
  (sRet (fAndV (fIsi K "tuple" (fVarT 0)) (fCB RAll (fCons (fNew (fLc (fIt (fVarT 0)) (gN 1) fYes (fCall (jbL K A) 3 (fCons (fVar 1) (fCons (fC (.int 0)) (fCons (fC (.int 1000000000000000000000000000000000000000000000000000000000000)) fNil)))) [1])) fNil))))
def jaD (K : PySem.W.Frag) (A : Adr) : Fn := fnS 2 (jfx K A)
theorem jkN {f : Addr} {fd : FuncData} (F : Fun K "are_numbers" "are_numbers" jaX f fd) (T : Txt K mg) {t_LONGEST : Tok} (g_LONGEST : mg "LONGEST" = some (.int (1000000000000000000000000000000000000000000000000000000000000) t_LONGEST))
    (jch : CalF P w K mg base "is_within" 2 3 (jbL K A)) : FnOk P w K mg base (L2.CX P w) 3 f fd jcW (spD K 1 (jaD K A)) := by
  have nd := jeB.nd
  exact fn_d (k := 2) F jeB rfl (fun cdv Ar outer s H E W0 hr => (jaR (d_ret (jdg (d_isi (K := K) (by decide) rfl T.z_isinstance (jac (pv 0)) (pe_ty "tuple" (by rfl) T.z_tuple (by decide +kernel))) (d_one (d_cb (jcV (K := K) rfl) s_all (by rfl) T.z_all (by decide +kernel) (jaE (d_nt (d_lc (own := [("number", 1)]) (by rfl) nd (d_itC (K := K) (jac (pv 0))) (blkOk_by (own := [("number", 1)]) (N := jeA) (sc := defScope jaX) (by decide +kernel)) (jcu (by decide)) (fun _ _ _ _ _ => (pg_name (i := 1) nd rfl (Or.inl rfl))) (fun _ _ _ _ _ => jcd) (fun _ _ _ _ _ => (jao jch (hr.mono (by first | decide | omega)) rfl passL (jaa (d_var (pv 1)) (jaa (d_int pe_int) (jaa (d_int (jgq rfl g_LONGEST)) d_nil))))))) jby))))))) fun _ _ _ _ h => h
abbrev jbu : Stmt := top 92
abbrev jhl : List Str := ["value", "one", "other"]
abbrev jdS : List Str := ["value"]
theorem jhm : FnScope jhl jdS (defScope jbu) := ⟨rfl, rfl, rfl, by decide +kernel, rfl, by decide +kernel, by decide +kernel⟩
def jjb (K : PySem.W.Frag) (A : Adr) : FS :=
  (sRet (fAndV (fCall (jaD K A) 1 (fCons (fVar 0) fNil)) (fCB RAll (fCons (fNew (fLc (fZip (fCons (fVar 0) (fCons (fSl (fVarT 0) (oAt (fC (.int 1))) oNo) fNil))) (gT [1, 2]) fYes (fOp RLt (fVarT 1) (fVarT 2)) [1, 2])) fNil))))
def jbT (K : PySem.W.Frag) (A : Adr) : Fn := fnS 3 (jjb K A)
theorem joV {f : Addr} {fd : FuncData} (F : Fun K "is_rising" "is_rising" jbu f fd) (T : Txt K mg) (jaN : CalF P w K mg base "are_numbers" 3 1 (jaD K A)) : FnOk P w K mg base (L2.CX P w) 4 f fd jdS (spD K 1 (jbT K A)) := by
  have nd := jhm.nd
  exact fn_d (k := 3) F jhm rfl (fun cdv Ar outer s H E W0 hr => (jaR (d_ret (jdg (jao jaN (hr.mono (by first | decide | omega)) rfl (passes_call (takes_of rfl rfl rfl rfl) fun _ _ _ _ h => h) (jaa (d_var (pv 0)) d_nil)) (d_one (d_cb (jcV (K := K) rfl) s_all (by rfl) T.z_all (by decide +kernel) (jaE (d_nt (d_lc (own := [("one", 1), ("other", 2)]) (by rfl) nd (d_fc (d_zip rfl T.z_zip (jaa (d_var (pv 0)) (jaa (jtn (K := K) (jac (pv 0)) (d_oat (d_int pe_int)) d_ono) d_nil)))) (blkOk_by (own := [("one", 1), ("other", 2)]) (N := jhl) (sc := defScope jbu) (by decide +kernel)) (jto (by decide) (by decide)) (fun _ _ _ _ _ => (jqL (K := K) (n := 2) rfl (pgs_cons (pg_name (i := 1) nd rfl (Or.inl rfl)) (pgs_cons (pg_name (i := 2) nd rfl (Or.inl rfl)) pgs_nil)))) (fun _ _ _ _ _ => jcd) (fun _ _ _ _ _ => (d_cmp op_lt s_lt (jac (pv 1)) (jac (pv 2)) (nomark _))))) jby))))))) fun _ _ _ _ h => h
abbrev jaM : Stmt := top 93
abbrev jdT : List Str := ["numbers", "number"]
abbrev jcz : List Str := ["numbers"]
theorem jdU : FnScope jdT jcz (defScope jaM) := ⟨rfl, rfl, rfl, by decide +kernel, rfl, by decide +kernel, by decide +kernel⟩
def jeC (K : PySem.W.Frag) (A : Adr) : FS :=
  (sRet (fIf (fTst (fOp RNe (fVarT 0) (fTup fNil))) (fJoin (fC (.str " ")) (fNew (fLc (fIt (fVarT 0)) (gN 1) fYes (fCB RStrI (fCons (fVarT 1) fNil)) [1]))) (fC (.str "-"))))
def jbe (K : PySem.W.Frag) (A : Adr) : Fn := fnS 2 (jeC K A)
theorem jjc {f : Addr} {fd : FuncData} (F : Fun K "numbers_text" "numbers_text" jaM f fd) (T : Txt K mg) {t_NOTHING : Tok} (g_NOTHING : mg "NOTHING" = some (.str "-" t_NOTHING)) : FnOk P w K mg base (L2.CX P w) 1 f fd jcz (spD K 1 (jbe K A)) := by
  have nd := jdU.nd
  exact fn_d (k := 0) F jdU rfl (fun cdv Ar outer s H E W0 hr => (jaR (d_ret (d_if (jdE (jhf (K := K) hr.units) s_ne (jac (pv 0)) (d_t (d_tup d_nil)) (nomark _)) (joK (K := K) (d_str pe_str) (d_nt (d_lc (own := [("number", 1)]) (by rfl) nd (d_itC (K := K) (jac (pv 0))) (blkOk_by (own := [("number", 1)]) (N := jdT) (sc := defScope jaM) (by decide +kernel)) (jcu (by decide)) (fun _ _ _ _ _ => (pg_name (i := 1) nd rfl (Or.inl rfl))) (fun _ _ _ _ _ => jcd) (fun _ _ _ _ _ => (d_ct L2.call_str_int jwI (by rfl) T.z_str (by decide +kernel) (jaE (jac (pv 1)) jby)))))) (d_str (jcU rfl g_NOTHING)))))) fun _ _ _ _ h => h
abbrev jbf : Stmt := top 94
abbrev jfy : List Str := ["text", "found", "word"]
abbrev jdr : List Str := ["text"]
theorem jfz : FnScope jfy jdr (defScope jbf) := ⟨rfl, rfl, rfl, by decide +kernel, rfl, by decide +kernel, by decide +kernel⟩
def jhn (K : PySem.W.Frag) (A : Adr) : FS :=
  (sSeq (sAsg 1 (fIf (fTst (fOp RNe (fVarT 0) (fC (.str "-")))) (fNew (fLc (fIt (fNew (jty (fVar 0) (fC (.str " "))))) (gN 2) fYes (fCall (jcf K A) 1 (fCons (fVar 2) fNil)) [2])) (fNew (fLst fNil))))
      (sRet (fIf (fTst (fOp (RIn false) (fC .non) (fVarT 1))) (fC .non) (fCB jag (fCons (fVarT 1) fNil)))))
def jbW (K : PySem.W.Frag) (A : Adr) : Fn := fnS 3 (jhn K A)
theorem jmP {f : Addr} {fd : FuncData} (F : Fun K "numbers_of" "numbers_of" jbf f fd) (T : Txt K mg) {t_NOTHING : Tok} (g_NOTHING : mg "NOTHING" = some (.str "-" t_NOTHING))
    (jeY : CalF P w K mg base "number_of" 1 1 (jcf K A)) : FnOk P w K mg base (L2.CX P w) 2 f fd jdr (spD K 1 (jbW K A)) := by
  have nd := jfz.nd
  exact fn_d (k := 1) F jfz rfl (fun cdv Ar outer s H E W0 hr => (d_seq (d_asg (d_if (jdE (jhf (K := K) hr.units) s_ne (jac (pv 0)) (d_t (d_str (jcU rfl g_NOTHING))) (nomark _)) (d_n (d_lc (own := [("word", 2)]) (by rfl) nd (d_itC (K := K) (d_nt (jxy (d_var (pv 0)) (d_str pe_str)))) (blkOk_by (own := [("word", 2)]) (N := jfy) (sc := defScope jbf) (by decide +kernel)) (jcu (by decide)) (fun _ _ _ _ _ => (pg_name (i := 2) nd rfl (Or.inl rfl))) (fun _ _ _ _ _ => jcd) (fun _ _ _ _ _ => (jao jeY (hr.mono (by first | decide | omega)) rfl passL (jaa (d_var (pv 2)) d_nil))))) (d_n (d_lst d_nil))) (pg_name (i := 1) nd rfl (Or.inl rfl)))
      (jaR (d_ret (d_if (jdE (jrO (K := K) (hr65 hr)) s_in (d_t (d_non pe_non)) (jac (pv 1)) rfl) (d_non pe_non) (d_ct (jqK (K := K)) jxr (by rfl) T.z_tuple (by decide +kernel) (jaE (jac (pv 1)) jby))))))) fun _ _ _ _ h => h
abbrev jaO : Stmt := top 95
abbrev jhL : List Str := ["numbers"]
abbrev jcp : List Str := ["numbers"]
theorem jdH : FnScope jhL jcp (defScope jaO) := ⟨rfl, rfl, rfl, by decide +kernel, rfl, by decide +kernel, by decide +kernel⟩
def jcA (K : PySem.W.Frag) (A : Adr) : FS :=
  (sSeq (sIf (fNot (fTst (fCall (jaD K A) 1 (fCons (fVar 0) fNil)))) (jcM A.cInvalidOperation) sNext)
      (sRet (fCall (jbe K A) 1 (fCons (fVar 0) fNil))))
def jaA (K : PySem.W.Frag) (A : Adr) : Fn := fnS 1 (jcA K A)
theorem jhM {f : Addr} {fd : FuncData} (F : Fun K "write_numbers" "write_numbers" jaO f fd) (T : Txt K mg) (jaN : CalF P w K mg base "are_numbers" 3 1 (jaD K A))
    (jbv : CalF P w K mg base "numbers_text" 1 1 (jbe K A))
    (E_InvalidOperation : ExC K mg "InvalidOperation" A.cInvalidOperation) : FnOk P w K mg base (L2.CX P w) 4 f fd jcp (spD K 1 (jaA K A)) := by
  have nd := jdH.nd
  exact fn_d (k := 3) F jdH rfl (fun cdv Ar outer s H E W0 hr => (d_seq (d_ifs (d_not (jct (jao jaN (hr.mono (by first | decide | omega)) rfl (passes_call (takes_of rfl rfl rfl rfl) fun _ _ _ _ h => h) (jaa (d_var (pv 0)) d_nil)))) (jaR (jiP (ps_raise rfl (takes_of rfl rfl rfl rfl) (pmk_own PySem.F.excBase_ValueError E_InvalidOperation.x E_InvalidOperation.g E_InvalidOperation.k (raises_own E_InvalidOperation.b E_InvalidOperation.t) (by rfl))))) jdh)
      (jaR (d_ret (jao jbv (hr.mono (by first | decide | omega)) rfl (passes_call (takes_of rfl rfl rfl rfl) fun _ _ _ _ h => h) (jaa (d_var (pv 0)) d_nil)))))) fun _ _ _ _ h => h
abbrev jaY : Stmt := top 96
abbrev jjd : List Str := ["text", "found"]
abbrev jcB : List Str := ["text"]
theorem jdV : FnScope jjd jcB (defScope jaY) := ⟨rfl, rfl, rfl, by decide +kernel, rfl, by decide +kernel, by decide +kernel⟩
def jco (K : PySem.W.Frag) (A : Adr) : FS :=
  (sSeq (sDrop (fCall (jad K A) 1 (fCons (fVar 0) fNil)))
      (sSeq (sAsg 1 (fCall (jbW K A) 1 (fCons (fVar 0) fNil)))
      (sSeq (sIf (fTst (fOp RIsN (fVarT 1) (fC .non))) (jdO A.cParseError "line" (fC .non)) sNext)
      (sRet (fVar 1)))))
def jam (K : PySem.W.Frag) (A : Adr) : Fn := fnS 2 (jco K A)
theorem jje {f : Addr} {fd : FuncData} (F : Fun K "read_numbers" "read_numbers" jaY f fd) (T : Txt K mg) (jae : CalF P w K mg base "require_string" 3 1 (jad K A))
    (jdW : CalF P w K mg base "numbers_of" 2 1 (jbW K A))
    (Z_ParseError : CalX P w K mg base "ParseError" A.cParseError 1 "line") : FnOk P w K mg base (L2.CX P w) 4 f fd jcB (spD K 1 (jam K A)) := by
  have nd := jdV.nd
  exact fn_d (k := 3) F jdV rfl (fun cdv Ar outer s H E W0 hr => (d_seq (jmp (jao jae (hr.mono (by first | decide | omega)) rfl (passes_call (takes_of rfl rfl rfl rfl) fun _ _ _ _ h => h) (jaa (d_var (pv 0)) d_nil)))
      (d_seq (d_asg (jao jdW (hr.mono (by first | decide | omega)) rfl (passes_call (takes_of rfl rfl rfl rfl) fun _ _ _ _ h => h) (jaa (d_var (pv 0)) d_nil)) (pg_name (i := 1) nd rfl (Or.inl rfl)))
      (d_seq (d_ifs (jdE op_isN s_isN (jac (pv 1)) (d_t (d_non pe_non)) (nomark _)) (jaR (jrR Z_ParseError rfl (takes_of rfl rfl rfl rfl) (hr.mono (by first | decide | omega)) rfl (d_non pe_non))) jdh)
      (jaR (d_ret (d_var (pv 1)))))))) fun _ _ _ _ h => h
abbrev jaB : Stmt := top 97
abbrev jcC : List Str := ["value", "one", "other"]
abbrev jcD : List Str := ["value"]
theorem jdX : FnScope jcC jcD (defScope jaB) := ⟨rfl, rfl, rfl, by decide +kernel, rfl, by decide +kernel, by decide +kernel⟩
def jeD (K : PySem.W.Frag) (A : Adr) : FS :=
  (sSeq (sIf (fOr (fNot (fTst (fIsi K "tuple" (fVarT 0)))) (fOr (fTst (fOp RNe (fCB RLen (fCons (fVarT 0) fNil)) (fC (.int 2)))) (fOr (fNot (fTst (fCall (jbT K A) 1 (fCons (fOp RIx (fVarT 0) (fC (.int 0))) fNil)))) (fNot (fTst (fIsi K "tuple" (fOp RIx (fVarT 0) (fC (.int 1))))))))) (sRet (fC (.bl false))) sNext)
      (sSeq (sIf (fNot (fTst (fCB RAll (fCons (fNew (fLc (fIt (fOp RIx (fVarT 0) (fC (.int 1)))) (gN 1) fYes (fCall (jbT K A) 1 (fCons (fVar 1) fNil)) [1])) fNil)))) (sRet (fC (.bl false))) sNext)
      (sRet (fCB RAll (fCons (fNew (fLc (fZip (fCons (fOp RIx (fVarT 0) (fC (.int 1))) (fCons (fSl (fOp RIx (fVarT 0) (fC (.int 1))) (oAt (fC (.int 1))) oNo) fNil))) (gT [1, 2]) fYes (fOp RLtT (fVarT 1) (fVarT 2)) [1, 2])) fNil)))))
def jbg (K : PySem.W.Frag) (A : Adr) : Fn := fnS 3 (jeD K A)
theorem jjf {f : Addr} {fd : FuncData} (F : Fun K "is_state_row" "is_state_row" jaB f fd) (T : Txt K mg) (jds : CalF P w K mg base "is_rising" 4 1 (jbT K A)) : FnOk P w K mg base (L2.CX P w) 5 f fd jcD (spD K 1 (jbg K A)) := by
  have nd := jdX.nd
  exact fn_d (k := 4) F jdX rfl (fun cdv Ar outer s H E W0 hr => (d_seq (d_ifs (PW.pt (d_or (d_not (jct (d_isi (K := K) (by decide) rfl T.z_isinstance (jac (pv 0)) (pe_ty "tuple" (by rfl) T.z_tuple (by decide +kernel))))) (d_or (jdE (jhf (K := K) hr.units) s_ne (d_t (d_cb (c_len (K := K)) s_len (by rfl) T.z_len (by decide +kernel) (jaE (jac (pv 0)) jby))) (d_t (d_int pe_int)) (nomark _)) (d_or (d_not (jct (jao jds (hr.mono (by first | decide | omega)) rfl (passes_call (takes_of rfl rfl rfl rfl) fun _ _ _ _ h => h) (jaa (d_ix (ix_A (K := K)) s_ix (jac (pv 0)) (d_t (d_int pe_int)) (fun _ _ => rfl)) d_nil)))) (d_or1 (d_not (jct (d_isi (K := K) (by decide) rfl T.z_isinstance (d_t (d_ix (ix_A (K := K)) s_ix (jac (pv 0)) (d_t (d_int pe_int)) (fun _ _ => rfl))) (pe_ty "tuple" (by rfl) T.z_tuple (by decide +kernel)))))))))) (jaR (d_ret (d_bl pe_bl))) jdh)
      (d_seq (d_ifs (d_not (jct (d_cb (jcV (K := K) rfl) s_all (by rfl) T.z_all (by decide +kernel) (jaE (d_nt (d_lc (own := [("one", 1)]) (by rfl) nd (d_itC (K := K) (d_t (d_ix (ix_A (K := K)) s_ix (jac (pv 0)) (d_t (d_int pe_int)) (fun _ _ => rfl)))) (blkOk_by (own := [("one", 1)]) (N := jcC) (sc := defScope jaB) (by decide +kernel)) (jcu (by decide)) (fun _ _ _ _ _ => (pg_name (i := 1) nd rfl (Or.inl rfl))) (fun _ _ _ _ _ => jcd) (fun _ _ _ _ _ => (jao jds (hr.mono (by first | decide | omega)) rfl passL (jaa (d_var (pv 1)) d_nil))))) jby)))) (jaR (d_ret (d_bl pe_bl))) jdh)
      (jaR (d_ret (d_cb (jcV (K := K) rfl) s_all (by rfl) T.z_all (by decide +kernel) (jaE (d_nt (d_lc (own := [("one", 1), ("other", 2)]) (by rfl) nd (d_fc (d_zip rfl T.z_zip (jaa (d_ix (ix_A (K := K)) s_ix (jac (pv 0)) (d_t (d_int pe_int)) (fun _ _ => rfl)) (jaa (jtn (K := K) (d_t (d_ix (ix_A (K := K)) s_ix (jac (pv 0)) (d_t (d_int pe_int)) (fun _ _ => rfl))) (d_oat (d_int pe_int)) d_ono) d_nil)))) (blkOk_by (own := [("one", 1), ("other", 2)]) (N := jcC) (sc := defScope jaB) (by decide +kernel)) (jto (by decide) (by decide)) (fun _ _ _ _ _ => (jqL (K := K) (n := 2) rfl (pgs_cons (pg_name (i := 1) nd rfl (Or.inl rfl)) (pgs_cons (pg_name (i := 2) nd rfl (Or.inl rfl)) pgs_nil)))) (fun _ _ _ _ _ => jcd) (fun _ _ _ _ _ => (d_cmp (jxz (K := K) (Nat.lt_of_succ_lt (hr1 hr))) s_ltT (jac (pv 1)) (jac (pv 2)) (nomark _))))) jby))))))) fun _ _ _ _ h => h
abbrev jbh : Stmt := top 98
abbrev jfA : List Str := ["state", "classes", "one"]
abbrev jdt : List Str := ["state"]
theorem jfB : FnScope jfA jdt (defScope jbh) := ⟨rfl, rfl, rfl, by decide +kernel, rfl, by decide +kernel, by decide +kernel⟩
def joW (K : PySem.W.Frag) (A : Adr) : FS :=
  (sSeq (sAsg 1 (fJoin (fC (.str "; ")) (fNew (fLc (fIt (fOp RIx (fVarT 0) (fC (.int 1)))) (gN 2) fYes (fCall (jbe K A) 1 (fCons (fVar 2) fNil)) [2]))))
      (sRet (fOp RAdd (fOp RAdd (fCall (jbe K A) 1 (fCons (fOp RIx (fVarT 0) (fC (.int 0))) fNil)) (fC (.str " | "))) (fIf (fTst (fOp RNe (fOp RIx (fVarT 0) (fC (.int 1))) (fTup fNil))) (fVar 1) (fC (.str "none"))))))
def jcN (K : PySem.W.Frag) (A : Adr) : Fn := fnS 3 (joW K A)
theorem jmQ {f : Addr} {fd : FuncData} (F : Fun K "state_text" "state_text" jbh f fd) (T : Txt K mg) {t_BETWEEN : Tok} (g_BETWEEN : mg "BETWEEN" = some (.str "; " t_BETWEEN))
    {t_BAR : Tok} (g_BAR : mg "BAR" = some (.str " | " t_BAR))
    {t_NONE : Tok} (g_NONE : mg "NONE" = some (.str "none" t_NONE))
    (jbv : CalF P w K mg base "numbers_text" 1 1 (jbe K A)) : FnOk P w K mg base (L2.CX P w) 2 f fd jdt (spD K 1 (jcN K A)) := by
  have nd := jfB.nd
  exact fn_d (k := 1) F jfB rfl (fun cdv Ar outer s H E W0 hr => (d_seq (d_asg (joK (K := K) (d_str (jcU rfl g_BETWEEN)) (d_nt (d_lc (own := [("one", 2)]) (by rfl) nd (d_itC (K := K) (d_t (d_ix (ix_A (K := K)) s_ix (jac (pv 0)) (d_t (d_int pe_int)) (fun _ _ => rfl)))) (blkOk_by (own := [("one", 2)]) (N := jfA) (sc := defScope jbh) (by decide +kernel)) (jcu (by decide)) (fun _ _ _ _ _ => (pg_name (i := 2) nd rfl (Or.inl rfl))) (fun _ _ _ _ _ => jcd) (fun _ _ _ _ _ => (jao jbv (hr.mono (by first | decide | omega)) rfl passL (jaa (d_var (pv 2)) d_nil)))))) (pg_name (i := 1) nd rfl (Or.inl rfl)))
      (jaR (d_ret (d_op (jgt (K := K)) s_add (d_t (d_op (jgt (K := K)) s_add (d_t (jao jbv (hr.mono (by first | decide | omega)) rfl (passes_call (takes_of rfl rfl rfl rfl) fun _ _ _ _ h => h) (jaa (d_ix (ix_A (K := K)) s_ix (jac (pv 0)) (d_t (d_int pe_int)) (fun _ _ => rfl)) d_nil))) (d_t (d_str (jcU rfl g_BAR))))) (d_t (d_if (jdE (jhf (K := K) hr.units) s_ne (d_t (d_ix (ix_A (K := K)) s_ix (jac (pv 0)) (d_t (d_int pe_int)) (fun _ _ => rfl))) (d_t (d_tup d_nil)) (nomark _)) (d_var (pv 1)) (d_str (jcU rfl g_NONE))))))))) fun _ _ _ _ h => h
abbrev jbd : Stmt := top 100
abbrev jkO : List Str := ["state"]
abbrev jcX : List Str := ["state"]
theorem jeE : FnScope jkO jcX (defScope jbd) := ⟨rfl, rfl, rfl, by decide +kernel, rfl, by decide +kernel, by decide +kernel⟩
def jfC (K : PySem.W.Frag) (A : Adr) : FS :=
  (sSeq (sIf (fNot (fTst (fCall (jbg K A) 1 (fCons (fVar 0) fNil)))) (jcM A.cInvalidTable) sNext)
      jiV)
def jbN (K : PySem.W.Frag) (A : Adr) : Fn := fnS 1 (jfC K A)
theorem jkP {f : Addr} {fd : FuncData} (F : Fun K "write_state" "write_state" jbd f fd) (T : Txt K mg) (jbG : CalF P w K mg base "is_state_row" 5 1 (jbg K A))
    (E_InvalidTable : ExC K mg "InvalidTable" A.cInvalidTable) : FnOk P w K mg base (L2.CX P w) 6 f fd jcX (spD K 1 (jbN K A)) := by
  have nd := jeE.nd
  exact fn_d (k := 5) F jeE rfl (fun cdv Ar outer s H E W0 hr => (d_seq (d_ifs (d_not (jct (jao jbG (hr.mono (by first | decide | omega)) rfl (passes_call (takes_of rfl rfl rfl rfl) fun _ _ _ _ h => h) (jaa (d_var (pv 0)) d_nil)))) (jaR (jiP (ps_raise rfl (takes_of rfl rfl rfl rfl) (pmk_own PySem.F.excBase_ValueError E_InvalidTable.x E_InvalidTable.g E_InvalidTable.k (raises_own E_InvalidTable.b E_InvalidTable.t) (by rfl))))) jdh)
      jgw)) fun _ _ _ _ h => h
abbrev jbo : Stmt := top 101
abbrev jmR : List Str := ["text", "state"]
abbrev jdu : List Str := ["text"]
theorem jfD : FnScope jmR jdu (defScope jbo) := ⟨rfl, rfl, rfl, by decide +kernel, rfl, by decide +kernel, by decide +kernel⟩
def jho (K : PySem.W.Frag) (A : Adr) : FS :=
  (sSeq (sDrop (fCall (jad K A) 1 (fCons (fVar 0) fNil)))
      jiV)
def jbX (K : PySem.W.Frag) (A : Adr) : Fn := fnS 2 (jho K A)
theorem jmS {f : Addr} {fd : FuncData} (F : Fun K "read_state" "read_state" jbo f fd) (T : Txt K mg) (jae : CalF P w K mg base "require_string" 3 1 (jad K A)) : FnOk P w K mg base (L2.CX P w) 4 f fd jdu (spD K 1 (jbX K A)) := by
  have nd := jfD.nd
  exact fn_d (k := 3) F jfD rfl (fun cdv Ar outer s H E W0 hr => (d_seq (jmp (jao jae (hr.mono (by first | decide | omega)) rfl (passes_call (takes_of rfl rfl rfl rfl) fun _ _ _ _ h => h) (jaa (d_var (pv 0)) d_nil)))
      jgw)) fun _ _ _ _ h => h
abbrev jan : Stmt := top 102
abbrev jbM : List Str := ["value", "key", "state"]
abbrev jcE : List Str := ["value"]
theorem jdY : FnScope jbM jcE (defScope jan) := ⟨rfl, rfl, rfl, by decide +kernel, rfl, by decide +kernel, by decide +kernel⟩
def jbQ (K : PySem.W.Frag) (A : Adr) : FS :=
  (sSeq (sIf (fOr (fNot (fTst (fOrE (fIsiT K "dict" (fVarT 0)) (jmw (fVar 0))))) (fNot (fTst (fCB RAll (fCons (fNew (fOrA (fLc (fDwT (fun ks _ => ks.map fun k => .tup (k.map kD)) jwM (fVar 0)) (gN 1) fYes (fAndV (fCall (jaD K A) 1 (fCons (fVar 1) fNil)) (fOp REq (fCB RLen (fCons (fVarT 1) fNil)) (fC (.int 2)))) [1]) (fOrA (fLc (Pu.fDw (fun ks _ => ks.map kD) (fVar 0)) (gN 1) fYes (fAndV (fCall (jaD K A) 1 (fCons (fVar 1) fNil)) (fOp REq (fCB RLen (fCons (fVarT 1) fNil)) (fC (.int 2)))) [1]) (fLc (fItOd (fVar 0)) (gN 1) fYes (fAndV (fCall (jaD K A) 1 (fCons (fVar 1) fNil)) (fOp REq (fCB RLen (fCons (fVarT 1) fNil)) (fC (.int 2)))) [1])))) fNil))))) (sRet (fC (.bl false))) sNext)
      (sRet (fCB RAll (fCons (fNew (fLc (fDwT (fun _ ds => ds) okAny (fVar 0)) (gN 2) fYes (fCall (jbg K A) 1 (fCons (fVar 2) fNil)) [2])) fNil))))
def jai (K : PySem.W.Frag) (A : Adr) : Fn := fnS 3 (jbQ K A)
theorem jjg {f : Addr} {fd : FuncData} (F : Fun K "is_table_row" "is_table_row" jan f fd) (T : Txt K mg) (jaN : CalF P w K mg base "are_numbers" 3 1 (jaD K A))
    (jbG : CalF P w K mg base "is_state_row" 5 1 (jbg K A)) : FnOk P w K mg base (L2.CX P w) 6 f fd jcE (spD K 1 (jai K A)) := by
  have nd := jdY.nd
  exact fn_d (k := 5) F jdY rfl (fun cdv Ar outer s H E W0 hr => (d_seq (d_ifs (PW.pt (d_or (d_not (jct (d_orE (d_isiT (K := K) (by decide) rfl T.z_isinstance (jac (pv 0)) (pe_ty "dict" (by rfl) T.z_dict (by decide +kernel))) (jxG rfl T.z_isinstance (d_var (pv 0)) (pe_ty "dict" (by rfl) T.z_dict (by decide +kernel)))))) (d_or1 (d_not (jct (d_cb (jcV (K := K) rfl) s_all (by rfl) T.z_all (by decide +kernel) (jaE (d_nt (d_orN (jwN (own := [("key", 1)]) joQ jvz (jcu (by decide)) (pe_lc (own := [("key", 1)]) (by rfl) nd (jvx (pv 0)) (blkOk_by (own := [("key", 1)]) (N := jbM) (sc := defScope jan) (by decide +kernel)) (fun _ _ _ _ _ => (pg_name (i := 1) nd rfl (Or.inl rfl))) (fun _ _ _ _ _ => jcd) (fun _ _ _ _ _ => (jdg (jao jaN (hr.mono (by first | decide | omega)) rfl passL (jaa (d_var (pv 1)) d_nil)) (d_one (d_cmp (jiL (K := K) hr.units) s_eq (d_t (d_cb (c_len (K := K)) s_len (by rfl) T.z_len (by decide +kernel) (jaE (jac (pv 1)) jby))) (d_t (d_int pe_int)) (nomark _))))))) (d_orN (Pu.d_lcw (own := [("key", 1)]) Pu.stat_var Pu.dw_keys (jcu (by decide)) (pe_lc (own := [("key", 1)]) (by rfl) nd (Pu.pi_keysA (pv 0)) (blkOk_by (own := [("key", 1)]) (N := jbM) (sc := defScope jan) (by decide +kernel)) (fun _ _ _ _ _ => (pg_name (i := 1) nd rfl (Or.inl rfl))) (fun _ _ _ _ _ => jcd) (fun _ _ _ _ _ => (jdg (jao jaN (hr.mono (by first | decide | omega)) rfl passL (jaa (d_var (pv 1)) d_nil)) (d_one (d_cmp (jiL (K := K) hr.units) s_eq (d_t (d_cb (c_len (K := K)) s_len (by rfl) T.z_len (by decide +kernel) (jaE (jac (pv 1)) jby))) (d_t (d_int pe_int)) (nomark _))))))) (d_lc (own := [("key", 1)]) (by rfl) nd (d_itOd (K := K) (d_var (pv 0))) (blkOk_by (own := [("key", 1)]) (N := jbM) (sc := defScope jan) (by decide +kernel)) (jcu (by decide)) (fun _ _ _ _ _ => (pg_name (i := 1) nd rfl (Or.inl rfl))) (fun _ _ _ _ _ => jcd) (fun _ _ _ _ _ => (jdg (jao jaN (hr.mono (by first | decide | omega)) rfl passL (jaa (d_var (pv 1)) d_nil)) (d_one (d_cmp (jiL (K := K) hr.units) s_eq (d_t (d_cb (c_len (K := K)) s_len (by rfl) T.z_len (by decide +kernel) (jaE (jac (pv 1)) jby))) (d_t (d_int pe_int)) (nomark _))))))))) jby))))))) (jaR (d_ret (d_bl pe_bl))) jdh)
      (jaR (d_ret (d_cb (jcV (K := K) rfl) s_all (by rfl) T.z_all (by decide +kernel) (jaE (d_nt (jwN (own := [("state", 2)]) joQ jvy (jcu (by decide)) (pe_lc (own := [("state", 2)]) (by rfl) nd (jsw (pv 0)) (blkOk_by (own := [("state", 2)]) (N := jbM) (sc := defScope jan) (by decide +kernel)) (fun _ _ _ _ _ => (pg_name (i := 2) nd rfl (Or.inl rfl))) (fun _ _ _ _ _ => jcd) (fun _ _ _ _ _ => (jao jbG (hr.mono (by first | decide | omega)) rfl passL (jaa (d_var (pv 2)) d_nil)))))) jby)))))) fun _ _ _ _ h => h
abbrev jaZ : Stmt := top 103
abbrev jeF : List Str := ["table", "lines", "key"]
abbrev jcY : List Str := ["table"]
theorem jeG : FnScope jeF jcY (defScope jaZ) := ⟨rfl, rfl, rfl, by decide +kernel, rfl, by decide +kernel, by decide +kernel⟩
def jdv (K : PySem.W.Frag) (A : Adr) : FS :=
  (sSeq (sIf (fNot (fTst (fCall (jai K A) 1 (fCons (fVar 0) fNil)))) (jcM A.cInvalidTable) sNext)
      (sSeq (sAsg 1 (fNew (fLc (fIt (fNew (fCBN jtF (fCons (fNew (fCBN jtB (fCons (fVarT 0) fNil))) fNil)))) (gN 2) fYes (fJs [(fFmt (fOp RIx (fVarT 2) (fC (.int 0)))), (fC (.str " ")), (fFmt (fOp RIx (fVarT 2) (fC (.int 1)))), (fC (.str ": ")), (fFmt (fCall (jcN K A) 1 (fCons (fGetT (fVarT 0) (fVar 2)) fNil)))] Str.empty) [2])))
      (sRet (fIf (fTst (fOp RNe (fVarT 1) (fNew (fLst fNil)))) (fJoin (fC (.str "\n")) (fVarT 1)) (fC (.str "none"))))))
def jba (K : PySem.W.Frag) (A : Adr) : Fn := fnS 3 (jdv K A)
theorem jkQ {f : Addr} {fd : FuncData} (F : Fun K "write_table" "write_table" jaZ f fd) (T : Txt K mg) {t_NONE : Tok} (g_NONE : mg "NONE" = some (.str "none" t_NONE))
    (jcZ : CalF P w K mg base "is_table_row" 6 1 (jai K A))
    (jdZ : CalF P w K mg base "state_text" 2 1 (jcN K A))
    (E_InvalidTable : ExC K mg "InvalidTable" A.cInvalidTable) : FnOk P w K mg base (L2.CX P w) 7 f fd jcY (spD K 1 (jba K A)) := by
  have nd := jeG.nd
  exact fn_d (k := 6) F jeG rfl (fun cdv Ar outer s H E W0 hr => (d_seq (d_ifs (d_not (jct (jao jcZ (hr.mono (by first | decide | omega)) rfl (passes_call (takes_of rfl rfl rfl rfl) fun _ _ _ _ h => h) (jaa (d_var (pv 0)) d_nil)))) (jaR (jiP (ps_raise rfl (takes_of rfl rfl rfl rfl) (pmk_own PySem.F.excBase_ValueError E_InvalidTable.x E_InvalidTable.g E_InvalidTable.k (raises_own E_InvalidTable.b E_InvalidTable.t) (by rfl))))) jdh)
      (d_seq (jvn (jcu (by decide)) (ps_setLc (i := 1) (own := [("key", 2)]) (by rfl) nd rfl rfl (sw_true rfl rfl rfl (by decide +kernel)) (d_itC (K := K) (d_nt (d_cbN (jvv (K := K) (Nat.lt_of_succ_lt (hr65 hr))) jvw (by rfl) T.z_sorted (by decide +kernel) (jaE (d_nt (d_ctN (jvt rfl) jvu (by rfl) T.z_list (by decide +kernel) (jaE (jac (pv 0)) jby))) jby)))) (blkOk_by (own := [("key", 2)]) (N := jeF) (sc := defScope jaZ) (by decide +kernel)) (fun _ _ _ _ _ => (pg_name (i := 2) nd rfl (Or.inl rfl))) (fun _ _ _ _ _ => jcd) (fun _ _ _ _ _ => (d_js (PFs.cons (d_fmt (d_ix (ix_A (K := K)) s_ix (jac (pv 2)) (d_t (d_int pe_int)) (fun _ _ => rfl))) (PFs.cons (d_str pe_str) (PFs.cons (d_fmt (d_ix (ix_A (K := K)) s_ix (jac (pv 2)) (d_t (d_int pe_int)) (fun _ _ => rfl))) (PFs.cons (d_str pe_str) (PFs.cons (d_fmt (jao jdZ (hr.mono (by first | decide | omega)) rfl passL (jaa (d_getT (hr1 hr) (jac (pv 0)) (d_var (pv 2)) (fun _ _ => rfl)) d_nil))) PFs.nil)))))))))
      (jaR (d_ret (d_if (jdE (jhf (K := K) hr.units) s_ne (jac (pv 1)) (d_nt (d_lst d_nil)) (nomark _)) (joK (K := K) (d_str pe_str) (jac (pv 1))) (d_str (jcU rfl g_NONE)))))))) fun _ _ _ _ h => h
abbrev jbp : Stmt := top 105
abbrev jmT : List Str := ["text", "found", "last", "at", "line", "pair"]
abbrev jdw : List Str := ["text"]
theorem jfE : FnScope jmT jdw (defScope jbp) := ⟨rfl, rfl, rfl, by decide +kernel, rfl, by decide +kernel, by decide +kernel⟩
def jhp (K : PySem.W.Frag) (A : Adr) : FS :=
  (sSeq (sDrop (fCall (jad K A) 1 (fCons (fVar 0) fNil)))
      jiV)
def jbY (K : PySem.W.Frag) (A : Adr) : Fn := fnS 6 (jhp K A)
theorem jmU {f : Addr} {fd : FuncData} (F : Fun K "read_table" "read_table" jbp f fd) (T : Txt K mg) (jae : CalF P w K mg base "require_string" 3 1 (jad K A)) : FnOk P w K mg base (L2.CX P w) 4 f fd jdw (spD K 1 (jbY K A)) := by
  have nd := jfE.nd
  exact fn_d (k := 3) F jfE rfl (fun cdv Ar outer s H E W0 hr => (d_seq (jmp (jao jae (hr.mono (by first | decide | omega)) rfl (passes_call (takes_of rfl rfl rfl rfl) fun _ _ _ _ h => h) (jaa (d_var (pv 0)) d_nil)))
      jgw)) fun _ _ _ _ h => h
abbrev jca : Stmt := top 106
abbrev jsC : List Str := ["value"]
abbrev jgB : List Str := ["value"]
theorem jmz : FnScope jsC jgB (defScope jca) := ⟨rfl, rfl, rfl, by decide +kernel, rfl, by decide +kernel, by decide +kernel⟩
def joX (K : PySem.W.Frag) (A : Adr) : FS :=
  (sRet (fOrV (fCall (jcy K A) 1 (fCons (fVar 0) fNil)) (fAndV (fIsi K "str" (fVarT 0)) (fOp (RIn false) (fVarT 0) (fTup (fCons (fC (.str "_")) (fCons (fC (.str "#")) fNil)))))))
def jdj (K : PySem.W.Frag) (A : Adr) : Fn := fnS 1 (joX K A)
theorem jsD {f : Addr} {fd : FuncData} (F : Fun K "is_sign" "is_sign" jca f fd) (T : Txt K mg) {t_LOST : Tok} (g_LOST : mg "LOST" = some (.str "#" t_LOST))
    {t_ANY : Tok} (g_ANY : mg "ANY" = some (.str "_" t_ANY))
    (jjh : CalF P w K mg base "is_word" 1 1 (jcy K A)) : FnOk P w K mg base (L2.CX P w) 2 f fd jgB (spD K 1 (jdj K A)) := by
  have nd := jmz.nd
  exact fn_d (k := 1) F jmz rfl (fun cdv Ar outer s H E W0 hr => (jaR (d_ret (d_orV (jao jjh (hr.mono (by first | decide | omega)) rfl (passes_call (takes_of rfl rfl rfl rfl) fun _ _ _ _ h => h) (jaa (d_var (pv 0)) d_nil)) (d_one (jdg (d_isi (K := K) (by decide) rfl T.z_isinstance (jac (pv 0)) (pe_ty "str" (by rfl) T.z_str (by decide +kernel))) (d_one (d_cmp (jrO (K := K) (hr65 hr)) s_in (jac (pv 0)) (d_t (d_tup (jaa (d_str (jcU rfl g_ANY)) (jaa (d_str (jcU rfl g_LOST)) d_nil)))) rfl)))))))) fun _ _ _ _ h => h
abbrev jbw : Stmt := top 107
abbrev jhq : List Str := ["value", "at", "uses", "use"]
abbrev jea : List Str := ["value", "at"]
theorem jhr : FnScope jhq jea (defScope jbw) := ⟨rfl, rfl, rfl, by decide +kernel, rfl, by decide +kernel, by decide +kernel⟩
def jji (K : PySem.W.Frag) (A : Adr) : FS :=
  (sSeq (sIf (fOr (fNot (fTst (fIsi K "tuple" (fVarT 0)))) (fOr (fTst (fOp RNe (fCB RLen (fCons (fVarT 0) fNil)) (fC (.int 2)))) (fNot (fTst (fCall (jdj K A) 1 (fCons (fOp RIx (fVarT 0) (fC (.int 0))) fNil)))))) (sRet (fC (.bl false))) sNext)
      (sSeq (sAsg 2 (fOp RIx (fVarT 0) (fC (.int 1))))
      (sRet (fAndV (fIsi K "tuple" (fVarT 2)) (fAndV (fOp RLe (fCB RLen (fCons (fVarT 2) fNil)) (fC (.int 3))) (fCB RAll (fCons (fNew (fLc (fIt (fVarT 2)) (gN 3) fYes (fCall (jbL K A) 3 (fCons (fVar 3) (fCons (fC (.int 0)) (fCons (fOp RSub (fVarT 1) (fC (.int 1))) fNil)))) [3])) fNil)))))))
def jbU (K : PySem.W.Frag) (A : Adr) : Fn := fnS 4 (jji K A)
theorem joY {f : Addr} {fd : FuncData} (F : Fun K "is_row_at" "is_row_at" jbw f fd) (T : Txt K mg) {t_MAX_ARITY : Tok} (g_MAX_ARITY : mg "MAX_ARITY" = some (.int (3) t_MAX_ARITY))
    (jjj : CalF P w K mg base "is_sign" 2 1 (jdj K A))
    (jch : CalF P w K mg base "is_within" 2 3 (jbL K A)) : FnOk P w K mg base (L2.CX P w) 3 f fd jea (spD K 2 (jbU K A)) := by
  have nd := jhr.nd
  exact fn_d (k := 2) F jhr rfl (fun cdv Ar outer s H E W0 hr => (d_seq (d_ifs (PW.pt (d_or (d_not (jct (d_isi (K := K) (by decide) rfl T.z_isinstance (jac (pv 0)) (pe_ty "tuple" (by rfl) T.z_tuple (by decide +kernel))))) (d_or (jdE (jhf (K := K) hr.units) s_ne (d_t (d_cb (c_len (K := K)) s_len (by rfl) T.z_len (by decide +kernel) (jaE (jac (pv 0)) jby))) (d_t (d_int pe_int)) (nomark _)) (d_or1 (d_not (jct (jao jjj (hr.mono (by first | decide | omega)) rfl (passes_call (takes_of rfl rfl rfl rfl) fun _ _ _ _ h => h) (jaa (d_ix (ix_A (K := K)) s_ix (jac (pv 0)) (d_t (d_int pe_int)) (fun _ _ => rfl)) d_nil)))))))) (jaR (d_ret (d_bl pe_bl))) jdh)
      (d_seq (d_asg (d_ix (ix_A (K := K)) s_ix (jac (pv 0)) (d_t (d_int pe_int)) (fun _ _ => rfl)) (pg_name (i := 2) nd rfl (Or.inl rfl)))
      (jaR (d_ret (jdg (d_isi (K := K) (by decide) rfl T.z_isinstance (jac (pv 2)) (pe_ty "tuple" (by rfl) T.z_tuple (by decide +kernel))) (jdg (d_cmp op_le s_le (d_t (d_cb (c_len (K := K)) s_len (by rfl) T.z_len (by decide +kernel) (jaE (jac (pv 2)) jby))) (d_t (d_int (jgq rfl g_MAX_ARITY))) (nomark _)) (d_one (d_cb (jcV (K := K) rfl) s_all (by rfl) T.z_all (by decide +kernel) (jaE (d_nt (d_lc (own := [("use", 3)]) (by rfl) nd (d_itC (K := K) (jac (pv 2))) (blkOk_by (own := [("use", 3)]) (N := jhq) (sc := defScope jbw) (by decide +kernel)) (jcu (by decide)) (fun _ _ _ _ _ => (pg_name (i := 3) nd rfl (Or.inl rfl))) (fun _ _ _ _ _ => jcd) (fun _ _ _ _ _ => (jao jch (hr.mono (by first | decide | omega)) rfl passL (jaa (d_var (pv 3)) (jaa (d_int pe_int) (jaa (d_op op_sub s_sub (jac (pv 1)) (d_t (d_int pe_int))) d_nil))))))) jby)))))))))) fun _ _ _ _ h => h
abbrev jbc : Stmt := top 108
abbrev jdx : List Str := ["rows", "at", "row", "use"]
abbrev jdy : List Str := ["rows"]
theorem jfF : FnScope jdx jdy (defScope jbc) := ⟨rfl, rfl, rfl, by decide +kernel, rfl, by decide +kernel, by decide +kernel⟩
def jeb (K : PySem.W.Frag) (A : Adr) : FS :=
  (sSeq (sIf (fOr (fNot (fTst (fIsi K "tuple" (fVarT 0)))) (fOr (fTst (fOp REq (fVarT 0) (fTup fNil))) (fNot (fTst (fCB RAll (fCons (fNew (fLc (fEnum (fCons (fVar 0) fNil)) (gT [1, 2]) fYes (fCall (jbU K A) 2 (fCons (fVar 2) (fCons (fVar 1) fNil))) [1, 2])) fNil)))))) (jcM A.cInvalidRows) sNext)
      (sRet (fJoin (fC (.str "\n")) (fNew (fLc (fIt (fVarT 0)) (gN 2) fYes (fJoin (fC (.str " ")) (fNew (fLst (fCons (fOp RIx (fVarT 2) (fC (.int 0))) (fStar (fNew (fLc (fIt (fOp RIx (fVarT 2) (fC (.int 1)))) (gN 3) fYes (fCB RStrI (fCons (fVarT 3) fNil)) [3])) fNil))))) [2])))))
def jbi (K : PySem.W.Frag) (A : Adr) : Fn := fnS 4 (jeb K A)
theorem jmV {f : Addr} {fd : FuncData} (F : Fun K "write_rows" "write_rows" jbc f fd) (T : Txt K mg) (jeZ : CalF P w K mg base "is_row_at" 3 2 (jbU K A))
    (E_InvalidRows : ExC K mg "InvalidRows" A.cInvalidRows) : FnOk P w K mg base (L2.CX P w) 4 f fd jdy (spD K 1 (jbi K A)) := by
  have nd := jfF.nd
  exact fn_d (k := 3) F jfF rfl (fun cdv Ar outer s H E W0 hr => (d_seq (d_ifs (PW.pt (d_or (d_not (jct (d_isi (K := K) (by decide) rfl T.z_isinstance (jac (pv 0)) (pe_ty "tuple" (by rfl) T.z_tuple (by decide +kernel))))) (d_or (jdE (jiL (K := K) hr.units) s_eq (jac (pv 0)) (d_t (d_tup d_nil)) (nomark _)) (d_or1 (d_not (jct (d_cb (jcV (K := K) rfl) s_all (by rfl) T.z_all (by decide +kernel) (jaE (d_nt (d_lc (own := [("at", 1), ("row", 2)]) (by rfl) nd (d_fc (d_enum rfl T.z_enumerate (jaa (d_var (pv 0)) d_nil))) (blkOk_by (own := [("at", 1), ("row", 2)]) (N := jdx) (sc := defScope jbc) (by decide +kernel)) (jto (by decide) (by decide)) (fun _ _ _ _ _ => (jqL (K := K) (n := 2) rfl (pgs_cons (pg_name (i := 1) nd rfl (Or.inl rfl)) (pgs_cons (pg_name (i := 2) nd rfl (Or.inl rfl)) pgs_nil)))) (fun _ _ _ _ _ => jcd) (fun _ _ _ _ _ => (jao jeZ (hr.mono (by first | decide | omega)) rfl passL (jaa (d_var (pv 2)) (jaa (d_var (pv 1)) d_nil)))))) jby)))))))) (jaR (jiP (ps_raise rfl (takes_of rfl rfl rfl rfl) (pmk_own PySem.F.excBase_ValueError E_InvalidRows.x E_InvalidRows.g E_InvalidRows.k (raises_own E_InvalidRows.b E_InvalidRows.t) (by rfl))))) jdh)
      (jaR (d_ret (joK (K := K) (d_str pe_str) (d_nt (d_lc (own := [("row", 2)]) (by rfl) nd (d_itC (K := K) (jac (pv 0))) (blkOk_by (own := [("row", 2)]) (N := jdx) (sc := defScope jbc) (by decide +kernel)) (jcu (by decide)) (fun _ _ _ _ _ => (pg_name (i := 2) nd rfl (Or.inl rfl))) (fun _ _ _ _ _ => jcd) (fun _ _ _ _ _ => (joK (K := K) (d_str pe_str) (d_nt (d_lst (jaa (d_ix (ix_A (K := K)) s_ix (jac (pv 2)) (d_t (d_int pe_int)) (fun _ _ => rfl)) (d_star (d_nt (d_lc (own := [("use", 3)]) (by rfl) nd (d_itC (K := K) (d_t (d_ix (ix_A (K := K)) s_ix (jac (pv 2)) (d_t (d_int pe_int)) (fun _ _ => rfl)))) (blkOk_by (own := [("use", 3)]) rfl) (jcu (by decide)) (fun _ _ _ _ _ => (pg_name (i := 3) nd rfl (Or.inl rfl))) (fun _ _ _ _ _ => jcd) (fun _ _ _ _ _ => (d_ct L2.call_str_int jwI (by rfl) T.z_str (by decide +kernel) (jaE (jac (pv 3)) jby))))) d_nil))))))))))))) fun _ _ _ _ h => h
abbrev jbF : Stmt := top 109
abbrev joZ : List Str := ["text", "found", "at", "line", "words", "row", "word"]
abbrev jec : List Str := ["text"]
theorem jhs : FnScope joZ jec (defScope jbF) := ⟨rfl, rfl, rfl, by decide +kernel, rfl, by decide +kernel, by decide +kernel⟩
def jjk (K : PySem.W.Frag) (A : Adr) : FS :=
  (sSeq (sDrop (fCall (jad K A) 1 (fCons (fVar 0) fNil)))
      jiV)
def jci (K : PySem.W.Frag) (A : Adr) : Fn := fnS 7 (jjk K A)
theorem jpa {f : Addr} {fd : FuncData} (F : Fun K "read_rows" "read_rows" jbF f fd) (T : Txt K mg) (jae : CalF P w K mg base "require_string" 3 1 (jad K A)) : FnOk P w K mg base (L2.CX P w) 4 f fd jec (spD K 1 (jci K A)) := by
  have nd := jhs.nd
  exact fn_d (k := 3) F jhs rfl (fun cdv Ar outer s H E W0 hr => (d_seq (jmp (jao jae (hr.mono (by first | decide | omega)) rfl (passes_call (takes_of rfl rfl rfl rfl) fun _ _ _ _ h => h) (jaa (d_var (pv 0)) d_nil)))
      jgw)) fun _ _ _ _ h => h
abbrev jau : Stmt := top 80
abbrev jfG : List Str := ["value"]
abbrev jcb : List Str := ["value"]
theorem jcO : FnScope jfG jcb (defScope jau) := ⟨rfl, rfl, rfl, by decide +kernel, rfl, by decide +kernel, by decide +kernel⟩
def jdk (K : PySem.W.Frag) (A : Adr) : FS :=
  (sIf (fNot (fTst (fIsc K A.cProgram (fVarT 0)))) (jcM A.cInvalidProgram) sNext)
def jbj (K : PySem.W.Frag) (A : Adr) : Fn := fnS 1 (jdk K A)
theorem jfH {f : Addr} {fd : FuncData} (F : Fun K "require_program" "require_program" jau f fd) (T : Txt K mg) (g_Program : mg "Program" = some (.ref A.cProgram))
    (E_InvalidProgram : ExC K mg "InvalidProgram" A.cInvalidProgram) : FnOk P w K mg base (L2.CX P w) 1 f fd jcb (spD K 1 (jbj K A)) := by
  have nd := jcO.nd
  exact fn_d (k := 0) F jcO rfl (fun cdv Ar outer s H E W0 hr => (jaR (d_ifs (d_not (jct (d_isc (K := K) rfl T.z_isinstance (jac (pv 0)) (jxl rfl g_Program)))) (jaR (jiP (ps_raise rfl (takes_of rfl rfl rfl rfl) (pmk_own PySem.F.excBase_ValueError E_InvalidProgram.x E_InvalidProgram.g E_InvalidProgram.k (raises_own E_InvalidProgram.b E_InvalidProgram.t) (by rfl))))) jdh))) fun _ _ _ _ h => h
abbrev jaP : Stmt := top 110
abbrev jhN : List Str := ["program", "first", "word", "arity"]
abbrev jcq : List Str := ["program"]
theorem jdI : FnScope jhN jcq (defScope jaP) := ⟨rfl, rfl, rfl, by decide +kernel, rfl, by decide +kernel, by decide +kernel⟩
def jed (K : PySem.W.Frag) (A : Adr) : FS :=
  (sSeq (sDrop (fCall (jbj K A) 1 (fCons (fVar 0) fNil)))
      jiV)
def jbB (K : PySem.W.Frag) (A : Adr) : Fn := fnS 4 (jed K A)
theorem jhO {f : Addr} {fd : FuncData} (F : Fun K "write_program" "write_program" jaP f fd) (T : Txt K mg) (jcj : CalF P w K mg base "require_program" 1 1 (jbj K A)) : FnOk P w K mg base (L2.CX P w) 2 f fd jcq (spD K 1 (jbB K A)) := by
  have nd := jdI.nd
  exact fn_d (k := 1) F jdI rfl (fun cdv Ar outer s H E W0 hr => (d_seq (jmp (jao jcj (hr.mono (by first | decide | omega)) rfl (passes_call (takes_of rfl rfl rfl rfl) fun _ _ _ _ h => h) (jaa (d_var (pv 0)) d_nil)))
      jgw)) fun _ _ _ _ h => h
abbrev jbb : Stmt := top 111
abbrev jjl : List Str := ["text", "lines", "symbols", "found", "line"]
abbrev jcF : List Str := ["text"]
theorem jee : FnScope jjl jcF (defScope jbb) := ⟨rfl, rfl, rfl, by decide +kernel, rfl, by decide +kernel, by decide +kernel⟩
def jeH (K : PySem.W.Frag) (A : Adr) : FS :=
  (sSeq (sDrop (fCall (jad K A) 1 (fCons (fVar 0) fNil)))
      jiV)
def jbH (K : PySem.W.Frag) (A : Adr) : Fn := fnS 5 (jeH K A)
theorem jjm {f : Addr} {fd : FuncData} (F : Fun K "read_program" "read_program" jbb f fd) (T : Txt K mg) (jae : CalF P w K mg base "require_string" 3 1 (jad K A)) : FnOk P w K mg base (L2.CX P w) 4 f fd jcF (spD K 1 (jbH K A)) := by
  have nd := jee.nd
  exact fn_d (k := 3) F jee rfl (fun cdv Ar outer s H E W0 hr => (d_seq (jmp (jao jae (hr.mono (by first | decide | omega)) rfl (passes_call (takes_of rfl rfl rfl rfl) fun _ _ _ _ h => h) (jaa (d_var (pv 0)) d_nil)))
      jgw)) fun _ _ _ _ h => h
end
end K72
namespace TM
open PySem L2 Ly
end TM
namespace TM
open PySem L2 Ly
end TM
namespace TM
open PySem L2 Ly
def isL (c : Nat) : Bool := decide (c ∈ jqJ)
abbrev lab (w : Str) : List Nat := w.cps.toList
def mkS (l : List Nat) : Str := ⟨l.toArray⟩
end TM
namespace TM
open PySem L2 Ly
structure RS where
  nodes : List Nd
  opn : List Nat
  wants : Bool
  last : Str
abbrev FrL := List (Str × List Tr)
def fN : FrL → List Nd
  | [] => []
  | (w, as) :: R => fN R ++ ((w, as.length) :: jiO as)
def fI : FrL → List Nat
  | [] => []
  | _ :: R => fI R ++ [(fN R).length]
end TM
namespace TM
open PySem L2 Ly
def rdL (f : List Nat → Option (Tr × List Nat)) (w : Str) : Nat → List Nat → List Tr → Option (Tr × List Nat)
  | 0, _, _ => none
  | k + 1, l, as => match f l with
    | none => none
    | some (t, r) =>
      if r.head? = some 41 then (if as.length + 1 < 4 then some (.nd w (as ++ [t]), r.drop 1) else none)
      else if r.take 2 = [44, 32] then rdL f w k (r.drop 2) (as ++ [t]) else none
def rd : Nat → List Nat → Option (Tr × List Nat)
  | 0, _ => none
  | n + 1, l =>
    if l.head? = some 95 ∨ l.head? = some 35 then some (.nd (mkS (l.take 1)) [], l.drop 1)
    else if 0 < (l.takeWhile isL).length ∧ (l.takeWhile isL).length < 9 then
      (if (l.dropWhile isL).head? = some 40 then rdL (rd n) (mkS (l.takeWhile isL)) 4 ((l.dropWhile isL).drop 1) []
      else some (.nd (mkS (l.takeWhile isL)) [], l.dropWhile isL))
    else none
theorem jtZ (w : Str) : w.length = (lab w).length := by
  show w.cps.size = w.cps.toList.length
  rw [Array.length_toList]
end TM
open List renaming map_cons → jA, map_nil → jB, cons_append → jC, nil_append → jD, length_cons → jE, length_nil → jF, replicate → jG, getElem?_cons_zero → jH, getElem?_cons_succ → jI, set_cons_zero → jJ, set_cons_succ → jK, zip_cons_cons → jT, zip_nil_right → jU, foldl_cons → jV, foldl_nil → jW, map_map → jd
open Option.some renaming injEq → jL
open Pu.B.val renaming injEq → jM
open Pu.D.int renaming injEq → jN
open Pu.D.bl renaming injEq → jO
open Pu.D.str renaming injEq → jP
open Pu.D.tup renaming injEq → jQ
open Pu.D.lst renaming injEq → jR
open List.cons renaming injEq → jS
open Bool renaming not_true → jX, not_false → jY, false_eq_true → jZ, true_eq_false → ja
open Pu.D.dic renaming injEq → jb
open Pu.D.obj renaming injEq → jc
namespace K72
open PySem PySem.Spec PyProof.Rows L2 Ly Pu TM
theorem atI_nat {α : Type} (xs : List α) (i : Nat) : atI xs (i : Int) = xs[i]? := by
  unfold atI ixN
  rw [if_pos (by omega)]
  by_cases h : i < xs.length
  · rw [if_pos (by omega)]
    rfl
  · rw [if_neg (by omega), List.getElem?_eq_none (by omega)]
    rfl
theorem ex_eq {α : Type} {a : α} {P : α → Prop} : (∃ b, a = b ∧ P b) ↔ P a := ⟨fun ⟨_, e, h⟩ => e ▸ h, fun h => ⟨a, rfl, h⟩⟩
theorem jvN {z : Str} (h : z.length ≤ sizeLine) : lenD (.str z) = some z.length := if_pos h
theorem at0 {x : D} {xs : List D} : atI (x :: xs) 0 = some x := (atI_nat _ 0).trans rfl
theorem at1 {x y : D} {xs : List D} : atI (x :: y :: xs) 1 = some y := (atI_nat _ 1).trans rfl
theorem jdJ {α : Type} {j : Nat} {F : FE} {ρ : Pu.Env} {h f : α → D} : ∀ (l : List α) {Q : List D → Prop}, (∀ a ∈ l, ∀ R : D → Prop, R (f a) → F (ρ.set j (.val (h a))) R F0) → Q (l.map f) → lcD (gN j) fYes F ρ (l.map h) Q
  | [], Q, _, q => q
  | a :: l, Q, hf, q => by
    show F (ρ.set j (.val (h a))) (fun y => lcD (gN j) fYes F ρ (l.map h) fun ys => Q (y :: ys)) F0
    exact hf a (List.mem_cons_self ..) _ (jdJ l (fun b hb => hf b (List.mem_cons_of_mem _ hb)) q)
theorem jcr {α : Type} (p : α → Bool) : ∀ l : List α, blsD (l.map fun a => D.bl (p a)) = some (l.map p)
  | [] => rfl
  | a :: l => by
    show (blsD (l.map fun a => D.bl (p a))).map (p a :: ·) = _
    rw [jcr p l]
    rfl
def sg (c : Nat) : Str := ⟨#[c]⟩
theorem has_us (z : Str) (c : Nat) : (!(Builtin.Str.occurrences z ⟨#[c]⟩ 0 z.length 1).isEmpty) = decide (c ∈ lab z) := StrLaws.found_one z c
theorem jpb {j : Nat} {S : FS} {De : EndsD} (I : Pu.Env → Prop) (ds : List D) (hs : ∀ (d : D) (ρ : Pu.Env) (D' : EndsD), d ∈ ds → I ρ → (∀ ρ', I ρ' → D'.nx ρ') → D'.rt = De.rt → D'.ex = De.ex → S (ρ.set j (.val d)) D') (hd : ∀ ρ, I ρ → De.nx ρ) : ∀ (es : List D) (ρ : Pu.Env), (∀ d ∈ es, d ∈ ds) → I ρ → forD (gN j) S es ρ De
  | [], ρ, _, h => hd ρ h
  | d :: es, ρ, m, h => hs d ρ _ (m d (List.mem_cons_self ..)) h (fun ρ' h' => jpb I ds hs hd es ρ' (fun x hx => m x (List.mem_cons_of_mem _ hx)) h') rfl rfl
theorem lc_g {α : Type} {g : FG} {T : FT} {F : FE} {ρ : Pu.Env} {h f : α → D} {p : α → Bool} : ∀ (l : List α) {Q : List D → Prop}, (∀ a ∈ l, ∃ ρa : Pu.Env, (∀ k : Pu.Env → Prop, k ρa → g (h a) ρ k) ∧ (∀ R : Bool → Prop, R (p a) → T ρa R F0) ∧ (p a = true → ∀ R : D → Prop, R (f a) → F ρa R F0)) → Q ((l.filter p).map f) → lcD g T F ρ (l.map h) Q
  | [], Q, _, q => q
  | a :: l, Q, hh, q => by
    obtain ⟨ρa, h1, h2, h3⟩ := hh a (List.mem_cons_self ..)
    show g (h a) ρ fun ρ2 => T ρ2 (fun b => if b = true then F ρ2 (fun y => lcD g T F ρ (l.map h) fun ys => Q (y :: ys)) F0 else lcD g T F ρ (l.map h) Q) F0
    refine h1 _ (h2 _ ?_)
    have ih := fun (R : List D → Prop) (r : R ((l.filter p).map f)) => lc_g l (Q := R) (fun b hb => hh b (List.mem_cons_of_mem _ hb)) r
    cases c : p a with
    | true =>
      rw [if_pos rfl]
      rw [List.filter_cons_of_pos c] at q
      exact h3 c _ (ih _ q)
    | false =>
      rw [if_neg (by simp)]
      rw [List.filter_cons_of_neg (by rw [c]; simp)] at q
      exact ih _ q
theorem jjn {α β : Type} {f : α → D} {g : β → D} : ∀ (l : List α) (m : List β), jdF (l.map f) (m.map g) = (l.zip m).map fun x => D.tup [f x.1, g x.2]
  | [], _ => by simp [jdF]
  | _ :: _, [] => by simp [jdF]
  | a :: l, b :: m => by
    show D.tup [f a, g b] :: jdF (l.map f) (m.map g) = _
    rw [jjn l m]
    rfl
def dgB (c : Nat) : Bool := decide (48 ≤ c ∧ c ≤ 57)
def numB (w : Str) : Bool := (decide (1 ≤ (w.length : Int)) && decide ((w.length : Int) ≤ 60)) && (lab w).all dgB && (decide (w = "0") || !decide ((lab w).head? = some 48))
def numF (w : Str) : Option Nat := if numB w = true then some (PySem.NumText.digitsVal (lab w)) else none
theorem jsE {w : Str} (h : numB w = true) : PySem.NumText.AllDigits (lab w) ∧ lab w ≠ [] ∧ w.length ≤ 60 := by
  unfold numB at h
  simp only [Bool.and_eq_true, decide_eq_true_iff, List.all_eq_true] at h
  obtain ⟨⟨⟨h1, h2⟩, h3⟩, _⟩ := h
  refine ⟨fun c hc => ?_, fun e => ?_, by omega⟩
  · have := of_decide_eq_true (h3 c hc)
    exact this
  · rw [jtZ, e] at h1
    simp at h1
section
variable {K : PySem.W.Frag} {A : Adr}
def opK : Option Nat → D
  | none => .non
  | some n => .int (n : Int)
theorem in_dig (c : Nat) : (!(Builtin.Str.occurrences "0123456789" ⟨#[c]⟩ 0 ("0123456789" : Str).length 1).isEmpty) = dgB c := by
  rw [has_us]
  unfold dgB
  rw [show lab "0123456789" = List.range' 48 10 by decide +kernel]
  exact decide_eq_decide.mpr (by rw [List.mem_range'_1]; omega)
theorem eq_str {a b : Str} {Q : D → Prop} : REq (.str a) (.str b) Q = Q (.bl (decide (a = b))) := rfl
theorem ne_str {a b : Str} {Q : D → Prop} : RNe (.str a) (.str b) Q = Q (.bl (!decide (a = b))) := rfl
theorem sg_eq {c k : Nat} : decide (sg c = sg k) = decide (c = k) := decide_eq_decide.mpr ⟨fun h => by have := congrArg lab h; exact (List.cons.inj this).1, fun h => by rw [h]⟩
theorem jua {w : Str} (hw : w.length ≤ 3000) {Q : D → Prop} {Z : ZX} (q : Q (opK (numF w))) : jcf K A [.str w] Q Z := by
  have hs : w.length ≤ sizeLine := by rw [sizeLine_eq]; omega
  unfold jcf jja
  simp only [fnS,Pu.startB,sSeq,sAsg,sIf,sRet,sNext,sNew,sApp,sPar,sDem,demB,fVar,fVarT,fC,fOp,fTst,fAnd,fOr,fNot,fNew,fLst,fTup,fNil,fCons,fSl,Pu.oAt,oNo,fCB,fCall,fIf,jaf,fRng1,fIt,fJoin,RLen,RI0,RAdd,RSl,RIsN,jag,gN,bD,jA,jB,jC,jD,jE,jF,jG,Nat.reduceSub,Nat.reduceAdd,jH,jI,jJ,jK,jL,jM,jN,jO,jP,jQ,jR,exists_eq_left',exists_eq_left,exists_and_left,ex_eq,true_and,and_true,jS,jT,jU,jV,jW,wipeB,lenD,itD,jX,jY,jZ,ja,if_true,if_false,ite_true,ite_false,jb,jc,and_assoc,jd,fLc,RAll]
  refine ⟨w.length, if_pos hs, ?_⟩
  unfold numF at q
  have ll : (lab w).length = w.length := (jtZ w).symm
  cases h1 : decide (1 ≤ (w.length : Int)) with
  | false =>
    rw [show numB w = false by unfold numB; rw [h1]; rfl, if_neg (by decide)] at q
    exact q
  | true =>
  rw [if_pos rfl]
  cases h2 : decide ((w.length : Int) ≤ 60) with
  | false =>
    rw [show numB w = false by unfold numB; rw [h1, h2]; rfl, if_neg (by decide)] at q
    exact q
  | true =>
  rw [if_neg (by decide)]
  refine ⟨_, if_pos hs, by unfold jiM; rw [List.length_map]; show (lab w).length ≤ _; omega, ?_⟩
  refine jdJ (f := fun c => .bl (dgB c)) (lab w) (fun c _ R r => ?_) ?_
  · simp only [fnS,Pu.startB,sSeq,sAsg,sIf,sRet,sNext,sNew,sApp,sPar,sDem,demB,fVar,fVarT,fC,fOp,fTst,fAnd,fOr,fNot,fNew,fLst,fTup,fNil,fCons,fSl,Pu.oAt,oNo,fCB,fCall,fIf,jaf,fRng1,fIt,fJoin,RLen,RI0,RAdd,RSl,RIsN,jag,gN,bD,jA,jB,jC,jD,jE,jF,jG,Nat.reduceSub,Nat.reduceAdd,jH,jI,jJ,jK,jL,jM,jN,jO,jP,jQ,jR,exists_eq_left',exists_eq_left,exists_and_left,ex_eq,true_and,and_true,jS,jT,jU,jV,jW,wipeB,lenD,itD,jX,jY,jZ,ja,if_true,if_false,ite_true,ite_false,jb,jc,and_assoc,jd]
    show RIn false (.str (sg c)) (.str "0123456789") R
    exact ⟨_, rfl, by rw [Bool.false_bne, show sg c = ⟨#[c]⟩ from rfl, in_dig]; exact r⟩
  refine ⟨_, jcr dgB (lab w), ?_⟩
  rw [List.all_map, show (id ∘ dgB) = dgB from rfl]
  cases h3 : (lab w).all dgB with
  | false =>
    rw [show numB w = false by unfold numB; rw [h1, h2, h3]; rfl, if_neg (by decide)] at q
    exact q
  | true =>
  rw [if_neg (by decide), eq_str]
  have hl : 1 ≤ (lab w).length ∧ (lab w).length ≤ 60 := by
    have := of_decide_eq_true h1
    have := of_decide_eq_true h2
    omega
  have hn : numB w = true → RIntS [.str w] Q := fun hb => by
    rw [hb, if_pos rfl] at q
    obtain ⟨d1, d2, d3⟩ := jsE hb
    exact ⟨w, _, rfl, PySem.intText_digits d1 d2 (by omega), by omega, q⟩
  refine ⟨_, rfl, ?_⟩
  cases h4 : decide (w = "0") with
  | true =>
    rw [if_pos rfl]
    exact hn (by unfold numB; rw [h1, h2, h3, h4]; rfl)
  | false =>
  rw [if_neg (by decide)]
  obtain ⟨c, r, e⟩ : ∃ c r, lab w = c :: r := by
    cases e : lab w with
    | nil => rw [e] at hl; simp at hl
    | cons c r => exact ⟨c, r, rfl⟩
  refine ⟨hs, c, (atI_nat _ 0).trans (by show (lab w)[0]? = _; rw [e]; rfl), ?_⟩
  show RNe (.str (sg c)) (.str (sg 48)) _
  rw [ne_str, sg_eq]
  refine ⟨_, rfl, ?_⟩
  have eh : decide ((lab w).head? = some 48) = decide (c = 48) := by
    rw [e]
    exact decide_eq_decide.mpr ⟨fun h => by cases h; rfl, fun h => by rw [h]; rfl⟩
  cases h5 : decide (c = 48) with
  | true =>
    rw [show numB w = false by unfold numB; rw [h1, h2, h3, h4, eh, h5]; rfl, if_neg (by decide)] at q
    rw [if_neg (by decide)]
    exact q
  | false =>
    rw [if_pos (by decide)]
    exact hn (by unfold numB; rw [h1, h2, h3, h4, eh, h5]; rfl)
end
theorem jjo (y : Str) (hy : 1 ≤ y.length) : ∀ l : List Str, l.length ≤ (Str.join y l).length + 1 ∧ ∀ p ∈ l, p.length ≤ (Str.join y l).length
  | [] => ⟨Nat.zero_le _, fun p h => by cases h⟩
  | [x] => ⟨by show 1 ≤ x.length + 1; omega, fun p h => by rw [List.mem_singleton.mp h]; exact Nat.le_refl _⟩
  | x :: z :: r => by
    obtain ⟨h1, h2⟩ := jjo y hy (z :: r)
    have e : (Str.join y (x :: z :: r)).length = x.length + y.length + (Str.join y (z :: r)).length := by
      show (x ++ y ++ Str.join y (z :: r)).length = _
      rw [Str.length_append, Str.length_append]
    rw [e]
    refine ⟨by rw [List.length_cons]; omega, fun p h => ?_⟩
    rcases List.mem_cons.mp h with rfl | h
    · omega
    · have := h2 p h
      omega
theorem jqR (x y : Str) (hy : 1 ≤ y.length) : (Txt.split x y).length ≤ x.length + 1 ∧ ∀ p ∈ Txt.split x y, p.length ≤ x.length := by
  have h := jjo y hy (Txt.split x y)
  rw [StrLaws.join_split] at h
  exact h
def numsF (z : Str) : Option (List Nat) := if z = "-" then some [] else (Txt.split z " ").mapM numF
def nI (l : List Nat) : List Int := l.map fun n : Nat => (n : Int)
def opN : Option (List Nat) → D
  | none => .non
  | some l => tupI (nI l)
theorem jub : ∀ {ws : List Str} {l : List Nat}, ws.mapM numF = some l → (ws.map fun w => opK (numF w)) = (nI l).map D.int
  | [], l, h => by cases h; rfl
  | w :: ws, l, h => by
    rw [List.mapM_cons] at h
    cases c : numF w with
    | none => rw [c] at h; cases h
    | some k =>
      rw [c] at h
      cases c2 : ws.mapM numF with
      | none => rw [c2] at h; cases h
      | some r =>
        rw [c2] at h
        cases h
        rw [List.map_cons, c, jub c2]
        rfl
theorem jsa : ∀ ws : List Str, ((ws.map fun w => opK (numF w)).any fun y => eqF y .non) = (ws.mapM numF).isNone
  | [] => rfl
  | w :: ws => by
    rw [List.map_cons, List.any_cons, jsa ws, List.mapM_cons]
    cases c : numF w with
    | none => rfl
    | some k =>
      cases c2 : ws.mapM numF with
      | none => rfl
      | some r => rfl
theorem opK_fl (ws : List Str) : (ws.map fun w => opK (numF w)).all flD = true := by
  rw [List.all_map, List.all_eq_true]
  intro w _
  show flD (opK (numF w)) = true
  cases numF w <;> rfl
section
variable {K : PySem.W.Frag} {A : Adr}
theorem jmA {z : Str} (hz : z.length ≤ 2000) {Q : D → Prop} {Z : ZX} (q : Q (opN (numsF z))) : jbW K A [.str z] Q Z := by
  have hs : z.length + 2 ≤ sizeLine := by rw [sizeLine_eq]; omega
  obtain ⟨hl, hw⟩ := jqR z " " (by decide)
  unfold jbW jhn
  simp only [fnS,Pu.startB,sSeq,sAsg,sIf,sRet,sNext,sNew,sApp,sPar,sDem,demB,fVar,fVarT,fC,fOp,fTst,fAnd,fOr,fNot,fNew,fLst,fTup,fNil,fCons,fSl,Pu.oAt,oNo,fCB,fCall,fIf,jaf,fRng1,fIt,fJoin,RLen,RI0,RAdd,RSl,RIsN,jag,gN,bD,jA,jB,jC,jD,jE,jF,jG,Nat.reduceSub,Nat.reduceAdd,jH,jI,jJ,jK,jL,jM,jN,jO,jP,jQ,jR,exists_eq_left',exists_eq_left,exists_and_left,ex_eq,true_and,and_true,jS,jT,jU,jV,jW,wipeB,lenD,itD,jX,jY,jZ,ja,if_true,if_false,ite_true,ite_false,jb,jc,and_assoc,jd,fLc,jty]
  rw [ne_str]
  refine ⟨_, rfl, ?_⟩
  unfold numsF at q
  by_cases h : z = "-"
  · rw [decide_eq_true h]
    rw [if_pos h] at q
    rw [if_neg (by decide)]
    refine ⟨Nat.zero_le _, ?_⟩
    refine .inl ⟨rfl, rfl, ?_⟩
    refine ⟨_, rfl, ?_⟩
    rw [if_neg (by decide)]
    exact ⟨_, rfl, q⟩
  · rw [decide_eq_false h]
    rw [if_neg h] at q
    rw [if_pos (by decide)]
    refine ⟨by decide, hs, by rw [sizeLine_eq]; omega, ?_⟩
    refine ⟨by rw [List.length_map, sizeLine_eq]; omega, ?_⟩
    refine jdJ (f := fun w => opK (numF w)) (Txt.split z " ") (fun w hm R r => ?_) ?_
    · simp only [fnS,Pu.startB,sSeq,sAsg,sIf,sRet,sNext,sNew,sApp,sPar,sDem,demB,fVar,fVarT,fC,fOp,fTst,fAnd,fOr,fNot,fNew,fLst,fTup,fNil,fCons,fSl,Pu.oAt,oNo,fCB,fCall,fIf,jaf,fRng1,fIt,fJoin,RLen,RI0,RAdd,RSl,RIsN,jag,gN,bD,jA,jB,jC,jD,jE,jF,jG,Nat.reduceSub,Nat.reduceAdd,jH,jI,jJ,jK,jL,jM,jN,jO,jP,jQ,jR,exists_eq_left',exists_eq_left,exists_and_left,ex_eq,true_and,and_true,jS,jT,jU,jV,jW,wipeB,lenD,itD,jX,jY,jZ,ja,if_true,if_false,ite_true,ite_false,jb,jc,and_assoc,jd]
      exact jua (by have := hw w hm; omega) r
    · refine .inl ⟨rfl, opK_fl _, ?_⟩
      rw [jsa]
      refine ⟨_, rfl, ?_⟩
      cases c : (Txt.split z " ").mapM numF with
      | none =>
        rw [c] at q
        exact q
      | some l =>
        rw [c] at q
        rw [if_neg (by simp)]
        refine ⟨_, rfl, ?_⟩
        rw [jub c]
        exact q
end
def ascI : List Int → Bool
  | a :: b :: l => decide (a < b) && ascI (b :: l)
  | _ => true
theorem juc : ∀ l : List Int, ((l.zip (l.drop 1)).map fun x => decide (x.1 < x.2)).all id = ascI l
  | [] => rfl
  | [a] => rfl
  | a :: b :: l => by
    show (decide (a < b) && (((b :: l).zip ((b :: l).drop 1)).map fun x => decide (x.1 < x.2)).all id) = _
    rw [juc (b :: l)]
    rfl
theorem cut1 (l : List Int) : Pu.cutD (l.map D.int) (some 1) none = (l.drop 1).map D.int := by
  unfold Pu.cutD
  rw [show (some (1 : Int)) = some ((1 : Nat) : Int) from rfl, HT.sIx_nat, HT.sIx_none, List.length_map]
  cases l with
  | nil => rfl
  | cons a l =>
    rw [List.length_cons, Nat.min_eq_left (by omega), List.take_of_length_le (by rw [List.length_drop, List.length_map, List.length_cons]; omega), List.map_drop]
def Big : Int := 10 ^ 60
theorem jwT : Big = 1000000000000000000000000000000000000000000000000000000000000 := by decide +kernel
def ascT : List (List Int) → Bool
  | a :: b :: l => ltI a b && ascT (b :: l)
  | _ => true
theorem jsb : ∀ l : List (List Int), ((l.zip (l.drop 1)).map fun x => ltI x.1 x.2).all id = ascT l
  | [] => rfl
  | [a] => rfl
  | a :: b :: l => by
    show (ltI a b && (((b :: l).zip ((b :: l).drop 1)).map fun x => ltI x.1 x.2).all id) = _
    rw [jsb (b :: l)]
    rfl
theorem jud (l : List (List Int)) : Pu.cutD (l.map tupI) (some 1) none = (l.drop 1).map tupI := by
  unfold Pu.cutD
  rw [show (some (1 : Int)) = some ((1 : Nat) : Int) from rfl, HT.sIx_nat, HT.sIx_none, List.length_map]
  cases l with
  | nil => rfl
  | cons a l =>
    rw [List.length_cons, Nat.min_eq_left (by omega), List.take_of_length_le (by rw [List.length_drop, List.length_map, List.length_cons]; omega), List.map_drop]
end K72
namespace K72
open PySem PySem.Spec PyProof.Rows L2 Ly Pu TM
mutual
/-- plain data, small -/
def plB : D → Bool
  | .non => true
  | .bl _ => true
  | .int _ => true
  | .str z => decide (z.length ≤ 1000)
  | .lst ds => decide (ds.length ≤ 100) && plBs ds
  | .tup ds => decide (ds.length ≤ 100) && plBs ds
  | .dic _ _ => true
  | _ => false
def plBs : List D → Bool
  | [] => true
  | d :: ds => plB d && plBs ds
end
theorem jsc : ∀ {ds : List D}, plBs ds = true → ∀ d ∈ ds, plB d = true
  | d :: ds, h, x, hx => by
    have h : (plB d && plBs ds) = true := h
    rw [Bool.and_eq_true] at h
    rcases List.mem_cons.mp hx with rfl | hx
    · exact h.1
    · exact jsc h.2 x hx
theorem jjp {ds : List D} (h : plB (.tup ds) = true) : ds.length ≤ 100 ∧ ∀ d ∈ ds, plB d = true := by
  have h : (decide (ds.length ≤ 100) && plBs ds) = true := h
  rw [Bool.and_eq_true] at h
  exact ⟨of_decide_eq_true h.1, jsc h.2⟩
theorem pl_ok {K : PySem.W.Frag} {d : D} (h : plB d = true) : okI K d := by
  cases d <;> first | exact True.intro | cases h
def iI : D → Bool
  | .int i => decide (-Big < i) && decide (i < Big)
  | _ => false
def wI (lo hi : Int) : D → Bool
  | .int i => (decide (-Big < i) && decide (i < Big)) && (decide (lo ≤ i) && decide (i ≤ hi))
  | _ => false
def nums : D → Bool
  | .tup ds => ds.all (wI 0 Big)
  | _ => false
def isT : D → Bool
  | .tup _ => true
  | _ => false
def toI : D → Int
  | .int i => i
  | _ => 0
def elsD : D → List D
  | .tup ds => ds
  | _ => []
def intsD (d : D) : List Int := (elsD d).map toI
def ris (d : D) : Bool := nums d && ascI (intsD d)
theorem jsd {d : D} (h : nums d = true) : d = .tup ((intsD d).map .int) := by
  cases d with
  | tup ds =>
    have h : ds.all (wI 0 Big) = true := h
    show D.tup ds = .tup ((ds.map toI).map .int)
    congr 1
    rw [List.map_map]
    have : ∀ l : List D, l.all (wI 0 Big) = true → l = l.map (D.int ∘ toI) := by
      intro l
      induction l with
      | nil => intro _; rfl
      | cons a l ih =>
        intro h
        rw [List.all_cons, Bool.and_eq_true] at h
        rw [List.map_cons, ← ih h.2]
        congr 1
        cases a <;> first | rfl | cases h.1
    exact this ds h
  | _ => cases h
section
variable {K : PySem.W.Frag} {A : Adr}
theorem is_int {d : D} (h : plB d = true) {Q : D → Prop} {Z : ZX} (q : Q (.bl (iI d))) : jbV K A [d] Q Z := by
  unfold jbV jhh
  simp only [fnS,Pu.startB,sSeq,sAsg,sIf,sRet,sNext,sNew,sApp,sPar,sDem,demB,fVar,fVarT,fC,fOp,fTst,fAnd,fOr,fNot,fNew,fLst,fTup,fNil,fCons,fSl,Pu.oAt,oNo,fCB,fCall,fIf,jaf,fRng1,fIt,fJoin,RLen,RI0,RAdd,RIx,RSl,RIsN,jag,RIn,gN,bD,jA,jB,jC,jD,jE,jF,jG,Nat.reduceSub,Nat.reduceAdd,jH,jI,jJ,jK,jL,jM,jN,jO,jP,jQ,jR,exists_eq_left',exists_eq_left,exists_and_left,ex_eq,true_and,and_true,jS,fIsi,fAndV,fNotV,fNeg]
  refine ⟨pl_ok h, ?_⟩
  cases d with
  | int i =>
    have q : Q (.bl (decide (-Big < i) && decide (i < Big))) := q
    rw [jwT] at q
    simp only [fnS,Pu.startB,sSeq,sAsg,sIf,sRet,sNext,sNew,sApp,sPar,sDem,demB,fVar,fVarT,fC,fOp,fTst,fAnd,fOr,fNot,fNew,fLst,fTup,fNil,fCons,fSl,Pu.oAt,oNo,fCB,fCall,fIf,jaf,fRng1,fIt,fJoin,RLen,RI0,RAdd,RIx,RSl,RIsN,jag,RIn,gN,bD,jA,jB,jC,jD,jE,jF,jG,Nat.reduceSub,Nat.reduceAdd,jH,jI,jJ,jK,jL,jM,jN,jO,jP,jQ,jR,exists_eq_left',exists_eq_left,exists_and_left,ex_eq,true_and,and_true,jS,kdD,kdIs,fIsi,fAndV,fNotV,fNeg,okI]
    rw [if_pos (by decide), if_pos (by decide)]
    by_cases h1 : -1000000000000000000000000000000000000000000000000000000000000 < i
    · rw [if_pos (decide_eq_true h1)]
      rw [decide_eq_true h1, Bool.true_and] at q
      exact q
    · rw [if_neg (by rw [decide_eq_false h1]; simp)]
      rw [decide_eq_false h1, Bool.false_and] at q
      exact q
  | bl b =>
    simp only [fnS,Pu.startB,sSeq,sAsg,sIf,sRet,sNext,sNew,sApp,sPar,sDem,demB,fVar,fVarT,fC,fOp,fTst,fAnd,fOr,fNot,fNew,fLst,fTup,fNil,fCons,fSl,Pu.oAt,oNo,fCB,fCall,fIf,jaf,fRng1,fIt,fJoin,RLen,RI0,RAdd,RIx,RSl,RIsN,jag,RIn,gN,bD,jA,jB,jC,jD,jE,jF,jG,Nat.reduceSub,Nat.reduceAdd,jH,jI,jJ,jK,jL,jM,jN,jO,jP,jQ,jR,exists_eq_left',exists_eq_left,exists_and_left,ex_eq,true_and,and_true,jS,kdD,kdIs,fIsi,fAndV,fNotV,fNeg,okI]
    rw [if_pos (by decide), if_neg (by decide)]
    exact q
  | _ =>
    first
      | cases h; done
      | exact q
theorem jwU {d : D} (h : plB d = true) {lo hi : Int} {Q : D → Prop} {Z : ZX} (q : Q (.bl (wI lo hi d))) : jbL K A [d, .int lo, .int hi] Q Z := by
  unfold jbL jiY
  simp only [fnS,Pu.startB,sSeq,sAsg,sIf,sRet,sNext,sNew,sApp,sPar,sDem,demB,fVar,fVarT,fC,fOp,fTst,fAnd,fOr,fNot,fNew,fLst,fTup,fNil,fCons,fSl,Pu.oAt,oNo,fCB,fCall,fIf,jaf,fRng1,fIt,fJoin,RLen,RI0,RAdd,RIx,RSl,RIsN,jag,RIn,gN,bD,jA,jB,jC,jD,jE,jF,jG,Nat.reduceSub,Nat.reduceAdd,jH,jI,jJ,jK,jL,jM,jN,jO,jP,jQ,jR,exists_eq_left',exists_eq_left,exists_and_left,ex_eq,true_and,and_true,jS,fIsi,fAndV,fNotV,fNeg]
  refine is_int h ?_
  cases d with
  | int i =>
    have q : Q (.bl ((decide (-Big < i) && decide (i < Big)) && (decide (lo ≤ i) && decide (i ≤ hi)))) := q
    refine ⟨_, rfl, ?_⟩
    show (if (decide (-Big < i) && decide (i < Big)) = true then _ else _)
    cases c : (decide (-Big < i) && decide (i < Big)) with
    | false =>
      rw [c] at q
      rw [if_neg (by simp)]
      exact q
    | true =>
      rw [c, Bool.true_and] at q
      rw [if_pos rfl]
      simp only [fnS,Pu.startB,sSeq,sAsg,sIf,sRet,sNext,sNew,sApp,sPar,sDem,demB,fVar,fVarT,fC,fOp,fTst,fAnd,fOr,fNot,fNew,fLst,fTup,fNil,fCons,fSl,Pu.oAt,oNo,fCB,fCall,fIf,jaf,fRng1,fIt,fJoin,RLen,RI0,RAdd,RIx,RSl,RIsN,jag,RIn,gN,bD,jA,jB,jC,jD,jE,jF,jG,Nat.reduceSub,Nat.reduceAdd,jH,jI,jJ,jK,jL,jM,jN,jO,jP,jQ,jR,exists_eq_left',exists_eq_left,exists_and_left,ex_eq,true_and,and_true,jS]
      by_cases h1 : lo ≤ i
      · rw [if_pos (decide_eq_true h1)]
        rw [decide_eq_true h1, Bool.true_and] at q
        exact q
      · rw [if_neg (by rw [decide_eq_false h1]; simp)]
        rw [decide_eq_false h1, Bool.false_and] at q
        exact q
  | _ => exact ⟨_, rfl, q⟩
theorem jey {d : D} (h : plB d = true) {Q : D → Prop} {Z : ZX} (q : Q (.bl (nums d))) : jaD K A [d] Q Z := by
  unfold jaD jfx
  simp only [fnS,Pu.startB,sSeq,sAsg,sIf,sRet,sNext,sNew,sApp,sPar,sDem,demB,fVar,fVarT,fC,fOp,fTst,fAnd,fOr,fNot,fNew,fLst,fTup,fNil,fCons,fSl,Pu.oAt,oNo,fCB,fCall,fIf,jaf,fRng1,fIt,fJoin,RLen,RI0,RAdd,RSl,RIsN,jag,gN,bD,jA,jB,jC,jD,jE,jF,jG,Nat.reduceSub,Nat.reduceAdd,jH,jI,jJ,jK,jL,jM,jN,jO,jP,jQ,jR,exists_eq_left',exists_eq_left,exists_and_left,ex_eq,true_and,and_true,jS,jT,jU,jV,jW,wipeB,lenD,itD,jX,jY,jZ,ja,if_true,if_false,ite_true,ite_false,jb,jc,and_assoc,jd,fIsi,fLc,RAll,fAndV]
  refine ⟨pl_ok h, ?_⟩
  cases d with
  | tup ds =>
    obtain ⟨hl, hm⟩ := jjp h
    rw [if_pos (show kdIs (kdD (D.tup ds)) "tuple" = true from rfl)]
    refine ⟨_, rfl, by rw [sizeLine_eq]; omega, ?_⟩
    have e : ds = ds.map id := (List.map_id ds).symm
    rw [e]
    refine jdJ (f := fun d => D.bl (wI 0 Big d)) ds (fun x hx R r => ?_) ?_
    · simp only [fnS,Pu.startB,sSeq,sAsg,sIf,sRet,sNext,sNew,sApp,sPar,sDem,demB,fVar,fVarT,fC,fOp,fTst,fAnd,fOr,fNot,fNew,fLst,fTup,fNil,fCons,fSl,Pu.oAt,oNo,fCB,fCall,fIf,jaf,fRng1,fIt,fJoin,RLen,RI0,RAdd,RSl,RIsN,jag,gN,bD,jA,jB,jC,jD,jE,jF,jG,Nat.reduceSub,Nat.reduceAdd,jH,jI,jJ,jK,jL,jM,jN,jO,jP,jQ,jR,exists_eq_left',exists_eq_left,exists_and_left,ex_eq,true_and,and_true,jS,jT,jU,jV,jW,wipeB,lenD,itD,jX,jY,jZ,ja,if_true,if_false,ite_true,ite_false,jb,jc,and_assoc,jd]
      rw [jwT] at r
      exact jwU (hm x hx) r
    · refine ⟨_, jcr _ _, ?_⟩
      rw [List.all_map]
      exact q
  | _ =>
    first
      | cases h; done
      | exact q
theorem jwV {d : D} (h : plB d = true) {Q : D → Prop} {Z : ZX} (q : Q (.bl (ris d))) : jbT K A [d] Q Z := by
  unfold jbT jjb
  simp only [fnS,Pu.startB,sSeq,sAsg,sIf,sRet,sNext,sNew,sApp,sPar,sDem,demB,fVar,fVarT,fC,fOp,fTst,fAnd,fOr,fNot,fNew,fLst,fTup,fNil,fCons,fSl,Pu.oAt,oNo,fCB,fCall,fIf,jaf,fRng1,fIt,fJoin,RLen,RI0,RAdd,RSl,RIsN,jag,gN,bD,jA,jB,jC,jD,jE,jF,jG,Nat.reduceSub,Nat.reduceAdd,jH,jI,jJ,jK,jL,jM,jN,jO,jP,jQ,jR,exists_eq_left',exists_eq_left,exists_and_left,ex_eq,true_and,and_true,jS,jT,jU,jV,jW,wipeB,lenD,itD,jX,jY,jZ,ja,if_true,if_false,ite_true,ite_false,jb,jc,and_assoc,jd,fLc,RAll,fZip,fAndV]
  refine jey h ?_
  have q2 : Q (.bl (nums d && ascI (intsD d))) := q
  clear q
  cases c : nums d with
  | false =>
    rw [c] at q2
    exact ⟨_, rfl, q2⟩
  | true =>
    rw [c, Bool.true_and] at q2
    have e := jsd c
    generalize intsD d = l at e q2
    subst e
    obtain ⟨hl, _⟩ := jjp h
    rw [List.length_map] at hl
    refine ⟨_, rfl, ?_⟩
    rw [if_pos rfl]
    simp only [fnS,Pu.startB,sSeq,sAsg,sIf,sRet,sNext,sNew,sApp,sPar,sDem,demB,fVar,fVarT,fC,fOp,fTst,fAnd,fOr,fNot,fNew,fLst,fTup,fNil,fCons,fSl,Pu.oAt,oNo,fCB,fCall,fIf,jaf,fRng1,fIt,fJoin,RLen,RI0,RAdd,RSl,RIsN,jag,gN,bD,jA,jB,jC,jD,jE,jF,jG,Nat.reduceSub,Nat.reduceAdd,jH,jI,jJ,jK,jL,jM,jN,jO,jP,jQ,jR,exists_eq_left',exists_eq_left,exists_and_left,ex_eq,true_and,and_true,jS,jT,jU,jV,jW,wipeB,lenD,itD,jX,jY,jZ,ja,if_true,if_false,ite_true,ite_false,jb,jc,and_assoc,jd]
    rw [cut1]
    refine ⟨_, _, .inr ⟨rfl, rfl⟩, ?_⟩
    rw [jjn]
    refine ⟨by rw [List.length_map, List.length_zip, sizeLine_eq]; omega, ?_⟩
    refine lc_g (p := fun _ => true) (f := fun x : Int × Int => D.bl (decide (x.1 < x.2))) (l.zip (l.drop 1)) (fun x hx => ⟨_, fun k hk => ⟨_, rfl, rfl, hk⟩, fun R r => r, fun _ R r => ?_⟩) ?_
    · simp only [fnS,Pu.startB,sSeq,sAsg,sIf,sRet,sNext,sNew,sApp,sPar,sDem,demB,fVar,fVarT,fC,fOp,fTst,fAnd,fOr,fNot,fNew,fLst,fTup,fNil,fCons,fSl,Pu.oAt,oNo,fCB,fCall,fIf,jaf,fRng1,fIt,fJoin,RLen,RI0,RAdd,RSl,RIsN,jag,gN,bD,jA,jB,jC,jD,jE,jF,jG,Nat.reduceSub,Nat.reduceAdd,jH,jI,jJ,jK,jL,jM,jN,jO,jP,jQ,jR,exists_eq_left',exists_eq_left,exists_and_left,ex_eq,true_and,and_true,jS,jT,jU,jV,jW,wipeB,lenD,itD,jX,jY,jZ,ja,if_true,if_false,ite_true,ite_false,jb,jc,and_assoc,jd]
      exact r
    · rw [List.filter_eq_self.mpr (fun _ _ => rfl)]
      refine ⟨_, jcr _ _, ?_⟩
      rw [juc]
      exact q2
end
end K72
namespace K72
open PySem PySem.Spec PyProof.Rows L2 Ly Pu TM
def stb : D → Bool
  | .tup [a, b] => ris a && (isT b && ((elsD b).all ris && ascT ((elsD b).map intsD)))
  | _ => false
theorem jse : ∀ {bs : List D}, bs.all ris = true → bs = (bs.map intsD).map tupI
  | [], _ => rfl
  | b :: bs, h => by
    rw [List.all_cons, Bool.and_eq_true] at h
    rw [List.map_cons, List.map_cons, ← jse h.2]
    have h1 := h.1
    unfold ris at h1
    rw [Bool.and_eq_true] at h1
    have e := jsd h1.1
    congr 1
section
variable {K : PySem.W.Frag} {A : Adr}
theorem is_st {d : D} (h : plB d = true) {Q : D → Prop} {Z : ZX} (q : Q (.bl (stb d))) : jbg K A [d] Q Z := by
  unfold jbg jeD
  have hk : ∀ ds, kdIs (kdD (D.tup ds)) "tuple" = true := fun _ => rfl
  simp only [fnS,Pu.startB,sSeq,sAsg,sIf,sRet,sNext,sNew,sApp,sPar,sDem,demB,fVar,fVarT,fC,fOp,fTst,fAnd,fOr,fNot,fNew,fLst,fTup,fNil,fCons,fSl,Pu.oAt,oNo,fCB,fCall,fIf,jaf,fRng1,fIt,fJoin,RLen,RI0,RAdd,RSl,RIsN,jag,gN,bD,jA,jB,jC,jD,jE,jF,jG,Nat.reduceSub,Nat.reduceAdd,jH,jI,jJ,jK,jL,jM,jN,jO,jP,jQ,jR,exists_eq_left',exists_eq_left,exists_and_left,ex_eq,true_and,and_true,jS,jT,jU,jV,jW,wipeB,lenD,itD,jX,jY,jZ,ja,if_true,if_false,ite_true,ite_false,jb,jc,and_assoc,jd,fIsi,fLc,RAll,fZip,fAndV]
  refine ⟨pl_ok h, ?_⟩
  cases d with
  | tup ds =>
    obtain ⟨hl, hm⟩ := jjp h
    rw [hk, if_neg (by decide)]
    refine ⟨_, rfl, ?_⟩
    match ds, hl, hm, h, q with
    | [], hl, hm, h, q => exact ⟨_, rfl, q⟩
    | [a], hl, hm, h, q => exact ⟨_, rfl, q⟩
    | a :: b :: c :: r, hl, hm, h, q =>
      have e : (!decide (((a :: b :: c :: r).length : Int) = 2)) = true := by
        rw [decide_eq_false (by simp only [List.length_cons]; omega)]
        rfl
      refine ⟨_, rfl, ?_⟩
      rw [if_pos e]
      exact q
    | [a, b], hl, hm, h, q =>
      have ha := hm a (by simp)
      have hb := hm b (by simp)
      have q2 : Q (.bl (ris a && (isT b && ((elsD b).all ris && ascT ((elsD b).map intsD))))) := q
      clear q
      refine ⟨_, rfl, ?_⟩
      rw [if_neg (show ¬ (!decide ((([a, b] : List D).length : Int) = 2)) = true by simp)]
      refine ⟨_, at0, ?_⟩
      refine jwV ha ⟨_, rfl, ?_⟩
      cases c : ris a with
      | false =>
        rw [c] at q2
        rw [if_pos (by rfl)]
        exact q2
      | true =>
        rw [c, Bool.true_and] at q2
        rw [if_neg (by decide)]
        refine ⟨_, at1, pl_ok hb, ?_⟩
        cases b with
        | tup bs =>
          rw [hk, if_neg (by decide)]
          obtain ⟨hl2, hm2⟩ := jjp hb
          have q3 : Q (.bl (bs.all ris && ascT (bs.map intsD))) := q2
          clear q2
          refine ⟨_, at1, _, rfl, by rw [sizeLine_eq]; omega, ?_⟩
          rw [show bs = bs.map id from (List.map_id bs).symm]
          refine jdJ (f := fun d => D.bl (ris d)) bs (fun x hx R r => ?_) ?_
          · simp only [fnS,Pu.startB,sSeq,sAsg,sIf,sRet,sNext,sNew,sApp,sPar,sDem,demB,fVar,fVarT,fC,fOp,fTst,fAnd,fOr,fNot,fNew,fLst,fTup,fNil,fCons,fSl,Pu.oAt,oNo,fCB,fCall,fIf,jaf,fRng1,fIt,fJoin,RLen,RI0,RAdd,RSl,RIsN,jag,gN,bD,jA,jB,jC,jD,jE,jF,jG,Nat.reduceSub,Nat.reduceAdd,jH,jI,jJ,jK,jL,jM,jN,jO,jP,jQ,jR,exists_eq_left',exists_eq_left,exists_and_left,ex_eq,true_and,and_true,jS,jT,jU,jV,jW,wipeB,lenD,itD,jX,jY,jZ,ja,if_true,if_false,ite_true,ite_false,jb,jc,and_assoc,jd]
            exact jwV (hm2 x hx) r
          refine ⟨_, jcr _ bs, ?_⟩
          rw [show (bs.map ris).all id = bs.all ris by rw [List.all_map]; rfl]
          cases c2 : bs.all ris with
          | false =>
            rw [c2] at q3
            rw [if_pos (by rfl)]
            exact q3
          | true =>
            rw [c2, Bool.true_and] at q3
            rw [if_neg (by decide)]
            rw [List.map_id]
            refine ⟨_, at1, _, at1, ?_⟩
            have e := jse c2
            have hn : (bs.map intsD).length ≤ 100 := by rw [List.length_map]; exact hl2
            generalize bs.map intsD = l at e q3 hn
            subst e
            simp only [fnS,Pu.startB,sSeq,sAsg,sIf,sRet,sNext,sNew,sApp,sPar,sDem,demB,fVar,fVarT,fC,fOp,fTst,fAnd,fOr,fNot,fNew,fLst,fTup,fNil,fCons,fSl,Pu.oAt,oNo,fCB,fCall,fIf,jaf,fRng1,fIt,fJoin,RLen,RI0,RAdd,RSl,RIsN,jag,gN,bD,jA,jB,jC,jD,jE,jF,jG,Nat.reduceSub,Nat.reduceAdd,jH,jI,jJ,jK,jL,jM,jN,jO,jP,jQ,jR,exists_eq_left',exists_eq_left,exists_and_left,ex_eq,true_and,and_true,jS,jT,jU,jV,jW,wipeB,lenD,itD,jX,jY,jZ,ja,if_true,if_false,ite_true,ite_false,jb,jc,and_assoc,jd]
            rw [jud]
            refine ⟨_, _, .inr ⟨rfl, rfl⟩, ?_⟩
            rw [jjn]
            refine ⟨by rw [List.length_map, List.length_zip, sizeLine_eq]; omega, ?_⟩
            refine lc_g (p := fun _ => true) (f := fun x : List Int × List Int => D.bl (ltI x.1 x.2)) (l.zip (l.drop 1)) (fun x hx => ⟨_, fun k hk => ⟨_, rfl, rfl, hk⟩, fun R r => r, fun _ R r => ?_⟩) ?_
            · simp only [fnS,Pu.startB,sSeq,sAsg,sIf,sRet,sNext,sNew,sApp,sPar,sDem,demB,fVar,fVarT,fC,fOp,fTst,fAnd,fOr,fNot,fNew,fLst,fTup,fNil,fCons,fSl,Pu.oAt,oNo,fCB,fCall,fIf,jaf,fRng1,fIt,fJoin,RLen,RI0,RAdd,RSl,RIsN,jag,gN,bD,jA,jB,jC,jD,jE,jF,jG,Nat.reduceSub,Nat.reduceAdd,jH,jI,jJ,jK,jL,jM,jN,jO,jP,jQ,jR,exists_eq_left',exists_eq_left,exists_and_left,ex_eq,true_and,and_true,jS,jT,jU,jV,jW,wipeB,lenD,itD,jX,jY,jZ,ja,if_true,if_false,ite_true,ite_false,jb,jc,and_assoc,jd]
              exact ⟨x.1, x.2, rfl, rfl, r⟩
            · rw [List.filter_eq_self.mpr (fun _ _ => rfl)]
              refine ⟨_, jcr _ _, ?_⟩
              rw [jsb]
              exact q3
        | _ =>
          first
            | cases hb; done
            | exact q2
  | _ =>
    first
      | cases h; done
      | exact q
end
end K72
namespace K72
open PySem PySem.Spec PyProof.Rows L2 Ly Pu TM
theorem in_let (c : Nat) : (!(Builtin.Str.occurrences "abcdefghijklmnopqrstuvwxyz" ⟨#[c]⟩ 0 ("abcdefghijklmnopqrstuvwxyz" : Str).length 1).isEmpty) = isL c := StrLaws.found_one _ c
section
variable {K : PySem.W.Frag} {A : Adr}
theorem jpc {d : D} (h : plB d = true) (hd : ∀ ks ds, d ≠ .dic ks ds) {Q : D → Prop} {Z : ZX} (q : Q (.bl false)) : jai K A [d] Q Z := by
  unfold jai jbQ
  simp only [fnS,Pu.startB,sSeq,sAsg,sIf,sRet,sNext,sNew,sApp,sPar,sDem,demB,fVar,fVarT,fC,fOp,fTst,fAnd,fOr,fNot,fNew,fLst,fTup,fNil,fCons,fSl,Pu.oAt,oNo,fCB,fCall,fIf,jaf,fRng1,fIt,fJoin,RLen,RI0,RAdd,RSl,RIsN,jag,gN,bD,jA,jB,jC,jD,jE,jF,jG,Nat.reduceSub,Nat.reduceAdd,jH,jI,jJ,jK,jL,jM,jN,jO,jP,jQ,jR,exists_eq_left',exists_eq_left,exists_and_left,ex_eq,true_and,and_true,jS,jT,jU,jV,jW,wipeB,lenD,itD,jX,jY,jZ,ja,if_true,if_false,ite_true,ite_false,jb,jc,and_assoc,jd,fLc,RAll,fAndV,fOrE,fIsiT,jmw]
  refine .inl ⟨?_, ?_⟩
  · cases d <;> first | exact True.intro | cases h
  · cases d with
    | dic ks ds => exact absurd rfl (hd ks ds)
    | _ =>
      first
        | cases h; done
        | exact q
theorem jgC {ks : List (List Key)} {ds : List D} (hk : ks.length ≤ 10) (hkl : ∀ k ∈ ks, k.length ≤ 10 ∧ plB (.tup (k.map kD)) = true) (hl : ds.length ≤ 10) (hds : ∀ d ∈ ds, plB d = true) {Q : D → Prop} {Z : ZX}
    (q : Q (.bl ((ks.all fun k => nums (.tup (k.map kD)) && decide (k.length = 2)) && ds.all stb))) : jai K A [.dit ks ds] Q Z := by
  unfold jai jbQ
  simp only [fnS,Pu.startB,sSeq,sAsg,sIf,sRet,sNext,sNew,sApp,sPar,sDem,demB,fVar,fVarT,fC,fOp,fTst,fAnd,fOr,fNot,fNew,fLst,fTup,fNil,fCons,fSl,Pu.oAt,oNo,fCB,fCall,fIf,jaf,fRng1,fIt,fJoin,RLen,RI0,RAdd,RSl,RIsN,jag,gN,bD,jA,jB,jC,jD,jE,jF,jG,Nat.reduceSub,Nat.reduceAdd,jH,jI,jJ,jK,jL,jM,jN,jO,jP,jQ,jR,exists_eq_left',exists_eq_left,exists_and_left,ex_eq,true_and,and_true,jS,jT,jU,jV,jW,wipeB,lenD,itD,jX,jY,jZ,ja,if_true,if_false,ite_true,ite_false,jb,jc,and_assoc,jd,fLc,RAll,fAndV,fOrE,fIsiT,jmw,fOrA,fDwT]
  refine .inl ⟨True.intro, ?_⟩
  rw [if_neg (show ¬ (!kdIs (kdT (D.dit ks ds)) "dict") = true by exact (show ¬ (!kdIs .dic "dict") = true by decide))]
  refine .inl ⟨ks, ds, rfl, fun k hk => by have := (hkl k hk).1; rw [sizeLine_eq]; omega, by rw [List.length_map, sizeLine_eq]; omega, ?_⟩
  refine jdJ (h := fun k => D.tup (k.map kD)) (f := fun k : List Key => D.bl (nums (.tup (k.map kD)) && decide (k.length = 2))) ks (fun k hk R r => ?_) ?_
  · simp only [fnS,Pu.startB,sSeq,sAsg,sIf,sRet,sNext,sNew,sApp,sPar,sDem,demB,fVar,fVarT,fC,fOp,fTst,fAnd,fOr,fNot,fNew,fLst,fTup,fNil,fCons,fSl,Pu.oAt,oNo,fCB,fCall,fIf,jaf,fRng1,fIt,fJoin,RLen,RI0,RAdd,RSl,RIsN,jag,gN,bD,jA,jB,jC,jD,jE,jF,jG,Nat.reduceSub,Nat.reduceAdd,jH,jI,jJ,jK,jL,jM,jN,jO,jP,jQ,jR,exists_eq_left',exists_eq_left,exists_and_left,ex_eq,true_and,and_true,jS,jT,jU,jV,jW,wipeB,lenD,itD,jX,jY,jZ,ja,if_true,if_false,ite_true,ite_false,jb,jc,and_assoc,jd,fAndV,lenD]
    refine jey (hkl k hk).2 ⟨_, rfl, ?_⟩
    cases c : nums (.tup (k.map kD)) with
    | false =>
      rw [c] at r
      exact r
    | true =>
      rw [c, Bool.true_and] at r
      rw [if_pos rfl]
      show R (.bl (decide (((k.map kD).length : Int) = 2)))
      rw [List.length_map]
      have e : decide ((k.length : Int) = 2) = decide (k.length = 2) := decide_eq_decide.mpr (by omega)
      rw [e]
      exact r
  refine ⟨_, jcr _ ks, ?_⟩
  rw [List.all_map]
  have q2 : Q (.bl ((ks.all (id ∘ fun k : List Key => nums (.tup (k.map kD)) && decide (k.length = 2))) && ds.all stb)) := q
  clear q
  cases c : ks.all (id ∘ fun k : List Key => nums (.tup (k.map kD)) && decide (k.length = 2)) with
  | false =>
    rw [c] at q2
    rw [if_pos (by rfl)]
    exact q2
  | true =>
    rw [c, Bool.true_and] at q2
    rw [if_neg (by decide)]
    refine ⟨ks, ds, rfl, by rw [sizeLine_eq]; omega, ?_⟩
    rw [show ds = ds.map id from (List.map_id ds).symm]
    refine jdJ (f := fun d => D.bl (stb d)) ds (fun x hx R r => ?_) ?_
    · simp only [fnS,Pu.startB,sSeq,sAsg,sIf,sRet,sNext,sNew,sApp,sPar,sDem,demB,fVar,fVarT,fC,fOp,fTst,fAnd,fOr,fNot,fNew,fLst,fTup,fNil,fCons,fSl,Pu.oAt,oNo,fCB,fCall,fIf,jaf,fRng1,fIt,fJoin,RLen,RI0,RAdd,RSl,RIsN,jag,gN,bD,jA,jB,jC,jD,jE,jF,jG,Nat.reduceSub,Nat.reduceAdd,jH,jI,jJ,jK,jL,jM,jN,jO,jP,jQ,jR,exists_eq_left',exists_eq_left,exists_and_left,ex_eq,true_and,and_true,jS,jT,jU,jV,jW,wipeB,lenD,itD,jX,jY,jZ,ja,if_true,if_false,ite_true,ite_false,jb,jc,and_assoc,jd]
      exact is_st (hds x hx) r
    · refine ⟨_, jcr _ _, ?_⟩
      rw [List.all_map]
      exact q2
theorem jxJ {i : Int} {v : D} {Q : D → Prop} {Z : ZX} (q : Q (.bl false)) : jai K A [.dic [.inl i] [v]] Q Z := by
  unfold jai jbQ
  simp only [fnS,Pu.startB,sSeq,sAsg,sIf,sRet,sNext,sNew,sApp,sPar,sDem,demB,fVar,fVarT,fC,fOp,fTst,fAnd,fOr,fNot,fNew,fLst,fTup,fNil,fCons,fSl,Pu.oAt,oNo,fCB,fCall,fIf,jaf,fRng1,fIt,fJoin,RLen,RI0,RAdd,RSl,RIsN,jag,gN,bD,jA,jB,jC,jD,jE,jF,jG,Nat.reduceSub,Nat.reduceAdd,jH,jI,jJ,jK,jL,jM,jN,jO,jP,jQ,jR,exists_eq_left',exists_eq_left,exists_and_left,ex_eq,true_and,and_true,jS,jT,jU,jV,jW,wipeB,lenD,itD,jX,jY,jZ,ja,if_true,if_false,ite_true,ite_false,jb,jc,and_assoc,jd,fLc,RAll,fAndV,fOrE,fIsiT,jmw,fOrA,fDw]
  refine .inl ⟨True.intro, ?_⟩
  rw [if_neg (show ¬ (!kdIs (kdT (D.dic [Sum.inl i] [v])) "dict") = true from (show ¬ (!kdIs .dic "dict") = true by decide))]
  refine .inr (.inl ⟨by rw [sizeLine_eq]; decide, ?_⟩)
  refine ⟨_, rfl, rfl, jey (d := .int i) rfl ⟨_, rfl, ?_⟩⟩
  rw [if_neg (show ¬ nums (D.int i) = true by simp [nums])]
  refine ⟨_, rfl, ?_⟩
  rw [if_pos (by rfl)]
  exact q
theorem tab_od {o : Obj} {i : Int} {b : Bool} {v : D} {Q : D → Prop} {Z : ZX} (q : Q (.bl false)) : jai K A [.xt (OdT o) [.tup [.int i, .bl b], v]] Q Z := by
  unfold jai jbQ
  simp only [fnS,Pu.startB,sSeq,sAsg,sIf,sRet,sNext,sNew,sApp,sPar,sDem,demB,fVar,fVarT,fC,fOp,fTst,fAnd,fOr,fNot,fNew,fLst,fTup,fNil,fCons,fSl,Pu.oAt,oNo,fCB,fCall,fIf,jaf,fRng1,fIt,fJoin,RLen,RI0,RAdd,RSl,RIsN,jag,gN,bD,jA,jB,jC,jD,jE,jF,jG,Nat.reduceSub,Nat.reduceAdd,jH,jI,jJ,jK,jL,jM,jN,jO,jP,jQ,jR,exists_eq_left',exists_eq_left,exists_and_left,ex_eq,true_and,and_true,jS,jT,jU,jV,jW,wipeB,lenD,itD,jX,jY,jZ,ja,if_true,if_false,ite_true,ite_false,jb,jc,and_assoc,jd,fLc,RAll,fAndV,fOrE,fIsiT,jmw,fOrA,fItOd]
  refine .inr ⟨o, _, rfl, ?_⟩
  refine .inr (.inr ⟨o, _, _, rfl, by rw [sizeLine_eq]; decide, ?_⟩)
  refine ⟨_, rfl, rfl, jey (d := .tup [.int i, .bl b]) rfl ⟨_, rfl, ?_⟩⟩
  rw [if_neg (by simp [nums, wI])]
  refine ⟨_, rfl, ?_⟩
  rw [if_pos (by simp [nums, wI])]
  exact q
def wdB : D → Bool
  | .str z => isW (.str z)
  | _ => false
def sgB : D → Bool
  | .str z => isW (.str z) || (Str.ofString "_" == z || (Str.ofString "#" == z || false))
  | _ => false
def rwB (at_ : Nat) : D → Bool
  | .tup [a, b] => sgB a && (isT b && (decide ((elsD b).length ≤ 3) && (elsD b).all (wI 0 ((at_ : Int) - 1))))
  | _ => false
theorem is_w {d : D} (h : plB d = true) {Q : D → Prop} {Z : ZX} (q : Q (.bl (wdB d))) : jcy K A [d] Q Z := by
  cases d with
  | str z =>
    have hz : z.length ≤ 1000 := of_decide_eq_true h
    have hs : z.length ≤ sizeLine := by rw [sizeLine_eq]; omega
    unfold jcy jiZ
    simp only [fnS,Pu.startB,sSeq,sAsg,sIf,sRet,sNext,sNew,sApp,sPar,sDem,demB,fVar,fVarT,fC,fOp,fTst,fAnd,fOr,fNot,fNew,fLst,fTup,fNil,fCons,fSl,Pu.oAt,oNo,fCB,fCall,fIf,jaf,fRng1,fIt,fJoin,RLen,RI0,RAdd,RIx,RSl,RIsN,jag,RIn,gN,bD,jA,jB,jC,jD,jE,jF,jG,Nat.reduceSub,Nat.reduceAdd,jH,jI,jJ,jK,jL,jM,jN,jO,jP,jQ,jR,exists_eq_left',exists_eq_left,exists_and_left,ex_eq,true_and,and_true,jS,fIsi,fAndV,fNotV,fNeg,okI,kdD,kdIs,jvN hs,RAll,fLc,itD]
    have q2 : Q (.bl ((decide (1 ≤ (z.length : Int)) && decide ((z.length : Int) ≤ 8)) && z.cps.toList.all fun c => decide (c ∈ jqJ))) := q
    clear q
    rw [if_pos (by decide)]
    by_cases h1 : 1 ≤ (z.length : Int)
    · rw [if_pos (decide_eq_true h1)]
      rw [decide_eq_true h1, Bool.true_and] at q2
      by_cases h2 : (z.length : Int) ≤ 8
      · rw [if_pos (decide_eq_true h2)]
        rw [decide_eq_true h2, Bool.true_and] at q2
        refine ⟨_, if_pos hs, by rw [jiM, List.length_map, Array.length_toList]; exact hs, ?_⟩
        refine jdJ (f := fun c => .bl (isL c)) z.cps.toList (fun c _ R r => ?_) ?_
        · simp only [fnS,Pu.startB,sSeq,sAsg,sIf,sRet,sNext,sNew,sApp,sPar,sDem,demB,fVar,fVarT,fC,fOp,fTst,fAnd,fOr,fNot,fNew,fLst,fTup,fNil,fCons,fSl,Pu.oAt,oNo,fCB,fCall,fIf,jaf,fRng1,fIt,fJoin,RLen,RI0,RAdd,RIx,RSl,RIsN,jag,RIn,gN,bD,jA,jB,jC,jD,jE,jF,jG,Nat.reduceSub,Nat.reduceAdd,jH,jI,jJ,jK,jL,jM,jN,jO,jP,jQ,jR,exists_eq_left',exists_eq_left,exists_and_left,ex_eq,true_and,and_true,jS,wipeB,Bool.false_bne,in_let]
          exact r
        · refine ⟨_, jcr isL _, ?_⟩
          rw [List.all_map]
          exact q2
      · rw [if_neg (by rw [decide_eq_false h2]; simp)]
        rw [decide_eq_false h2, Bool.false_and] at q2
        exact q2
    · rw [if_neg (by rw [decide_eq_false h1]; simp), if_neg (by simp)]
      rw [decide_eq_false h1, Bool.false_and, Bool.false_and] at q2
      exact q2
  | _ =>
    first
      | cases h; done
      | (unfold jcy jiZ
         simp only [fnS,Pu.startB,sSeq,sAsg,sIf,sRet,sNext,sNew,sApp,sPar,sDem,demB,fVar,fVarT,fC,fOp,fTst,fAnd,fOr,fNot,fNew,fLst,fTup,fNil,fCons,fSl,Pu.oAt,oNo,fCB,fCall,fIf,jaf,fRng1,fIt,fJoin,RLen,RI0,RAdd,RIx,RSl,RIsN,jag,RIn,gN,bD,jA,jB,jC,jD,jE,jF,jG,Nat.reduceSub,Nat.reduceAdd,jH,jI,jJ,jK,jL,jM,jN,jO,jP,jQ,jR,exists_eq_left',exists_eq_left,exists_and_left,ex_eq,true_and,and_true,jS,fIsi,fAndV,fNotV,fNeg,RAll,fLc]
         exact ⟨True.intro, q⟩)
theorem is_sg {d : D} (h : plB d = true) {Q : D → Prop} {Z : ZX} (q : Q (.bl (sgB d))) : jdj K A [d] Q Z := by
  unfold jdj joX
  simp only [fnS,Pu.startB,sSeq,sAsg,sIf,sRet,sNext,sNew,sApp,sPar,sDem,demB,fVar,fVarT,fC,fOp,fTst,fAnd,fOr,fNot,fNew,fLst,fTup,fNil,fCons,fSl,Pu.oAt,oNo,fCB,fCall,fIf,jaf,fRng1,fIt,fJoin,RLen,RI0,RAdd,RIx,RSl,RIsN,jag,RIn,gN,bD,jA,jB,jC,jD,jE,jF,jG,Nat.reduceSub,Nat.reduceAdd,jH,jI,jJ,jK,jL,jM,jN,jO,jP,jQ,jR,exists_eq_left',exists_eq_left,exists_and_left,ex_eq,true_and,and_true,jS,fIsi,fAndV,fOrV]
  refine is_w h ?_
  cases d with
  | str z =>
    have q2 : Q (.bl (isW (.str z) || (Str.ofString "_" == z || (Str.ofString "#" == z || false)))) := q
    clear q
    refine ⟨_, rfl, ?_⟩
    show (if isW (.str z) = true then _ else _)
    cases c : isW (.str z) with
    | true =>
      rw [c] at q2
      exact q2
    | false =>
      rw [c, Bool.false_or] at q2
      rw [if_neg (by simp)]
      refine ⟨True.intro, ?_⟩
      rw [if_pos (show kdIs (kdD (D.str z)) "str" = true from rfl)]
      refine ⟨by rw [sizeLine_eq]; decide, rfl, rfl, ?_⟩
      rw [Bool.false_bne]
      exact q2
  | _ =>
    first
      | cases h; done
      | exact ⟨_, rfl, True.intro, q⟩
theorem is_rw {d : D} (h : plB d = true) {n : Nat} {Q : D → Prop} {Z : ZX} (q : Q (.bl (rwB n d))) : jbU K A [d, .int (n : Int)] Q Z := by
  have hk : ∀ ds, kdIs (kdD (D.tup ds)) "tuple" = true := fun _ => rfl
  unfold jbU jji
  simp only [fnS,Pu.startB,sSeq,sAsg,sIf,sRet,sNext,sNew,sApp,sPar,sDem,demB,fVar,fVarT,fC,fOp,fTst,fAnd,fOr,fNot,fNew,fLst,fTup,fNil,fCons,fSl,Pu.oAt,oNo,fCB,fCall,fIf,jaf,fRng1,fIt,fJoin,RLen,RI0,RAdd,RSl,RIsN,jag,gN,bD,jA,jB,jC,jD,jE,jF,jG,Nat.reduceSub,Nat.reduceAdd,jH,jI,jJ,jK,jL,jM,jN,jO,jP,jQ,jR,exists_eq_left',exists_eq_left,exists_and_left,ex_eq,true_and,and_true,jS,jT,jU,jV,jW,wipeB,lenD,itD,jX,jY,jZ,ja,if_true,if_false,ite_true,ite_false,jb,jc,and_assoc,jd,fIsi,fLc,RAll,fAndV]
  refine ⟨pl_ok h, ?_⟩
  cases d with
  | tup ds =>
    obtain ⟨hl, hm⟩ := jjp h
    rw [hk, if_neg (by decide)]
    refine ⟨_, rfl, ?_⟩
    match ds, hl, hm, h, q with
    | [], hl, hm, h, q => exact ⟨_, rfl, q⟩
    | [a], hl, hm, h, q => exact ⟨_, rfl, q⟩
    | a :: b :: c :: r, hl, hm, h, q =>
      have e : (!decide (((a :: b :: c :: r).length : Int) = 2)) = true := by
        rw [decide_eq_false (by simp only [List.length_cons]; omega)]
        rfl
      refine ⟨_, rfl, ?_⟩
      rw [if_pos e]
      exact q
    | [a, b], hl, hm, h, q =>
      have ha := hm a (by simp)
      have hb := hm b (by simp)
      have q2 : Q (.bl (sgB a && (isT b && (decide ((elsD b).length ≤ 3) && (elsD b).all (wI 0 ((n : Int) - 1)))))) := q
      clear q
      refine ⟨_, rfl, ?_⟩
      rw [if_neg (show ¬ (!decide ((([a, b] : List D).length : Int) = 2)) = true by simp)]
      refine ⟨_, at0, ?_⟩
      refine is_sg ha ⟨_, rfl, ?_⟩
      cases c : sgB a with
      | false =>
        rw [c] at q2
        rw [if_pos (by rfl)]
        exact q2
      | true =>
        rw [c, Bool.true_and] at q2
        rw [if_neg (by decide)]
        refine ⟨_, at1, ?_⟩
        refine ⟨pl_ok hb, ?_⟩
        cases b with
        | tup bs =>
          rw [hk, if_pos rfl]
          obtain ⟨hl2, hm2⟩ := jjp hb
          have q3 : Q (.bl (decide (bs.length ≤ 3) && bs.all (wI 0 ((n : Int) - 1)))) := q2
          clear q2
          refine ⟨_, rfl, ?_⟩
          have e : decide ((bs.length : Int) ≤ 3) = decide (bs.length ≤ 3) := decide_eq_decide.mpr (by omega)
          rw [e]
          cases c3 : decide (bs.length ≤ 3) with
          | false =>
            rw [c3] at q3
            exact q3
          | true =>
            rw [c3, Bool.true_and] at q3
            rw [if_pos rfl]
            refine ⟨_, rfl, by rw [sizeLine_eq]; omega, ?_⟩
            rw [show bs = bs.map id from (List.map_id bs).symm]
            refine jdJ (f := fun d => D.bl (wI 0 ((n : Int) - 1) d)) bs (fun x hx R r => ?_) ?_
            · simp only [fnS,Pu.startB,sSeq,sAsg,sIf,sRet,sNext,sNew,sApp,sPar,sDem,demB,fVar,fVarT,fC,fOp,fTst,fAnd,fOr,fNot,fNew,fLst,fTup,fNil,fCons,fSl,Pu.oAt,oNo,fCB,fCall,fIf,jaf,fRng1,fIt,fJoin,RLen,RI0,RAdd,RSl,RIsN,jag,gN,bD,jA,jB,jC,jD,jE,jF,jG,Nat.reduceSub,Nat.reduceAdd,jH,jI,jJ,jK,jL,jM,jN,jO,jP,jQ,jR,exists_eq_left',exists_eq_left,exists_and_left,ex_eq,true_and,and_true,jS,jT,jU,jV,jW,wipeB,lenD,itD,jX,jY,jZ,ja,if_true,if_false,ite_true,ite_false,jb,jc,and_assoc,jd]
              exact jwU (hm2 x hx) r
            refine ⟨_, jcr _ bs, ?_⟩
            rw [List.all_map]
            exact q3
        | _ =>
          first
            | cases hb; done
            | exact q2
  | _ =>
    first
      | cases h; done
      | exact q
end
end K72
namespace K72
open PySem PySem.Spec PyProof.Rows L2 Ly Pu LamX
section
variable {P : Program} {w : World} {K : PySem.W.Frag} {mg : Str → Option Value} {base : Heap} {A : Adr}
abbrev s_met : Stmt := top 116
abbrev jpd : List Str := ["_law_call", "error"]
abbrev jwW : List Str := ["_law_call"]
theorem jcw : FnScope jpd jwW (defScope s_met) := ⟨rfl, rfl, rfl, by decide +kernel, rfl, by decide +kernel, by decide +kernel⟩
def S_met (K : PySem.W.Frag) (A : Adr) (R : RB) : FS :=
  (sSeq (sTry K (sGotX R) [⟨A.cInvalidTable, none, fun x a cls d => (sRet (fC (.str "table")))⟩, ⟨A.cInvalidRows, none, fun x a cls d => (sRet (fC (.str "rows")))⟩, ⟨A.cInvalidProgram, none, fun x a cls d => (sRet (fC (.str "program")))⟩, ⟨A.cInvalidOperation, none, fun x a cls d => (sRet (fC (.str "operation")))⟩, ⟨A.cParseError, some 1, fun x a cls d => (sRet (fOp RAdd (fC (.str "parse ")) (fCB jiU (fCons (fXf cls d A.cParseError a "line" (fVar 1)) fNil))))⟩]) (sRet (fC (.str "fine"))))
theorem jvO (T : Txt K mg) (X_ParseError_line : ErF K A.cParseError "line") (g_ParseError : mg "ParseError" = some (.ref A.cParseError)) (g_InvalidOperation : mg "InvalidOperation" = some (.ref A.cInvalidOperation)) (g_InvalidProgram : mg "InvalidProgram" = some (.ref A.cInvalidProgram)) (g_InvalidRows : mg "InvalidRows" = some (.ref A.cInvalidRows)) (g_InvalidTable : mg "InvalidTable" = some (.ref A.cInvalidTable)) {q : Str} (g : Addr) (cdg : Value) (Ar : Around) (gd : Ar.guards = some []) (hrX : ∀ env, Room 1 (Ar.deeper env)) (sk : List PySem.Env) (f c' : Addr) (s : Shared) (H : Hp) (tl : XK → Hp → VK → Prop) (R : RB) (Wc : Hp)
    (act : ∀ (E : XK) (pn : List (Addr × Obj)) (xe : Value → Shared → Prop), Takes ((cxOf C8.CX0 P w K mg base jpd "_law_met" (defScope s_met) g cdg Ar sk s H C8.E0).tr pn xe) (fun cls d _ H => E cls d H) → GotA ((cxOf C8.CX0 P w K mg base jpd "_law_met" (defScope s_met) g cdg Ar sk s H C8.E0).tr pn xe) f c' q "_law_call" tl E) (lam : LamR K Wc H R tl) :
    PSs (cxOf C8.CX0 P w K mg base jpd "_law_met" (defScope s_met) g cdg Ar sk s H C8.E0).nox (defBody s_met) (fun Dh σ H' => GotP f c' q σ H' ∧ tDS K Wc H C8.E0 (S_met K A R) Dh σ H') := by
  have nd := jcw.nd
  have hr := hrX (envOfC "_law_met" (defScope s_met) s.heap.objs.size g cdg)
  exact d_seqP (d_tryP rfl rfl nd LamX.takes0 (fun E' pn xe tk po => pss_one (d_gotX (act E' pn xe tk) lam)) (.cons (q := ⟨A.cInvalidTable, none, fun x a cls d => (sRet (fC (.str "table")))⟩) ⟨rfl, rfl, Or.inl g_InvalidTable⟩ trivial (fun a ob cls d pn hz hf x => (jaR (d_ret (d_str pe_str)))) (.cons (q := ⟨A.cInvalidRows, none, fun x a cls d => (sRet (fC (.str "rows")))⟩) ⟨rfl, rfl, Or.inl g_InvalidRows⟩ trivial (fun a ob cls d pn hz hf x => (jaR (d_ret (d_str pe_str)))) (.cons (q := ⟨A.cInvalidProgram, none, fun x a cls d => (sRet (fC (.str "program")))⟩) ⟨rfl, rfl, Or.inl g_InvalidProgram⟩ trivial (fun a ob cls d pn hz hf x => (jaR (d_ret (d_str pe_str)))) (.cons (q := ⟨A.cInvalidOperation, none, fun x a cls d => (sRet (fC (.str "operation")))⟩) ⟨rfl, rfl, Or.inl g_InvalidOperation⟩ trivial (fun a ob cls d pn hz hf x => (jaR (d_ret (d_str pe_str)))) (.cons (q := ⟨A.cParseError, some 1, fun x a cls d => (sRet (fOp RAdd (fC (.str "parse ")) (fCB jiU (fCons (fXf cls d A.cParseError a "line" (fVar 1)) fNil))))⟩) ⟨rfl, rfl, Or.inl g_ParseError⟩ ⟨rfl, rfl⟩ (fun a ob cls d pn hz hf x => (jaR (d_ret (d_op (jgt (K := K)) s_add (d_t (d_str pe_str)) (d_t (d_cb (jvK (K := K) gd hr.units) jvL (by rfl) T.z_repr (by decide +kernel) (jaE (d_t (d_xf (K := K) X_ParseError_line.xf X_ParseError_line.no hz hf (d_var (pv 1)))) jby))))))) .nil)))))) (jaR (d_ret (d_str pe_str)))
theorem jbl {X : Cx} (T : Txt X.K X.mg) (X_ParseError_line : ErF X.K A.cParseError "line") (g_ParseError : X.mg "ParseError" = some (.ref A.cParseError)) (g_InvalidOperation : X.mg "InvalidOperation" = some (.ref A.cInvalidOperation)) (g_InvalidProgram : X.mg "InvalidProgram" = some (.ref A.cInvalidProgram)) (g_InvalidRows : X.mg "InvalidRows" = some (.ref A.cInvalidRows)) (g_InvalidTable : X.mg "InvalidTable" = some (.ref A.cInvalidTable)) (gd : X.A.guards = some []) (hrX : ∀ env, Room 1 (X.A.deeper env)) {q : Str} (g : Addr) (cdg : Value) : GivesTo X jpd "_law_met" (defScope s_met) g cdg (defBody s_met) "_law_call" q (TGot X.K 2 (S_met X.K A)) :=
  got_of (fun _ => rfl) (fun _ => rfl) fun f c' s H tl R Wc act lam => jvO T X_ParseError_line g_ParseError g_InvalidOperation g_InvalidProgram g_InvalidRows g_InvalidTable g cdg X.A gd hrX X.stack f c' s H tl R Wc act lam
abbrev jbm : Stmt := top 117
abbrev jvP : List Str := ["_law_dice_here", "_law_numbers", "_law_state", "_law_table", "_law_rows", "_law_program", "_law_told", "_law_text"]
abbrev jmW : List Str := ["_law_dice_here"]
theorem jsf : FnScope jvP jmW (defScope jbm) := ⟨rfl, rfl, rfl, by decide +kernel, rfl, by decide +kernel, by decide +kernel⟩
def jue (K : PySem.W.Frag) (A : Adr) : FS :=
  (sSeq (sAsg 1 (fCall (jfv K A) 2 (fCons (fVar 0) (fCons (fNew (fLst (fCons (fC .non) (fCons (fC (.int 0)) (fCons (fNew (fLst (fCons (fC (.int 0)) fNil))) (fCons (fTup (fCons (fNeg (fC (.int 1))) fNil)) (fCons (fTup (fCons (fC (.bl true)) fNil)) (fCons (fTup (fCons (fC (.str "0")) fNil)) (fCons (fTup (fCons (fOp RPow (fC (.int 10)) (fC (.int 60))) fNil)) (fCons (fTup (fCons (fC .non) fNil)) (fCons (fC (.str "0")) (fCons (fDic fDic0) (fCons (fTup (fCons (fTup (fCons (fC (.int 0)) fNil)) fNil)) fNil))))))))))))) fNil))))
      (sSeq (sAsg 2 (fNew (fLst (fCons (fC .non) (fCons (fTup fNil) (fCons (fTup (fCons (fTup fNil) fNil)) (fCons (fTup (fCons (fTup fNil) (fCons (fTup fNil) (fCons (fTup fNil) fNil)))) (fCons (fNew (fLst (fCons (fTup fNil) (fCons (fTup fNil) fNil)))) (fCons (fTup (fCons (fTup (fCons (fC (.int 1)) (fCons (fC (.int 0)) fNil))) (fCons (fTup fNil) fNil))) (fCons (fTup (fCons (fTup (fCons (fC (.int 0)) (fCons (fC (.int 0)) fNil))) (fCons (fTup fNil) fNil))) (fCons (fTup (fCons (fTup fNil) (fCons (fTup (fCons (fTup (fCons (fC (.int 1)) fNil)) (fCons (fTup (fCons (fC (.int 0)) fNil)) fNil))) fNil))) (fCons (fTup (fCons (fTup fNil) (fCons (fTup (fCons (fTup fNil) (fCons (fTup fNil) fNil))) fNil))) fNil))))))))))))
      (sSeq (sAsg 2 (fCall (jfv K A) 2 (fCons (fVar 0) (fCons (fOp RAdd (fVarT 2) (fNew (fLst (fCons (fTup (fCons (fTup fNil) (fCons (fNew (fLst (fCons (fTup fNil) fNil))) fNil))) (fCons (fTup (fCons (fTup (fCons (fC (.bl true)) fNil)) (fCons (fTup fNil) fNil))) (fCons (fTup (fCons (fTup fNil) (fCons (fTup (fCons (fC (.int 0)) fNil)) fNil))) (fCons (fTup (fCons (fTup (fCons (fNeg (fC (.int 1))) fNil)) (fCons (fTup fNil) fNil))) (fCons (fC (.str "- | none")) (fCons (fDic fDic0) (fCons (fC (.int 0)) fNil)))))))))) fNil))))
      (sSeq (sAsg 3 (fNew (fLst (fCons (fC .non) (fCons (fTup fNil) (fCons (fNew (fLst fNil)) (fCons (fDic (fDisp [((fC (.int 0)), (fTup (fCons (fTup fNil) (fCons (fTup fNil) fNil))))])) (fCons (fDit (jiW [((fTup (fCons (fC (.int 0)) fNil)), (fTup (fCons (fTup fNil) (fCons (fTup fNil) fNil))))])) (fCons (fDit (jiW [((fTup (fCons (fC (.int 0)) (fCons (fC (.int 0)) (fCons (fC (.int 0)) fNil)))), (fTup (fCons (fTup fNil) (fCons (fTup fNil) fNil))))])) (fCons (fDit (jiW [((fTup (fCons (fC (.int 0)) (fCons (fNeg (fC (.int 1))) fNil))), (fTup (fCons (fTup fNil) (fCons (fTup fNil) fNil))))])) (fCons (fC (.str "none")) (fCons (fC (.int 0)) fNil))))))))))))
      (sSeq (sAsg 3 (fCall (jfv K A) 2 (fCons (fVar 0) (fCons (fOp RAdd (fVarT 3) (fNew (fLst (fCons (fDit (jiW [((fTup (fCons (fC (.int 0)) (fCons (fC (.int 0)) fNil))), (fVar 2))])) (fCons (fOd (fTup (fCons (fC (.int 0)) (fCons (fC (.bl true)) fNil))) (fTup (fCons (fTup fNil) (fCons (fTup fNil) fNil)))) (fCons (fDit (jiW [((fTup (fCons (fC (.int 0)) (fCons (fC (.int 0)) fNil))), (fTup (fCons (fTup fNil) (fCons (fTup fNil) fNil)))), ((fTup (fCons (fC (.int 0)) (fCons (fC (.int 1)) fNil))), (fC .non))])) fNil)))))) fNil))))
      (sSeq (sAsg 4 (fNew (fLst (fCons (fC .non) (fCons (fTup fNil) (fCons (fNew (fLst (fCons (fTup (fCons (fC (.str "a")) (fCons (fTup fNil) fNil))) fNil))) (fCons (fTup (fCons (fTup (fCons (fC (.str "a")) fNil)) fNil)) (fCons (fTup (fCons (fTup (fCons (fC (.str "a")) (fCons (fTup (fCons (fC (.int 0)) fNil)) fNil))) fNil)) (fCons (fTup (fCons (fTup (fCons (fC (.str "A")) (fCons (fTup fNil) fNil))) fNil)) (fCons (fTup (fCons (fTup (fCons (fC (.str "a")) (fCons (fNew (fLst fNil)) fNil))) fNil)) (fCons (fTup (fCons (fTup (fCons (fC (.str "a")) (fCons (fTup fNil) fNil))) (fCons (fTup (fCons (fC (.str "f")) (fCons (fTup (fCons (fC (.int 1)) fNil)) fNil))) fNil))) (fCons (fC (.str "a")) fNil))))))))))))
      (sSeq (sAsg 4 (fCall (jfv K A) 2 (fCons (fVar 0) (fCons (fOp RAdd (fVarT 4) (fNew (fLst (fCons (fTup (fCons (fTup (fCons (fC (.str "a")) (fCons (fTup fNil) fNil))) (fCons (fTup (fCons (fC (.str "f")) (fCons (fTup (fCons (fC (.int 0)) (fCons (fC (.int 0)) (fCons (fC (.int 0)) (fCons (fC (.int 0)) fNil))))) fNil))) fNil))) (fCons (fTup (fCons (fTup (fCons (fC (.str "a")) (fCons (fTup fNil) fNil))) (fCons (fTup (fCons (fC (.str "f")) (fCons (fTup (fCons (fC (.bl true)) fNil)) fNil))) fNil))) (fCons (fDic fDic0) (fCons (fC (.int 0)) fNil))))))) fNil))))
      (sSeq (sAsg 5 (fCall (jfv K A) 2 (fCons (fVar 0) (fCons (fNew (fLst (fCons (fC .non) (fCons (fC (.int 0)) (fCons (fTup fNil) (fCons (fC (.str "a => a")) (fCons (fDic fDic0) (fCons (fNew (fLst fNil)) (fCons (fC (.bl true)) fNil))))))))) fNil))))
      (sSeq (sNew 6 (fLst (fCons (fLam 2 (S_met K A) (fCall (jaA K A) 1 (fCons (fVar 1) fNil))) fNil)))
      (sSeq (sApp 6 (fLam 2 (S_met K A) (fCall (jbN K A) 1 (fCons (fVar 2) fNil))))
      (sSeq (sApp 6 (fLam 2 (S_met K A) (fCall (jba K A) 1 (fCons (fVar 3) fNil))))
      (sSeq (sApp 6 (fLam 2 (S_met K A) (fCall (jbi K A) 1 (fCons (fVar 4) fNil))))
      (sSeq (sApp 6 (fLam 2 (S_met K A) (fCall (jbB K A) 1 (fCons (fVar 5) fNil))))
      (sSeq (sIf (fTst (fOp RNe (fVarT 6) (fNew (fLst (fCons (fC (.str "operation")) (fCons (fC (.str "table")) (fCons (fC (.str "table")) (fCons (fC (.str "rows")) (fCons (fC (.str "program")) fNil))))))))) (sRet (fC (.bl false))) sNext)
      (sSeq (sAsg 7 (fCall (jfv K A) 2 (fCons (fVar 0) (fCons (fNew (fLst (fCons (fC .non) (fCons (fC (.int 0)) (fCons (fTup fNil) (fCons (fNew (fLst (fCons (fC (.str "a")) fNil))) (fCons (fDic fDic0) (fCons (fC (.bl true)) fNil)))))))) fNil))))
      (sSeq (sNew 6 (fLst (fCons (fLam 2 (S_met K A) (fCall (jam K A) 1 (fCons (fVar 7) fNil))) fNil)))
      (sSeq (sApp 6 (fLam 2 (S_met K A) (fCall (jbX K A) 1 (fCons (fVar 7) fNil))))
      (sSeq (sApp 6 (fLam 2 (S_met K A) (fCall (jbY K A) 1 (fCons (fVar 7) fNil))))
      (sSeq (sApp 6 (fLam 2 (S_met K A) (fCall (jci K A) 1 (fCons (fVar 7) fNil))))
      (sSeq (sApp 6 (fLam 2 (S_met K A) (fCall (jbH K A) 1 (fCons (fVar 7) fNil))))
      (sRet (fOp REq (fVarT 6) (fOp RRep (fNew (fLst (fCons (fC (.str "parse None")) fNil))) (fC (.int 5)))))))))))))))))))))))))
def jgD (K : PySem.W.Frag) (A : Adr) : Fn := fnS 8 (jue K A)
theorem jvQ {T : List (Addr × Str)} {f : Addr} {fd : FuncData} (F : Fun K "_law_right" "_law_right" jbm f fd) (TX : Txt K mg) (jht : CalF P w K mg base "_law_pick" 2 2 (jfv K A))
    (jbC : CalF P w K mg base "write_numbers" 4 1 (jaA K A))
    (jdz : CalF P w K mg base "write_state" 6 1 (jbN K A))
    (jbO : CalF P w K mg base "write_table" 7 1 (jba K A))
    (jbZ : CalF P w K mg base "write_rows" 4 1 (jbi K A))
    (jcG : CalF P w K mg base "write_program" 2 1 (jbB K A))
    (jbx : CalF P w K mg base "read_numbers" 4 1 (jam K A))
    (jef : CalF P w K mg base "read_state" 4 1 (jbX K A))
    (jeg : CalF P w K mg base "read_table" 4 1 (jbY K A))
    (jfa : CalF P w K mg base "read_rows" 4 1 (jci K A))
    (jda : CalF P w K mg base "read_program" 4 1 (jbH K A))
    (X_ParseError_line : ErF K A.cParseError "line")
    (G_met_ : CalGot K mg "_law_met" s_met "_law_call")
    (LT : LamT T base mg fd "_law_right.<locals>.<lambda>")
    (g_ParseError : mg "ParseError" = some (.ref A.cParseError))
    (g_InvalidOperation : mg "InvalidOperation" = some (.ref A.cInvalidOperation))
    (g_InvalidProgram : mg "InvalidProgram" = some (.ref A.cInvalidProgram))
    (g_InvalidRows : mg "InvalidRows" = some (.ref A.cInvalidRows))
    (g_InvalidTable : mg "InvalidTable" = some (.ref A.cInvalidTable)) : FnG P w K mg base (L2.CX P w) 10 f fd jmW (spQ T K 1 (jgD K A)) := by
  have nd := jsf.nd
  exact fn_qG (k := 9) F jsf rfl (fun cdv Ar outer s H E W0 hr gd hc => (jbD (tq_s (E := E) fun W0 H0 => (d_asg (jao jht (hr.mono (by first | decide | omega)) rfl (passes_call (takes_of rfl rfl rfl rfl) fun _ _ _ _ h => h) (jaa (d_var (pv 0)) (jaa (d_n (d_lst (jaa (d_non pe_non) (jaa (d_int pe_int) (jaa (d_n (d_lst (jaa (d_int pe_int) d_nil))) (jaa (d_tup (jaa (d_neg (d_int pe_int)) d_nil)) (jaa (d_tup (jaa (d_bl pe_bl) d_nil)) (jaa (d_tup (jaa (d_str pe_str) d_nil)) (jaa (d_tup (jaa (d_op jiH s_pow (d_t (d_int pe_int)) (d_t (d_int pe_int))) d_nil)) (jaa (d_tup (jaa (d_non pe_non) d_nil)) (jaa (d_str pe_str) (jaa (d_dd (joL pe_dnewK)) (jaa (d_tup (jaa (d_tup (jaa (d_int pe_int) d_nil)) d_nil)) d_nil))))))))))))) d_nil))) (pg_name (i := 1) nd rfl (Or.inr rfl))))
      (jbD (tq_s (E := E) fun W0 H0 => (d_asg (d_n (d_lst (jaa (d_non pe_non) (jaa (d_tup d_nil) (jaa (d_tup (jaa (d_tup d_nil) d_nil)) (jaa (d_tup (jaa (d_tup d_nil) (jaa (d_tup d_nil) (jaa (d_tup d_nil) d_nil)))) (jaa (d_n (d_lst (jaa (d_tup d_nil) (jaa (d_tup d_nil) d_nil)))) (jaa (d_tup (jaa (d_tup (jaa (d_int pe_int) (jaa (d_int pe_int) d_nil))) (jaa (d_tup d_nil) d_nil))) (jaa (d_tup (jaa (d_tup (jaa (d_int pe_int) (jaa (d_int pe_int) d_nil))) (jaa (d_tup d_nil) d_nil))) (jaa (d_tup (jaa (d_tup d_nil) (jaa (d_tup (jaa (d_tup (jaa (d_int pe_int) d_nil)) (jaa (d_tup (jaa (d_int pe_int) d_nil)) d_nil))) d_nil))) (jaa (d_tup (jaa (d_tup d_nil) (jaa (d_tup (jaa (d_tup d_nil) (jaa (d_tup d_nil) d_nil))) d_nil))) d_nil))))))))))) (pg_name (i := 2) nd rfl (Or.inr rfl))))
      (jbD (tq_s (E := E) fun W0 H0 => (d_asg (jao jht (hr.mono (by first | decide | omega)) rfl (passes_call (takes_of rfl rfl rfl rfl) fun _ _ _ _ h => h) (jaa (d_var (pv 0)) (jaa (d_op (jgt (K := K)) s_add (jac (pv 2)) (d_nt (d_lst (jaa (d_tup (jaa (d_tup d_nil) (jaa (d_n (d_lst (jaa (d_tup d_nil) d_nil))) d_nil))) (jaa (d_tup (jaa (d_tup (jaa (d_bl pe_bl) d_nil)) (jaa (d_tup d_nil) d_nil))) (jaa (d_tup (jaa (d_tup d_nil) (jaa (d_tup (jaa (d_int pe_int) d_nil)) d_nil))) (jaa (d_tup (jaa (d_tup (jaa (d_neg (d_int pe_int)) d_nil)) (jaa (d_tup d_nil) d_nil))) (jaa (d_str pe_str) (jaa (d_dd (joL pe_dnewK)) (jaa (d_int pe_int) d_nil)))))))))) d_nil))) (pg_name (i := 2) nd rfl (Or.inr rfl))))
      (jbD (tq_s (E := E) fun W0 H0 => (d_asg (d_n (d_lst (jaa (d_non pe_non) (jaa (d_tup d_nil) (jaa (d_n (d_lst d_nil)) (jaa (d_dd (d_disp (fs := [((fC (.int 0)), (fTup (fCons (fTup fNil) (fCons (fTup fNil) fNil))))]) (pe_disp (pps_cons (d_int pe_int) (d_tup (jaa (d_tup d_nil) (jaa (d_tup d_nil) d_nil))) pps_nil) (by rfl) (by rfl) (fun z => by cases z) (by decide)))) (jaa (d_ddt (jiX (fs := [((fTup (fCons (fC (.int 0)) fNil)), (fTup (fCons (fTup fNil) (fCons (fTup fNil) fNil))))]) (jfu (hr1 hr) (pps_cons (d_tup (jaa (d_int pe_int) d_nil)) (d_tup (jaa (d_tup d_nil) (jaa (d_tup d_nil) d_nil))) pps_nil) (by rfl) (by rfl) (fun z => by cases z) (by decide)))) (jaa (d_ddt (jiX (fs := [((fTup (fCons (fC (.int 0)) (fCons (fC (.int 0)) (fCons (fC (.int 0)) fNil)))), (fTup (fCons (fTup fNil) (fCons (fTup fNil) fNil))))]) (jfu (hr1 hr) (pps_cons (d_tup (jaa (d_int pe_int) (jaa (d_int pe_int) (jaa (d_int pe_int) d_nil)))) (d_tup (jaa (d_tup d_nil) (jaa (d_tup d_nil) d_nil))) pps_nil) (by rfl) (by rfl) (fun z => by cases z) (by decide)))) (jaa (d_ddt (jiX (fs := [((fTup (fCons (fC (.int 0)) (fCons (fNeg (fC (.int 1))) fNil))), (fTup (fCons (fTup fNil) (fCons (fTup fNil) fNil))))]) (jfu (hr1 hr) (pps_cons (d_tup (jaa (d_int pe_int) (jaa (d_neg (d_int pe_int)) d_nil))) (d_tup (jaa (d_tup d_nil) (jaa (d_tup d_nil) d_nil))) pps_nil) (by rfl) (by rfl) (fun z => by cases z) (by decide)))) (jaa (d_str pe_str) (jaa (d_int pe_int) d_nil))))))))))) (pg_name (i := 3) nd rfl (Or.inr rfl))))
      (jbD (tq_s (E := E) fun W0 H0 => (d_asg (jao jht (hr.mono (by first | decide | omega)) rfl (passes_call (takes_of rfl rfl rfl rfl) fun _ _ _ _ h => h) (jaa (d_var (pv 0)) (jaa (d_op (jgt (K := K)) s_add (jac (pv 3)) (d_nt (d_lst (jaa (d_ddt (jiX (fs := [((fTup (fCons (fC (.int 0)) (fCons (fC (.int 0)) fNil))), (fVar 2))]) (jfu (hr1 hr) (pps_cons (d_tup (jaa (d_int pe_int) (jaa (d_int pe_int) d_nil))) (d_var (pv 2)) pps_nil) (by rfl) (by rfl) (fun z => by cases z) (by decide)))) (jaa (d_od (K := K) (Nat.lt_of_le_of_lt (Nat.add_le_add_left (by decide) _) (hr65 hr)) (pps_cons (d_tup (jaa (d_int pe_int) (jaa (d_bl pe_bl) d_nil))) (d_tup (jaa (d_tup d_nil) (jaa (d_tup d_nil) d_nil))) pps_nil)) (jaa (d_ddt (jiX (fs := [((fTup (fCons (fC (.int 0)) (fCons (fC (.int 0)) fNil))), (fTup (fCons (fTup fNil) (fCons (fTup fNil) fNil)))), ((fTup (fCons (fC (.int 0)) (fCons (fC (.int 1)) fNil))), (fC .non))]) (jfu (hr1 hr) (pps_cons (d_tup (jaa (d_int pe_int) (jaa (d_int pe_int) d_nil))) (d_tup (jaa (d_tup d_nil) (jaa (d_tup d_nil) d_nil))) (pps_cons (d_tup (jaa (d_int pe_int) (jaa (d_int pe_int) d_nil))) (d_non pe_non) pps_nil)) (by rfl) (by rfl) (fun z => by cases z) (by decide)))) d_nil)))))) d_nil))) (pg_name (i := 3) nd rfl (Or.inr rfl))))
      (jbD (tq_s (E := E) fun W0 H0 => (d_asg (d_n (d_lst (jaa (d_non pe_non) (jaa (d_tup d_nil) (jaa (d_n (d_lst (jaa (d_tup (jaa (d_str pe_str) (jaa (d_tup d_nil) d_nil))) d_nil))) (jaa (d_tup (jaa (d_tup (jaa (d_str pe_str) d_nil)) d_nil)) (jaa (d_tup (jaa (d_tup (jaa (d_str pe_str) (jaa (d_tup (jaa (d_int pe_int) d_nil)) d_nil))) d_nil)) (jaa (d_tup (jaa (d_tup (jaa (d_str pe_str) (jaa (d_tup d_nil) d_nil))) d_nil)) (jaa (d_tup (jaa (d_tup (jaa (d_str pe_str) (jaa (d_n (d_lst d_nil)) d_nil))) d_nil)) (jaa (d_tup (jaa (d_tup (jaa (d_str pe_str) (jaa (d_tup d_nil) d_nil))) (jaa (d_tup (jaa (d_str pe_str) (jaa (d_tup (jaa (d_int pe_int) d_nil)) d_nil))) d_nil))) (jaa (d_str pe_str) d_nil))))))))))) (pg_name (i := 4) nd rfl (Or.inr rfl))))
      (jbD (tq_s (E := E) fun W0 H0 => (d_asg (jao jht (hr.mono (by first | decide | omega)) rfl (passes_call (takes_of rfl rfl rfl rfl) fun _ _ _ _ h => h) (jaa (d_var (pv 0)) (jaa (d_op (jgt (K := K)) s_add (jac (pv 4)) (d_nt (d_lst (jaa (d_tup (jaa (d_tup (jaa (d_str pe_str) (jaa (d_tup d_nil) d_nil))) (jaa (d_tup (jaa (d_str pe_str) (jaa (d_tup (jaa (d_int pe_int) (jaa (d_int pe_int) (jaa (d_int pe_int) (jaa (d_int pe_int) d_nil))))) d_nil))) d_nil))) (jaa (d_tup (jaa (d_tup (jaa (d_str pe_str) (jaa (d_tup d_nil) d_nil))) (jaa (d_tup (jaa (d_str pe_str) (jaa (d_tup (jaa (d_bl pe_bl) d_nil)) d_nil))) d_nil))) (jaa (d_dd (joL pe_dnewK)) (jaa (d_int pe_int) d_nil))))))) d_nil))) (pg_name (i := 4) nd rfl (Or.inr rfl))))
      (jbD (tq_s (E := E) fun W0 H0 => (d_asg (jao jht (hr.mono (by first | decide | omega)) rfl (passes_call (takes_of rfl rfl rfl rfl) fun _ _ _ _ h => h) (jaa (d_var (pv 0)) (jaa (d_n (d_lst (jaa (d_non pe_non) (jaa (d_int pe_int) (jaa (d_tup d_nil) (jaa (d_str pe_str) (jaa (d_dd (joL pe_dnewK)) (jaa (d_n (d_lst d_nil)) (jaa (d_bl pe_bl) d_nil))))))))) d_nil))) (pg_name (i := 5) nd rfl (Or.inr rfl))))
      (jbD (jtO jbA (jtN (jmL (jbS (k := 7) G_met_ LT hc (hr.mono (by first | decide | omega)) jcw (jbl TX X_ParseError_line g_ParseError g_InvalidOperation g_InvalidProgram g_InvalidRows g_InvalidTable gd (fun env => Room.deeper (hr.mono (by first | decide | omega)) env)) rfl (lamS_by (sc := defScope jbm) (by decide +kernel)) (fun Ar outer s H E f c' hr => (jao jbC (hr.mono (by first | decide | omega)) rfl (passes_call (takes_of rfl rfl rfl rfl) fun _ _ _ _ h => h) (jaa (d_var (pv 1)) d_nil)))) jqO)) (pg_name (i := 6) nd rfl (Or.inl rfl)))
      (jbD (jdG jbA (ps_expr (jdD (K := K) PySem.F.plainAttrs_list PySem.F.slot_list_append PySem.F.type_list_append mt_append (pv 6) (pa_cons (jbS (k := 7) G_met_ LT hc (hr.mono (by first | decide | omega)) jcw (jbl TX X_ParseError_line g_ParseError g_InvalidOperation g_InvalidProgram g_InvalidRows g_InvalidTable gd (fun env => Room.deeper (hr.mono (by first | decide | omega)) env)) rfl (lamS_by (sc := defScope jbm) (by decide +kernel)) (fun Ar outer s H E f c' hr => (jao jdz (hr.mono (by first | decide | omega)) rfl (passes_call (takes_of rfl rfl rfl rfl) fun _ _ _ _ h => h) (jaa (d_var (pv 2)) d_nil)))) pa_nil))))
      (jbD (jdG jbA (ps_expr (jdD (K := K) PySem.F.plainAttrs_list PySem.F.slot_list_append PySem.F.type_list_append mt_append (pv 6) (pa_cons (jbS (k := 7) G_met_ LT hc (hr.mono (by first | decide | omega)) jcw (jbl TX X_ParseError_line g_ParseError g_InvalidOperation g_InvalidProgram g_InvalidRows g_InvalidTable gd (fun env => Room.deeper (hr.mono (by first | decide | omega)) env)) rfl (lamS_by (sc := defScope jbm) (by decide +kernel)) (fun Ar outer s H E f c' hr => (jao jbO (hr.mono (by first | decide | omega)) rfl (passes_call (takes_of rfl rfl rfl rfl) fun _ _ _ _ h => h) (jaa (d_var (pv 3)) d_nil)))) pa_nil))))
      (jbD (jdG jbA (ps_expr (jdD (K := K) PySem.F.plainAttrs_list PySem.F.slot_list_append PySem.F.type_list_append mt_append (pv 6) (pa_cons (jbS (k := 7) G_met_ LT hc (hr.mono (by first | decide | omega)) jcw (jbl TX X_ParseError_line g_ParseError g_InvalidOperation g_InvalidProgram g_InvalidRows g_InvalidTable gd (fun env => Room.deeper (hr.mono (by first | decide | omega)) env)) rfl (lamS_by (sc := defScope jbm) (by decide +kernel)) (fun Ar outer s H E f c' hr => (jao jbZ (hr.mono (by first | decide | omega)) rfl (passes_call (takes_of rfl rfl rfl rfl) fun _ _ _ _ h => h) (jaa (d_var (pv 4)) d_nil)))) pa_nil))))
      (jbD (jdG jbA (ps_expr (jdD (K := K) PySem.F.plainAttrs_list PySem.F.slot_list_append PySem.F.type_list_append mt_append (pv 6) (pa_cons (jbS (k := 7) G_met_ LT hc (hr.mono (by first | decide | omega)) jcw (jbl TX X_ParseError_line g_ParseError g_InvalidOperation g_InvalidProgram g_InvalidRows g_InvalidTable gd (fun env => Room.deeper (hr.mono (by first | decide | omega)) env)) rfl (lamS_by (sc := defScope jbm) (by decide +kernel)) (fun Ar outer s H E f c' hr => (jao jcG (hr.mono (by first | decide | omega)) rfl (passes_call (takes_of rfl rfl rfl rfl) fun _ _ _ _ h => h) (jaa (d_var (pv 5)) d_nil)))) pa_nil))))
      (jbD (tq_s (E := E) fun W0 H0 => (d_ifs (jdE (jhf (K := K) hr.units) s_ne (jac (pv 6)) (d_nt (d_lst (jaa (d_str pe_str) (jaa (d_str pe_str) (jaa (d_str pe_str) (jaa (d_str pe_str) (jaa (d_str pe_str) d_nil))))))) (nomark _)) (jaR (d_ret (d_bl pe_bl))) jdh))
      (jbD (tq_s (E := E) fun W0 H0 => (d_asg (jao jht (hr.mono (by first | decide | omega)) rfl (passes_call (takes_of rfl rfl rfl rfl) fun _ _ _ _ h => h) (jaa (d_var (pv 0)) (jaa (d_n (d_lst (jaa (d_non pe_non) (jaa (d_int pe_int) (jaa (d_tup d_nil) (jaa (d_n (d_lst (jaa (d_str pe_str) d_nil))) (jaa (d_dd (joL pe_dnewK)) (jaa (d_bl pe_bl) d_nil)))))))) d_nil))) (pg_name (i := 7) nd rfl (Or.inr rfl))))
      (jbD (jtO jbA (jtN (jmL (jbS (k := 7) G_met_ LT hc (hr.mono (by first | decide | omega)) jcw (jbl TX X_ParseError_line g_ParseError g_InvalidOperation g_InvalidProgram g_InvalidRows g_InvalidTable gd (fun env => Room.deeper (hr.mono (by first | decide | omega)) env)) rfl (lamS_by (sc := defScope jbm) (by decide +kernel)) (fun Ar outer s H E f c' hr => (jao jbx (hr.mono (by first | decide | omega)) rfl (passes_call (takes_of rfl rfl rfl rfl) fun _ _ _ _ h => h) (jaa (d_var (pv 7)) d_nil)))) jqO)) (pg_name (i := 6) nd rfl (Or.inl rfl)))
      (jbD (jdG jbA (ps_expr (jdD (K := K) PySem.F.plainAttrs_list PySem.F.slot_list_append PySem.F.type_list_append mt_append (pv 6) (pa_cons (jbS (k := 7) G_met_ LT hc (hr.mono (by first | decide | omega)) jcw (jbl TX X_ParseError_line g_ParseError g_InvalidOperation g_InvalidProgram g_InvalidRows g_InvalidTable gd (fun env => Room.deeper (hr.mono (by first | decide | omega)) env)) rfl (lamS_by (sc := defScope jbm) (by decide +kernel)) (fun Ar outer s H E f c' hr => (jao jef (hr.mono (by first | decide | omega)) rfl (passes_call (takes_of rfl rfl rfl rfl) fun _ _ _ _ h => h) (jaa (d_var (pv 7)) d_nil)))) pa_nil))))
      (jbD (jdG jbA (ps_expr (jdD (K := K) PySem.F.plainAttrs_list PySem.F.slot_list_append PySem.F.type_list_append mt_append (pv 6) (pa_cons (jbS (k := 7) G_met_ LT hc (hr.mono (by first | decide | omega)) jcw (jbl TX X_ParseError_line g_ParseError g_InvalidOperation g_InvalidProgram g_InvalidRows g_InvalidTable gd (fun env => Room.deeper (hr.mono (by first | decide | omega)) env)) rfl (lamS_by (sc := defScope jbm) (by decide +kernel)) (fun Ar outer s H E f c' hr => (jao jeg (hr.mono (by first | decide | omega)) rfl (passes_call (takes_of rfl rfl rfl rfl) fun _ _ _ _ h => h) (jaa (d_var (pv 7)) d_nil)))) pa_nil))))
      (jbD (jdG jbA (ps_expr (jdD (K := K) PySem.F.plainAttrs_list PySem.F.slot_list_append PySem.F.type_list_append mt_append (pv 6) (pa_cons (jbS (k := 7) G_met_ LT hc (hr.mono (by first | decide | omega)) jcw (jbl TX X_ParseError_line g_ParseError g_InvalidOperation g_InvalidProgram g_InvalidRows g_InvalidTable gd (fun env => Room.deeper (hr.mono (by first | decide | omega)) env)) rfl (lamS_by (sc := defScope jbm) (by decide +kernel)) (fun Ar outer s H E f c' hr => (jao jfa (hr.mono (by first | decide | omega)) rfl (passes_call (takes_of rfl rfl rfl rfl) fun _ _ _ _ h => h) (jaa (d_var (pv 7)) d_nil)))) pa_nil))))
      (jbD (jdG jbA (ps_expr (jdD (K := K) PySem.F.plainAttrs_list PySem.F.slot_list_append PySem.F.type_list_append mt_append (pv 6) (pa_cons (jbS (k := 7) G_met_ LT hc (hr.mono (by first | decide | omega)) jcw (jbl TX X_ParseError_line g_ParseError g_InvalidOperation g_InvalidProgram g_InvalidRows g_InvalidTable gd (fun env => Room.deeper (hr.mono (by first | decide | omega)) env)) rfl (lamS_by (sc := defScope jbm) (by decide +kernel)) (fun Ar outer s H E f c' hr => (jao jda (hr.mono (by first | decide | omega)) rfl (passes_call (takes_of rfl rfl rfl rfl) fun _ _ _ _ h => h) (jaa (d_var (pv 7)) d_nil)))) pa_nil))))
      (jrZ (tq_s (E := E) fun W0 H0 => (d_ret (d_cmp (jiL (K := K) hr.units) s_eq (jac (pv 6)) (d_t (d_op op_rep s_rep (d_nt (d_lst (jaa (d_str pe_str) d_nil))) (d_t (d_int pe_int)))) (nomark _)))))))))))))))))))))))))) fun _ _ _ h => h
abbrev s_law : Stmt := top 118
abbrev nm_law : List Str := ["_law_script", "_law_spot", "_law_told"]
abbrev juf : List Str := ["_law_script"]
theorem jwX : FnScope nm_law juf (defScope s_law) := ⟨rfl, rfl, rfl, by decide +kernel, rfl, by decide +kernel, by decide +kernel⟩
def S_law (K : PySem.W.Frag) (A : Adr) : FS :=
  (sSeq (sFor (fRng1 (fCons (fCB RMax2 (fCons (fC (.int 1)) (fCons (fCB RMin2 (fCons (fC (.int 8)) (fCons (fCB RLen (fCons (fVarT 0) fNil)) fNil))) fNil))) fNil)) (gN 1) (sIf (fNot (fTst (fCall (jgD K A) 1 (fCons (fCall (jtY K A) 2 (fCons (fVar 0) (fCons (fVar 1) fNil))) fNil)))) (sRet (fC (.bl false))) sNext))
      (sSeq (sNew 2 (fLst (fCons (fLam 2 (S_met K A) (fCall (jaA K A) 1 (fCons (fTup (fCons (fOp RPow (fC (.int 10)) (fC (.int 59))) fNil)) fNil))) fNil)))
      (sSeq (sApp 2 (fLam 2 (S_met K A) (fCall (jba K A) 1 (fCons (fDit fDit0) fNil))))
      (sSeq (sApp 2 (fLam 2 (S_met K A) (fCall (jbi K A) 1 (fCons (fTup (fCons (fTup (fCons (fC (.str "zzzzzzzz")) (fCons (fTup fNil) fNil))) (fCons (fTup (fCons (fC (.str "#")) (fCons (fTup (fCons (fC (.int 0)) (fCons (fC (.int 0)) (fCons (fC (.int 0)) fNil)))) fNil))) fNil))) fNil))))
      (sSeq (sApp 2 (fLam 2 (S_met K A) (fCall (jam K A) 1 (fCons (fOp RMulS (fC (.str "9")) (fC (.int 60))) fNil))))
      (sSeq (sApp 2 (fLam 2 (S_met K A) (fCall (jam K A) 1 (fCons (fOp RMulS (fC (.str "9")) (fC (.int 61))) fNil))))
      (sRet (fOp REq (fVarT 2) (fNew (fLst (fCons (fC (.str "fine")) (fCons (fC (.str "fine")) (fCons (fC (.str "fine")) (fCons (fC (.str "fine")) (fCons (fC (.str "parse None")) fNil)))))))))))))))
def G_law (K : PySem.W.Frag) (A : Adr) : Fn := fnS 3 (S_law K A)
theorem ok_law {T : List (Addr × Str)} {f : Addr} {fd : FuncData} (F : Fun K "law" "law" s_law f fd) (TX : Txt K mg) (jug : CalF P w K mg base "_law_dice" 1 2 (jtY K A))
    (jbC : CalF P w K mg base "write_numbers" 4 1 (jaA K A))
    (jbO : CalF P w K mg base "write_table" 7 1 (jba K A))
    (jbZ : CalF P w K mg base "write_rows" 4 1 (jbi K A))
    (jbx : CalF P w K mg base "read_numbers" 4 1 (jam K A))
    (X_ParseError_line : ErF K A.cParseError "line")
    (jqS : CalQG T P w K mg base "_law_right" 10 1 (jgD K A))
    (G_met_ : CalGot K mg "_law_met" s_met "_law_call")
    (LT : LamT T base mg fd "law.<locals>.<lambda>")
    (g_ParseError : mg "ParseError" = some (.ref A.cParseError))
    (g_InvalidOperation : mg "InvalidOperation" = some (.ref A.cInvalidOperation))
    (g_InvalidProgram : mg "InvalidProgram" = some (.ref A.cInvalidProgram))
    (g_InvalidRows : mg "InvalidRows" = some (.ref A.cInvalidRows))
    (g_InvalidTable : mg "InvalidTable" = some (.ref A.cInvalidTable)) : FnG P w K mg base (L2.CX P w) 13 f fd juf (spQ T K 1 (G_law K A)) := by
  have nd := jwX.nd
  exact fn_qG (k := 12) F jwX rfl (fun cdv Ar outer s H E W0 hr gd hc => (jbD (tq_for (vs := [1]) jbA (passes_of rfl) rfl (jxI (E := E) rfl TX.z_range (jaa (d_cb (call_max2 rfl) s_max2 (by rfl) TX.z_max (by decide +kernel) (jaE (d_t (d_int pe_int)) (jaE (d_t (d_cb (call_min2 rfl) s_min2 (by rfl) TX.z_min (by decide +kernel) (jaE (d_t (d_int pe_int)) (jaE (d_t (d_cb (c_len (K := K)) s_len (by rfl) TX.z_len (by decide +kernel) (jaE (jac (pv 0)) jby))) jby)))) jby))) d_nil)) (pg_name (i := 1) nd rfl (Or.inl rfl)) (jcu (by decide)) (jrZ (tq_if jbA (tq_not (jxB (jvM jqS (hr.mono (by first | decide | omega)) gd rfl (tq_a (E := E) (jaa (jao jug (hr.mono (by first | decide | omega)) rfl (passes_call (takes_of rfl rfl rfl rfl) fun _ _ _ _ h => h) (jaa (d_var (pv 0)) (jaa (d_var (pv 1)) d_nil))) d_nil))))) (jrZ (tq_s (E := E) fun W0 H0 => (d_ret (d_bl pe_bl)))) tq_nil)))
      (jbD (jtO jbA (jtN (jmL (jbS (k := 10) G_met_ LT hc (hr.mono (by first | decide | omega)) jcw (jbl TX X_ParseError_line g_ParseError g_InvalidOperation g_InvalidProgram g_InvalidRows g_InvalidTable gd (fun env => Room.deeper (hr.mono (by first | decide | omega)) env)) rfl (lamS_by (sc := defScope s_law) (by decide +kernel)) (fun Ar outer s H E f c' hr => (jao jbC (hr.mono (by first | decide | omega)) rfl (passes_call (takes_of rfl rfl rfl rfl) fun _ _ _ _ h => h) (jaa (d_tup (jaa (d_op jiH s_pow (d_t (d_int pe_int)) (d_t (d_int pe_int))) d_nil)) d_nil)))) jqO)) (pg_name (i := 2) nd rfl (Or.inl rfl)))
      (jbD (jdG jbA (ps_expr (jdD (K := K) PySem.F.plainAttrs_list PySem.F.slot_list_append PySem.F.type_list_append mt_append (pv 2) (pa_cons (jbS (k := 10) G_met_ LT hc (hr.mono (by first | decide | omega)) jcw (jbl TX X_ParseError_line g_ParseError g_InvalidOperation g_InvalidProgram g_InvalidRows g_InvalidTable gd (fun env => Room.deeper (hr.mono (by first | decide | omega)) env)) rfl (lamS_by (sc := defScope s_law) (by decide +kernel)) (fun Ar outer s H E f c' hr => (jao jbO (hr.mono (by first | decide | omega)) rfl (passes_call (takes_of rfl rfl rfl rfl) fun _ _ _ _ h => h) (jaa (d_ddt (d_dit0 pe_dnewT)) d_nil)))) pa_nil))))
      (jbD (jdG jbA (ps_expr (jdD (K := K) PySem.F.plainAttrs_list PySem.F.slot_list_append PySem.F.type_list_append mt_append (pv 2) (pa_cons (jbS (k := 10) G_met_ LT hc (hr.mono (by first | decide | omega)) jcw (jbl TX X_ParseError_line g_ParseError g_InvalidOperation g_InvalidProgram g_InvalidRows g_InvalidTable gd (fun env => Room.deeper (hr.mono (by first | decide | omega)) env)) rfl (lamS_by (sc := defScope s_law) (by decide +kernel)) (fun Ar outer s H E f c' hr => (jao jbZ (hr.mono (by first | decide | omega)) rfl (passes_call (takes_of rfl rfl rfl rfl) fun _ _ _ _ h => h) (jaa (d_tup (jaa (d_tup (jaa (d_str pe_str) (jaa (d_tup d_nil) d_nil))) (jaa (d_tup (jaa (d_str pe_str) (jaa (d_tup (jaa (d_int pe_int) (jaa (d_int pe_int) (jaa (d_int pe_int) d_nil)))) d_nil))) d_nil))) d_nil)))) pa_nil))))
      (jbD (jdG jbA (ps_expr (jdD (K := K) PySem.F.plainAttrs_list PySem.F.slot_list_append PySem.F.type_list_append mt_append (pv 2) (pa_cons (jbS (k := 10) G_met_ LT hc (hr.mono (by first | decide | omega)) jcw (jbl TX X_ParseError_line g_ParseError g_InvalidOperation g_InvalidProgram g_InvalidRows g_InvalidTable gd (fun env => Room.deeper (hr.mono (by first | decide | omega)) env)) rfl (lamS_by (sc := defScope s_law) (by decide +kernel)) (fun Ar outer s H E f c' hr => (jao jbx (hr.mono (by first | decide | omega)) rfl (passes_call (takes_of rfl rfl rfl rfl) fun _ _ _ _ h => h) (jaa (d_op (jtL (X := _)) jwO (d_t (d_str pe_str)) (d_t (d_int pe_int))) d_nil)))) pa_nil))))
      (jbD (jdG jbA (ps_expr (jdD (K := K) PySem.F.plainAttrs_list PySem.F.slot_list_append PySem.F.type_list_append mt_append (pv 2) (pa_cons (jbS (k := 10) G_met_ LT hc (hr.mono (by first | decide | omega)) jcw (jbl TX X_ParseError_line g_ParseError g_InvalidOperation g_InvalidProgram g_InvalidRows g_InvalidTable gd (fun env => Room.deeper (hr.mono (by first | decide | omega)) env)) rfl (lamS_by (sc := defScope s_law) (by decide +kernel)) (fun Ar outer s H E f c' hr => (jao jbx (hr.mono (by first | decide | omega)) rfl (passes_call (takes_of rfl rfl rfl rfl) fun _ _ _ _ h => h) (jaa (d_op (jtL (X := _)) jwO (d_t (d_str pe_str)) (d_t (d_int pe_int))) d_nil)))) pa_nil))))
      (jrZ (tq_s (E := E) fun W0 H0 => (d_ret (d_cmp (jiL (K := K) hr.units) s_eq (jac (pv 2)) (d_nt (d_lst (jaa (d_str pe_str) (jaa (d_str pe_str) (jaa (d_str pe_str) (jaa (d_str pe_str) (jaa (d_str pe_str) d_nil))))))) (nomark _)))))))))))) fun _ _ _ h => h
end
end K72
namespace K72
open PySem PySem.Spec PyProof.Rows L2 Ly Pu TM LamX
structure EK (K : PySem.W.Frag) (A : Adr) : Prop where
  tt : PySem.W.exmOne K (.ref A.cInvalidTable) (.ref A.cInvalidTable) = some true
  rt : PySem.W.exmOne K (.ref A.cInvalidRows) (.ref A.cInvalidTable) = some false
  rr : PySem.W.exmOne K (.ref A.cInvalidRows) (.ref A.cInvalidRows) = some true
  gt : PySem.W.exmOne K (.ref A.cInvalidProgram) (.ref A.cInvalidTable) = some false
  gr : PySem.W.exmOne K (.ref A.cInvalidProgram) (.ref A.cInvalidRows) = some false
  gg : PySem.W.exmOne K (.ref A.cInvalidProgram) (.ref A.cInvalidProgram) = some true
  ot : PySem.W.exmOne K (.ref A.cInvalidOperation) (.ref A.cInvalidTable) = some false
  or_ : PySem.W.exmOne K (.ref A.cInvalidOperation) (.ref A.cInvalidRows) = some false
  og : PySem.W.exmOne K (.ref A.cInvalidOperation) (.ref A.cInvalidProgram) = some false
  oo : PySem.W.exmOne K (.ref A.cInvalidOperation) (.ref A.cInvalidOperation) = some true
  pt : PySem.W.exmOne K (.ref A.cParseError) (.ref A.cInvalidTable) = some false
  pr : PySem.W.exmOne K (.ref A.cParseError) (.ref A.cInvalidRows) = some false
  pg : PySem.W.exmOne K (.ref A.cParseError) (.ref A.cInvalidProgram) = some false
  po : PySem.W.exmOne K (.ref A.cParseError) (.ref A.cInvalidOperation) = some false
  pp : PySem.W.exmOne K (.ref A.cParseError) (.ref A.cParseError) = some true
def hcM (K : PySem.W.Frag) (A : Adr) : List HC := [⟨A.cInvalidTable, none, fun x a cls d => (sRet (fC (.str "table")))⟩,
  ⟨A.cInvalidRows, none, fun x a cls d => (sRet (fC (.str "rows")))⟩,
  ⟨A.cInvalidProgram, none, fun x a cls d => (sRet (fC (.str "program")))⟩,
  ⟨A.cInvalidOperation, none, fun x a cls d => (sRet (fC (.str "operation")))⟩,
  ⟨A.cParseError, some 1, fun x a cls d => (sRet (fOp RAdd (fC (.str "parse ")) (fCB jiU (fCons (fXf cls d A.cParseError a "line" (fVar 1)) fNil))))⟩]
def metZ (K : PySem.W.Frag) (A : Adr) (Q : D → Prop) : ZX := jrQ K 2 { nx := fun _ => Q (.str "fine"), rt := Q, ex := ZN } (hcM K A)
section
variable {K : PySem.W.Frag} {A : Adr}
theorem jcH {F : FE} {ρ : Pu.Env} {Q : D → Prop} {Z : ZX} (h : F ρ (fun _ => Q (.str "fine")) (metZ K A Q)) : fLam 2 (S_met K A) F ρ Q Z := h
theorem met_t (EC : EK K A) {Q : D → Prop} (q : Q (.str "table")) : metZ K A Q (.bare A.cInvalidTable) := by
  refine ⟨true, EC.tt, ?_⟩
  rw [if_pos rfl]
  intro a cls d _
  exact q
theorem met_r (EC : EK K A) {Q : D → Prop} (q : Q (.str "rows")) : metZ K A Q (.bare A.cInvalidRows) := by
  refine ⟨false, EC.rt, ?_⟩
  rw [if_neg (by decide)]
  refine ⟨true, EC.rr, ?_⟩
  rw [if_pos rfl]
  intro a cls d _
  exact q
theorem met_g (EC : EK K A) {Q : D → Prop} (q : Q (.str "program")) : metZ K A Q (.bare A.cInvalidProgram) := by
  refine ⟨false, EC.gt, ?_⟩
  rw [if_neg (by decide)]
  refine ⟨false, EC.gr, ?_⟩
  rw [if_neg (by decide)]
  refine ⟨true, EC.gg, ?_⟩
  rw [if_pos rfl]
  intro a cls d _
  exact q
theorem met_o (EC : EK K A) {Q : D → Prop} (q : Q (.str "operation")) : metZ K A Q (.bare A.cInvalidOperation) := by
  refine ⟨false, EC.ot, ?_⟩
  rw [if_neg (by decide)]
  refine ⟨false, EC.or_, ?_⟩
  rw [if_neg (by decide)]
  refine ⟨false, EC.og, ?_⟩
  rw [if_neg (by decide)]
  refine ⟨true, EC.oo, ?_⟩
  rw [if_pos rfl]
  intro a cls d _
  exact q
theorem met_p (EC : EK K A) {Q : D → Prop} (q : Q (.str "parse None")) : metZ K A Q (.kept A.cParseError ["line"] [.non]) := by
  refine ⟨false, EC.pt, ?_⟩
  rw [if_neg (by decide)]
  refine ⟨false, EC.pr, ?_⟩
  rw [if_neg (by decide)]
  refine ⟨false, EC.pg, ?_⟩
  rw [if_neg (by decide)]
  refine ⟨false, EC.po, ?_⟩
  rw [if_neg (by decide)]
  refine ⟨true, EC.pp, ?_⟩
  rw [if_pos rfl]
  rintro a cls d ⟨hc, dd, rfl⟩
  subst hc
  show sRet (fOp RAdd (fC (.str "parse ")) (fCB jiU (fCons (fXf (.ref A.cParseError) (some dd) A.cParseError a "line" (fVar 1)) fNil))) [.un, .val (.exn a dd ["line"] [.non])] _
  simp only [fnS,Pu.startB,sSeq,sAsg,sIf,sRet,sNext,sNew,sApp,sPar,sDem,demB,fVar,fVarT,fC,fOp,fTst,fAnd,fOr,fNot,fNew,fLst,fTup,fNil,fCons,fSl,Pu.oAt,oNo,fCB,fCall,fIf,jaf,fRng1,fIt,fJoin,RLen,RI0,RAdd,RSl,RIsN,jag,gN,bD,jA,jB,jC,jD,jE,jF,jG,Nat.reduceSub,Nat.reduceAdd,jH,jI,jJ,jK,jL,jM,jN,jO,jP,jQ,jR,exists_eq_left',exists_eq_left,exists_and_left,ex_eq,true_and,and_true,jS,jT,jU,jV,jW,wipeB,lenD,itD,jX,jY,jZ,ja,if_true,if_false,ite_true,ite_false,jb,jc,and_assoc,jd,fXf,backE]
  refine ⟨dd, _, _, rfl, rfl, .non, rfl, .inl (.inl (.inl (.inl (.inl (.inl ⟨rfl, ?_⟩)))))⟩
  exact ⟨by rw [sizeLine_eq]; decide, q⟩
theorem w_num {d : D} (h : plB d = true) (hn : nums d = false) {Q : D → Prop} {Z : ZX} (z : Z (.bare A.cInvalidOperation)) : jaA K A [d] Q Z := by
  unfold jaA jcA
  simp only [fnS,Pu.startB,sSeq,sAsg,sIf,sRet,sNext,sNew,sApp,sPar,sDem,demB,fVar,fVarT,fC,fOp,fTst,fAnd,fOr,fNot,fNew,fLst,fTup,fNil,fCons,fSl,Pu.oAt,oNo,fCB,fCall,fIf,jaf,fRng1,fIt,fJoin,RLen,RI0,RAdd,RIx,RSl,RIsN,jag,RIn,gN,bD,jA,jB,jC,jD,jE,jF,jG,Nat.reduceSub,Nat.reduceAdd,jH,jI,jJ,jK,jL,jM,jN,jO,jP,jQ,jR,exists_eq_left',exists_eq_left,exists_and_left,ex_eq,true_and,and_true,jS,jcM]
  refine jey h ⟨_, rfl, ?_⟩
  rw [hn]
  exact z
theorem w_st {d : D} (h : plB d = true) (hn : stb d = false) {Q : D → Prop} {Z : ZX} (z : Z (.bare A.cInvalidTable)) : jbN K A [d] Q Z := by
  unfold jbN jfC
  simp only [fnS,Pu.startB,sSeq,sAsg,sIf,sRet,sNext,sNew,sApp,sPar,sDem,demB,fVar,fVarT,fC,fOp,fTst,fAnd,fOr,fNot,fNew,fLst,fTup,fNil,fCons,fSl,Pu.oAt,oNo,fCB,fCall,fIf,jaf,fRng1,fIt,fJoin,RLen,RI0,RAdd,RIx,RSl,RIsN,jag,RIn,gN,bD,jA,jB,jC,jD,jE,jF,jG,Nat.reduceSub,Nat.reduceAdd,jH,jI,jJ,jK,jL,jM,jN,jO,jP,jQ,jR,exists_eq_left',exists_eq_left,exists_and_left,ex_eq,true_and,and_true,jS,jcM]
  refine is_st h ⟨_, rfl, ?_⟩
  rw [hn]
  exact z
theorem w_tab {d : D} (h : ∀ (Q : D → Prop) (Z : ZX), Q (.bl false) → jai K A [d] Q Z) {Q : D → Prop} {Z : ZX} (z : Z (.bare A.cInvalidTable)) : jba K A [d] Q Z := by
  unfold jba jdv
  simp only [fnS,Pu.startB,sSeq,sAsg,sIf,sRet,sNext,sNew,sApp,sPar,sDem,demB,fVar,fVarT,fC,fOp,fTst,fAnd,fOr,fNot,fNew,fLst,fTup,fNil,fCons,fSl,Pu.oAt,oNo,fCB,fCall,fIf,jaf,fRng1,fIt,fJoin,RLen,RI0,RAdd,RIx,RSl,RIsN,jag,RIn,gN,bD,jA,jB,jC,jD,jE,jF,jG,Nat.reduceSub,Nat.reduceAdd,jH,jI,jJ,jK,jL,jM,jN,jO,jP,jQ,jR,exists_eq_left',exists_eq_left,exists_and_left,ex_eq,true_and,and_true,jS,jcM]
  refine h _ _ ⟨_, rfl, ?_⟩
  exact z
theorem rd_no {d : D} (h : plB d = true) (hd : ∀ z, d ≠ .str z) {Q : D → Prop} {Z : ZX} (z : Z (.kept A.cParseError ["line"] [.non])) : jad K A [d] Q Z := by
  unfold jad jbR
  simp only [fnS,Pu.startB,sSeq,sAsg,sIf,sRet,sNext,sNew,sApp,sPar,sDem,demB,fVar,fVarT,fC,fOp,fTst,fAnd,fOr,fNot,fNew,fLst,fTup,fNil,fCons,fSl,Pu.oAt,oNo,fCB,fCall,fIf,jaf,fRng1,fIt,fJoin,RLen,RI0,RAdd,RIx,RSl,RIsN,jag,RIn,gN,bD,jA,jB,jC,jD,jE,jF,jG,Nat.reduceSub,Nat.reduceAdd,jH,jI,jJ,jK,jL,jM,jN,jO,jP,jQ,jR,exists_eq_left',exists_eq_left,exists_and_left,ex_eq,true_and,and_true,jS,fIsi,jdO]
  refine ⟨pl_ok h, ?_⟩
  cases d with
  | str z => exact absurd rfl (hd z)
  | _ =>
    first
      | cases h; done
      | exact z
theorem pg_no {d : D} (h : plB d = true) (hP : ∀ n ∈ seven, PySem.W.kitOne K (.type n) (.ref A.cProgram) = some false) {Q : D → Prop} {Z : ZX} (z : Z (.bare A.cInvalidProgram)) : jbj K A [d] Q Z := by
  unfold jbj jdk
  simp only [fnS,Pu.startB,sSeq,sAsg,sIf,sRet,sNext,sNew,sApp,sPar,sDem,demB,fVar,fVarT,fC,fOp,fTst,fAnd,fOr,fNot,fNew,fLst,fTup,fNil,fCons,fSl,Pu.oAt,oNo,fCB,fCall,fIf,jaf,fRng1,fIt,fJoin,RLen,RI0,RAdd,RIx,RSl,RIsN,jag,RIn,gN,bD,jA,jB,jC,jD,jE,jF,jG,Nat.reduceSub,Nat.reduceAdd,jH,jI,jJ,jK,jL,jM,jN,jO,jP,jQ,jR,exists_eq_left',exists_eq_left,exists_and_left,ex_eq,true_and,and_true,jS,fIsc,jcM]
  refine ⟨false, ⟨pl_ok h, ?_⟩, z⟩
  cases d <;> first | exact ⟨rfl, hP⟩ | cases h
def rwsB : D → Bool
  | .tup (d :: ds) => ((d :: ds).zipIdx 0).all fun p => rwB p.2 p.1
  | _ => false
theorem jpe {α : Type} (f : α → D) : ∀ (l : List α) (n : Nat), enumD n (l.map f) = (l.zipIdx n).map fun p => D.tup [.int (p.2 : Nat), f p.1]
  | [], _ => rfl
  | x :: l, n => by
    show D.tup [.int (n : Nat), f x] :: enumD (n + 1) (l.map f) = _
    rw [jpe f l (n + 1)]
    rfl
theorem jxK (l : List D) (n : Nat) : enumD n l = (l.zipIdx n).map fun p => D.tup [.int (p.2 : Nat), p.1] := by
  have h := jpe id l n
  rw [List.map_id] at h
  exact h
/-- the rows looked at, each at its place -/
theorem juh {d : D} {ds : List D} {ρ : Pu.Env} (hρ : ρ = [.val (.tup (d :: ds)), .un, .un, .un]) (hl : (d :: ds).length ≤ 100) (hm : ∀ x ∈ d :: ds, plB x = true) {P : List D → Prop} (q : ∀ bs : List Bool, bs.all id = rwsB (.tup (d :: ds)) → P (bs.map .bl)) :
    lcD (gT [1, 2]) fYes (fCall (jbU K A) 2 (fCons (fVar 2) (fCons (fVar 1) fNil))) ρ (enumD 0 (d :: ds)) P := by
  subst hρ
  rw [jxK]
  refine lc_g (p := fun _ => true) (f := fun p : D × Nat => D.bl (rwB p.2 p.1)) ((d :: ds).zipIdx 0) (fun x hx => ⟨_, fun k hk => ⟨_, rfl, rfl, hk⟩, fun R r => r, fun _ R r => ?_⟩) ?_
  · have hm' : plB x.1 = true := hm x.1 (List.fst_mem_of_mem_zipIdx hx)
    simp only [fnS,Pu.startB,sSeq,sAsg,sIf,sRet,sNext,sNew,sApp,sPar,sDem,demB,fVar,fVarT,fC,fOp,fTst,fAnd,fOr,fNot,fNew,fLst,fTup,fNil,fCons,fSl,Pu.oAt,oNo,fCB,fCall,fIf,jaf,fRng1,fIt,fJoin,RLen,RI0,RAdd,RSl,RIsN,jag,gN,bD,jA,jB,jC,jD,jE,jF,jG,Nat.reduceSub,Nat.reduceAdd,jH,jI,jJ,jK,jL,jM,jN,jO,jP,jQ,jR,exists_eq_left',exists_eq_left,exists_and_left,ex_eq,true_and,and_true,jS,jT,jU,jV,jW,wipeB,lenD,itD,jX,jY,jZ,ja,if_true,if_false,ite_true,ite_false,jb,jc,and_assoc,jd]
    exact is_rw hm' r
  · rw [List.filter_eq_self.mpr (fun _ _ => rfl)]
    have h := q (((d :: ds).zipIdx 0).map fun p => rwB p.2 p.1) (by rw [List.all_map]; rfl)
    rw [List.map_map] at h
    exact h
theorem w_rows {d : D} (h : plB d = true) (hs : isT d = true → shp d) (hn : rwsB d = false) {Q : D → Prop} {Z : ZX} (z : Z (.bare A.cInvalidRows)) : jbi K A [d] Q Z := by
  unfold jbi jeb
  simp only [fnS,Pu.startB,sSeq,sAsg,sIf,sRet,sNext,sNew,sApp,sPar,sDem,demB,fVar,fVarT,fC,fOp,fTst,fAnd,fOr,fNot,fNew,fLst,fTup,fNil,fCons,fSl,Pu.oAt,oNo,fCB,fCall,fIf,jaf,fRng1,fIt,fJoin,RLen,RI0,RAdd,RSl,RIsN,jag,gN,bD,jA,jB,jC,jD,jE,jF,jG,Nat.reduceSub,Nat.reduceAdd,jH,jI,jJ,jK,jL,jM,jN,jO,jP,jQ,jR,exists_eq_left',exists_eq_left,exists_and_left,ex_eq,true_and,and_true,jS,jT,jU,jV,jW,wipeB,lenD,itD,jX,jY,jZ,ja,if_true,if_false,ite_true,ite_false,jb,jc,and_assoc,jd,fIsi,fLc,RAll,jcM,fEnum]
  refine ⟨pl_ok h, ?_⟩
  have hk : ∀ ds, kdIs (kdD (D.tup ds)) "tuple" = true := fun _ => rfl
  cases d with
  | tup ds =>
    obtain ⟨hl, hm⟩ := jjp h
    rw [hk, if_neg (by decide)]
    refine ⟨by rw [sizeLine_eq]; decide, ?_⟩
    cases ds with
    | nil => exact ⟨(show SeqAt.shaped (toP (.tup [])) = true by decide +kernel), (show SeqAt.shaped (toP (.tup [])) = true by decide +kernel), _, rfl, z⟩
    | cons d ds =>
      refine ⟨hs rfl, (show SeqAt.shaped (toP (.tup [])) = true by decide +kernel), _, rfl, ?_⟩
      rw [if_neg (show ¬ PyData.eqv (toP (.tup (d :: ds))) (toP (.tup [])) = true by simp [toP, toPs, PyData.eqv, PyData.eqvAll])]
      refine ⟨_, rfl, by rw [jiN, sizeLine_eq]; omega, ?_⟩
      refine juh rfl hl hm fun bs hb => ?_
      refine ⟨_, jcr id bs, ?_⟩
      rw [List.map_id, hb, hn]
      exact z
  | _ =>
    first
      | cases h; done
      | exact z
end
end K72
set_option maxHeartbeats 2000000
namespace K72
open PySem PySem.Spec PyProof.Rows L2 Ly Pu TM LamX
def NS : List D := [.non, .int 0, .lst [.int 0], .tup [.int (-1)], .tup [.bl true], .tup [.str "0"], .tup [.int 1000000000000000000000000000000000000000000000000000000000000], .tup [.non], .str "0", .dic [] [], .tup [.tup [.int 0]]]
theorem NS_no : ∀ d ∈ NS, plB d = true ∧ nums d = false := by decide +kernel
def SS : List D := [.non, .tup [], .tup [.tup []], .tup [.tup [], .tup [], .tup []], .lst [.tup [], .tup []], .tup [.tup [.int 1, .int 0], .tup []], .tup [.tup [.int 0, .int 0], .tup []], .tup [.tup [], .tup [.tup [.int 1], .tup [.int 0]]], .tup [.tup [], .tup [.tup [], .tup []]],
  .tup [.tup [], .lst [.tup []]], .tup [.tup [.bl true], .tup []], .tup [.tup [], .tup [.int 0]], .tup [.tup [.int (-1)], .tup []], .str "- | none", .dic [] [], .int 0]
theorem SS_no : ∀ d ∈ SS, plB d = true ∧ stb d = false := by decide +kernel
def RS : List D := [.non, .tup [], .lst [.tup [.str "a", .tup []]], .tup [.tup [.str "a"]], .tup [.tup [.str "a", .tup [.int 0]]], .tup [.tup [.str "A", .tup []]], .tup [.tup [.str "a", .lst []]], .tup [.tup [.str "a", .tup []], .tup [.str "f", .tup [.int 1]]], .str "a",
  .tup [.tup [.str "a", .tup []], .tup [.str "f", .tup [.int 0, .int 0, .int 0, .int 0]]], .tup [.tup [.str "a", .tup []], .tup [.str "f", .tup [.bl true]]], .dic [] [], .int 0]
theorem RS_no : ∀ d ∈ RS, plB d = true ∧ rwsB d = false ∧ (isT d = true → SeqAt.shaped (toP d) = true) := by decide +kernel
def PS : List D := [.non, .int 0, .tup [], .str "a => a", .dic [] [], .lst [], .bl true]
theorem PS_no : ∀ d ∈ PS, plB d = true := by decide +kernel
def TS : List D := [.non, .int 0, .tup [], .lst [.str "a"], .dic [] [], .bl true]
theorem TS_no : ∀ d ∈ TS, plB d = true ∧ ∀ z, d ≠ .str z := by
  intro d hd
  simp only [TS, List.mem_cons, List.not_mem_nil, or_false] at hd
  rcases hd with rfl | rfl | rfl | rfl | rfl | rfl <;> exact ⟨by decide +kernel, fun z h => by cases h⟩
def e0 : D := .tup [.tup [], .tup []]
def TBS (o : Obj) (st : D) : List D := [.non, .tup [], .lst [], .dic [.inl 0] [e0], .dit [[.inl 0]] [e0], .dit [[.inl 0, .inl 0, .inl 0]] [e0], .dit [[.inl 0, .inl (-1)]] [e0], .str "none", .int 0, .dit [[.inl 0, .inl 0]] [st], .xt (OdT o) [.tup [.int 0, .bl true], e0], .dit [[.inl 0, .inl 0], [.inl 0, .inl 1]] [e0, .non]]
theorem jxL {K : PySem.W.Frag} {A : Adr} {o : Obj} {st tb : D} (hs : plB st = true ∧ stb st = false) (h : tb ∈ TBS o st) : ∀ (Q : D → Prop) (Z : ZX), Q (.bl false) → jai K A [tb] Q Z := by
  intro Q Z q
  simp only [TBS, List.mem_cons, List.not_mem_nil, or_false] at h
  rcases h with rfl | rfl | rfl | rfl | rfl | rfl | rfl | rfl | rfl | rfl | rfl | rfl
  · exact jpc rfl (fun _ _ z => by cases z) q
  · exact jpc rfl (fun _ _ z => by cases z) q
  · exact jpc rfl (fun _ _ z => by cases z) q
  · exact jxJ q
  · exact jgC (by decide) (by decide +kernel) (by decide) (by decide +kernel) (by rw [show (([[.inl 0]] : List (List Key)).all fun k => nums (.tup (k.map kD)) && decide (k.length = 2)) = false by decide +kernel]; exact q)
  · exact jgC (by decide) (by decide +kernel) (by decide) (by decide +kernel) (by rw [show (([[.inl 0, .inl 0, .inl 0]] : List (List Key)).all fun k => nums (.tup (k.map kD)) && decide (k.length = 2)) = false by decide +kernel]; exact q)
  · exact jgC (by decide) (by decide +kernel) (by decide) (by decide +kernel) (by rw [show (([[.inl 0, .inl (-1)]] : List (List Key)).all fun k => nums (.tup (k.map kD)) && decide (k.length = 2)) = false by decide +kernel]; exact q)
  · exact jpc rfl (fun _ _ z => by cases z) q
  · exact jpc rfl (fun _ _ z => by cases z) q
  · refine jgC (by decide) (by decide +kernel) (ds := [st]) (ks := [[.inl 0, .inl 0]]) (show 1 ≤ 10 by decide) (fun d hd => by rw [List.mem_singleton.mp hd]; exact hs.1) ?_
    rw [show [st].all stb = false by simp [hs.2], Bool.and_false]
    exact q
  · exact tab_od q
  · refine jgC (by decide) (by decide +kernel) (by decide) (by decide +kernel) ?_
    rw [show ([e0, .non] : List D).all stb = false by decide +kernel, Bool.and_false]
    exact q
theorem ne_by {a b : D} (hs : sc a b = none) (h1 : SeqAt.shaped (toP a) = true) (h2 : SeqAt.shaped (toP b) = true) (e : PyData.eqv (toP a) (toP b) = true) {Q : D → Prop} (q : Q (.bl false)) : RNe a b Q := by
  unfold RNe
  rw [hs]
  refine ⟨h1, h2, ?_⟩
  rw [e]
  exact q
theorem eq_by {a b : D} (hs : sc a b = none) (h1 : SeqAt.shaped (toP a) = true) (h2 : SeqAt.shaped (toP b) = true) (e : PyData.eqv (toP a) (toP b) = true) {Q : D → Prop} (q : Q (.bl true)) : REq a b Q := by
  unfold REq
  rw [hs]
  refine ⟨h1, h2, ?_⟩
  rw [e]
  exact q
def L5 : D := .lst [.str "operation", .str "table", .str "table", .str "rows", .str "program"]
def P5 : D := .lst [.str "parse None", .str "parse None", .str "parse None", .str "parse None", .str "parse None"]
theorem pow60 : CPowW 10 60 := by
  unfold CPowW
  decide +kernel
section
variable {K : PySem.W.Frag} {A : Adr}
theorem w_pg {d : D} (h : plB d = true) (hP : ∀ n ∈ seven, PySem.W.kitOne K (.type n) (.ref A.cProgram) = some false) {Q : D → Prop} {Z : ZX} (z : Z (.bare A.cInvalidProgram)) : jbB K A [d] Q Z := by
  unfold jbB jed
  simp only [fnS,Pu.startB,sSeq,sAsg,sIf,sRet,sNext,sNew,sApp,sPar,sDem,demB,fVar,fVarT,fC,fOp,fTst,fAnd,fOr,fNot,fNew,fLst,fTup,fNil,fCons,fSl,Pu.oAt,oNo,fCB,fCall,fIf,jaf,fRng1,fIt,fJoin,RLen,RI0,RAdd,RIx,RSl,RIsN,jag,RIn,gN,bD,jA,jB,jC,jD,jE,jF,jG,Nat.reduceSub,Nat.reduceAdd,jH,jI,jJ,jK,jL,jM,jN,jO,jP,jQ,jR,exists_eq_left',exists_eq_left,exists_and_left,ex_eq,true_and,and_true,jS,sDrop]
  exact pg_no h hP z
theorem jui {d : D} (h : plB d = true ∧ ∀ z, d ≠ .str z) {Q : D → Prop} {Z : ZX} (z : Z (.kept A.cParseError ["line"] [.non])) : jam K A [d] Q Z := by
  unfold jam jco
  simp only [fnS,Pu.startB,sSeq,sAsg,sIf,sRet,sNext,sNew,sApp,sPar,sDem,demB,fVar,fVarT,fC,fOp,fTst,fAnd,fOr,fNot,fNew,fLst,fTup,fNil,fCons,fSl,Pu.oAt,oNo,fCB,fCall,fIf,jaf,fRng1,fIt,fJoin,RLen,RI0,RAdd,RIx,RSl,RIsN,jag,RIn,gN,bD,jA,jB,jC,jD,jE,jF,jG,Nat.reduceSub,Nat.reduceAdd,jH,jI,jJ,jK,jL,jM,jN,jO,jP,jQ,jR,exists_eq_left',exists_eq_left,exists_and_left,ex_eq,true_and,and_true,jS,sDrop]
  exact rd_no h.1 h.2 z
theorem jxM {d : D} (h : plB d = true ∧ ∀ z, d ≠ .str z) {Q : D → Prop} {Z : ZX} (z : Z (.kept A.cParseError ["line"] [.non])) : jbX K A [d] Q Z := by
  unfold jbX jho
  simp only [fnS,Pu.startB,sSeq,sAsg,sIf,sRet,sNext,sNew,sApp,sPar,sDem,demB,fVar,fVarT,fC,fOp,fTst,fAnd,fOr,fNot,fNew,fLst,fTup,fNil,fCons,fSl,Pu.oAt,oNo,fCB,fCall,fIf,jaf,fRng1,fIt,fJoin,RLen,RI0,RAdd,RIx,RSl,RIsN,jag,RIn,gN,bD,jA,jB,jC,jD,jE,jF,jG,Nat.reduceSub,Nat.reduceAdd,jH,jI,jJ,jK,jL,jM,jN,jO,jP,jQ,jR,exists_eq_left',exists_eq_left,exists_and_left,ex_eq,true_and,and_true,jS,sDrop]
  exact rd_no h.1 h.2 z
theorem jxN {d : D} (h : plB d = true ∧ ∀ z, d ≠ .str z) {Q : D → Prop} {Z : ZX} (z : Z (.kept A.cParseError ["line"] [.non])) : jbY K A [d] Q Z := by
  unfold jbY jhp
  simp only [fnS,Pu.startB,sSeq,sAsg,sIf,sRet,sNext,sNew,sApp,sPar,sDem,demB,fVar,fVarT,fC,fOp,fTst,fAnd,fOr,fNot,fNew,fLst,fTup,fNil,fCons,fSl,Pu.oAt,oNo,fCB,fCall,fIf,jaf,fRng1,fIt,fJoin,RLen,RI0,RAdd,RIx,RSl,RIsN,jag,RIn,gN,bD,jA,jB,jC,jD,jE,jF,jG,Nat.reduceSub,Nat.reduceAdd,jH,jI,jJ,jK,jL,jM,jN,jO,jP,jQ,jR,exists_eq_left',exists_eq_left,exists_and_left,ex_eq,true_and,and_true,jS,sDrop]
  exact rd_no h.1 h.2 z
theorem r_rows {d : D} (h : plB d = true ∧ ∀ z, d ≠ .str z) {Q : D → Prop} {Z : ZX} (z : Z (.kept A.cParseError ["line"] [.non])) : jci K A [d] Q Z := by
  unfold jci jjk
  simp only [fnS,Pu.startB,sSeq,sAsg,sIf,sRet,sNext,sNew,sApp,sPar,sDem,demB,fVar,fVarT,fC,fOp,fTst,fAnd,fOr,fNot,fNew,fLst,fTup,fNil,fCons,fSl,Pu.oAt,oNo,fCB,fCall,fIf,jaf,fRng1,fIt,fJoin,RLen,RI0,RAdd,RIx,RSl,RIsN,jag,RIn,gN,bD,jA,jB,jC,jD,jE,jF,jG,Nat.reduceSub,Nat.reduceAdd,jH,jI,jJ,jK,jL,jM,jN,jO,jP,jQ,jR,exists_eq_left',exists_eq_left,exists_and_left,ex_eq,true_and,and_true,jS,sDrop]
  exact rd_no h.1 h.2 z
theorem juj {d : D} (h : plB d = true ∧ ∀ z, d ≠ .str z) {Q : D → Prop} {Z : ZX} (z : Z (.kept A.cParseError ["line"] [.non])) : jbH K A [d] Q Z := by
  unfold jbH jeH
  simp only [fnS,Pu.startB,sSeq,sAsg,sIf,sRet,sNext,sNew,sApp,sPar,sDem,demB,fVar,fVarT,fC,fOp,fTst,fAnd,fOr,fNot,fNew,fLst,fTup,fNil,fCons,fSl,Pu.oAt,oNo,fCB,fCall,fIf,jaf,fRng1,fIt,fJoin,RLen,RI0,RAdd,RIx,RSl,RIsN,jag,RIn,gN,bD,jA,jB,jC,jD,jE,jF,jG,Nat.reduceSub,Nat.reduceAdd,jH,jI,jJ,jK,jL,jM,jN,jO,jP,jQ,jR,exists_eq_left',exists_eq_left,exists_and_left,ex_eq,true_and,and_true,jS,sDrop]
  exact rd_no h.1 h.2 z
theorem right (EC : EK K A) (hP : ∀ n ∈ seven, PySem.W.kitOne K (.type n) (.ref A.cProgram) = some false) {Q : D → Prop} {Z : ZX} (q : Q (.bl true)) : jgD K A [.dice] Q Z := by
  unfold jgD jue
  simp only [fnS,Pu.startB,sSeq,sAsg,sIf,sRet,sNext,sNew,sApp,sPar,sDem,demB,fVar,fVarT,fC,fOp,fTst,fAnd,fOr,fNot,fNew,fLst,fTup,fNil,fCons,fSl,Pu.oAt,oNo,fCB,fCall,fIf,jaf,fRng1,fIt,fJoin,RLen,RI0,RAdd,RIx,RSl,RIsN,jag,RIn,gN,bD,jA,jB,jC,jD,jE,jF,jG,Nat.reduceSub,Nat.reduceAdd,jH,jI,jJ,jK,jL,jM,jN,jO,jP,jQ,jR,exists_eq_left',exists_eq_left,exists_and_left,ex_eq,true_and,and_true,jS,jfv,FPick,RRep,RPow,fDic,fDisp,jmq,fDic0,fDit,jiW,fOd,fNeg,sizeLine_eq,Nat.reduceLeDiff,Nat.zero_le,Prod.mk.injEq]
  refine ⟨pow60, by decide, by decide, fun n1 hn1 => ⟨by decide, by decide, fun st hst => ⟨_, rfl, _, rfl, _, rfl, _, rfl, _, rfl, _, _, _, ⟨⟨rfl, rfl⟩, rfl⟩, fun o => ⟨_, rfl, by decide, by decide, fun tb htb => ⟨by decide, by decide, fun rw1 hrw => ⟨by decide, by decide, fun pg hpg => ?_⟩⟩⟩⟩⟩⟩
  have h1 := NS_no n1 hn1
  have h2 := SS_no st hst
  have h3 : ∀ (Q : D → Prop) (Z : ZX), Q (.bl false) → jai K A [tb] Q Z := jxL h2 htb
  have h4 := RS_no rw1 hrw
  have h5 := PS_no pg hpg
  refine jcH ⟨_, rfl, rfl, w_num h1.1 h1.2 (met_o EC ⟨_, rfl, ?_⟩)⟩
  refine jcH ⟨_, rfl, rfl, w_st h2.1 h2.2 (met_t EC ⟨by decide, _, rfl, ?_⟩)⟩
  refine jcH ⟨_, rfl, rfl, w_tab h3 (met_t EC ⟨by decide, _, rfl, ?_⟩)⟩
  refine jcH ⟨_, rfl, rfl, w_rows h4.1 h4.2.2 h4.2.1 (met_r EC ⟨by decide, _, rfl, ?_⟩)⟩
  refine jcH ⟨_, rfl, rfl, w_pg h5 hP (met_g EC ⟨by decide, ?_⟩)⟩
  refine ne_by (a := L5) (b := L5) rfl (by decide +kernel) (by decide +kernel) (by decide +kernel) ⟨_, rfl, ?_⟩
  rw [if_neg (by decide)]
  refine ⟨by decide, by decide, fun tx htx => ?_⟩
  have h6 := TS_no tx htx
  refine jcH ⟨_, rfl, rfl, jui h6 (met_p EC ⟨_, rfl, ?_⟩)⟩
  refine jcH ⟨_, rfl, rfl, jxM h6 (met_p EC ⟨by decide, _, rfl, ?_⟩)⟩
  refine jcH ⟨_, rfl, rfl, jxN h6 (met_p EC ⟨by decide, _, rfl, ?_⟩)⟩
  refine jcH ⟨_, rfl, rfl, r_rows h6 (met_p EC ⟨by decide, _, rfl, ?_⟩)⟩
  refine jcH ⟨_, rfl, rfl, juj h6 (met_p EC ⟨by decide, ?_⟩)⟩
  refine ⟨by decide, by decide, by decide, ?_⟩
  exact eq_by (a := P5) (b := P5) rfl (by decide +kernel) (by decide +kernel) (by decide +kernel) q
end
end K72
set_option maxHeartbeats 1000000
namespace K72
open PySem PySem.Spec PyProof.Rows L2 Ly Pu TM LamX
def Il (ns : List Int) (ρ : Pu.Env) : Prop := ∃ o1, ρ = [.val (.lsk (ns.map .int)), o1, .un]
theorem pow59 : CPowW 10 59 := by
  unfold CPowW
  decide +kernel
theorem mul60 : MulOk "9" 60 := by
  unfold MulOk
  decide +kernel
theorem mul61 : MulOk "9" 61 := by
  unfold MulOk
  decide +kernel
def d1 : D := .tup [.int 100000000000000000000000000000000000000000000000000000000000]
def z60 : Str := Txt.mul "9" 60
def z61 : Str := Txt.mul "9" 61
def r2 : D := .tup [.tup [.str "zzzzzzzz", .tup []], .tup [.str "#", .tup [.int 0, .int 0, .int 0]]]
def RW : List (Str × List Int) := [("zzzzzzzz", []), ("#", [0, 0, 0])]
theorem RW_z : ∀ p ∈ RW, (∀ i ∈ p.2, i = 0) ∧ p.2.length ≤ 3 := by decide +kernel
theorem ite_yes {p : Prop} [Decidable p] {a b : Prop} (h : p) (x : a) : if p then a else b := by rw [if_pos h]; exact x
theorem ite_no {p : Prop} [Decidable p] {a b : Prop} (h : ¬ p) (x : b) : if p then a else b := by rw [if_neg h]; exact x
theorem jxO : SrtT [] := ⟨fun x h => (by cases h), (fun d h => by cases h), fun x h => (by cases h), fun x h => (by cases h)⟩
section
variable {K : PySem.W.Frag} {A : Adr}
theorem f_num {Q : D → Prop} {Z : ZX} (q : ∀ d, Q d) : jaA K A [d1] Q Z := by
  unfold jaA jcA d1
  simp only [fnS,Pu.startB,sSeq,sAsg,sIf,sRet,sNext,sNew,sApp,sPar,sDem,demB,fVar,fVarT,fC,fOp,fTst,fAnd,fOr,fNot,fNew,fLst,fTup,fNil,fCons,fSl,Pu.oAt,oNo,fCB,fCall,fIf,jaf,fRng1,fIt,fJoin,RLen,RI0,RAdd,RIx,RSl,RIsN,jag,RIn,gN,bD,jA,jB,jC,jD,jE,jF,jG,Nat.reduceSub,Nat.reduceAdd,jH,jI,jJ,jK,jL,jM,jN,jO,jP,jQ,jR,exists_eq_left',exists_eq_left,exists_and_left,ex_eq,true_and,and_true,jS,jcM]
  refine jey rfl ⟨_, rfl, ?_⟩
  rw [show nums (.tup [.int 100000000000000000000000000000000000000000000000000000000000]) = true by decide +kernel, if_neg (by decide)]
  unfold jbe jeC
  simp only [fnS,Pu.startB,sSeq,sAsg,sIf,sRet,sNext,sNew,sApp,sPar,sDem,demB,fVar,fVarT,fC,fOp,fTst,fAnd,fOr,fNot,fNew,fLst,fTup,fNil,fCons,fSl,Pu.oAt,oNo,fCB,fCall,fIf,jaf,fRng1,fIt,fJoin,RLen,RI0,RAdd,RIx,RSl,RIsN,jag,RIn,gN,bD,jA,jB,jC,jD,jE,jF,jG,Nat.reduceSub,Nat.reduceAdd,jH,jI,jJ,jK,jL,jM,jN,jO,jP,jQ,jR,exists_eq_left',exists_eq_left,exists_and_left,ex_eq,true_and,and_true,jS,fLc]
  refine ⟨by rw [sizeLine_eq]; decide, (show SeqAt.shaped (toP d1) = true by decide +kernel), (show SeqAt.shaped (toP (.tup [])) = true by decide +kernel), _, rfl, ?_⟩
  refine ite_yes (show (!PyData.eqv (toP d1) (toP (.tup []))) = true by decide +kernel) ?_
  refine ⟨_, rfl, by rw [sizeLine_eq]; exact (show 1 ≤ 16777216 by decide), ?_⟩
  refine jdJ (h := D.int) (f := fun i : Int => D.str (toString i)) [100000000000000000000000000000000000000000000000000000000000] (fun i hi R r => ?_) ⟨_, rfl, _, rfl, ?_, q _⟩
  · rw [List.mem_singleton.mp hi] at r ⊢
    exact ⟨_, _, rfl, rfl, _, rfl, by decide +kernel, r⟩
  · decide +kernel
theorem f_tab {Q : D → Prop} {Z : ZX} (q : ∀ d, Q d) : jba K A [.dit [] []] Q Z := by
  unfold jba jdv
  simp only [fnS,Pu.startB,sSeq,sAsg,sIf,sRet,sNext,sNew,sApp,sPar,sDem,demB,fVar,fVarT,fC,fOp,fTst,fAnd,fOr,fNot,fNew,fLst,fTup,fNil,fCons,fSl,Pu.oAt,oNo,fCB,fCall,fIf,jaf,fRng1,fIt,fJoin,RLen,RI0,RAdd,RIx,RSl,RIsN,jag,RIn,gN,bD,jA,jB,jC,jD,jE,jF,jG,Nat.reduceSub,Nat.reduceAdd,jH,jI,jJ,jK,jL,jM,jN,jO,jP,jQ,jR,exists_eq_left',exists_eq_left,exists_and_left,ex_eq,true_and,and_true,jS,jcM,fLc,fCBN,fJs]
  refine jgC (by decide) (fun k h => by cases h) (by decide) (fun k h => by cases h) ⟨_, rfl, ?_⟩
  rw [if_neg (by decide)]
  refine ⟨[], [], rfl, (fun k h => by cases h), [], rfl, jxO, ?_⟩
  rw [show sortD ([] : List D) = [] by simp [sortD]]
  refine ⟨_, rfl, by rw [sizeLine_eq]; decide, ?_⟩
  refine ⟨by rw [sizeLine_eq]; decide, (show SeqAt.shaped (toP (.lst [])) = true by decide +kernel), (show SeqAt.shaped (toP (.lst [])) = true by decide +kernel), _, rfl, ?_⟩
  exact ite_no (show ¬ (!PyData.eqv (toP (.lst [])) (toP (.lst []))) = true by decide +kernel) (q _)
theorem f_rows {Q : D → Prop} {Z : ZX} (q : ∀ d, Q d) : jbi K A [r2] Q Z := by
  unfold jbi jeb r2
  simp only [fnS,Pu.startB,sSeq,sAsg,sIf,sRet,sNext,sNew,sApp,sPar,sDem,demB,fVar,fVarT,fC,fOp,fTst,fAnd,fOr,fNot,fNew,fLst,fTup,fNil,fCons,fSl,Pu.oAt,oNo,fCB,fCall,fIf,jaf,fRng1,fIt,fJoin,RLen,RI0,RAdd,RSl,RIsN,jag,gN,bD,jA,jB,jC,jD,jE,jF,jG,Nat.reduceSub,Nat.reduceAdd,jH,jI,jJ,jK,jL,jM,jN,jO,jP,jQ,jR,exists_eq_left',exists_eq_left,exists_and_left,ex_eq,true_and,and_true,jS,jT,jU,jV,jW,wipeB,lenD,itD,jX,jY,jZ,ja,if_true,if_false,ite_true,ite_false,jb,jc,and_assoc,jd,fIsi,fLc,RAll,jcM,fEnum]
  refine ⟨True.intro, ?_⟩
  refine ite_no (show ¬ (!kdIs .tup "tuple") = true by decide) ?_
  refine ⟨by rw [sizeLine_eq]; decide, (show SeqAt.shaped (toP r2) = true by decide +kernel), (show SeqAt.shaped (toP (.tup [])) = true by decide +kernel), _, rfl, ?_⟩
  refine ite_no (show ¬ PyData.eqv (toP r2) (toP (.tup [])) = true by decide +kernel) ?_
  refine ⟨by rw [sizeLine_eq]; exact (show 2 ≤ 16777216 by decide), ?_⟩
  refine juh (d := .tup [.str "zzzzzzzz", .tup []]) (ds := [.tup [.str "#", .tup [.int 0, .int 0, .int 0]]]) rfl (show 2 ≤ 100 by decide) (by decide +kernel) fun bs hb => ?_
  refine ⟨_, jcr id bs, ?_⟩
  rw [List.map_id, hb, show rwsB (.tup [.tup [.str "zzzzzzzz", .tup []], .tup [.str "#", .tup [.int 0, .int 0, .int 0]]]) = true by decide +kernel, if_neg (by decide)]
  refine ⟨by rw [sizeLine_eq]; decide, ?_⟩
  refine jdJ (h := fun p : Str × List Int => D.tup [.str p.1, .tup (p.2.map .int)]) (f := fun p => .str (Txt.join " " (p.1 :: p.2.map fun i => toString i))) RW (fun p hp R r => ?_) ⟨_, rfl, _, rfl, by decide +kernel, q _⟩
  · have hz := (RW_z p hp).1
    have hs := (RW_z p hp).2
    simp only [fnS,Pu.startB,sSeq,sAsg,sIf,sRet,sNext,sNew,sApp,sPar,sDem,demB,fVar,fVarT,fC,fOp,fTst,fAnd,fOr,fNot,fNew,fLst,fTup,fNil,fCons,fSl,Pu.oAt,oNo,fCB,fCall,fIf,jaf,fRng1,fIt,fJoin,RLen,RI0,RAdd,RSl,RIsN,jag,gN,bD,jA,jB,jC,jD,jE,jF,jG,Nat.reduceSub,Nat.reduceAdd,jH,jI,jJ,jK,jL,jM,jN,jO,jP,jQ,jR,exists_eq_left',exists_eq_left,exists_and_left,ex_eq,true_and,and_true,jS,jT,jU,jV,jW,wipeB,lenD,itD,jX,jY,jZ,ja,if_true,if_false,ite_true,ite_false,jb,jc,and_assoc,jd,fStar,fLc]
    refine ⟨_, at0, _, at1, _, rfl, by rw [List.length_map, sizeLine_eq]; omega, ?_⟩
    refine jdJ (h := D.int) (f := fun i : Int => D.str (toString i)) p.2 (fun i hi R r => ?_) ?_
    · rw [hz i hi] at r ⊢
      exact ⟨_, _, rfl, rfl, _, rfl, by decide +kernel, r⟩
    · refine ⟨_, rfl, by rw [List.append_nil, List.length_map, sizeLine_eq]; omega, _, rfl, ?_⟩
      rw [List.append_nil]
      simp only [RW, List.mem_cons, List.not_mem_nil, or_false] at hp
      rcases hp with rfl | rfl
      · exact ⟨_, rfl, by decide +kernel, r⟩
      · exact ⟨_, rfl, by decide +kernel, r⟩
theorem f_rd {z : Str} (hz : z.length ≤ 1000) {l : List Nat} (hn : numsF z = some l) {Q : D → Prop} {Z : ZX} (q : ∀ d, Q d) : jam K A [.str z] Q Z := by
  unfold jam jco
  simp only [fnS,Pu.startB,sSeq,sAsg,sIf,sRet,sNext,sNew,sApp,sPar,sDem,demB,fVar,fVarT,fC,fOp,fTst,fAnd,fOr,fNot,fNew,fLst,fTup,fNil,fCons,fSl,Pu.oAt,oNo,fCB,fCall,fIf,jaf,fRng1,fIt,fJoin,RLen,RI0,RAdd,RIx,RSl,RIsN,jag,RIn,gN,bD,jA,jB,jC,jD,jE,jF,jG,Nat.reduceSub,Nat.reduceAdd,jH,jI,jJ,jK,jL,jM,jN,jO,jP,jQ,jR,exists_eq_left',exists_eq_left,exists_and_left,ex_eq,true_and,and_true,jS,sDrop,jdO]
  unfold jad jbR
  simp only [fnS,Pu.startB,sSeq,sAsg,sIf,sRet,sNext,sNew,sApp,sPar,sDem,demB,fVar,fVarT,fC,fOp,fTst,fAnd,fOr,fNot,fNew,fLst,fTup,fNil,fCons,fSl,Pu.oAt,oNo,fCB,fCall,fIf,jaf,fRng1,fIt,fJoin,RLen,RI0,RAdd,RIx,RSl,RIsN,jag,RIn,gN,bD,jA,jB,jC,jD,jE,jF,jG,Nat.reduceSub,Nat.reduceAdd,jH,jI,jJ,jK,jL,jM,jN,jO,jP,jQ,jR,exists_eq_left',exists_eq_left,exists_and_left,ex_eq,true_and,and_true,jS,fIsi,jdO]
  refine ⟨True.intro, ?_⟩
  refine ite_no (show ¬ (!kdIs .str "str") = true by decide) ?_
  refine jmA (by omega) ?_
  rw [hn]
  exact q _
theorem jxP {z : Str} (hz : z.length ≤ 1000) (hn : numsF z = none) {Q : D → Prop} {Z : ZX} (zz : Z (.kept A.cParseError ["line"] [.non])) : jam K A [.str z] Q Z := by
  unfold jam jco
  simp only [fnS,Pu.startB,sSeq,sAsg,sIf,sRet,sNext,sNew,sApp,sPar,sDem,demB,fVar,fVarT,fC,fOp,fTst,fAnd,fOr,fNot,fNew,fLst,fTup,fNil,fCons,fSl,Pu.oAt,oNo,fCB,fCall,fIf,jaf,fRng1,fIt,fJoin,RLen,RI0,RAdd,RIx,RSl,RIsN,jag,RIn,gN,bD,jA,jB,jC,jD,jE,jF,jG,Nat.reduceSub,Nat.reduceAdd,jH,jI,jJ,jK,jL,jM,jN,jO,jP,jQ,jR,exists_eq_left',exists_eq_left,exists_and_left,ex_eq,true_and,and_true,jS,sDrop,jdO]
  unfold jad jbR
  simp only [fnS,Pu.startB,sSeq,sAsg,sIf,sRet,sNext,sNew,sApp,sPar,sDem,demB,fVar,fVarT,fC,fOp,fTst,fAnd,fOr,fNot,fNew,fLst,fTup,fNil,fCons,fSl,Pu.oAt,oNo,fCB,fCall,fIf,jaf,fRng1,fIt,fJoin,RLen,RI0,RAdd,RIx,RSl,RIsN,jag,RIn,gN,bD,jA,jB,jC,jD,jE,jF,jG,Nat.reduceSub,Nat.reduceAdd,jH,jI,jJ,jK,jL,jM,jN,jO,jP,jQ,jR,exists_eq_left',exists_eq_left,exists_and_left,ex_eq,true_and,and_true,jS,fIsi,jdO]
  refine ⟨True.intro, ?_⟩
  refine ite_no (show ¬ (!kdIs .str "str") = true by decide) ?_
  refine jmA (by omega) ?_
  rw [hn]
  exact zz
end
end K72
namespace K72
open PySem PySem.Spec PyProof.Rows L2 Ly Pu TM LamX
def F5 : D := .lst [.str "fine", .str "fine", .str "fine", .str "fine", .str "parse None"]
theorem z60_l : z60.length ≤ 1000 := by decide +kernel
theorem z61_l : z61.length ≤ 1000 := by decide +kernel
theorem z60_n : numsF z60 = some [999999999999999999999999999999999999999999999999999999999999] := by decide +kernel
theorem z61_n : numsF z61 = none := by decide +kernel
section
variable {K : PySem.W.Frag} {A : Adr}
theorem law_ok (EC : EK K A) (hP : ∀ n ∈ seven, PySem.W.kitOne K (.type n) (.ref A.cProgram) = some false) {ns : List Int} (hl : ns.length ≤ 63) {Q : D → Prop} {Z : ZX} (q : Q (.bl true)) : G_law K A [.lsk (ns.map .int)] Q Z := by
  unfold G_law S_law
  simp only [fnS,Pu.startB,sSeq,sAsg,sIf,sRet,sNext,sNew,sApp,sPar,sDem,demB,fVar,fVarT,fC,fOp,fTst,fAnd,fOr,fNot,fNew,fLst,fTup,fNil,fCons,fSl,Pu.oAt,oNo,fCB,fCall,fIf,jaf,fRng1,fIt,fJoin,RLen,RI0,RAdd,RIx,RSl,RIsN,jag,RIn,gN,bD,jA,jB,jC,jD,jE,jF,jG,Nat.reduceSub,Nat.reduceAdd,jH,jI,jJ,jK,jL,jM,jN,jO,jP,jQ,jR,exists_eq_left',exists_eq_left,exists_and_left,ex_eq,true_and,and_true,jS,lenD,sFor,RMax2,RMin2,RPow,RMulS,fDit,fDit0]
  refine ⟨_, _, ⟨rfl, rfl⟩, ?_⟩
  refine ⟨_, _, ⟨rfl, rfl⟩, ⟨by rw [List.length_map]; split <;> split <;> omega, by rw [List.length_map]; split <;> split <;> omega⟩, ?_⟩
  refine jpb (Il ns) _ (fun d ρ D' hd hρ hn hrt hex => ?_) (fun ρ hρ => ?_) _ _ (fun d hd => hd) ⟨_, rfl⟩
  · obtain ⟨o1, rfl⟩ := hρ
    obtain ⟨k, _, rfl⟩ := List.mem_map.mp hd
    have e : ((0 : Int) + (k : Nat) * 1) = (k : Int) := by omega
    refine ⟨_, rfl, _, rfl, rfl, ns, k, by rw [e], ?_⟩
    refine ⟨rfl, right EC hP ⟨_, rfl, ?_⟩⟩
    show if (!true) = true then _ else _
    rw [if_neg (by decide)]
    exact hn _ ⟨_, rfl⟩
  · obtain ⟨o1, rfl⟩ := hρ
    simp only [fnS,Pu.startB,sSeq,sAsg,sIf,sRet,sNext,sNew,sApp,sPar,sDem,demB,fVar,fVarT,fC,fOp,fTst,fAnd,fOr,fNot,fNew,fLst,fTup,fNil,fCons,fSl,Pu.oAt,oNo,fCB,fCall,fIf,jaf,fRng1,fIt,fJoin,RLen,RI0,RAdd,RSl,RIsN,jag,gN,bD,jA,jB,jC,jD,jE,jF,jG,Nat.reduceSub,Nat.reduceAdd,jH,jI,jJ,jK,jL,jM,jN,jO,jP,jQ,jR,exists_eq_left',exists_eq_left,exists_and_left,ex_eq,true_and,and_true,jS,jT,jU,jV,jW,wipeB,lenD,itD,jX,jY,jZ,ja,if_true,if_false,ite_true,ite_false,jb,jc,and_assoc,jd,RPow,RMulS,fDit,fDit0]
    have z5 : ∀ n : Nat, n ≤ 100 → n ≤ sizeLine := fun n h => by rw [sizeLine_eq]; omega
    have z6 : ∀ n : Nat, n ≤ 100 → n < sizeLine := fun n h => by rw [sizeLine_eq]; omega
    refine jcH ⟨10, 59, rfl, rfl, pow59, z5 _ (show 1 ≤ 100 by decide), rfl, f_num fun _ => ?_⟩
    refine ⟨z5 _ (by decide), _, rfl, ?_⟩
    refine jcH ⟨rfl, f_tab fun _ => ?_⟩
    refine ⟨z6 _ (by decide), _, rfl, ?_⟩
    refine jcH ⟨z5 _ (by decide), z5 _ (by decide), z5 _ (by decide), z5 _ (by decide), z5 _ (by decide), rfl, f_rows fun _ => ?_⟩
    refine ⟨z6 _ (by decide), _, rfl, ?_⟩
    refine jcH ⟨mul60, rfl, f_rd (z := z60) z60_l z60_n fun _ => ?_⟩
    refine ⟨z6 _ (by decide), _, rfl, ?_⟩
    refine jcH ⟨mul61, rfl, jxP (z := z61) z61_l z61_n (met_p EC ?_)⟩
    refine ⟨z6 _ (by decide), z5 _ (by decide), ?_⟩
    exact eq_by (a := F5) (b := F5) rfl (by decide +kernel) (by decide +kernel) (by decide +kernel) q
end
end K72
namespace K72Di
open PySem L2 Ly
open K72 (top Txt)
section
variable {P : Program} {w : World} {K : PySem.W.Frag} {mg : Str → Option Value} {base : Heap}
abbrev jeI : Stmt := top 113
abbrev jxQ : List Str := ["_law_script", "_law_spot", "_law_cell", "_law_great", "_law_blend"]
abbrev juk : List Str := ["_law_script", "_law_spot"]
theorem jul : FnScope jxQ juk (defScope jeI) := ⟨rfl, rfl, rfl, by decide +kernel, rfl, by decide +kernel, by decide +kernel⟩
theorem jvR {f : Addr} {fd : FuncData} (F : Fun K "_law_dice" "_law_dice" jeI f fd) (T : Txt K mg) : FnOk P w K mg base CX0 1 f fd ["_law_script", "_law_spot"] (jxm K) := by
  have nd := jul.nd
  refine F.ok jul (fun vs H Q E h => ?_) (fun cdv A outer s H vs Q E hr h => ?_)
  · obtain ⟨_, _, _, rfl, _⟩ := h
    rfl
  · obtain ⟨a, ns, n, rfl, hS, k⟩ := h
    refine ⟨_, (pss_cons (ps_set (i := 2) nd rfl (Or.inl rfl) (pe_op op_add (pe_op op_mul pe_int (pv 1)) pe_int))
      (Evl.pss_cut (ps_if (pt_cmpR op_lt (pv 1) (pe_callB (jiI (K := K)) (by rfl) T.z_len (by decide +kernel) (pa_cons (pv 0) pa_nil)) (nomark _)) (pss_one (ps_set (i := 2) nd rfl (Or.inl rfl) (pe_ix (kix_list (K := K)) (pv 0) (pv 1) (fun _ _ => rfl)))) pss_nil)
      (pss_cons (ps_set (i := 3) nd rfl (Or.inl rfl) (pe_op op_mod (pe_callTy call_int1 (by rfl) T.z_int (by decide +kernel) (pa_cons (pe_callB call_abs (by rfl) T.z_abs (by decide +kernel) (pa_cons (pv 2) pa_nil)) pa_nil)) (pe_op jiH (pe_op jiH pe_int pe_int) pe_int)))
      (pss_cons (ps_set (i := 4) nd rfl (Or.inl rfl) (pe_op op_add (pe_op op_add (pe_op op_add (pe_op op_mul (pe_op op_mod (pe_callTy call_int1 (by rfl) T.z_int (by decide +kernel) (pa_cons (pv 3) pa_nil)) pe_int) pe_int) (pe_op op_mul pe_int (pv 1))) (pe_op op_mul pe_int (pe_callTy call_int1 (by rfl) T.z_int (by decide +kernel) (pa_cons (pe_cmpR op_lt (pv 2) pe_int (nomark _)) pa_nil)))) pe_int))
      (pss_one (ps_ret (pe_lst (pa_cons (pe_callB (call_max2 rfl) (by rfl) T.z_max (by decide +kernel) (pa_cons pe_int (pa_cons (pe_op op_sub (pv 3) (pe_op jiH pe_int pe_int)) pa_nil))) (pa_cons (pe_op op_mod (pe_callTy call_int1 (by rfl) T.z_int (by decide +kernel) (pa_cons (pv 4) pa_nil)) pe_int) (pa_cons pe_int pa_nil)))))))))), ?_⟩
    -- cell = 53 * spot + 29
    refine ⟨_, rfl, _, _, rfl, rfl, Or.inl ⟨by decide, by decide⟩, _, _, rfl, rfl, ?_⟩
    -- if spot < len(script)
    refine ⟨fun σ H' => ∃ cell : Int, σ = [some (.ref a), some (.int n), some (.int cell), none, none] ∧ H' = H, ?_, ?_⟩
    · refine ⟨_, rfl, _, rfl, a, _, rfl, Or.inl hS, _, _, rfl, rfl, _, rfl, ite2 (fun hc => ?_) (fun hc => ?_)⟩
      · have hc : (n : Int) < ((ns.map V.int).length : Int) := of_decide_eq_true hc
        have hl : n < ns.length := by
          rw [List.length_map] at hc
          omega
        exact ⟨_, rfl, _, rfl, a, _, _, _, rfl, rfl, hS, atI_nat (v := .int ns[n]) (by simp [hl]), ns[n], rfl, rfl⟩
      · exact ⟨_, rfl, rfl⟩
    · rintro σ H' ⟨cell, rfl, rfl⟩
      -- great
      refine ⟨_, rfl, _, rfl, Or.inl ⟨_, rfl, _, _, rfl, rfl, ⟨by decide, by decide +kernel⟩, _, _, rfl, rfl, ⟨by decide, by decide +kernel⟩, _, _, rfl, rfl, by show (0 : Int) < _; decide +kernel, ?_⟩⟩
      -- blend
      refine ⟨_, rfl, Or.inl ⟨_, rfl, _, _, rfl, rfl, by show (0 : Int) < 2305843009213693723; decide, _, _, rfl, rfl, Or.inr ⟨by decide, by decide⟩, _, rfl, _, _, rfl, rfl, Or.inl ⟨by decide, by decide⟩, _, _, rfl, rfl, _, rfl, _, _, rfl, rfl, Or.inr ⟨_, rfl, _, _, rfl, rfl, Or.inl ⟨by decide, by decide⟩, _, _, rfl, rfl, _, _, rfl, rfl, ?_⟩⟩⟩
      -- return
      refine ⟨_, rfl, _, _, rfl, rfl, ⟨by decide, by decide +kernel⟩, _, _, rfl, rfl, _, _, rfl, _, rfl, Or.inl ⟨_, rfl, _, _, rfl, rfl, by show (0 : Int) < 2305843009213693723; decide, by show 3 ≤ sizeLine; decide, fun p hp => ?_⟩⟩
      exact k p _ _ _ hp
theorem jxR {f : Addr} {fd : FuncData} (F : Fun K "_law_dice" "_law_dice" jeI f fd) (T : Txt K mg) : FnOk P w K mg base CX0 1 f fd ["_law_script", "_law_spot"] (jwu K) := by
  refine (jtg (jvR F T)).imp fun vs H Q E h => ?_
  obtain ⟨a, ns, n, rfl, hS, k⟩ := h
  refine ⟨a, ns, n, rfl, hS, fun p x y z hp => ⟨p, x, y, z, rfl, upd_same, ?_⟩⟩
  rw [upd_upd]
  exact k p hp
abbrev jeJ : Stmt := top 114
abbrev jxS : List Str := ["_law_dice_here", "_law_total", "_law_found", "_law_one", "_law_two"]
abbrev jqT : List Str := ["_law_dice_here", "_law_total"]
theorem jum : FnScope jxS jqT (defScope jeJ) := ⟨rfl, rfl, rfl, by decide +kernel, rfl, by decide +kernel, by decide +kernel⟩
theorem jvS {f : Addr} {fd : FuncData} (F : Fun K "_law_roll" "_law_roll" jeJ f fd) (T : Txt K mg) : FnOk P w K mg base CX0 1 f fd ["_law_dice_here", "_law_total"] jxn := by
  have nd := jum.nd
  refine F.ok jum (fun vs H Q E h => ?_) (fun cdv A outer s H vs Q E hr h => ?_)
  · obtain ⟨_, _, _, _, _, rfl, _⟩ := h
    rfl
  · obtain ⟨p, t, a, b, c, rfl, ht, ht2, hp, k⟩ := h
    refine ⟨_, (pss_cons (ps_if (pt_cmpR op_gt (pe_ix (kix_list (K := K)) (pv 0) pe_int (fun _ _ => rfl)) pe_int (nomark _)) (pss_cons (ps_set (i := 2) nd rfl (Or.inl rfl) (pe_op op_mod (pe_callTy call_int1 (by rfl) T.z_int (by decide +kernel) (pa_cons (pe_ix (kix_list (K := K)) (pv 0) pe_int (fun _ _ => rfl)) pa_nil)) (pv 1)))
      (pss_cons (ps_asg (pe_op op_fdiv (pe_ix (kix_list (K := K)) (pv 0) pe_int (fun _ _ => rfl)) (pv 1)) (pg_sub (pv 0) pe_int set_list))
      (pss_one (ps_ret (pv 2))))) pss_nil)
      (pss_cons (ps_asg (pe_op op_add (pe_ix (kix_list (K := K)) (pv 0) pe_int (fun _ _ => rfl)) pe_int) (pg_sub (pv 0) pe_int set_list))
      (pss_cons (ps_set (i := 3) nd rfl (Or.inl rfl) (pe_op op_mod (pe_callTy call_int1 (by rfl) T.z_int (by decide +kernel) (pa_cons (pe_op op_add (pe_ix (kix_list (K := K)) (pv 0) pe_int (fun _ _ => rfl)) (pe_op op_mul pe_int (pe_ix (kix_list (K := K)) (pv 0) pe_int (fun _ _ => rfl)))) pa_nil)) pe_int))
      (pss_cons (ps_set (i := 4) nd rfl (Or.inl rfl) (pe_op op_add (pe_op op_mul (pe_op op_mod (pe_callTy call_int1 (by rfl) T.z_int (by decide +kernel) (pa_cons (pe_op op_mul (pv 3) (pv 3)) pa_nil)) pe_int) (pv 3)) (pe_op op_mul pe_int (pe_ix (kix_list (K := K)) (pv 0) pe_int (fun _ _ => rfl)))))
      (pss_cons (ps_set (i := 4) nd rfl (Or.inl rfl) (pe_op op_mod (pe_callTy call_int1 (by rfl) T.z_int (by decide +kernel) (pa_cons (pv 4) pa_nil)) pe_int))
      (pss_one (ps_ret (pe_op op_mod (pe_callTy call_int1 (by rfl) T.z_int (by decide +kernel) (pa_cons (pe_op op_fdiv (pv 4) pe_int) pa_nil)) (pv 1))))))))), ?_⟩
    have hL : SqL K H p [.int a, .int b, .int c] := SqL.of hp
    have h0 : (0 : Int) < 2305843009213693951 := by decide
    have h1 : (0 : Int) < 2305843009213693921 := by decide
    have h2 : (0 : Int) < 2305843009213693723 := by decide
    have hnn : ∀ x : Int, 0 ≤ x % t := fun x => Int.emod_nonneg _ (by omega)
    have hlt : ∀ x : Int, x % t < t := fun x => Int.emod_lt_of_pos _ ht
    refine ⟨_, rfl, p, _, _, _, rfl, rfl, hL, rfl, _, _, rfl, rfl, _, rfl, ite2 (fun _ => ?_) (fun _ => ?_)⟩
    · refine ⟨_, rfl, p, _, _, _, rfl, rfl, hL, rfl, Or.inl ⟨_, rfl, _, rfl, _, _, rfl, rfl, ht, ?_⟩⟩
      refine ⟨_, rfl, p, _, _, _, rfl, rfl, hL, rfl, _, rfl, _, _, rfl, rfl, ⟨ht, ht2⟩, _, rfl, p, _, _, _, rfl, rfl, hp, rfl, ?_⟩
      exact ⟨_, rfl, k _ _ _ _ (hnn _) (hlt _)⟩
    · refine ⟨_, rfl, p, _, _, _, rfl, rfl, hL, rfl, _, _, rfl, rfl, _, rfl, p, _, _, _, rfl, rfl, hp, rfl, ?_⟩
      have hL2 : SqL K (upd H p (.lst ([.int a, .int b, .int c].set 2 (.int (c + 1))))) p [.int a, .int b, .int (c + 1)] := SqL.of upd_same
      refine ⟨_, rfl, p, _, _, _, rfl, rfl, hL2, rfl, _, rfl, p, _, _, _, rfl, rfl, hL2, rfl, _, _, rfl, rfl, Or.inl ⟨by decide, by decide⟩, _, _, rfl, rfl, Or.inl ⟨_, rfl, _, _, rfl, rfl, h0, ?_⟩⟩
      have hone : ∀ x : Int, -(2 ^ 64) < x % 2305843009213693951 ∧ x % 2305843009213693951 < 2 ^ 64 := fun x => ⟨by have := Int.emod_nonneg x (b := 2305843009213693951) (by decide); omega, by have := Int.emod_lt_of_pos x h0; omega⟩
      refine ⟨_, rfl, _, rfl, _, _, rfl, rfl, Or.inl (hone _), Or.inl ⟨_, rfl, _, _, rfl, rfl, h1, _, rfl, _, _, rfl, rfl, Or.inr (hone _), _, rfl, p, _, _, _, rfl, rfl, hL2, rfl, _, _, rfl, rfl, Or.inl ⟨by decide, by decide⟩, _, _, rfl, rfl, ?_⟩⟩
      refine ⟨_, rfl, Or.inl ⟨_, rfl, _, _, rfl, rfl, h2, ?_⟩⟩
      refine ⟨_, rfl, _, _, rfl, rfl, ⟨by decide, by decide⟩, Or.inl ⟨_, rfl, _, rfl, _, _, rfl, rfl, ht, ?_⟩⟩
      exact k _ _ _ _ (hnn _) (hlt _)
theorem jxT {f : Addr} {fd : FuncData} (F : Fun K "_law_roll" "_law_roll" jeJ f fd) (T : Txt K mg) : FnOk P w K mg base CX0 1 f fd ["_law_dice_here", "_law_total"] jth := by
  refine (jxk (jvS F T)).imp fun vs H Q E h => ?_
  obtain ⟨p, t, rfl, h1, h2, hp, k⟩ := h
  refine ⟨rfl, p, hp, fun a b c => ⟨p, t, a, b, c, rfl, h1, h2, upd_same, fun r a' b' c' h3 h4 => ⟨⟨a', b', c', upd_same⟩, ?_⟩⟩⟩
  rw [upd_upd, upd_upd, joG hp]
  exact k r h3 h4
abbrev jfI : Stmt := top 115
abbrev jxU : List Str := ["_law_dice_here", "_law_items"]
abbrev jun : List Str := ["_law_dice_here", "_law_items"]
theorem jxV : FnScope jxU jun (defScope jfI) := ⟨rfl, rfl, rfl, by decide +kernel, rfl, by decide +kernel, by decide +kernel⟩
theorem jxW {f : Addr} {fd : FuncData} (F : Fun K "_law_pick" "_law_pick" jfI f fd) (T : Txt K mg) (C_roll : Cal P w K mg base "_law_roll" 1 ["_law_dice_here", "_law_total"] jth) : FnOk P w K mg base CX0 2 f fd ["_law_dice_here", "_law_items"] (jwv K) := by
  refine F.ok jxV (fun vs H Q E h => ?_) (fun cdv A outer s H vs Q E hr h => ?_)
  · obtain ⟨_, _, _, rfl, _⟩ := h
    rfl
  · obtain ⟨p, l, xs, rfl, hp, hl, h1, h2, k⟩ := h
    refine ⟨_, (pss_one (ps_ret (pe_ix (kix_list (K := K)) (pv 1) (pe_cal C_roll (hr.mono (by first | decide | omega)) rfl (pa_cons (pv 0) (pa_cons (pe_callB (jiI (K := K)) (by rfl) T.z_len (by decide +kernel) (pa_cons (pv 1) pa_nil)) pa_nil))) (fun _ _ => rfl)))), ?_⟩
    refine ⟨_, rfl, _, rfl, _, rfl, l, _, rfl, Or.inl hl, p, _, rfl, by omega, by omega, hp, fun r h3 h4 => ?_⟩
    have e : r = (r.toNat : Int) := by omega
    have hx : xs[r.toNat]? = some (xs[r.toNat]'(by omega)) := by simp
    exact ⟨l, _, _, _, rfl, rfl, hl, at_of e hx, k _ _ hx⟩
end
end K72Di
namespace K72
open PySem PySem.Spec PyProof.Rows L2 Ly Pu TM
section
variable {P : Program} {w : World} {K : PySem.W.Frag} {mg : Str → Option Value} {base : Heap} {A : Adr}
def PX (K : PySem.W.Frag) (A : Adr) : Prop := ∀ n ∈ seven, PySem.W.kitOne K (.type n) (.ref A.cProgram) = some false
def spLaw (T : List (Addr × Str)) (K : PySem.W.Frag) : Sp := fun vs H Q _ => ∃ (a : Addr) (ns : List Int), vs = [.ref a] ∧ SqL K H a (ns.map V.int) ∧ ns.length ≤ 63 ∧ (∀ p ∈ T, H p.1 = some (.tbl #[])) ∧ ∀ H', Q (.bl true) H'
theorem jwY {T : List (Addr × Str)} (EC : EK K A) (hP : PX K A) {vs : List V} {H : Hp} {Q : VK} {E : XK} (h : spLaw T K vs H Q E) : spQ T K 1 (G_law K A) vs H Q E := by
  obtain ⟨a, ns, hv, hS, hl, ht, kk⟩ := h
  exact ⟨noT H, [.lsk (ns.map .int)], fun d => d = .bl true, jft, jbA, fun p hp => LamX.TabS.nil (ht p hp), by
    subst hv
    exact .cons (.lsk (noT_l hS) (jwD ns) (by rw [List.length_map, sizeLine_eq]; omega)) .nil, rfl, law_ok EC hP hl rfl, fun v W' H' d e r z => (by subst z; cases r; exact kk H')⟩
theorem jxX {T : List (Addr × Str)} (EC : EK K A) (hP : PX K A) {k : Nat} {f : Addr} {fd : FuncData} {ps : List Str} (F : FnG P w K mg base (L2.CX P w) k f fd ps (spQ T K 1 (G_law K A))) : FnG P w K mg base (L2.CX P w) k f fd ps (spLaw T K) :=
  ⟨fun vs H Q E h => F.len vs H Q E (jwY EC hP h), fun A outer s H args us vs Q E hr gd he hb hv hs => F.run A outer s H args us vs Q E hr gd he hb hv (jwY EC hP hs)⟩
abbrev jav : Stmt := inClass (top 23) 0
abbrev jfJ : List Str := ["self", "line"]
abbrev jcc : List Str := ["self", "line"]
theorem jcP : FnScope jfJ jcc (defScope jav) := ⟨rfl, rfl, rfl, by decide +kernel, rfl, by decide +kernel, by decide +kernel⟩
theorem jvT {f CP : Addr} {fd : FuncData} (F : Fun K "__init__" "ParseError.__init__" jav f fd) (O : OexC K CP) (no : PySem.W.findIn K (.ref CP) "line" = some none) : FnOk P w K mg base CX0 1 f fd jcc (spXi CP "line") := by
  have nd := jcP.nd
  refine F.ok jcP (fun vs H Q E h => ?_) (fun cdv A outer s H vs Q E hr h => ?_)
  · obtain ⟨_, _, rfl, _⟩ := h
    rfl
  · obtain ⟨a, v, rfl, ha, k⟩ := h
    exact ⟨_, pss_one (ps_ost (pv 0) (pv 1)), _, rfl, _, rfl, a, CP, rfl, O, no, .inl ⟨ha, fun dx h1 h2 => k dx h1 h2⟩⟩
theorem jcI {S S' : Addr} {b : Bool} (g1 : PySem.W.subIn K (.ref S) (.type "BaseException") = some true) (g2 : PySem.W.isClsIn K S = true) (g3 : PySem.W.typeIn K (.ref S) = some (.type "type"))
    (h1 : PySem.W.subIn K (.ref S') (.type "BaseException") = some true) (h2 : PySem.W.isClsIn K S' = true) (h3 : PySem.W.typeIn K (.ref S') = some (.type "type")) (h4 : PySem.W.subIn K (.ref S) (.ref S') = some b) : PySem.W.exmOne K (.ref S) (.ref S') = some b := by
  have e1 : (PySem.W.subIn K (.ref S') (.type "BaseException") == some true) = true := by rw [h1] <;> rfl
  have e2 : ((PySem.W.clsIn K S').isSome && PySem.W.typeIn K (.ref S') == some (.type "type")) = true := by
    rw [show (PySem.W.clsIn K S').isSome = true from h2, h3] <;> rfl
  have f1 : (PySem.W.subIn K (.ref S) (.type "BaseException") == some true) = true := by rw [g1] <;> rfl
  have f2 : ((PySem.W.clsIn K S).isSome && PySem.W.typeIn K (.ref S) == some (.type "type")) = true := by
    rw [show (PySem.W.clsIn K S).isSome = true from g2, g3] <;> rfl
  unfold PySem.W.exmOne PySem.W.kitCls
  simp only [e1, e2, f1, f2, if_true, h4]
end
end K72
namespace Pu
open PySem PySem.Spec PyProof.Rows L2 Ly
end Pu
namespace Pu
open PySem PySem.Spec PyProof.Rows L2 Ly LamX
theorem jfb (ps : List Addr) (b : Addr) : ∀ K : PySem.W.Frag, (cutK K ps).lookup b = if ps.contains b = true then none else K.lookup b
  | [] => by
    unfold cutK
    split <;> rfl
  | (c, o) :: K => by
    have ih := jfb ps b K
    unfold cutK at ih ⊢
    by_cases h : ps.contains c = true
    · rw [List.filter_cons_of_neg (by rw [h]; decide), ih]
      by_cases hb : b = c
      · rw [hb, if_pos h, if_pos h]
      · rw [List.lookup_cons, beq_false_of_ne hb]
    · rw [List.filter_cons_of_pos (by rw [Bool.not_eq_true] at h; rw [h]; rfl), List.lookup_cons, List.lookup_cons]
      by_cases hb : b = c
      · rw [hb, beq_self_eq_true, if_neg h]
      · rw [beq_false_of_ne hb]
        exact ih
theorem juo {K : PySem.W.Frag} {ps : List Addr} {h : Heap} (x : K.In h) : PySem.W.Frag.In (cutK K ps) h := fun b o e => by
  rw [jfb] at e
  split at e
  · cases e
  · exact x b o e
theorem jup {K : PySem.W.Frag} {ps : List Addr} {b : Addr} (h : b ∈ ps) : (cutK K ps).lookup b = none := by
  rw [jfb, if_pos (List.contains_iff_mem.mpr h)]
theorem juq {K : PySem.W.Frag} {h : Heap} {c : Addr} (x : K.In h) (b : jmD K c = true) : PySem.W.CodeHd h c (tabOf K c) := by
  unfold jmD at b
  unfold tabOf
  cases q : K.lookup c with
  | none => rw [q] at b; cases b
  | some o =>
    rw [q] at b
    dsimp only at b ⊢
    rw [Bool.and_eq_true] at b
    obtain ⟨b1, b2⟩ := b
    cases hd : o.data with
    | fields vs =>
      rw [hd] at b2
      dsimp only at b2 ⊢
      simp only [Bool.and_eq_true] at b2
      obtain ⟨⟨⟨⟨g1, g2⟩, g3⟩, g4⟩, g5⟩ := b2
      cases h11 : vs[11]? with
      | none => rw [h11] at g1; cases g1
      | some v =>
        rw [h11] at g1
        cases v with
        | ref P =>
          dsimp only at g1 ⊢
          have hc : o.cls = .type "code" := by
            cases hcl : o.cls with
            | type t =>
              rw [hcl] at b1
              rw [eq_of_beq b1]
            | _ => rw [hcl] at b1; cases b1
          have e18 : ∃ z t, vs.getD 18 .none = .str z t := by
            cases q : vs.getD 18 .none with
            | str z t => exact ⟨z, t, rfl⟩
            | _ => rw [q] at g2; cases g2
          have e7 : ∃ z t, vs.getD 7 .none = .int z t := by
            cases q : vs.getD 7 .none with
            | int z t => exact ⟨z, t, rfl⟩
            | _ => rw [q] at g3; cases g3
          have e9 : ∃ z, vs.getD 9 .none = .bool z := by
            cases q : vs.getD 9 .none with
            | bool z => exact ⟨z, rfl⟩
            | _ => rw [q] at g4; cases g4
          have e10 : ∃ z t, vs.getD 10 .none = .int z t := by
            cases q : vs.getD 10 .none with
            | int z t => exact ⟨z, t, rfl⟩
            | _ => rw [q] at g5; cases g5
          obtain ⟨z1, t1, e18⟩ := e18
          obtain ⟨z2, t2, e7⟩ := e7
          obtain ⟨z3, e9⟩ := e9
          obtain ⟨z4, t4, e10⟩ := e10
          have e11 : vs.getD 11 .none = .ref P := by
            rw [Array.getD_eq_getD_getElem?, h11]
            rfl
          exact ⟨o, vs, z1, t1, z2, t2, z3, z4, t4, x c o q, hc, hd, h11, e11, e18, e7, e9, e10, fun z => by
            rw [z, beq_self_eq_true] at g1
            cases g1⟩
        | _ => cases g1
    | _ => rw [hd] at b2; cases b2
theorem jsF {l : PySem.W.OpenLaw} {n k : Nat} {q : Program} {loose : List Str} {XP : (Str → Option Value) → Heap → Prop} {YP : World → Heap → Prop} {d : DefRec} {Y : PySem.W.Frag → Prop} {sp : PySem.W.Frag → List (Addr × Addr) → Sp} {x : Str}
    (hn : l.most = some n) (hn2 : n ≤ sizeLine) (hdf : d.params.defaults = []) (hr : Room k callerA) (hY : ∀ (w : World) (h : Heap), YP w h → ∃ K : PySem.W.Frag, K.In h ∧ Y K)
    (F : ∀ (w : World) (mg : Str → Option Value) (fa : Addr) (h : Heap) (K : PySem.W.Frag), K.In h → Y K → h.Ns mainGlobals mg → mg d.name = some (.ref fa) →
      ∃ (fd : FuncData) (cs : List (Addr × Addr)), (∀ p ∈ cs, K.lookup p.2 = some tbO ∧ jmD K p.1 = true ∧ p.2 = tabOf K p.1) ∧ (∀ (s : Shared) (u : Value), BindsTo s fd ⟨[u], []⟩ [(x, u)]) ∧
        ∀ base : Heap, PySem.W.Frag.In (cutK K (cs.map (·.2))) base → base.Ns mainGlobals mg → (∀ p ∈ cs, TabB base mg p.1 p.2) → FnG l.prog w (cutK K (cs.map (·.2))) mg base (L2.CX l.prog w) k fa fd [x] (sp K cs))
    (hsp : ∀ (K : PySem.W.Frag) (cs : List (Addr × Addr)) (H : Hp) (a : Addr) (ns : List Int), ns.length ≤ n → (∀ p ∈ cs, H p.2 = some (.tbl #[])) → SqL (cutK K (cs.map (·.2))) H a (ns.map V.int) → sp K cs [.ref a] H (fun v _ => v = .bl true) fun _ _ _ => False) :
    PySem.W.WalkO q loose XP YP l.row.toRowW d [] (fun f vs => PySem.call f vs) := by
  refine Att.attach_call hn hdf fun w s0 s1 mg mb fa o pm cd doc a vs ns G Y ho hd hcd hmg hobj hints hlen hg => ?_
  obtain ⟨K, inK, y⟩ := hY w _ Y
  obtain ⟨fd, cs, hc, hb, hF⟩ := F w mg fa _ K inK y G.T.g hmg
  refine jsA (cs := cs) (juo inK) G.T.g G.T.b G.T.builtins G.T.nolimit hg (fun p hp => inK _ _ (hc p hp).1) (fun p hp => jup (List.mem_map.mpr ⟨p, hp, rfl⟩)) (fun p hp => ?_) G.T.bmain hobj hints (Nat.le_trans hlen hn2) hr hF hb (fun H hT hS => hsp K cs H a ns hlen hT hS)
  rw [(hc p hp).2.2]
  exact juq inK (hc p hp).2.1
end Pu
namespace Pu
open PySem PySem.Spec PyProof.Rows L2 Ly LamX
theorem bI {a b : Bool} (ha : a = true) (hb : b = true) : (a && b) = true := by rw [ha, hb]; rfl
theorem jur {v : Value} (h : jtb v = true) : v = .ref (refV v) := by
  cases v with
  | ref a => rfl
  | _ => cases h
theorem of_tbO {o : Option Obj} (h : isTbO o = true) : o = some tbO := by
  unfold isTbO at h
  cases o with
  | none => cases h
  | some o =>
    dsimp only at h
    simp only [Bool.and_eq_true] at h
    obtain ⟨⟨⟨h1, h2⟩, h3⟩, h4⟩ := h
    obtain ⟨c, d, dt, sl⟩ := o
    dsimp only at h1 h2 h3 h4
    have e1 : c = .none := by cases c <;> first | rfl | cases h1
    have e2 : dt = .fields #[] := by
      cases dt with
      | fields vs => rw [Array.eq_empty_of_size_eq_zero (eq_of_beq h2)]
      | _ => cases h2
    have e3 : d = none := Option.isNone_iff_eq_none.mp h3
    have e4 : sl = #[] := Array.eq_empty_of_size_eq_zero (eq_of_beq h4)
    rw [e1, e2, e3, e4]
theorem jwZ : ∀ {l : List Addr}, nodB l = true → l.Nodup
  | [], _ => List.nodup_nil
  | a :: l, h => by
    unfold nodB at h
    rw [Bool.and_eq_true, Bool.not_eq_true'] at h
    refine List.nodup_cons.mpr ⟨fun hm => ?_, jwZ h.2⟩
    rw [List.contains_iff_mem.mpr hm] at h
    cases h.1
theorem jsg {l : List (Addr × Str)} {P : Addr} {q : Str} (h : (l.map Prod.fst).Nodup) (m : (P, q) ∈ l) : ∀ p ∈ l, p.1 = P → p.2 = q := by
  induction l with
  | nil => cases m
  | cons b l ih =>
    rw [List.map_cons, List.nodup_cons] at h
    intro p hp e
    rcases List.mem_cons.mp m with z | z
    · rcases List.mem_cons.mp hp with y | y
      · rw [y, ← z]
      · exact absurd (List.mem_map.mpr ⟨p, y, by rw [e, ← z]⟩) h.1
    · rcases List.mem_cons.mp hp with y | y
      · exact absurd (List.mem_map.mpr ⟨(P, q), z, by rw [← e, y]⟩) h.1
      · exact ih h.2 z p y e
theorem zip_self {α β : Type} (f : α → β) : ∀ l : List α, l.zip (l.map f) = l.map fun c => (c, f c)
  | [] => rfl
  | c :: l => by
    rw [List.map_cons, List.zip_cons_cons, zip_self f l]
    rfl
theorem walk_ofT {l : PySem.W.OpenLaw} {n k : Nat} {q : Program} {loose : List Str} {XP : (Str → Option Value) → Heap → Prop} {YP : World → Heap → Prop} {d : DefRec} {Y : PySem.W.Frag → Prop} {sp : List (Addr × Str) → PySem.W.Frag → Sp} {x : Str} (nms qs : List Str)
    (hn : l.most = some n) (hn2 : n ≤ sizeLine) (hdf : d.params.defaults = []) (hr : Room k callerA) (hY : ∀ (w : World) (h : Heap), YP w h → ∃ K : PySem.W.Frag, K.In h ∧ chkTb nms K = true ∧ Y (KTof nms K))
    (F : ∀ (w : World) (mg : Str → Option Value) (fa : Addr) (h : Heap) (K : PySem.W.Frag), K.In h → Y K → h.Ns mainGlobals mg → mg d.name = some (.ref fa) → ∀ tps : List Addr, tps.Nodup → tps.length = nms.length →
      ∃ fd : FuncData, (∀ (s : Shared) (u : Value), BindsTo s fd ⟨[u], []⟩ [(x, u)]) ∧
        ∀ base : Heap, K.In base → base.Ns mainGlobals mg → (∀ p ∈ (tcs nms K).zip tps, TabB base mg p.1 p.2) → FnG l.prog w K mg base (L2.CX l.prog w) k fa fd [x] (sp (tps.zip qs) K))
    (hsp : ∀ (T : List (Addr × Str)) (K : PySem.W.Frag) (H : Hp) (a : Addr) (ns : List Int), ns.length ≤ n → (∀ p ∈ T, H p.1 = some (.tbl #[])) → SqL K H a (ns.map V.int) → sp T K [.ref a] H (fun v _ => v = .bl true) fun _ _ _ => False) :
    PySem.W.WalkO q loose XP YP l.row.toRowW d [] (fun f vs => PySem.call f vs) := by
  refine jsF (x := x) (Y := fun K => chkTb nms K = true ∧ Y (KTof nms K)) (sp := fun K cs => sp ((cs.map (·.2)).zip qs) (cutK K (cs.map (·.2)))) hn hn2 hdf hr hY (fun w mg fa h K inK y hg hm => ?_) (fun K cs H a ns hl hT hS => hsp _ _ H a ns hl (fun p hp => ?_) hS)
  · obtain ⟨hT, y⟩ := y
    unfold chkTb at hT
    rw [Bool.and_eq_true, Bool.and_eq_true, List.all_eq_true] at hT
    obtain ⟨h1, h2, h3⟩ := hT
    have h3 : tcs nms (KTof nms K) = tcs nms K := eq_of_beq h3
    obtain ⟨fd, hb, hF⟩ := F w mg fa h (KTof nms K) (juo inK) y hg hm ((tcs nms K).map (tabOf K)) (jwZ h2) (by rw [List.length_map]; unfold tcs; rw [List.length_map])
    have e : ((tcs nms K).map fun c => (c, tabOf K c)).map (·.2) = (tcs nms K).map (tabOf K) := by rw [List.map_map]; rfl
    refine ⟨fd, (tcs nms K).map fun c => (c, tabOf K c), fun p hp => ?_, hb, fun base hK hN hP => ?_⟩
    · obtain ⟨c, hc, z⟩ := List.mem_map.mp hp
      have g := h1 c hc
      rw [Bool.and_eq_true] at g
      subst z
      exact ⟨of_tbO g.1, g.2, rfl⟩
    · rw [e] at hK ⊢
      refine hF base hK hN fun p hp => hP p ?_
      rw [h3, zip_self] at hp
      exact hp
  · obtain ⟨i, hi, e⟩ := List.mem_iff_getElem.mp hp
    have hi' : i < (cs.map (·.2)).length := by
      rw [List.length_zip] at hi
      omega
    have e2 : (cs.map (·.2))[i] = p.1 := by
      rw [← e, List.getElem_zip]
    obtain ⟨c, hc, z⟩ := List.mem_map.mp (List.getElem_mem hi')
    rw [← e2, ← z]
    exact hT c hc
end Pu
namespace K72
open PySem.W (findIn isFn codeIn keepIn fnIn nsIn specialIn fnOf Frag readsIn kitOne subIn)
open PySem PySem.Spec PyProof.Rows L2 Ly Pu TM K72Di
theorem all_mk {l : PySem.W.OpenLaw} {w : World} {K : Frag} {h : Heap} {mg : Str → Option Value} {fa CP CE CT CR CG CO jbk jus jut juu f_met jeh jfc jjq jfd jcs jdA jfe jdb jei jcJ jdc jdd jej jdB jek jde jdC jel jjr jff jem jfg jck jcK jdf jqU f_law jsh jxa jbI jcQ : Addr} (X : K.In h) (G : h.Ns mainGlobals mg) (hfa : mg "law" = some (.ref fa)) (tn : [jbI, jcQ].Nodup)
    {jfK jfL : Option Addr} {jfM : Array (Option Value)} {jfN jfO jfP jfQ jcR jfR : Value}
    {jxY jxZ : Option Addr} {jya : Array (Option Value)} {jyb jyc jyd jye juv jyf : Value}
    {jyg jyh : Option Addr} {jyi : Array (Option Value)} {jyj jyk jyl jym juw jyn : Value}
    {jyo jyp : Option Addr} {jyq : Array (Option Value)} {jyr jys jyt jyu jux jyv : Value}
    {od_met an_met : Option Addr} {sl_met : Array (Option Value)} {oc_met kV_met dc_met pm_met jxb ct_met : Value}
    {jmX jmY : Option Addr} {jmZ : Array (Option Value)} {jna jnb jnc jnd jfS jne : Value}
    {jpf jpg : Option Addr} {jph : Array (Option Value)} {jpi jpj jpk jpl jhu jpm : Value}
    {jsG jsH : Option Addr} {jsI : Array (Option Value)} {jsJ jsK jsL jsM jmB jsN : Value}
    {jpn jpo : Option Addr} {jpp : Array (Option Value)} {jpq jpr jps jpt jhv jpu : Value}
    {jgE jgF : Option Addr} {jgG : Array (Option Value)} {jgH jgI jgJ jgK jdl jgL : Value}
    {jkR jkS : Option Addr} {jkT : Array (Option Value)} {jkU jkV jkW jkX jeK jkY : Value}
    {jpv jpw : Option Addr} {jpx : Array (Option Value)} {jpy jpz jpA jpB jhw jpC : Value}
    {jjs jjt : Option Addr} {jju : Array (Option Value)} {jjv jjw jjx jjy jen jjz : Value}
    {jnf jng : Option Addr} {jnh : Array (Option Value)} {jni jnj jnk jnl jfT jnm : Value}
    {jhP jhQ : Option Addr} {jhR : Array (Option Value)} {jhS jhT jhU jhV jdK jhW : Value}
    {jjA jjB : Option Addr} {jjC : Array (Option Value)} {jjD jjE jjF jjG jeo jjH : Value}
    {jjI jjJ : Option Addr} {jjK : Array (Option Value)} {jjL jjM jjN jjO jep jjP : Value}
    {jnn jno : Option Addr} {jnp : Array (Option Value)} {jnq jnr jns jnt jfU jnu : Value}
    {jkZ jla : Option Addr} {jlb : Array (Option Value)} {jlc jld jle jlf jeL jlg : Value}
    {jnv jnw : Option Addr} {jnx : Array (Option Value)} {jny jnz jnA jnB jfV jnC : Value}
    {jjQ jjR : Option Addr} {jjS : Array (Option Value)} {jjT jjU jjV jjW jeq jjX : Value}
    {jlh jli : Option Addr} {jlj : Array (Option Value)} {jlk jll jlm jln jeM jlo : Value}
    {jnD jnE : Option Addr} {jnF : Array (Option Value)} {jnG jnH jnI jnJ jfW jnK : Value}
    {jsO jsP : Option Addr} {jsQ : Array (Option Value)} {jsR jsS jsT jsU jmC jsV : Value}
    {jpD jpE : Option Addr} {jpF : Array (Option Value)} {jpG jpH jpI jpJ jhx jpK : Value}
    {jnL jnM : Option Addr} {jnN : Array (Option Value)} {jnO jnP jnQ jnR jfX jnS : Value}
    {jpL jpM : Option Addr} {jpN : Array (Option Value)} {jpO jpP jpQ jpR jhy jpS : Value}
    {jfY jfZ : Option Addr} {jga : Array (Option Value)} {jgb jgc jgd jge jcS jgf : Value}
    {jhX jhY : Option Addr} {jhZ : Array (Option Value)} {jia jib jic jid jdL jie : Value}
    {jjY jjZ : Option Addr} {jka : Array (Option Value)} {jkb jkc jkd jke jer jkf : Value}
    {jvU jsi : Option Addr} {jvV : Array (Option Value)} {jvW jsj jsk jsl jiG jsm : Value}
    {od_law juy : Option Addr} {sl_law : Array (Option Value)} {oc_law juz juA juB jpT juC : Value}
    {t_LONGEST : Tok}
    {t_MAX_DIGITS : Tok}
    {t_MAX_LETTERS : Tok}
    {t_MAX_ARITY : Tok}
    {t_DIGITS : Tok}
    {t_NOTHING : Tok}
    {t_NONE : Tok}
    {t_BAR : Tok}
    {t_BETWEEN : Tok}
    {t_ANY : Tok}
    {t_LOST : Tok}
    {t_LETTERS : Tok}
    (a_CP : nsIn K mainGlobals "Program" = some (some (.ref CP)))
    (a_CE : nsIn K mainGlobals "ParseError" = some (some (.ref CE)))
    (a_CT : nsIn K mainGlobals "InvalidTable" = some (some (.ref CT)))
    (a_CR : nsIn K mainGlobals "InvalidRows" = some (some (.ref CR)))
    (a_CG : nsIn K mainGlobals "InvalidProgram" = some (some (.ref CG)))
    (a_CO : nsIn K mainGlobals "InvalidOperation" = some (some (.ref CO)))
    (jgM : findIn K (.ref CE) "__init__" = some (some (.ref jbk)))
    (jsW : isFn K (.ref jbk) = true)
    (jgN : K.lookup jbk = some ⟨jfN, jfK, .func (fnOf "__init__" "ParseError.__init__" (defArgs jav) (defBody jav) (defScope jav) .none jfO jfP jfQ jfL jcR jfR), jfM⟩)
    (jgO : codeIn K jcR "ParseError.__init__" = true)
    (jgP : keepIn K (.ref jbk) = true)
    (jsX : fnIn K jbk = true)
    (pg_CP : PySem.W.plainGet K CP Str.empty = true)
    (hd_CP : PySem.W.hasDictIn K CP = true)
    (po_CP : PySem.W.plainOver K CP = true)
    (sa_CP : findIn K (.ref CP) "__setattr__" = some (some (.builtin "object.__setattr__")))
    (ha_CP : findIn K (.ref CP) "__class__" = some (some (.builtin "object.__class__")))
    (hn_CP : specialIn K (.builtin "object.__class__") "__get__" = some (some (.builtin "getset_descriptor.__get__")))
    (ht_CP : PySem.W.takesIn K (.builtin "object.__class__") = some true)
    (hm_CP : PySem.W.mroIn K CP (.type "object") = some true)
    (mk_CP : PySem.W.makesIn K CP = true)
    (kc_CP : keepIn K (.ref CP) = true)
    (is_CP : kitOne K (.ref CP) (.ref CP) = some true)
    (no_CP_int : kitOne K (.ref CP) (.type "int") = some false)
    (no_CP_bool : kitOne K (.ref CP) (.type "bool") = some false)
    (no_CP_str : kitOne K (.ref CP) (.type "str") = some false)
    (no_CP_list : kitOne K (.ref CP) (.type "list") = some false)
    (no_CP_tuple : kitOne K (.ref CP) (.type "tuple") = some false)
    (no_CP_dict : kitOne K (.ref CP) (.type "dict") = some false)
    (nt_CP_NoneType : kitOne K (.type "NoneType") (.ref CP) = some false)
    (nt_CP_bool : kitOne K (.type "bool") (.ref CP) = some false)
    (nt_CP_int : kitOne K (.type "int") (.ref CP) = some false)
    (nt_CP_str : kitOne K (.type "str") (.ref CP) = some false)
    (nt_CP_list : kitOne K (.type "list") (.ref CP) = some false)
    (nt_CP_tuple : kitOne K (.type "tuple") (.ref CP) = some false)
    (nt_CP_dict : kitOne K (.type "dict") (.ref CP) = some false)
    (xx_CT : PySem.W.excIn K CT [.type "ValueError", .type "Exception", .type "BaseException", .type "object"] "ValueError.__new__" = true)
    (xk_CT : keepIn K (.ref CT) = true)
    (xb_CT : subIn K (.ref CT) (.type "BaseException") = some true)
    (xt_CT : PySem.W.typeIn K (.ref CT) = some (.type "type"))
    (xi_CT : PySem.W.isClsIn K CT = true)
    (xs_CT : subIn K (.ref CT) (.ref CT) = some true)
    (xx_CR : PySem.W.excIn K CR [.type "ValueError", .type "Exception", .type "BaseException", .type "object"] "ValueError.__new__" = true)
    (xk_CR : keepIn K (.ref CR) = true)
    (xb_CR : subIn K (.ref CR) (.type "BaseException") = some true)
    (xt_CR : PySem.W.typeIn K (.ref CR) = some (.type "type"))
    (xi_CR : PySem.W.isClsIn K CR = true)
    (xs_CR : subIn K (.ref CR) (.ref CR) = some true)
    (xx_CG : PySem.W.excIn K CG [.type "ValueError", .type "Exception", .type "BaseException", .type "object"] "ValueError.__new__" = true)
    (xk_CG : keepIn K (.ref CG) = true)
    (xb_CG : subIn K (.ref CG) (.type "BaseException") = some true)
    (xt_CG : PySem.W.typeIn K (.ref CG) = some (.type "type"))
    (xi_CG : PySem.W.isClsIn K CG = true)
    (xs_CG : subIn K (.ref CG) (.ref CG) = some true)
    (xx_CO : PySem.W.excIn K CO [.type "ValueError", .type "Exception", .type "BaseException", .type "object"] "ValueError.__new__" = true)
    (xk_CO : keepIn K (.ref CO) = true)
    (xb_CO : subIn K (.ref CO) (.type "BaseException") = some true)
    (xt_CO : PySem.W.typeIn K (.ref CO) = some (.type "type"))
    (xi_CO : PySem.W.isClsIn K CO = true)
    (xs_CO : subIn K (.ref CO) (.ref CO) = some true)
    (xk_CE : keepIn K (.ref CE) = true)
    (xb_CE : subIn K (.ref CE) (.type "BaseException") = some true)
    (xt_CE : PySem.W.typeIn K (.ref CE) = some (.type "type"))
    (xi_CE : PySem.W.isClsIn K CE = true)
    (xs_CE : subIn K (.ref CE) (.ref CE) = some true)
    (ex_CE : Pu.excB K CE = true)
    (sa_CE : findIn K (.ref CE) "__setattr__" = some (some (.builtin "object.__setattr__")))
    (ga_CE : findIn K (.ref CE) "__getattribute__" = some (some (.builtin "BaseException.__getattribute__")))
    (gg_CE : findIn K (.ref CE) "__getattr__" = some none)
    (hd_CE : PySem.W.hasDictIn K CE = true)
    (no_CE : findIn K (.ref CE) "line" = some none)
    (ti_CE : PySem.W.typeIn K (.ref jbk) = some (.type "function"))
    (s_CR_CT : subIn K (.ref CR) (.ref CT) = some false)
    (s_CG_CT : subIn K (.ref CG) (.ref CT) = some false)
    (s_CG_CR : subIn K (.ref CG) (.ref CR) = some false)
    (s_CO_CT : subIn K (.ref CO) (.ref CT) = some false)
    (s_CO_CR : subIn K (.ref CO) (.ref CR) = some false)
    (s_CO_CG : subIn K (.ref CO) (.ref CG) = some false)
    (s_CE_CT : subIn K (.ref CE) (.ref CT) = some false)
    (s_CE_CR : subIn K (.ref CE) (.ref CR) = some false)
    (s_CE_CG : subIn K (.ref CE) (.ref CG) = some false)
    (s_CE_CO : subIn K (.ref CE) (.ref CO) = some false)
    (a_dice : nsIn K mainGlobals "_law_dice" = some (some (.ref jus)))
    (l_dice : K.lookup jus = some ⟨jyb, jxY, .func (fnOf "_law_dice" "_law_dice" (defArgs jeI) (defBody jeI) (defScope jeI) .none jyc jyd jye jxZ juv jyf), jya⟩)
    (c_dice : codeIn K juv "_law_dice" = true)
    (jxc : keepIn K (.ref jus) = true)
    (a_roll : nsIn K mainGlobals "_law_roll" = some (some (.ref jut)))
    (l_roll : K.lookup jut = some ⟨jyj, jyg, .func (fnOf "_law_roll" "_law_roll" (defArgs jeJ) (defBody jeJ) (defScope jeJ) .none jyk jyl jym jyh juw jyn), jyi⟩)
    (c_roll : codeIn K juw "_law_roll" = true)
    (jxd : keepIn K (.ref jut) = true)
    (a_pick : nsIn K mainGlobals "_law_pick" = some (some (.ref juu)))
    (l_pick : K.lookup juu = some ⟨jyr, jyo, .func (fnOf "_law_pick" "_law_pick" (defArgs jfI) (defBody jfI) (defScope jfI) .none jys jyt jyu jyp jux jyv), jyq⟩)
    (c_pick : codeIn K jux "_law_pick" = true)
    (jxe : keepIn K (.ref juu) = true)
    (a_met : nsIn K mainGlobals "_law_met" = some (some (.ref f_met)))
    (l_met : K.lookup f_met = some ⟨oc_met, od_met, .func (fnOf "_law_met" "_law_met" (defArgs s_met) (defBody s_met) (defScope s_met) .none kV_met dc_met pm_met an_met jxb ct_met), sl_met⟩)
    (c_met : codeIn K jxb "_law_met" = true)
    (k_met : keepIn K (.ref f_met) = true)
    (jpU : nsIn K mainGlobals "is_integer" = some (some (.ref jeh)))
    (jpV : K.lookup jeh = some ⟨jna, jmX, .func (fnOf "is_integer" "is_integer" (defArgs jbn) (defBody jbn) (defScope jbn) .none jnb jnc jnd jmY jfS jne), jmZ⟩)
    (jpW : codeIn K jfS "is_integer" = true)
    (jhz : keepIn K (.ref jeh) = true)
    (jqV : nsIn K mainGlobals "is_within" = some (some (.ref jfc)))
    (jqW : K.lookup jfc = some ⟨jpi, jpf, .func (fnOf "is_within" "is_within" (defArgs jbE) (defBody jbE) (defScope jbE) .none jpj jpk jpl jpg jhu jpm), jph⟩)
    (jqX : codeIn K jhu "is_within" = true)
    (jkg : keepIn K (.ref jfc) = true)
    (juD : nsIn K mainGlobals "is_word" = some (some (.ref jjq)))
    (juE : K.lookup jjq = some ⟨jsJ, jsG, .func (fnOf "is_word" "is_word" (defArgs jbP) (defBody jbP) (defScope jbP) .none jsK jsL jsM jsH jmB jsN), jsI⟩)
    (juF : codeIn K jmB "is_word" = true)
    (jpX : keepIn K (.ref jjq) = true)
    (jqY : nsIn K mainGlobals "number_of" = some (some (.ref jfd)))
    (jqZ : K.lookup jfd = some ⟨jpq, jpn, .func (fnOf "number_of" "number_of" (defArgs jbt) (defBody jbt) (defScope jbt) .none jpr jps jpt jpo jhv jpu), jpp⟩)
    (jra : codeIn K jhv "number_of" = true)
    (jkh : keepIn K (.ref jfd) = true)
    (jif : nsIn K mainGlobals "require_string" = some (some (.ref jcs)))
    (jig : K.lookup jcs = some ⟨jgH, jgE, .func (fnOf "require_string" "require_string" (defArgs jaC) (defBody jaC) (defScope jaC) .none jgI jgJ jgK jgF jdl jgL), jgG⟩)
    (jih : codeIn K jdl "require_string" = true)
    (jdM : keepIn K (.ref jcs) = true)
    (jnT : nsIn K mainGlobals "are_numbers" = some (some (.ref jdA)))
    (jnU : K.lookup jdA = some ⟨jkU, jkR, .func (fnOf "are_numbers" "are_numbers" (defArgs jaX) (defBody jaX) (defScope jaX) .none jkV jkW jkX jkS jeK jkY), jkT⟩)
    (jnV : codeIn K jeK "are_numbers" = true)
    (jgg : keepIn K (.ref jdA) = true)
    (jrb : nsIn K mainGlobals "is_rising" = some (some (.ref jfe)))
    (jrc : K.lookup jfe = some ⟨jpy, jpv, .func (fnOf "is_rising" "is_rising" (defArgs jbu) (defBody jbu) (defScope jbu) .none jpz jpA jpB jpw jhw jpC), jpx⟩)
    (jrd : codeIn K jhw "is_rising" = true)
    (jki : keepIn K (.ref jfe) = true)
    (jlp : nsIn K mainGlobals "numbers_text" = some (some (.ref jdb)))
    (jlq : K.lookup jdb = some ⟨jjv, jjs, .func (fnOf "numbers_text" "numbers_text" (defArgs jaM) (defBody jaM) (defScope jaM) .none jjw jjx jjy jjt jen jjz), jju⟩)
    (jlr : codeIn K jen "numbers_text" = true)
    (jeN : keepIn K (.ref jdb) = true)
    (jpY : nsIn K mainGlobals "numbers_of" = some (some (.ref jei)))
    (jpZ : K.lookup jei = some ⟨jni, jnf, .func (fnOf "numbers_of" "numbers_of" (defArgs jbf) (defBody jbf) (defScope jbf) .none jnj jnk jnl jng jfT jnm), jnh⟩)
    (jqa : codeIn K jfT "numbers_of" = true)
    (jhA : keepIn K (.ref jei) = true)
    (jkj : nsIn K mainGlobals "write_numbers" = some (some (.ref jcJ)))
    (jkk : K.lookup jcJ = some ⟨jhS, jhP, .func (fnOf "write_numbers" "write_numbers" (defArgs jaO) (defBody jaO) (defScope jaO) .none jhT jhU jhV jhQ jdK jhW), jhR⟩)
    (jkl : codeIn K jdK "write_numbers" = true)
    (jes : keepIn K (.ref jcJ) = true)
    (jls : nsIn K mainGlobals "read_numbers" = some (some (.ref jdc)))
    (jlt : K.lookup jdc = some ⟨jjD, jjA, .func (fnOf "read_numbers" "read_numbers" (defArgs jaY) (defBody jaY) (defScope jaY) .none jjE jjF jjG jjB jeo jjH), jjC⟩)
    (jlu : codeIn K jeo "read_numbers" = true)
    (jeO : keepIn K (.ref jdc) = true)
    (jlv : nsIn K mainGlobals "is_state_row" = some (some (.ref jdd)))
    (jlw : K.lookup jdd = some ⟨jjL, jjI, .func (fnOf "is_state_row" "is_state_row" (defArgs jaB) (defBody jaB) (defScope jaB) .none jjM jjN jjO jjJ jep jjP), jjK⟩)
    (jlx : codeIn K jep "is_state_row" = true)
    (jeP : keepIn K (.ref jdd) = true)
    (jqb : nsIn K mainGlobals "state_text" = some (some (.ref jej)))
    (jqc : K.lookup jej = some ⟨jnq, jnn, .func (fnOf "state_text" "state_text" (defArgs jbh) (defBody jbh) (defScope jbh) .none jnr jns jnt jno jfU jnu), jnp⟩)
    (jqd : codeIn K jfU "state_text" = true)
    (jhB : keepIn K (.ref jej) = true)
    (jnW : nsIn K mainGlobals "write_state" = some (some (.ref jdB)))
    (jnX : K.lookup jdB = some ⟨jlc, jkZ, .func (fnOf "write_state" "write_state" (defArgs jbd) (defBody jbd) (defScope jbd) .none jld jle jlf jla jeL jlg), jlb⟩)
    (jnY : codeIn K jeL "write_state" = true)
    (jgh : keepIn K (.ref jdB) = true)
    (jqe : nsIn K mainGlobals "read_state" = some (some (.ref jek)))
    (jqf : K.lookup jek = some ⟨jny, jnv, .func (fnOf "read_state" "read_state" (defArgs jbo) (defBody jbo) (defScope jbo) .none jnz jnA jnB jnw jfV jnC), jnx⟩)
    (jqg : codeIn K jfV "read_state" = true)
    (jhC : keepIn K (.ref jek) = true)
    (jly : nsIn K mainGlobals "is_table_row" = some (some (.ref jde)))
    (jlz : K.lookup jde = some ⟨jjT, jjQ, .func (fnOf "is_table_row" "is_table_row" (defArgs jan) (defBody jan) (defScope jan) .none jjU jjV jjW jjR jeq jjX), jjS⟩)
    (jlA : codeIn K jeq "is_table_row" = true)
    (jeQ : keepIn K (.ref jde) = true)
    (jnZ : nsIn K mainGlobals "write_table" = some (some (.ref jdC)))
    (joa : K.lookup jdC = some ⟨jlk, jlh, .func (fnOf "write_table" "write_table" (defArgs jaZ) (defBody jaZ) (defScope jaZ) .none jll jlm jln jli jeM jlo), jlj⟩)
    (job : codeIn K jeM "write_table" = true)
    (jgi : keepIn K (.ref jdC) = true)
    (jqh : nsIn K mainGlobals "read_table" = some (some (.ref jel)))
    (jqi : K.lookup jel = some ⟨jnG, jnD, .func (fnOf "read_table" "read_table" (defArgs jbp) (defBody jbp) (defScope jbp) .none jnH jnI jnJ jnE jfW jnK), jnF⟩)
    (jqj : codeIn K jfW "read_table" = true)
    (jhD : keepIn K (.ref jel) = true)
    (juG : nsIn K mainGlobals "is_sign" = some (some (.ref jjr)))
    (juH : K.lookup jjr = some ⟨jsR, jsO, .func (fnOf "is_sign" "is_sign" (defArgs jca) (defBody jca) (defScope jca) .none jsS jsT jsU jsP jmC jsV), jsQ⟩)
    (juI : codeIn K jmC "is_sign" = true)
    (jqk : keepIn K (.ref jjr) = true)
    (jre : nsIn K mainGlobals "is_row_at" = some (some (.ref jff)))
    (jrf : K.lookup jff = some ⟨jpG, jpD, .func (fnOf "is_row_at" "is_row_at" (defArgs jbw) (defBody jbw) (defScope jbw) .none jpH jpI jpJ jpE jhx jpK), jpF⟩)
    (jrg : codeIn K jhx "is_row_at" = true)
    (jkm : keepIn K (.ref jff) = true)
    (jql : nsIn K mainGlobals "write_rows" = some (some (.ref jem)))
    (jqm : K.lookup jem = some ⟨jnO, jnL, .func (fnOf "write_rows" "write_rows" (defArgs jbc) (defBody jbc) (defScope jbc) .none jnP jnQ jnR jnM jfX jnS), jnN⟩)
    (jqn : codeIn K jfX "write_rows" = true)
    (jhE : keepIn K (.ref jem) = true)
    (jrh : nsIn K mainGlobals "read_rows" = some (some (.ref jfg)))
    (jri : K.lookup jfg = some ⟨jpO, jpL, .func (fnOf "read_rows" "read_rows" (defArgs jbF) (defBody jbF) (defScope jbF) .none jpP jpQ jpR jpM jhy jpS), jpN⟩)
    (jrj : codeIn K jhy "read_rows" = true)
    (jkn : keepIn K (.ref jfg) = true)
    (jgQ : nsIn K mainGlobals "require_program" = some (some (.ref jck)))
    (jgR : K.lookup jck = some ⟨jgb, jfY, .func (fnOf "require_program" "require_program" (defArgs jau) (defBody jau) (defScope jau) .none jgc jgd jge jfZ jcS jgf), jga⟩)
    (jgS : codeIn K jcS "require_program" = true)
    (jdm : keepIn K (.ref jck) = true)
    (jko : nsIn K mainGlobals "write_program" = some (some (.ref jcK)))
    (jkp : K.lookup jcK = some ⟨jia, jhX, .func (fnOf "write_program" "write_program" (defArgs jaP) (defBody jaP) (defScope jaP) .none jib jic jid jhY jdL jie), jhZ⟩)
    (jkq : codeIn K jdL "write_program" = true)
    (jet : keepIn K (.ref jcK) = true)
    (jlB : nsIn K mainGlobals "read_program" = some (some (.ref jdf)))
    (jlC : K.lookup jdf = some ⟨jkb, jjY, .func (fnOf "read_program" "read_program" (defArgs jbb) (defBody jbb) (defScope jbb) .none jkc jkd jke jjZ jer jkf), jka⟩)
    (jlD : codeIn K jer "read_program" = true)
    (jeR : keepIn K (.ref jdf) = true)
    (jyw : nsIn K mainGlobals "_law_right" = some (some (.ref jqU)))
    (jyx : K.lookup jqU = some ⟨jvW, jvU, .func (fnOf "_law_right" "_law_right" (defArgs jbm) (defBody jbm) (defScope jbm) .none jsj jsk jsl jsi jiG jsm), jvV⟩)
    (jyy : codeIn K jiG "_law_right" = true)
    (juJ : keepIn K (.ref jqU) = true)
    (a_law : nsIn K mainGlobals "law" = some (some (.ref f_law)))
    (l_law : K.lookup f_law = some ⟨oc_law, od_law, .func (fnOf "law" "law" (defArgs s_law) (defBody s_law) (defScope s_law) .none juz juA juB juy jpT juC), sl_law⟩)
    (c_law : codeIn K jpT "law" = true)
    (k_law : keepIn K (.ref f_law) = true)
    (jvX : jiG = .ref jsh)
    (te_law : jpT = .ref jxa)
    (z_set : nsIn K mainGlobals "set" = some none)
    (z_len : nsIn K mainGlobals "len" = some none)
    (z_int : nsIn K mainGlobals "int" = some none)
    (z_bool : nsIn K mainGlobals "bool" = some none)
    (z_str : nsIn K mainGlobals "str" = some none)
    (z_list : nsIn K mainGlobals "list" = some none)
    (z_tuple : nsIn K mainGlobals "tuple" = some none)
    (z_dict : nsIn K mainGlobals "dict" = some none)
    (z_abs : nsIn K mainGlobals "abs" = some none)
    (z_max : nsIn K mainGlobals "max" = some none)
    (z_min : nsIn K mainGlobals "min" = some none)
    (z_range : nsIn K mainGlobals "range" = some none)
    (z_repr : nsIn K mainGlobals "repr" = some none)
    (z_isinstance : nsIn K mainGlobals "isinstance" = some none)
    (z_all : nsIn K mainGlobals "all" = some none)
    (z_any : nsIn K mainGlobals "any" = some none)
    (z_sorted : nsIn K mainGlobals "sorted" = some none)
    (z_enumerate : nsIn K mainGlobals "enumerate" = some none)
    (z_zip : nsIn K mainGlobals "zip" = some none)
    (i_LONGEST : nsIn K mainGlobals "LONGEST" = some (some (.int (10 ^ 60) t_LONGEST)))
    (i_MAX_DIGITS : nsIn K mainGlobals "MAX_DIGITS" = some (some (.int (60) t_MAX_DIGITS)))
    (i_MAX_LETTERS : nsIn K mainGlobals "MAX_LETTERS" = some (some (.int (8) t_MAX_LETTERS)))
    (i_MAX_ARITY : nsIn K mainGlobals "MAX_ARITY" = some (some (.int (3) t_MAX_ARITY)))
    (i_DIGITS : nsIn K mainGlobals "DIGITS" = some (some (.str "0123456789" t_DIGITS)))
    (i_NOTHING : nsIn K mainGlobals "NOTHING" = some (some (.str "-" t_NOTHING)))
    (i_NONE : nsIn K mainGlobals "NONE" = some (some (.str "none" t_NONE)))
    (i_BAR : nsIn K mainGlobals "BAR" = some (some (.str " | " t_BAR)))
    (i_BETWEEN : nsIn K mainGlobals "BETWEEN" = some (some (.str "; " t_BETWEEN)))
    (i_ANY : nsIn K mainGlobals "ANY" = some (some (.str "_" t_ANY)))
    (i_LOST : nsIn K mainGlobals "LOST" = some (some (.str "#" t_LOST)))
    (i_LETTERS : nsIn K mainGlobals "LETTERS" = some (some (.str "abcdefghijklmnopqrstuvwxyz" t_LETTERS))) :
    ∃ fd : FuncData, (∀ (s : Shared) (v : Value), BindsTo s fd ⟨[v], []⟩ [("_law_script", v)]) ∧ ∀ base : Heap, K.In base → base.Ns mainGlobals mg → LamX.TabB base mg jsh jbI → LamX.TabB base mg jxa jcQ → FnG l.prog w K mg base (L2.CX l.prog w) 13 fa fd ["_law_script"] (spLaw [(jbI, "_law_right.<locals>.<lambda>"), (jcQ, "law.<locals>.<lambda>")] K) := by
  have e := hfa.symm.trans (PySem.W.mg_of X G a_law)
  cases e
  have T : Txt K mg := ⟨PySem.W.mg_none_of X G z_set, PySem.W.mg_none_of X G z_len, PySem.W.mg_none_of X G z_int, PySem.W.mg_none_of X G z_bool, PySem.W.mg_none_of X G z_str, PySem.W.mg_none_of X G z_list, PySem.W.mg_none_of X G z_tuple, PySem.W.mg_none_of X G z_dict, PySem.W.mg_none_of X G z_abs, PySem.W.mg_none_of X G z_max, PySem.W.mg_none_of X G z_min, PySem.W.mg_none_of X G z_range, PySem.W.mg_none_of X G z_repr, PySem.W.mg_none_of X G z_isinstance, PySem.W.mg_none_of X G z_all, PySem.W.mg_none_of X G z_any, PySem.W.mg_none_of X G z_sorted, PySem.W.mg_none_of X G z_enumerate, PySem.W.mg_none_of X G z_zip⟩
  have jxf := fun_mk (st := jeI) l_dice c_dice jxc
  have m_dice := PySem.W.mg_of X G a_dice
  have b_dice := jxf.binds (ps := juk) fun _ _ _ _ _ _ us hl => match us, hl with | [_, _], _ => rfl
  have jxg := fun_mk (st := jeJ) l_roll c_roll jxd
  have m_roll := PySem.W.mg_of X G a_roll
  have b_roll := jxg.binds (ps := jqT) fun _ _ _ _ _ _ us hl => match us, hl with | [_, _], _ => rfl
  have jxh := fun_mk (st := jfI) l_pick c_pick jxe
  have m_pick := PySem.W.mg_of X G a_pick
  have b_pick := jxh.binds (ps := jun) fun _ _ _ _ _ _ us hl => match us, hl with | [_, _], _ => rfl
  have F_met := fun_mk (st := s_met) l_met c_met k_met
  have m_met := PySem.W.mg_of X G a_met
  have b_met := F_met.binds (ps := jwW) fun _ _ _ _ _ _ us hl => match us, hl with | [_], _ => rfl
  have jhF := fun_mk (st := jbn) jpV jpW jhz
  have jqo := PySem.W.mg_of X G jpU
  have jqp := jhF.binds (ps := jdq) fun _ _ _ _ _ _ us hl => match us, hl with | [_], _ => rfl
  have jkr := fun_mk (st := jbE) jqW jqX jkg
  have jrk := PySem.W.mg_of X G jqV
  have jrl := jkr.binds (ps := jdP) fun _ _ _ _ _ _ us hl => match us, hl with | [_, _, _], _ => rfl
  have jqq := fun_mk (st := jbP) juE juF jpX
  have juK := PySem.W.mg_of X G juD
  have juL := jqq.binds (ps := jgy) fun _ _ _ _ _ _ us hl => match us, hl with | [_], _ => rfl
  have jks := fun_mk (st := jbt) jqZ jra jkh
  have jrm := PySem.W.mg_of X G jqY
  have jrn := jks.binds (ps := jdR) fun _ _ _ _ _ _ us hl => match us, hl with | [_], _ => rfl
  have jdN := fun_mk (st := jaC) jig jih jdM
  have jii := PySem.W.mg_of X G jif
  have jij := jdN.binds (ps := jcg) fun _ _ _ _ _ _ us hl => match us, hl with | [_], _ => rfl
  have jgj := fun_mk (st := jaX) jnU jnV jgg
  have joc := PySem.W.mg_of X G jnT
  have jod := jgj.binds (ps := jcW) fun _ _ _ _ _ _ us hl => match us, hl with | [_], _ => rfl
  have jkt := fun_mk (st := jbu) jrc jrd jki
  have jro := PySem.W.mg_of X G jrb
  have jrp := jkt.binds (ps := jdS) fun _ _ _ _ _ _ us hl => match us, hl with | [_], _ => rfl
  have jeS := fun_mk (st := jaM) jlq jlr jeN
  have jlE := PySem.W.mg_of X G jlp
  have jlF := jeS.binds (ps := jcz) fun _ _ _ _ _ _ us hl => match us, hl with | [_], _ => rfl
  have jhG := fun_mk (st := jbf) jpZ jqa jhA
  have jqr := PySem.W.mg_of X G jpY
  have jqs := jhG.binds (ps := jdr) fun _ _ _ _ _ _ us hl => match us, hl with | [_], _ => rfl
  have jeu := fun_mk (st := jaO) jkk jkl jes
  have jku := PySem.W.mg_of X G jkj
  have jkv := jeu.binds (ps := jcp) fun _ _ _ _ _ _ us hl => match us, hl with | [_], _ => rfl
  have jeT := fun_mk (st := jaY) jlt jlu jeO
  have jlG := PySem.W.mg_of X G jls
  have jlH := jeT.binds (ps := jcB) fun _ _ _ _ _ _ us hl => match us, hl with | [_], _ => rfl
  have jeU := fun_mk (st := jaB) jlw jlx jeP
  have jlI := PySem.W.mg_of X G jlv
  have jlJ := jeU.binds (ps := jcD) fun _ _ _ _ _ _ us hl => match us, hl with | [_], _ => rfl
  have jhH := fun_mk (st := jbh) jqc jqd jhB
  have jqt := PySem.W.mg_of X G jqb
  have jqu := jhH.binds (ps := jdt) fun _ _ _ _ _ _ us hl => match us, hl with | [_], _ => rfl
  have jgk := fun_mk (st := jbd) jnX jnY jgh
  have joe := PySem.W.mg_of X G jnW
  have jof := jgk.binds (ps := jcX) fun _ _ _ _ _ _ us hl => match us, hl with | [_], _ => rfl
  have jhI := fun_mk (st := jbo) jqf jqg jhC
  have jqv := PySem.W.mg_of X G jqe
  have jqw := jhI.binds (ps := jdu) fun _ _ _ _ _ _ us hl => match us, hl with | [_], _ => rfl
  have jeV := fun_mk (st := jan) jlz jlA jeQ
  have jlK := PySem.W.mg_of X G jly
  have jlL := jeV.binds (ps := jcE) fun _ _ _ _ _ _ us hl => match us, hl with | [_], _ => rfl
  have jgl := fun_mk (st := jaZ) joa job jgi
  have jog := PySem.W.mg_of X G jnZ
  have joh := jgl.binds (ps := jcY) fun _ _ _ _ _ _ us hl => match us, hl with | [_], _ => rfl
  have jhJ := fun_mk (st := jbp) jqi jqj jhD
  have jqx := PySem.W.mg_of X G jqh
  have jqy := jhJ.binds (ps := jdw) fun _ _ _ _ _ _ us hl => match us, hl with | [_], _ => rfl
  have jqz := fun_mk (st := jca) juH juI jqk
  have juM := PySem.W.mg_of X G juG
  have juN := jqz.binds (ps := jgB) fun _ _ _ _ _ _ us hl => match us, hl with | [_], _ => rfl
  have jkw := fun_mk (st := jbw) jrf jrg jkm
  have jrq := PySem.W.mg_of X G jre
  have jrr := jkw.binds (ps := jea) fun _ _ _ _ _ _ us hl => match us, hl with | [_, _], _ => rfl
  have jhK := fun_mk (st := jbc) jqm jqn jhE
  have jqA := PySem.W.mg_of X G jql
  have jqB := jhK.binds (ps := jdy) fun _ _ _ _ _ _ us hl => match us, hl with | [_], _ => rfl
  have jkx := fun_mk (st := jbF) jri jrj jkn
  have jrs := PySem.W.mg_of X G jrh
  have jrt := jkx.binds (ps := jec) fun _ _ _ _ _ _ us hl => match us, hl with | [_], _ => rfl
  have jdn := fun_mk (st := jau) jgR jgS jdm
  have jgT := PySem.W.mg_of X G jgQ
  have jgU := jdn.binds (ps := jcb) fun _ _ _ _ _ _ us hl => match us, hl with | [_], _ => rfl
  have jev := fun_mk (st := jaP) jkp jkq jet
  have jky := PySem.W.mg_of X G jko
  have jkz := jev.binds (ps := jcq) fun _ _ _ _ _ _ us hl => match us, hl with | [_], _ => rfl
  have jeW := fun_mk (st := jbb) jlC jlD jeR
  have jlM := PySem.W.mg_of X G jlB
  have jlN := jeW.binds (ps := jcF) fun _ _ _ _ _ _ us hl => match us, hl with | [_], _ => rfl
  have juO := fun_mk (st := jbm) jyx jyy juJ
  have jyz := PySem.W.mg_of X G jyw
  have jyA := juO.binds (ps := jmW) fun _ _ _ _ _ _ us hl => match us, hl with | [_], _ => rfl
  have F_law := fun_mk (st := s_law) l_law c_law k_law
  have m_law := PySem.W.mg_of X G a_law
  have b_law := F_law.binds (ps := juf) fun _ _ _ _ _ _ us hl => match us, hl with | [_], _ => rfl
  have jdo := fun_mk (st := jav) jgN jgO jgP
  have jgV := jdo.binds (ps := jcc) fun _ _ _ _ _ _ us hl => match us, hl with | [_, _], _ => rfl
  have m_CP := PySem.W.mg_of X G a_CP
  have m_CE := PySem.W.mg_of X G a_CE
  have m_CT := PySem.W.mg_of X G a_CT
  have m_CR := PySem.W.mg_of X G a_CR
  have m_CG := PySem.W.mg_of X G a_CG
  have m_CO := PySem.W.mg_of X G a_CO
  have g_LONGEST := PySem.W.mg_of X G i_LONGEST
  have g_MAX_DIGITS := PySem.W.mg_of X G i_MAX_DIGITS
  have g_MAX_LETTERS := PySem.W.mg_of X G i_MAX_LETTERS
  have g_MAX_ARITY := PySem.W.mg_of X G i_MAX_ARITY
  have g_DIGITS := PySem.W.mg_of X G i_DIGITS
  have g_NOTHING := PySem.W.mg_of X G i_NOTHING
  have g_NONE := PySem.W.mg_of X G i_NONE
  have g_BAR := PySem.W.mg_of X G i_BAR
  have g_BETWEEN := PySem.W.mg_of X G i_BETWEEN
  have g_ANY := PySem.W.mg_of X G i_ANY
  have g_LOST := PySem.W.mg_of X G i_LOST
  have g_LETTERS := PySem.W.mg_of X G i_LETTERS
  refine ⟨fnOf "law" "law" (defArgs s_law) (defBody s_law) (defScope s_law) .none juz juA juB juy jpT juC, fun s v => .of_eq rfl, fun base _ _ jvY tb_law => ?_⟩
  have jvZ : LamT [(jbI, "_law_right.<locals>.<lambda>"), (jcQ, "law.<locals>.<lambda>")] base mg (fnOf "_law_right" "_law_right" (defArgs jbm) (defBody jbm) (defScope jbm) .none jsj jsk jsl jsi jiG jsm) "_law_right.<locals>.<lambda>" := ⟨⟨_, _, jvX, jvY, by simp, jsg tn (by simp)⟩⟩
  have LT_law : LamT [(jbI, "_law_right.<locals>.<lambda>"), (jcQ, "law.<locals>.<lambda>")] base mg (fnOf "law" "law" (defArgs s_law) (defBody s_law) (defScope s_law) .none juz juA juB juy jpT juC) "law.<locals>.<lambda>" := ⟨⟨_, _, te_law, tb_law, by simp, jsg tn (by simp)⟩⟩
  have cl_CP : Cls K CP := ⟨pg_CP, hd_CP, po_CP, sa_CP⟩
  have no_CP : ∀ n ∈ asked, kitOne K (.ref CP) (.type n) = some false := fun n h => by
    simp only [asked, List.mem_cons, List.not_mem_nil, or_false] at h
    rcases h with rfl | rfl | rfl | rfl | rfl | rfl
    · exact no_CP_int
    · exact no_CP_bool
    · exact no_CP_str
    · exact no_CP_list
    · exact no_CP_tuple
    · exact no_CP_dict
  have nt_CP : ∀ n ∈ ["NoneType", "bool", "int", "str", "list", "tuple", "dict"], kitOne K (.type n) (.ref CP) = some false := fun n h => by
    simp only [List.mem_cons, List.not_mem_nil, or_false] at h
    rcases h with rfl | rfl | rfl | rfl | rfl | rfl | rfl
    · exact nt_CP_NoneType
    · exact nt_CP_bool
    · exact nt_CP_int
    · exact nt_CP_str
    · exact nt_CP_list
    · exact nt_CP_tuple
    · exact nt_CP_dict
  have ow_CP : Own K CP := ⟨cl_CP, ha_CP, hn_CP, ht_CP, hm_CP, no_CP⟩
  obtain ⟨A, eP, e1, e2, e3, e4, e5⟩ : ∃ A : Adr, A.cProgram = CP ∧ A.cInvalidTable = CT ∧ A.cInvalidRows = CR ∧ A.cInvalidProgram = CG ∧ A.cInvalidOperation = CO ∧ A.cParseError = CE := ⟨⟨CP, CT, CR, CG, CO, CE⟩, rfl, rfl, rfl, rfl, rfl, rfl⟩
  subst eP e1 e2 e3 e4 e5
  have e_CT_CT := jcI xb_CT xi_CT xt_CT xb_CT xi_CT xt_CT xs_CT
  have e_CR_CT := jcI xb_CR xi_CR xt_CR xb_CT xi_CT xt_CT s_CR_CT
  have e_CR_CR := jcI xb_CR xi_CR xt_CR xb_CR xi_CR xt_CR xs_CR
  have e_CG_CT := jcI xb_CG xi_CG xt_CG xb_CT xi_CT xt_CT s_CG_CT
  have e_CG_CR := jcI xb_CG xi_CG xt_CG xb_CR xi_CR xt_CR s_CG_CR
  have e_CG_CG := jcI xb_CG xi_CG xt_CG xb_CG xi_CG xt_CG xs_CG
  have e_CO_CT := jcI xb_CO xi_CO xt_CO xb_CT xi_CT xt_CT s_CO_CT
  have e_CO_CR := jcI xb_CO xi_CO xt_CO xb_CR xi_CR xt_CR s_CO_CR
  have e_CO_CG := jcI xb_CO xi_CO xt_CO xb_CG xi_CG xt_CG s_CO_CG
  have e_CO_CO := jcI xb_CO xi_CO xt_CO xb_CO xi_CO xt_CO xs_CO
  have e_CE_CT := jcI xb_CE xi_CE xt_CE xb_CT xi_CT xt_CT s_CE_CT
  have e_CE_CR := jcI xb_CE xi_CE xt_CE xb_CR xi_CR xt_CR s_CE_CR
  have e_CE_CG := jcI xb_CE xi_CE xt_CE xb_CG xi_CG xt_CG s_CE_CG
  have e_CE_CO := jcI xb_CE xi_CE xt_CE xb_CO xi_CO xt_CO s_CE_CO
  have e_CE_CE := jcI xb_CE xi_CE xt_CE xb_CE xi_CE xt_CE xs_CE
  have EC : EK K A := ⟨e_CT_CT, e_CR_CT, e_CR_CR, e_CG_CT, e_CG_CR, e_CG_CG, e_CO_CT, e_CO_CR, e_CO_CG, e_CO_CO, e_CE_CT, e_CE_CR, e_CE_CG, e_CE_CO, e_CE_CE⟩
  have OX : OexC K A.cParseError := ⟨of_exB ex_CE, sa_CE, xb_CE, xt_CE, xk_CE⟩
  have E_InvalidTable : ExC K mg "InvalidTable" A.cInvalidTable := ⟨xx_CT, m_CT, xk_CT, xb_CT, xt_CT⟩
  have E_InvalidRows : ExC K mg "InvalidRows" A.cInvalidRows := ⟨xx_CR, m_CR, xk_CR, xb_CR, xt_CR⟩
  have E_InvalidProgram : ExC K mg "InvalidProgram" A.cInvalidProgram := ⟨xx_CG, m_CG, xk_CG, xb_CG, xt_CG⟩
  have E_InvalidOperation : ExC K mg "InvalidOperation" A.cInvalidOperation := ⟨xx_CO, m_CO, xk_CO, xb_CO, xt_CO⟩
  have C_roll0 : Cal l.prog w K mg base "_law_roll" 1 jqT jth := ⟨⟨_, _, jxT jxg T, m_roll, jxd, b_roll⟩⟩
  have jht : CalF l.prog w K mg base "_law_pick" 2 2 (jfv K A) := ⟨⟨_, _, _, jxt (jxW jxh T C_roll0), m_pick, jxe, b_pick⟩⟩
  have jug : CalF l.prog w K mg base "_law_dice" 1 2 (jtY K A) := ⟨⟨_, _, _, jvq (jxR jxf T), m_dice, jxc, b_dice⟩⟩
  have jdQ : CalF l.prog w K mg base "is_integer" 1 1 (jbV K A) := ⟨⟨_, _, _, jmO jhF T g_LONGEST, jqo, jhz, jqp⟩⟩
  have jch : CalF l.prog w K mg base "is_within" 2 3 (jbL K A) := ⟨⟨_, _, _, joT jkr T jdQ, jrk, jkg, jrl⟩⟩
  have jjh : CalF l.prog w K mg base "is_word" 1 1 (jcy K A) := ⟨⟨_, _, _, jsB jqq T g_LETTERS g_MAX_LETTERS, juK, jpX, juL⟩⟩
  have jeY : CalF l.prog w K mg base "number_of" 1 1 (jcf K A) := ⟨⟨_, _, _, joU jks T g_DIGITS g_MAX_DIGITS, jrm, jkh, jrn⟩⟩
  have Z_ParseError : CalX l.prog w K mg base "ParseError" A.cParseError 1 "line" := ⟨OX, m_CE, ⟨_, _, _, jgM, ti_CE, jvT jdo OX no_CE, jgV⟩⟩
  have jae : CalF l.prog w K mg base "require_string" 3 1 (jad K A) := ⟨⟨_, _, _, jgA jdN T Z_ParseError, jii, jdM, jij⟩⟩
  have jaN : CalF l.prog w K mg base "are_numbers" 3 1 (jaD K A) := ⟨⟨_, _, _, jkN jgj T g_LONGEST jch, joc, jgg, jod⟩⟩
  have jds : CalF l.prog w K mg base "is_rising" 4 1 (jbT K A) := ⟨⟨_, _, _, joV jkt T jaN, jro, jki, jrp⟩⟩
  have jbv : CalF l.prog w K mg base "numbers_text" 1 1 (jbe K A) := ⟨⟨_, _, _, jjc jeS T g_NOTHING, jlE, jeN, jlF⟩⟩
  have jdW : CalF l.prog w K mg base "numbers_of" 2 1 (jbW K A) := ⟨⟨_, _, _, jmP jhG T g_NOTHING jeY, jqr, jhA, jqs⟩⟩
  have jbC : CalF l.prog w K mg base "write_numbers" 4 1 (jaA K A) := ⟨⟨_, _, _, jhM jeu T jaN jbv E_InvalidOperation, jku, jes, jkv⟩⟩
  have jbx : CalF l.prog w K mg base "read_numbers" 4 1 (jam K A) := ⟨⟨_, _, _, jje jeT T jae jdW Z_ParseError, jlG, jeO, jlH⟩⟩
  have jbG : CalF l.prog w K mg base "is_state_row" 5 1 (jbg K A) := ⟨⟨_, _, _, jjf jeU T jds, jlI, jeP, jlJ⟩⟩
  have jdZ : CalF l.prog w K mg base "state_text" 2 1 (jcN K A) := ⟨⟨_, _, _, jmQ jhH T g_BETWEEN g_BAR g_NONE jbv, jqt, jhB, jqu⟩⟩
  have jdz : CalF l.prog w K mg base "write_state" 6 1 (jbN K A) := ⟨⟨_, _, _, jkP jgk T jbG E_InvalidTable, joe, jgh, jof⟩⟩
  have jef : CalF l.prog w K mg base "read_state" 4 1 (jbX K A) := ⟨⟨_, _, _, jmS jhI T jae, jqv, jhC, jqw⟩⟩
  have jcZ : CalF l.prog w K mg base "is_table_row" 6 1 (jai K A) := ⟨⟨_, _, _, jjg jeV T jaN jbG, jlK, jeQ, jlL⟩⟩
  have jbO : CalF l.prog w K mg base "write_table" 7 1 (jba K A) := ⟨⟨_, _, _, jkQ jgl T g_NONE jcZ jdZ E_InvalidTable, jog, jgi, joh⟩⟩
  have jeg : CalF l.prog w K mg base "read_table" 4 1 (jbY K A) := ⟨⟨_, _, _, jmU jhJ T jae, jqx, jhD, jqy⟩⟩
  have jjj : CalF l.prog w K mg base "is_sign" 2 1 (jdj K A) := ⟨⟨_, _, _, jsD jqz T g_LOST g_ANY jjh, juM, jqk, juN⟩⟩
  have jeZ : CalF l.prog w K mg base "is_row_at" 3 2 (jbU K A) := ⟨⟨_, _, _, joY jkw T g_MAX_ARITY jjj jch, jrq, jkm, jrr⟩⟩
  have jbZ : CalF l.prog w K mg base "write_rows" 4 1 (jbi K A) := ⟨⟨_, _, _, jmV jhK T jeZ E_InvalidRows, jqA, jhE, jqB⟩⟩
  have jfa : CalF l.prog w K mg base "read_rows" 4 1 (jci K A) := ⟨⟨_, _, _, jpa jkx T jae, jrs, jkn, jrt⟩⟩
  have jcj : CalF l.prog w K mg base "require_program" 1 1 (jbj K A) := ⟨⟨_, _, _, jfH jdn T m_CP E_InvalidProgram, jgT, jdm, jgU⟩⟩
  have jcG : CalF l.prog w K mg base "write_program" 2 1 (jbB K A) := ⟨⟨_, _, _, jhO jev T jcj, jky, jet, jkz⟩⟩
  have jda : CalF l.prog w K mg base "read_program" 4 1 (jbH K A) := ⟨⟨_, _, _, jjm jeW T jae, jlM, jeR, jlN⟩⟩
  have X_ParseError_line : ErF K A.cParseError "line" := ⟨⟨ga_CE, gg_CE, xb_CE, hd_CE⟩, no_CE⟩
  have G_met_ : CalGot K mg "_law_met" s_met "_law_call" := ⟨⟨_, _, F_met, m_met, k_met, b_met⟩⟩
  have jqS : CalQG _ l.prog w K mg base "_law_right" 10 1 (jgD K A) := ⟨⟨_, _, _, jvQ juO T jht jbC jdz jbO jbZ jcG jbx jef jeg jfa jda X_ParseError_line G_met_ jvZ m_CE m_CO m_CG m_CR m_CT, jyz, juJ, jyA⟩⟩
  exact jxX EC nt_CP (ok_law F_law T jug jbC jbO jbZ jbx X_ParseError_line jqS G_met_ LT_law m_CE m_CO m_CG m_CR m_CT)
theorem d2 {a b c : Bool} (h : (a && (b && c)) = true) : c = true := ba2 (ba2 h)
theorem d4 {a b c d e : Bool} (h : (a && (b && (c && (d && e)))) = true) : e = true := d2 (d2 h)
theorem d8 {a b c d e f g i j : Bool} (h : (a && (b && (c && (d && (e && (f && (g && (i && j)))))))) = true) : j = true := d4 (d4 h)
abbrev fnL (o : Option Obj) (nm q : Str) (ar : Arguments) (b : List Stmt) (sc : Scope) : Option Obj := some ⟨ocOf o, odOf o, .func (fnOf nm q ar b sc .none (fdOf o).kwdefaults (fdOf o).doc (fdOf o).pyModule (fdOf o).annotations (fdOf o).code (fdOf o).closureTuple), slOf o⟩
section
variable {K : Frag} (hp : prtH K = expd)
include hp
theorem h_a_CP (hc : chk0 K = true) : nsIn K mainGlobals "Program" = some (some (.ref (q_CP K))) := jaQ (ba1 hc)
theorem h_a_CE (hc : chk0 K = true) : nsIn K mainGlobals "ParseError" = some (some (.ref (q_CE K))) := jaQ (ba1 (ba2 hc))
theorem h_a_CT (hc : chk0 K = true) : nsIn K mainGlobals "InvalidTable" = some (some (.ref (q_CT K))) := jaQ (ba1 (d2 hc))
theorem h_a_CR (hc : chk0 K = true) : nsIn K mainGlobals "InvalidRows" = some (some (.ref (q_CR K))) := jaQ (ba1 (d2 (ba2 hc)))
theorem h_a_CG (hc : chk0 K = true) : nsIn K mainGlobals "InvalidProgram" = some (some (.ref (q_CG K))) := jaQ (ba1 (d4 hc))
theorem h_a_CO (hc : chk0 K = true) : nsIn K mainGlobals "InvalidOperation" = some (some (.ref (q_CO K))) := jaQ (ba1 (d4 (ba2 hc)))
theorem jfh (hc : chk0 K = true) : findIn K (.ref (q_CE K)) "__init__" = some (some (.ref (jab K))) := jaQ (ba1 (d4 (d2 hc)))
theorem jfi (hc : chk0 K = true) : isFn K (.ref (jab K)) = true := (ba1 (d4 (d2 (ba2 hc))))
theorem jfj (hc : chk0 K = true) : K.lookup (jab K) = fnL (K.lookup (jab K)) "__init__" "ParseError.__init__" (defArgs jav) (defBody jav) (defScope jav) := of_fn (ba1 (d8 hc)) (Option.some.inj (nthEq hp 0))
theorem jfk (hc : chk0 K = true) : codeIn K (fdOf (K.lookup (jab K))).code "ParseError.__init__" = true := (ba1 (d8 (ba2 hc)))
theorem jfl (hc : chk0 K = true) : keepIn K (.ref (jab K)) = true := (ba1 (d8 (d2 hc)))
theorem jfm (hc : chk0 K = true) : fnIn K (jab K) = true := (ba1 (d8 (d2 (ba2 hc))))
theorem jyB (hc : chk0 K = true) : PySem.W.plainGet K (q_CP K) Str.empty = true := (ba1 (d8 (d4 hc)))
theorem jyC (hc : chk0 K = true) : PySem.W.hasDictIn K (q_CP K) = true := (ba1 (d8 (d4 (ba2 hc))))
theorem jyD (hc : chk0 K = true) : PySem.W.plainOver K (q_CP K) = true := (ba1 (d8 (d4 (d2 hc))))
theorem jyE (hc : chk0 K = true) : findIn K (.ref (q_CP K)) "__setattr__" = some (some (.builtin "object.__setattr__")) := of_bi (d8 (d4 (d2 (ba2 hc))))
theorem jyF (hc : chk1 K = true) : findIn K (.ref (q_CP K)) "__class__" = some (some (.builtin "object.__class__")) := of_bi (ba1 hc)
theorem jyG (hc : chk1 K = true) : specialIn K (.builtin "object.__class__") "__get__" = some (some (.builtin "getset_descriptor.__get__")) := of_bi (ba1 (ba2 hc))
theorem jyH (hc : chk1 K = true) : PySem.W.takesIn K (.builtin "object.__class__") = some true := of_ob (ba1 (d2 hc))
theorem jyI (hc : chk1 K = true) : PySem.W.mroIn K (q_CP K) (.type "object") = some true := of_ob (ba1 (d2 (ba2 hc)))
theorem jyJ (hc : chk1 K = true) : PySem.W.makesIn K (q_CP K) = true := (ba1 (d4 hc))
theorem jyK (hc : chk1 K = true) : keepIn K (.ref (q_CP K)) = true := (ba1 (d4 (ba2 hc)))
theorem jyL (hc : chk1 K = true) : kitOne K (.ref (q_CP K)) (.ref (q_CP K)) = some true := of_ob (ba1 (d4 (d2 hc)))
theorem jru (hc : chk1 K = true) : kitOne K (.ref (q_CP K)) (.type "int") = some false := of_ob (ba1 (d4 (d2 (ba2 hc))))
theorem jqC (hc : chk1 K = true) : kitOne K (.ref (q_CP K)) (.type "bool") = some false := of_ob (ba1 (d8 hc))
theorem jrv (hc : chk1 K = true) : kitOne K (.ref (q_CP K)) (.type "str") = some false := of_ob (ba1 (d8 (ba2 hc)))
theorem jqD (hc : chk1 K = true) : kitOne K (.ref (q_CP K)) (.type "list") = some false := of_ob (ba1 (d8 (d2 hc)))
theorem joi (hc : chk1 K = true) : kitOne K (.ref (q_CP K)) (.type "tuple") = some false := of_ob (ba1 (d8 (d2 (ba2 hc))))
theorem jqE (hc : chk1 K = true) : kitOne K (.ref (q_CP K)) (.type "dict") = some false := of_ob (ba1 (d8 (d4 hc)))
theorem jik (hc : chk1 K = true) : kitOne K (.type "NoneType") (.ref (q_CP K)) = some false := of_ob (ba1 (d8 (d4 (ba2 hc))))
theorem jqF (hc : chk1 K = true) : kitOne K (.type "bool") (.ref (q_CP K)) = some false := of_ob (ba1 (d8 (d4 (d2 hc))))
theorem jrw (hc : chk1 K = true) : kitOne K (.type "int") (.ref (q_CP K)) = some false := of_ob (d8 (d4 (d2 (ba2 hc))))
theorem jrx (hc : chk2 K = true) : kitOne K (.type "str") (.ref (q_CP K)) = some false := of_ob (ba1 hc)
theorem jqG (hc : chk2 K = true) : kitOne K (.type "list") (.ref (q_CP K)) = some false := of_ob (ba1 (ba2 hc))
theorem joj (hc : chk2 K = true) : kitOne K (.type "tuple") (.ref (q_CP K)) = some false := of_ob (ba1 (d2 hc))
theorem jqH (hc : chk2 K = true) : kitOne K (.type "dict") (.ref (q_CP K)) = some false := of_ob (ba1 (d2 (ba2 hc)))
theorem jyM (hc : chk2 K = true) : PySem.W.excIn K (q_CT K) [.type "ValueError", .type "Exception", .type "BaseException", .type "object"] "ValueError.__new__" = true := (ba1 (d4 hc))
theorem jyN (hc : chk2 K = true) : keepIn K (.ref (q_CT K)) = true := (ba1 (d4 (ba2 hc)))
theorem jyO (hc : chk2 K = true) : subIn K (.ref (q_CT K)) (.type "BaseException") = some true := of_ob (ba1 (d4 (d2 hc)))
theorem jyP (hc : chk2 K = true) : PySem.W.typeIn K (.ref (q_CT K)) = some (.type "type") := of_ty (ba1 (d4 (d2 (ba2 hc))))
theorem jyQ (hc : chk2 K = true) : PySem.W.isClsIn K (q_CT K) = true := (ba1 (d8 hc))
theorem jyR (hc : chk2 K = true) : subIn K (.ref (q_CT K)) (.ref (q_CT K)) = some true := of_ob (ba1 (d8 (ba2 hc)))
theorem jyS (hc : chk2 K = true) : PySem.W.excIn K (q_CR K) [.type "ValueError", .type "Exception", .type "BaseException", .type "object"] "ValueError.__new__" = true := (ba1 (d8 (d2 hc)))
theorem jyT (hc : chk2 K = true) : keepIn K (.ref (q_CR K)) = true := (ba1 (d8 (d2 (ba2 hc))))
theorem jyU (hc : chk2 K = true) : subIn K (.ref (q_CR K)) (.type "BaseException") = some true := of_ob (ba1 (d8 (d4 hc)))
theorem jyV (hc : chk2 K = true) : PySem.W.typeIn K (.ref (q_CR K)) = some (.type "type") := of_ty (ba1 (d8 (d4 (ba2 hc))))
theorem jyW (hc : chk2 K = true) : PySem.W.isClsIn K (q_CR K) = true := (ba1 (d8 (d4 (d2 hc))))
theorem jyX (hc : chk2 K = true) : subIn K (.ref (q_CR K)) (.ref (q_CR K)) = some true := of_ob (d8 (d4 (d2 (ba2 hc))))
theorem jyY (hc : chk3 K = true) : PySem.W.excIn K (q_CG K) [.type "ValueError", .type "Exception", .type "BaseException", .type "object"] "ValueError.__new__" = true := (ba1 hc)
theorem jyZ (hc : chk3 K = true) : keepIn K (.ref (q_CG K)) = true := (ba1 (ba2 hc))
theorem jza (hc : chk3 K = true) : subIn K (.ref (q_CG K)) (.type "BaseException") = some true := of_ob (ba1 (d2 hc))
theorem jzb (hc : chk3 K = true) : PySem.W.typeIn K (.ref (q_CG K)) = some (.type "type") := of_ty (ba1 (d2 (ba2 hc)))
theorem jzc (hc : chk3 K = true) : PySem.W.isClsIn K (q_CG K) = true := (ba1 (d4 hc))
theorem jzd (hc : chk3 K = true) : subIn K (.ref (q_CG K)) (.ref (q_CG K)) = some true := of_ob (ba1 (d4 (ba2 hc)))
theorem jze (hc : chk3 K = true) : PySem.W.excIn K (q_CO K) [.type "ValueError", .type "Exception", .type "BaseException", .type "object"] "ValueError.__new__" = true := (ba1 (d4 (d2 hc)))
theorem jzf (hc : chk3 K = true) : keepIn K (.ref (q_CO K)) = true := (ba1 (d4 (d2 (ba2 hc))))
theorem jzg (hc : chk3 K = true) : subIn K (.ref (q_CO K)) (.type "BaseException") = some true := of_ob (ba1 (d8 hc))
theorem jzh (hc : chk3 K = true) : PySem.W.typeIn K (.ref (q_CO K)) = some (.type "type") := of_ty (ba1 (d8 (ba2 hc)))
theorem jzi (hc : chk3 K = true) : PySem.W.isClsIn K (q_CO K) = true := (ba1 (d8 (d2 hc)))
theorem jzj (hc : chk3 K = true) : subIn K (.ref (q_CO K)) (.ref (q_CO K)) = some true := of_ob (ba1 (d8 (d2 (ba2 hc))))
theorem jzk (hc : chk3 K = true) : keepIn K (.ref (q_CE K)) = true := (ba1 (d8 (d4 hc)))
theorem jzl (hc : chk3 K = true) : subIn K (.ref (q_CE K)) (.type "BaseException") = some true := of_ob (ba1 (d8 (d4 (ba2 hc))))
theorem jzm (hc : chk3 K = true) : PySem.W.typeIn K (.ref (q_CE K)) = some (.type "type") := of_ty (ba1 (d8 (d4 (d2 hc))))
theorem jzn (hc : chk3 K = true) : PySem.W.isClsIn K (q_CE K) = true := (d8 (d4 (d2 (ba2 hc))))
theorem jzo (hc : chk4 K = true) : subIn K (.ref (q_CE K)) (.ref (q_CE K)) = some true := of_ob (ba1 hc)
theorem jzp (hc : chk4 K = true) : Pu.excB K (q_CE K) = true := (ba1 (ba2 hc))
theorem jzq (hc : chk4 K = true) : findIn K (.ref (q_CE K)) "__setattr__" = some (some (.builtin "object.__setattr__")) := of_bi (ba1 (d2 hc))
theorem jzr (hc : chk4 K = true) : findIn K (.ref (q_CE K)) "__getattribute__" = some (some (.builtin "BaseException.__getattribute__")) := of_bi (ba1 (d2 (ba2 hc)))
theorem jzs (hc : chk4 K = true) : findIn K (.ref (q_CE K)) "__getattr__" = some none := jbq (ba1 (d4 hc))
theorem jzt (hc : chk4 K = true) : PySem.W.hasDictIn K (q_CE K) = true := (ba1 (d4 (ba2 hc)))
theorem jzu (hc : chk4 K = true) : findIn K (.ref (q_CE K)) "line" = some none := jbq (ba1 (d4 (d2 hc)))
theorem jzv (hc : chk4 K = true) : PySem.W.typeIn K (.ref (jab K)) = some (.type "function") := of_ty (ba1 (d4 (d2 (ba2 hc))))
theorem juP (hc : chk4 K = true) : subIn K (.ref (q_CR K)) (.ref (q_CT K)) = some false := of_ob (ba1 (d8 hc))
theorem juQ (hc : chk4 K = true) : subIn K (.ref (q_CG K)) (.ref (q_CT K)) = some false := of_ob (ba1 (d8 (ba2 hc)))
theorem juR (hc : chk4 K = true) : subIn K (.ref (q_CG K)) (.ref (q_CR K)) = some false := of_ob (ba1 (d8 (d2 hc)))
theorem juS (hc : chk4 K = true) : subIn K (.ref (q_CO K)) (.ref (q_CT K)) = some false := of_ob (ba1 (d8 (d2 (ba2 hc))))
theorem juT (hc : chk4 K = true) : subIn K (.ref (q_CO K)) (.ref (q_CR K)) = some false := of_ob (ba1 (d8 (d4 hc)))
theorem juU (hc : chk4 K = true) : subIn K (.ref (q_CO K)) (.ref (q_CG K)) = some false := of_ob (ba1 (d8 (d4 (ba2 hc))))
theorem juV (hc : chk4 K = true) : subIn K (.ref (q_CE K)) (.ref (q_CT K)) = some false := of_ob (ba1 (d8 (d4 (d2 hc))))
theorem juW (hc : chk4 K = true) : subIn K (.ref (q_CE K)) (.ref (q_CR K)) = some false := of_ob (d8 (d4 (d2 (ba2 hc))))
theorem juX (hc : chk5 K = true) : subIn K (.ref (q_CE K)) (.ref (q_CG K)) = some false := of_ob (ba1 hc)
theorem juY (hc : chk5 K = true) : subIn K (.ref (q_CE K)) (.ref (q_CO K)) = some false := of_ob (ba1 (ba2 hc))
theorem jwa (hc : chk5 K = true) : nsIn K mainGlobals "_law_dice" = some (some (.ref (jcl K))) := jaQ (ba1 (d2 hc))
theorem jwb (hc : chk5 K = true) : K.lookup (jcl K) = fnL (K.lookup (jcl K)) "_law_dice" "_law_dice" (defArgs jeI) (defBody jeI) (defScope jeI) := of_fn (ba1 (d2 (ba2 hc))) (Option.some.inj (nthEq hp 1))
theorem jwc (hc : chk5 K = true) : codeIn K (fdOf (K.lookup (jcl K))).code "_law_dice" = true := (ba1 (d4 hc))
theorem jwd (hc : chk5 K = true) : keepIn K (.ref (jcl K)) = true := (ba1 (d4 (ba2 hc)))
theorem jwe (hc : chk5 K = true) : nsIn K mainGlobals "_law_roll" = some (some (.ref (jcm K))) := jaQ (ba1 (d4 (d2 hc)))
theorem jwf (hc : chk5 K = true) : K.lookup (jcm K) = fnL (K.lookup (jcm K)) "_law_roll" "_law_roll" (defArgs jeJ) (defBody jeJ) (defScope jeJ) := of_fn (ba1 (d4 (d2 (ba2 hc)))) (Option.some.inj (nthEq hp 2))
theorem jwg (hc : chk5 K = true) : codeIn K (fdOf (K.lookup (jcm K))).code "_law_roll" = true := (ba1 (d8 hc))
theorem jwh (hc : chk5 K = true) : keepIn K (.ref (jcm K)) = true := (ba1 (d8 (ba2 hc)))
theorem jwi (hc : chk5 K = true) : nsIn K mainGlobals "_law_pick" = some (some (.ref (jcn K))) := jaQ (ba1 (d8 (d2 hc)))
theorem jwj (hc : chk5 K = true) : K.lookup (jcn K) = fnL (K.lookup (jcn K)) "_law_pick" "_law_pick" (defArgs jfI) (defBody jfI) (defScope jfI) := of_fn (ba1 (d8 (d2 (ba2 hc)))) (Option.some.inj (nthEq hp 3))
theorem jwk (hc : chk5 K = true) : codeIn K (fdOf (K.lookup (jcn K))).code "_law_pick" = true := (ba1 (d8 (d4 hc)))
theorem jwl (hc : chk5 K = true) : keepIn K (.ref (jcn K)) = true := (ba1 (d8 (d4 (ba2 hc))))
theorem jzw (hc : chk5 K = true) : nsIn K mainGlobals "_law_met" = some (some (.ref (jcT K))) := jaQ (ba1 (d8 (d4 (d2 hc))))
theorem jzx (hc : chk5 K = true) : K.lookup (jcT K) = fnL (K.lookup (jcT K)) "_law_met" "_law_met" (defArgs s_met) (defBody s_met) (defScope s_met) := of_fn (d8 (d4 (d2 (ba2 hc)))) (Option.some.inj (nthEq hp 4))
theorem jzy (hc : chk6 K = true) : codeIn K (fdOf (K.lookup (jcT K))).code "_law_met" = true := (ba1 hc)
theorem jzz (hc : chk6 K = true) : keepIn K (.ref (jcT K)) = true := (ba1 (ba2 hc))
theorem jlO (hc : chk6 K = true) : nsIn K mainGlobals "is_integer" = some (some (.ref (jaG K))) := jaQ (ba1 (d2 hc))
theorem jlP (hc : chk6 K = true) : K.lookup (jaG K) = fnL (K.lookup (jaG K)) "is_integer" "is_integer" (defArgs jbn) (defBody jbn) (defScope jbn) := of_fn (ba1 (d2 (ba2 hc))) (Option.some.inj (nthEq hp 5))
theorem jlQ (hc : chk6 K = true) : codeIn K (fdOf (K.lookup (jaG K))).code "is_integer" = true := (ba1 (d4 hc))
theorem jlR (hc : chk6 K = true) : keepIn K (.ref (jaG K)) = true := (ba1 (d4 (ba2 hc)))
theorem jok (hc : chk6 K = true) : nsIn K mainGlobals "is_within" = some (some (.ref (jaS K))) := jaQ (ba1 (d4 (d2 hc)))
theorem jol (hc : chk6 K = true) : K.lookup (jaS K) = fnL (K.lookup (jaS K)) "is_within" "is_within" (defArgs jbE) (defBody jbE) (defScope jbE) := of_fn (ba1 (d4 (d2 (ba2 hc)))) (Option.some.inj (nthEq hp 6))
theorem jom (hc : chk6 K = true) : codeIn K (fdOf (K.lookup (jaS K))).code "is_within" = true := (ba1 (d8 hc))
theorem jon (hc : chk6 K = true) : keepIn K (.ref (jaS K)) = true := (ba1 (d8 (ba2 hc)))
theorem jry (hc : chk6 K = true) : nsIn K mainGlobals "is_word" = some (some (.ref (jbr K))) := jaQ (ba1 (d8 (d2 hc)))
theorem jrz (hc : chk6 K = true) : K.lookup (jbr K) = fnL (K.lookup (jbr K)) "is_word" "is_word" (defArgs jbP) (defBody jbP) (defScope jbP) := of_fn (ba1 (d8 (d2 (ba2 hc)))) (Option.some.inj (nthEq hp 7))
theorem jrA (hc : chk6 K = true) : codeIn K (fdOf (K.lookup (jbr K))).code "is_word" = true := (ba1 (d8 (d4 hc)))
theorem jrB (hc : chk6 K = true) : keepIn K (.ref (jbr K)) = true := (ba1 (d8 (d4 (ba2 hc))))
theorem joo (hc : chk6 K = true) : nsIn K mainGlobals "number_of" = some (some (.ref (jaT K))) := jaQ (ba1 (d8 (d4 (d2 hc))))
theorem jop (hc : chk6 K = true) : K.lookup (jaT K) = fnL (K.lookup (jaT K)) "number_of" "number_of" (defArgs jbt) (defBody jbt) (defScope jbt) := of_fn (d8 (d4 (d2 (ba2 hc)))) (Option.some.inj (nthEq hp 8))
theorem joq (hc : chk7 K = true) : codeIn K (fdOf (K.lookup (jaT K))).code "number_of" = true := (ba1 hc)
theorem jor (hc : chk7 K = true) : keepIn K (.ref (jaT K)) = true := (ba1 (ba2 hc))
theorem jgm (hc : chk7 K = true) : nsIn K mainGlobals "require_string" = some (some (.ref (jaj K))) := jaQ (ba1 (d2 hc))
theorem jgn (hc : chk7 K = true) : K.lookup (jaj K) = fnL (K.lookup (jaj K)) "require_string" "require_string" (defArgs jaC) (defBody jaC) (defScope jaC) := of_fn (ba1 (d2 (ba2 hc))) (Option.some.inj (nthEq hp 9))
theorem jgo (hc : chk7 K = true) : codeIn K (fdOf (K.lookup (jaj K))).code "require_string" = true := (ba1 (d4 hc))
theorem jgp (hc : chk7 K = true) : keepIn K (.ref (jaj K)) = true := (ba1 (d4 (ba2 hc)))
theorem jkA (hc : chk7 K = true) : nsIn K mainGlobals "are_numbers" = some (some (.ref (jax K))) := jaQ (ba1 (d4 (d2 hc)))
theorem jkB (hc : chk7 K = true) : K.lookup (jax K) = fnL (K.lookup (jax K)) "are_numbers" "are_numbers" (defArgs jaX) (defBody jaX) (defScope jaX) := of_fn (ba1 (d4 (d2 (ba2 hc)))) (Option.some.inj (nthEq hp 10))
theorem jkC (hc : chk7 K = true) : codeIn K (fdOf (K.lookup (jax K))).code "are_numbers" = true := (ba1 (d8 hc))
theorem jkD (hc : chk7 K = true) : keepIn K (.ref (jax K)) = true := (ba1 (d8 (ba2 hc)))
theorem jos (hc : chk7 K = true) : nsIn K mainGlobals "is_rising" = some (some (.ref (jaU K))) := jaQ (ba1 (d8 (d2 hc)))
theorem jot (hc : chk7 K = true) : K.lookup (jaU K) = fnL (K.lookup (jaU K)) "is_rising" "is_rising" (defArgs jbu) (defBody jbu) (defScope jbu) := of_fn (ba1 (d8 (d2 (ba2 hc)))) (Option.some.inj (nthEq hp 11))
theorem jou (hc : chk7 K = true) : codeIn K (fdOf (K.lookup (jaU K))).code "is_rising" = true := (ba1 (d8 (d4 hc)))
theorem jov (hc : chk7 K = true) : keepIn K (.ref (jaU K)) = true := (ba1 (d8 (d4 (ba2 hc))))
theorem jil (hc : chk7 K = true) : nsIn K mainGlobals "numbers_text" = some (some (.ref (jap K))) := jaQ (ba1 (d8 (d4 (d2 hc))))
theorem jim (hc : chk7 K = true) : K.lookup (jap K) = fnL (K.lookup (jap K)) "numbers_text" "numbers_text" (defArgs jaM) (defBody jaM) (defScope jaM) := of_fn (d8 (d4 (d2 (ba2 hc)))) (Option.some.inj (nthEq hp 12))
theorem jin (hc : chk8 K = true) : codeIn K (fdOf (K.lookup (jap K))).code "numbers_text" = true := (ba1 hc)
theorem jio (hc : chk8 K = true) : keepIn K (.ref (jap K)) = true := (ba1 (ba2 hc))
theorem jlS (hc : chk8 K = true) : nsIn K mainGlobals "numbers_of" = some (some (.ref (jaH K))) := jaQ (ba1 (d2 hc))
theorem jlT (hc : chk8 K = true) : K.lookup (jaH K) = fnL (K.lookup (jaH K)) "numbers_of" "numbers_of" (defArgs jbf) (defBody jbf) (defScope jbf) := of_fn (ba1 (d2 (ba2 hc))) (Option.some.inj (nthEq hp 13))
theorem jlU (hc : chk8 K = true) : codeIn K (fdOf (K.lookup (jaH K))).code "numbers_of" = true := (ba1 (d4 hc))
theorem jlV (hc : chk8 K = true) : keepIn K (.ref (jaH K)) = true := (ba1 (d4 (ba2 hc)))
theorem jgW (hc : chk8 K = true) : nsIn K mainGlobals "write_numbers" = some (some (.ref (jak K))) := jaQ (ba1 (d4 (d2 hc)))
theorem jgX (hc : chk8 K = true) : K.lookup (jak K) = fnL (K.lookup (jak K)) "write_numbers" "write_numbers" (defArgs jaO) (defBody jaO) (defScope jaO) := of_fn (ba1 (d4 (d2 (ba2 hc)))) (Option.some.inj (nthEq hp 14))
theorem jgY (hc : chk8 K = true) : codeIn K (fdOf (K.lookup (jak K))).code "write_numbers" = true := (ba1 (d8 hc))
theorem jgZ (hc : chk8 K = true) : keepIn K (.ref (jak K)) = true := (ba1 (d8 (ba2 hc)))
theorem jip (hc : chk8 K = true) : nsIn K mainGlobals "read_numbers" = some (some (.ref (jaq K))) := jaQ (ba1 (d8 (d2 hc)))
theorem jiq (hc : chk8 K = true) : K.lookup (jaq K) = fnL (K.lookup (jaq K)) "read_numbers" "read_numbers" (defArgs jaY) (defBody jaY) (defScope jaY) := of_fn (ba1 (d8 (d2 (ba2 hc)))) (Option.some.inj (nthEq hp 15))
theorem jir (hc : chk8 K = true) : codeIn K (fdOf (K.lookup (jaq K))).code "read_numbers" = true := (ba1 (d8 (d4 hc)))
theorem jis (hc : chk8 K = true) : keepIn K (.ref (jaq K)) = true := (ba1 (d8 (d4 (ba2 hc))))
theorem jit (hc : chk8 K = true) : nsIn K mainGlobals "is_state_row" = some (some (.ref (jar K))) := jaQ (ba1 (d8 (d4 (d2 hc))))
theorem jiu (hc : chk8 K = true) : K.lookup (jar K) = fnL (K.lookup (jar K)) "is_state_row" "is_state_row" (defArgs jaB) (defBody jaB) (defScope jaB) := of_fn (d8 (d4 (d2 (ba2 hc)))) (Option.some.inj (nthEq hp 16))
theorem jiv (hc : chk9 K = true) : codeIn K (fdOf (K.lookup (jar K))).code "is_state_row" = true := (ba1 hc)
theorem jiw (hc : chk9 K = true) : keepIn K (.ref (jar K)) = true := (ba1 (ba2 hc))
theorem jlW (hc : chk9 K = true) : nsIn K mainGlobals "state_text" = some (some (.ref (jaI K))) := jaQ (ba1 (d2 hc))
theorem jlX (hc : chk9 K = true) : K.lookup (jaI K) = fnL (K.lookup (jaI K)) "state_text" "state_text" (defArgs jbh) (defBody jbh) (defScope jbh) := of_fn (ba1 (d2 (ba2 hc))) (Option.some.inj (nthEq hp 17))
theorem jlY (hc : chk9 K = true) : codeIn K (fdOf (K.lookup (jaI K))).code "state_text" = true := (ba1 (d4 hc))
theorem jlZ (hc : chk9 K = true) : keepIn K (.ref (jaI K)) = true := (ba1 (d4 (ba2 hc)))
theorem jkE (hc : chk9 K = true) : nsIn K mainGlobals "write_state" = some (some (.ref (jay K))) := jaQ (ba1 (d4 (d2 hc)))
theorem jkF (hc : chk9 K = true) : K.lookup (jay K) = fnL (K.lookup (jay K)) "write_state" "write_state" (defArgs jbd) (defBody jbd) (defScope jbd) := of_fn (ba1 (d4 (d2 (ba2 hc)))) (Option.some.inj (nthEq hp 18))
theorem jkG (hc : chk9 K = true) : codeIn K (fdOf (K.lookup (jay K))).code "write_state" = true := (ba1 (d8 hc))
theorem jkH (hc : chk9 K = true) : keepIn K (.ref (jay K)) = true := (ba1 (d8 (ba2 hc)))
theorem jma (hc : chk9 K = true) : nsIn K mainGlobals "read_state" = some (some (.ref (jaJ K))) := jaQ (ba1 (d8 (d2 hc)))
theorem jmb (hc : chk9 K = true) : K.lookup (jaJ K) = fnL (K.lookup (jaJ K)) "read_state" "read_state" (defArgs jbo) (defBody jbo) (defScope jbo) := of_fn (ba1 (d8 (d2 (ba2 hc)))) (Option.some.inj (nthEq hp 19))
theorem jmc (hc : chk9 K = true) : codeIn K (fdOf (K.lookup (jaJ K))).code "read_state" = true := (ba1 (d8 (d4 hc)))
theorem jmd (hc : chk9 K = true) : keepIn K (.ref (jaJ K)) = true := (ba1 (d8 (d4 (ba2 hc))))
theorem jix (hc : chk9 K = true) : nsIn K mainGlobals "is_table_row" = some (some (.ref (jas K))) := jaQ (ba1 (d8 (d4 (d2 hc))))
theorem jiy (hc : chk9 K = true) : K.lookup (jas K) = fnL (K.lookup (jas K)) "is_table_row" "is_table_row" (defArgs jan) (defBody jan) (defScope jan) := of_fn (d8 (d4 (d2 (ba2 hc)))) (Option.some.inj (nthEq hp 20))
theorem jiz (hc : chk10 K = true) : codeIn K (fdOf (K.lookup (jas K))).code "is_table_row" = true := (ba1 hc)
theorem jiA (hc : chk10 K = true) : keepIn K (.ref (jas K)) = true := (ba1 (ba2 hc))
theorem jkI (hc : chk10 K = true) : nsIn K mainGlobals "write_table" = some (some (.ref (jaz K))) := jaQ (ba1 (d2 hc))
theorem jkJ (hc : chk10 K = true) : K.lookup (jaz K) = fnL (K.lookup (jaz K)) "write_table" "write_table" (defArgs jaZ) (defBody jaZ) (defScope jaZ) := of_fn (ba1 (d2 (ba2 hc))) (Option.some.inj (nthEq hp 21))
theorem jkK (hc : chk10 K = true) : codeIn K (fdOf (K.lookup (jaz K))).code "write_table" = true := (ba1 (d4 hc))
theorem jkL (hc : chk10 K = true) : keepIn K (.ref (jaz K)) = true := (ba1 (d4 (ba2 hc)))
theorem jme (hc : chk10 K = true) : nsIn K mainGlobals "read_table" = some (some (.ref (jaK K))) := jaQ (ba1 (d4 (d2 hc)))
theorem jmf (hc : chk10 K = true) : K.lookup (jaK K) = fnL (K.lookup (jaK K)) "read_table" "read_table" (defArgs jbp) (defBody jbp) (defScope jbp) := of_fn (ba1 (d4 (d2 (ba2 hc)))) (Option.some.inj (nthEq hp 22))
theorem jmg (hc : chk10 K = true) : codeIn K (fdOf (K.lookup (jaK K))).code "read_table" = true := (ba1 (d8 hc))
theorem jmh (hc : chk10 K = true) : keepIn K (.ref (jaK K)) = true := (ba1 (d8 (ba2 hc)))
theorem jrC (hc : chk10 K = true) : nsIn K mainGlobals "is_sign" = some (some (.ref (jbs K))) := jaQ (ba1 (d8 (d2 hc)))
theorem jrD (hc : chk10 K = true) : K.lookup (jbs K) = fnL (K.lookup (jbs K)) "is_sign" "is_sign" (defArgs jca) (defBody jca) (defScope jca) := of_fn (ba1 (d8 (d2 (ba2 hc)))) (Option.some.inj (nthEq hp 23))
theorem jrE (hc : chk10 K = true) : codeIn K (fdOf (K.lookup (jbs K))).code "is_sign" = true := (ba1 (d8 (d4 hc)))
theorem jrF (hc : chk10 K = true) : keepIn K (.ref (jbs K)) = true := (ba1 (d8 (d4 (ba2 hc))))
theorem jow (hc : chk10 K = true) : nsIn K mainGlobals "is_row_at" = some (some (.ref (jaV K))) := jaQ (ba1 (d8 (d4 (d2 hc))))
theorem jox (hc : chk10 K = true) : K.lookup (jaV K) = fnL (K.lookup (jaV K)) "is_row_at" "is_row_at" (defArgs jbw) (defBody jbw) (defScope jbw) := of_fn (d8 (d4 (d2 (ba2 hc)))) (Option.some.inj (nthEq hp 24))
theorem joy (hc : chk11 K = true) : codeIn K (fdOf (K.lookup (jaV K))).code "is_row_at" = true := (ba1 hc)
theorem joz (hc : chk11 K = true) : keepIn K (.ref (jaV K)) = true := (ba1 (ba2 hc))
theorem jmi (hc : chk11 K = true) : nsIn K mainGlobals "write_rows" = some (some (.ref (jaL K))) := jaQ (ba1 (d2 hc))
theorem jmj (hc : chk11 K = true) : K.lookup (jaL K) = fnL (K.lookup (jaL K)) "write_rows" "write_rows" (defArgs jbc) (defBody jbc) (defScope jbc) := of_fn (ba1 (d2 (ba2 hc))) (Option.some.inj (nthEq hp 25))
theorem jmk (hc : chk11 K = true) : codeIn K (fdOf (K.lookup (jaL K))).code "write_rows" = true := (ba1 (d4 hc))
theorem jml (hc : chk11 K = true) : keepIn K (.ref (jaL K)) = true := (ba1 (d4 (ba2 hc)))
theorem joA (hc : chk11 K = true) : nsIn K mainGlobals "read_rows" = some (some (.ref (jaW K))) := jaQ (ba1 (d4 (d2 hc)))
theorem joB (hc : chk11 K = true) : K.lookup (jaW K) = fnL (K.lookup (jaW K)) "read_rows" "read_rows" (defArgs jbF) (defBody jbF) (defScope jbF) := of_fn (ba1 (d4 (d2 (ba2 hc)))) (Option.some.inj (nthEq hp 26))
theorem joC (hc : chk11 K = true) : codeIn K (fdOf (K.lookup (jaW K))).code "read_rows" = true := (ba1 (d8 hc))
theorem joD (hc : chk11 K = true) : keepIn K (.ref (jaW K)) = true := (ba1 (d8 (ba2 hc)))
theorem jfn (hc : chk11 K = true) : nsIn K mainGlobals "require_program" = some (some (.ref (jah K))) := jaQ (ba1 (d8 (d2 hc)))
theorem jfo (hc : chk11 K = true) : K.lookup (jah K) = fnL (K.lookup (jah K)) "require_program" "require_program" (defArgs jau) (defBody jau) (defScope jau) := of_fn (ba1 (d8 (d2 (ba2 hc)))) (Option.some.inj (nthEq hp 27))
theorem jfp (hc : chk11 K = true) : codeIn K (fdOf (K.lookup (jah K))).code "require_program" = true := (ba1 (d8 (d4 hc)))
theorem jfq (hc : chk11 K = true) : keepIn K (.ref (jah K)) = true := (ba1 (d8 (d4 (ba2 hc))))
theorem jha (hc : chk11 K = true) : nsIn K mainGlobals "write_program" = some (some (.ref (jal K))) := jaQ (ba1 (d8 (d4 (d2 hc))))
theorem jhb (hc : chk11 K = true) : K.lookup (jal K) = fnL (K.lookup (jal K)) "write_program" "write_program" (defArgs jaP) (defBody jaP) (defScope jaP) := of_fn (d8 (d4 (d2 (ba2 hc)))) (Option.some.inj (nthEq hp 28))
theorem jhc (hc : chk12 K = true) : codeIn K (fdOf (K.lookup (jal K))).code "write_program" = true := (ba1 hc)
theorem jhd (hc : chk12 K = true) : keepIn K (.ref (jal K)) = true := (ba1 (ba2 hc))
theorem jiB (hc : chk12 K = true) : nsIn K mainGlobals "read_program" = some (some (.ref (jat K))) := jaQ (ba1 (d2 hc))
theorem jiC (hc : chk12 K = true) : K.lookup (jat K) = fnL (K.lookup (jat K)) "read_program" "read_program" (defArgs jbb) (defBody jbb) (defScope jbb) := of_fn (ba1 (d2 (ba2 hc))) (Option.some.inj (nthEq hp 29))
theorem jiD (hc : chk12 K = true) : codeIn K (fdOf (K.lookup (jat K))).code "read_program" = true := (ba1 (d4 hc))
theorem jiE (hc : chk12 K = true) : keepIn K (.ref (jat K)) = true := (ba1 (d4 (ba2 hc)))
theorem juZ (hc : chk12 K = true) : nsIn K mainGlobals "_law_right" = some (some (.ref (jbz K))) := jaQ (ba1 (d4 (d2 hc)))
theorem jva (hc : chk12 K = true) : K.lookup (jbz K) = fnL (K.lookup (jbz K)) "_law_right" "_law_right" (defArgs jbm) (defBody jbm) (defScope jbm) := of_fn (ba1 (d4 (d2 (ba2 hc)))) (Option.some.inj (nthEq hp 30))
theorem jvb (hc : chk12 K = true) : codeIn K (fdOf (K.lookup (jbz K))).code "_law_right" = true := (ba1 (d8 hc))
theorem jvc (hc : chk12 K = true) : keepIn K (.ref (jbz K)) = true := (ba1 (d8 (ba2 hc)))
theorem jzA (hc : chk12 K = true) : nsIn K mainGlobals "law" = some (some (.ref (jce K))) := jaQ (ba1 (d8 (d2 hc)))
theorem jzB (hc : chk12 K = true) : K.lookup (jce K) = fnL (K.lookup (jce K)) "law" "law" (defArgs s_law) (defBody s_law) (defScope s_law) := of_fn (ba1 (d8 (d2 (ba2 hc)))) (Option.some.inj (nthEq hp 31))
theorem jzC (hc : chk12 K = true) : codeIn K (fdOf (K.lookup (jce K))).code "law" = true := (ba1 (d8 (d4 hc)))
theorem jzD (hc : chk12 K = true) : keepIn K (.ref (jce K)) = true := (ba1 (d8 (d4 (ba2 hc))))
theorem jsY (hc : chk12 K = true) : (fdOf (K.lookup (jbz K))).code = .ref (jmo K) := jur (ba1 (d8 (d4 (d2 hc))))
theorem jwm (hc : chk12 K = true) : (fdOf (K.lookup (jce K))).code = .ref (jrL K) := jur (d8 (d4 (d2 (ba2 hc))))
theorem jzE (hc : chk13 K = true) : nsIn K mainGlobals "set" = some none := jbq (ba1 hc)
theorem jzF (hc : chk13 K = true) : nsIn K mainGlobals "len" = some none := jbq (ba1 (ba2 hc))
theorem jzG (hc : chk13 K = true) : nsIn K mainGlobals "int" = some none := jbq (ba1 (d2 hc))
theorem jwn (hc : chk13 K = true) : nsIn K mainGlobals "bool" = some none := jbq (ba1 (d2 (ba2 hc)))
theorem jzH (hc : chk13 K = true) : nsIn K mainGlobals "str" = some none := jbq (ba1 (d4 hc))
theorem jwo (hc : chk13 K = true) : nsIn K mainGlobals "list" = some none := jbq (ba1 (d4 (ba2 hc)))
theorem jvd (hc : chk13 K = true) : nsIn K mainGlobals "tuple" = some none := jbq (ba1 (d4 (d2 hc)))
theorem jwp (hc : chk13 K = true) : nsIn K mainGlobals "dict" = some none := jbq (ba1 (d4 (d2 (ba2 hc))))
theorem jzI (hc : chk13 K = true) : nsIn K mainGlobals "abs" = some none := jbq (ba1 (d8 hc))
theorem jzJ (hc : chk13 K = true) : nsIn K mainGlobals "max" = some none := jbq (ba1 (d8 (ba2 hc)))
theorem jzK (hc : chk13 K = true) : nsIn K mainGlobals "min" = some none := jbq (ba1 (d8 (d2 hc)))
theorem jve (hc : chk13 K = true) : nsIn K mainGlobals "range" = some none := jbq (ba1 (d8 (d2 (ba2 hc))))
theorem jwq (hc : chk13 K = true) : nsIn K mainGlobals "repr" = some none := jbq (ba1 (d8 (d4 hc)))
theorem jmm (hc : chk13 K = true) : nsIn K mainGlobals "isinstance" = some none := jbq (ba1 (d8 (d4 (ba2 hc))))
theorem jzL (hc : chk13 K = true) : nsIn K mainGlobals "all" = some none := jbq (ba1 (d8 (d4 (d2 hc))))
theorem jzM (hc : chk13 K = true) : nsIn K mainGlobals "any" = some none := jbq (d8 (d4 (d2 (ba2 hc))))
theorem jsZ (hc : chk14 K = true) : nsIn K mainGlobals "sorted" = some none := jbq (ba1 hc)
theorem joE (hc : chk14 K = true) : nsIn K mainGlobals "enumerate" = some none := jbq (ba1 (ba2 hc))
theorem jzN (hc : chk14 K = true) : nsIn K mainGlobals "zip" = some none := jbq (ba1 (d2 hc))
theorem jrG (hc : chk14 K = true) : nsIn K mainGlobals "LONGEST" = some (some (.int (10 ^ 60) (tokI (nsIn K mainGlobals "LONGEST")))) := jrK (ba1 (d2 (ba2 hc)))
theorem jmn (hc : chk14 K = true) : nsIn K mainGlobals "MAX_DIGITS" = some (some (.int (60) (tokI (nsIn K mainGlobals "MAX_DIGITS")))) := jrK (ba1 (d4 hc))
theorem jkM (hc : chk14 K = true) : nsIn K mainGlobals "MAX_LETTERS" = some (some (.int (8) (tokI (nsIn K mainGlobals "MAX_LETTERS")))) := jrK (ba1 (d4 (ba2 hc)))
theorem joF (hc : chk14 K = true) : nsIn K mainGlobals "MAX_ARITY" = some (some (.int (3) (tokI (nsIn K mainGlobals "MAX_ARITY")))) := jrK (ba1 (d4 (d2 hc)))
theorem jta (hc : chk14 K = true) : nsIn K mainGlobals "DIGITS" = some (some (.str "0123456789" (tokS (nsIn K mainGlobals "DIGITS")))) := jhe (ba1 (d4 (d2 (ba2 hc))))
theorem jrH (hc : chk14 K = true) : nsIn K mainGlobals "NOTHING" = some (some (.str "-" (tokS (nsIn K mainGlobals "NOTHING")))) := jhe (ba1 (d8 hc))
theorem jwr (hc : chk14 K = true) : nsIn K mainGlobals "NONE" = some (some (.str "none" (tokS (nsIn K mainGlobals "NONE")))) := jhe (ba1 (d8 (ba2 hc)))
theorem jzO (hc : chk14 K = true) : nsIn K mainGlobals "BAR" = some (some (.str " | " (tokS (nsIn K mainGlobals "BAR")))) := jhe (ba1 (d8 (d2 hc)))
theorem jrI (hc : chk14 K = true) : nsIn K mainGlobals "BETWEEN" = some (some (.str "; " (tokS (nsIn K mainGlobals "BETWEEN")))) := jhe (ba1 (d8 (d2 (ba2 hc))))
theorem jzP (hc : chk14 K = true) : nsIn K mainGlobals "ANY" = some (some (.str "_" (tokS (nsIn K mainGlobals "ANY")))) := jhe (ba1 (d8 (d4 hc)))
theorem jws (hc : chk14 K = true) : nsIn K mainGlobals "LOST" = some (some (.str "#" (tokS (nsIn K mainGlobals "LOST")))) := jhe (ba1 (d8 (d4 (ba2 hc))))
theorem jrJ (hc : chk14 K = true) : nsIn K mainGlobals "LETTERS" = some (some (.str "abcdefghijklmnopqrstuvwxyz" (tokS (nsIn K mainGlobals "LETTERS")))) := jhe (d8 (d4 (d2 hc)))
end
theorem all_of {l : PySem.W.OpenLaw} {w : World} {K : Frag} {h : Heap} {mg : Str → Option Value} {fa : Addr} (X : K.In h) (G : h.Ns mainGlobals mg) (hfa : mg "law" = some (.ref fa)) (hc : chk K = true) (hp : prtH K = expd) {jbI jcQ : Addr} (tn : [jbI, jcQ].Nodup) :
    ∃ fd : FuncData, (∀ (s : Shared) (v : Value), BindsTo s fd ⟨[v], []⟩ [("_law_script", v)]) ∧ ∀ base : Heap, K.In base → base.Ns mainGlobals mg → LamX.TabB base mg (jmo K) jbI → LamX.TabB base mg (jrL K) jcQ → FnG l.prog w K mg base (L2.CX l.prog w) 13 fa fd ["_law_script"] (spLaw [(jbI, "_law_right.<locals>.<lambda>"), (jcQ, "law.<locals>.<lambda>")] K) := by
  have c0 : chk0 K = true := (ba1 ((ba1 hc)))
  have c1 : chk1 K = true := (ba1 (ba2 ((ba1 hc))))
  have c2 : chk2 K = true := (ba1 (ba2 (ba2 ((ba1 hc)))))
  have c3 : chk3 K = true := (ba1 (ba2 (ba2 (ba2 ((ba1 hc))))))
  have c4 : chk4 K = true := (ba2 (ba2 (ba2 (ba2 ((ba1 hc))))))
  have c5 : chk5 K = true := (ba1 ((ba1 (ba2 hc))))
  have c6 : chk6 K = true := (ba1 (ba2 ((ba1 (ba2 hc)))))
  have c7 : chk7 K = true := (ba1 (ba2 (ba2 ((ba1 (ba2 hc))))))
  have c8 : chk8 K = true := (ba1 (ba2 (ba2 (ba2 ((ba1 (ba2 hc)))))))
  have c9 : chk9 K = true := (ba2 (ba2 (ba2 (ba2 ((ba1 (ba2 hc)))))))
  have c10 : chk10 K = true := (ba1 ((ba1 (ba2 (ba2 hc)))))
  have c11 : chk11 K = true := (ba1 (ba2 ((ba1 (ba2 (ba2 hc))))))
  have c12 : chk12 K = true := (ba1 (ba2 (ba2 ((ba1 (ba2 (ba2 hc)))))))
  have c13 : chk13 K = true := (ba1 (ba2 (ba2 (ba2 ((ba1 (ba2 (ba2 hc))))))))
  have c14 : chk14 K = true := (ba2 (ba2 (ba2 (ba2 ((ba1 (ba2 (ba2 hc))))))))
  exact all_mk X G hfa tn (h_a_CP hp c0) (h_a_CE hp c0) (h_a_CT hp c0) (h_a_CR hp c0) (h_a_CG hp c0) (h_a_CO hp c0) (jfh hp c0) (jfi hp c0) (jfj hp c0) (jfk hp c0) (jfl hp c0) (jfm hp c0) (jyB hp c0) (jyC hp c0) (jyD hp c0) (jyE hp c0) (jyF hp c1) (jyG hp c1) (jyH hp c1) (jyI hp c1) (jyJ hp c1) (jyK hp c1) (jyL hp c1) (jru hp c1) (jqC hp c1) (jrv hp c1) (jqD hp c1) (joi hp c1) (jqE hp c1) (jik hp c1) (jqF hp c1) (jrw hp c1) (jrx hp c2) (jqG hp c2) (joj hp c2) (jqH hp c2) (jyM hp c2) (jyN hp c2) (jyO hp c2) (jyP hp c2) (jyQ hp c2) (jyR hp c2) (jyS hp c2) (jyT hp c2) (jyU hp c2) (jyV hp c2) (jyW hp c2) (jyX hp c2) (jyY hp c3) (jyZ hp c3) (jza hp c3) (jzb hp c3) (jzc hp c3) (jzd hp c3) (jze hp c3) (jzf hp c3) (jzg hp c3) (jzh hp c3) (jzi hp c3) (jzj hp c3) (jzk hp c3) (jzl hp c3) (jzm hp c3) (jzn hp c3) (jzo hp c4) (jzp hp c4) (jzq hp c4) (jzr hp c4) (jzs hp c4) (jzt hp c4) (jzu hp c4) (jzv hp c4) (juP hp c4) (juQ hp c4) (juR hp c4) (juS hp c4) (juT hp c4) (juU hp c4) (juV hp c4) (juW hp c4) (juX hp c5) (juY hp c5) (jwa hp c5) (jwb hp c5) (jwc hp c5) (jwd hp c5) (jwe hp c5) (jwf hp c5) (jwg hp c5) (jwh hp c5) (jwi hp c5) (jwj hp c5) (jwk hp c5) (jwl hp c5) (jzw hp c5) (jzx hp c5) (jzy hp c6) (jzz hp c6) (jlO hp c6) (jlP hp c6) (jlQ hp c6) (jlR hp c6) (jok hp c6) (jol hp c6) (jom hp c6) (jon hp c6) (jry hp c6) (jrz hp c6) (jrA hp c6) (jrB hp c6) (joo hp c6) (jop hp c6) (joq hp c7) (jor hp c7) (jgm hp c7) (jgn hp c7) (jgo hp c7) (jgp hp c7) (jkA hp c7) (jkB hp c7) (jkC hp c7) (jkD hp c7) (jos hp c7) (jot hp c7) (jou hp c7) (jov hp c7) (jil hp c7) (jim hp c7) (jin hp c8) (jio hp c8) (jlS hp c8) (jlT hp c8) (jlU hp c8) (jlV hp c8) (jgW hp c8) (jgX hp c8) (jgY hp c8) (jgZ hp c8) (jip hp c8) (jiq hp c8) (jir hp c8) (jis hp c8) (jit hp c8) (jiu hp c8) (jiv hp c9) (jiw hp c9) (jlW hp c9) (jlX hp c9) (jlY hp c9) (jlZ hp c9) (jkE hp c9) (jkF hp c9) (jkG hp c9) (jkH hp c9) (jma hp c9) (jmb hp c9) (jmc hp c9) (jmd hp c9) (jix hp c9) (jiy hp c9) (jiz hp c10) (jiA hp c10) (jkI hp c10) (jkJ hp c10) (jkK hp c10) (jkL hp c10) (jme hp c10) (jmf hp c10) (jmg hp c10) (jmh hp c10) (jrC hp c10) (jrD hp c10) (jrE hp c10) (jrF hp c10) (jow hp c10) (jox hp c10) (joy hp c11) (joz hp c11) (jmi hp c11) (jmj hp c11) (jmk hp c11) (jml hp c11) (joA hp c11) (joB hp c11) (joC hp c11) (joD hp c11) (jfn hp c11) (jfo hp c11) (jfp hp c11) (jfq hp c11) (jha hp c11) (jhb hp c11) (jhc hp c12) (jhd hp c12) (jiB hp c12) (jiC hp c12) (jiD hp c12) (jiE hp c12) (juZ hp c12) (jva hp c12) (jvb hp c12) (jvc hp c12) (jzA hp c12) (jzB hp c12) (jzC hp c12) (jzD hp c12) (jsY hp c12) (jwm hp c12) (jzE hp c13) (jzF hp c13) (jzG hp c13) (jwn hp c13) (jzH hp c13) (jwo hp c13) (jvd hp c13) (jwp hp c13) (jzI hp c13) (jzJ hp c13) (jzK hp c13) (jve hp c13) (jwq hp c13) (jmm hp c13) (jzL hp c13) (jzM hp c13) (jsZ hp c14) (joE hp c14) (jzN hp c14) (jrG hp c14) (jmn hp c14) (jkM hp c14) (joF hp c14) (jta hp c14) (jrH hp c14) (jwr hp c14) (jzO hp c14) (jrI hp c14) (jzP hp c14) (jws hp c14) (jrJ hp c14)
end K72
open PySem PySem.W PySem.Calls PyProof.Rows
set_option maxRecDepth 100000 in
set_option maxHeartbeats 0 in
theorem PySem.Challenge.cw_firstneed_k72_errors_of_written_values_holds : PySem.Challenge.rw_firstneed_k72_errors_of_written_values.Holds := by
  w_on; o_law
  refine HandSHeadRun.head_any (r := OpenLaw.row PySem.Challenge.rw_firstneed_k72_errors_of_written_values) (q := view (OpenLaw.row PySem.Challenge.rw_firstneed_k72_errors_of_written_values).prog [118]) (H := K72.hk) (ob := Pu.obR 1800 K72.chkA K72.prtA) (M := 14000) (loose := K72.hnames) (d := HandSHeadRun.topDef (OpenLaw.row PySem.Challenge.rw_firstneed_k72_errors_of_written_values).prog 118) (kwd := []) Pu.obR_eq
    (by kernel_rfl) (fun s => by kernel_rfl) K72.run (by kernel_rfl) (by kernel_rfl) (by kernel_rfl) (by rfl) (by first | assumption | decide +kernel) (by decide +kernel) ⟨rfl, rfl, rfl, rfl, rfl, by decide +kernel⟩ ?hw ?hc
  case hw => w_witness2
  case hc =>
    refine Pu.walk_ofT (l := PySem.Challenge.rw_firstneed_k72_errors_of_written_values) (n := 63) (k := 13) (x := "_law_script") K72.tnms ["_law_right.<locals>.<lambda>", "law.<locals>.<lambda>"] (Y := fun K => K72.chk K = true ∧ K72.prtH K = K72.expd) (sp := K72.spLaw) rfl (by decide) (by kernel_rfl) ⟨rfl, by decide, by decide⟩ (fun w h Y => (match Y with | ⟨K, i, c, p⟩ => ⟨K, i, (Pu.ba1 (Pu.ba2 (Pu.ba2 (Pu.ba2 c)))), (Pu.bI (Pu.ba1 c) (Pu.bI (Pu.ba1 (Pu.ba2 c)) (Pu.bI (Pu.ba1 (Pu.ba2 (Pu.ba2 c))) (Pu.ba2 (Pu.ba2 (Pu.ba2 (Pu.ba2 c))))))), p⟩)) ?F (fun T K H a ns hl hT hS => ⟨a, ns, rfl, hS, hl, hT, fun _ => rfl⟩)
    intro w mg fa h K KX Y G hmg0 tps nd hl
    have hmg : mg ("law" : PySem.Str) = some (.ref fa) := by
      have e : (HandSHeadRun.topDef (OpenLaw.row PySem.Challenge.rw_firstneed_k72_errors_of_written_values).prog 118).name = ("law" : PySem.Str) := by kernel_rfl
      rw [← e]
      exact hmg0
    obtain ⟨jbI, jcQ, rfl⟩ : ∃ jbI jcQ : PySem.Addr, tps = [jbI, jcQ] := (match tps, hl with | [jbI, jcQ], _ => ⟨jbI, jcQ, rfl⟩)
    obtain ⟨fd, hb, hF⟩ := K72.all_of KX G hmg Y.1 Y.2 nd
    exact ⟨fd, hb, fun base h1 h2 hT => hF base h1 h2 (hT _ (.head _)) (hT _ (.tail _ (.head _)))⟩
