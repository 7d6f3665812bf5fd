import PyProof.Rows.All
import Wide.All
import OpenK.AllK
import Wide.FinOn
import HandS.ForMost
import HandS.IsInst
import HandS.Evl
import HandS.Walk
import HandS.Star
import HandS.Style
import HandS.TupAny
import HandS.DictComp
import KE.GoesMore
import KE.GoesEnum
import HandS.ForExc
import HandS.OwnEq
import HandS.ClsMeth
import HandS.Property
import OpenK.KOps
import OpenK.KMeth
import HandS.More
import HandS.Deep
import HandS.Codes
import HandS.Zip
import HandS.TryOnly
import HandS.WordsExc
import HandS.RaiseMore
import HandS.Dict
import HandS.Conv
import HandS.ListItems
import HandS.Exc
import HandS.TryMany
import HandS.ExcField
import HandS.ExcInit
import PyProof.ReprRoads
import KE.KCallOwn
import HandS.Finally
import KE.SortData
import PyProof.Rows.CallKwBuiltin
import KE.KMinKey
import HandS.SortKw
import KE.SortKeyed
import PyProof.ReprLen
import KE.RegKIsAll
import PySem.Challenge.RW_firstneed_k05_terms_told
set_option Elab.async false
set_option maxRecDepth 100000
/-! Own layer: dice that hide their numbers, heaps that only grow, repr of plain values. -/
namespace Ly
open PySem PySem.Spec PyProof.Rows L2

/-! ### heaps that only grow -/
def Gx (H H' : Hp) : Prop := ∀ a o, H a = some o → H' a = some o
theorem Gx.refl (H : Hp) : Gx H H := fun _ _ h => h
theorem Gx.trans {H H1 H2 : Hp} (a : Gx H H1) (b : Gx H1 H2) : Gx H H2 := fun x o h => b x o (a x o h)
theorem Gx.new {H : Hp} {p : Addr} {o : HO} (h : H p = none) : Gx H (upd H p o) := fun a u e => by
  rw [upd_ne (ne_of_none e h)]
  exact e
theorem Gx.mut {H H' : Hp} {p : Addr} {o : HO} (e : Gx H H') (h : H p = none) : Gx H (upd H' p o) := fun a u ha => by
  rw [upd_ne (ne_of_none ha h)]
  exact e a u ha
theorem Gx.free {H H' : Hp} {p : Addr} (e : Gx H H') (h : H' p = none) : H p = none := by
  cases q : H p with
  | none => rfl
  | some o =>
    rw [e p o q] at h
    cases h
theorem Gx.rd {H H' : Hp} {a : Addr} {u : HO} (e : Gx H H') (h : Rd H a u) : Rd H' a u := by
  rcases h with h | ⟨o, h⟩
  · exact Or.inl (e a _ h)
  · exact Or.inr ⟨o, e a _ h⟩
theorem Gx.l {K : PySem.W.Frag} {H H' : Hp} {a : Addr} {xs : List V} (e : Gx H H') (h : SqL K H a xs) : SqL K H' a xs := by
  rcases h with h | h
  · exact Or.inl (e.rd h)
  · exact Or.inr h
theorem Gx.t {K : PySem.W.Frag} {H H' : Hp} {a : Addr} {xs : List V} (e : Gx H H') (h : SqT K H a xs) : SqT K H' a xs := by
  rcases h with h | h
  · exact Or.inl (e.rd h)
  · exact Or.inr h

/-! ### dice: a list of three ints whose numbers nobody asks for -/
def diceP (p : Addr) : Heap → Prop := fun h => ∃ (a b c : Int) (t u v : Tok) (n : Nat), h.get? p = some { cls := .type "list", data := .seq #[.int a t, .int b u, .int c v] n }
def diceO (p : Addr) : HO := .ext (diceP p)
abbrev three (a b c : Int) : HO := .lst [.int a, .int b, .int c]
section
variable {P : Program} {w : World} {H H1 : Hp} {h h1 : Heap} {p : Addr} {fs ex : List Addr}
theorem hok_hide {a b c : Int} (x : HOk P w H h) (e : H p = some (three a b c)) : HOk P w (upd H p (diceO p)) h := by
  intro q o eq
  by_cases hq : q = p
  · subst hq
    rw [upd_same] at eq
    cases eq
    obtain ⟨_, its, n, r, g⟩ := x q _ e
    cases r with
    | cons ra r =>
      cases r with
      | cons rb r =>
        cases r with
        | cons rc r =>
          cases r
          obtain ⟨t, rfl⟩ := ra
          obtain ⟨u, rfl⟩ := rb
          obtain ⟨v, rfl⟩ := rc
          refine ⟨⟨a, b, c, t, u, v, n, g⟩, ⟨_, g⟩, ?_⟩
          rintro h1 h2 ⟨a, b, c, t, u, v, n, g⟩ k
          exact ⟨a, b, c, t, u, v, n, k _ g⟩
  · rw [upd_ne hq] at eq
    refine (x q o eq).stay (fun _ _ _ z => z) (fun b z => ?_) fun b xs z => ?_
    · rw [upd_ne]
      · exact z
      · intro z2
        subst z2
        rw [e] at z
        cases z
    · rw [upd_ne]
      · exact z
      · intro z2
        subst z2
        rw [e] at z
        cases z
theorem hok_show (x : HOk P w H h) (e : H p = some (diceO p)) : ∃ a b c, HOk P w (upd H p (three a b c)) h := by
  obtain ⟨⟨a, b, c, t, u, v, n, g⟩, _, _⟩ := x p _ e
  refine ⟨a, b, c, fun q o eq => ?_⟩
  by_cases hq : q = p
  · subst hq
    rw [upd_same] at eq
    cases eq
    refine ⟨by show 3 ≤ sizeLine; decide, [.int a t, .int b u, .int c v], n, .cons ⟨t, rfl⟩ (.cons ⟨u, rfl⟩ (.cons ⟨v, rfl⟩ .nil)), g⟩
  · rw [upd_ne hq] at eq
    refine (x q o eq).stay (fun _ _ _ z => z) (fun b z => ?_) fun b xs z => ?_
    · rw [upd_ne]
      · exact z
      · intro z2
        subst z2
        rw [e] at z
        cases z
    · rw [upd_ne]
      · exact z
      · intro z2
        subst z2
        rw [e] at z
        cases z
theorem un_hide {xs : List V} (u : Un fs ex H H1 h h1) (e : H1 p = some (.lst xs)) : Un fs ex H (upd H1 p (diceO p)) h h1 where
  keep := u.keep
  slot := u.slot
  free := fun b o g n hx => by
    have z := u.free b o g n hx
    rw [upd_ne (fun q => by subst q; rw [e] at z; cases z)]
    exact z
  there := u.there
  tups := fun b ys g => by
    have z := u.tups b ys g
    rw [upd_ne (fun q => by subst q; rw [e] at z; cases z)]
    exact z
  frzs := fun b o v g => by
    have z := u.frzs b o v g
    rw [upd_ne (fun q => by subst q; rw [e] at z; cases z)]
    exact z
  tbls := fun b ps g => by
    obtain ⟨m, z⟩ := u.tbls b ps g
    refine ⟨m, ?_⟩
    rw [upd_ne (fun q => by subst q; rw [e] at z; cases z)]
    exact z
theorem un_show {o : HO} (u : Un fs ex (upd H p o) H1 h h1) (e : H p = some (diceO p)) : Un fs ex H H1 h h1 where
  keep := fun b o g n => u.keep b o g (by rw [upd_ne (fun q => by subst q; rw [e] at n; cases n)]; exact n)
  slot := fun b o g n => u.slot b o g (by rw [upd_ne (fun q => by subst q; rw [e] at n; cases n)]; exact n)
  free := fun b o g n => u.free b o g (by rw [upd_ne (fun q => by subst q; rw [e] at n; cases n)]; exact n)
  there := u.there
  tups := fun b ys g => u.tups b ys (by rw [upd_ne (fun q => by subst q; rw [e] at g; cases g)]; exact g)
  frzs := fun b o v g => u.frzs b o v (by rw [upd_ne (fun q => by subst q; rw [e] at g; cases g)]; exact g)
  tbls := fun b ps g => u.tbls b ps (by rw [upd_ne (fun q => by subst q; rw [e] at g; cases g)]; exact g)
end
section
variable {P : Program} {w : World} {K : PySem.W.Frag} {mg : Str → Option Value} {base : Heap} {k : Nat} {f : Addr} {fd : FuncData} {ps : List Str} {sp : Sp} {CX : CXT}
/-- a def that reads and writes dice, seen from without -/
theorem fn_dice (F : FnOk P w K mg base CX0 k f fd ps sp) : FnOk P w K mg base CX0 k f fd ps (fun vs H Q E => vs.length = ps.length ∧ ∃ p, H p = some (diceO p) ∧
    ∀ a b c, sp vs (upd H p (three a b c)) (fun v H' => (∃ a' b' c', H' p = some (three a' b' c')) ∧ Q v (upd H' p (diceO p))) E) := by
  refine ⟨fun vs H Q E h => h.1, fun A outer s H args us vs Q E hr he hb hv hs => ?_⟩
  obtain ⟨_, p, hp, hs⟩ := hs
  obtain ⟨a, b, c, hok⟩ := hok_show he.hok hp
  have he' : Env0 P w K mg base A outer s (upd H p (three a b c)) := ⟨he.frames, he.mod, fun q o g => by
    obtain ⟨z1, z2⟩ := he.bs q o g
    refine ⟨z1, ?_⟩
    rw [upd_ne (fun y => by subst y; rw [hp] at z2; cases z2)]
    exact z2, he.bsz, he.funs, fun q g => by
    have z2 := he.frf q g
    rw [upd_ne (fun y => by subst y; rw [hp] at z2; cases z2)]
    exact z2, hok, he.bare⟩
  refine codeAny_mono (F.run A outer s _ args us vs _ E hr he' hb hv (hs a b c)) fun r s' h => ?_
  match r, h with
  | .ok (.ret u), h =>
    obtain ⟨v, H', os, bare, un, hok', rv, ⟨a', b', c', e'⟩, q⟩ := h
    exact ⟨v, upd H' p (diceO p), os, bare, un_hide (un_show un hp) e', hok_hide hok' e', rv, q⟩
/-- a def that makes dice -/
theorem fn_mkdice (F : FnOk P w K mg base CX0 k f fd ps sp) : FnOk P w K mg base CX0 k f fd ps (fun vs H Q E => sp vs H (fun v H' => ∃ p a b c, v = .ref p ∧ H' p = some (three a b c) ∧ Q (.ref p) (upd H' p (diceO p))) E) := by
  refine ⟨fun vs H Q E h => F.len _ _ _ _ h, fun A outer s H args us vs Q E hr he hb hv hs => ?_⟩
  refine codeAny_mono (F.run A outer s _ args us vs _ E hr he hb hv hs) fun r s' h => ?_
  match r, h with
  | .ok (.ret u), h =>
    obtain ⟨v, H', os, bare, un, hok', rv, p, a, b, c, rfl, e, q⟩ := h
    exact ⟨.ref p, upd H' p (diceO p), os, bare, un_hide un e, hok_hide hok' e, rv, q⟩
end
theorem upd_id {H : Hp} {p : Addr} {o : HO} (h : H p = some o) : upd H p o = H := by
  funext q
  by_cases e : q = p
  · subst e
    rw [upd_same, h]
  · rw [upd_ne e]

/-! ### a def of the text, for its callers -/
structure Cal (P : Program) (w : World) (K : PySem.W.Frag) (mg : Str → Option Value) (base : Heap) (x : Str) (k : Nat) (ps : List Str) (sp : Sp) : Prop where
  ex : ∃ (f : Addr) (fd : FuncData), FnOk P w K mg base CX0 k f fd ps sp ∧ mg x = some (.ref f) ∧ PySem.W.keepIn K (.ref f) = true ∧ Binds K fd ps []
section
variable {X : Cx} {k : Nat} {ps : List Str} {sp : Sp} {x : Str} {p pos : Pos} {e : Expr} {es : List Expr} {t : TA}
theorem pe_cal (C : Cal X.prog X.w X.K X.mg X.base x k ps sp) (hr : Room k X.A) (hg : Gl X x) (ha : PA X (e :: es) t) (hdb : (x == ("__debug__" : Str)) = false := by decide)
    (he : starEach (e :: es) X.env = (false, eval e X.env) :: starEach es X.env := by rfl) (hpl : (backTo pos (starEach es X.env)).any (·.1) = false := by rfl) :
    PE X (.Call (.Name x p) (e :: es) [] pos) (tCall sp [] E0 t) := by
  obtain ⟨f, fd, F, hm, hk, hb⟩ := C.ex
  exact pe_call F hr hg hm hk hb .nil pass0 ha hdb he hpl
theorem pe_cal0 (C : Cal X.prog X.w X.K X.mg X.base x k ps sp) (hr : Room k X.A) (hg : Gl X x) (hdb : (x == ("__debug__" : Str)) = false := by decide) :
    PE X (.Call (.Name x p) [] [] pos) (tCall sp [] E0 tNil) := by
  obtain ⟨f, fd, F, hm, hk, hb⟩ := C.ex
  exact pe_call0 F hr hg hm hk hb .nil pass0 hdb
end

/-! ### operators -/
section
variable {X : Cx}
def CPowW (i j : Int) : Prop := 0 ≤ j ∧ (Builtin.Int.intBits i : Int) * j ≤ 2 ^ 27
theorem op_powW : OpR X (binaryOp .Pow) (rI CPowW fun i j => .int (i ^ j.toNat)) := opI fun _ _ _ _ _ _ _ hc q => pow_int hc.1 hc.2 q
theorem call_reprB : CallR X (.builtin "repr") (fun xs H Q => ∃ b, xs = [.bl b] ∧ Q (.str (if b then "True" else "False")) H) := by
  intro pins s σ H xs us Q I r h
  obtain ⟨b, rfl, q⟩ := h
  obtain ⟨u, rfl, ru⟩ := vals1 r
  obtain rfl : u = Value.bool b := ru
  exact PySem.P.repr_of_bool ⟨.str _, H, I.tok _, ⟨_, rfl⟩, q⟩
end

/-! ### what is evaluated, by what is true of it, on heaps that grow -/
abbrev Ty := V → Hp → Prop
def Mono (Φ : Ty) : Prop := ∀ v H H', Gx H H' → Φ v H → Φ v H'
def EvG (te : TE) (σ : L2.St) (H : Hp) (Φ : Ty) : Prop := ∀ H1, Gx H H1 → ∀ Q : VK, (∀ v H2, Gx H1 H2 → Φ v H2 → Q v H2) → te σ H1 Q
def EvGs (ta : TA) (σ : L2.St) (H : Hp) (Ψ : List V → Hp → Prop) : Prop := ∀ H1, Gx H H1 → ∀ Q : List V → Hp → Prop, (∀ vs H2, Gx H1 H2 → Ψ vs H2 → Q vs H2) → ta σ H1 Q
section
variable {σ : L2.St} {H H' : Hp} {te ta tb : TE} {tr : TA} {Φ Φ' : Ty} {v : V} {Q : VK}
theorem EvG.use (h : EvG te σ H Φ) (k : ∀ v H2, Gx H H2 → Φ v H2 → Q v H2) : te σ H Q := h H (Gx.refl H) Q k
theorem EvGs.use {Ψ : List V → Hp → Prop} {Q : List V → Hp → Prop} (h : EvGs tr σ H Ψ) (k : ∀ vs H2, Gx H H2 → Ψ vs H2 → Q vs H2) : tr σ H Q := h H (Gx.refl H) Q k
theorem EvG.mono (e : Gx H H') (h : EvG te σ H Φ) : EvG te σ H' Φ := fun H1 a Q q => h H1 (e.trans a) Q q
theorem EvG.imp (h : EvG te σ H Φ) (i : ∀ v H2, Gx H H2 → Φ v H2 → Φ' v H2) : EvG te σ H Φ' := fun H1 a Q q => h H1 a Q fun v H2 e f => q v H2 e (i v H2 (a.trans e) f)
theorem evg_var {i : Nat} (h : σ[i]? = some (some v)) (m : ∀ H1, Gx H H1 → Φ v H1) : EvG (tVar i) σ H Φ := fun H1 e _ q => ⟨v, h, q v H1 (Gx.refl H1) (m H1 e)⟩
theorem evg_c (m : ∀ H1, Gx H H1 → Φ v H1) : EvG (tC v) σ H Φ := fun H1 e _ q => q v H1 (Gx.refl H1) (m H1 e)
theorem evgs_nil {Ψ : List V → Hp → Prop} (m : ∀ H1, Gx H H1 → Ψ [] H1) : EvGs tNil σ H Ψ := fun H1 e _ q => q [] H1 (Gx.refl H1) (m H1 e)
theorem evgs_cons {Ψ : List V → Hp → Prop} (h : EvG ta σ H Φ) (k : ∀ v H1, Gx H H1 → Φ v H1 → EvGs tr σ H1 (fun vs H2 => Ψ (v :: vs) H2)) : EvGs (tCons ta tr) σ H Ψ := fun H1 e _ q =>
  h H1 e _ fun v H2 e2 f => (k v H2 (e.trans e2) f) H2 (Gx.refl H2) _ fun vs H3 e3 g => q (v :: vs) H3 (e2.trans e3) g
/-- all of one kind -/
def AllT (Φ : Ty) (n : Nat) : List V → Hp → Prop := fun vs H => vs.length = n ∧ ∀ x ∈ vs, Φ x H
theorem AllT.mono {n : Nat} {vs : List V} (m : Mono Φ) (e : Gx H H') (h : AllT Φ n vs H) : AllT Φ n vs H' := ⟨h.1, fun x hx => m _ _ _ e (h.2 x hx)⟩
theorem evgs_none : EvGs tNil σ H (AllT Φ 0) := evgs_nil fun _ _ => ⟨rfl, fun x h => by cases h⟩
theorem evgs_more {n : Nat} (m : Mono Φ) (h : EvG ta σ H Φ) (k : ∀ H1, Gx H H1 → EvGs tr σ H1 (AllT Φ n)) : EvGs (tCons ta tr) σ H (AllT Φ (n + 1)) :=
  evgs_cons h fun v H1 e f => fun H2 e2 Q q => k H1 e H2 e2 Q fun vs H3 e3 g => q vs H3 e3 ⟨by rw [List.length_cons, g.1], fun x hx => by
    rcases List.mem_cons.mp hx with rfl | hx
    · exact m _ _ _ (e2.trans e3) f
    · exact g.2 x hx⟩
theorem evg_tup {Ψ : List V → Hp → Prop} (h : EvGs tr σ H Ψ) (hl : ∀ vs H1, Ψ vs H1 → vs.length ≤ 100000) (m : ∀ vs p H1 H2, Ψ vs H1 → Gx H1 H2 → H1 p = none → H2 p = some (.tup vs) → Φ (.ref p) H2) : EvG (tTup tr) σ H Φ := fun H1 e Q q =>
  h H1 e _ fun vs H2 e2 g => ⟨Evl.sz_of (hl vs H2 g), fun p hp => q _ _ (e2.trans (Gx.new hp)) (m vs p H2 _ g (Gx.new hp) hp upd_same)⟩
theorem evg_lst {Ψ : List V → Hp → Prop} (h : EvGs tr σ H Ψ) (hl : ∀ vs H1, Ψ vs H1 → vs.length ≤ 100000) (m : ∀ vs p H1 H2, Ψ vs H1 → Gx H1 H2 → H1 p = none → H2 p = some (.lst vs) → Φ (.ref p) H2) : EvG (tLst tr) σ H Φ := fun H1 e Q q =>
  h H1 e _ fun vs H2 e2 g => ⟨Evl.sz_of (hl vs H2 g), fun p hp => q _ _ (e2.trans (Gx.new hp)) (m vs p H2 _ g (Gx.new hp) hp upd_same)⟩
end
/-- heaps in which all stays but what lists hold -/
def Kx (H H' : Hp) : Prop := ∀ a o, H a = some o → H' a = some o ∨ ∃ xs ys, o = .lst xs ∧ H' a = some (.lst ys)
theorem Gx.k {H H' : Hp} (e : Gx H H') : Kx H H' := fun a o h => .inl (e a o h)
theorem Kx.refl (H : Hp) : Kx H H := fun _ _ h => .inl h
theorem Kx.trans {H H1 H2 : Hp} (a : Kx H H1) (b : Kx H1 H2) : Kx H H2 := fun x o h => by
  rcases a x o h with h1 | ⟨xs, ys, e, h1⟩
  · exact b x o h1
  · rcases b x _ h1 with h2 | ⟨xs2, ys2, _, h2⟩
    · exact .inr ⟨xs, ys, e, h2⟩
    · exact .inr ⟨xs, ys2, e, h2⟩
theorem Kx.put {H : Hp} {p : Addr} {xs ys : List V} (h : H p = some (.lst xs)) : Kx H (upd H p (.lst ys)) := fun a o e => by
  by_cases q : a = p
  · subst q
    rw [h] at e
    cases e
    exact .inr ⟨xs, ys, rfl, upd_same⟩
  · exact .inl (by rw [upd_ne q]; exact e)
theorem Kx.keep {H H' : Hp} (e : Kx H H') {a : Addr} {o : HO} (h : H a = some o) (n : ∀ xs, o ≠ .lst xs) : H' a = some o := by
  rcases e a o h with h1 | ⟨xs, _, z, _⟩
  · exact h1
  · exact absurd z (n xs)
theorem Kx.tup {H H' : Hp} (e : Kx H H') {a : Addr} {xs : List V} (h : H a = some (.tup xs)) : H' a = some (.tup xs) := e.keep h fun _ z => by cases z
theorem Kx.dice {H H' : Hp} (e : Kx H H') {a : Addr} (h : H a = some (diceO a)) : H' a = some (diceO a) := e.keep h fun _ z => by cases z
/-- true whatever lists hold -/
def Firm (Φ : Ty) : Prop := ∀ v H H', Kx H H' → Φ v H → Φ v H'
theorem Firm.mono {Φ : Ty} (h : Firm Φ) : Mono Φ := fun v H H' e f => h v H H' e.k f
inductive Kd | non | bl | int | str | lst | tup | dic | own
  deriving DecidableEq
/-- the answer of isinstance of such a value and a built-in type -/
def kdIs : Kd → String → Bool
  | .bl, n => n == "bool" || n == "int"
  | .int, n => n == "int"
  | .str, n => n == "str"
  | .lst, n => n == "list"
  | .tup, n => n == "tuple"
  | .dic, n => n == "dict"
  | _, _ => false
/-- the built-in types that are asked for -/
def asked : List String := ["int", "bool", "str", "list", "tuple", "dict"]
/-- a class of the text whose instances are none of these -/
structure Own (K : PySem.W.Frag) (C : Addr) : Prop where
  cl : Cls K C
  ha : PySem.W.findIn K (.ref C) "__class__" = some (some (.builtin "object.__class__"))
  hn : PySem.W.specialIn K (.builtin "object.__class__") "__get__" = some (some (.builtin "getset_descriptor.__get__"))
  htk : PySem.W.takesIn K (.builtin "object.__class__") = some true
  hm : PySem.W.mroIn K C (.type "object") = some true
  no : ∀ n ∈ asked, PySem.W.kitOne K (.ref C) (.type n) = some false
/-- a plain value of a built-in type, or an instance -/
inductive Pl (K : PySem.W.Frag) (H : Hp) : V → Kd → Prop
  | non : Pl K H .non .non
  | bl (b : Bool) : Pl K H (.bl b) .bl
  | int (i : Int) : Pl K H (.int i) .int
  | str (x : Str) : Pl K H (.str x) .str
  | lst {a : Addr} {xs : List V} (e : H a = some (.lst xs)) : Pl K H (.ref a) .lst
  | tup {a : Addr} {xs : List V} (e : H a = some (.tup xs)) : Pl K H (.ref a) .tup
  | dK {a : Addr} {kvs : List (Key × V)} (e : H a = some (.dK kvs)) : Pl K H (.ref a) .dic
  | own {a C dx : Addr} {fs : List (Str × V)} (e : H a = some (.ins C dx fs)) (o : Own K C) : Pl K H (.ref a) .own
theorem Pl.isi {K : PySem.W.Frag} {H : Hp} {v : V} {k : Kd} (h : Pl K H v k) {n : String} (hn : n ∈ asked) : ∃ t, TyX K H v t ∧ PySem.W.kitOne K t (.type n) = some (kdIs k n) := by
  have go : ∀ (t : String) (k : Kd), (∀ m ∈ asked, kitB t m = some (kdIs k m)) → PySem.W.kitOne K (.type t) (.type n) = some (kdIs k n) := fun t k q => kit_ty (q n hn)
  cases h with
  | non => exact ⟨_, .base .non, go _ _ (by decide +kernel)⟩
  | bl b => exact ⟨_, .base (.bl b), go _ _ (by decide +kernel)⟩
  | int i => exact ⟨_, .base (.int i), go _ _ (by decide +kernel)⟩
  | str x => exact ⟨_, .base (.str x), go _ _ (by decide +kernel)⟩
  | lst e => exact ⟨_, .base (.lst e), go _ _ (by decide +kernel)⟩
  | tup e => exact ⟨_, .base (.tup e), go _ _ (by decide +kernel)⟩
  | dK e => exact ⟨_, .base (.dK e), go _ _ (by decide +kernel)⟩
  | own e o => exact ⟨_, .base (.ins e o.cl o.ha o.hn o.htk o.hm), o.no n hn⟩
theorem Pl.firm {K : PySem.W.Frag} {k : Kd} : Firm (fun v H => Pl K H v k) := fun v H H' e h => by
  cases h with
  | non => exact .non
  | bl b => exact .bl b
  | int i => exact .int i
  | str x => exact .str x
  | lst h =>
    rcases e _ _ h with h1 | ⟨_, _, _, h1⟩
    · exact .lst h1
    · exact .lst h1
  | tup h => exact .tup (e.tup h)
  | dK h => exact .dK (e.keep h fun _ z => by cases z)
  | own h o => exact .own (e.keep h fun _ z => by cases z) o
theorem Pl.gx {K : PySem.W.Frag} {H H' : Hp} {v : V} {k : Kd} (e : Gx H H') (h : Pl K H v k) : Pl K H' v k := Pl.firm v H H' e.k h

section
variable {X : Cx} {x : Str} {pos : Pos}
theorem pe_ty (n : String) (hg : Gl X x) (hm : X.mg x = none) (hv : bootBuiltins x = some (.type n)) (hn : x ≠ "__name__" := by decide) (hd : (x == ("__debug__" : Str)) = false := by decide) : PE X (.Name x pos) (tC (.ty n)) := pe_bltn hg hm hv rfl hn hd
theorem pe_gint {i : Int} {t : Tok} (hg : Gl X x) (hm : X.mg x = some (.int i t)) (hd : (x == ("__debug__" : Str)) = false := by decide) : PE X (.Name x pos) (tC (.int i)) := pe_glob hg hm ⟨t, rfl⟩ hd
theorem pe_gstr {i : Str} {t : Tok} (hg : Gl X x) (hm : X.mg x = some (.str i t)) (hd : (x == ("__debug__" : Str)) = false := by decide) : PE X (.Name x pos) (tC (.str i)) := pe_glob hg hm ⟨t, rfl⟩ hd
theorem pe_gref {a : Addr} (hg : Gl X x) (hm : X.mg x = some (.ref a)) (hd : (x == ("__debug__" : Str)) = false := by decide) : PE X (.Name x pos) (tC (.ref a)) := pe_glob hg hm rfl hd
end

/-! ### ints, new lists, drawn items -/
def IntT (P : Int → Prop) : Ty := fun v _ => ∃ i, v = .int i ∧ P i
def BlT (P : Bool → Prop) : Ty := fun v _ => ∃ b, v = .bl b ∧ P b
def EvN (te : TE) (σ : L2.St) (H : Hp) (Φ : Addr → Hp → Prop) : Prop := ∀ H1, Gx H H1 → ∀ Q : VK, (∀ p H2, Gx H1 H2 → H1 p = none → Φ p H2 → Q (.ref p) H2) → te σ H1 Q
section
variable {K : PySem.W.Frag} {σ : L2.St} {H H' : Hp} {te ta tb : TE} {tr : TA} {Φ Φ' : Ty} {v : V} {Q : VK}
theorem EvN.use {Φ : Addr → Hp → Prop} (h : EvN te σ H Φ) (k : ∀ p H2, Gx H H2 → H p = none → Φ p H2 → Q (.ref p) H2) : te σ H Q := h H (Gx.refl H) Q k
theorem EvN.g {Φ : Addr → Hp → Prop} (h : EvN te σ H Φ) (k : ∀ p H1 H2, Gx H H1 → H1 p = none → Gx H1 H2 → Φ p H2 → Φ' (.ref p) H2) : EvG te σ H Φ' := fun H1 e Q q => h H1 e Q fun p H2 e2 n f => q _ H2 e2 (k p H1 H2 e n e2 f)
theorem evg_I {P R : Int → Prop} {C : Int → Int → Prop} {g : Int → Int → V} (ha : EvG ta σ H (IntT P)) (hb : EvG tb σ H (IntT R)) (hc : ∀ i j, P i → R j → C i j) (m : ∀ i j, P i → R j → ∀ H1, Gx H H1 → Φ (g i j) H1) : EvG (tOp (rI C g) ta tb) σ H Φ := fun H1 e Q q =>
  ha H1 e _ fun _ H2 e2 ⟨i, z, p⟩ => hb H2 (e.trans e2) _ fun _ H3 e3 ⟨j, z2, r⟩ => ⟨i, j, z, z2, hc i j p r, q _ H3 (e2.trans e3) (m i j p r H3 ((e.trans e2).trans e3))⟩
theorem evg_I0 {P R : Int → Prop} {g : Int → Int → V} (ha : EvG ta σ H (IntT P)) (hb : EvG tb σ H (IntT R)) (m : ∀ i j, P i → R j → ∀ H1, Gx H H1 → Φ (g i j) H1) : EvG (tOp (rI0 g) ta tb) σ H Φ := fun H1 e Q q =>
  ha H1 e _ fun _ H2 e2 ⟨i, z, p⟩ => hb H2 (e.trans e2) _ fun _ H3 e3 ⟨j, z2, r⟩ => ⟨i, j, z, z2, q _ H3 (e2.trans e3) (m i j p r H3 ((e.trans e2).trans e3))⟩
theorem evg_U {P : Int → Prop} {g : Int → V} (ha : EvG ta σ H (IntT P)) (m : ∀ i, P i → ∀ H1, Gx H H1 → Φ (g i) H1) : EvG (tUn (rU g) ta) σ H Φ := fun H1 e Q q =>
  ha H1 e _ fun _ H2 e2 ⟨i, z, p⟩ => ⟨i, z, q _ H2 e2 (m i p H2 (e.trans e2))⟩
theorem evg_i (i : Int) : EvG (tC (.int i)) σ H (IntT fun j => j = i) := evg_c fun _ _ => ⟨i, rfl, rfl⟩
theorem evg_vi {n : Nat} {i : Int} (h : σ[n]? = some (some (.int i))) : EvG (tVar n) σ H (IntT fun j => j = i) := evg_var h fun _ _ => ⟨i, rfl, rfl⟩
theorem evn_lst {Ψ : List V → Hp → Prop} {Φ : Addr → Hp → Prop} (h : EvGs tr σ H Ψ) (hl : ∀ vs H1, Ψ vs H1 → vs.length ≤ 100000) (m : ∀ vs p H1 H2, Gx H H1 → Ψ vs H1 → Gx H1 H2 → H1 p = none → H2 p = some (.lst vs) → Φ p H2) : EvN (tLst tr) σ H Φ := fun H1 e Q q =>
  h H1 e _ fun vs H2 e2 g => ⟨Evl.sz_of (hl vs H2 g), fun p hp => q _ _ (e2.trans (Gx.new hp)) (e2.free hp) (m vs p H2 _ (e.trans e2) g (Gx.new hp) hp upd_same)⟩
theorem evn_tup {Ψ : List V → Hp → Prop} {Φ : Addr → Hp → Prop} (h : EvGs tr σ H Ψ) (hl : ∀ vs H1, Ψ vs H1 → vs.length ≤ 100000) (m : ∀ vs p H1 H2, Gx H H1 → Ψ vs H1 → Gx H1 H2 → H1 p = none → H2 p = some (.tup vs) → Φ p H2) : EvN (tTup tr) σ H Φ := fun H1 e Q q =>
  h H1 e _ fun vs H2 e2 g => ⟨Evl.sz_of (hl vs H2 g), fun p hp => q _ _ (e2.trans (Gx.new hp)) (e2.free hp) (m vs p H2 _ (e.trans e2) g (Gx.new hp) hp upd_same)⟩
/-- a list of things of one kind, at a place -/
def Lof (Φ : Ty) (n : Nat) : Addr → Hp → Prop := fun p H => ∃ xs, H p = some (.lst xs) ∧ AllT Φ n xs H
def LofT (Φ : Ty) (n : Nat) : Ty := fun v H => ∃ p, v = .ref p ∧ Lof Φ n p H
theorem Lof.mono {n : Nat} {p : Addr} (m : Mono Φ) (e : Gx H H') (h : Lof Φ n p H) : Lof Φ n p H' := by
  obtain ⟨xs, h1, h2⟩ := h
  exact ⟨xs, e _ _ h1, h2.mono m e⟩
theorem LofT.mono {n : Nat} (m : Mono Φ) : Mono (LofT Φ n) := fun _ _ _ e ⟨p, h1, h2⟩ => ⟨p, h1, h2.mono m e⟩
theorem evn_all {n : Nat} (m : Mono Φ) (h : EvGs tr σ H (AllT Φ n)) (hn : n ≤ 100000) : EvN (tLst tr) σ H (Lof Φ n) :=
  evn_lst h (fun vs _ g => by rw [g.1]; exact hn) fun vs p _ _ _ g e2 _ hp => ⟨vs, hp, g.mono m e2⟩
theorem evg_all {n : Nat} (m : Mono Φ) (h : EvGs tr σ H (AllT Φ n)) (hn : n ≤ 100000) : EvG (tLst tr) σ H (LofT Φ n) := (evn_all m h hn).g fun p _ _ _ _ _ f => ⟨p, rfl, f⟩
theorem evn_cat {n k : Nat} (m : Mono Φ) (ha : EvG ta σ H (LofT Φ n)) (hb : EvG tb σ H (LofT Φ k)) (hn : n + k ≤ 100000) : EvN (tOp rCat ta tb) σ H (Lof Φ (n + k)) := fun H1 e Q q =>
  ha H1 e _ fun _ H2 e2 ⟨a, z, fa⟩ => hb H2 (e.trans e2) _ fun _ H3 e3 ⟨b, z2, ys, h1, h2⟩ => by
    obtain ⟨xs, h3, h4⟩ := fa.mono m e3
    refine ⟨a, b, xs, ys, z, z2, h3, h1, Evl.sz_of (by rw [h4.1, h2.1]; exact hn), fun p hp => q p _ ((e2.trans e3).trans (Gx.new hp)) ((e2.trans e3).free hp) ⟨_, upd_same, ?_⟩⟩
    refine ⟨by rw [List.length_append, h4.1, h2.1], fun x hx => m _ _ _ (Gx.new hp) ?_⟩
    rcases List.mem_append.mp hx with hx | hx
    · exact h4.2 x hx
    · exact h2.2 x hx
end

/-! ### the promises of the dice's defs -/
def spDice0 (K : PySem.W.Frag) : Sp := fun vs H Q _ => ∃ (a : Addr) (ns : List Int) (n : Nat), vs = [.ref a, .int n] ∧ SqL K H a (ns.map V.int) ∧
  ∀ p x y z, H p = none → Q (.ref p) (upd H p (three x y z))
def spDice (K : PySem.W.Frag) : Sp := fun vs H Q _ => ∃ (a : Addr) (ns : List Int) (n : Nat), vs = [.ref a, .int n] ∧ SqL K H a (ns.map V.int) ∧
  ∀ p, H p = none → Q (.ref p) (upd H p (diceO p))
def spRoll0 : Sp := fun vs H Q _ => ∃ (p : Addr) (t a b c : Int), vs = [.ref p, .int t] ∧ 0 < t ∧ t < 1073741824 ∧ H p = some (three a b c) ∧
  ∀ r a' b' c', 0 ≤ r → r < t → Q (.int r) (upd H p (three a' b' c'))
def spRoll : Sp := fun vs H Q _ => ∃ (p : Addr) (t : Int), vs = [.ref p, .int t] ∧ 0 < t ∧ t < 1073741824 ∧ H p = some (diceO p) ∧ ∀ r, 0 ≤ r → r < t → Q (.int r) H
def spPick (K : PySem.W.Frag) : Sp := fun vs H Q _ => ∃ (p l : Addr) (xs : List V), vs = [.ref p, .ref l] ∧ H p = some (diceO p) ∧ SqL K H l xs ∧ 0 < xs.length ∧ xs.length < 1073741824 ∧ ∀ (j : Nat) x, xs[j]? = some x → Q x H
section
variable {K : PySem.W.Frag} {σ : L2.St} {H H' : Hp} {td tl : TE} {Φ : Ty} {p : Addr}
def DiceT : Ty := fun v H => ∃ p, v = .ref p ∧ H p = some (diceO p)
theorem DiceT.mono : Mono DiceT := fun _ _ _ e ⟨p, h1, h2⟩ => ⟨p, h1, e _ _ h2⟩
theorem evg_dice {i : Nat} (h : σ[i]? = some (some (.ref p))) (hp : H p = some (diceO p)) : EvG (tVar i) σ H DiceT := evg_var h fun _ e => ⟨p, rfl, e _ _ hp⟩
theorem evg_pick {n : Nat} (hd : EvG td σ H DiceT) (hl : EvG tl σ H (LofT Φ n)) (hn : 0 < n ∧ n ≤ 100000) : EvG (tCall (spPick K) [] E0 (tCons td (tCons tl tNil))) σ H Φ := fun H1 e Q q =>
  hd H1 e _ fun _ H2 e2 ⟨p, z, hp⟩ => hl H2 (e.trans e2) _ fun _ H3 e3 ⟨l, z2, xs, h1, h2⟩ => by
    subst z
    subst z2
    exact ⟨p, l, xs, rfl, e3 _ _ hp, SqL.of h1, by rw [h2.1]; exact hn.1, by rw [h2.1]; omega, fun j x hx => q x H3 (e2.trans e3) (h2.2 x (List.mem_of_getElem? hx))⟩
theorem evg_roll {R : Int → Prop} {tt : TE} (hd : EvG td σ H DiceT) (ht : EvG tt σ H (IntT R)) (hR : ∀ i, R i → 0 < i ∧ i ≤ 100000) (m : ∀ r i, R i → 0 ≤ r → r < i → ∀ H1, Gx H H1 → Φ (.int r) H1) : EvG (tCall spRoll [] E0 (tCons td (tCons tt tNil))) σ H Φ := fun H1 e Q q =>
  hd H1 e _ fun _ H2 e2 ⟨p, z, hp⟩ => ht H2 (e.trans e2) _ fun _ H3 e3 ⟨i, z2, hi⟩ => by
    subst z
    subst z2
    have h := hR i hi
    exact ⟨p, i, rfl, h.1, by omega, e3 _ _ hp, fun r h1 h2 => q _ H3 (e2.trans e3) (m r i hi h1 h2 H3 ((e.trans e2).trans e3))⟩
end

/-! ### statements -/
section
variable {K : PySem.W.Frag} {σ : L2.St} {H : Hp} {te tl : TE} {ta : TA} {tz tu tw tb : TS} {tt : TT} {D : Ends} {Φ : Ty} {i j : Nat}
theorem g_asg (h : EvG te σ H Φ) (k : ∀ v H1, Gx H H1 → Φ v H1 → tz D (σ.set i (some v)) H1) : tSeq (tAsg te (gName i)) tz D σ H := h H (Gx.refl H) _ fun v H1 e f => k v H1 e f
theorem g_asgN {Φ : Addr → Hp → Prop} (h : EvN te σ H Φ) (k : ∀ p H1, Gx H H1 → H p = none → Φ p H1 → tz D (σ.set i (some (.ref p))) H1) : tSeq (tAsg te (gName i)) tz D σ H := h H (Gx.refl H) _ fun v H1 e n f => k v H1 e n f
theorem g_par {Ψ : List V → Hp → Prop} (h : EvGs ta σ H Ψ) (k : ∀ vs H1, Gx H H1 → Ψ vs H1 → ∃ v w, vs = [v, w] ∧ tz D ((σ.set i (some v)).set j (some w)) H1) : tSeq (tPar i j ta) tz D σ H := h H (Gx.refl H) _ fun vs H1 e f => k vs H1 e f
theorem g_ret (h : EvG te σ H Φ) (k : ∀ v H1, Gx H H1 → Φ v H1 → D.rt v H1) : tRet te D σ H := h H (Gx.refl H) _ fun v H1 e f => k v H1 e f
theorem g_drop (h : EvG te σ H Φ) (k : ∀ v H1, Gx H H1 → Φ v H1 → tz D σ H1) : tSeq (tDrop te) tz D σ H := h H (Gx.refl H) _ fun v H1 e f => k v H1 e f
/-- a test -/
def EvB (tt : TT) (σ : L2.St) (H : Hp) (R : Bool → Prop) : Prop := ∀ H1, Gx H H1 → ∀ Q : Bool → Hp → Prop, (∀ b H2, Gx H1 H2 → R b → Q b H2) → tt σ H1 Q
theorem g_if {R : Bool → Prop} (h : EvB tt σ H R) (k1 : R true → ∀ H1, Gx H H1 → tu { D with nx := tz D } σ H1) (k2 : R false → ∀ H1, Gx H H1 → tw { D with nx := tz D } σ H1) : tSeq (tIfS tt tu tw) tz D σ H := h H (Gx.refl H) _ fun b H1 e f => by
  cases b with
  | true => exact iteT (k1 f H1 e)
  | false => exact iteF (k2 f H1 e)
theorem g_when {R : Bool → Prop} (h : EvB tt σ H R) (k1 : R true → ∀ H1, Gx H H1 → tu { D with nx := tz D } σ H1) (k2 : R false → ∀ H1, Gx H H1 → tz D σ H1) : tSeq (tIfS tt tu tNext) tz D σ H := g_if h k1 k2
theorem g_when1 {R : Bool → Prop} (h : EvB tt σ H R) (k1 : R true → ∀ H1, Gx H H1 → tu D σ H1) (k2 : R false → ∀ H1, Gx H H1 → D.nx σ H1) : tIfS tt tu tNext D σ H := h H (Gx.refl H) _ fun b H1 e f => by
  cases b with
  | true => exact iteT (k1 f H1 e)
  | false => exact iteF (k2 f H1 e)
theorem evb_test {R : Bool → Prop} (h : EvG te σ H (BlT R)) : EvB (tTest te) σ H R := fun H1 e Q q => h H1 e _ fun v H2 e2 ⟨b, z, r⟩ => ⟨b, z, q b H2 e2 r⟩
theorem evb_B {R : Bool → Prop} (h : EvG te σ H (BlT R)) : EvB (tB te) σ H R := fun H1 e Q q => h H1 e _ fun v H2 e2 ⟨b, z, r⟩ => ⟨b, z, q b H2 e2 r⟩
/-- for x in a new list of things of one kind; Pv is kept from turn to turn -/
theorem g_forN {n : Nat} (h : EvN tl σ H (Lof Φ n)) (Pv : Addr → List V → Nat → L2.St → Hp → Prop)
    (h0 : ∀ p xs H1, Gx H H1 → H p = none → H1 p = some (.lst xs) → AllT Φ n xs H1 → Pv p xs 0 σ H1) (hl : ∀ p xs i σ' H', Pv p xs i σ' H' → SqL K H' p xs)
    (hs : ∀ p xs i x σ' H', xs[i]? = some x → Pv p xs i σ' H' → tb { D with nx := Pv p xs (i + 1), ct := Pv p xs (i + 1), bk := fun σ H => tz D σ H } (σ'.set j (some x)) H')
    (hd : ∀ p xs σ' H', Pv p xs n σ' H' → tz D σ' H') : tSeq (tFor (iList K tl) (gName j) tb) tz D σ H := h H (Gx.refl H) _ fun p H1 e nw ⟨xs, h1, h2⟩ => by
  refine ⟨p, rfl, ⟨xs, SqL.of h1⟩, for_list (K := K) (a := p) (xs := xs) (D := { D with nx := tz D }) (Pv p xs) (h0 p xs H1 e nw h1 h2) (fun i σ H _ q => hl p xs i σ H q) (fun i x σ' H' hx q => hs p xs i x σ' H' hx q) fun σ' H' q => hd p xs σ' H' ?_⟩
  rw [h2.1] at q
  exact q
theorem g_forL {n : Nat} (h : EvG tl σ H (LofT Φ n)) (Pv : Addr → List V → Nat → L2.St → Hp → Prop)
    (h0 : ∀ p xs H1, Gx H H1 → H1 p = some (.lst xs) → AllT Φ n xs H1 → Pv p xs 0 σ H1) (hl : ∀ p xs i σ' H', Pv p xs i σ' H' → SqL K H' p xs)
    (hs : ∀ p xs i x σ' H', xs[i]? = some x → Pv p xs i σ' H' → tb { D with nx := Pv p xs (i + 1), ct := Pv p xs (i + 1), bk := fun σ H => tz D σ H } (σ'.set j (some x)) H')
    (hd : ∀ p xs σ' H', Pv p xs n σ' H' → tz D σ' H') : tSeq (tFor (iList K tl) (gName j) tb) tz D σ H := h H (Gx.refl H) _ fun v H1 e ⟨p, z, xs, h1, h2⟩ => by
  refine ⟨p, z, ⟨xs, SqL.of h1⟩, for_list (K := K) (a := p) (xs := xs) (D := { D with nx := tz D }) (Pv p xs) (h0 p xs H1 e h1 h2) (fun i σ H _ q => hl p xs i σ H q) (fun i x σ' H' hx q => hs p xs i x σ' H' hx q) fun σ' H' q => hd p xs σ' H' ?_⟩
  rw [h2.1] at q
  exact q
/-- for x in range(..) -/
theorem g_forR {R : Int → Prop} (h : EvGs ta σ H (fun vs _ => ∃ k, vs = [.int k] ∧ R k)) (hR : ∀ k, R k → 0 ≤ k ∧ k ≤ 1000000) (Pv : Nat → L2.St → Hp → Prop)
    (h0 : ∀ H1, Gx H H1 → Pv 0 σ H1)
    (hs : ∀ (i : Nat) σ' H', (∃ k, R k ∧ (i : Int) < k) → Pv i σ' H' → tb { D with nx := Pv (i + 1), ct := Pv (i + 1), bk := fun σ H => tz D σ H } (σ'.set j (some (.int i))) H')
    (hd : ∀ (i : Nat) σ' H', R i → Pv i σ' H' → tz D σ' H') : tSeq (tFor (iRng1 ta) (gName j) tb) tz D σ H := h H (Gx.refl H) _ fun vs H1 e ⟨k, z, r⟩ => by
  have hk := hR k r
  refine ⟨k, z, by omega, by omega, for_range (D := { D with nx := tz D }) Pv (h0 H1 e) (fun i σ' H' hi q => ?_) fun σ' H' q => hd k.toNat σ' H' (by rw [show ((k.toNat : Nat) : Int) = k by omega]; exact r) q⟩
  have := hs i σ' H' ⟨k, r, by omega⟩ q
  rw [show (0 : Int) + (i : Int) = (i : Int) by omega]
  exact this
theorem g_forR1 {R : Int → Prop} (h : EvGs ta σ H (fun vs _ => ∃ k, vs = [.int k] ∧ R k)) (hR : ∀ k, R k → 0 ≤ k ∧ k ≤ 1000000) (Pv : Nat → L2.St → Hp → Prop)
    (h0 : ∀ H1, Gx H H1 → Pv 0 σ H1)
    (hs : ∀ (i : Nat) σ' H', (∃ k, R k ∧ (i : Int) < k) → Pv i σ' H' → tb { D with nx := Pv (i + 1), ct := Pv (i + 1), bk := D.nx } (σ'.set j (some (.int i))) H')
    (hd : ∀ (i : Nat) σ' H', R i → Pv i σ' H' → D.nx σ' H') : tFor (iRng1 ta) (gName j) tb D σ H := h H (Gx.refl H) _ fun vs H1 e ⟨k, z, r⟩ => by
  have hk := hR k r
  refine ⟨k, z, by omega, by omega, for_range (D := D) Pv (h0 H1 e) (fun i σ' H' hi q => ?_) fun σ' H' q => hd k.toNat σ' H' (by rw [show ((k.toNat : Nat) : Int) = k by omega]; exact r) q⟩
  have := hs i σ' H' ⟨k, r, by omega⟩ q
  rw [show (0 : Int) + (i : Int) = (i : Int) by omega]
  exact this
end
/-- isinstance(x, T) -/
theorem evg_isi {K : PySem.W.Frag} {σ : L2.St} {H : Hp} {te : TE} {n : String} {R : Bool → Prop} (h : EvG te σ H (fun v H => ∃ k, Pl K H v k ∧ R (kdIs k n))) (hn : n ∈ asked) : EvG (tCB (rIsi K) (tCons te (tCons (tC (.ty n)) tNil))) σ H (BlT R) := fun H1 e Q q =>
  h H1 e _ fun v H2 e2 ⟨k, p, r⟩ => by
    obtain ⟨t, ty, kt⟩ := p.isi hn
    exact ⟨v, .ty n, t, .type n, _, rfl, .ty n, ty, kt, q _ H2 e2 ⟨_, rfl, r⟩⟩

/-! ### what is walked, and comprehensions -/
/-- n turns; the item of turn i and the heap with it meet Y i -/
def EvW (wi : TI) (σ : L2.St) (H : Hp) (n : Nat) (Y : Nat → Ty) : Prop := ∀ H1, Gx H H1 → ∀ R : It → Hp → Prop, (∀ J H2 G Y', Gx H1 H2 → Walk J n G Y' → (∀ H3, Gx H2 H3 → G H3) →
  (∀ i H3 x H4, i < n → Gx H2 H3 → Y' i H3 x H4 → Gx H3 H4 ∧ Y i x H4) → R J H2) → wi σ H1 R
section
variable {K : PySem.W.Frag} {σ : L2.St} {H : Hp} {te tl : TE} {ta : TA} {Φ : Ty}
theorem evw_list {n : Nat} (m : Mono Φ) (h : EvG tl σ H (LofT Φ n)) : EvW (iList K tl) σ H n (fun _ => Φ) := fun H1 e R q =>
  h H1 e _ fun v H2 e2 ⟨p, z, xs, h1, h2⟩ => ⟨p, z, ⟨xs, SqL.of h1⟩, q (Itl K p) H2 (fun H => SqL K H p xs) (YAt xs) e2 (by rw [← h2.1]; exact walk_list (xs := xs)) (fun H3 e3 => SqL.of (e3 _ _ h1))
    (fun i H3 x H4 _ e3 ⟨z4, hx⟩ => by subst z4; exact ⟨Gx.refl _, m _ _ _ e3 (h2.2 x (List.mem_of_getElem? hx))⟩)⟩
/-- a known list, item by item -/
theorem evw_listAt {xs : List V} (h : EvG tl σ H (fun v H => ∃ p, v = .ref p ∧ SqL K H p xs)) : EvW (iList K tl) σ H xs.length (fun i x _ => xs[i]? = some x) := fun H1 e R q =>
  h H1 e _ fun v H2 e2 ⟨p, z, h1⟩ => ⟨p, z, ⟨xs, h1⟩, q _ H2 _ _ e2 (walk_list (xs := xs)) (fun H3 e3 => Gx.l e3 h1)
    (fun i H3 x H4 _ e3 ⟨z4, hx⟩ => by subst z4; exact ⟨Gx.refl _, hx⟩)⟩
theorem evw_tupAt {xs : List V} (h : EvG tl σ H (fun v H => ∃ p, v = .ref p ∧ SqT K H p xs)) : EvW (iTup K tl) σ H xs.length (fun i x _ => xs[i]? = some x) := fun H1 e R q =>
  h H1 e _ fun v H2 e2 ⟨p, z, h1⟩ => ⟨p, z, ⟨xs, h1⟩, q _ H2 _ _ e2 (walk_tup (xs := xs)) (fun H3 e3 => Gx.t e3 h1)
    (fun i H3 x H4 _ e3 ⟨z4, hx⟩ => by subst z4; exact ⟨Gx.refl _, hx⟩)⟩
theorem evw_str {z : Str} (h : EvG te σ H (fun v _ => v = .str z)) : EvW (iStr te) σ H z.cps.size (fun i x _ => ∃ c, z.cps[i]? = some c ∧ x = .str ⟨#[c]⟩) := fun H1 e R q =>
  h H1 e _ fun v H2 e2 hv => ⟨z, hv, q _ H2 _ _ e2 (walk_str (z := z)) (fun _ _ => trivial) (fun i H3 x H4 _ _ ⟨z4, c, h1, h2⟩ => by subst z4; exact ⟨Gx.refl _, c, h1, h2⟩)⟩
theorem evw_rng {k : Int} (h : EvGs ta σ H (fun vs _ => vs = [.int k])) (hk : k ≤ 100000 ∧ -100000 ≤ k) : EvW (iRng1 ta) σ H k.toNat (fun i x _ => x = .int i) := fun H1 e R q =>
  h H1 e _ fun vs H2 e2 hv => ⟨k, hv, by omega, by omega, q _ H2 _ _ e2 (walk_range (lo := 0) (n := k.toNat)) (fun _ _ => trivial) (fun i H3 x H4 _ _ ⟨z4, hx⟩ => by subst z4; exact ⟨Gx.refl _, hx.trans (by show V.int (0 + (i : Int)) = V.int i; rw [Int.zero_add])⟩)⟩
end
/-- what a comprehension gives: the items whose test holds, in order -/
inductive LcR (B : Nat → Bool → Prop) (R : Nat → Ty) (H : Hp) : Nat → List V → Prop
  | nil : LcR B R H 0 []
  | keep {n : Nat} {ys : List V} {y : V} : LcR B R H n ys → B n true → R n y H → LcR B R H (n + 1) (ys ++ [y])
  | skip {n : Nat} {ys : List V} : LcR B R H n ys → B n false → LcR B R H (n + 1) ys
theorem LcR.firm {B : Nat → Bool → Prop} {R : Nat → Ty} {H H' : Hp} (m : ∀ i, Firm (R i)) (e : Kx H H') {n : Nat} {ys : List V} (h : LcR B R H n ys) : LcR B R H' n ys := by
  induction h with
  | nil => exact .nil
  | keep _ b r ih => exact .keep ih b (m _ _ _ _ e r)
  | skip _ b ih => exact .skip ih b
theorem LcR.gx {B : Nat → Bool → Prop} {R : Nat → Ty} {H H' : Hp} (m : ∀ i, Mono (R i)) (e : Gx H H') {n : Nat} {ys : List V} (h : LcR B R H n ys) : LcR B R H' n ys := by
  induction h with
  | nil => exact .nil
  | keep _ b r ih => exact .keep ih b (m _ _ _ _ e r)
  | skip _ b ih => exact .skip ih b
theorem LcR.len {B : Nat → Bool → Prop} {R : Nat → Ty} {H : Hp} {n : Nat} {ys : List V} (h : LcR B R H n ys) : ys.length ≤ n := by
  induction h with
  | nil => exact Nat.le_refl 0
  | keep _ _ _ ih =>
    rw [List.length_append]
    show _ + 1 ≤ _
    omega
  | skip _ _ ih => omega
/-- without a test: item by item -/
theorem LcR.all {B : Nat → Bool → Prop} {R : Nat → Ty} {H : Hp} {n : Nat} {ys : List V} (h : LcR B R H n ys) (hB : ∀ i, ¬ B i false) : ys.length = n ∧ ∀ i y, ys[i]? = some y → R i y H := by
  induction h with
  | nil => exact ⟨rfl, fun i y e => by simp at e⟩
  | @keep n ys y _ _ r ih =>
    refine ⟨by rw [List.length_append, ih.1]; rfl, fun i z e => ?_⟩
    by_cases hi : i < ys.length
    · rw [List.getElem?_append_left hi] at e
      exact ih.2 i z e
    · rw [List.getElem?_append_right (by omega)] at e
      have h0 : i - ys.length = 0 := by
        cases q : i - ys.length with
        | zero => rfl
        | succ m => rw [q] at e; simp at e
      rw [h0] at e
      cases e
      have : i = n := by rw [← ih.1]; omega
      rw [this]
      exact r
  | skip _ b _ => exact absurd b (hB _)
section
variable {K : PySem.W.Frag} {σ : L2.St} {H : Hp} {te : TE} {wi : TI} {g : TG} {tt : TT} {vs : List Nat} {n : Nat}
theorem evn_lc {Y : Nat → Ty} {S : Nat → L2.St → Hp → Prop} {B : Nat → Bool → Prop} {R : Nat → Ty} (hw : EvW wi σ H n Y) (hn : n ≤ 100000)
    (hg : ∀ i x H1, i < n → Gx H H1 → Y i x H1 → ∀ Q : L2.St → Hp → Prop, (∀ σ2, wipe σ2 vs = wipe σ vs → S i σ2 H1 → Q σ2 H1) → g x (wipe σ vs) H1 Q)
    (ht : ∀ i σ2 H1, i < n → Gx H H1 → S i σ2 H1 → EvB tt σ2 H1 (B i)) (ms : ∀ i σ2 H1 H2, Gx H1 H2 → S i σ2 H1 → S i σ2 H2)
    (he : ∀ i σ2 H1, i < n → Gx H H1 → S i σ2 H1 → B i true → EvG te σ2 H1 (R i)) (m : ∀ i, Firm (R i)) :
    EvN (tLc wi g tt te vs) σ H (fun p H' => ∃ ys, H' p = some (.lst ys) ∧ LcR B R H' n ys) := by
  intro H1 e Q q
  refine hw H1 e _ fun J H2 G Y' e2 W hG hY => ?_
  intro D hD
  refine lc_it W (fun i H' => Gx H2 H' ∧ i ≤ n ∧ ∃ ys, H' D = some (.lst ys) ∧ LcR B R H' i ys) ⟨Gx.new hD, Nat.zero_le _, [], upd_same, .nil⟩ (fun i H' _ p => hG H' p.1) ?_ ?_
  · rintro i x H3 H4 hi ⟨e3, _, ys, hys, L⟩ y
    obtain ⟨e4, y⟩ := hY i H3 x H4 hi e3 y
    have e5 := ((e.trans e2).trans e3).trans e4
    refine hg i x H4 hi e5 y _ fun σ2 w s2 => ⟨w, ht i σ2 H4 hi e5 s2 H4 (Gx.refl _) _ fun b H5 e6 hb => ?_⟩
    cases b with
    | true =>
      refine iteT (he i σ2 H5 hi (e5.trans e6) (ms i σ2 H4 H5 e6 s2) hb H5 (Gx.refl _) _ fun y H6 e7 r => ?_)
      have e8 := (e4.trans e6).trans e7
      have hD6 := e8 _ _ hys
      refine ⟨ys, hD6, Evl.sz_lt (by have := L.len; omega), (e3.trans e8).mut hD, hi, ys ++ [y], upd_same, .keep (L.firm m (e8.k.trans (Kx.put hD6))) hb (m _ _ _ _ (Kx.put hD6) r)⟩
    | false =>
      have e8 := e4.trans e6
      exact iteF ⟨e3.trans e8, hi, ys, e8 _ _ hys, .skip (L.firm m e8.k) hb⟩
  · rintro H3 ⟨e3, _, ys, h, L⟩
    exact q D H3 (e2.trans e3) (e2.free hD) ⟨ys, h, L⟩
theorem wipe1 {j : Nat} {x : Option V} : wipe ((wipe σ [j]).set j x) [j] = wipe σ [j] := by
  show ((σ.set j none).set j x).set j none = σ.set j none
  rw [List.set_set, List.set_set]
/-- the target a name -/
theorem evn_lcN {j : Nat} {Y : Nat → Ty} {B : Nat → Bool → Prop} {R : Nat → Ty} (hw : EvW wi σ H n Y) (hn : n ≤ 100000) (my : ∀ i, Mono (Y i))
    (ht : ∀ i x H1, i < n → Gx H H1 → Y i x H1 → EvB tt ((wipe σ [j]).set j (some x)) H1 (B i))
    (he : ∀ i x H1, i < n → Gx H H1 → Y i x H1 → B i true → EvG te ((wipe σ [j]).set j (some x)) H1 (R i)) (m : ∀ i, Firm (R i)) :
    EvN (tLc wi (gName j) tt te [j]) σ H (fun p H' => ∃ ys, H' p = some (.lst ys) ∧ LcR B R H' n ys) :=
  evn_lc (S := fun i σ2 H => ∃ x, σ2 = (wipe σ [j]).set j (some x) ∧ Y i x H) hw hn (fun i x H1 _ _ y Q q => q _ wipe1 ⟨x, rfl, y⟩) (fun i σ2 H1 hi e ⟨x, z, y⟩ => by subst z; exact ht i x H1 hi e y)
    (fun i σ2 H1 H2 e ⟨x, z, y⟩ => ⟨x, z, my i _ _ _ e y⟩) (fun i σ2 H1 hi e ⟨x, z, y⟩ b => by subst z; exact he i x H1 hi e y b) m
theorem evb_yes {σ : L2.St} {H : Hp} : EvB tYes σ H (fun b => b = true) := fun H1 _ _ q => q true H1 (Gx.refl _) rfl
/-- .. and no test -/
theorem evn_lcA {j : Nat} {Y : Nat → Ty} {R : Nat → Ty} (hw : EvW wi σ H n Y) (hn : n ≤ 100000) (my : ∀ i, Mono (Y i))
    (he : ∀ i x H1, i < n → Gx H H1 → Y i x H1 → EvG te ((wipe σ [j]).set j (some x)) H1 (R i)) (m : ∀ i, Firm (R i)) :
    EvN (tLc wi (gName j) tYes te [j]) σ H (fun p H' => ∃ ys, H' p = some (.lst ys) ∧ ys.length = n ∧ ∀ i y, ys[i]? = some y → R i y H') := by
  intro H1 e Q q
  refine evn_lcN (B := fun _ b => b = true) hw hn my (fun i x H1 _ _ _ => evb_yes) (fun i x H1 hi e y _ => he i x H1 hi e y) m H1 e Q fun p H2 e2 n2 ⟨ys, h, L⟩ => ?_
  exact q p H2 e2 n2 ⟨ys, h, L.all fun _ z => by cases z⟩
end

/-! ### truth values -/
abbrev BlE (b : Bool) : Ty := BlT fun c => c = b
section
variable {K : PySem.W.Frag} {σ : L2.St} {H : Hp} {ta tb tc : TE} {a b : Bool} {t u : TT}
theorem evg_andV (h1 : EvG ta σ H (BlE a)) (h2 : a = true → ∀ H1, Gx H H1 → EvG tb σ H1 (BlE b)) : EvG (tAndV ta tb) σ H (BlE (a && b)) := fun H1 e Q q =>
  h1 H1 e _ fun v H2 e2 ⟨c, z, hc⟩ => ⟨c, z, by
    subst hc
    cases c with
    | true => exact iteT (h2 rfl H2 (e.trans e2) H2 (Gx.refl _) Q fun v H3 e3 f => q v H3 (e2.trans e3) f)
    | false => exact iteF (q _ H2 e2 ⟨false, rfl, rfl⟩)⟩
theorem evg_orV (h1 : EvG ta σ H (BlE a)) (h2 : a = false → ∀ H1, Gx H H1 → EvG tb σ H1 (BlE b)) : EvG (tOrV ta tb) σ H (BlE (a || b)) := fun H1 e Q q =>
  h1 H1 e _ fun v H2 e2 ⟨c, z, hc⟩ => ⟨c, z, by
    subst hc
    cases c with
    | true => exact iteT (q _ H2 e2 ⟨true, rfl, rfl⟩)
    | false => exact iteF (h2 rfl H2 (e.trans e2) H2 (Gx.refl _) Q fun v H3 e3 f => q v H3 (e2.trans e3) f)⟩
theorem evg_notV (h1 : EvG ta σ H (BlE a)) : EvG (tNotV ta) σ H (BlE (!a)) := fun H1 e Q q =>
  h1 H1 e _ fun v H2 e2 ⟨c, z, hc⟩ => ⟨c, z, q _ H2 e2 ⟨_, rfl, by rw [hc]⟩⟩
theorem evb_and (h1 : EvB t σ H (fun c => c = a)) (h2 : a = true → ∀ H1, Gx H H1 → EvB u σ H1 (fun c => c = b)) : EvB (tAnd t u) σ H (fun c => c = (a && b)) := fun H1 e Q q =>
  h1 H1 e _ fun c H2 e2 hc => by
    subst hc
    cases c with
    | true => exact iteT (h2 rfl H2 (e.trans e2) H2 (Gx.refl _) Q fun v H3 e3 f => q v H3 (e2.trans e3) f)
    | false => exact iteF (q _ H2 e2 rfl)
theorem evb_or (h1 : EvB t σ H (fun c => c = a)) (h2 : a = false → ∀ H1, Gx H H1 → EvB u σ H1 (fun c => c = b)) : EvB (tOr t u) σ H (fun c => c = (a || b)) := fun H1 e Q q =>
  h1 H1 e _ fun c H2 e2 hc => by
    subst hc
    cases c with
    | true => exact iteT (q _ H2 e2 rfl)
    | false => exact iteF (h2 rfl H2 (e.trans e2) H2 (Gx.refl _) Q fun v H3 e3 f => q v H3 (e2.trans e3) f)
theorem evb_not (h1 : EvB t σ H (fun c => c = a)) : EvB (tNot t) σ H (fun c => c = !a) := fun H1 e Q q =>
  h1 H1 e _ fun c H2 e2 hc => q _ H2 e2 (by rw [hc])
/-- a < b < c and its like, of ints -/
theorem evg_chain {f g : Int → Int → Bool} {i j k : Int} (ha : EvG ta σ H (IntT fun x => x = i)) (hb : EvG tb σ H (IntT fun x => x = j)) (hc : EvG tc σ H (IntT fun x => x = k)) :
    EvG (tChain (rI0 fun i j => .bl (f i j)) (rI0 fun i j => .bl (g i j)) ta tb tc) σ H (BlE (f i j && g j k)) := fun H1 e Q q =>
  ha H1 e _ fun v H2 e2 ⟨x, z, hx⟩ => hb H2 (e.trans e2) _ fun v2 H3 e3 ⟨y, z2, hy⟩ => ⟨x, y, z, z2, _, rfl, by
    subst hx
    subst hy
    cases q1 : f x y with
    | true =>
      refine iteT (hc H3 ((e.trans e2).trans e3) _ fun v3 H4 e4 ⟨w, z3, hw⟩ => ⟨y, w, z2, z3, ?_⟩)
      have hw : w = k := hw
      exact q _ H4 ((e2.trans e3).trans e4) ⟨_, rfl, by rw [q1, hw, Bool.true_and]⟩
    | false => exact iteF (q _ H3 (e2.trans e3) ⟨false, rfl, by rw [q1, Bool.false_and]⟩)⟩
theorem evg_is {a b : Bool} (h : EvG ta σ H (BlE a)) (e : a = b) : EvG ta σ H (BlE b) := by
  subst e
  exact h
end
theorem evg_rAll {K : PySem.W.Frag} {σ : L2.St} {H : Hp} {te : TE} {R : Bool → Prop} (h : EvN te σ H (fun p H' => ∃ bs : List Bool, H' p = some (.lst (bs.map V.bl)) ∧ R (bs.all id))) : EvG (tCB (rAll K) (tCons te tNil)) σ H (BlT R) := fun H1 e Q q =>
  h H1 e _ fun p H2 e2 _ ⟨bs, hp, r⟩ => ⟨p, bs, rfl, SqL.of hp, q _ H2 e2 ⟨_, rfl, r⟩⟩
theorem evg_rAny {K : PySem.W.Frag} {σ : L2.St} {H : Hp} {te : TE} {R : Bool → Prop} (h : EvN te σ H (fun p H' => ∃ bs : List Bool, H' p = some (.lst (bs.map V.bl)) ∧ R (bs.any id))) : EvG (tCB (rAny K) (tCons te tNil)) σ H (BlT R) := fun H1 e Q q =>
  h H1 e _ fun p H2 e2 _ ⟨bs, hp, r⟩ => ⟨p, bs, rfl, SqL.of hp, q _ H2 e2 ⟨_, rfl, r⟩⟩
theorem EvN.imp {σ : L2.St} {H : Hp} {te : TE} {Φ Φ' : Addr → Hp → Prop} (h : EvN te σ H Φ) (i : ∀ p H2, Gx H H2 → Φ p H2 → Φ' p H2) : EvN te σ H Φ' := fun H1 a Q q => h H1 a Q fun p H2 e n f => q p H2 e n (i p H2 (a.trans e) f)
/-- a list of truth values, told item by item -/
theorem bls_of {ys : List V} {n : Nat} {f : Nat → Bool} (hl : ys.length = n) (h : ∀ (i : Nat) (y : V), ys[i]? = some y → y = V.bl (f i)) : ys = ((List.range n).map f).map V.bl := by
  apply List.ext_getElem?
  intro i
  rw [List.map_map, List.getElem?_map]
  cases q : ys[i]? with
  | some y =>
    have hi : i < n := by rw [← hl]; exact (List.getElem?_eq_some_iff.mp q).1
    rw [h i y q, List.getElem?_range hi]
    rfl
  | none =>
    have : ys.length ≤ i := List.getElem?_eq_none_iff.mp q
    rw [List.getElem?_eq_none (by rw [List.length_range]; omega)]
    rfl
theorem of_cps {ys : List V} {a : Array Nat} {f : Nat → V} (hl : ys.length = a.size) (h : ∀ (i : Nat) (y : V), ys[i]? = some y → ∃ c, a[i]? = some c ∧ y = f c) : ys = a.toList.map f := by
  apply List.ext_getElem?
  intro i
  have e : a.toList[i]? = a[i]? := by simp
  rw [List.getElem?_map, e]
  cases q : ys[i]? with
  | some y =>
    obtain ⟨c, hc, rfl⟩ := h i y q
    rw [hc]
    rfl
  | none =>
    have : ys.length ≤ i := List.getElem?_eq_none_iff.mp q
    rw [Array.getElem?_eq_none (by omega)]
    rfl
/-! ### the words of the package, by values -/
def isI : V → Bool
  | .int i => decide (-(10 ^ 60) < i) && decide (i < 10 ^ 60)
  | _ => false
def wthn (x : V) (lo hi : Int) : Bool := match x with
  | .int i => isI x && (decide (lo ≤ i) && decide (i ≤ hi))
  | _ => false
def letters : List Nat := (("abcdefghijklmnopqrstuvwxyz" : Str)).cps.toList
def isW : V → Bool
  | .str z => (decide (1 ≤ (z.length : Int)) && decide ((z.length : Int) ≤ 8)) && z.cps.toList.all fun c => decide (c ∈ letters)
  | _ => false
def isNode2 (s n : V) : Bool := wthn n 0 3 && (isW s || (decide (s = .str "_" ∨ s = .str "#") && decide (n = .int 0)))
/-- no text too long -/
def Small (x : V) : Prop := ∀ z, x = .str z → z.length ≤ 100000
def spIsInt (K : PySem.W.Frag) : Sp := fun vs H Q _ => ∃ x k, vs = [x] ∧ Pl K H x k ∧ Q (.bl (isI x)) H
def spWithin (K : PySem.W.Frag) : Sp := fun vs H Q _ => ∃ x k lo hi, vs = [x, .int lo, .int hi] ∧ Pl K H x k ∧ Q (.bl (wthn x lo hi)) H
def spWord (K : PySem.W.Frag) : Sp := fun vs H Q _ => ∃ x k, vs = [x] ∧ Pl K H x k ∧ Small x ∧ ∀ H', Gx H H' → Q (.bl (isW x)) H'
/-- a value, and whether it is a node -/
inductive NodeIn (K : PySem.W.Frag) (H : Hp) : V → Bool → Prop
  | other {x : V} {k : Kd} : Pl K H x k → k ≠ .tup → NodeIn K H x false
  | size {a : Addr} {xs : List V} : H a = some (.tup xs) → xs.length ≠ 2 → NodeIn K H (.ref a) false
  | pair {a : Addr} {s n : V} {ks kn : Kd} : H a = some (.tup [s, n]) → Pl K H s ks → Pl K H n kn → Small s → NodeIn K H (.ref a) (isNode2 s n)
def spNode (K : PySem.W.Frag) : Sp := fun vs H Q _ => ∃ x b, vs = [x] ∧ NodeIn K H x b ∧ ∀ H', Gx H H' → Q (.bl b) H'

/-! ### things of told kinds, one by one -/
def AtT : List Ty → List V → Hp → Prop
  | [], [], _ => True
  | Φ :: Φs, v :: vs, H => Φ v H ∧ AtT Φs vs H
  | _, _, _ => False
theorem AtT.mono {H H' : Hp} (e : Gx H H') : ∀ {Φs : List Ty} {vs : List V}, (∀ Φ ∈ Φs, Mono Φ) → AtT Φs vs H → AtT Φs vs H'
  | [], [], _, h => h
  | Φ :: Φs, v :: vs, m, h => ⟨m Φ (List.mem_cons_self ..) _ _ _ e h.1, AtT.mono e (fun Φ hp => m Φ (List.mem_cons_of_mem _ hp)) h.2⟩
  | [], _ :: _, _, h => h.elim
  | _ :: _, [], _, h => h.elim
theorem AtT.len {H : Hp} : ∀ {Φs : List Ty} {vs : List V}, AtT Φs vs H → vs.length = Φs.length
  | [], [], _ => rfl
  | Φ :: Φs, v :: vs, h => by rw [List.length_cons, List.length_cons, AtT.len h.2]
  | [], _ :: _, h => h.elim
  | _ :: _, [], h => h.elim
theorem AtT.get {H : Hp} : ∀ {Φs : List Ty} {vs : List V} {i : Nat} {x : V}, AtT Φs vs H → vs[i]? = some x → ∃ Φ, Φs[i]? = some Φ ∧ Φ x H
  | [], [], _, _, _, e => by simp at e
  | Φ :: Φs, v :: vs, 0, x, h, e => by
    simp at e
    subst e
    exact ⟨Φ, rfl, h.1⟩
  | Φ :: Φs, v :: vs, i + 1, x, h, e => by
    obtain ⟨Ψ, h1, h2⟩ := AtT.get (i := i) (x := x) h.2 (by simpa using e)
    exact ⟨Ψ, by simpa using h1, h2⟩
  | [], _ :: _, _, _, h, _ => h.elim
  | _ :: _, [], _, _, h, _ => h.elim
section
variable {K : PySem.W.Frag} {σ : L2.St} {H : Hp} {ta : TE} {tr : TA} {Φ : Ty} {Φs : List Ty}
theorem ats_nil : EvGs tNil σ H (AtT []) := evgs_nil fun _ _ => trivial
theorem ats_cons (m : Mono Φ) (h : EvG ta σ H Φ) (k : ∀ H1, Gx H H1 → EvGs tr σ H1 (AtT Φs)) : EvGs (tCons ta tr) σ H (AtT (Φ :: Φs)) :=
  evgs_cons h fun v H1 e f => fun H2 e2 Q q => k H1 e H2 e2 Q fun vs H3 e3 g => q vs H3 e3 ⟨m _ _ _ (e2.trans e3) f, g⟩
def TupA (Φs : List Ty) : Addr → Hp → Prop := fun p H => ∃ xs, H p = some (.tup xs) ∧ AtT Φs xs H
def LstA (Φs : List Ty) : Addr → Hp → Prop := fun p H => ∃ xs, H p = some (.lst xs) ∧ AtT Φs xs H
def TupT (Φs : List Ty) : Ty := fun v H => ∃ p, v = .ref p ∧ TupA Φs p H
def LstT (Φs : List Ty) : Ty := fun v H => ∃ p, v = .ref p ∧ LstA Φs p H
theorem TupT.mono (m : ∀ Φ ∈ Φs, Mono Φ) : Mono (TupT Φs) := fun _ _ _ e ⟨p, z, xs, h1, h2⟩ => ⟨p, z, xs, e _ _ h1, h2.mono e m⟩
theorem LstT.mono (m : ∀ Φ ∈ Φs, Mono Φ) : Mono (LstT Φs) := fun _ _ _ e ⟨p, z, xs, h1, h2⟩ => ⟨p, z, xs, e _ _ h1, h2.mono e m⟩
theorem evn_tupA (m : ∀ Φ ∈ Φs, Mono Φ) (h : EvGs tr σ H (AtT Φs)) (hn : Φs.length ≤ 100000) : EvN (tTup tr) σ H (TupA Φs) :=
  evn_tup h (fun vs _ g => by rw [g.len]; exact hn) fun vs p _ _ _ g e2 _ hp => ⟨vs, hp, g.mono e2 m⟩
theorem evn_lstA (m : ∀ Φ ∈ Φs, Mono Φ) (h : EvGs tr σ H (AtT Φs)) (hn : Φs.length ≤ 100000) : EvN (tLst tr) σ H (LstA Φs) :=
  evn_lst h (fun vs _ g => by rw [g.len]; exact hn) fun vs p _ _ _ g e2 _ hp => ⟨vs, hp, g.mono e2 m⟩
theorem evg_tupA (m : ∀ Φ ∈ Φs, Mono Φ) (h : EvGs tr σ H (AtT Φs)) (hn : Φs.length ≤ 100000) : EvG (tTup tr) σ H (TupT Φs) := (evn_tupA m h hn).g fun p _ _ _ _ _ f => ⟨p, rfl, f⟩
theorem evg_lstA (m : ∀ Φ ∈ Φs, Mono Φ) (h : EvGs tr σ H (AtT Φs)) (hn : Φs.length ≤ 100000) : EvG (tLst tr) σ H (LstT Φs) := (evn_lstA m h hn).g fun p _ _ _ _ _ f => ⟨p, rfl, f⟩
end
theorem NodeIn.mono {K : PySem.W.Frag} {b : Bool} : Mono (fun v H => NodeIn K H v b) := fun v H H' e h => by
  cases h with
  | other p hk => exact .other (p.gx e) hk
  | size h hl => exact .size (e _ _ h) hl
  | pair h ps pn sm => exact .pair (e _ _ h) (ps.gx e) (pn.gx e) sm
/-- is this value that? -/
abbrev Eq1 (x : V) : Ty := fun v _ => v = x
theorem Eq1.mono {x : V} : Mono (Eq1 x) := fun _ _ _ _ h => h
theorem Eq1.firm {x : V} : Firm (Eq1 x) := fun _ _ _ _ h => h
theorem evg_e {σ : L2.St} {H : Hp} {x : V} : EvG (tC x) σ H (Eq1 x) := evg_c fun _ _ => rfl
theorem evg_ve {σ : L2.St} {H : Hp} {i : Nat} {x : V} (h : σ[i]? = some (some x)) : EvG (tVar i) σ H (Eq1 x) := evg_var h fun _ _ => rfl
/-! ### data -/
mutual
theorem Dp.gx {K : PySem.W.Frag} {H H' : Hp} (e : Gx H H') : ∀ {v : V} {d : PyData}, Dp K H v d → Dp K H' v d
  | _, _, .non => .non
  | _, _, .bl b => .bl b
  | _, _, .int i => .int i
  | _, _, .str x => .str x
  | _, _, .lst h hs => .lst (e.l h) (DpAll.gx e hs)
  | _, _, .tup h hs => .tup (e.t h) (DpAll.gx e hs)
theorem DpAll.gx {K : PySem.W.Frag} {H H' : Hp} (e : Gx H H') : ∀ {vs : List V} {ds : List PyData}, DpAll K H vs ds → DpAll K H' vs ds
  | _, _, .nil => .nil
  | _, _, .cons h hs => .cons (Dp.gx e h) (DpAll.gx e hs)
end

section
variable {K : PySem.W.Frag} {σ : L2.St} {H : Hp} {ta : TE} {tr : TA} {Φ : Ty} {Φs : List Ty} {n : Nat}
/-- the same, over one heap -/
theorem evgs_m (m : Mono Φ) (h : EvG ta σ H Φ) (k : EvGs tr σ H (AllT Φ n)) : EvGs (tCons ta tr) σ H (AllT Φ (n + 1)) := evgs_more m h fun _ e H2 e2 Q q => k H2 (e.trans e2) Q q
theorem ats_c (m : Mono Φ) (h : EvG ta σ H Φ) (k : EvGs tr σ H (AtT Φs)) : EvGs (tCons ta tr) σ H (AtT (Φ :: Φs)) := ats_cons m h fun _ e H2 e2 Q q => k H2 (e.trans e2) Q q
end

/-! ### data, evaluated -/
def DatT (K : PySem.W.Frag) (d : PyData) : Ty := fun v H => Dp K H v d
def DatsT (K : PySem.W.Frag) (ds : List PyData) : List V → Hp → Prop := fun vs H => DpAll K H vs ds
theorem DatT.mono {K : PySem.W.Frag} {d : PyData} : Mono (DatT K d) := fun _ _ _ e h => Dp.gx e h
theorem DpAll.len {K : PySem.W.Frag} {H : Hp} : ∀ {vs : List V} {ds : List PyData}, DpAll K H vs ds → vs.length = ds.length
  | _, _, .nil => rfl
  | _, _, .cons _ hs => by rw [List.length_cons, List.length_cons, DpAll.len hs]
section
variable {K : PySem.W.Frag} {σ : L2.St} {H : Hp} {ta tb : TE} {tr : TA} {d e : PyData} {ds : List PyData}
theorem dats_nil : EvGs tNil σ H (DatsT K []) := evgs_nil fun _ _ => .nil
theorem dats_c (h : EvG ta σ H (DatT K d)) (k : EvGs tr σ H (DatsT K ds)) : EvGs (tCons ta tr) σ H (DatsT K (d :: ds)) :=
  evgs_cons h fun _ _ e f => fun H2 e2 Q q => k H2 (e.trans e2) Q fun vs H3 e3 g => q vs H3 e3 (.cons (Dp.gx (e2.trans e3) f) g)
theorem evg_dlst (h : EvGs tr σ H (DatsT K ds)) (hn : ds.length ≤ 100000) : EvG (tLst tr) σ H (DatT K (.list ds)) :=
  evg_lst h (fun vs _ g => by rw [DpAll.len g]; exact hn) fun vs p H1 H2 g e2 _ hp => .lst (SqL.of hp) (DpAll.gx e2 g)
theorem evg_dtup (h : EvGs tr σ H (DatsT K ds)) (hn : ds.length ≤ 100000) : EvG (tTup tr) σ H (DatT K (.tuple ds)) :=
  evg_tup h (fun vs _ g => by rw [DpAll.len g]; exact hn) fun vs p H1 H2 g e2 _ hp => .tup (SqT.of hp) (DpAll.gx e2 g)
theorem dat_int {i : Int} : EvG (tC (.int i)) σ H (DatT K (.int i)) := evg_c fun _ _ => .int i
theorem dat_bl {i : Bool} : EvG (tC (.bl i)) σ H (DatT K (.bool i)) := evg_c fun _ _ => .bl i
theorem dat_str {i : Str} : EvG (tC (.str i)) σ H (DatT K (.str i)) := evg_c fun _ _ => .str i
theorem dat_non : EvG (tC .non) σ H (DatT K .none) := evg_c fun _ _ => .non
theorem dat_var {i : Nat} {v : V} (h : σ[i]? = some (some v)) (hd : Dp K H v d) : EvG (tVar i) σ H (DatT K d) := evg_var h fun _ e => Dp.gx e hd
theorem dat_of_bl {b : Bool} (h : EvG ta σ H (BlE b)) : EvG ta σ H (DatT K (.bool b)) := h.imp fun v _ _ ⟨c, z, hc⟩ => by
  have hc : c = b := hc
  rw [z, hc]
  exact .bl b
theorem evg_eqD (ha : EvG ta σ H (DatT K d)) (hb : EvG tb σ H (DatT K e)) (sd : SeqAt.shaped d = true) (se : SeqAt.shaped e = true) : EvG (tOp (rEqD K) ta tb) σ H (BlE (PyData.eqv d e)) := fun H1 e1 Q q =>
  ha H1 e1 _ fun v H2 e2 f => hb H2 (e1.trans e2) _ fun v2 H3 e3 g => ⟨d, e, Dp.gx e3 f, g, sd, se, q _ H3 (e2.trans e3) ⟨_, rfl, rfl⟩⟩
theorem evg_neD (ha : EvG ta σ H (DatT K d)) (hb : EvG tb σ H (DatT K e)) (sd : SeqAt.shaped d = true) (se : SeqAt.shaped e = true) : EvG (tOp (rNeD K) ta tb) σ H (BlE (!PyData.eqv d e)) := fun H1 e1 Q q =>
  ha H1 e1 _ fun v H2 e2 f => hb H2 (e1.trans e2) _ fun v2 H3 e3 g => ⟨d, e, Dp.gx e3 f, g, sd, se, q _ H3 (e2.trans e3) ⟨_, rfl, rfl⟩⟩
end
/-- a list of truth values as data -/
theorem dp_bls {K : PySem.W.Frag} {H : Hp} : ∀ bs : List Bool, DpAll K H (bs.map V.bl) (bs.map PyData.bool)
  | [] => .nil
  | b :: bs => .cons (.bl b) (dp_bls bs)
/-- [f(x) for x in ..] with known truth values -/
theorem bls_eq {ys : List V} {bs : List Bool} (hl : ys.length = bs.length) (h : ∀ (i : Nat) (y : V), ys[i]? = some y → ∃ b, bs[i]? = some b ∧ y = V.bl b) : ys = bs.map V.bl := by
  apply List.ext_getElem?
  intro i
  rw [List.getElem?_map]
  cases q : ys[i]? with
  | some y =>
    obtain ⟨b, hb, rfl⟩ := h i y q
    rw [hb]
    rfl
  | none =>
    have : ys.length ≤ i := List.getElem?_eq_none_iff.mp q
    rw [List.getElem?_eq_none (by omega)]
    rfl

/-! ### list(text) -/
theorem vals_of : ∀ {xs : List V} {us : List Value}, xs.length = us.length → (∀ (i : Nat) (x : V) (u : Value), xs[i]? = some x → us[i]? = some u → RelV x u) → Vals xs us
  | [], [], _, _ => .nil
  | x :: xs, u :: us, hl, h => .cons (h 0 x u rfl rfl) (vals_of (by simpa using hl) fun i y w h1 h2 => h (i + 1) y w (by simpa using h1) (by simpa using h2))
  | [], _ :: _, hl, _ => by simp at hl
  | _ :: _, [], hl, _ => by simp at hl
def signsV (z : Str) : List V := z.cps.toList.map fun c => V.str ⟨#[c]⟩
theorem call_listS {X : Cx} (hc : X.calm = true) : CallR X (.type "list") (fun xs H Q => ∃ z, xs = [.str z] ∧ z.length ≤ sizeLine ∧ ∀ l, H l = none → Q (.ref l) (upd H l (.lst (signsV z)))) := by
  intro pins s σ H xs us Q I r h
  obtain ⟨z, rfl, hz, q⟩ := h
  obtain ⟨u, rfl, rx⟩ := vals1 r
  obtain ⟨t, rfl⟩ := rx
  refine call_list_str (I.ok.hd hc) z t (hn := hz) fun h' tk acc' c' hk hS' hacc => ?_
  have hf : H s.heap.objs.size = none := I.hok.fresh (Nat.le_refl _)
  refine ⟨.ref s.heap.objs.size, _, I.laid (t' := tk) hk (Nat.le_refl _) (show ObjOk X.prog X.w _ h' _ (.lst (signsV z)) from ⟨by unfold signsV; rw [List.length_map, Array.length_toList]; exact hz, acc'.toList, c', vals_of ?_ ?_, by simpa using hS'⟩), rfl, q _ hf⟩
  · unfold signsV
    rw [List.length_map]
    have := hacc.1
    simp
    omega
  · intro i x u h1 h2
    obtain ⟨c, w, hc, rfl⟩ := hacc.2 i u (by simpa using h2)
    unfold signsV at h1
    rw [List.getElem?_map] at h1
    have e : z.cps.toList[i]? = z.cps[i]? := by simp
    rw [e, hc] at h1
    cases h1
    exact ⟨w, rfl⟩

/-! ### drawing some of a list -/
theorem erase_perm : ∀ {ls : List V} {k : Nat} {y : V}, ls[k]? = some y → (y :: ls.eraseIdx k).Perm ls
  | [], _, _, h => by simp at h
  | a :: ls, 0, y, h => by
    simp at h
    subst h
    exact List.Perm.refl _
  | a :: ls, k + 1, y, h => by
    have ih := erase_perm (ls := ls) (k := k) (y := y) (by simpa using h)
    exact (List.Perm.swap a y _).trans (ih.cons a)
def spSome (K : PySem.W.Frag) : Sp := fun vs H Q _ => ∃ (d l : Addr) (xs : List V) (n : Int), vs = [.ref d, .ref l, .int n] ∧ H d = some (diceO d) ∧ SqL K H l xs ∧ 0 ≤ n ∧ xs.length ≤ 1000 ∧
  ∀ p ys rest H', Gx H H' → H p = none → H' p = some (.lst ys) → (ys.length : Int) = (if (xs.length : Int) < n then (xs.length : Int) else n) → (ys ++ rest).Perm xs → Q (.ref p) H'

/-! ### the rules that speak of the written part, with that part told (for comprehensions) -/
section
variable {X : Cx} {K : PySem.W.Frag}
theorem kix_list (hK : X.K = K := by rfl) : IxR X (rIxL K) := by subst hK; exact ix_list
theorem kix_tup (hK : X.K = K := by rfl) : IxR X (rIxT K) := by subst hK; exact ix_tup
theorem kop_eqD (hu : X.A.units + 64 < cLine) (hK : X.K = K := by rfl) : OpR X (compareOp .Eq) (rEqD K) := by subst hK; exact op_eqD hu
theorem kop_neD (hu : X.A.units + 64 < cLine) (hK : X.K = K := by rfl) : OpR X (compareOp .NotEq) (rNeD K) := by subst hK; exact op_neD hu
theorem kop_in_seq (hK : X.K = K := by rfl) : OpR X (compareOp .In) (rIn K false) := by subst hK; exact op_in_seq
theorem kop_notIn_seq (hK : X.K = K := by rfl) : OpR X (compareOp .NotIn) (rIn K true) := by subst hK; exact op_notIn_seq
def rLenK (K : PySem.W.Frag) : List V → Hp → VK → Prop := fun xs H Q => ∃ p ys, xs = [.ref p] ∧ (SqL K H p ys ∨ SqT K H p ys) ∧ Q (.int ys.length) H
def rListK (K : PySem.W.Frag) : List V → Hp → VK → Prop := fun xs H Q => ∃ p ys, xs = [.ref p] ∧ (SqL K H p ys ∨ SqT K H p ys) ∧ ∀ l, H l = none → Q (.ref l) (upd H l (.lst ys))
def rTupK (K : PySem.W.Frag) : List V → Hp → VK → Prop := fun xs H Q => ∃ p ys, xs = [.ref p] ∧ ((SqL K H p ys ∧ ∀ l, H l = none → Q (.ref l) (upd H l (.tup ys))) ∨ (SqT K H p ys ∧ Q (.ref p) H))
theorem kcall_len (hK : X.K = K := by rfl) : CallR X (.builtin "len") (rLenK K) := by subst hK; exact call_len_seq
theorem kcall_list (hK : X.K = K := by rfl) : CallR X (.type "list") (rListK K) := by subst hK; exact call_list_of
theorem kcall_tuple (hK : X.K = K := by rfl) : CallR X (.type "tuple") (rTupK K) := by subst hK; exact call_tuple_of
theorem kcall_isi (hK : X.K = K := by rfl) : CallR X (.builtin "isinstance") (rIsi K) := by subst hK; exact call_isi
theorem kcr_all (hc : X.calm = true) (hK : X.K = K := by rfl) : CallR X (.builtin "all") (rAll K) := by subst hK; exact cr_all hc
theorem kcr_any (hc : X.calm = true) (hK : X.K = K := by rfl) : CallR X (.builtin "any") (rAny K) := by subst hK; exact cr_any hc
theorem ksl_list (hK : X.K = K := by rfl) : SlR X (rSlL K) := by subst hK; exact sl_list
variable {tg l : Expr} {tl : TE}
theorem kpi_list (hl : PE X l tl) (hK : X.K = K := by rfl) : PI X tg l (iList K tl) := by subst hK; exact pi_list hl
theorem kpi_tup (hl : PE X l tl) (hK : X.K = K := by rfl) : PI X tg l (iTup K tl) := by subst hK; exact pi_tup hl
theorem kpe_fld {e : Expr} {ta : TE} {f : Str} {pos : Pos} (he : PE X e ta) (hb : attributeBase e f X.env (eval e X.env) = eval e X.env) (hK : X.K = K := by rfl) : PE X (.Attribute e f pos) (tFld K ta f) := by subst hK; exact pe_fld he hb
section
variable {o e : Expr} {es : List Expr} {to te : TE} {t : TA} {name : Str} {apos cpos pos : Pos} {T id : String} {r : V → List V → Hp → VK → Prop}
theorem kpe_bm (pa : PlainAttrs T) (slot : Slot T name id) (hty : typeOf (.builtin id) = pure (.type "method_descriptor")) (hm : MtR X id r) (ho : PE X o to) (ha : PA X (e :: es) t) (hK : X.K = K := by rfl)
    (hbase : attributeBase o name X.env (eval o X.env) = eval o X.env := by rfl)
    (hfew : ((backTo cpos (starEach (e :: es) X.env)).all (fun x => !x.1) && (backToKw cpos (keywordEach [] X.env)).all (fun x => x.1.isSome)
      && decide ((e :: es).length + ([] : List Keyword).length + (if ([] : List Keyword).isEmpty then 0 else 1) < 30)) = true := by rfl)
    (hline : (apos.endLine == cpos.line) = true := by rfl) (hs : starEach (e :: es) X.env = (false, eval e X.env) :: starEach es X.env := by rfl) (hplain : (backTo cpos (starEach es X.env)).any (·.1) = false := by rfl) :
    PE X (.Call (.Attribute o name apos) (e :: es) [] cpos) (tBM K T r to t) := by
  subst hK
  exact pe_bm pa slot hty hm ho ha hbase hfew hline hs hplain
theorem kpe_bm0 (pa : PlainAttrs T) (slot : Slot T name id) (hty : typeOf (.builtin id) = pure (.type "method_descriptor")) (hm : MtR X id r) (ho : PE X o to) (hK : X.K = K := by rfl)
    (hbase : attributeBase o name X.env (eval o X.env) = eval o X.env := by rfl) (hline : (apos.endLine == cpos.line) = true := by rfl) : PE X (.Call (.Attribute o name apos) [] [] cpos) (tBM0 K T r to) := by
  subst hK
  exact pe_bm0 pa slot hty hm ho hbase hline
def rJoinK (K : PySem.W.Frag) : V → List V → Hp → VK → Prop := fun x xs H Q => ∃ a p, ∃ ys : List Str, x = .str a ∧ xs = [.ref p] ∧ (SqL K H p (ys.map V.str) ∨ SqT K H p (ys.map V.str)) ∧
      (ys.map (·.length)).sum + ys.length * a.length ≤ 16777216 ∧ Q (.str (Txt.join a ys)) H
theorem kpe_join (ho : PE X o to) (he : PE X e te) (hK : X.K = K := by rfl) (hs : starEach [e] X.env = [(false, eval e X.env)] := by rfl) (hbase : attributeBase o "join" X.env (eval o X.env) = eval o X.env := by rfl) (hline : (apos.endLine == pos.line) = true := by rfl) :
    PE X (.Call (.Attribute o "join" apos) [e] [] pos) (tM1 (rJoinK K) to te) := by
  subst hK
  exact pe_join ho he hs hbase hline
end
end
theorem yes_ite {σ : L2.St} {H : Hp} {A B : Hp → Prop} (h : A H) : tYes σ H (fun b H => if b = true then A H else B H) := by
  show if true = true then A H else B H
  rw [if_pos rfl]
  exact h

theorem LcR.nil_or {B : Nat → Bool → Prop} {R : Nat → Ty} {H : Hp} {n : Nat} {ys : List V} (h : LcR B R H n ys) : (ys = [] ∧ ∀ i, i < n → B i false) ∨ (ys ≠ [] ∧ ∃ i, i < n ∧ B i true) := by
  induction h with
  | nil => exact .inl ⟨rfl, fun i hi => by omega⟩
  | @keep n ys y _ b _ ih => exact .inr ⟨by simp, n, by omega, b⟩
  | @skip n ys _ b ih =>
    rcases ih with ⟨h1, h2⟩ | ⟨h1, i, h2, h3⟩
    · refine .inl ⟨h1, fun i hi => ?_⟩
      by_cases q : i = n
      · subst q
        exact b
      · exact h2 i (by omega)
    · exact .inr ⟨h1, i, by omega, h3⟩
theorem LcR.each {B : Nat → Bool → Prop} {R : Nat → Ty} {H : Hp} {n : Nat} {ys : List V} (h : LcR B R H n ys) {y : V} (hy : y ∈ ys) : ∃ i, i < n ∧ B i true ∧ R i y H := by
  induction h with
  | nil => cases hy
  | @keep n ys z _ b r ih =>
    rcases List.mem_append.mp hy with hy | hy
    · obtain ⟨i, h1, h2⟩ := ih hy
      exact ⟨i, by omega, h2⟩
    · obtain rfl := List.mem_singleton.mp hy
      exact ⟨n, by omega, b, r⟩
  | skip _ _ ih =>
    obtain ⟨i, h1, h2⟩ := ih hy
    exact ⟨i, by omega, h2⟩
/-- flat values as data -/
def flatD : V → PyData
  | .bl b => .bool b
  | .int i => .int i
  | .str z => .str z
  | _ => .none
def okV : V → Bool
  | .non => true
  | .bl _ => true
  | .int _ => true
  | .str z => PyData.strOk z
  | _ => false
theorem flat_dp {K : PySem.W.Frag} {H : Hp} : ∀ {ys : List V}, (∀ y ∈ ys, okV y = true) → DpAll K H ys (ys.map flatD)
  | [], _ => .nil
  | y :: ys, h => .cons (by
      have := h y (List.mem_cons_self ..)
      cases y with
      | non => exact .non
      | bl b => exact .bl b
      | int i => exact .int i
      | str z => exact .str z
      | _ => cases this) (flat_dp fun z hz => h z (List.mem_cons_of_mem _ hz))
theorem flat_lay : ∀ {ys : List V}, (∀ y ∈ ys, okV y = true) → PyData.canLayAll0 (ys.map flatD) = true ∧ PyData.depthAll (ys.map flatD) = 0
  | [], _ => ⟨by simp [PyData.canLayAll0], by simp [PyData.depthAll]⟩
  | y :: ys, h => by
    obtain ⟨h1, h2⟩ := flat_lay (ys := ys) fun z hz => h z (List.mem_cons_of_mem _ hz)
    have := h y (List.mem_cons_self ..)
    rw [List.map_cons]
    cases y with
    | non => exact ⟨by simp [flatD, PyData.canLayAll0, PyData.canLay0, h1], by simp [flatD, PyData.depthAll, PyData.depth, h2]⟩
    | bl b => exact ⟨by simp [flatD, PyData.canLayAll0, PyData.canLay0, h1], by simp [flatD, PyData.depthAll, PyData.depth, h2]⟩
    | int i => exact ⟨by simp [flatD, PyData.canLayAll0, PyData.canLay0, h1], by simp [flatD, PyData.depthAll, PyData.depth, h2]⟩
    | str z => exact ⟨by simp [flatD, PyData.canLayAll0, PyData.canLay0, h1]; exact this, by simp [flatD, PyData.depthAll, PyData.depth, h2]⟩
    | _ => cases this
theorem flat_shaped {ys : List V} (h : ∀ y ∈ ys, okV y = true) : SeqAt.shaped (.list (ys.map flatD)) = true ∧ SeqAt.shaped (.tuple (ys.map flatD)) = true := by
  obtain ⟨h1, h2⟩ := flat_lay h
  unfold SeqAt.shaped
  simp [PyData.canLay0, PyData.depth, h1, h2]

/-! ### texts; comprehensions over a drawn range; some of a list -/
def StrT (P : Str → Prop) : Ty := fun v _ => ∃ z, v = .str z ∧ P z
theorem StrT.firm {P : Str → Prop} : Firm (StrT P) := fun _ _ _ _ h => h
section
variable {K : PySem.W.Frag} {σ : L2.St} {H : Hp} {ta tb tc te : TE} {tr : TA} {Φ : Ty}
theorem evg_adds {P R : Str → Prop} (ha : EvG ta σ H (StrT P)) (hb : EvG tb σ H (StrT R)) (hl : ∀ x y, P x → R y → x.length + y.length ≤ 100000) (m : ∀ x y, P x → R y → ∀ H1, Gx H H1 → Φ (.str (x ++ y)) H1) :
    EvG (tOp (fun x y H Q => ∃ i j, x = .str i ∧ y = .str j ∧ i.length + j.length ≤ sizeLine ∧ Q (.str (i ++ j)) H) ta tb) σ H Φ := fun H1 e Q q =>
  ha H1 e _ fun _ H2 e2 ⟨i, z, p⟩ => hb H2 (e.trans e2) _ fun _ H3 e3 ⟨j, z2, r⟩ => ⟨i, j, z, z2, Evl.sz_of (hl i j p r), q _ H3 (e2.trans e3) (m i j p r H3 ((e.trans e2).trans e3))⟩
theorem evg_listS {z : Str} (h : EvG ta σ H (Eq1 (.str z))) (hz : z.length ≤ 100000) (m : ∀ c ∈ z.cps.toList, ∀ H1, Φ (.str ⟨#[c]⟩) H1) :
    EvG (tCB (fun xs H Q => ∃ z, xs = [.str z] ∧ z.length ≤ sizeLine ∧ ∀ l, H l = none → Q (.ref l) (upd H l (.lst (signsV z)))) (tCons ta tNil)) σ H (LofT Φ z.cps.size) := fun H1 e Q q =>
  h H1 e _ fun v H2 e2 hv => by
    have hv : v = .str z := hv
    subst hv
    refine ⟨z, rfl, Evl.sz_of hz, fun l hl => q _ _ (e2.trans (Gx.new hl)) ⟨l, rfl, _, upd_same, by unfold signsV; rw [List.length_map, Array.length_toList], fun x hx => ?_⟩⟩
    obtain ⟨c, hc, rfl⟩ := List.mem_map.mp hx
    exact m c hc _
theorem evn_lcR {j : Nat} {P : Nat → Prop} {R : Ty} (h : EvGs tr σ H (fun vs _ => ∃ n : Nat, vs = [.int n] ∧ P n)) (hP : ∀ n, P n → n ≤ 1000) (he : ∀ x H1, Gx H H1 → EvG te ((wipe σ [j]).set j (some x)) H1 R) (m : Firm R) :
    EvN (tLc (iRng1 tr) (gName j) tYes te [j]) σ H (fun p H' => ∃ ys, H' p = some (.lst ys) ∧ P ys.length ∧ ∀ y ∈ ys, R y H') := by
  intro H1 e Q q
  refine h H1 e _ fun vs H2 e2 ⟨n, z, pn⟩ => ⟨n, z, by omega, by have := hP n pn; omega, ?_⟩
  have hn : (n : Int).toNat = n := by omega
  rw [hn]
  show tLc (fun _ H R => R (Itr 0 n) H) (gName j) tYes te [j] σ H2 Q
  refine EvN.use (evn_lcA (n := n) (Y := fun i x _ => x = .int (0 + (i : Nat))) (R := fun _ => R) ?_ (by have := hP n pn; omega) (fun _ _ _ _ _ h => h) (fun i x H3 _ e3 _ => he x H3 ((e.trans e2).trans e3)) fun _ => m) ?_
  · intro H3 e3 R q
    exact q (Itr 0 n) H3 (fun _ => True) _ (Gx.refl _) walk_range (fun _ _ => trivial) fun i H4 x H5 _ _ ⟨z4, hx⟩ => by subst z4; exact ⟨Gx.refl _, hx⟩
  · rintro p H3 e3 n3 ⟨ys, hp, hl, hy⟩
    refine q p H3 (e2.trans e3) (e2.free n3) ⟨ys, hp, by rw [hl]; exact pn, fun y hy' => ?_⟩
    obtain ⟨i, hi⟩ := List.getElem?_of_mem hy'
    exact hy i y hi
theorem evg_some {n : Nat} {k : Int} (m : Mono Φ) (hd : EvG ta σ H DiceT) (hl : EvG tb σ H (LofT Φ n)) (hk : EvG tc σ H (IntT fun i => i = k)) (h0 : 0 ≤ k ∧ n ≤ 1000) :
    EvG (tCall (spSome K) [] E0 (tCons ta (tCons tb (tCons tc tNil)))) σ H (LofT Φ (if n < k.toNat then n else k.toNat)) := fun H1 e Q q =>
  hd H1 e _ fun _ H2 e2 ⟨d, z, hd⟩ => hl H2 (e.trans e2) _ fun _ H3 e3 ⟨l, z2, xs, h1, h2⟩ => hk H3 ((e.trans e2).trans e3) _ fun _ H4 e4 ⟨i, z3, hi⟩ => by
    have hi : i = k := hi
    subst z
    subst z2
    subst z3
    subst hi
    refine ⟨d, l, xs, i, rfl, (e3.trans e4) _ _ hd, SqL.of (e4 _ _ h1), h0.1, by rw [h2.1]; exact h0.2, fun p ys rest H5 e5 _ hp hyl pm => ?_⟩
    refine q _ H5 (((e2.trans e3).trans e4).trans e5) ⟨p, rfl, ys, hp, ?_, fun y hy => m _ _ _ (e4.trans e5) (h2.2 y (pm.mem_iff.mp (List.mem_append_left _ hy)))⟩
    rw [h2.1] at hyl
    split at hyl <;> split <;> omega
end

/-- some data -/
def DatP (K : PySem.W.Frag) (P : PyData → Prop) : Ty := fun v H => ∃ d, Dp K H v d ∧ SeqAt.shaped d = true ∧ P d
section
variable {K : PySem.W.Frag} {σ : L2.St} {H : Hp} {ta tb : TE} {P R : PyData → Prop}
theorem DatP.mono : Mono (DatP K P) := fun _ _ _ e ⟨d, h1, h2, h3⟩ => ⟨d, Dp.gx e h1, h2, h3⟩
theorem evg_eqP (ha : EvG ta σ H (DatP K P)) (hb : EvG tb σ H (DatP K R)) : EvG (tOp (rEqD K) ta tb) σ H (BlT fun b => ∃ d e, P d ∧ R e ∧ b = PyData.eqv d e) := fun H1 e1 Q q =>
  ha H1 e1 _ fun v H2 e2 ⟨d, f, sd, pd⟩ => hb H2 (e1.trans e2) _ fun v2 H3 e3 ⟨e, g, se, re⟩ => ⟨d, e, Dp.gx e3 f, g, sd, se, q _ H3 (e2.trans e3) ⟨_, rfl, d, e, pd, re, rfl⟩⟩
theorem evg_neP (ha : EvG ta σ H (DatP K P)) (hb : EvG tb σ H (DatP K R)) : EvG (tOp (rNeD K) ta tb) σ H (BlT fun b => ∃ d e, P d ∧ R e ∧ b = !PyData.eqv d e) := fun H1 e1 Q q =>
  ha H1 e1 _ fun v H2 e2 ⟨d, f, sd, pd⟩ => hb H2 (e1.trans e2) _ fun v2 H3 e3 ⟨e, g, se, re⟩ => ⟨d, e, Dp.gx e3 f, g, sd, se, q _ H3 (e2.trans e3) ⟨_, rfl, d, e, pd, re, rfl⟩⟩
theorem dat_p {d : PyData} (h : EvG ta σ H (DatT K d)) (hs : SeqAt.shaped d = true) : EvG ta σ H (DatP K fun e => e = d) := h.imp fun v H2 _ f => ⟨d, f, hs, rfl⟩
end

theorem strs_of {P : Str → Prop} {H : Hp} : ∀ {ys : List V}, (∀ y ∈ ys, StrT P y H) → ∃ zs : List Str, ys = zs.map V.str ∧ ∀ z ∈ zs, P z
  | [], _ => ⟨[], rfl, fun z h => by cases h⟩
  | y :: ys, h => by
    obtain ⟨zs, h1, h2⟩ := strs_of (ys := ys) fun z hz => h z (List.mem_cons_of_mem _ hz)
    obtain ⟨z, rfl, hz⟩ := h y (List.mem_cons_self ..)
    exact ⟨z :: zs, by rw [h1]; rfl, fun w hw => by
      rcases List.mem_cons.mp hw with rfl | hw
      · exact hz
      · exact h2 w hw⟩
theorem sum_le {n : Nat} : ∀ {zs : List Str}, (∀ z ∈ zs, z.length ≤ n) → (zs.map (·.length)).sum ≤ n * zs.length
  | [], _ => by simp
  | z :: zs, h => by
    have h1 := sum_le (zs := zs) fun w hw => h w (List.mem_cons_of_mem _ hw)
    have h2 := h z (List.mem_cons_self ..)
    rw [List.map_cons, List.sum_cons, List.length_cons, Nat.mul_add]
    omega
/-- sep.join(new list of texts) -/
theorem evg_join {K : PySem.W.Frag} {σ : L2.St} {H : Hp} {te : TE} {a : Str} {P : Str → Prop} {N : Nat → Prop} {Φ : Ty} {n m : Nat} (h : EvN te σ H (fun p H' => ∃ ys, H' p = some (.lst ys) ∧ N ys.length ∧ ∀ y ∈ ys, StrT P y H')) (hN : ∀ k, N k → k ≤ n) (hP : ∀ z, P z → z.length ≤ m) (hs : m * n + n * a.length ≤ 16777216)
    (k : ∀ zs : List Str, N zs.length → (∀ z ∈ zs, P z) → ∀ H1, Φ (.str (Txt.join a zs)) H1) : EvG (tM1 (rJoinK K) (tC (.str a)) te) σ H Φ := fun H1 e Q q =>
  ⟨⟨a, rfl⟩, h H1 e _ fun p H2 e2 _ ⟨ys, hp, hn, hy⟩ => by
    obtain ⟨zs, rfl, hz⟩ := strs_of hy
    rw [List.length_map] at hn
    have h1 := sum_le (n := m) (zs := zs) fun z hz' => hP z (hz z hz')
    have h2 := hN _ hn
    have h3 : m * zs.length ≤ m * n := Nat.mul_le_mul_left m h2
    have h4 : zs.length * a.length ≤ n * a.length := Nat.mul_le_mul_right _ h2
    exact ⟨a, p, zs, rfl, rfl, Or.inl (SqL.of hp), by omega, q _ H2 e2 (k zs hn hz H2)⟩⟩

/-! ### more rules with the written part told; slices, stars, stores -/
section
variable {X : Cx} {K : PySem.W.Frag}
theorem kpe_revL {e : Expr} {te : TE} {k : Nat} {p1 p2 p3 pos : Pos} (he : PE X e te) (hK : X.K = K := by rfl) : PE X (.Subscript e (.Slice none none (some (.UnaryOp .USub (.Constant (.int 1) k p1) p2)) p3) pos) (tRevL K te) := by
  subst hK
  exact pe_revL he
theorem kpa_star {e : Expr} {es : List Expr} {te : TE} {t : TA} {p : Pos} (he : PE X e te) (hr : PA X es t) (hK : X.K = K := by rfl) (hs : starEach (.Starred e p :: es) X.env = (true, eval e X.env) :: starEach es X.env := by rfl) : PA X (.Starred e p :: es) (StX.tStar K te t) := by
  subst hK
  exact StX.pa_star he hr hs
theorem ksl_tupA (hK : X.K = K := by rfl) : SlR X (rSlA K) := by subst hK; exact sl_tupA
end
theorem Dp.ints {K : PySem.W.Frag} {H : Hp} : ∀ (l : List Nat), DpAll K H (l.map fun (n : Nat) => V.int (n : Int)) (l.map fun (n : Nat) => PyData.int (n : Int))
  | [] => .nil
  | n :: l => .cons (.int _) (Dp.ints l)
abbrev intsV (l : List Nat) : List V := l.map fun (n : Nat) => V.int (n : Int)
section
variable {K : PySem.W.Frag} {σ : L2.St} {H : Hp} {ta tb tc te tl : TE} {tr : TA} {tz : TS} {D : Ends} {Φ : Ty}
theorem hsix {n k : Nat} (h : k ≤ n) (d : Nat) : HT.sIx n d (some (k : Int)) = k := by
  rw [HT.sIx_nat]
  omega
theorem cut_drop {xs : List V} {k : Nat} (h : k ≤ xs.length) : cutV xs (some (k : Int)) none = xs.drop k := by
  unfold cutV
  rw [hsix h, HT.sIx_none, List.take_of_length_le]
  rw [List.length_drop]
  omega
theorem cut_take {xs : List V} {k : Nat} (h : k ≤ xs.length) : cutV xs none (some (k : Int)) = xs.take k := by
  unfold cutV
  rw [hsix h, HT.sIx_none, Nat.sub_zero, List.drop_zero]
theorem cut_mid {xs : List V} {k m : Nat} (h : k ≤ xs.length) (h2 : m ≤ xs.length) : cutV xs (some (k : Int)) (some (m : Int)) = (xs.drop k).take (m - k) := by
  unfold cutV
  rw [hsix h, hsix h2]
/-- a list whose items are known -/
def LstK (K : PySem.W.Frag) (xs : List V) : Ty := fun v H => ∃ p, v = .ref p ∧ SqL K H p xs
def TupK (K : PySem.W.Frag) (xs : List V) : Ty := fun v H => ∃ p, v = .ref p ∧ SqT K H p xs
theorem LstK.mono {xs : List V} : Mono (LstK K xs) := fun _ _ _ e ⟨p, z, h⟩ => ⟨p, z, e.l h⟩
theorem TupK.mono {xs : List V} : Mono (TupK K xs) := fun _ _ _ e ⟨p, z, h⟩ => ⟨p, z, e.t h⟩
abbrev NewL (xs : List V) : Addr → Hp → Prop := fun p H => H p = some (.lst xs)
abbrev NewT (xs : List V) : Addr → Hp → Prop := fun p H => H p = some (.tup xs)
theorem newl_k {xs : List V} (h : EvN te σ H (NewL xs)) : EvG te σ H (LstK K xs) := h.g fun p _ _ _ _ _ f => ⟨p, rfl, SqL.of f⟩
theorem newt_k {xs : List V} (h : EvN te σ H (NewT xs)) : EvG te σ H (TupK K xs) := h.g fun p _ _ _ _ _ f => ⟨p, rfl, SqT.of f⟩
/-- xs[k:], xs[:k] of a list -/
theorem evn_drop {xs : List V} {k : Nat} (h : EvG tl σ H (LstK K xs)) (hk : EvG ta σ H (IntT fun i => i = (k : Int))) (hle : k ≤ xs.length) : EvN (tSl (rSlL K) tl (tPart ta) tNoPart) σ H (NewL (xs.drop k)) := fun H1 e Q q =>
  h H1 e _ fun v H2 e2 ⟨p, z, hp⟩ => hk H2 (e.trans e2) _ fun w H3 e3 ⟨i, z2, hi⟩ => ⟨i, z2, p, xs, z, e3.l hp, fun l hl => by
    have hi : i = (k : Int) := hi
    rw [hi, cut_drop hle]
    exact q l _ ((e2.trans e3).trans (Gx.new hl)) ((e2.trans e3).free hl) upd_same⟩
theorem evn_take {xs : List V} {k : Nat} (h : EvG tl σ H (LstK K xs)) (hk : EvG ta σ H (IntT fun i => i = (k : Int))) (hle : k ≤ xs.length) : EvN (tSl (rSlL K) tl tNoPart (tPart ta)) σ H (NewL (xs.take k)) := fun H1 e Q q =>
  h H1 e _ fun v H2 e2 ⟨p, z, hp⟩ => hk H2 (e.trans e2) _ fun w H3 e3 ⟨i, z2, hi⟩ => ⟨i, z2, p, xs, z, e3.l hp, fun l hl => by
    have hi : i = (k : Int) := hi
    rw [hi, cut_take hle]
    exact q l _ ((e2.trans e3).trans (Gx.new hl)) ((e2.trans e3).free hl) upd_same⟩
theorem evn_rev {xs : List V} (h : EvG tl σ H (LstK K xs)) : EvN (tRevL K tl) σ H (NewL xs.reverse) := fun H1 e Q q =>
  h H1 e _ fun v H2 e2 ⟨p, z, hp⟩ => ⟨p, xs, z, hp, fun l hl => q l _ (e2.trans (Gx.new hl)) (e2.free hl) upd_same⟩
theorem evn_tupleL {xs : List V} (h : EvG tl σ H (LstK K xs)) : EvN (tCB (rTupK K) (tCons tl tNil)) σ H (NewT xs) := fun H1 e Q q =>
  h H1 e _ fun v H2 e2 ⟨p, z, hp⟩ => ⟨p, xs, by rw [z], .inl ⟨hp, fun l hl => q l _ (e2.trans (Gx.new hl)) (e2.free hl) upd_same⟩⟩
theorem evg_len {xs : List V} (h : EvG tl σ H (fun v H => ∃ p, v = .ref p ∧ (SqL K H p xs ∨ SqT K H p xs))) : EvG (tCB (rLenK K) (tCons tl tNil)) σ H (IntT fun i => i = (xs.length : Int)) := fun H1 e Q q =>
  h H1 e _ fun v H2 e2 ⟨p, z, hp⟩ => ⟨p, xs, by rw [z], hp, q _ H2 e2 ⟨_, rfl, rfl⟩⟩
theorem evg_lenL {xs : List V} (h : EvG tl σ H (LstK K xs)) : EvG (tCB (rLenK K) (tCons tl tNil)) σ H (IntT fun i => i = (xs.length : Int)) := evg_len (h.imp fun v H _ ⟨p, z, hp⟩ => ⟨p, z, .inl hp⟩)
theorem evg_lenT {xs : List V} (h : EvG tl σ H (TupK K xs)) : EvG (tCB (rLenK K) (tCons tl tNil)) σ H (IntT fun i => i = (xs.length : Int)) := evg_len (h.imp fun v H _ ⟨p, z, hp⟩ => ⟨p, z, .inr hp⟩)
theorem evg_ixL {xs : List V} {k : Nat} {x : V} (h : EvG tl σ H (LstK K xs)) (hk : EvG ta σ H (IntT fun i => i = (k : Int))) (hx : xs[k]? = some x) : EvG (tOp (rIxL K) tl ta) σ H (Eq1 x) := fun H1 e Q q =>
  h H1 e _ fun v H2 e2 ⟨p, z, hp⟩ => hk H2 (e.trans e2) _ fun w H3 e3 ⟨i, z2, hi⟩ => ⟨p, xs, i, x, z, z2, e3.l hp, at_of hi hx, q _ H3 (e2.trans e3) rfl⟩
theorem evg_ixT {xs : List V} {k : Nat} {x : V} (h : EvG tl σ H (TupK K xs)) (hk : EvG ta σ H (IntT fun i => i = (k : Int))) (hx : xs[k]? = some x) : EvG (tOp (rIxT K) tl ta) σ H (Eq1 x) := fun H1 e Q q =>
  h H1 e _ fun v H2 e2 ⟨p, z, hp⟩ => hk H2 (e.trans e2) _ fun w H3 e3 ⟨i, z2, hi⟩ => ⟨p, xs, i, x, z, z2, e3.t hp, at_of hi hx, q _ H3 (e2.trans e3) rfl⟩
/-- a value that is known, as a tuple | a list -/
theorem eq_tup {xs : List V} {p : Addr} (h : EvG te σ H (Eq1 (.ref p))) (hp : SqT K H p xs) : EvG te σ H (TupK K xs) := h.imp fun v H2 e z => ⟨p, z, e.t hp⟩
theorem eq_lst {xs : List V} {p : Addr} (h : EvG te σ H (Eq1 (.ref p))) (hp : SqL K H p xs) : EvG te σ H (LstK K xs) := h.imp fun v H2 e z => ⟨p, z, e.l hp⟩
theorem evg_add1 {a b : Int} (ha : EvG ta σ H (IntT fun i => i = a)) (hb : EvG tb σ H (IntT fun i => i = b)) : EvG (tOp (rI0 fun i j => .int (i + j)) ta tb) σ H (IntT fun i => i = a + b) :=
  evg_I0 ha hb fun i j h1 h2 _ _ => ⟨_, rfl, by rw [h1, h2]⟩
theorem evg_sub1 {a b : Int} (ha : EvG ta σ H (IntT fun i => i = a)) (hb : EvG tb σ H (IntT fun i => i = b)) : EvG (tOp (rI0 fun i j => .int (i - j)) ta tb) σ H (IntT fun i => i = a - b) :=
  evg_I0 ha hb fun i j h1 h2 _ _ => ⟨_, rfl, by rw [h1, h2]⟩
theorem evg_neg1 {a : Int} (ha : EvG ta σ H (IntT fun i => i = a)) : EvG (tUn (rU fun i => .int (-i)) ta) σ H (IntT fun i => i = -a) :=
  evg_U ha fun i h1 _ _ => ⟨_, rfl, by rw [h1]⟩
theorem evg_cmp1 {f : Int → Int → Bool} {a b : Int} (ha : EvG ta σ H (IntT fun i => i = a)) (hb : EvG tb σ H (IntT fun i => i = b)) : EvG (tOp (rI0 fun i j => .bl (f i j)) ta tb) σ H (BlE (f a b)) :=
  evg_I0 ha hb fun i j h1 h2 _ _ => ⟨_, rfl, by rw [h1, h2]⟩
theorem int_e {i : Int} (h : EvG te σ H (Eq1 (.int i))) : EvG te σ H (IntT fun j => j = i) := h.imp fun _ _ _ z => ⟨i, z, rfl⟩
theorem e_int {i : Int} (h : EvG te σ H (IntT fun j => j = i)) : EvG te σ H (Eq1 (.int i)) := h.imp fun _ _ _ ⟨j, z, hj⟩ => by
  have hj : j = i := hj
  show _ = _
  rw [z, hj]
/-- xs[k] = v, a list of one's own -/
theorem g_put {l : Addr} {xs : List V} {k : Nat} {v : V} (h : EvG te σ H (Eq1 v)) (ho : EvG ta σ H (Eq1 (.ref l))) (hi : EvG tb σ H (IntT fun i => i = (k : Int))) (hl : H l = some (.lst xs)) (hk : k < xs.length)
    (z : ∀ H1, Gx H H1 → tz D σ (upd H1 l (.lst (xs.set k v)))) : tSeq (tAsg te (gSub ta tb rSetL)) tz D σ H :=
  h H (Gx.refl H) _ fun v1 H1 e1 z1 => ho H1 e1 _ fun v2 H2 e2 z2 => hi H2 (e1.trans e2) _ fun v3 H3 e3 ⟨i, z3, hi⟩ => by
    have z1 : v1 = v := z1
    have z2 : v2 = .ref l := z2
    have hi : i = (k : Int) := hi
    subst z1
    subst z2
    subst z3
    subst hi
    exact ⟨l, xs, _, k, rfl, rfl, ((e1.trans e2).trans e3) _ _ hl, Evl.ixN_nat hk, z H3 ((e1.trans e2).trans e3)⟩
end

section
variable {K : PySem.W.Frag} {σ : L2.St} {H : Hp} {ta tb tc te tl : TE} {tr : TA} {tz tu : TS} {D : Ends} {Φ : Ty} {tt : TT} {j : Nat}
/-- for x in range(n - 1, -1, -1) -/
theorem g_forD {n : Nat} (h : EvGs tr σ H (fun vs _ => vs = [.int ((n : Int) - 1), .int (-1), .int (-1)])) (hn : n ≤ 100000) (Pv : Nat → L2.St → Hp → Prop) (h0 : ∀ H1, Gx H H1 → Pv 0 σ H1)
    (hs : ∀ (i : Nat) σ' H', i < n → Pv i σ' H' → tu { D with nx := Pv (i + 1), ct := Pv (i + 1), bk := fun σ H => tz D σ H } (σ'.set j (some (.int ((n - 1 - i : Nat) : Int)))) H')
    (hd : ∀ σ' H', Pv n σ' H' → tz D σ' H') : tSeq (tFor (iRng3 tr) (gName j) tu) tz D σ H := h H (Gx.refl H) _ fun vs H1 e hv => by
  have hr : RgC ((n : Int) - 1) (-1) (-1) (((n : Int) - 1) - (-1)).toNat := RgC.neg (by omega) (by omega) (by omega) (by omega)
  have hn' : (((n : Int) - 1) - (-1)).toNat = n := by omega
  rw [hn'] at hr
  refine ⟨_, _, _, n, hv, hr, for_it walk_rangeC (D := { D with nx := tz D }) Pv (h0 H1 e) (fun _ _ _ _ _ => trivial) (fun i x σ' H2 H3 hi p y => ?_) hd⟩
  obtain ⟨rfl, rfl⟩ := y
  have := hs i σ' H3 hi p
  rw [show ((n - 1 - i : Nat) : Int) = (n : Int) - 1 + (i : Nat) * -1 by omega] at this
  exact this
theorem g_putN {l : Addr} {xs : List V} {k : Nat} {Φ : Addr → Hp → Prop} (h : EvN te σ H Φ) (ho : ∀ σ' : L2.St, σ' = σ → EvG ta σ H (Eq1 (.ref l))) (hi : EvG tb σ H (IntT fun i => i = (k : Int))) (hl : H l = some (.lst xs)) (hk : k < xs.length)
    (z : ∀ p H1 H2, Gx H H1 → H p = none → Φ p H1 → Gx H1 H2 → tz D σ (upd H2 l (.lst (xs.set k (.ref p))))) : tSeq (tAsg te (gSub ta tb rSetL)) tz D σ H :=
  h H (Gx.refl H) _ fun p H1 e1 n1 f => ho σ rfl H1 e1 _ fun v2 H2 e2 z2 => hi H2 (e1.trans e2) _ fun v3 H3 e3 ⟨i, z3, hi⟩ => by
    have z2 : v2 = .ref l := z2
    have hi : i = (k : Int) := hi
    subst z2
    subst z3
    subst hi
    exact ⟨l, xs, _, k, rfl, rfl, ((e1.trans e2).trans e3) _ _ hl, Evl.ixN_nat hk, z p H1 H3 e1 n1 f (e2.trans e3)⟩
theorem g_asg1 {i : Nat} (h : EvG te σ H Φ) (k : ∀ v H1, Gx H H1 → Φ v H1 → D.nx (σ.set i (some v)) H1) : tAsg te (gName i) D σ H := h H (Gx.refl H) _ fun v H1 e f => k v H1 e f
theorem g_asgN1 {i : Nat} {Φ : Addr → Hp → Prop} (h : EvN te σ H Φ) (k : ∀ p H1, Gx H H1 → H p = none → Φ p H1 → D.nx (σ.set i (some (.ref p))) H1) : tAsg te (gName i) D σ H := h H (Gx.refl H) _ fun v H1 e n f => k v H1 e n f
theorem evgs_star {xs : List V} {Ψ : List V → Hp → Prop} (h : EvG te σ H (LstK K xs)) (hr : ∀ H1, Gx H H1 → EvGs tr σ H1 (fun ys H2 => Ψ (xs ++ ys) H2)) : EvGs (StX.tStar K te tr) σ H Ψ := fun H1 e Q q =>
  h H1 e _ fun v H2 e2 ⟨p, z, hp⟩ => ⟨p, xs, z, .inr hp, hr H2 (e.trans e2) H2 (Gx.refl _) _ fun ys H3 e3 f => q _ H3 (e2.trans e3) f⟩
theorem evgs_starT {xs : List V} {Ψ : List V → Hp → Prop} (h : EvG te σ H (TupK K xs)) (hr : ∀ H1, Gx H H1 → EvGs tr σ H1 (fun ys H2 => Ψ (xs ++ ys) H2)) : EvGs (StX.tStar K te tr) σ H Ψ := fun H1 e Q q =>
  h H1 e _ fun v H2 e2 ⟨p, z, hp⟩ => ⟨p, xs, z, .inl hp, hr H2 (e.trans e2) H2 (Gx.refl _) _ fun ys H3 e3 f => q _ H3 (e2.trans e3) f⟩
/-- arguments that are known -/
theorem evgs_e1 {x : V} (h : EvG te σ H (Eq1 x)) : EvGs (tCons te tNil) σ H (fun vs _ => vs = [x]) := evgs_cons h fun v H1 _ z => evgs_nil fun _ _ => by
  have z : v = x := z
  show [v] = [x]
  rw [z]
theorem evgs_ec {x : V} {xs : List V} (h : EvG te σ H (Eq1 x)) (k : EvGs tr σ H (fun vs _ => vs = xs)) : EvGs (tCons te tr) σ H (fun vs _ => vs = x :: xs) := evgs_cons h fun v H1 e z => fun H2 e2 Q q => k H2 (e.trans e2) Q fun vs H3 e3 w => q vs H3 e3 (by
  have z : v = x := z
  have w : vs = xs := w
  show v :: vs = x :: xs
  rw [z, w])
theorem evgs_en : EvGs tNil σ H (fun vs _ => vs = []) := evgs_nil fun _ _ => rfl
theorem evg_ifE {b : Bool} (h : EvB tt σ H (fun c => c = b)) (h1 : b = true → ∀ H1, Gx H H1 → EvG ta σ H1 Φ) (h2 : b = false → ∀ H1, Gx H H1 → EvG tb σ H1 Φ) : EvG (tIf tt ta tb) σ H Φ := fun H1 e Q q =>
  h H1 e _ fun c H2 e2 hc => by
    subst hc
    cases c with
    | true => exact iteT (h1 rfl H2 (e.trans e2) H2 (Gx.refl _) Q fun v H3 e3 f => q v H3 (e2.trans e3) f)
    | false => exact iteF (h2 rfl H2 (e.trans e2) H2 (Gx.refl _) Q fun v H3 e3 f => q v H3 (e2.trans e3) f)
end
theorem Kx.rdT {H H' : Hp} {a : Addr} {xs : List V} (e : Kx H H') (h : Rd H a (.tup xs)) : Rd H' a (.tup xs) := by
  rcases h with h | ⟨o, h⟩
  · exact .inl (e.tup h)
  · exact .inr ⟨o, e.keep h fun _ z => by cases z⟩
theorem Kx.t {K : PySem.W.Frag} {H H' : Hp} {a : Addr} {xs : List V} (e : Kx H H') (h : SqT K H a xs) : SqT K H' a xs := by
  rcases h with h | h
  · exact .inl (e.rdT h)
  · exact .inr h
theorem intsV_eqv : ∀ (l m : List Nat), PyData.eqvAll (l.map fun (n : Nat) => PyData.int (n : Int)) (m.map fun (n : Nat) => PyData.int (n : Int)) = decide (l = m)
  | [], [] => by simp [PyData.eqvAll]
  | [], b :: m => by simp [PyData.eqvAll]
  | a :: l, [] => by simp [PyData.eqvAll]
  | a :: l, b :: m => by
    show (PyData.eqv (.int a) (.int b) && PyData.eqvAll _ _) = _
    rw [intsV_eqv l m]
    show (((a : Int) == (b : Int)) && decide (l = m)) = decide (a :: l = b :: m)
    by_cases h : a = b
    · subst h
      by_cases h2 : l = m
      · subst h2
        simp
      · simp [h2]
    · have h' : ¬ ((a : Int) = (b : Int)) := by omega
      simp [h, h']
theorem ints_lay : ∀ (l : List Nat), PyData.canLayAll0 (l.map fun (n : Nat) => PyData.int (n : Int)) = true ∧ PyData.depthAll (l.map fun (n : Nat) => PyData.int (n : Int)) = 0
  | [] => ⟨by simp [PyData.canLayAll0], by simp [PyData.depthAll]⟩
  | n :: l => by
    obtain ⟨h1, h2⟩ := ints_lay l
    exact ⟨by simp [PyData.canLayAll0, PyData.canLay0, h1], by simp [PyData.depthAll, PyData.depth, h2]⟩
theorem ints_shaped (l : List Nat) : SeqAt.shaped (.list (l.map fun (n : Nat) => PyData.int (n : Int))) = true ∧ SeqAt.shaped (.tuple (l.map fun (n : Nat) => PyData.int (n : Int))) = true := by
  obtain ⟨h1, h2⟩ := ints_lay l
  unfold SeqAt.shaped
  simp [PyData.canLay0, PyData.depth, h1, h2]

theorem ints_of {ys : List V} {n : Nat} {f : Nat → Nat} (hl : ys.length = n) (h : ∀ (i : Nat) (y : V), ys[i]? = some y → y = V.int ((f i : Nat) : Int)) : ys = intsV ((List.range n).map f) := by
  apply List.ext_getElem?
  intro i
  unfold intsV
  rw [List.map_map, List.getElem?_map]
  cases q : ys[i]? with
  | some y =>
    have hi : i < n := by rw [← hl]; exact (List.getElem?_eq_some_iff.mp q).1
    rw [h i y q, List.getElem?_range hi]
    rfl
  | none =>
    have : ys.length ≤ i := List.getElem?_eq_none_iff.mp q
    rw [List.getElem?_eq_none (by rw [List.length_range]; omega)]
    rfl
section
variable {K : PySem.W.Frag} {σ : L2.St} {H : Hp} {ta tb tc te tl : TE}
theorem evg_lastT {xs : List V} {x : V} (h : EvG tl σ H (TupK K xs)) (hk : EvG ta σ H (IntT fun i => i = -1)) (hx : xs.getLast? = some x) : EvG (tOp (rIxT K) tl ta) σ H (Eq1 x) := fun H1 e Q q =>
  h H1 e _ fun v H2 e2 ⟨p, z, hp⟩ => hk H2 (e.trans e2) _ fun w H3 e3 ⟨i, z2, hi⟩ => ⟨p, xs, i, x, z, z2, e3.t hp, by
    have hi : i = -1 := hi
    have hne : xs ≠ [] := fun z => by rw [z] at hx; cases hx
    rw [hi]
    unfold atI ixN
    have hl : 0 < xs.length := List.length_pos_iff.mpr hne
    rw [if_neg (by omega), if_pos (by omega)]
    show xs[(-1 + (xs.length : Int)).toNat]? = some x
    rw [show (-1 + (xs.length : Int)).toNat = xs.length - 1 by omega, ← List.getLast?_eq_getElem?]
    exact hx, q _ H3 (e2.trans e3) rfl⟩
end

theorem g_put1 {σ : L2.St} {H : Hp} {ta tb te : TE} {D : Ends} {l : Addr} {xs : List V} {k : Nat} {v : V} (h : EvG te σ H (Eq1 v)) (ho : EvG ta σ H (Eq1 (.ref l))) (hi : EvG tb σ H (IntT fun i => i = (k : Int))) (hl : H l = some (.lst xs)) (hk : k < xs.length)
    (z : ∀ H1, Gx H H1 → D.nx σ (upd H1 l (.lst (xs.set k v)))) : tAsg te (gSub ta tb rSetL) D σ H := g_put (tz := tNext) h ho hi hl hk z

/-! ### dicts: comprehensions, locks, pairs -/
theorem kpg_tup {X : Cx} {K : PySem.W.Frag} {es : List Expr} {k : Nat} {t : TGs} {n : Nat} {pos : Pos} (hc : X.calm = true) (h : PGs X es t) (hK : X.K = K := by rfl)
    (hn : (assignEach es X.env).length = n := by rfl) (hst : (assignEach es X.env).findIdx? (·.1) = none := by rfl) : PG X (.Tuple es k pos) (gTup K n t) := by
  subst hK
  exact pg_tup hc h hn hst
theorem kcr_sortedS {X : Cx} {K : PySem.W.Frag} (hK : X.K = K := by rfl) : CallR X (.builtin "sorted") (rSortedS K) := by subst hK; exact cr_sortedS
/-- the dict that a comprehension makes -/
def dcL (B : Nat → Bool) (k : Nat → Key) (v : Nat → V) : Nat → List (Key × V)
  | 0 => []
  | n + 1 => if B n = true then putK (dcL B k v n) (k n) (v n) else dcL B k v n
theorem putK_len {κ : Type} [DecidableEq κ] (kvs : List (κ × V)) (k : κ) (v : V) : (putK kvs k v).length ≤ kvs.length + 1 := by
  unfold putK
  split
  · rw [List.length_map]
    omega
  · rw [List.length_append]
    exact Nat.le_refl _
theorem dcL_len (B : Nat → Bool) (k : Nat → Key) (v : Nat → V) : ∀ n, (dcL B k v n).length ≤ n
  | 0 => Nat.le_refl _
  | n + 1 => by
    have h := dcL_len B k v n
    show (if B n = true then putK (dcL B k v n) (k n) (v n) else dcL B k v n).length ≤ n + 1
    split
    · have := putK_len (dcL B k v n) (k n) (v n)
      omega
    · omega
section
variable {K : PySem.W.Frag} {σ : L2.St} {H : Hp} {te td tk tv : TE} {wi : TI} {g : TG} {tt : TT} {vs : List Nat} {n : Nat} {d : Addr}
theorem evn_dc {Y : Nat → Ty} {S : Nat → L2.St → Hp → Prop} {B : Nat → Bool} {k : Nat → Key} {v : Nat → V} (hw : EvW wi σ H n Y) (hn : n ≤ 100000)
    (hg : ∀ i x H1, i < n → Gx H H1 → Y i x H1 → ∀ Q : L2.St → Hp → Prop, (∀ σ2, wipe σ2 vs = wipe σ vs → S i σ2 H1 → Q σ2 H1) → g x (wipe σ vs) H1 Q)
    (ht : ∀ i σ2 H1, i < n → Gx H H1 → S i σ2 H1 → EvB tt σ2 H1 (fun c => c = B i)) (ms : ∀ i σ2 H1 H2, Gx H1 H2 → S i σ2 H1 → S i σ2 H2)
    (hk : ∀ i σ2 H1, i < n → Gx H H1 → S i σ2 H1 → B i = true → EvG tk σ2 H1 (Eq1 (kV (k i)))) (hv : ∀ i σ2 H1, i < n → Gx H H1 → S i σ2 H1 → B i = true → EvG tv σ2 H1 (Eq1 (v i))) :
    EvN (tDc wi g tt tk tv vs) σ H (fun p H' => H' p = some (.dK (dcL B k v n))) := by
  intro H1 e Q q
  refine hw H1 e _ fun J H2 G Y' e2 W hG hY => ?_
  intro D hD
  refine ⟨fun i m H' => m = n - i ∧ i ≤ n ∧ Gx H2 H' ∧ H' D = some (.dK (dcL B k v i)), ⟨n, by omega, by omega, Gx.new hD, upd_same⟩, ?_⟩
  rintro i m H3 ⟨rfl, hi, e3, hys⟩
  by_cases hlt : i < n
  · refine .inr ⟨W.goes i H3 hlt (hG H3 e3), fun H' => Gx H2 H' ∧ H' D = some (.dK (dcL B k v (i + 1))), fun H' p' => ⟨n - (i + 1), by omega, rfl, hlt, p'.1, p'.2⟩, fun x H4 y => ?_⟩
    obtain ⟨e4, y⟩ := hY i H3 x H4 hlt e3 (W.yields i H3 x H4 hlt (hG H3 e3) y)
    have e5 := ((e.trans e2).trans e3).trans e4
    refine hg i x H4 hlt e5 y _ fun σ2 w s2 => ⟨w, ht i σ2 H4 hlt e5 s2 H4 (Gx.refl _) _ fun b H5 e6 hb => ?_⟩
    subst hb
    cases hB : B i with
    | true =>
      refine iteT (hk i σ2 H5 hlt (e5.trans e6) (ms i σ2 H4 H5 e6 s2) hB H5 (Gx.refl _) _ fun y1 H6 e7 z1 => hv i σ2 H6 hlt ((e5.trans e6).trans e7) (ms i σ2 H4 H6 (e6.trans e7) s2) hB H6 (Gx.refl _) _ fun y2 H7 e8 z2 => ?_)
      have z1 : y1 = kV (k i) := z1
      have z2 : y2 = v i := z2
      have e9 := ((e4.trans e6).trans e7).trans e8
      refine ⟨dcL B k v i, k i, z1, e9 _ _ hys, Evl.sz_lt (by have := dcL_len B k v i; omega), (e3.trans e9).mut hD, ?_⟩
      rw [upd_same, z2]
      show some (HO.dK _) = some (HO.dK (if B i = true then _ else _))
      rw [if_pos hB]
    | false =>
      have e9 := e4.trans e6
      refine iteF ⟨e3.trans e9, ?_⟩
      show _ = some (HO.dK (if B i = true then _ else _))
      rw [if_neg (by rw [hB]; decide)]
      exact e9 _ _ hys
  · have : i = n := by omega
    subst this
    exact .inl ⟨W.stops H3 (hG H3 e3), q D H3 (e2.trans e3) (e2.free hD) hys⟩
/-- a dict that is walked stands under a lock -/
theorem evn_lock {kvs : List (Key × V)} {Φ : Addr → Hp → Prop} (hd : H d = some (.dK kvs)) (h : ∀ od, EvN te σ (upd H d (.frz od (.dK kvs))) Φ) (m : ∀ p H2, Φ p H2 → p ≠ d → Φ p (upd H2 d (.dK kvs))) : EvN (tLockE te) σ H Φ := fun H1 e Q q =>
  ⟨d, .dK kvs, e _ _ hd, trivial, fun od => h od _ (fun a o ha => by
      by_cases z : a = d
      · subst z
        rw [upd_same] at ha ⊢
        exact ha
      · rw [upd_ne z] at ha ⊢
        exact e _ _ ha) _ fun p H2 e2 np f => by
    have hpd : p ≠ d := fun z => by
      subst z
      rw [upd_same] at np
      cases np
    refine ⟨e2 _ _ upd_same, q p _ (fun a o ha => ?_) (by rw [upd_ne hpd] at np; exact np) (m p H2 f hpd)⟩
    by_cases z : a = d
    · subst z
      rw [e _ _ hd] at ha
      cases ha
      exact upd_same
    · rw [upd_ne z]
      exact e2 _ _ (by rw [upd_ne z]; exact ha)⟩
theorem evw_items {kvs : List (Key × V)} {o : Obj} (h : EvG td σ H (Eq1 (.ref d))) (hd : H d = some (.frz o (.dK kvs))) : EvW (iItems td) σ H kvs.length (fun i x H => ∃ T k v, x = .ref T ∧ H T = some (.tup [kV k, v]) ∧ kvs[i]? = some (k, v)) := fun H1 e R q =>
  h H1 e _ fun v H2 e2 hv => ⟨d, o, kvs, hv, (e.trans e2) _ _ hd, q _ H2 _ _ e2 walk_items (fun H3 e3 => ((e.trans e2).trans e3) _ _ hd) fun i H3 x H4 hi _ ⟨T, x1, y1, hx, hT, h4, h5, h6⟩ => by
    subst h4
    have hk : kvs[i]? = some kvs[i] := List.getElem?_eq_getElem hi
    have h5 : kvs[i]?.map (fun kv => kV kv.1) = some x1 := h5
    have h6 : kvs[i]?.map Prod.snd = some y1 := h6
    rw [hk] at h5 h6
    cases h5
    cases h6
    exact ⟨Gx.new hT, T, (kvs[i]).1, (kvs[i]).2, hx, upd_same, hk⟩⟩
/-- a target of two names -/
theorem tg_pair {a b : Nat} {x : V} {T : Addr} {x1 x2 : V} {H1 : Hp} (hx : x = .ref T) (hT : SqT K H1 T [x1, x2]) {σ0 : L2.St} {Q : L2.St → Hp → Prop} (q : Q ((σ0.set a (some x1)).set b (some x2)) H1) : gTup K 2 (gCons (gName a) (gCons (gName b) gNil)) x σ0 H1 Q :=
  ⟨T, [x1, x2], hx, hT, rfl, x1, [x2], rfl, x2, [], rfl, rfl, q⟩
end

theorem range_getD {α : Type} (l : List α) (d : α) : (List.range l.length).map (fun i => l.getD i d) = l := by
  apply List.ext_getElem?
  intro i
  rw [List.getElem?_map]
  by_cases h : i < l.length
  · rw [List.getElem?_range h, List.getElem?_eq_getElem h]
    show some (l.getD i d) = _
    rw [List.getD_eq_getElem?_getD, List.getElem?_eq_getElem h]
    rfl
  · rw [List.getElem?_eq_none (by rw [List.length_range]; omega), List.getElem?_eq_none (by omega)]
    rfl
/-- keys that differ: the pairs in order -/
theorem dcL_of {α : Type} (P : α → Bool) (k : α → Key) (v : α → V) (d : α) (l : List α) (hn : (l.map k).Nodup) : ∀ n, n ≤ l.length → dcL (fun i => P (l.getD i d)) (fun i => k (l.getD i d)) (fun i => v (l.getD i d)) n = (((l.take n).filter P).map fun x => (k x, v x))
  | 0, _ => by simp [dcL]
  | n + 1, h => by
    have ih := dcL_of P k v d l hn n (by omega)
    have hx : l[n]? = some (l.getD n d) := by
      rw [List.getD_eq_getElem?_getD, List.getElem?_eq_getElem (by omega)]
      rfl
    have ht : l.take (n + 1) = l.take n ++ [l.getD n d] := by
      rw [List.take_add_one, hx]
      rfl
    show (if P (l.getD n d) = true then putK (dcL _ _ _ n) (k (l.getD n d)) (v (l.getD n d)) else dcL _ _ _ n) = _
    rw [ih, ht, List.filter_append, List.map_append]
    by_cases hp : P (l.getD n d) = true
    · rw [if_pos hp]
      have hv : valV (((l.take n).filter P).map fun x => (k x, v x)) (k (l.getD n d)) = none := by
        unfold valV
        rw [Option.map_eq_none_iff, List.find?_eq_none]
        intro x hx' hk
        obtain ⟨y, hy, rfl⟩ := List.mem_map.mp hx'
        have hk : k y = k (l.getD n d) := of_decide_eq_true hk
        have hy2 : y ∈ l.take n := (List.mem_filter.mp hy).1
        obtain ⟨i, hi⟩ := List.getElem?_of_mem hy2
        have hin : i < n := by
          have := (List.getElem?_eq_some_iff.mp hi).1
          rw [List.length_take] at this
          omega
        rw [List.getElem?_take_of_lt hin] at hi
        have := nd_ix hn (i := i) (j := n) (x := k y) (by rw [List.getElem?_map, hi]; rfl) (by rw [List.getElem?_map, hx, hk]; rfl)
        omega
      rw [putK_new _ hv, List.filter_cons_of_pos hp]
      rfl
    · rw [if_neg hp, List.filter_cons_of_neg hp]
      simp
section
variable {K : PySem.W.Frag} {σ : L2.St} {H : Hp} {tl : TE} {tz tb : TS} {D : Ends} {g : TG}
theorem g_forT {a : Addr} {xs : List V} (h : EvG tl σ H (Eq1 (.ref a))) (hx : SqT K H a xs) (Pv : Nat → L2.St → Hp → Prop) (h0 : ∀ H1, Gx H H1 → Pv 0 σ H1) (hG : ∀ i σ' H', Pv i σ' H' → SqT K H' a xs)
    (hs : ∀ (i : Nat) x σ' H', xs[i]? = some x → Pv i σ' H' → g x σ' H' fun σ2 H2 => tb { D with nx := Pv (i + 1), ct := Pv (i + 1), bk := fun σ H => tz D σ H } σ2 H2)
    (hd : ∀ σ' H', Pv xs.length σ' H' → tz D σ' H') : tSeq (tFor (iTup K tl) g tb) tz D σ H := h H (Gx.refl H) _ fun v H1 e z =>
  ⟨a, z, ⟨xs, e.t hx⟩, for_tup (K := K) (a := a) (xs := xs) (D := { D with nx := tz D }) Pv (h0 H1 e) (fun i σ' H' _ p => hG i σ' H' p) hs hd⟩
theorem evn_dnew : EvN tDNewK σ H (fun p H' => H' p = some (.dK [])) := fun H1 _ Q q d hd => q d _ (Gx.new hd) hd upd_same
end

theorem evb_is {σ : L2.St} {H : Hp} {tt : TT} {a b : Bool} (h : EvB tt σ H (fun c => c = a)) (e : a = b) : EvB tt σ H (fun c => c = b) := by
  subst e
  exact h

theorem list_of {α : Type} {ys : List V} {l : List α} {f : α → V} (hl : ys.length = l.length) (h : ∀ (i : Nat) (y : V), ys[i]? = some y → ∃ c, l[i]? = some c ∧ y = f c) : ys = l.map f := by
  apply List.ext_getElem?
  intro i
  rw [List.getElem?_map]
  cases q : ys[i]? with
  | some y =>
    obtain ⟨c, hc, rfl⟩ := h i y q
    rw [hc]
    rfl
  | none =>
    have : ys.length ≤ i := List.getElem?_eq_none_iff.mp q
    rw [List.getElem?_eq_none (by omega)]
    rfl
theorem evg_joinE {K : PySem.W.Frag} {σ : L2.St} {H : Hp} {te : TE} {a : Str} {zs : List Str} (h : EvN te σ H (NewL (zs.map V.str))) (hs : (zs.map (·.length)).sum + zs.length * a.length ≤ 16777216) : EvG (tM1 (rJoinK K) (tC (.str a)) te) σ H (Eq1 (.str (Txt.join a zs))) := fun H1 e Q q =>
  ⟨⟨a, rfl⟩, h H1 e _ fun p H2 e2 _ hp => ⟨a, p, zs, rfl, rfl, Or.inl (SqL.of hp), hs, q _ H2 e2 rfl⟩⟩
theorem evg_addsE {σ : L2.St} {H : Hp} {ta tb : TE} {x y : Str} (ha : EvG ta σ H (Eq1 (.str x))) (hb : EvG tb σ H (Eq1 (.str y))) (hl : x.length + y.length ≤ 100000) :
    EvG (tOp (fun x y H Q => ∃ i j, x = .str i ∧ y = .str j ∧ i.length + j.length ≤ sizeLine ∧ Q (.str (i ++ j)) H) ta tb) σ H (Eq1 (.str (x ++ y))) :=
  evg_adds (P := fun z => z = x) (R := fun z => z = y) (ha.imp fun _ _ _ z => ⟨x, z, rfl⟩) (hb.imp fun _ _ _ z => ⟨y, z, rfl⟩) (fun a b h1 h2 => by rw [h1, h2]; exact hl) fun a b h1 h2 _ _ => by rw [h1, h2]
theorem LcR.det {B : Nat → Bool → Prop} {R : Nat → Ty} {H : Hp} {n : Nat} {ys : List V} {f : Nat → Bool} {v : Nat → V} (h : LcR B R H n ys) (hB : ∀ i b, i < n → B i b → b = f i) (hR : ∀ i y, i < n → R i y H → y = v i) : ys = ((List.range n).filter f).map v := by
  induction h with
  | nil => rfl
  | @keep n ys y _ b r ih =>
    rw [List.range_succ, List.filter_append, List.map_append, ← ih (fun i b hi => hB i b (by omega)) fun i y hi => hR i y (by omega)]
    have h1 : f n = true := (hB n true (by omega) b).symm
    rw [List.filter_cons_of_pos h1, hR n y (by omega) r]
    rfl
  | @skip n ys _ b ih =>
    rw [List.range_succ, List.filter_append, List.map_append, ← ih (fun i b hi => hB i b (by omega)) fun i y hi => hR i y (by omega)]
    have h1 : ¬ f n = true := by rw [← hB n false (by omega) b]; decide
    rw [List.filter_cons_of_neg h1]
    simp
theorem evg_eqS {σ : L2.St} {H : Hp} {ta tb : TE} {x y : Str} (ha : EvG ta σ H (Eq1 (.str x))) (hb : EvG tb σ H (Eq1 (.str y))) : EvG (tOp rEq ta tb) σ H (BlE (decide (x = y))) := fun H1 e Q q =>
  ha H1 e _ fun v H2 e2 z => hb H2 (e.trans e2) _ fun v2 H3 e3 z2 => by
    have z : v = .str x := z
    have z2 : v2 = .str y := z2
    subst z
    subst z2
    refine ⟨rfl, q _ H3 (e2.trans e3) ⟨_, rfl, ?_⟩⟩
    by_cases h : x = y
    · subst h
      simp
    · simp [h]
end Ly

set_option Elab.async false
set_option maxRecDepth 100000
/-! Terms: what the functions on rows of nodes give, in plain Lean. -/
namespace TM
open PySem L2 Ly
abbrev Nd := Str × Nat
/-- the stack of the roots that wait for a word (the leftmost last), and the children of each place, from the right -/
def chF : List Nat → Nat → Option (List Nat × List (List Nat))
  | [], _ => some ([], [])
  | a :: as, off => match chF as (off + 1) with
    | none => none
    | some (w, f) => if w.length < a then none else some (w.take (w.length - a) ++ [off], (w.drop (w.length - a)).reverse :: f)
theorem chF_cons {a : Nat} {as : List Nat} {off : Nat} : chF (a :: as) off = match chF as (off + 1) with
    | none => none
    | some (w, f) => if w.length < a then none else some (w.take (w.length - a) ++ [off], (w.drop (w.length - a)).reverse :: f) := rfl
theorem chF_len : ∀ {as : List Nat} {off : Nat} {w : List Nat} {f : List (List Nat)}, chF as off = some (w, f) → f.length = as.length ∧ w.length ≤ as.length
  | [], _, _, _, h => by
    cases h
    exact ⟨rfl, Nat.le_refl _⟩
  | a :: as, off, w, f, h => by
    rw [chF_cons] at h
    cases q : chF as (off + 1) with
    | none => rw [q] at h; cases h
    | some p =>
      obtain ⟨w', f'⟩ := p
      rw [q] at h
      simp only at h
      split at h
      · cases h
      · cases h
        obtain ⟨h1, h2⟩ := chF_len q
        refine ⟨by rw [List.length_cons, List.length_cons, h1], ?_⟩
        rw [List.length_append, List.length_take]
        show min _ _ + 1 ≤ as.length + 1
        omega
/-- the children of all places, or none -/
def chOf (nds : List Nd) : Option (List (List Nat)) := match chF (nds.map (·.2)) 0 with
  | some (w, f) => if w = [0] then some f else none
  | none => none
/-- the places behind the parts -/
def enF : List (List Nat) → Nat → List Nat
  | [], _ => []
  | c :: cs, off => (match c.getLast? with
    | none => off + 1
    | some k => (enF cs (off + 1)).getD (k - (off + 1)) 0) :: enF cs (off + 1)
theorem enF_len : ∀ (cs : List (List Nat)) (off : Nat), (enF cs off).length = cs.length
  | [], _ => rfl
  | c :: cs, off => by
    show (enF cs (off + 1)).length + 1 = cs.length + 1
    rw [enF_len cs]
/-- words and arities in the order of their first places, or none if a word has two -/
def arF : List Nd → List Nd → Option (List Nd)
  | [], acc => some acc
  | (w, a) :: r, acc => match acc.lookup w with
    | none => arF r (acc ++ [(w, a)])
    | some b => if b = a then arF r acc else none
def plc (nds : List Nd) (w : Str) : List Nat := (List.range nds.length).filter fun i => (nds[i]?.map (·.1)) == some w
/-! ### data -/
def ndD (n : Nd) : PyData := .tuple [.str n.1, .int n.2]
def nodesD (nds : List Nd) : PyData := .tuple (nds.map ndD)
def intsD (l : List Nat) : PyData := .tuple (l.map fun (n : Nat) => PyData.int (n : Int))
def chD (cs : List (List Nat)) : List PyData := cs.map intsD

/-! ### rows of nodes in the heap -/
/-- a node -/
def NodeV (K : PySem.W.Frag) (n : Nd) : Ty := fun v H => ∃ p, v = .ref p ∧ SqT K H p [.str n.1, .int n.2]
/-- a tuple of nodes -/
def Nodes (K : PySem.W.Frag) (H : Hp) (nds : List Nd) (xs : List V) : Prop := xs.length = nds.length ∧ ∀ (i : Nat) (n : Nd), nds[i]? = some n → ∃ x, xs[i]? = some x ∧ NodeV K n x H
structure NodesAt (K : PySem.W.Frag) (H : Hp) (a : Addr) (nds : List Nd) : Prop where
  ex : ∃ xs, SqT K H a xs ∧ Nodes K H nds xs
theorem NodesAt.tup_of {K : PySem.W.Frag} {H : Hp} {a : Addr} {nds : List Nd} (h : NodesAt K H a nds) : ∃ xs, SqT K H a xs ∧ Nodes K H nds xs := h.ex
theorem NodeV.gx {K : PySem.W.Frag} {H H' : Hp} {n : Nd} {v : V} (e : Gx H H') (h : NodeV K n v H) : NodeV K n v H' := by
  obtain ⟨p, z, q⟩ := h
  exact ⟨p, z, e.t q⟩
theorem Nodes.gx {K : PySem.W.Frag} {H H' : Hp} {nds : List Nd} {xs : List V} (e : Gx H H') (h : Nodes K H nds xs) : Nodes K H' nds xs := ⟨h.1, fun i n q => by
  obtain ⟨x, h1, h2⟩ := h.2 i n q
  exact ⟨x, h1, h2.gx e⟩⟩
/-- a tuple of indices -/
def IntsT (K : PySem.W.Frag) (l : List Nat) : Ty := fun v H => ∃ p, v = .ref p ∧ SqT K H p (intsV l)
/-- the children of all places: a list of tuples -/
def ChL (K : PySem.W.Frag) (H : Hp) (cs : List (List Nat)) (ys : List V) : Prop := ys.length = cs.length ∧ ∀ (i : Nat) (c : List Nat), cs[i]? = some c → ∃ y, ys[i]? = some y ∧ IntsT K c y H
def spChildren (K : PySem.W.Frag) : Sp := fun vs H Q _ => ∃ (n : Addr) (nds : List Nd), vs = [.ref n] ∧ NodesAt K H n nds ∧ nds.length ≤ 1000 ∧
  (chOf nds = none → ∀ H', Gx H H' → Q .non H') ∧ ∀ cs, chOf nds = some cs → ∀ p ys H', Gx H H' → H p = none → H' p = some (.lst ys) → ChL K H' cs ys → Q (.ref p) H'
theorem IntsT.firm {K : PySem.W.Frag} {l : List Nat} : Firm (IntsT K l) := fun _ _ _ e ⟨p, z, h⟩ => ⟨p, z, e.t h⟩
theorem chF_none {k : Nat} : ∀ {as : List Nat} {off : Nat}, chF (as.drop k) (off + k) = none → chF as off = none := by
  induction k with
  | zero => exact fun h => h
  | succ k ih =>
    intro as off h
    cases as with
    | nil => cases h
    | cons a as =>
      have h1 : chF as (off + 1) = none := ih (by
        rw [show off + 1 + k = off + (k + 1) by omega]
        exact h)
      rw [chF_cons, h1]

/-- children stand behind their node, within the row -/
def ChOk (cs : List (List Nat)) : Prop := ∀ (i : Nat) (c : List Nat), cs[i]? = some c → ∀ k ∈ c, i < k ∧ k < cs.length
/-- the children of all places: a tuple of tuples -/
def ChT (K : PySem.W.Frag) (H : Hp) (a : Addr) (cs : List (List Nat)) : Prop := ∃ ys, SqT K H a ys ∧ ChL K H cs ys
theorem ChL.firm {K : PySem.W.Frag} {H H' : Hp} {cs : List (List Nat)} {ys : List V} (e : Kx H H') (h : ChL K H cs ys) : ChL K H' cs ys := ⟨h.1, fun i c q => by
  obtain ⟨y, h1, h2⟩ := h.2 i c q
  exact ⟨y, h1, IntsT.firm _ _ _ e h2⟩⟩
theorem ChT.firm {K : PySem.W.Frag} {H H' : Hp} {a : Addr} {cs : List (List Nat)} (e : Kx H H') (h : ChT K H a cs) : ChT K H' a cs := by
  obtain ⟨ys, h1, h2⟩ := h
  exact ⟨ys, e.t h1, h2.firm e⟩
def spEnds (K : PySem.W.Frag) : Sp := fun vs H Q _ => ∃ (a : Addr) (cs : List (List Nat)), vs = [.ref a] ∧ ChT K H a cs ∧ ChOk cs ∧ cs.length ≤ 1000 ∧ ∀ p H', Gx H H' → H p = none → H' p = some (.lst (intsV (enF cs 0))) → Q (.ref p) H'
/-- the list of ends while it is made: from place m on it is ready -/
def enL (cs : List (List Nat)) (m : Nat) : List Nat := ((List.range m).map (· + 1)) ++ enF (cs.drop m) m
theorem enL_len {cs : List (List Nat)} {m : Nat} (h : m ≤ cs.length) : (enL cs m).length = cs.length := by
  unfold enL
  rw [List.length_append, List.length_map, List.length_range, enF_len, List.length_drop]
  omega
theorem enL_nil {cs : List (List Nat)} {m : Nat} (h : cs[m]? = some []) : enL cs (m + 1) = enL cs m := by
  have hm : m < cs.length := (List.getElem?_eq_some_iff.mp h).1
  have hd : cs.drop m = [] :: cs.drop (m + 1) := by
    rw [List.drop_eq_getElem_cons hm]
    congr 1
    exact (List.getElem?_eq_some_iff.mp h).2
  unfold enL
  rw [hd, List.range_succ, List.map_append, List.append_assoc]
  rfl
theorem enL_set {cs : List (List Nat)} {m k : Nat} {c : List Nat} (h : cs[m]? = some c) (hk : c.getLast? = some k) (hmk : m < k) : (enL cs (m + 1)).set m ((enL cs (m + 1)).getD k 0) = enL cs m := by
  have hm : m < cs.length := (List.getElem?_eq_some_iff.mp h).1
  have hd : cs.drop m = c :: cs.drop (m + 1) := by
    rw [List.drop_eq_getElem_cons hm]
    congr 1
    exact (List.getElem?_eq_some_iff.mp h).2
  unfold enL
  rw [hd, List.range_succ, List.map_append, List.append_assoc]
  have hl : ((List.range m).map (· + 1)).length = m := by rw [List.length_map, List.length_range]
  rw [List.set_append_right _ _ (by omega), hl, Nat.sub_self]
  congr 1
  show (_ :: _ : List Nat) = _
  show _ = (match c.getLast? with
    | none => m + 1
    | some k => (enF (cs.drop (m + 1)) (m + 1)).getD (k - (m + 1)) 0) :: enF (cs.drop (m + 1)) (m + 1)
  rw [hk]
  congr 1
  show (((List.range m).map (· + 1)) ++ ([m + 1] ++ enF (cs.drop (m + 1)) (m + 1))).getD k 0 = (enF (cs.drop (m + 1)) (m + 1)).getD (k - (m + 1)) 0
  rw [List.getD_eq_getElem?_getD, List.getD_eq_getElem?_getD, List.getElem?_append_right (by omega), hl, List.getElem?_append_right (by show 1 ≤ _; omega)]
  show (enF (cs.drop (m + 1)) (m + 1))[k - m - 1]?.getD 0 = _
  rw [show k - m - 1 = k - (m + 1) by omega]

/-! ### words and their arities -/
def kvD (l : List Nd) : List (Key × V) := l.map fun n => ((Sum.inr n.1 : Key), V.int (n.2 : Int))
theorem kvD_val : ∀ (l : List Nd) (w : Str), valV (kvD l) (Sum.inr w) = (l.lookup w).map fun (n : Nat) => V.int (n : Int)
  | [], w => rfl
  | (x, a) :: l, w => by
    show valV ((Sum.inr x, V.int a) :: kvD l) (Sum.inr w) = _
    by_cases h : x = w
    · subst h
      rw [valV_pos rfl]
      simp [List.lookup]
    · rw [valV_neg (fun z => h (by injection z)), kvD_val l w]
      have : (w == x) = false := beq_eq_false_iff_ne.mpr fun z => h z.symm
      simp [List.lookup, this]
theorem kvD_app (l m : List Nd) : kvD (l ++ m) = kvD l ++ kvD m := List.map_append
theorem kvD_new {l : List Nd} {w : Str} {a : Nat} (h : l.lookup w = none) : putK (kvD l) (Sum.inr w) (V.int a) = kvD (l ++ [(w, a)]) := by
  rw [putK_new _ (by rw [kvD_val, h]; rfl), kvD_app]
  rfl
theorem kvD_same {l : List Nd} {w : Str} {a : Nat} (hn : (l.map (·.1)).Nodup) (h : l.lookup w = some a) : putK (kvD l) (Sum.inr w) (V.int a) = kvD l := by
  have hv : valV (kvD l) (Sum.inr w) = some (V.int a) := by rw [kvD_val, h]; rfl
  unfold putK
  rw [valV_any, hv, if_pos (show (some (V.int (a : Int))).isSome = true from rfl)]
  unfold kvD
  rw [List.map_map]
  apply List.map_congr_left
  rintro ⟨x, b⟩ hx
  show (if (Sum.inr x : Key) = Sum.inr w then ((Sum.inr x : Key), V.int a) else _) = _
  by_cases q : x = w
  · subst q
    rw [if_pos rfl]
    have hb : b = a := by
      clear hv
      induction l with
      | nil => cases hx
      | cons y l ih =>
        obtain ⟨z, c⟩ := y
        rw [List.map_cons, List.nodup_cons] at hn
        rcases List.mem_cons.mp hx with e | e
        · cases e
          simp [List.lookup] at h
          exact h
        · have hne : ¬ z = x := fun q => hn.1 (by
            show z ∈ _
            rw [q]
            exact List.mem_map.mpr ⟨(x, b), e, rfl⟩)
          have : (x == z) = false := beq_eq_false_iff_ne.mpr fun q => hne q.symm
          simp [List.lookup, this] at h
          exact ih hn.2 e h
    rw [hb]
  · rw [if_neg (fun z => q (by injection z))]
theorem lookup_mem : ∀ {l : List Nd} {w : Str} {a : Nat}, l.lookup w = some a → (w, a) ∈ l
  | [], _, _, h => by cases h
  | (x, b) :: l, w, a, h => by
    by_cases q : w = x
    · subst q
      simp [List.lookup] at h
      subst h
      exact List.mem_cons_self ..
    · have : (w == x) = false := beq_eq_false_iff_ne.mpr q
      simp [List.lookup, this] at h
      exact List.mem_cons_of_mem _ (lookup_mem h)
theorem lookup_of_mem : ∀ {l : List Nd} {w : Str} {a : Nat}, (l.map (·.1)).Nodup → (w, a) ∈ l → l.lookup w = some a
  | [], _, _, _, h => by cases h
  | (x, b) :: l, w, a, hn, h => by
    rw [List.map_cons, List.nodup_cons] at hn
    rcases List.mem_cons.mp h with e | e
    · cases e
      simp [List.lookup]
    · have hne : ¬ w = x := fun q => hn.1 (by
        show x ∈ _
        rw [← q]
        exact List.mem_map.mpr ⟨(w, a), e, rfl⟩)
      have : (w == x) = false := beq_eq_false_iff_ne.mpr hne
      simp [List.lookup, this]
      exact lookup_of_mem hn.2 e
/-- a dict of words, ascending -/
def Asc (l l' : List Nd) : Prop := l'.Perm l ∧ PyProof.Rows.sortedS (l'.map (·.1)) = true
def spAsc : Sp := fun vs H Q _ => ∃ (d : Addr) (l : List Nd), vs = [.ref d] ∧ H d = some (.dK (kvD l)) ∧ l.length < 64 ∧ (l.map (·.1)).Nodup ∧ ∀ p l' H', Gx H H' → H p = none → Asc l l' → H' p = some (.dK (kvD l')) → Q (.ref p) H'
def isLeaf (w : Str) : Bool := decide (w = "_" ∨ w = "#")
def spArities (K : PySem.W.Frag) : Sp := fun vs H Q _ => ∃ (n : Addr) (nds : List Nd), vs = [.ref n] ∧ NodesAt K H n nds ∧ nds.length < 64 ∧ (arF nds [] = none → ∀ H', Gx H H' → Q .non H') ∧
  ∀ l, arF nds [] = some l → ∀ p l' H', Gx H H' → H p = none → Asc (l.filter fun n => !isLeaf n.1) l' → H' p = some (.dK (kvD l')) → Q (.ref p) H'
theorem arF_nodup : ∀ {nds acc l : List Nd}, (acc.map (·.1)).Nodup → arF nds acc = some l → (l.map (·.1)).Nodup ∧ l.length ≤ acc.length + nds.length
  | [], acc, l, hn, h => by
    cases h
    exact ⟨hn, by simp⟩
  | (w, a) :: r, acc, l, hn, h => by
    have h : (match acc.lookup w with
      | none => arF r (acc ++ [(w, a)])
      | some b => if b = a then arF r acc else none) = some l := h
    cases q : acc.lookup w with
    | none =>
      rw [q] at h
      have hw : w ∉ acc.map (·.1) := fun hm => by
        obtain ⟨⟨x, b⟩, hx, rfl⟩ := List.mem_map.mp hm
        have := List.lookup_eq_none_iff.mp q _ hx
        simp at this
      obtain ⟨h1, h2⟩ := arF_nodup (nds := r) (acc := acc ++ [(w, a)]) (l := l) (by
        rw [List.map_append, List.nodup_append]
        refine ⟨hn, by simp, fun x hx y hy => ?_⟩
        simp at hy
        subst hy
        intro z
        subst z
        exact hw hx) h
      refine ⟨h1, ?_⟩
      rw [List.length_append] at h2
      simp at h2 ⊢
      omega
    | some b =>
      rw [q] at h
      simp only at h
      split at h
      · obtain ⟨h1, h2⟩ := arF_nodup hn h
        exact ⟨h1, by rw [List.length_cons]; omega⟩
      · cases h
theorem inV_leaf (z : Str) : inV (.str z) [.str "_", .str "#"] = isLeaf z := by
  show ((("_" : Str) == z) || ((("#" : Str) == z) || false)) = decide (z = "_" ∨ z = "#")
  rw [Bool.or_false]
  by_cases h1 : z = ("_" : Str)
  · subst h1
    simp
  · by_cases h2 : z = ("#" : Str)
    · subst h2
      simp
    · rw [decide_eq_false (fun q => q.elim h1 h2), beq_eq_false_iff_ne.mpr (fun q => h1 q.symm), beq_eq_false_iff_ne.mpr (fun q => h2 q.symm)]
      rfl

/-! ### rows -/
/-- a node as it must be -/
def GoodNd (n : Nd) : Prop := isNode2 (.str n.1) (.int (n.2 : Int)) = true ∧ n.1.length ≤ 1000
/-- a value, and whether it is a row of nodes of a term -/
inductive RowIn (K : PySem.W.Frag) (H : Hp) : V → Bool → Prop
  | other {x : V} {k : Kd} : Pl K H x k → k ≠ .tup → RowIn K H x false
  | size {a : Addr} {xs : List V} : H a = some (.tup xs) → xs.length < 1 ∨ 40 < xs.length → RowIn K H (.ref a) false
  | items {a : Addr} {xs : List V} {bs : List Bool} : H a = some (.tup xs) → (1 ≤ xs.length ∧ xs.length ≤ 40) → bs.length = xs.length ∧ (∀ (i : Nat) (x : V), xs[i]? = some x → ∃ b, bs[i]? = some b ∧ NodeIn K H x b) ∧ bs.all id = false → RowIn K H (.ref a) false
  | nodes {a : Addr} {nds : List Nd} : (∃ xs, H a = some (.tup xs) ∧ xs.length = nds.length ∧ ∀ (i : Nat) (n : Nd), nds[i]? = some n → ∃ p, xs[i]? = some (.ref p) ∧ H p = some (.tup [.str n.1, .int (n.2 : Int)])) → (1 ≤ nds.length ∧ nds.length ≤ 40) → (∀ n ∈ nds, GoodNd n) → RowIn K H (.ref a) ((chOf nds).isSome && (arF nds []).isSome)
def spRow (K : PySem.W.Frag) : Sp := fun vs H Q _ => ∃ x b, vs = [x] ∧ RowIn K H x b ∧ ∀ H', Gx H H' → Q (.bl b) H'
end TM

set_option Elab.async false
set_option maxRecDepth 100000
/-! Trees: rows of nodes are trees in preorder. -/
namespace TM
open PySem L2 Ly
inductive Tr where
  | nd (w : Str) (ts : List Tr)
mutual
def Tr.nodes : Tr → List Nd
  | .nd w ts => (w, ts.length) :: nodesL ts
def nodesL : List Tr → List Nd
  | [] => []
  | t :: ts => t.nodes ++ nodesL ts
end
def Tr.size (t : Tr) : Nat := t.nodes.length
/-- the places of the roots of a row of trees that begins at a place -/
def roots : List Tr → Nat → List Nat
  | [], _ => []
  | t :: ts, off => off :: roots ts (off + t.size)
mutual
def Tr.ch : Tr → Nat → List (List Nat)
  | .nd _ ts, off => roots ts (off + 1) :: chL ts (off + 1)
def chL : List Tr → Nat → List (List Nat)
  | [], _ => []
  | t :: ts, off => t.ch off ++ chL ts (off + t.size)
end
theorem roots_len : ∀ (ts : List Tr) (off : Nat), (roots ts off).length = ts.length
  | [], _ => rfl
  | t :: ts, off => by
    show (roots ts _).length + 1 = ts.length + 1
    rw [roots_len ts]
mutual
theorem Tr.chF_of (t : Tr) : ∀ (rest : List Nat) (off : Nat) (w : List Nat) (f : List (List Nat)), chF rest (off + t.size) = some (w, f) → chF (t.nodes.map (·.2) ++ rest) off = some (w ++ [off], t.ch off ++ f) := by
  cases t with
  | nd wd ts =>
    intro rest off w f h
    have ih := chF_ofL ts rest (off + 1) w f (by
      have e : off + Tr.size (.nd wd ts) = off + 1 + (nodesL ts).length := by
        show off + ((nodesL ts).length + 1) = _
        omega
      rw [← e]
      exact h)
    show chF (ts.length :: ((nodesL ts).map (·.2) ++ rest)) off = _
    rw [chF_cons, ih]
    have hl : (roots ts (off + 1)).reverse.length = ts.length := by rw [List.length_reverse, roots_len]
    have hn : ¬ (w ++ (roots ts (off + 1)).reverse).length < ts.length := by rw [List.length_append, hl]; omega
    simp only
    rw [if_neg hn]
    have h1 : (w ++ (roots ts (off + 1)).reverse).length - ts.length = w.length := by rw [List.length_append, hl]; omega
    rw [h1, List.take_left, List.drop_left, List.reverse_reverse]
    rfl
theorem chF_ofL (ts : List Tr) : ∀ (rest : List Nat) (off : Nat) (w : List Nat) (f : List (List Nat)), chF rest (off + (nodesL ts).length) = some (w, f) → chF ((nodesL ts).map (·.2) ++ rest) off = some (w ++ (roots ts off).reverse, chL ts off ++ f) := by
  cases ts with
  | nil =>
    intro rest off w f h
    show chF rest off = some (w ++ [], [] ++ f)
    rw [List.append_nil]
    exact h
  | cons t ts =>
    intro rest off w f h
    have h1 := chF_ofL ts rest (off + t.size) w f (by
      have e : off + (nodesL (t :: ts)).length = off + t.size + (nodesL ts).length := by
        show off + (t.nodes ++ nodesL ts).length = _
        rw [List.length_append]
        show off + (t.size + _) = _
        omega
      rw [← e]
      exact h)
    have h2 := Tr.chF_of t ((nodesL ts).map (·.2) ++ rest) off _ _ h1
    show chF ((t.nodes ++ nodesL ts).map (·.2) ++ rest) off = some (w ++ (off :: roots ts (off + t.size)).reverse, (t.ch off ++ chL ts (off + t.size)) ++ f)
    rw [List.map_append, List.append_assoc, h2, List.reverse_cons, List.append_assoc, List.append_assoc]
end
theorem roots_app : ∀ (ts us : List Tr) (off : Nat), roots (ts ++ us) off = roots ts off ++ roots us (off + (nodesL ts).length)
  | [], us, off => rfl
  | t :: ts, us, off => by
    show off :: roots (ts ++ us) (off + t.size) = off :: (roots ts (off + t.size) ++ _)
    rw [roots_app ts us]
    congr 3
    show off + t.size + (nodesL ts).length = off + (t.nodes ++ nodesL ts).length
    rw [List.length_append]
    show _ = off + (t.size + _)
    omega
theorem nodesL_app : ∀ (ts us : List Tr), nodesL (ts ++ us) = nodesL ts ++ nodesL us
  | [], us => rfl
  | t :: ts, us => by
    show t.nodes ++ nodesL (ts ++ us) = (t.nodes ++ nodesL ts) ++ nodesL us
    rw [nodesL_app ts us, List.append_assoc]
theorem chL_app : ∀ (ts us : List Tr) (off : Nat), chL (ts ++ us) off = chL ts off ++ chL us (off + (nodesL ts).length)
  | [], us, off => rfl
  | t :: ts, us, off => by
    show t.ch off ++ chL (ts ++ us) (off + t.size) = (t.ch off ++ chL ts (off + t.size)) ++ _
    rw [chL_app ts us, List.append_assoc]
    congr 3
    show off + t.size + (nodesL ts).length = off + (t.nodes ++ nodesL ts).length
    rw [List.length_append]
    show _ = off + (t.size + _)
    omega
/-- a row that is read is a row of trees -/
theorem chF_trees : ∀ {nds : List Nd} {off : Nat} {w : List Nat} {f : List (List Nat)}, chF (nds.map (·.2)) off = some (w, f) → ∃ ts, nds = nodesL ts ∧ w = (roots ts off).reverse ∧ f = chL ts off
  | [], off, w, f, h => by
    cases h
    exact ⟨[], rfl, rfl, rfl⟩
  | (wd, a) :: nds, off, w, f, h => by
    have h : chF (a :: nds.map (·.2)) off = some (w, f) := h
    rw [chF_cons] at h
    cases q : chF (nds.map (·.2)) (off + 1) with
    | none => rw [q] at h; cases h
    | some p =>
      obtain ⟨w', f'⟩ := p
      rw [q] at h
      simp only at h
      obtain ⟨ts, rfl, rfl, rfl⟩ := chF_trees q
      have hl : (roots ts (off + 1)).reverse.length = ts.length := by rw [List.length_reverse, roots_len]
      rw [hl] at h
      split at h
      · cases h
      · rename_i hge
        cases h
        have ht : ts = ts.take a ++ ts.drop a := (List.take_append_drop a ts).symm
        have hta : (ts.take a).length = a := by rw [List.length_take]; omega
        refine ⟨.nd wd (ts.take a) :: ts.drop a, ?_, ?_, ?_⟩
        · show (wd, a) :: nodesL ts = ((wd, (ts.take a).length) :: nodesL (ts.take a)) ++ nodesL (ts.drop a)
          rw [hta, List.cons_append, ← nodesL_app, ← ht]
        · show _ = (off :: roots (ts.drop a) (off + Tr.size (.nd wd (ts.take a)))).reverse
          rw [List.reverse_cons]
          congr 1
          have h1 : roots ts (off + 1) = roots (ts.take a) (off + 1) ++ roots (ts.drop a) (off + 1 + (nodesL (ts.take a)).length) := by
            rw [← roots_app, ← ht]
          have h2 : off + Tr.size (.nd wd (ts.take a)) = off + 1 + (nodesL (ts.take a)).length := by
            show off + ((nodesL (ts.take a)).length + 1) = _
            omega
          rw [h1, h2, List.reverse_append, List.take_left']
          rw [List.length_reverse, roots_len, List.length_drop]
        · show _ = (roots (ts.take a) (off + 1) :: chL (ts.take a) (off + 1)) ++ chL (ts.drop a) (off + Tr.size (.nd wd (ts.take a)))
          have h1 : roots ts (off + 1) = roots (ts.take a) (off + 1) ++ roots (ts.drop a) (off + 1 + (nodesL (ts.take a)).length) := by
            rw [← roots_app, ← ht]
          have h2 : off + Tr.size (.nd wd (ts.take a)) = off + 1 + (nodesL (ts.take a)).length := by
            show off + ((nodesL (ts.take a)).length + 1) = _
            omega
          rw [List.cons_append, h2, ← chL_app, ← ht]
          congr 1
          rw [h1, List.reverse_append, List.drop_left', List.reverse_reverse]
          rw [List.length_reverse, roots_len, List.length_drop]
theorem chOf_tree {nds : List Nd} {cs : List (List Nat)} (h : chOf nds = some cs) : ∃ t : Tr, nds = t.nodes ∧ cs = t.ch 0 := by
  unfold chOf at h
  cases q : chF (nds.map (·.2)) 0 with
  | none => rw [q] at h; cases h
  | some p =>
    obtain ⟨w, f⟩ := p
    rw [q] at h
    simp only at h
    split at h
    · rename_i hw
      cases h
      obtain ⟨ts, rfl, h1, rfl⟩ := chF_trees q
      have hl : ts.length = 1 := by
        have := congrArg List.length h1
        rw [hw, List.length_reverse, roots_len] at this
        exact this.symm
      match ts, hl with
      | [t], _ => exact ⟨t, by show t.nodes ++ [] = _; rw [List.append_nil], by show t.ch 0 ++ [] = _; rw [List.append_nil]⟩
    · cases h
theorem Tr.chOf (t : Tr) : TM.chOf t.nodes = some (t.ch 0) := by
  unfold TM.chOf
  have := Tr.chF_of t [] 0 [] [] rfl
  rw [List.append_nil, List.append_nil] at this
  rw [this]
  rfl

/-! ### texts, heights, ends -/
mutual
def Tr.text : Tr → Str
  | .nd w [] => w
  | .nd w (t :: ts) => w ++ "(" ++ Txt.join ", " (t.text :: textsL ts) ++ ")"
def textsL : List Tr → List Str
  | [] => []
  | t :: ts => t.text :: textsL ts
end
mutual
def Tr.ht : Tr → Nat
  | .nd _ ts => htL ts
def htL : List Tr → Nat
  | [] => 0
  | t :: ts => max (t.ht + 1) (htL ts)
end
mutual
def Tr.ends : Tr → Nat → List Nat
  | .nd _ ts, off => (off + 1 + (nodesL ts).length) :: endsL ts (off + 1)
def endsL : List Tr → Nat → List Nat
  | [], _ => []
  | t :: ts, off => t.ends off ++ endsL ts (off + t.size)
end
mutual
def Tr.All (P : Str → Prop) : Tr → Prop
  | .nd w ts => P w ∧ AllL P ts
def AllL (P : Str → Prop) : List Tr → Prop
  | [] => True
  | t :: ts => t.All P ∧ AllL P ts
end
theorem textsL_map : ∀ ts : List Tr, textsL ts = ts.map Tr.text
  | [] => rfl
  | t :: ts => by
    show t.text :: textsL ts = _
    rw [textsL_map ts]
    rfl
theorem text_nd {w : Str} {ts : List Tr} (h : ts ≠ []) : Tr.text (.nd w ts) = w ++ "(" ++ Txt.join ", " (ts.map Tr.text) ++ ")" := by
  cases ts with
  | nil => exact absurd rfl h
  | cons t ts =>
    show w ++ "(" ++ Txt.join ", " (t.text :: textsL ts) ++ ")" = _
    rw [textsL_map]
    rfl
theorem htL_lt : ∀ {ts : List Tr} {t : Tr}, t ∈ ts → t.ht < htL ts
  | u :: ts, t, h => by
    show t.ht < max (u.ht + 1) (htL ts)
    rcases List.mem_cons.mp h with rfl | h
    · omega
    · have := htL_lt h
      omega
theorem AllL_mem {P : Str → Prop} : ∀ {ts : List Tr}, AllL P ts → ∀ t ∈ ts, t.All P
  | u :: ts, h, t, ht => by
    rcases List.mem_cons.mp ht with rfl | ht
    · exact h.1
    · exact AllL_mem h.2 t ht
/-- the tree s stands at the place p of a row -/
def Sub (nds : List Nd) (cs : List (List Nat)) (p : Nat) (s : Tr) : Prop := s.nodes <+: nds.drop p ∧ s.ch p <+: cs.drop p
theorem Sub.root (t : Tr) : Sub t.nodes (t.ch 0) 0 t := ⟨by rw [List.drop_zero]; exact List.prefix_refl _, by rw [List.drop_zero]; exact List.prefix_refl _⟩
theorem get_of_prefix {α : Type} {x : α} {r l : List α} {p : Nat} (h : x :: r <+: l.drop p) : l[p]? = some x := by
  obtain ⟨q, hq⟩ := h
  have : (l.drop p)[0]? = some x := by rw [← hq]; rfl
  rw [List.getElem?_drop] at this
  simpa using this
theorem Sub.at {nds : List Nd} {cs : List (List Nat)} {p : Nat} {w : Str} {ts : List Tr} (h : Sub nds cs p (.nd w ts)) : nds[p]? = some (w, ts.length) ∧ cs[p]? = some (roots ts (p + 1)) := ⟨get_of_prefix h.1, get_of_prefix h.2⟩
theorem drop_of_prefix {α : Type} {x r l : List α} {p : Nat} (h : x ++ r <+: l.drop p) : x <+: l.drop p ∧ r <+: l.drop (p + x.length) := by
  obtain ⟨q, hq⟩ := h
  refine ⟨⟨r ++ q, by rw [← hq, List.append_assoc]⟩, ⟨q, ?_⟩⟩
  rw [← List.drop_drop, ← hq, List.append_assoc, List.drop_left]
mutual
theorem Tr.ch_len (t : Tr) : ∀ off, (t.ch off).length = t.size := by
  cases t with
  | nd w ts =>
    intro off
    show (chL ts (off + 1)).length + 1 = (nodesL ts).length + 1
    rw [chL_len ts]
theorem chL_len (ts : List Tr) : ∀ off, (chL ts off).length = (nodesL ts).length := by
  cases ts with
  | nil =>
    intro off
    rfl
  | cons t ts =>
    intro off
    show (t.ch off ++ chL ts (off + t.size)).length = (t.nodes ++ nodesL ts).length
    rw [List.length_append, List.length_append, Tr.ch_len t, chL_len ts]
    rfl
end
theorem subL {nds : List Nd} {cs : List (List Nat)} : ∀ {ts : List Tr} {off : Nat}, nodesL ts <+: nds.drop off → chL ts off <+: cs.drop off → ∀ (i p : Nat), (roots ts off)[i]? = some p → ∃ c, ts[i]? = some c ∧ Sub nds cs p c
  | [], off, _, _, i, p, h => by cases h
  | t :: ts, off, h1, h2, i, p, h => by
    have h1 : t.nodes ++ nodesL ts <+: nds.drop off := h1
    have h2 : t.ch off ++ chL ts (off + t.size) <+: cs.drop off := h2
    obtain ⟨a1, a2⟩ := drop_of_prefix h1
    obtain ⟨b1, b2⟩ := drop_of_prefix h2
    rw [Tr.ch_len] at b2
    cases i with
    | zero =>
      have h : some off = some p := h
      cases h
      exact ⟨t, rfl, a1, b1⟩
    | succ i =>
      have h : (roots ts (off + t.size))[i]? = some p := h
      obtain ⟨c, h3, h4⟩ := subL a2 b2 i p h
      exact ⟨c, h3, h4⟩
theorem Sub.child {nds : List Nd} {cs : List (List Nat)} {p : Nat} {w : Str} {ts : List Tr} (h : Sub nds cs p (.nd w ts)) (i q : Nat) (hq : (roots ts (p + 1))[i]? = some q) : ∃ c, ts[i]? = some c ∧ Sub nds cs q c := by
  have h1 : [(w, ts.length)] ++ nodesL ts <+: nds.drop p := h.1
  have h2 : [roots ts (p + 1)] ++ chL ts (p + 1) <+: cs.drop p := h.2
  exact subL (drop_of_prefix h1).2 (drop_of_prefix h2).2 i q hq
/-- how long a text can be -/
theorem join_len : ∀ (zs : List Str), (Str.join ", " zs).length ≤ (zs.map (·.length)).sum + 2 * zs.length
  | [] => Nat.le_refl _
  | [z] => by
    show z.length ≤ z.length + 0 + 2 * 1
    omega
  | z :: y :: r => by
    have ih := join_len (y :: r)
    have e : (Str.join ", " (z :: y :: r)).length = z.length + 2 + (Str.join ", " (y :: r)).length := by
      show ((z.cps ++ (", " : Str).cps) ++ (Str.join ", " (y :: r)).cps).size = _
      rw [Array.size_append, Array.size_append]
      rfl
    rw [e, List.map_cons, List.sum_cons, List.length_cons]
    omega
mutual
theorem Tr.text_len {m : Nat} (t : Tr) : t.All (fun w => w.length ≤ m) → t.text.length + 2 ≤ (m + 4) * t.size := by
  cases t with
  | nd w ts =>
    intro h
    have h1 : w.length ≤ m := h.1
    have h2 := texts_len ts h.2
    have hs : Tr.size (.nd w ts) = (nodesL ts).length + 1 := rfl
    cases ts with
    | nil =>
      show w.length + 2 ≤ _
      rw [hs, Nat.mul_add (m + 4)]
      omega
    | cons t ts =>
      rw [text_nd (by simp), TL.join_eq, hs, Nat.mul_add (m + 4)]
      have h3 := join_len ((t :: ts).map Tr.text)
      rw [textsL_map] at h2
      have e : (w ++ "(" ++ Str.join ", " ((t :: ts).map Tr.text) ++ ")").length = w.length + 1 + (Str.join ", " ((t :: ts).map Tr.text)).length + 1 := by
        show (((w.cps ++ ("(" : Str).cps) ++ (Str.join ", " ((t :: ts).map Tr.text)).cps) ++ (")" : Str).cps).size = _
        rw [Array.size_append, Array.size_append, Array.size_append]
        rfl
      rw [e]
      rw [List.length_map] at h3
      omega
theorem texts_len {m : Nat} (ts : List Tr) : AllL (fun w => w.length ≤ m) ts → ((textsL ts).map (·.length)).sum + 2 * ts.length ≤ (m + 4) * (nodesL ts).length := by
  cases ts with
  | nil =>
    intro _
    exact Nat.zero_le _
  | cons t ts =>
    intro h
    have h1 := Tr.text_len t h.1
    have h2 := texts_len ts h.2
    show (t.text.length + ((textsL ts).map (·.length)).sum) + 2 * (ts.length + 1) ≤ (m + 4) * (t.nodes ++ nodesL ts).length
    rw [List.length_append, Nat.mul_add (m + 4)]
    have : (m + 4) * t.size = (m + 4) * t.nodes.length := rfl
    omega
end

theorem Tr.size_pos (t : Tr) : 1 ≤ t.size := by
  cases t with
  | nd w ts =>
    show 1 ≤ (nodesL ts).length + 1
    omega
theorem lenL : ∀ ts : List Tr, ts.length ≤ (nodesL ts).length
  | [] => Nat.le_refl _
  | t :: ts => by
    show ts.length + 1 ≤ (t.nodes ++ nodesL ts).length
    rw [List.length_append]
    have := lenL ts
    have h : 1 ≤ t.nodes.length := t.size_pos
    omega
theorem sizeL_mem : ∀ {ts : List Tr} {t : Tr}, t ∈ ts → t.size ≤ (nodesL ts).length
  | u :: ts, t, h => by
    show t.size ≤ (u.nodes ++ nodesL ts).length
    rw [List.length_append]
    rcases List.mem_cons.mp h with rfl | h
    · show t.nodes.length ≤ _
      omega
    · have := sizeL_mem h
      omega
def spText (K : PySem.W.Frag) (h : Nat) : Sp := fun vs H Q _ => ∃ (n c : Addr) (p : Nat) (nds : List Nd) (cs : List (List Nat)) (s : Tr), vs = [.ref n, .ref c, .int (p : Int)] ∧ NodesAt K H n nds ∧ ChT K H c cs ∧ Sub nds cs p s ∧ s.ht < h ∧ s.All (fun w => w.length ≤ 100) ∧ s.size ≤ 100 ∧ ∀ H', Gx H H' → Q (.str s.text) H'
def spPlaces (K : PySem.W.Frag) : Sp := fun vs H Q _ => ∃ (n : Addr) (nds : List Nd) (w : Str), vs = [.ref n, .str w] ∧ NodesAt K H n nds ∧ nds.length ≤ 1000 ∧ ∀ p H', Gx H H' → H p = none → H' p = some (.tup (intsV (plc nds w))) → Q (.ref p) H'
theorem ChT.gx {K : PySem.W.Frag} {H H' : Hp} {a : Addr} {cs : List (List Nat)} (e : Gx H H') (h : ChT K H a cs) : ChT K H' a cs := h.firm e.k
theorem NodesAt.gx {K : PySem.W.Frag} {H H' : Hp} {a : Addr} {nds : List Nd} (e : Gx H H') (h : NodesAt K H a nds) : NodesAt K H' a nds := by
  obtain ⟨xs, h1, h2⟩ := h.ex
  exact ⟨⟨xs, e.t h1, h2.gx e⟩⟩
end TM

set_option Elab.async false
set_option maxRecDepth 100000
set_option maxHeartbeats 2000000
/-! enumerate(a tuple) -/
namespace Ly
open PySem PySem.Spec PyProof.Rows L2
open AutoSeq1 (wpAny_loadPart')
theorem enumT_new (tp : Addr) (vals : Array Value) (ob : Obj) (hcl : ob.cls = .type "tuple") (hda : ∃ nn, ob.data = .seq vals nn) :
    Meets (Builtin.«enumerate.__new__» ⟨[.type "enumerate", .ref tp], []⟩) (fun _ R st => st.heap.get? tp = some ob ∧
      R (.ok (.ret (.ref (st.heap.push { cls := .type "tuple_iterator", data := .fields #[.ref tp, .int 0 0] }).objs.size)))
        { st with heap := (st.heap.push { cls := .type "tuple_iterator", data := .fields #[.ref tp, .int 0 0] }).push { cls := .type "enumerate", data := .fields #[.none, .bool false, .ref st.heap.objs.size, rawInt 0, .none, .none] } }) :=
  .of_wp fun prog w A R st hh => by
    obtain ⟨hp, gs, dr, tk, os⟩ := st
    obtain ⟨hob, hh⟩ := hh
    obtain ⟨oc, od, dt, sl⟩ := ob
    obtain ⟨nn, hda⟩ := hda
    simp only at hcl hda
    subst hcl hda
    have ss := sub_enumerate
    have it : Heap.IsTuple (Shared.heap ⟨hp, gs, dr, tk, os⟩) tp vals := ⟨_, hob, rfl, nn, rfl⟩
    wp_walk using wpAny_loadPart' hob
    refine wpAny_stack_any fun _ => wpAny_pure ?_
    split
    · rename_i cc _ _ _ _ _
      cases (cc == Value.type "enumerate")
      all_goals
        wp_walk using wpAny_loadPart' hob, wpAny_pyIter_tuple it
        exact ⟨_, rfl, hh⟩
    · wp_walk using wpAny_loadPart' hob, wpAny_pyIter_tuple it
      exact ⟨_, rfl, hh⟩

theorem enumT_call {prog : Program} {w : World} {A : Around} {E : Value → Shared → Prop} {s : Shared} {tp : Addr} {vals : Array Value} {Q : Value → Shared → Prop} (ht : s.heap.IsTuple tp vals)
    (k : ∀ h', IsEnum h' (s.heap.objs.size + 1) s.heap.objs.size 0 .none → h'.IsTupleIter s.heap.objs.size tp 0 → (∀ b ob, s.heap.get? b = some ob → h'.get? b = some ob) → Q (.ref (s.heap.objs.size + 1)) { s with heap := h' }) :
    wpAny (model prog w) A (call (.type "enumerate") [.ref tp]) Q E s := by
  obtain ⟨ob, hob, hcl, nn, hda⟩ := ht
  have sz : (s.heap.push { cls := .type "tuple_iterator", data := .fields #[.ref tp, .int 0 0] }).objs.size = s.heap.objs.size + 1 := Heap.size_push ..
  refine callType_new F.called_enumerate (by decide) (F.typeCall_enumerate_1 _) (F.newCall_enumerate_1 _) (fun o => F.args_object_init_2 o _) F.entry_enumerate_new (enumT_new tp vals ob hcl ⟨nn, hda⟩) ⟨hob, ?_⟩
  show _ ∧ _
  rw [sz]
  have en : IsEnum ((s.heap.push { cls := .type "tuple_iterator", data := .fields #[.ref tp, .int 0 0] }).push { cls := .type "enumerate", data := .fields #[.none, .bool false, .ref s.heap.objs.size, rawInt 0, .none, .none] }) (s.heap.objs.size + 1) s.heap.objs.size 0 .none := by
    have q := Heap.get?_push_size (s.heap.push { cls := .type "tuple_iterator", data := .fields #[.ref tp, .int 0 0] }) (o := { cls := .type "enumerate", data := .fields #[.none, .bool false, .ref s.heap.objs.size, rawInt 0, .none, .none] }) rfl
    rw [sz] at q
    exact q
  exact ⟨⟨_, en, rfl⟩, k _ en ⟨_, Heap.get?_push_of_some _ (Heap.get?_push_size _ rfl), rfl, rfl⟩ fun b o x => Heap.get?_push_of_some _ (Heap.get?_push_of_some _ x)⟩
/-- the tuple at a, its items in new pairs with their places -/
def Ityt (K : PySem.W.Frag) (a : Addr) : It :=
  ⟨fun i H => ∃ xs x, SqT K H a xs ∧ xs[i]? = some x, fun i H v H' => ∃ T x, v = .ref T ∧ H T = none ∧ H' = upd H T (.tup [.int (i : Nat), x]) ∧ ∀ xs, SqT K H a xs → xs[i]? = some x, fun i H => ∃ xs, SqT K H a xs ∧ xs.length = i⟩
theorem turn_enumT {P : Program} {w : World} {K : PySem.W.Frag} {elts : List Expr} {kk : Nat} {tpos : Pos} (a e it : Addr) :
    Turn P w K (.Tuple elts kk tpos) (Ityt K a) [e, it] e (fun i h => (∃ old, IsEnum h e it ((i : Nat) : Int) old) ∧ h.IsTupleIter it a i ∧ e ≠ it ∧ a ≠ it ∧ a ≠ e) where
  mem := by simp
  obj := fun i h st b hb => by
    obtain ⟨⟨old, he⟩, ⟨o, ho, hc, hd⟩, _⟩ := st
    rcases (by simpa using hb : b = e ∨ b = it) with rfl | rfl
    · exact ⟨_, he, fun v q => nomatch q⟩
    · exact ⟨o, ho, fun v q => by rw [hd] at q; cases q⟩
  keep := fun i h h' st k => by
    obtain ⟨⟨old, he⟩, hi, r⟩ := st
    exact ⟨⟨old, k e (by simp) _ he⟩, hi.at fun o q => k it (by simp) o q, r⟩
  item := by
    intro X hP hw hK hc i pins s σ H E I hf st hg
    subst hP hw hK
    obtain ⟨⟨old, he⟩, hit, hne, hat, hae⟩ := st
    obtain ⟨xs, x, hq, hx⟩ := hg
    obtain ⟨its, rv, p, hz⟩ := I.tuple hq
    obtain ⟨u, hu, ru⟩ := rv.get hx
    have hel : e < s.heap.objs.size := Heap.lt_size he
    have hil : it < s.heap.objs.size := by
      obtain ⟨_, q, _⟩ := hit
      exact Heap.lt_size q
    have hin : i < its.toArray.size := by
      have := (List.getElem?_eq_some_iff.mp hu).1
      simpa using this
    have hh : X.A.handled = none := I.ok.hd hc
    refine wpAny_pyNext_enum_itemD (Draws.tuple (A := X.A.in1) hh it a hat its.toArray) he ⟨hit, p⟩ hin hne (by simp [hne, Ne.symm hae]) fun y h' tk hy ho hst hT hsz hk => ?_
    have hyu : y = u := by
      have hy : its.toArray[i]? = some y := hy
      rw [show its.toArray[i]? = its[i]? by simp, hu] at hy
      exact (Option.some.inj hy).symm
    subst hyu
    refine ⟨_, rfl, wpAny_letOwnedTupleGo_enum (s := { s with heap := h', toks := tk + 1 }) ho fun h'' he' sb => ?_⟩
    have hT2 : h''.get? s.heap.objs.size = some { cls := .type "tuple", data := .seq #[.int i tk, y] } := (sb.2 _ (Nat.ne_of_gt hel)).trans hT
    have fresh : ObjOk X.prog X.w (upd H s.heap.objs.size (.tup [.int (i : Nat), x])) h'' s.heap.objs.size (.tup [.int (i : Nat), x]) :=
      ⟨by show 2 ≤ sizeLine; decide, [.int i tk, y], .cons ⟨_, rfl⟩ (.cons ru .nil), ⟨_, hT2, rfl, _, rfl⟩⟩
    have J : Inv X pins σ (upd H s.heap.objs.size (.tup [.int (i : Nat), x])) { s with heap := h'', toks := tk + 1 } :=
      I.turnedNew (ch := [e, it]) (fun b o hb q => (sb.2 b (fun z => hb (by simp [z]))).trans (hk b o (fun z => hb (by simp [z])) (fun z => hb (by simp [z])) q)) hf (Nat.le_refl _) fresh
    refine ⟨.ref s.heap.objs.size, _, J, rfl, ⟨_, x, rfl, I.hok.fresh (Nat.le_refl _), rfl, fun ys hy => by rw [I.tuple_inj hy hq]; exact hx⟩, ⟨⟨y, ?_⟩, hst.1.at fun o q => (sb.2 it (Ne.symm hne)).trans q, hne, hat, hae⟩, fun b hb => ?_⟩
    · rw [show ((i + 1 : Nat) : Int) = (i : Int) + 1 by omega]
      exact he'
    · have lt : b < s.heap.objs.size := by
        rcases (by simpa using hb : b = e ∨ b = it) with rfl | rfl
        · exact hel
        · exact hil
      rw [upd_ne (Nat.ne_of_lt lt)]
      exact (hf b hb).1
  done := by
    intro X hP hw hK hc i pins s σ H E I hf st hg
    subst hP hw hK
    obtain ⟨⟨old, he⟩, hit, hne, hat, hae⟩ := st
    obtain ⟨xs, hq, hx⟩ := hg
    obtain ⟨its, rv, p, hz⟩ := I.tuple hq
    obtain ⟨f0, f1, f2, f3, f4, f5⟩ := hf it (by simp)
    have hl := rv.length
    have hh : X.A.handled = none := I.ok.hd hc
    have hi : i = its.toArray.size := by
      rw [← hx, hl]
      simp
    rw [hi] at he hit
    exact wpAny_pyNext_enum_endD (Draws.tuple (A := X.A.in1) hh it a hat its.toArray) he ⟨hit, p⟩ fun h' eb => ⟨rfl, I.turned (t' := s.toks) (fun b o hb q => eb b o hb q) f0 f1 f3 f4 f5⟩
  self := fun A i s Q E st h => by
    obtain ⟨⟨_, he⟩, _⟩ := st
    exact wpAny_pyIter_enum he h

def iEnumT (K : PySem.W.Frag) (ta : TA) : TI := fun σ H R => ta σ H fun vs H1 => ∃ a xs, vs = [.ref a] ∧ SqT K H1 a xs ∧ R (Ityt K a) H1
theorem pi_enumT {X : Cx} {e : Expr} {ta : TA} {p pos tpos : Pos} {elts : List Expr} {kk : Nat} (hg : Gl X "enumerate") (hm : X.mg "enumerate" = none) (ha : PA X [e] ta) (hs : starEach [e] X.env = [(false, eval e X.env)] := by rfl) :
    PI X (.Tuple elts kk tpos) (.Call (.Name "enumerate" p) [e] [] pos) (iEnumT X.K ta) := by
  refine ⟨fun pins s σ H R I h => ?_⟩
  refine Call_ (ld_blt I hg hm boot_enumerate (PyProof.Rows.callWith_type1 (thn (ha.run pos pins s σ H _ I h) fun us s1 ⟨vs, H1, I1, r1, a, xs, ex, hq, q⟩ => ?_) hs rfl))
  subst ex
  obtain ⟨u, rfl, ru⟩ := vals1 r1
  obtain rfl : u = Value.ref a := ru
  obtain ⟨its, rv, tup, hz⟩ := I1.tuple hq
  have hal : a < s1.heap.objs.size := tup.lt
  refine enumT_call tup fun h' he hit hk => wpAny_pyIter_enum he ?_
  have J : Inv X pins σ H1 { s1 with heap := h' } := I1.kept (t' := s1.toks) hk
  refine ⟨s1.heap.objs.size + 1, [s1.heap.objs.size + 1, s1.heap.objs.size], _, _, H1, rfl, J, turn_enumT a (s1.heap.objs.size + 1) s1.heap.objs.size, ⟨⟨.none, he⟩, hit, Nat.succ_ne_self _, Nat.ne_of_lt hal, Nat.ne_of_lt (Nat.lt_succ_of_lt hal)⟩, fun b hb => ?_, q⟩
  have le : s1.heap.objs.size ≤ b := by
    rcases (by simpa using hb : b = s1.heap.objs.size + 1 ∨ b = s1.heap.objs.size) with rfl | rfl
    · exact Nat.le_succ _
    · exact Nat.le_refl _
  exact I1.fpOk le (I1.hok.fresh le)
theorem kpi_enumT {X : Cx} {K : PySem.W.Frag} {e : Expr} {ta : TA} {p pos tpos : Pos} {elts : List Expr} {kk : Nat} (hg : Gl X "enumerate") (hm : X.mg "enumerate" = none) (ha : PA X [e] ta) (hK : X.K = K := by rfl) (hs : starEach [e] X.env = [(false, eval e X.env)] := by rfl) :
    PI X (.Tuple elts kk tpos) (.Call (.Name "enumerate" p) [e] [] pos) (iEnumT K ta) := by
  subst hK
  exact pi_enumT hg hm ha hs
theorem walk_enumT {K : PySem.W.Frag} {a : Addr} {xs : List V} : Walk (Ityt K a) xs.length (fun H => SqT K H a xs) (YPair (fun i => some (.int (i : Nat))) (fun i => xs[i]?)) :=
  ⟨fun i _ hi q => ⟨xs, xs[i], q, by simp [hi]⟩, fun _ q => ⟨xs, q, rfl⟩, fun i H v H' _ q ⟨T, x, h1, h2, h3, h4⟩ => ⟨T, .int (i : Nat), x, h1, h2, h3, rfl, h4 xs q⟩⟩
theorem evw_enumT {K : PySem.W.Frag} {σ : L2.St} {H : Hp} {tl : TE} {xs : List V} (h : EvG tl σ H (TupK K xs)) : EvW (iEnumT K (tCons tl tNil)) σ H xs.length (fun i x H => ∃ T y, x = .ref T ∧ H T = some (.tup [.int (i : Nat), y]) ∧ xs[i]? = some y) := fun H1 e R q =>
  h H1 e _ fun v H2 e2 ⟨p, z, hp⟩ => ⟨p, xs, by rw [z], hp, q _ H2 _ _ e2 walk_enumT (fun H3 e3 => e3.t hp) fun i H3 x H4 hi _ ⟨T, x1, y1, hx, hT, h4, h5, h6⟩ => by
    subst h4
    have h5 : some (V.int (i : Nat)) = some x1 := h5
    cases h5
    exact ⟨Gx.new hT, T, y1, hx, upd_same, h6⟩⟩
end Ly

set_option Elab.async false
set_option maxRecDepth 100000
set_option maxHeartbeats 1000000
/-! Terms as objects. -/
namespace TM
open PySem L2 Ly
/-- heaps in which all stays but lists and instances -/
def Sx (H H' : Hp) : Prop := ∀ a o, H a = some o → (∀ xs, o ≠ .lst xs) → (∀ C dx fs, o ≠ .ins C dx fs) → H' a = some o
theorem Sx.refl (H : Hp) : Sx H H := fun _ _ h _ _ => h
theorem Sx.trans {H H1 H2 : Hp} (a : Sx H H1) (b : Sx H1 H2) : Sx H H2 := fun x o h h1 h2 => b x o (a x o h h1 h2) h1 h2
theorem sx_of {H H' : Hp} (e : Gx H H') : Sx H H' := fun a o h _ _ => e a o h
theorem sx_put {H : Hp} {a C dx : Addr} {fs : List (Str × V)} {o : HO} (h : H a = some (.ins C dx fs)) : Sx H (upd H a o) := fun b u hb _ h2 => by
  by_cases z : b = a
  · subst z
    rw [h] at hb
    cases hb
    exact absurd rfl (h2 C dx fs)
  · rw [upd_ne z]
    exact hb
theorem Sx.t {K : PySem.W.Frag} {H H' : Hp} {a : Addr} {xs : List V} (e : Sx H H') (h : SqT K H a xs) : SqT K H' a xs := by
  rcases h with (h | ⟨o, h⟩) | h
  · exact .inl (.inl (e _ _ h (fun _ z => by cases z) fun _ _ _ z => by cases z))
  · exact .inl (.inr ⟨o, e _ _ h (fun _ z => by cases z) fun _ _ _ z => by cases z⟩)
  · exact .inr h
theorem Sx.d {H H' : Hp} {a : Addr} {kvs : List (Key × V)} (e : Sx H H') (h : H a = some (.dK kvs)) : H' a = some (.dK kvs) := e _ _ h (fun _ z => by cases z) fun _ _ _ z => by cases z
theorem NodesAt.sx {K : PySem.W.Frag} {H H' : Hp} {a : Addr} {nds : List Nd} (e : Sx H H') (h : NodesAt K H a nds) : NodesAt K H' a nds := by
  obtain ⟨xs, h1, h2, h3⟩ := h.ex
  refine ⟨⟨xs, e.t h1, h2, fun i n q => ?_⟩⟩
  obtain ⟨x, h4, p, z, h5⟩ := h3 i n q
  exact ⟨x, h4, p, z, e.t h5⟩
theorem ChT.sx {K : PySem.W.Frag} {H H' : Hp} {a : Addr} {cs : List (List Nat)} (e : Sx H H') (h : ChT K H a cs) : ChT K H' a cs := by
  obtain ⟨ys, h1, h2, h3⟩ := h
  refine ⟨ys, e.t h1, h2, fun i c q => ?_⟩
  obtain ⟨y, h4, p, z, h5⟩ := h3 i c q
  exact ⟨y, h4, p, z, e.t h5⟩
/-- a row of nodes told: the tuple and its nodes, tracked -/
def RowAt (H : Hp) (a : Addr) (nds : List Nd) : Prop := ∃ xs, H a = some (.tup xs) ∧ xs.length = nds.length ∧ ∀ (i : Nat) (n : Nd), nds[i]? = some n → ∃ p, xs[i]? = some (.ref p) ∧ H p = some (.tup [.str n.1, .int (n.2 : Int)])
theorem RowAt.nodes {K : PySem.W.Frag} {H : Hp} {a : Addr} {nds : List Nd} (h : RowAt H a nds) : NodesAt K H a nds := by
  obtain ⟨xs, h1, h2, h3⟩ := h
  refine ⟨⟨xs, SqT.of h1, h2, fun i n q => ?_⟩⟩
  obtain ⟨p, h4, h5⟩ := h3 i n q
  exact ⟨_, h4, p, rfl, SqT.of h5⟩
theorem RowAt.sx {H H' : Hp} {a : Addr} {nds : List Nd} (e : Sx H H') (h : RowAt H a nds) : RowAt H' a nds := by
  obtain ⟨xs, h1, h2, h3⟩ := h
  refine ⟨xs, e _ _ h1 (fun _ z => by cases z) (fun _ _ _ z => by cases z), h2, fun i n q => ?_⟩
  obtain ⟨p, h4, h5⟩ := h3 i n q
  exact ⟨p, h4, e _ _ h5 (fun _ z => by cases z) (fun _ _ _ z => by cases z)⟩
theorem RowAt.firm {H H' : Hp} {a : Addr} {nds : List Nd} (e : Kx H H') (h : RowAt H a nds) : RowAt H' a nds := by
  obtain ⟨xs, h1, h2, h3⟩ := h
  refine ⟨xs, e.tup h1, h2, fun i n q => ?_⟩
  obtain ⟨p, h4, h5⟩ := h3 i n q
  exact ⟨p, h4, e.tup h5⟩
theorem RowAt.gx {H H' : Hp} {a : Addr} {nds : List Nd} (e : Gx H H') (h : RowAt H a nds) : RowAt H' a nds := h.firm e.k
/-- the attributes of a term -/
def tfs (n c e s u l : Addr) : List (Str × V) := [("own_nodes", .ref n), ("own_children", .ref c), ("own_ends", .ref e), ("own_symbols", .ref s), ("own_unknown", .ref u), ("own_lost", .ref l)]
/-- what a tree needs to be a term -/
structure Good (t : Tr) : Prop where
  nodes : ∀ n ∈ t.nodes, GoodNd n
  size : t.size ≤ 40
  ar : ∃ l, arF t.nodes [] = some l
/-- the parts of a term -/
structure TermB (K : PySem.W.Frag) (H : Hp) (n c e s u l : Addr) (t : Tr) : Prop where
  nd : RowAt H n t.nodes
  ch : ChT K H c (t.ch 0)
  en : SqT K H e (intsV (t.ends 0))
  sy : ∃ r r', arF t.nodes [] = some r ∧ Asc (r.filter fun n => !isLeaf n.1) r' ∧ H s = some (.dK (kvD r'))
  un : SqT K H u (intsV (plc t.nodes "_"))
  lo : SqT K H l (intsV (plc t.nodes "#"))
structure TermAt (K : PySem.W.Frag) (C : Addr) (H : Hp) (a : Addr) (t : Tr) : Prop where
  ex : ∃ dx n c e s u l, H a = some (.ins C dx (tfs n c e s u l)) ∧ TermB K H n c e s u l t
  good : Good t
theorem TermB.sx {K : PySem.W.Frag} {H H' : Hp} {n c e s u l : Addr} {t : Tr} (x : Sx H H') (h : TermB K H n c e s u l t) : TermB K H' n c e s u l t := by
  obtain ⟨h1, h2, h3, ⟨r, r', h4, h5, h6⟩, h7, h8⟩ := h
  exact ⟨h1.sx x, h2.sx x, x.t h3, ⟨r, r', h4, h5, x.d h6⟩, x.t h7, x.t h8⟩
theorem TermAt.firm {K : PySem.W.Frag} {C : Addr} {H H' : Hp} {a : Addr} {t : Tr} (x : Kx H H') (h : TermAt K C H a t) : TermAt K C H' a t := by
  obtain ⟨⟨dx, n, c, e, s, u, l, h1, h2⟩, g⟩ := h
  refine ⟨⟨dx, n, c, e, s, u, l, x.keep h1 (fun _ z => by cases z), ?_⟩, g⟩
  obtain ⟨h1, h2, h3, ⟨r, r', h4, h5, h6⟩, h7, h8⟩ := h2
  exact ⟨h1.firm x, h2.firm x, x.t h3, ⟨r, r', h4, h5, x.keep h6 (fun _ z => by cases z)⟩, x.t h7, x.t h8⟩
theorem TermAt.gx {K : PySem.W.Frag} {C : Addr} {H H' : Hp} {a : Addr} {t : Tr} (x : Gx H H') (h : TermAt K C H a t) : TermAt K C H' a t := h.firm x.k
def TermT (K : PySem.W.Frag) (C : Addr) (t : Tr) : Ty := fun v H => ∃ a, v = .ref a ∧ TermAt K C H a t
theorem TermT.firm {K : PySem.W.Frag} {C : Addr} {t : Tr} : Firm (TermT K C t) := fun _ _ _ e ⟨a, z, h⟩ => ⟨a, z, h.firm e⟩
mutual
theorem Tr.ends_len (t : Tr) : ∀ off, (t.ends off).length = t.size := by
  cases t with
  | nd w ts =>
    intro off
    show (endsL ts (off + 1)).length + 1 = (nodesL ts).length + 1
    rw [endsL_len ts]
theorem endsL_len (ts : List Tr) : ∀ off, (endsL ts off).length = (nodesL ts).length := by
  cases ts with
  | nil =>
    intro off
    rfl
  | cons t ts =>
    intro off
    show (t.ends off ++ endsL ts (off + t.size)).length = (t.nodes ++ nodesL ts).length
    rw [List.length_append, List.length_append, Tr.ends_len t, endsL_len ts]
    rfl
end
theorem roots_ge : ∀ {ts : List Tr} {off k : Nat}, k ∈ roots ts off → off ≤ k
  | t :: ts, off, k, h => by
    rcases List.mem_cons.mp h with rfl | h
    · exact Nat.le_refl _
    · have := roots_ge h
      omega
theorem last_end : ∀ (ts : List Tr) (off k : Nat) (r : List Nat), (roots ts off).getLast? = some k → (endsL ts off ++ r).getD (k - off) 0 = off + (nodesL ts).length
  | [], _, _, _, h => by cases h
  | [t], off, k, r, h => by
    have h : some off = some k := h
    cases h
    cases t with
    | nd w us =>
      rw [Nat.sub_self]
      show off + 1 + (nodesL us).length = off + (((w, us.length) :: nodesL us) ++ []).length
      rw [List.append_nil, List.length_cons]
      omega
  | t :: u :: ts, off, k, r, h => by
    have h : (roots (u :: ts) (off + t.size)).getLast? = some k := by
      have h : (off :: roots (u :: ts) (off + t.size)).getLast? = some k := h
      rw [List.getLast?_cons] at h
      cases q : (roots (u :: ts) (off + t.size)).getLast? with
      | none =>
        have := congrArg List.length (List.getLast?_eq_none_iff.mp q)
        rw [roots_len] at this
        cases this
      | some x =>
        rw [q] at h
        exact h
    have hge := roots_ge (List.mem_of_getLast? h)
    have ih := last_end (u :: ts) (off + t.size) k r h
    show ((t.ends off ++ endsL (u :: ts) (off + t.size)) ++ r).getD (k - off) 0 = off + (t.nodes ++ nodesL (u :: ts)).length
    rw [List.append_assoc, List.getD_eq_getElem?_getD, List.getElem?_append_right (by rw [Tr.ends_len]; omega), Tr.ends_len, show k - off - t.size = k - (off + t.size) by omega, ← List.getD_eq_getElem?_getD, ih, List.length_append]
    show off + t.nodes.length + _ = _
    omega
mutual
theorem Tr.enF_of (t : Tr) : ∀ (f : List (List Nat)) (off : Nat), enF (t.ch off ++ f) off = t.ends off ++ enF f (off + t.size) := by
  cases t with
  | nd w ts =>
    intro f off
    have ih := enF_ofL ts f (off + 1)
    have hs : off + Tr.size (.nd w ts) = off + 1 + (nodesL ts).length := by
      show off + ((nodesL ts).length + 1) = _
      omega
    show ((match (roots ts (off + 1)).getLast? with
      | none => off + 1
      | some k => (enF (chL ts (off + 1) ++ f) (off + 1)).getD (k - (off + 1)) 0) :: enF (chL ts (off + 1) ++ f) (off + 1)) = ((off + 1 + (nodesL ts).length) :: endsL ts (off + 1)) ++ enF f (off + Tr.size (.nd w ts))
    rw [ih, hs, List.cons_append]
    congr 1
    cases hq : (roots ts (off + 1)).getLast? with
    | none =>
      have h0 : roots ts (off + 1) = [] := List.getLast?_eq_none_iff.mp hq
      have hl := congrArg List.length h0
      rw [roots_len] at hl
      have : ts = [] := List.eq_nil_of_length_eq_zero hl
      subst this
      rfl
    | some k => exact last_end ts (off + 1) k _ hq
theorem enF_ofL (ts : List Tr) : ∀ (f : List (List Nat)) (off : Nat), enF (chL ts off ++ f) off = endsL ts off ++ enF f (off + (nodesL ts).length) := by
  cases ts with
  | nil =>
    intro f off
    rfl
  | cons t ts =>
    intro f off
    have h1 := Tr.enF_of t (chL ts (off + t.size) ++ f) off
    have h2 := enF_ofL ts f (off + t.size)
    show enF ((t.ch off ++ chL ts (off + t.size)) ++ f) off = (t.ends off ++ endsL ts (off + t.size)) ++ enF f (off + (t.nodes ++ nodesL ts).length)
    rw [List.append_assoc, h1, h2, List.append_assoc, List.length_append]
    congr 3
    show off + t.nodes.length + _ = _
    omega
end
theorem Tr.enF (t : Tr) : TM.enF (t.ch 0) 0 = t.ends 0 := by
  have h := Tr.enF_of t [] 0
  rw [List.append_nil] at h
  rw [h]
  show t.ends 0 ++ [] = _
  rw [List.append_nil]
/-! children stand behind their node -/
theorem roots_lt : ∀ {ts : List Tr} {off k : Nat}, k ∈ roots ts off → k < off + (nodesL ts).length
  | t :: ts, off, k, h => by
    show k < off + (t.nodes ++ nodesL ts).length
    rw [List.length_append]
    have h1 : 1 ≤ t.nodes.length := t.size_pos
    rcases List.mem_cons.mp h with rfl | h
    · omega
    · have := roots_lt h
      have e : t.size = t.nodes.length := rfl
      omega
mutual
theorem Tr.ch_ok (t : Tr) : ∀ (off i : Nat) (c : List Nat), (t.ch off)[i]? = some c → ∀ k ∈ c, off + i < k ∧ k < off + t.size := by
  cases t with
  | nd w ts =>
    intro off i c h k hk
    have hs : off + Tr.size (.nd w ts) = off + 1 + (nodesL ts).length := by
      show off + ((nodesL ts).length + 1) = _
      omega
    cases i with
    | zero =>
      have h : some (roots ts (off + 1)) = some c := h
      cases h
      have h1 := roots_ge hk
      have h2 := roots_lt hk
      omega
    | succ i =>
      have h : (chL ts (off + 1))[i]? = some c := h
      have := chL_ok ts (off + 1) i c h k hk
      omega
theorem chL_ok (ts : List Tr) : ∀ (off i : Nat) (c : List Nat), (chL ts off)[i]? = some c → ∀ k ∈ c, off + i < k ∧ k < off + (nodesL ts).length := by
  cases ts with
  | nil =>
    intro off i c h
    cases h
  | cons t ts =>
    intro off i c h k hk
    have h : (t.ch off ++ chL ts (off + t.size))[i]? = some c := h
    have e : (nodesL (t :: ts)).length = t.size + (nodesL ts).length := by
      show (t.nodes ++ nodesL ts).length = _
      rw [List.length_append]
      rfl
    by_cases hi : i < t.size
    · rw [List.getElem?_append_left (by rw [Tr.ch_len]; exact hi)] at h
      have := Tr.ch_ok t off i c h k hk
      omega
    · rw [List.getElem?_append_right (by rw [Tr.ch_len]; omega), Tr.ch_len] at h
      have := chL_ok ts (off + t.size) (i - t.size) c h k hk
      omega
end
theorem Tr.chOk (t : Tr) : ChOk (t.ch 0) := fun i c h k hk => by
  have := Tr.ch_ok t 0 i c h k hk
  rw [Tr.ch_len]
  omega
end TM
namespace Ly
open PySem PySem.Spec PyProof.Rows L2
/-! ### classes of the text -/
/-- a class, for those who make instances -/
structure CalC (P : Program) (w : World) (K : PySem.W.Frag) (mg : Str → Option Value) (base : Heap) (CX : CXT) (x : Str) (C : Addr) (k : Nat) (ps : List Str) (sp : Sp) : Prop where
  ex : ∃ (f : Addr) (fd : FuncData), Mk K C f ∧ FnOk P w K mg base CX k f fd ps sp ∧ mg x = some (.ref C) ∧ Binds K fd ps []
/-- a class of errors over ValueError without __init__ -/
structure ExC (K : PySem.W.Frag) (mg : Str → Option Value) (nm : Str) (C : Addr) : Prop where
  x : PySem.W.excIn K C [.type "ValueError", .type "Exception", .type "BaseException", .type "object"] "ValueError.__new__" = true
  g : mg nm = some (.ref C)
  k : PySem.W.keepIn K (.ref C) = true
  b : PySem.W.subIn K (.ref C) (.type "BaseException") = some true
  t : PySem.W.typeIn K (.ref C) = some (.type "type")
section
variable {X : Cx} {CX : CXT} {k : Nat} {ps : List Str} {sp : Sp} {x : Str} {C : Addr} {p pos : Pos} {e : Expr} {es : List Expr} {t : TA} {E : XK}
theorem pe_mkc (M : CalC X.prog X.w X.K X.mg X.base CX x C k ps sp) (hr : Room (k + 1) X.A) (hg : Gl X x) (hx : Passes CX X E) (ha : PA X (e :: es) t) (hdb : (x == ("__debug__" : Str)) = false := by decide)
    (he : starEach (e :: es) X.env = (false, eval e X.env) :: starEach es X.env := by rfl) (hpl : (backTo pos (starEach es X.env)).any (·.1) = false := by rfl) :
    PE X (.Call (.Name x p) (e :: es) [] pos) (tMake C sp [] E t) := by
  obtain ⟨f, fd, M, F, hm, hb⟩ := M.ex
  exact pe_make M F hr hg hm hb .nil hx ha hdb he hpl
end
section
variable {K : PySem.W.Frag} {σ : L2.St} {H : Hp} {tv : TE} {tz : TS} {D : Ends} {Φ : Ty} {i : Nat} {a C dx : Addr} {fs : List (Str × V)} {f : Str}
theorem g_fld (h : EvG tv σ H Φ) (hs : σ[i]? = some (some (.ref a))) (ha : H a = some (.ins C dx fs)) (cl : Cls K C) (na : NoAttr K C f) (hl : fs.length < 1000) (k : ∀ y H1, Gx H H1 → Φ y H1 → tz D σ (upd H1 a (.ins C dx (putF f y fs)))) :
    tSeq (sFld K (tVar i) tv f) tz D σ H := h H (Gx.refl H) _ fun y H1 e g => ⟨_, hs, a, C, dx, fs, rfl, e _ _ ha, cl, na, hl, k y H1 e g⟩
theorem g_fld1 (h : EvG tv σ H Φ) (hs : σ[i]? = some (some (.ref a))) (ha : H a = some (.ins C dx fs)) (cl : Cls K C) (na : NoAttr K C f) (hl : fs.length < 1000) (k : ∀ y H1, Gx H H1 → Φ y H1 → D.nx σ (upd H1 a (.ins C dx (putF f y fs)))) :
    sFld K (tVar i) tv f D σ H := h H (Gx.refl H) _ fun y H1 e g => ⟨_, hs, a, C, dx, fs, rfl, e _ _ ha, cl, na, hl, k y H1 e g⟩
theorem evg_fld {v : V} {ta : TE} (h : EvG ta σ H (Eq1 (.ref a))) (ha : H a = some (.ins C dx fs)) (cl : Cls K C) (na : NoAttr K C f) (hl : fs.lookup f = some v) : EvG (tFld K ta f) σ H (Eq1 v) := fun H1 e Q q =>
  h H1 e _ fun u H2 e2 z => ⟨a, C, dx, fs, v, z, (e.trans e2) _ _ ha, cl, na, hl, q _ H2 e2 rfl⟩
end
theorem kps_fld {X : Cx} {K : PySem.W.Frag} {o value : Expr} {ta tv : TE} {f : Str} {pos pos' : Pos} (ha : PE X o ta) (hv : PE X value tv) (hs : swapsWith value (some (.Attribute o f pos')) pos.line X.env = pure false) (hK : X.K = K := by rfl) : PS X (.Assign [.Attribute o f pos'] value pos) (sFld K ta tv f) := by
  subst hK
  exact ps_fld ha hv hs
end Ly
namespace TM
open PySem L2 Ly
/-- what the text has of the class Term -/
structure TermC (K : PySem.W.Frag) (mg : Str → Option Value) (C CN CI : Addr) : Prop where
  cl : Cls K C
  n1 : NoAttr K C "own_nodes"
  n2 : NoAttr K C "own_children"
  n3 : NoAttr K C "own_ends"
  n4 : NoAttr K C "own_symbols"
  n5 : NoAttr K C "own_unknown"
  n6 : NoAttr K C "own_lost"
  gT : mg "Term" = some (.ref C)
  own : Own K C
  isT : PySem.W.kitOne K (.ref C) (.ref C) = some true
  clN : Cls K CN
  nN : NoAttr K CN "told_nodes"
  gN : mg "Nodes" = some (.ref CN)
  ownN : Own K CN
  isN : PySem.W.kitOne K (.ref CN) (.ref CN) = some true
  noTN : PySem.W.kitOne K (.ref C) (.ref CN) = some false
  noN : ∀ n ∈ ["NoneType", "bool", "int", "str", "list", "tuple", "dict"], PySem.W.kitOne K (.type n) (.ref CN) = some false
  noT : ∀ n ∈ ["NoneType", "bool", "int", "str", "list", "tuple", "dict"], PySem.W.kitOne K (.type n) (.ref C) = some false
  inv : ExC K mg "InvalidTerm" CI
def kdTy : Kd → String
  | .non => "NoneType"
  | .bl => "bool"
  | .int => "int"
  | .str => "str"
  | .lst => "list"
  | .tup => "tuple"
  | .dic => "dict"
  | .own => "object"
theorem kd_ty {K : PySem.W.Frag} {H : Hp} {v : V} {k : Kd} (h : Pl K H v k) (hk : k ≠ .own) : TyX K H v (.type (kdTy k)) ∧ kdTy k ∈ ["NoneType", "bool", "int", "str", "list", "tuple", "dict"] := by
  cases h with
  | non => exact ⟨.base .non, by decide⟩
  | bl b => exact ⟨.base (.bl b), by decide⟩
  | int i => exact ⟨.base (.int i), by decide⟩
  | str x => exact ⟨.base (.str x), by decide⟩
  | lst e => exact ⟨.base (.lst e), by decide⟩
  | tup e => exact ⟨.base (.tup e), by decide⟩
  | dK e => exact ⟨.base (.dK e), by decide⟩
  | own e o => exact absurd rfl hk
/-- all but one thing stays -/
def Gxa (a : Addr) (H H' : Hp) : Prop := ∀ b o, b ≠ a → H b = some o → H' b = some o
def spNodesInit (CN : Addr) : Sp := fun vs H Q _ => ∃ (a dx : Addr) (v : V), vs = [.ref a, v] ∧ H a = some (.ins CN dx []) ∧ ∀ H', Gxa a H H' → H' a = some (.ins CN dx [("told_nodes", v)]) → Q .non H'
/-- what Term(..) is given: a row that is told, or any value -/
inductive TermIn (K : PySem.W.Frag) (CN : Addr) (H : Hp) : V → Option Tr → Prop
  | told {a dx n : Addr} {t : Tr} : H a = some (.ins CN dx [("told_nodes", .ref n)]) → RowAt H n t.nodes → Good t → TermIn K CN H (.ref a) (some t)
  | row {n : Addr} {t : Tr} : RowAt H n t.nodes → Good t → TermIn K CN H (.ref n) (some t)
  | none {x : V} {kd : Kd} : RowIn K H x false → Pl K H x kd → kd ≠ .own → TermIn K CN H x none
def spInit (K : PySem.W.Frag) (C CN CI : Addr) : Sp := fun vs H Q E => ∃ (a dx : Addr) (x : V) (o : Option Tr), vs = [.ref a, x] ∧ H a = some (.ins C dx []) ∧ TermIn K CN H x o ∧
  (∀ t, o = some t → ∀ H', Gxa a H H' → TermAt K C H' a t → Q .non H') ∧ (o = none → ∀ H', Gxa a H H' → E (.ref CI) none H')
end TM
namespace TM
open PySem L2 Ly
theorem Gxa.refl (a : Addr) (H : Hp) : Gxa a H H := fun _ _ _ h => h
theorem Gxa.gx {a : Addr} {H H1 H2 : Hp} (e : Gxa a H H1) (g : Gx H1 H2) : Gxa a H H2 := fun b o n h => g _ _ (e b o n h)
theorem Gxa.put {a : Addr} {H H1 : Hp} {o : HO} (e : Gxa a H H1) : Gxa a H (upd H1 a o) := fun b u n h => by
  rw [upd_ne n]
  exact e b u n h
/-- from the place where an instance is made -/
theorem Gxa.made {x dx C : Addr} {H H' : Hp} (hx : H x = none) (hd : H dx = none) (e : Gxa x (upd (upd H dx (.own x)) x (.ins C dx [])) H') : Gx H H' := fun b o h => by
  have n1 : b ≠ x := fun z => by rw [z, hx] at h; cases h
  have n2 : b ≠ dx := fun z => by rw [z, hd] at h; cases h
  exact e b o n1 (by rw [upd_ne n1, upd_ne n2]; exact h)
theorem gx_made {x dx C : Addr} {H : Hp} (hx : H x = none) (hd : H dx = none) : Gx H (upd (upd H dx (.own x)) x (.ins C dx [])) := Gxa.made hx hd (Gxa.refl _ _)
/-- isinstance with a class of the text -/
theorem evg_isc {K : PySem.W.Frag} {σ : L2.St} {H : Hp} {te : TE} {C : Addr} {b : Bool} (h : EvG te σ H (fun v H => ∃ t, TyX K H v t ∧ PySem.W.kitOne K t (.ref C) = some b)) : EvG (tCB (rIsi K) (tCons te (tCons (tC (.ref C)) tNil))) σ H (BlE b) := fun H1 e Q q =>
  h H1 e _ fun v H2 e2 ⟨t, ty, kt⟩ => ⟨v, .ref C, t, .ref C, b, rfl, .own C, ty, kt, q _ H2 e2 ⟨_, rfl, rfl⟩⟩
/-- tuple(list) with what is known of the items -/
theorem evg_tupleP {K : PySem.W.Frag} {σ : L2.St} {H : Hp} {tl : TE} {Ψ : List V → Hp → Prop} (m : ∀ ys H1 H2, Gx H1 H2 → Ψ ys H1 → Ψ ys H2) (h : EvG tl σ H (fun v H => ∃ p ys, v = .ref p ∧ SqL K H p ys ∧ Ψ ys H)) :
    EvG (tCB (rTupK K) (tCons tl tNil)) σ H (fun v H => ∃ p ys, v = .ref p ∧ H p = some (.tup ys) ∧ Ψ ys H) := fun H1 e Q q =>
  h H1 e _ fun v H2 e2 ⟨p, ys, z, hp, f⟩ => ⟨p, ys, by rw [z], .inl ⟨hp, fun l hl => q _ _ (e2.trans (Gx.new hl)) ⟨l, ys, rfl, upd_same, m _ _ _ (Gx.new hl) f⟩⟩⟩
end TM
namespace TM
open PySem L2 Ly
section
variable {K : PySem.W.Frag} {σ : L2.St} {H : Hp} {ta tb : TE} {sp : Sp} {E : XK} {v w : V} {Φ : Ty}
theorem evg_call1 (h : EvG ta σ H (Eq1 v)) (k : ∀ H1, Gx H H1 → ∀ Q : VK, (∀ y H2, Gx H1 H2 → Φ y H2 → Q y H2) → sp [v] H1 Q E) : EvG (tCall sp [] E (tCons ta tNil)) σ H Φ := fun H1 e Q q =>
  h H1 e _ fun u H2 e2 z => by
    have z : u = v := z
    rw [z]
    exact k H2 (e.trans e2) Q fun y H3 e3 f => q y H3 (e2.trans e3) f
theorem evg_call2 (h : EvG ta σ H (Eq1 v)) (h2 : EvG tb σ H (Eq1 w)) (k : ∀ H1, Gx H H1 → ∀ Q : VK, (∀ y H2, Gx H1 H2 → Φ y H2 → Q y H2) → sp [v, w] H1 Q E) : EvG (tCall sp [] E (tCons ta (tCons tb tNil))) σ H Φ := fun H1 e Q q =>
  h H1 e _ fun u H2 e2 z => h2 H2 (e.trans e2) _ fun u2 H3 e3 z2 => by
    have z : u = v := z
    have z2 : u2 = w := z2
    rw [z, z2]
    exact k H3 ((e.trans e2).trans e3) Q fun y H4 e4 f => q y H4 ((e2.trans e3).trans e4) f
end
section
variable {n c e s u l : V}
abbrev fs1 (n : V) : List (Str × V) := [("own_nodes", n)]
abbrev fs2 (n c : V) : List (Str × V) := [("own_nodes", n), ("own_children", c)]
abbrev fs3 (n c e : V) : List (Str × V) := [("own_nodes", n), ("own_children", c), ("own_ends", e)]
abbrev fs4 (n c e s : V) : List (Str × V) := [("own_nodes", n), ("own_children", c), ("own_ends", e), ("own_symbols", s)]
abbrev fs5 (n c e s u : V) : List (Str × V) := [("own_nodes", n), ("own_children", c), ("own_ends", e), ("own_symbols", s), ("own_unknown", u)]
abbrev fs6 (n c e s u l : V) : List (Str × V) := [("own_nodes", n), ("own_children", c), ("own_ends", e), ("own_symbols", s), ("own_unknown", u), ("own_lost", l)]
theorem putF1 : putF "own_nodes" n [] = fs1 n := rfl
theorem putF2 : putF "own_children" c (fs1 n) = fs2 n c := rfl
theorem putF3 : putF "own_ends" e (fs2 n c) = fs3 n c e := rfl
theorem putF4 : putF "own_symbols" s (fs3 n c e) = fs4 n c e s := rfl
theorem putF5 : putF "own_unknown" u (fs4 n c e s) = fs5 n c e s u := rfl
theorem putF6 : putF "own_lost" l (fs5 n c e s u) = fs6 n c e s u l := rfl
end
/-- an instance grown and changed -/
theorem sx_step {H H1 : Hp} {a C dx : Addr} {fs fs' : List (Str × V)} (e : Gx H H1) (h : H a = some (.ins C dx fs)) : Sx H (upd H1 a (.ins C dx fs')) := (sx_of e).trans (sx_put (e _ _ h))
end TM
namespace TM
open PySem L2 Ly
theorem g_if1 {σ : L2.St} {H : Hp} {tt : TT} {tu tw : TS} {D : Ends} {R : Bool → Prop} (h : EvB tt σ H R) (k1 : R true → ∀ H1, Gx H H1 → tu D σ H1) (k2 : R false → ∀ H1, Gx H H1 → tw D σ H1) : tIfS tt tu tw D σ H := h H (Gx.refl H) _ fun b H1 e f => by
  cases b with
  | true => exact k1 f H1 e
  | false => exact k2 f H1 e
theorem RowIn.gx {K : PySem.W.Frag} {H H' : Hp} {x : V} {b : Bool} (e : Gx H H') (h : RowIn K H x b) : RowIn K H' x b := by
  cases h with
  | other p q => exact .other (p.gx e) q
  | size p q => exact .size (e _ _ p) q
  | items p q r => exact .items (e _ _ p) q ⟨r.1, fun i x hx => by
      obtain ⟨b, h1, h2⟩ := r.2.1 i x hx
      exact ⟨b, h1, NodeIn.mono _ _ _ e h2⟩, r.2.2⟩
  | nodes p q r =>
    obtain ⟨xs, h1, h2, h3⟩ := p
    refine .nodes ⟨xs, e _ _ h1, h2, fun i n hn => ?_⟩ q r
    obtain ⟨p, h4, h5⟩ := h3 i n hn
    exact ⟨p, h4, e _ _ h5⟩
end TM

set_option Elab.async false
set_option maxRecDepth 100000
set_option maxHeartbeats 1000000
/-! Operators of own classes, by their methods. -/
namespace Ly
open PySem PySem.Spec PyProof.Rows L2
/-- a method of a class of the text -/
structure CalM (P : Program) (w : World) (K : PySem.W.Frag) (mg : Str → Option Value) (base : Heap) (CX : CXT) (C : Addr) (m : Str) (k : Nat) (ps : List Str) (sp : Sp) : Prop where
  ex : ∃ (f : Addr) (fd : FuncData), Meth K C m f ∧ PySem.W.fnIn K f = true ∧ FnOk P w K mg base CX k f fd ps sp ∧ Binds K fd ps []
section
variable {X : Cx} {CX : CXT} {k : Nat} {C f : Addr} {fd : FuncData} {ps : List Str} {sp : Sp} {E : XK} {m : Str} {pins : List (Addr × Obj)} {σ : L2.St} {H : Hp} {s : Shared} {Q : VK}
/-- the callee runs, deeper in -/
theorem run_at {A : Around} {us : List Value} {vs : List V} (hfr : A.frames = X.A.frames) (F : FnOk X.prog X.w X.K X.mg X.base CX k f fd ps sp) (hr : Room k A) (hb : Binds X.K fd ps []) (hx : Passes CX X E)
    (I : Inv X pins σ H s) (r : Vals vs us) (h : sp vs H Q E) : wpAny (model X.prog X.w) A (call (.ref f) us) (EP X pins σ Q) X.xe s := by
  have hl : us.length = ps.length := by rw [← r.length]; exact F.len _ _ _ _ h
  have e0 : Env0 X.prog X.w X.K X.mg X.base A X.stack s H := by
    have e := I.env0
    exact ⟨by rw [hfr]; exact e.frames, e.mod, e.bs, e.bsz, e.funs, e.frf, e.hok, e.bare⟩
  have hbs := hb s us I.kIn (by rw [List.append_nil]; exact hl)
  rw [List.append_nil] at hbs
  refine wpAny_call (codeAny_mono (F.run A X.stack s H ⟨us, []⟩ us vs Q E hr e0 hbs r h) fun r s' hq => ?_)
  cases r with
  | error e => exact hx pins σ H s e s' I hq
  | ok fl =>
    cases fl with
    | ret u => exact I.after hq
    | next => exact False.elim hq
    | brk => exact False.elim hq
    | cont => exact False.elim hq
/-- len(x) by __len__ -/
def rLenO (C : Addr) (sp : Sp) (E : XK) : List V → Hp → VK → Prop := fun xs H Q => ∃ a dx fs, xs = [.ref a] ∧ H a = some (.ins C dx fs) ∧ sp [.ref a] H (fun v H' => ∃ n : Int, v = .int n ∧ 0 ≤ n ∧ n < 2 ^ 63 ∧ Q (.int n) H') E
theorem call_lenO (M : CalM X.prog X.w X.K X.mg X.base CX C "__len__" k ps sp) (hr : Room (k + 1) X.A) (hx : Passes CX X E) : CallR X (.builtin "len") (rLenO C sp E) := by
  intro pins s σ H xs us Q I r h
  obtain ⟨a, dx, fs, rfl, ha, q⟩ := h
  obtain ⟨u, rfl, ru⟩ := vals1 r
  obtain rfl : u = Value.ref a := ru
  obtain ⟨f, fd, hm, hf, F, hb⟩ := M.ex
  obtain ⟨mA, J, _⟩ := ins_get I.hok ha
  obtain ⟨od, J, _⟩ := J.look
  obtain ⟨m, hF⟩ := I.fr
  refine PySem.W.len_K hF I.ok.mod.kin J hm.at_ hm.fn ?_
  refine thn (run_at (vs := [.ref a]) rfl F hr.in1 hb hx I (.cons rfl .nil) q) fun v s' ⟨y, H', I', ry, n, z, h0, h1, q'⟩ => ?_
  subst z
  obtain ⟨t, rfl⟩ : ∃ t, v = Value.int n t := ry
  exact ⟨⟨h0, h1⟩, ⟨.int n, H', I'.tok _, ⟨_, rfl⟩, q'⟩⟩
end
end Ly
namespace Ly
open PySem PySem.Spec PyProof.Rows L2
section
variable {X : Cx} {CX : CXT} {k i : Nat} {C : Addr} {ps : List Str} {sp : Sp} {E : XK} {x nm : Str} {p pos : Pos} {e : Expr} {es : List Expr} {t : TA}
/-- c(..), the slot holds the class -/
def tMakeL (i : Nat) (C : Addr) (sp : Sp) (E : XK) (t : TA) : TE := fun σ H Q => σ[i]? = some (some (.ref C)) ∧ tMake C sp [] E t σ H Q
theorem pe_mkL (M : CalC X.prog X.w X.K X.mg X.base CX nm C k ps sp) (hr : Room (k + 1) X.A) (hN : X.N[i]? = some x) (hv : Vis X.env.scope x) (hx : Passes CX X E) (ha : PA X (e :: es) t)
    (hdb : (x == ("__debug__" : Str)) = false := by decide) (hcd : (x == ("__classdict__" : Str)) = false := by decide)
    (he : starEach (e :: es) X.env = (false, eval e X.env) :: starEach es X.env := by rfl) (hpl : (backTo pos (starEach es X.env)).any (·.1) = false := by rfl) : PE X (.Call (.Name x p) (e :: es) [] pos) (tMakeL i C sp E t) := by
  refine ⟨fun pins s σ H Q I h => ?_⟩
  obtain ⟨hs, ht⟩ := h
  obtain ⟨f, fd, M, F, hm, hb⟩ := M.ex
  refine wpAny_Call_Name_kw (thn ((pe_var (pos := p) hN hv hdb hcd).run pins s σ H (fun v H1 => v = .ref C ∧ H1 = H) I ⟨.ref C, hs, rfl, rfl⟩) fun u s1 ⟨v, H1, I1, r1, q1⟩ => ?_)
  obtain ⟨rfl, rfl⟩ := q1
  cases r1
  refine PySem.W.callWith_K (h₀ := X.base) I.ok.mod.kin M.kp (thn (ha.run pos pins s1 σ _ _ I1 ht) fun us s2 ⟨vs, H2, I2, r, q⟩ => ⟨I2.kIn, ?_⟩) he hpl
  exact run_make M F hr hb .nil hx I2 r q
end
/-- [y for x in .. for y in t], t a tuple that is known -/
theorem evn_lc2 {K : PySem.W.Frag} {σ : L2.St} {H : Hp} {wi : TI} {ti : TE} {n j j1 : Nat} {vs : List Nat} {Y : Nat → Ty} (L : Nat → List V) (hw : EvW wi σ H n Y) (hwp : ∀ x, wipe ((wipe σ vs).set j (some x)) vs = wipe σ vs) (hj1 : j1 < σ.length)
    (hi : ∀ i x H1, i < n → Gx H H1 → Y i x H1 → EvG ti ((wipe σ vs).set j (some x)) H1 (TupK K (L i))) (hs : ((List.range n).flatMap L).length ≤ 100000) :
    EvN (tLc2 wi (gName j) tYes (iTup K ti) (gName j1) tYes (tVar j1) vs [j1]) σ H (NewL ((List.range n).flatMap L)) := by
  intro H1 e Q q
  refine hw H1 e _ fun J H2 G Y' e2 Wk hG hY => ?_
  intro D hD
  have pre : ∀ i, i < n → ((List.range (i + 1)).flatMap L).length ≤ 100000 := fun i hi => by
    refine Nat.le_trans (List.Sublist.length_le ?_) hs
    obtain ⟨k, rfl⟩ : ∃ k, n = i + 1 + k := ⟨n - (i + 1), by omega⟩
    rw [List.range_add (n := i + 1), List.flatMap_append]
    exact List.sublist_append_left _ _
  refine ⟨fun i m H' => m + i = n ∧ Gx H2 H' ∧ H' D = some (.lst ((List.range i).flatMap L)), ⟨n, rfl, Gx.new hD, upd_same⟩, ?_⟩
  rintro i m H3 ⟨hm, e3, hD3⟩
  by_cases hin : i = n
  · subst hin
    exact .inl ⟨Wk.stops H3 (hG H3 e3), q D H3 (e2.trans e3) (e2.free hD) hD3⟩
  · have hlt : i < n := by omega
    have hp := pre i hlt
    rw [List.range_succ, List.flatMap_append, List.length_append] at hp
    have hl1 : ([i].flatMap L) = L i := by simp
    rw [hl1] at hp
    refine .inr ⟨Wk.goes i H3 hlt (hG H3 e3), fun H' => Gx H2 H' ∧ H' D = some (.lst ((List.range (i + 1)).flatMap L)), fun H' ⟨h1, h2⟩ => ⟨m - 1, by omega, by omega, h1, h2⟩, fun x H4 y => ?_⟩
    obtain ⟨e4, y⟩ := hY i H3 x H4 hlt e3 (Wk.yields i H3 x H4 hlt (hG H3 e3) y)
    have e5 := ((e.trans e2).trans e3).trans e4
    refine ⟨hwp x, ?_⟩
    simp only [tYes, if_true]
    refine hi i x H4 hlt e5 y H4 (Gx.refl _) _ fun v H5 e6 ⟨a, z, ha⟩ => ⟨a, z, ⟨_, ha⟩, ?_⟩
    refine ⟨fun c m' H' => m' + c = (L i).length ∧ Gx H2 H' ∧ Kx H5 H' ∧ H' D = some (.lst ((List.range i).flatMap L ++ (L i).take c)), ⟨(L i).length, rfl, (e3.trans e4).trans e6, Kx.refl _, by
      rw [List.take_zero, List.append_nil]
      exact (e4.trans e6) _ _ hD3⟩, ?_⟩
    rintro c m' H6 ⟨hm', e7, k7, hD6⟩
    by_cases hc : c = (L i).length
    · refine .inl ⟨(walk_tup (xs := L i)).stops H6 (k7.t ha) |> fun z => by rw [hc]; exact z, e7, ?_⟩
      rw [hc, List.take_length] at hD6
      rw [List.range_succ, List.flatMap_append, hl1]
      exact hD6
    · have hc : c < (L i).length := by omega
      refine .inr ⟨(walk_tup (xs := L i)).goes c H6 hc (k7.t ha), fun H' => Gx H2 H' ∧ Kx H5 H' ∧ H' D = some (.lst ((List.range i).flatMap L ++ (L i).take (c + 1))), fun H' ⟨h1, h2, h3⟩ => ⟨m' - 1, by omega, by omega, h1, h2, h3⟩, fun y H7 yy => ?_⟩
      obtain ⟨z7, hy⟩ := (walk_tup (xs := L i)).yields c H6 y H7 hc (k7.t ha) yy
      subst z7
      refine ⟨wipe1, ?_⟩
      refine ⟨y, ?_, _, hD6, Evl.sz_lt (by rw [List.length_append, List.length_take]; omega), e7.mut hD, k7.trans (Kx.put hD6), ?_⟩
      · rw [List.getElem?_set_self]
        rw [wipe_length, List.length_set, wipe_length]
        exact hj1
      · rw [upd_same, List.append_assoc]
        congr 3
        rw [List.take_add_one, hy]
        rfl
end Ly
namespace TM
open PySem L2 Ly
/-- items that are nodes -/
def RowL (H : Hp) (xs : List V) (nds : List Nd) : Prop := xs.length = nds.length ∧ ∀ (i : Nat) (n : Nd), nds[i]? = some n → ∃ p, xs[i]? = some (.ref p) ∧ H p = some (.tup [.str n.1, .int (n.2 : Int)])
theorem rowAt_iff {H : Hp} {a : Addr} {nds : List Nd} : RowAt H a nds ↔ ∃ xs, H a = some (.tup xs) ∧ RowL H xs nds := Iff.rfl
theorem RowL.nil {H : Hp} : RowL H [] [] := ⟨rfl, fun i n h => by cases h⟩
theorem RowL.gx {H H' : Hp} {xs : List V} {nds : List Nd} (e : Gx H H') (h : RowL H xs nds) : RowL H' xs nds := ⟨h.1, fun i n q => by
  obtain ⟨p, h1, h2⟩ := h.2 i n q
  exact ⟨p, h1, e _ _ h2⟩⟩
theorem RowL.app {H : Hp} {xs ys : List V} {nds mds : List Nd} (h : RowL H xs nds) (k : RowL H ys mds) : RowL H (xs ++ ys) (nds ++ mds) := by
  refine ⟨by rw [List.length_append, List.length_append, h.1, k.1], fun i n q => ?_⟩
  by_cases hi : i < nds.length
  · rw [List.getElem?_append_left hi] at q
    rw [List.getElem?_append_left (by rw [h.1]; exact hi)]
    exact h.2 i n q
  · rw [List.getElem?_append_right (by omega)] at q
    rw [List.getElem?_append_right (by rw [h.1]; omega), h.1]
    exact k.2 _ n q
theorem RowL.one {H : Hp} {p : Addr} {n : Nd} (h : H p = some (.tup [.str n.1, .int (n.2 : Int)])) : RowL H [.ref p] [n] := ⟨rfl, fun i m q => by
  cases i with
  | zero => cases q; exact ⟨p, rfl, h⟩
  | succ i => cases q⟩
theorem RowL.flat {H : Hp} {L : Nat → List V} : ∀ (ts : List Tr) (o : Nat), (∀ (i : Nat) (t : Tr), ts[i]? = some t → RowL H (L (o + i)) t.nodes) → RowL H ((List.range' o ts.length).flatMap L) (nodesL ts)
  | [], _, _ => .nil
  | t :: ts, o, h => by
    show RowL H (L o ++ (List.range' (o + 1) ts.length).flatMap L) (t.nodes ++ nodesL ts)
    refine (h 0 t rfl).app (RowL.flat ts (o + 1) fun i u q => ?_)
    have := h (i + 1) u q
    rw [show o + 1 + i = o + (i + 1) by omega]
    exact this
def spTermOf (K : PySem.W.Frag) (C : Addr) : Sp := fun vs H Q _ => ∃ (n : Addr) (t : Tr), vs = [.ref n] ∧ RowAt H n t.nodes ∧ Good t ∧ ∀ p H', Gx H H' → H p = none → TermAt K C H' p t → Q (.ref p) H'
def spLen (K : PySem.W.Frag) (C : Addr) : Sp := fun vs H Q _ => ∃ (a : Addr) (t : Tr), vs = [.ref a] ∧ TermAt K C H a t ∧ ∀ H', Gx H H' → Q (.int (t.size : Int)) H'
/-- a value that is a term, or surely none -/
inductive IsTerm (K : PySem.W.Frag) (C : Addr) (H : Hp) : V → Option Tr → Prop
  | term {a : Addr} {t : Tr} : TermAt K C H a t → IsTerm K C H (.ref a) (some t)
  | none {x : V} {kd : Kd} : Pl K H x kd → kd ≠ .own → IsTerm K C H x none
theorem IsTerm.gx {K : PySem.W.Frag} {C : Addr} {H H' : Hp} {x : V} {o : Option Tr} (e : Gx H H') (h : IsTerm K C H x o) : IsTerm K C H' x o := by
  cases h with
  | term h => exact .term (h.gx e)
  | none p k => exact .none (p.gx e) k
theorem IsTerm.ty {K : PySem.W.Frag} {mg : Str → Option Value} {C CN CI : Addr} (TC : TermC K mg C CN CI) {H : Hp} {x : V} {o : Option Tr} (h : IsTerm K C H x o) : ∃ t, TyX K H x t ∧ PySem.W.kitOne K t (.ref C) = some o.isSome := by
  cases h with
  | term h =>
    obtain ⟨⟨dx, n, c, e, s, u, l, h1, _⟩, _⟩ := h
    exact ⟨_, .base (.ins h1 TC.cl TC.own.ha TC.own.hn TC.own.htk TC.own.hm), TC.isT⟩
  | none p k => exact ⟨_, (kd_ty p k).1, TC.noT _ (kd_ty p k).2⟩
/-- what build is given: the word, the arguments; the term, or none -/
inductive BuildIn (K : PySem.W.Frag) (C : Addr) (H : Hp) : V → List V → Option Tr → Prop
  | word {x : V} {kd : Kd} {xs : List V} : Pl K H x kd → Small x → isNode2 x (.int (xs.length : Int)) = false → BuildIn K C H x xs none
  | arg {x : V} {kd : Kd} {xs : List V} {os : List (Option Tr)} : Pl K H x kd → Small x → isNode2 x (.int (xs.length : Int)) = true → os.length = xs.length → (∀ (i : Nat) (y : V), xs[i]? = some y → ∃ o, os[i]? = some o ∧ IsTerm K C H y o) → os.all Option.isSome = false → BuildIn K C H x xs none
  | made {w : Str} {xs : List V} {ts : List Tr} : w.length ≤ 1000 → isNode2 (.str w) (.int (ts.length : Int)) = true → xs.length = ts.length → (∀ (i : Nat) (t : Tr), ts[i]? = some t → ∃ a, xs[i]? = some (.ref a) ∧ TermAt K C H a t) → Good (.nd w ts) → BuildIn K C H (.str w) xs (some (.nd w ts))
  | bad {w : Str} {xs : List V} {ts : List Tr} : w.length ≤ 1000 → isNode2 (.str w) (.int (ts.length : Int)) = true → xs.length = ts.length → (∀ (i : Nat) (t : Tr), ts[i]? = some t → ∃ a, xs[i]? = some (.ref a) ∧ TermAt K C H a t) → 40 < Tr.size (.nd w ts) ∨ arF (Tr.nodes (.nd w ts)) [] = none → BuildIn K C H (.str w) xs none
def spBuild1 (K : PySem.W.Frag) (C CI : Addr) : Sp := fun vs H Q E => ∃ (x : V) (p : Addr) (xs : List V) (o : Option Tr), vs = [.ref C, x, .ref p] ∧ xs.length ≤ 1000 ∧ H p = some (.tup xs) ∧ BuildIn K C H x xs o ∧
  (∀ t, o = some t → ∀ q H', Gx H H' → H q = none → TermAt K C H' q t → Q (.ref q) H') ∧ (o = none → ∀ H', Gx H H' → E (.ref CI) none H')
end TM
namespace TM
open PySem L2 Ly
theorem evg_callP {σ : L2.St} {H : Hp} {ta : TE} {sp : Sp} {E : XK} {Ψ Φ : Ty} (h : EvG ta σ H Ψ) (k : ∀ v H1, Gx H H1 → Ψ v H1 → ∀ Q : VK, (∀ y H2, Gx H1 H2 → Φ y H2 → Q y H2) → sp [v] H1 Q E) : EvG (tCall sp [] E (tCons ta tNil)) σ H Φ := fun H1 e Q q =>
  h H1 e _ fun u H2 e2 z => k u H2 (e.trans e2) z Q fun y H3 e3 f => q y H3 (e2.trans e3) f
theorem size_nd {ts : List Tr} (h : ∀ t ∈ ts, t.size ≤ 40) : (nodesL ts).length ≤ 40 * ts.length := by
  induction ts with
  | nil => exact Nat.le_refl _
  | cons t ts ih =>
    show (t.nodes ++ nodesL ts).length ≤ 40 * (ts.length + 1)
    rw [List.length_append]
    have h1 := h t (List.mem_cons_self ..)
    have h2 := ih fun u hu => h u (List.mem_cons_of_mem _ hu)
    have e : t.size = t.nodes.length := rfl
    omega
theorem good_nodesL {ts : List Tr} (h : ∀ t ∈ ts, Good t) : ∀ n ∈ nodesL ts, GoodNd n := by
  induction ts with
  | nil => exact fun n hn => by cases hn
  | cons t ts ih =>
    intro n hn
    rcases List.mem_append.mp (show n ∈ t.nodes ++ nodesL ts from hn) with q | q
    · exact (h t (List.mem_cons_self ..)).nodes n q
    · exact ih (fun u hu => h u (List.mem_cons_of_mem _ hu)) n q
/-- a row that is no term's -/
theorem row_bad {K : PySem.W.Frag} {H : Hp} {a : Addr} {t : Tr} (h : RowAt H a t.nodes) (hg : ∀ n ∈ t.nodes, GoodNd n) (hb : 40 < t.size ∨ arF t.nodes [] = none) : RowIn K H (.ref a) false := by
  obtain ⟨xs, h1, h2, h3⟩ := h
  by_cases hs : 40 < t.size
  · exact .size h1 (.inr (by rw [h2]; exact hs))
  · have hb := hb.resolve_left hs
    have := RowIn.nodes (K := K) ⟨xs, h1, h2, h3⟩ ⟨t.size_pos, by show t.size ≤ 40; omega⟩ hg
    rw [hb] at this
    simpa using this
end TM
namespace TM
open PySem L2 Ly
theorem mk_use {σ : L2.St} {H : Hp} {ta : TE} {sp : Sp} {E : XK} {C : Addr} {Ψ : Ty} {Q : VK} (h : EvG ta σ H Ψ) (k : ∀ v H1, Gx H H1 → Ψ v H1 → ∀ x dx, H1 x = none → H1 dx = none → dx ≠ x → sp [.ref x, v] (upd (upd H1 dx (.own x)) x (.ins C dx [])) (fun v H2 => v = .non ∧ Q (.ref x) H2) E) :
    tMake C sp [] E (tCons ta tNil) σ H Q := h H (Gx.refl _) _ fun v H1 e f x dx hx hd hn => k v H1 e f x dx hx hd hn
theorem mkL_use {i : Nat} {σ : L2.St} {H : Hp} {ta : TE} {sp : Sp} {E : XK} {C : Addr} {Ψ : Ty} {Q : VK} (hs : σ[i]? = some (some (.ref C))) (h : EvG ta σ H Ψ) (k : ∀ v H1, Gx H H1 → Ψ v H1 → ∀ x dx, H1 x = none → H1 dx = none → dx ≠ x → sp [.ref x, v] (upd (upd H1 dx (.own x)) x (.ins C dx [])) (fun v H2 => v = .non ∧ Q (.ref x) H2) E) :
    tMakeL i C sp E (tCons ta tNil) σ H Q := ⟨hs, mk_use h k⟩
end TM
namespace Ly
open PySem PySem.Spec PyProof.Rows L2
/-- a classmethod of a class of the text -/
structure CalK (P : Program) (w : World) (K : PySem.W.Frag) (mg : Str → Option Value) (base : Heap) (CX : CXT) (C : Addr) (m : Str) (k : Nat) (sp : Sp) : Prop where
  ex : ∃ (mc : Value) (p g : Addr), ClX.CRead K C mc ∧ ClX.CMet K C mc m p g ∧ FnR P w K mg base CX k g sp
theorem pe_cmt {X : Cx} {CX : CXT} {k : Nat} {C : Addr} {m : Str} {sp : Sp} {E : XK} {o e : Expr} {es : List Expr} {ta : TE} {t : TA} {pos apos : Pos} {pl : Sem Bool} (he : PE X o ta) (M : CalK X.prog X.w X.K X.mg X.base CX C m k sp) (hr : Room k X.A) (hx : Passes CX X E) (ha : PA X (e :: es) t)
    (hst : starEach (e :: es) X.env = (false, eval e X.env) :: starEach es X.env := by rfl) (hpl : (backTo pos (starEach es X.env)).any (·.1) = false := by rfl)
    (ht : eval (.Call (.Attribute o m apos) (e :: es) [] pos) X.env = (do
      let ov ← eval o X.env
      standAt apos.atName
      let (f, first) ← holding [ov] (getMethod ov m pl)
      callWith pos f first (backTo pos (starEach (e :: es) X.env)) (backToKw pos (keywordEach [] X.env))) := by rfl) :
    PE X (.Call (.Attribute o m apos) (e :: es) [] pos) (ClX.tCMeth C sp E ta t) := by
  obtain ⟨mc, p, g, r, c, F⟩ := M.ex
  exact ClX.pe_cmeth (pl := pl) he r c F hr hx ha hst hpl ht
end Ly
namespace TM
open PySem L2 Ly
theorem BuildIn.gx {K : PySem.W.Frag} {C : Addr} {H H' : Hp} {x : V} {xs : List V} {o : Option Tr} (e : Gx H H') (h : BuildIn K C H x xs o) : BuildIn K C H' x xs o := by
  cases h with
  | word p s b => exact .word (p.gx e) s b
  | arg p s b l k a => exact .arg (p.gx e) s b l (fun i y hy => by
      obtain ⟨o, h1, h2⟩ := k i y hy
      exact ⟨o, h1, h2.gx e⟩) a
  | made w b l k g => exact .made w b l (fun i t ht => by
      obtain ⟨a, h1, h2⟩ := k i t ht
      exact ⟨a, h1, h2.gx e⟩) g
  | bad w b l k g => exact .bad w b l (fun i t ht => by
      obtain ⟨a, h1, h2⟩ := k i t ht
      exact ⟨a, h1, h2.gx e⟩) g
def spBuild (K : PySem.W.Frag) (C CI : Addr) : Sp := fun vs H Q E => ∃ (x : V) (xs : List V) (o : Option Tr), vs = .ref C :: x :: xs ∧ xs.length ≤ 1000 ∧ BuildIn K C H x xs o ∧
  (∀ t, o = some t → ∀ q H', Gx H H' → H q = none → TermAt K C H' q t → Q (.ref q) H') ∧ (o = none → ∀ H', Gx H H' → E (.ref CI) none H')
theorem build_of {P : Program} {w : World} {K : PySem.W.Frag} {mg : Str → Option Value} {base : Heap} {CX : CXT} {k : Nat} {f C CI : Addr} (F : FnR P w K mg base CX k f (fun vs H Q E => ∃ ws rest, vs = ws ++ rest ∧ ws.length = ["cls", "word"].length ∧ rest.length ≤ sizeLine ∧ ∀ p, H p = none → spBuild1 K C CI (ws ++ [V.ref p]) (upd H p (.tup rest)) Q E)) :
    FnR P w K mg base CX k f (spBuild K C CI) := F.imp fun vs H Q E ⟨x, xs, o, hv, hl, hb, k1, k2⟩ => ⟨[.ref C, x], xs, hv, rfl, Evl.sz_of (by omega), fun p hp => ⟨x, p, xs, o, rfl, hl, upd_same, hb.gx (Gx.new hp), fun t z q H' e hq ht => k1 t z q H' ((Gx.new hp).trans e) ((Gx.new hp).free hq) ht, fun z H' e => k2 z H' ((Gx.new hp).trans e)⟩⟩
end TM

set_option Elab.async false
set_option maxRecDepth 100000
set_option maxHeartbeats 1000000
/-! Plain terms: tuples of a word and a tuple of plain terms. -/
namespace TM
open PySem L2 Ly
mutual
def PT (H : Hp) : Tr → V → Prop
  | .nd w ts, v => ∃ p q vs, v = .ref p ∧ H p = some (.tup [.str w, .ref q]) ∧ H q = some (.tup vs) ∧ PTL H ts vs
def PTL (H : Hp) : List Tr → List V → Prop
  | [], vs => vs = []
  | t :: ts, vs => ∃ v r, vs = v :: r ∧ PT H t v ∧ PTL H ts r
end
mutual
theorem PT.firm {H H' : Hp} (e : Kx H H') (t : Tr) : ∀ v, PT H t v → PT H' t v := by
  cases t with
  | nd w ts =>
    intro v h
    unfold PT at h ⊢
    obtain ⟨p, q, vs, z, h1, h2, h3⟩ := h
    exact ⟨p, q, vs, z, e.tup h1, e.tup h2, PTL.firm e ts vs h3⟩
theorem PTL.firm {H H' : Hp} (e : Kx H H') (ts : List Tr) : ∀ vs, PTL H ts vs → PTL H' ts vs := by
  cases ts with
  | nil =>
    intro vs h
    unfold PTL at h ⊢
    exact h
  | cons t ts =>
    intro vs h
    unfold PTL at h ⊢
    obtain ⟨v, r, z, h1, h2⟩ := h
    exact ⟨v, r, z, PT.firm e t v h1, PTL.firm e ts r h2⟩
end
theorem PT.gx {H H' : Hp} (e : Gx H H') {t : Tr} {v : V} (h : PT H t v) : PT H' t v := PT.firm e.k t v h
theorem PTL.gx {H H' : Hp} (e : Gx H H') {ts : List Tr} {vs : List V} (h : PTL H ts vs) : PTL H' ts vs := PTL.firm e.k ts vs h
theorem PT.ex {H : Hp} {w : Str} {ts : List Tr} {v : V} (h : PT H (.nd w ts) v) : ∃ p q vs, v = .ref p ∧ H p = some (.tup [.str w, .ref q]) ∧ H q = some (.tup vs) ∧ PTL H ts vs := by
  unfold PT at h
  exact h
theorem PT.mk {H : Hp} {w : Str} {ts : List Tr} {p q : Addr} {vs : List V} (h1 : H p = some (.tup [.str w, .ref q])) (h2 : H q = some (.tup vs)) (h3 : PTL H ts vs) : PT H (.nd w ts) (.ref p) := by
  unfold PT
  exact ⟨p, q, vs, rfl, h1, h2, h3⟩
theorem PTL.nil {H : Hp} : PTL H [] [] := by
  unfold PTL
  rfl
theorem PTL.cons {H : Hp} {t : Tr} {ts : List Tr} {v : V} {vs : List V} (h : PT H t v) (k : PTL H ts vs) : PTL H (t :: ts) (v :: vs) := by
  unfold PTL
  exact ⟨v, vs, rfl, h, k⟩
theorem PTL.len {H : Hp} : ∀ {ts : List Tr} {vs : List V}, PTL H ts vs → vs.length = ts.length
  | [], vs, h => by
    unfold PTL at h
    rw [h]
    rfl
  | t :: ts, vs, h => by
    unfold PTL at h
    obtain ⟨v, r, rfl, _, h⟩ := h
    rw [List.length_cons, List.length_cons, PTL.len h]
theorem PTL.get {H : Hp} : ∀ {ts : List Tr} {vs : List V}, PTL H ts vs → ∀ {i : Nat} {v : V}, vs[i]? = some v → ∃ t, ts[i]? = some t ∧ PT H t v
  | [], vs, h, i, v, q => by
    unfold PTL at h
    subst h
    cases q
  | t :: ts, vs, h, i, v, q => by
    unfold PTL at h
    obtain ⟨x, r, rfl, h1, h2⟩ := h
    cases i with
    | zero => cases q; exact ⟨t, rfl, h1⟩
    | succ i => exact PTL.get h2 (i := i) q
theorem PTL.of {H : Hp} {P : Tr → Prop} : ∀ {vs : List V}, (∀ v ∈ vs, ∃ t, PT H t v ∧ P t) → ∃ ts, PTL H ts vs ∧ ∀ t ∈ ts, P t
  | [], _ => ⟨[], PTL.nil, fun t h => by cases h⟩
  | v :: vs, h => by
    obtain ⟨t, h1, h2⟩ := h v (List.mem_cons_self ..)
    obtain ⟨ts, h3, h4⟩ := PTL.of fun u hu => h u (List.mem_cons_of_mem _ hu)
    refine ⟨t :: ts, h3.cons h1, fun u hu => ?_⟩
    rcases List.mem_cons.mp hu with rfl | hu
    · exact h2
    · exact h4 u hu
/-- words of a table, or leaves -/
def Fit (D : List Nd) (ls : List Str) (t : Tr) : Prop := ∀ n ∈ t.nodes, n ∈ D ∨ (n.1 ∈ ls ∧ n.2 = 0)
theorem mem_nodesL {n : Nd} : ∀ {ts : List Tr}, n ∈ nodesL ts → ∃ t ∈ ts, n ∈ t.nodes
  | t :: ts, h => by
    rcases List.mem_append.mp (show n ∈ t.nodes ++ nodesL ts from h) with q | q
    · exact ⟨t, List.mem_cons_self .., q⟩
    · obtain ⟨u, h1, h2⟩ := mem_nodesL q
      exact ⟨u, List.mem_cons_of_mem _ h1, h2⟩
theorem Fit.nd {D : List Nd} {ls : List Str} {w : Str} {ts : List Tr} (h : (w, ts.length) ∈ D ∨ (w ∈ ls ∧ ts.length = 0)) (k : ∀ t ∈ ts, Fit D ls t) : Fit D ls (.nd w ts) := fun n hn => by
  rcases List.mem_cons.mp (show n ∈ (w, ts.length) :: nodesL ts from hn) with rfl | q
  · exact h
  · obtain ⟨t, h1, h2⟩ := mem_nodesL q
    exact k t h1 n h2
theorem sizeL_le {m : Nat} : ∀ {ts : List Tr}, (∀ t ∈ ts, t.size ≤ m) → (nodesL ts).length ≤ m * ts.length
  | [], _ => Nat.zero_le _
  | t :: ts, h => by
    show (t.nodes ++ nodesL ts).length ≤ m * (ts.length + 1)
    rw [List.length_append, Nat.mul_add, Nat.mul_one]
    have h1 : t.nodes.length ≤ m := h t (List.mem_cons_self ..)
    have h2 := sizeL_le fun u hu => h u (List.mem_cons_of_mem _ hu)
    omega
theorem htL_le {m : Nat} : ∀ {ts : List Tr}, (∀ t ∈ ts, t.ht ≤ m) → htL ts ≤ m + 1
  | [], _ => Nat.zero_le _
  | t :: ts, h => by
    show max (t.ht + 1) (htL ts) ≤ m + 1
    have h1 := h t (List.mem_cons_self ..)
    have h2 := htL_le fun u hu => h u (List.mem_cons_of_mem _ hu)
    omega
/-! specs of the law's own defs -/
def spNodesOf (h : Nat) : Sp := fun vs H Q _ => ∃ (v : V) (t : Tr), vs = [v] ∧ PT H t v ∧ t.ht < h ∧ t.size ≤ 2000 ∧ ∀ p xs H', Gx H H' → H p = none → H' p = some (.lst xs) → RowL H' xs t.nodes → Q (.ref p) H'
structure Sym (D : List Nd) (ls : List Str) : Prop where
  nodup : (D.map (·.1)).Nodup
  len : D.length < 64
  ar : ∀ n ∈ D, n.2 ≤ 3
  con : ∃ w, (w, 0) ∈ D
  ll : ls.length ≤ 100
  lok : ∀ x ∈ ls, PyData.strOk x = true
def spDraw (h : Nat) : Sp := fun vs H Q _ => ∃ (c d l : Addr) (deep : Nat) (D : List Nd) (ls : List Str), vs = [.ref c, .ref d, .ref l, .int (deep : Int)] ∧ H c = some (diceO c) ∧ H d = some (.dK (kvD D)) ∧ H l = some (.lst (ls.map V.str)) ∧ Sym D ls ∧ deep < h ∧ deep ≤ 5 ∧
  ∀ v t H', Gx H H' → PT H' t v → Fit D ls t → t.size ≤ 4 ^ (deep + 1) → t.ht ≤ deep → Q v H'
def spSmall : Sp := fun vs H Q _ => ∃ (c d l : Addr) (deep most : Nat) (D : List Nd) (ls : List Str), vs = [.ref c, .ref d, .ref l, .int (deep : Int), .int (most : Int)] ∧ H c = some (diceO c) ∧ H d = some (.dK (kvD D)) ∧ H l = some (.lst (ls.map V.str)) ∧ Sym D ls ∧ (ls = [] → (("a", 0) : Nd) ∈ D) ∧ deep ≤ 4 ∧ 1 ≤ most ∧
  ∀ v t H', Gx H H' → PT H' t v → Fit D ls t → t.size ≤ most → t.ht ≤ 5 → Q v H'
end TM
namespace TM
open PySem L2 Ly
def LstE (xs : List V) : Ty := fun v H => ∃ p, v = .ref p ∧ H p = some (.lst xs)
theorem LstE.mono {xs : List V} : Mono (LstE xs) := fun _ _ _ e ⟨p, z, h⟩ => ⟨p, z, e _ _ h⟩
def rSortedDk : List V → Hp → VK → Prop := fun xs H Q => ∃ (a : Addr) (kvs : List (Key × V)) (ks : List Str), xs = [.ref a] ∧ Rd H a (.dK kvs) ∧ kvs.map (·.1) = ks.map Sum.inr ∧ ks.length < 64 ∧ ∀ ys p, ys.Perm ks → PyProof.Rows.sortedS ys = true → H p = none → Q (.ref p) (upd H p (.lst (ys.map V.str)))
theorem kcall_sortedD {X : Cx} (hc : X.calm = true) : CallR X (.builtin "sorted") rSortedDk := call_sortedD hc
section
variable {K : PySem.W.Frag} {σ : L2.St} {H : Hp} {ta tb td tl te : TE} {tr : TA} {xs ys : List V} {D : List Nd} {d : Addr}
theorem newl_e (h : EvN te σ H (NewL xs)) : EvG te σ H (LstE xs) := h.g fun p _ _ _ _ _ f => ⟨p, rfl, f⟩
theorem evg_le {l : Addr} (h : EvG te σ H (Eq1 (.ref l))) (hl : H l = some (.lst xs)) : EvG te σ H (LstE xs) := h.imp fun v H2 e z => ⟨l, z, e _ _ hl⟩
theorem evn_catE (ha : EvG ta σ H (LstE xs)) (hb : EvG tb σ H (LstE ys)) (hn : xs.length + ys.length ≤ 100000) : EvN (tOp rCat ta tb) σ H (NewL (xs ++ ys)) := fun H1 e Q q =>
  ha H1 e _ fun _ H2 e2 ⟨a, z, fa⟩ => hb H2 (e.trans e2) _ fun _ H3 e3 ⟨b, z2, fb⟩ => ⟨a, b, xs, ys, z, z2, e3 _ _ fa, fb, Evl.sz_of hn, fun p hp => q p _ ((e2.trans e3).trans (Gx.new hp)) ((e2.trans e3).free hp) upd_same⟩
theorem evn_lstE (h : EvGs tr σ H (fun vs _ => vs = xs)) (hn : xs.length ≤ 100000) : EvN (tLst tr) σ H (NewL xs) :=
  evn_lst h (fun vs _ z => by rw [z]; exact hn) fun vs p _ _ _ z _ _ hp => by
    rw [z] at hp
    exact hp
theorem evg_pickE (hd : EvG td σ H DiceT) (hl : EvG tl σ H (LstE xs)) (hn : 0 < xs.length ∧ xs.length ≤ 100000) : EvG (tCall (spPick K) [] E0 (tCons td (tCons tl tNil))) σ H (fun v _ => v ∈ xs) := fun H1 e Q q =>
  hd H1 e _ fun _ H2 e2 ⟨c, z, hc⟩ => hl H2 (e.trans e2) _ fun _ H3 e3 ⟨l, z2, h⟩ => ⟨c, l, xs, by rw [z, z2]; rfl, e3 _ _ hc, SqL.of h, hn.1, by omega, fun j x hj => q x H3 (e2.trans e3) (List.mem_of_getElem? hj)⟩
theorem evn_sortedD (h : EvG td σ H (Eq1 (.ref d))) (hd : H d = some (.dK (kvD D))) (hl : D.length < 64) : EvN (tCB rSortedDk (tCons td tNil)) σ H (fun p H' => ∃ zs : List Str, zs.Perm (D.map (·.1)) ∧ PyProof.Rows.sortedS zs = true ∧ H' p = some (.lst (zs.map V.str))) := fun H1 e Q q =>
  h H1 e _ fun v H2 e2 z => ⟨d, kvD D, D.map (·.1), by rw [show v = .ref d from z], .inl ((e.trans e2) _ _ hd), by unfold kvD; rw [List.map_map, List.map_map]; rfl, by rw [List.length_map]; exact hl, fun zs p h1 h2 hp => q p _ (e2.trans (Gx.new hp)) (e2.free hp) ⟨zs, h1, h2, upd_same⟩⟩
theorem evg_dgetS {w : Str} {a : Nat} (h : EvG td σ H (Eq1 (.ref d))) (hk : EvG ta σ H (Eq1 (.str w))) (hd : H d = some (.dK (kvD D))) (hw : D.lookup w = some a) : EvG (tDGet td ta) σ H (IntT fun i => i = (a : Int)) := fun H1 e Q q =>
  h H1 e _ fun v H2 e2 z => hk H2 (e.trans e2) _ fun u H3 e3 z2 => ⟨d, .int (a : Int), z, .inl ⟨kvD D, Sum.inr w, .inl (((e.trans e2).trans e3) _ _ hd), (by rw [show u = .str w from z2]; rfl), by rw [kvD_val, hw]; rfl⟩, q _ H3 (e2.trans e3) ⟨_, rfl, rfl⟩⟩
/-- [w for w in .. if ..], texts -/
theorem evn_lcS {wi : TI} {tt : TT} {j : Nat} {zs : List Str} {P : Str → Bool} (hw : EvW wi σ H zs.length (fun i x _ => (zs.map V.str)[i]? = some x)) (hn : zs.length ≤ 100000) (hj : j < σ.length)
    (ht : ∀ w ∈ zs, ∀ H1, Gx H H1 → EvB tt ((wipe σ [j]).set j (some (.str w))) H1 (fun b => b = P w)) : EvN (tLc wi (gName j) tt (tVar j) [j]) σ H (NewL ((zs.filter P).map V.str)) := by
  have hx : ∀ {i : Nat} {x : V}, (zs.map V.str)[i]? = some x → x = .str (zs.getD i "") ∧ zs.getD i "" ∈ zs := fun {i x} h => by
    rw [List.getElem?_map] at h
    cases q : zs[i]? with
    | none => rw [q] at h; cases h
    | some z =>
      rw [q] at h
      cases h
      rw [List.getD_eq_getElem?_getD, q]
      exact ⟨rfl, List.mem_of_getElem? q⟩
  intro H1 e Q q
  refine evn_lcN (B := fun i b => b = P (zs.getD i "")) (R := fun i => Eq1 (.str (zs.getD i ""))) hw hn (fun _ _ _ _ _ h => h) (fun i x H1 hi e1 hh => ?_) (fun i x H1 hi e1 hh _ => ?_) (fun _ => Eq1.firm) H1 e Q fun p H2 e2 n2 ⟨ys, h, L⟩ => ?_
  · obtain ⟨h1, h2⟩ := hx hh
    rw [h1]
    exact ht _ h2 H1 e1
  · rw [(hx hh).1]
    exact evg_ve (by
      rw [List.getElem?_set_self]
      rw [wipe_length]
      exact hj)
  · have := L.det (f := fun i => P (zs.getD i "")) (v := fun i => .str (zs.getD i "")) (fun i b _ h => h) fun i y _ h => h
    refine q p H2 e2 n2 ?_
    show H2 p = some (.lst ((zs.filter P).map V.str))
    rw [h, this]
    congr 2
    have e3 : zs = (List.range zs.length).map (fun i => zs.getD i "") := (range_getD zs "").symm
    conv => rhs; rw [e3]
    rw [List.filter_map, List.map_map]
    rfl
end
end TM
namespace TM
open PySem L2 Ly
section
variable {K : PySem.W.Frag} {σ : L2.St} {H : Hp} {ta tb td tl te : TE} {tt tu : TT} {g : TG} {vs : List Nat} {D : List Nd} {d : Addr}
theorem evn_lcX {Ψ Φ : Addr → Hp → Prop} (h : EvN tl σ H Ψ) (k : ∀ p H1, Gx H H1 → Ψ p H1 → (∃ xs, SqL K H1 p xs) ∧ EvN (tLc (fun _ H R => R (Itl K p) H) g tt te vs) σ H1 Φ) : EvN (tLc (iList K tl) g tt te vs) σ H Φ := by
  intro H1 e Q q
  refine h H1 e _ fun p H2 e2 n2 f => ?_
  obtain ⟨hx, kk⟩ := k p H2 (e.trans e2) f
  exact ⟨p, rfl, hx, kk H2 (Gx.refl _) Q fun r H3 e3 n3 f => q r H3 (e2.trans e3) (e2.free n3) f⟩
theorem evw_itl {p : Addr} {xs : List V} (h : SqL K H p xs) : EvW (fun _ H R => R (Itl K p) H) σ H xs.length (fun i x _ => xs[i]? = some x) := fun H1 e R q =>
  q (Itl K p) H1 _ _ (Gx.refl _) (walk_list (xs := xs)) (fun H3 e3 => e3.l (e.l h)) fun i H3 x H4 _ _ ⟨z, hx⟩ => by
    subst z
    exact ⟨Gx.refl _, hx⟩
/-- [w for w in sorted(d) if ..] -/
theorem evn_lcSD {j : Nat} {P : Str → Bool} (h : EvG td σ H (Eq1 (.ref d))) (hd : H d = some (.dK (kvD D))) (hl : D.length < 64) (hj : j < σ.length) (ht : ∀ w ∈ D.map (·.1), ∀ H1, Gx H H1 → EvB tt ((wipe σ [j]).set j (some (.str w))) H1 (fun b => b = P w)) :
    EvN (tLc (iList K (tCB rSortedDk (tCons td tNil))) (gName j) tt (tVar j) [j]) σ H (fun p H' => ∃ zs : List Str, zs.Perm (D.map (·.1)) ∧ H' p = some (.lst ((zs.filter P).map V.str))) :=
  evn_lcX (evn_sortedD h hd hl) fun p H1 e1 ⟨zs, h1, _, h3⟩ => ⟨⟨_, SqL.of h3⟩, by
    have hw := evw_itl (σ := σ) (SqL.of (K := K) h3)
    rw [List.length_map] at hw
    exact fun H2 e2 Q q => evn_lcS (P := P) hw (by rw [h1.length_eq, List.length_map]; omega) hj (fun w hw H3 e3 => ht w (h1.mem_iff.mp hw) H3 (e1.trans e3)) H2 e2 Q fun r H3 e3 n3 f => q r H3 e3 n3 ⟨zs, h1, f⟩⟩
theorem evb_orR {R1 R2 R : Bool → Prop} (h1 : EvB tt σ H R1) (h2 : R1 false → ∀ H1, Gx H H1 → EvB tu σ H1 R2) (m1 : R1 true → R true) (m2 : R1 false → ∀ b, R2 b → R b) : EvB (tOr tt tu) σ H R := fun H1 e Q q =>
  h1 H1 e _ fun b H2 e2 f => by
    cases b with
    | true => exact iteT (q true H2 e2 (m1 f))
    | false => exact iteF (h2 f H2 (e.trans e2) H2 (Gx.refl _) _ fun c H3 e3 r => q c H3 (e2.trans e3) (m2 f c r))
theorem evg_eqI {a b : Int} (ha : EvG ta σ H (IntT fun i => i = a)) (hb : EvG tb σ H (IntT fun i => i = b)) : EvG (tOp rEq ta tb) σ H (BlE (decide (a = b))) := fun H1 e Q q =>
  ha H1 e _ fun v H2 e2 ⟨i, z, hi⟩ => hb H2 (e.trans e2) _ fun u H3 e3 ⟨j, z2, hj⟩ => by
    subst z z2
    refine ⟨rfl, q _ H3 (e2.trans e3) ⟨_, rfl, ?_⟩⟩
    rw [hi, hj]
    by_cases h : a = b
    · rw [h, decide_eq_true rfl, decide_eq_true rfl]
    · rw [decide_eq_false h, decide_eq_false fun z => h (by injection z)]
theorem evg_eqIx {R : Bool → Prop} {P1 : Int → Prop} {b : Int} (ha : EvG ta σ H (IntT P1)) (hb : EvG tb σ H (IntT fun i => i = b)) (m : ∀ c, R c) : EvG (tOp rEq ta tb) σ H (BlT R) := fun H1 e Q q =>
  ha H1 e _ fun v H2 e2 ⟨i, z, hi⟩ => hb H2 (e.trans e2) _ fun u H3 e3 ⟨j, z2, hj⟩ => by
    subst z z2
    exact ⟨rfl, q _ H3 (e2.trans e3) ⟨_, rfl, m _⟩⟩
end
end TM
namespace Ly
open PySem L2
theorem Dp.strs {K : PySem.W.Frag} {H : Hp} : ∀ (l : List Str), DpAll K H (l.map V.str) (l.map PyData.str)
  | [] => .nil
  | n :: l => .cons (.str _) (Dp.strs l)
theorem strs_lay : ∀ (l : List Str), (∀ x ∈ l, PyData.strOk x = true) → PyData.canLayAll0 (l.map PyData.str) = true ∧ PyData.depthAll (l.map PyData.str) = 0
  | [], _ => ⟨by simp [PyData.canLayAll0], by simp [PyData.depthAll]⟩
  | n :: l, h => by
    obtain ⟨h1, h2⟩ := strs_lay l fun x hx => h x (List.mem_cons_of_mem _ hx)
    have h3 := h n (List.mem_cons_self ..)
    exact ⟨by simp [PyData.canLayAll0, PyData.canLay0, h1, h3], by simp [PyData.depthAll, PyData.depth, h2]⟩
theorem strs_shaped (l : List Str) (h : ∀ x ∈ l, PyData.strOk x = true) : SeqAt.shaped (.list (l.map PyData.str)) = true := by
  obtain ⟨h1, h2⟩ := strs_lay l h
  unfold SeqAt.shaped
  simp [PyData.canLay0, PyData.depth, h1, h2]
end Ly

set_option Elab.async false
set_option maxRecDepth 100000
/-! Rows of nodes counted from the left. -/
namespace TM
open PySem L2 Ly
def wantF : List Nd → Nat → Bool
  | [], k => decide (k = 0)
  | (_, a) :: r, k => decide (1 ≤ k) && wantF r (k + a - 1)
theorem nodesL_cons (w : Str) (us ts : List Tr) : nodesL (.nd w us :: ts) = (w, us.length) :: nodesL (us ++ ts) := by
  rw [nodesL_app]
  show ((w, us.length) :: nodesL us) ++ nodesL ts = _
  rw [List.cons_append]
theorem wantF_iff : ∀ (nds : List Nd) (k : Nat), wantF nds k = true ↔ ∃ ts : List Tr, ts.length = k ∧ nds = nodesL ts
  | [], k => by
    constructor
    · intro h
      have h : k = 0 := of_decide_eq_true h
      exact ⟨[], h.symm, rfl⟩
    · rintro ⟨ts, rfl, h⟩
      cases ts with
      | nil => rfl
      | cons t ts =>
        cases t with
        | nd w us =>
          rw [nodesL_cons] at h
          cases h
  | (w, a) :: r, k => by
    show (decide (1 ≤ k) && wantF r (k + a - 1)) = true ↔ _
    rw [Bool.and_eq_true, wantF_iff r (k + a - 1)]
    constructor
    · rintro ⟨h1, us, h2, rfl⟩
      have h1 : 1 ≤ k := of_decide_eq_true h1
      refine ⟨.nd w (us.take a) :: us.drop a, by rw [List.length_cons, List.length_drop]; omega, ?_⟩
      rw [nodesL_cons, List.take_append_drop, List.length_take, Nat.min_eq_left (by omega)]
    · rintro ⟨ts, rfl, h⟩
      cases ts with
      | nil => cases h
      | cons t ts =>
        cases t with
        | nd v us =>
          rw [nodesL_cons] at h
          injection h with h1 h2
          injection h1 with h3 h4
          refine ⟨decide_eq_true (by rw [List.length_cons]; omega), us ++ ts, ?_, h2⟩
          rw [List.length_append, List.length_cons]
          omega
theorem wantF_chOf (nds : List Nd) : (chOf nds).isSome = wantF nds 1 := by
  rw [Bool.eq_iff_iff]
  rw [wantF_iff]
  constructor
  · intro h
    obtain ⟨cs, h⟩ := Option.isSome_iff_exists.mp h
    obtain ⟨t, h1, _⟩ := chOf_tree h
    refine ⟨[t], rfl, ?_⟩
    rw [h1]
    show _ = t.nodes ++ []
    rw [List.append_nil]
  · rintro ⟨ts, h1, h2⟩
    match ts, h1 with
    | [t], _ =>
      rw [h2]
      show (chOf (t.nodes ++ [])).isSome = true
      rw [List.append_nil, t.chOf]
      rfl
/-- as the law looks at a row -/
def lawF : List Nd → Int → List Nd → Bool
  | [], k, _ => decide (k = 0)
  | (w, a) :: r, k, acc => if k < 1 ∨ (acc.lookup w).getD a ≠ a then false else lawF r (k + a - 1) (if (acc.lookup w).isSome then acc else acc ++ [(w, a)])
theorem lawF_eq : ∀ (nds : List Nd) (k : Nat) (acc : List Nd), lawF nds (k : Int) acc = (wantF nds k && (arF nds acc).isSome)
  | [], k, acc => by
    show decide ((k : Int) = 0) = (decide (k = 0) && true)
    rw [Bool.and_true]
    by_cases h : k = 0
    · rw [decide_eq_true h, decide_eq_true (by omega)]
    · rw [decide_eq_false h, decide_eq_false (by omega)]
  | (w, a) :: r, k, acc => by
    show (if (k : Int) < 1 ∨ (acc.lookup w).getD a ≠ a then false else lawF r ((k : Int) + a - 1) (if (acc.lookup w).isSome then acc else acc ++ [(w, a)])) = ((decide (1 ≤ k) && wantF r (k + a - 1)) && (match acc.lookup w with
      | none => arF r (acc ++ [(w, a)])
      | some b => if b = a then arF r acc else none).isSome)
    by_cases hk : 1 ≤ k
    · have hkk : ¬ (k : Int) < 1 := by omega
      have e : (k : Int) + a - 1 = ((k + a - 1 : Nat) : Int) := by omega
      rw [decide_eq_true hk, Bool.true_and, e]
      cases q : acc.lookup w with
      | none =>
        rw [if_neg (by simp [hkk])]
        simp only [Option.isSome_none, Bool.false_eq_true, if_false]
        exact lawF_eq r _ _
      | some b =>
        by_cases hb : b = a
        · subst hb
          rw [if_neg (by simp [hkk])]
          simp only [Option.isSome_some, if_true]
          exact lawF_eq r _ _
        · rw [if_pos (.inr (by simpa using hb))]
          simp [hb]
    · rw [if_pos (.inl (by omega)), decide_eq_false hk]
      rfl
theorem lawF_row (nds : List Nd) : lawF nds 1 [] = ((chOf nds).isSome && (arF nds []).isSome) := by
  have := lawF_eq nds 1 []
  rw [wantF_chOf]
  exact this
/-- words of a table with one arity each -/
theorem arF_fit {T : List Nd} (hf : ∀ w a b, (w, a) ∈ T → (w, b) ∈ T → a = b) : ∀ (nds acc : List Nd), (∀ n ∈ nds, n ∈ T) → (∀ n ∈ acc, n ∈ T) → ∃ l, arF nds acc = some l
  | [], acc, _, _ => ⟨acc, rfl⟩
  | (w, a) :: r, acc, h1, h2 => by
    have hr : ∀ n ∈ r, n ∈ T := fun n hn => h1 n (List.mem_cons_of_mem _ hn)
    have hw := h1 (w, a) (List.mem_cons_self ..)
    show ∃ l, (match acc.lookup w with
      | none => arF r (acc ++ [(w, a)])
      | some b => if b = a then arF r acc else none) = some l
    cases q : acc.lookup w with
    | none =>
      refine arF_fit hf r _ hr fun n hn => ?_
      rcases List.mem_append.mp hn with z | z
      · exact h2 n z
      · have : n = (w, a) := by simpa using z
        rw [this]
        exact hw
    | some b =>
      have := hf w b a (h2 _ (lookup_mem q)) hw
      rw [this]
      simp only [if_true]
      exact arF_fit hf r acc hr h2
end TM
namespace TM
open PySem L2 Ly
/-- the words that the laws draw -/
def D0 : List Nd := [("a", 0), ("bb", 0), ("f", 2), ("k", 1), ("cons", 3)]
def L0 : List Str := ["_", "#"]
def T0 : List Nd := [("a", 0), ("bb", 0), ("f", 2), ("k", 1), ("cons", 3), ("_", 0), ("#", 0)]
theorem sym0 : Sym D0 L0 := ⟨by decide +kernel, by decide, by decide, ⟨"a", by decide⟩, by decide, by decide +kernel⟩
theorem fit0 {t : Tr} (h : Fit D0 L0 t) : ∀ n ∈ t.nodes, n ∈ T0 := fun n hn => by
  rcases h n hn with h | ⟨h1, h2⟩
  · have : ∀ n ∈ D0, n ∈ T0 := by decide +kernel
    exact this n h
  · obtain ⟨w, a⟩ := n
    have h2 : a = 0 := h2
    subst h2
    have h1 : w ∈ (["_", "#"] : List Str) := h1
    simp only [List.mem_cons, List.not_mem_nil, or_false] at h1
    rcases h1 with rfl | rfl
    · exact (by decide +kernel : (("_", 0) : Nd) ∈ T0)
    · exact (by decide +kernel : (("#", 0) : Nd) ∈ T0)
theorem fun0 : ∀ w a b, ((w, a) : Nd) ∈ T0 → ((w, b) : Nd) ∈ T0 → a = b := fun w a b h1 h2 => by
  have : ∀ x ∈ T0, ∀ y ∈ T0, x.1 = y.1 → x.2 = y.2 := by decide +kernel
  exact this _ h1 _ h2 rfl
theorem good0 : ∀ n ∈ T0, GoodNd n := by
  unfold GoodNd
  decide +kernel
theorem Good.fit {t : Tr} (h : Fit D0 L0 t) (hs : t.size ≤ 40) : Good t := ⟨fun n hn => good0 n (fit0 h n hn), hs, arF_fit fun0 _ _ (fit0 h) fun n hn => by cases hn⟩
def spDrawn : Sp := fun vs H Q _ => ∃ (c : Addr) (deep : Nat), vs = [.ref c, .int (deep : Int)] ∧ H c = some (diceO c) ∧ deep ≤ 4 ∧ ∀ v t H', Gx H H' → PT H' t v → Fit D0 L0 t → t.size ≤ 40 → t.ht ≤ 5 → Q v H'
def spMade (K : PySem.W.Frag) (C : Addr) : Sp := fun vs H Q _ => ∃ (v : V) (t : Tr), vs = [v] ∧ PT H t v ∧ t.ht ≤ 5 ∧ Good t ∧ ∀ p H', Gx H H' → H p = none → TermAt K C H' p t → Q (.ref p) H'
end TM

set_option Elab.async false
set_option maxRecDepth 100000
/-! Plain: two readers of terms. -/
namespace TM
open PySem L2 Ly
def isL (c : Nat) : Bool := decide (c ∈ letters)
abbrev lab (w : Str) : List Nat := w.cps.toList
def mkS (l : List Nat) : Str := ⟨l.toArray⟩
theorem lab_mk (l : List Nat) : lab (mkS l) = l := by simp [lab, mkS]
theorem mk_lab (w : Str) : mkS (lab w) = w := by simp [lab, mkS]
theorem lab_inj {a b : Str} (h : lab a = lab b) : a = b := by rw [← mk_lab a, ← mk_lab b, h]
theorem lab_app (a b : Str) : lab (a ++ b) = lab a ++ lab b := by show (a.cps ++ b.cps).toList = _; rw [Array.toList_append]
mutual
def Tr.tx : Tr → List Nat
  | .nd w [] => lab w
  | .nd w (t :: ts) => lab w ++ 40 :: (t.tx ++ txR ts)
def txR : List Tr → List Nat
  | [] => [41]
  | t :: ts => 44 :: 32 :: (t.tx ++ txR ts)
end
mutual
def Tr.tk : Tr → List Str
  | .nd w [] => [w]
  | .nd w (t :: ts) => w :: mkS [40] :: (t.tk ++ tkR ts)
def tkR : List Tr → List Str
  | [] => [mkS [41]]
  | t :: ts => mkS [44, 32] :: (t.tk ++ tkR ts)
end
/-! ### tokens -/
def LabT (w : Str) : Prop := (lab w ≠ [] ∧ (lab w).all isL = true) ∨ lab w = [95] ∨ lab w = [35]
theorem drop_len (p : Nat → Bool) : ∀ l : List Nat, (l.dropWhile p).length ≤ l.length
  | [] => Nat.le_refl _
  | c :: l => by
    rw [List.dropWhile_cons]
    split
    · have := drop_len p l
      rw [List.length_cons]
      omega
    · exact Nat.le_refl _
def tokF (l : List Nat) : Option (List Str) :=
  match l with
  | [] => some []
  | c :: cs =>
    if isL c = true then (tokF (cs.dropWhile isL)).map fun r => mkS (c :: cs.takeWhile isL) :: r
    else if c = 44 ∧ cs.head? = some 32 then (tokF (cs.drop 1)).map fun r => mkS [44, 32] :: r
    else if c = 95 ∨ c = 35 ∨ c = 40 ∨ c = 41 then (tokF cs).map fun r => mkS [c] :: r
    else none
termination_by l.length
decreasing_by
  · have := drop_len isL cs
    simp only [List.length_cons]
    omega
  · simp only [List.length_cons, List.length_drop]
    omega
  · simp only [List.length_cons]
    omega
def NoL (r : List Nat) : Prop := ∀ c, r.head? = some c → isL c = false
theorem take_all {l r : List Nat} (h : l.all isL = true) (hr : NoL r) : (l ++ r).takeWhile isL = l ∧ (l ++ r).dropWhile isL = r := by
  induction l with
  | nil =>
    cases r with
    | nil => exact ⟨rfl, rfl⟩
    | cons c r =>
      have := hr c rfl
      rw [List.nil_append, List.takeWhile_cons, List.dropWhile_cons, this]
      exact ⟨rfl, rfl⟩
  | cons c l ih =>
    rw [List.all_cons, Bool.and_eq_true] at h
    obtain ⟨a, b⟩ := ih h.2
    rw [List.cons_append, List.takeWhile_cons, List.dropWhile_cons, h.1]
    exact ⟨by rw [if_pos rfl, a], by rw [if_pos rfl, b]⟩
theorem isL_signs : isL 95 = false ∧ isL 35 = false ∧ isL 40 = false ∧ isL 41 = false ∧ isL 44 = false ∧ isL 32 = false := by decide +kernel
theorem tok_sign {c : Nat} (r : List Nat) (h : c = 95 ∨ c = 35 ∨ c = 40 ∨ c = 41) : tokF (c :: r) = (tokF r).map fun q => mkS [c] :: q := by
  have s := isL_signs
  have h1 : isL c = false := by rcases h with rfl | rfl | rfl | rfl <;> first | exact s.1 | exact s.2.1 | exact s.2.2.1 | exact s.2.2.2.1
  have h2 : ¬ (c = 44 ∧ r.head? = some 32) := by rintro ⟨rfl, _⟩; rcases h with h | h | h | h <;> cases h
  rw [tokF, h1, if_neg (by simp), if_neg h2, if_pos h]
theorem tok_sep (r : List Nat) : tokF (44 :: 32 :: r) = (tokF r).map fun q => mkS [44, 32] :: q := by
  rw [tokF, isL_signs.2.2.2.2.1, if_neg (by simp), if_pos ⟨rfl, rfl⟩]
  rfl
theorem tok_word {w : Str} {r : List Nat} (h : LabT w) (hr : NoL r) : tokF (lab w ++ r) = (tokF r).map fun q => w :: q := by
  rcases h with ⟨h0, h⟩ | h | h
  · cases q : lab w with
    | nil => exact absurd q h0
    | cons c l =>
      rw [q, List.all_cons, Bool.and_eq_true] at h
      obtain ⟨a, b⟩ := take_all h.2 hr
      rw [List.cons_append, tokF, if_pos h.1, a, b, ← q, mk_lab]
  · rw [h, List.singleton_append, tok_sign r (.inl rfl), ← h, mk_lab]
  · rw [h, List.singleton_append, tok_sign r (.inr (.inl rfl)), ← h, mk_lab]
theorem noL_of {c : Nat} {r : List Nat} (h : isL c = false) : NoL (c :: r) := fun d hd => by
  cases hd
  exact h
theorem txR_noL (ts : List Tr) (r : List Nat) : NoL (txR ts ++ r) := by
  cases ts with
  | nil => exact noL_of isL_signs.2.2.2.1
  | cons t ts => exact noL_of isL_signs.2.2.2.2.1
mutual
theorem Tr.tok_tx (t : Tr) : t.All LabT → ∀ r, NoL r → tokF (t.tx ++ r) = (tokF r).map fun q => t.tk ++ q := by
  intro h r hr
  match t, h with
  | .nd w [], h => exact tok_word h.1 hr
  | .nd w (t :: ts), h =>
    show tokF ((lab w ++ 40 :: (t.tx ++ txR ts)) ++ r) = (tokF r).map fun q => (w :: mkS [40] :: (t.tk ++ tkR ts)) ++ q
    rw [List.append_assoc, tok_word h.1 (r := 40 :: (t.tx ++ txR ts) ++ r) (noL_of isL_signs.2.2.1), List.cons_append, tok_sign _ (.inr (.inr (.inl rfl))), List.append_assoc, Tr.tok_tx t h.2.1 _ (txR_noL ts r), tok_R ts h.2.2 r]
    cases tokF r with
    | none => rfl
    | some q => simp
theorem tok_R (ts : List Tr) : AllL LabT ts → ∀ r, tokF (txR ts ++ r) = (tokF r).map fun q => tkR ts ++ q := by
  intro h r
  match ts, h with
  | [], _ => exact tok_sign r (.inr (.inr (.inr rfl)))
  | t :: ts, h =>
    show tokF (44 :: 32 :: (t.tx ++ txR ts) ++ r) = (tokF r).map fun q => (mkS [44, 32] :: (t.tk ++ tkR ts)) ++ q
    rw [List.cons_append, List.cons_append, tok_sep, List.append_assoc, Tr.tok_tx t h.1 _ (txR_noL ts r), tok_R ts h.2 r]
    cases tokF r with
    | none => rfl
    | some q => simp
end
theorem tok_back : ∀ (n : Nat) (l : List Nat) (zs : List Str), l.length ≤ n → tokF l = some zs → zs.flatMap lab = l
  | n, [], zs, _, h => by
    rw [tokF] at h
    cases h
    rfl
  | n + 1, c :: cs, zs, hn, h => by
    rw [List.length_cons] at hn
    rw [tokF] at h
    by_cases h1 : isL c = true
    · rw [if_pos h1] at h
      obtain ⟨q, hq, rfl⟩ := Option.map_eq_some_iff.mp h
      have := drop_len isL cs
      rw [List.flatMap_cons, lab_mk, tok_back n _ q (by omega) hq, List.cons_append, List.takeWhile_append_dropWhile]
    · rw [if_neg h1] at h
      by_cases h2 : c = 44 ∧ cs.head? = some 32
      · rw [if_pos h2] at h
        obtain ⟨q, hq, rfl⟩ := Option.map_eq_some_iff.mp h
        obtain ⟨rfl, h3⟩ := h2
        cases cs with
        | nil => cases h3
        | cons d ds =>
          cases h3
          rw [List.flatMap_cons, lab_mk, tok_back n _ q (by rw [List.length_cons] at hn; simp; omega) hq]
          rfl
      · rw [if_neg h2] at h
        by_cases h3 : c = 95 ∨ c = 35 ∨ c = 40 ∨ c = 41
        · rw [if_pos h3] at h
          obtain ⟨q, hq, rfl⟩ := Option.map_eq_some_iff.mp h
          rw [List.flatMap_cons, lab_mk, tok_back n _ q (by omega) hq]
          rfl
        · rw [if_neg h3] at h
          cases h
end TM

set_option Elab.async false
set_option maxRecDepth 100000
/-! Plain: the reader that takes tokens. -/
namespace TM
open PySem L2 Ly
structure RS where
  nodes : List Nd
  opn : List Nat
  wants : Bool
  last : Str
def isSign (z : Str) : Bool := decide (z = mkS [40] ∨ z = mkS [41] ∨ z = mkS [44, 32])
def bump (nds : List Nd) (i : Nat) : List Nd := match nds[i]? with
  | some n => nds.set i (n.1, n.2 + 1)
  | none => nds
def takeF (s : RS) (z : Str) : Option RS :=
  if isSign z = false then (if s.wants = true then some ⟨s.nodes ++ [(z, 0)], s.opn, false, z⟩ else none)
  else if z = mkS [40] then (if s.wants = false ∧ isSign s.last = false then some ⟨s.nodes, s.opn ++ [s.nodes.length - 1], true, z⟩ else none)
  else match s.opn.getLast? with
    | none => none
    | some i => if s.wants = true then none else some ⟨bump s.nodes i, if z = mkS [44, 32] then s.opn else s.opn.dropLast, decide (z = mkS [44, 32]), z⟩
def runF : RS → List Str → Option RS
  | s, [] => some s
  | s, z :: zs => (takeF s z).bind fun s' => runF s' zs
def rs0 : RS := ⟨[], [], true, mkS []⟩
theorem run_app : ∀ (zs ys : List Str) (s : RS), runF s (zs ++ ys) = (runF s zs).bind fun s' => runF s' ys
  | [], _, _ => rfl
  | z :: zs, ys, s => by
    show (takeF s z).bind _ = ((takeF s z).bind _).bind _
    cases takeF s z with
    | none => rfl
    | some s' => exact run_app zs ys s'
theorem take_word {s : RS} {z : Str} (h : isSign z = false) (hw : s.wants = true) : takeF s z = some ⟨s.nodes ++ [(z, 0)], s.opn, false, z⟩ := by
  unfold takeF
  rw [if_pos h, if_pos hw]
theorem sign1 : isSign (mkS [40]) = true := by decide +kernel
theorem sign2 : isSign (mkS [41]) = true := by decide +kernel
theorem sign3 : isSign (mkS [44, 32]) = true := by decide +kernel
theorem ne12 : mkS [41] ≠ mkS [40] := by decide +kernel
theorem ne32 : mkS [44, 32] ≠ mkS [40] := by decide +kernel
theorem ne13 : mkS [41] ≠ mkS [44, 32] := by decide +kernel
theorem take_open {s : RS} (hw : s.wants = false) (hl : isSign s.last = false) : takeF s (mkS [40]) = some ⟨s.nodes, s.opn ++ [s.nodes.length - 1], true, mkS [40]⟩ := by
  unfold takeF
  rw [if_neg (by rw [sign1]; simp), if_pos rfl, if_pos ⟨hw, hl⟩]
theorem take_sep {s : RS} {O : List Nat} {i : Nat} (hw : s.wants = false) (ho : s.opn = O ++ [i]) : takeF s (mkS [44, 32]) = some ⟨bump s.nodes i, O ++ [i], true, mkS [44, 32]⟩ := by
  unfold takeF
  rw [if_neg (by rw [sign3]; simp), if_neg ne32, ho, List.getLast?_append, List.getLast?_singleton]
  show (if s.wants = true then none else _) = _
  rw [hw, if_neg (by simp), if_pos rfl, decide_eq_true rfl]
theorem take_shut {s : RS} {O : List Nat} {i : Nat} (hw : s.wants = false) (ho : s.opn = O ++ [i]) : takeF s (mkS [41]) = some ⟨bump s.nodes i, O, false, mkS [41]⟩ := by
  unfold takeF
  rw [if_neg (by rw [sign2]; simp), if_neg ne12, ho, List.getLast?_append, List.getLast?_singleton]
  show (if s.wants = true then none else _) = _
  rw [hw, if_neg (by simp), if_neg ne13, decide_eq_false ne13, List.dropLast_concat]
/-! ### every tree is read -/
mutual
theorem Tr.run_tk (t : Tr) : t.All (fun w => isSign w = false) → ∀ (s : RS) (zs : List Str), s.wants = true → ∃ s', runF s (t.tk ++ zs) = runF s' zs ∧ s'.nodes = s.nodes ++ t.nodes ∧ s'.opn = s.opn ∧ s'.wants = false := by
  intro h s zs hw
  match t, h with
  | .nd w [], h =>
    refine ⟨⟨s.nodes ++ [(w, 0)], s.opn, false, w⟩, ?_, rfl, rfl, rfl⟩
    show (takeF s w).bind _ = _
    rw [take_word h.1 hw]
    rfl
  | .nd w (t :: ts), h =>
    obtain ⟨s3, r3, n3, o3, w3⟩ := Tr.run_tk t h.2.1 ⟨s.nodes ++ [(w, 0)], s.opn ++ [(s.nodes ++ [(w, 0)]).length - 1], true, mkS [40]⟩ (tkR ts ++ zs) rfl
    have hn : (s.nodes ++ [(w, 0)]).length - 1 = s.nodes.length := by rw [List.length_append]; rfl
    rw [hn] at o3
    obtain ⟨s4, r4, n4, o4, w4⟩ := run_R ts h.2.2 s3 zs s.opn s.nodes.length w 0 w3 o3 (by
      rw [n3]
      show ((s.nodes ++ [(w, 0)]) ++ t.nodes)[s.nodes.length]? = _
      rw [List.append_assoc, List.getElem?_append_right (Nat.le_refl _), Nat.sub_self]
      rfl)
    refine ⟨s4, ?_, ?_, o4, w4⟩
    · show (takeF s w).bind (fun s' => runF s' ((mkS [40] :: (t.tk ++ tkR ts)) ++ zs)) = _
      rw [take_word h.1 hw]
      show (takeF _ (mkS [40])).bind (fun s' => runF s' ((t.tk ++ tkR ts) ++ zs)) = _
      rw [take_open rfl h.1]
      show runF _ ((t.tk ++ tkR ts) ++ zs) = _
      rw [List.append_assoc]
      exact r3.trans r4
    · rw [n4, n3]
      show (((s.nodes ++ [(w, 0)]) ++ t.nodes).set s.nodes.length (w, 0 + 1 + ts.length)) ++ nodesL ts = s.nodes ++ ((w, ts.length + 1) :: (t.nodes ++ nodesL ts))
      rw [List.append_assoc, List.set_append_right _ _ (Nat.le_refl _), Nat.sub_self]
      show (s.nodes ++ ((w, 0 + 1 + ts.length) :: t.nodes)) ++ nodesL ts = _
      rw [List.append_assoc, show 0 + 1 + ts.length = ts.length + 1 by omega]
      rfl
theorem run_R (ts : List Tr) : AllL (fun w => isSign w = false) ts → ∀ (s : RS) (zs : List Str) (O : List Nat) (i : Nat) (w : Str) (k : Nat), s.wants = false → s.opn = O ++ [i] → s.nodes[i]? = some (w, k) →
    ∃ s', runF s (tkR ts ++ zs) = runF s' zs ∧ s'.nodes = s.nodes.set i (w, k + 1 + ts.length) ++ nodesL ts ∧ s'.opn = O ∧ s'.wants = false := by
  intro h s zs O i w k hw ho hi
  have hb : bump s.nodes i = s.nodes.set i (w, k + 1) := by unfold bump; rw [hi]
  match ts, h with
  | [], _ =>
    refine ⟨⟨bump s.nodes i, O, false, mkS [41]⟩, ?_, ?_, rfl, rfl⟩
    · show (takeF s (mkS [41])).bind _ = _
      rw [take_shut hw ho]
      rfl
    · show bump s.nodes i = s.nodes.set i (w, k + 1 + 0) ++ []
      rw [hb, List.append_nil]
  | t :: ts, h =>
    have hil : i < s.nodes.length := (List.getElem?_eq_some_iff.mp hi).1
    obtain ⟨s3, r3, n3, o3, w3⟩ := Tr.run_tk t h.1 ⟨bump s.nodes i, O ++ [i], true, mkS [44, 32]⟩ (tkR ts ++ zs) rfl
    have n3' : s3.nodes = s.nodes.set i (w, k + 1) ++ t.nodes := by rw [n3]; show bump s.nodes i ++ t.nodes = _; rw [hb]
    obtain ⟨s4, r4, n4, o4, w4⟩ := run_R ts h.2 s3 zs O i w (k + 1) w3 o3 (by
      rw [n3', List.getElem?_append_left (by rw [List.length_set]; exact hil), List.getElem?_set_self hil])
    refine ⟨s4, ?_, ?_, o4, w4⟩
    · show (takeF s (mkS [44, 32])).bind (fun s' => runF s' ((t.tk ++ tkR ts) ++ zs)) = _
      rw [take_sep hw ho]
      show runF _ ((t.tk ++ tkR ts) ++ zs) = _
      rw [List.append_assoc]
      exact r3.trans r4
    · rw [n4, n3', List.set_append_left _ _ (by rw [List.length_set]; exact hil), List.set_set]
      show (s.nodes.set i (w, k + 1 + 1 + ts.length) ++ t.nodes) ++ nodesL ts = s.nodes.set i (w, k + 1 + (ts.length + 1)) ++ (t.nodes ++ nodesL ts)
      rw [List.append_assoc, show k + 1 + 1 + ts.length = k + 1 + (ts.length + 1) by omega]
end
/-! ### what is read is a tree -/
abbrev FrL := List (Str × List Tr)
def fN : FrL → List Nd
  | [] => []
  | (w, as) :: R => fN R ++ ((w, as.length) :: nodesL as)
def fI : FrL → List Nat
  | [] => []
  | _ :: R => fI R ++ [(fN R).length]
def argT : List Tr → List Nat
  | [] => []
  | t :: ts => t.tx ++ 44 :: 32 :: argT ts
def fT : FrL → List Nat
  | [] => []
  | (w, as) :: R => fT R ++ (lab w ++ 40 :: argT as)
def cN : Option Tr → List Nd
  | none => []
  | some t => t.nodes
def cT : Option Tr → List Nat
  | none => []
  | some t => t.tx
structure RI (F : FrL) (c : Option Tr) (tx : List Nat) (s : RS) : Prop where
  nodes : s.nodes = fN F ++ cN c
  opn : s.opn = fI F
  wants : s.wants = c.isNone
  text : tx = fT F ++ cT c
  last : ∀ t, c = some t → isSign s.last = false → ∃ w, t = .nd w []
theorem argT_app : ∀ (as : List Tr) (t : Tr), argT (as ++ [t]) = argT as ++ (t.tx ++ [44, 32])
  | [], t => rfl
  | a :: as, t => by
    show a.tx ++ 44 :: 32 :: argT (as ++ [t]) = (a.tx ++ 44 :: 32 :: argT as) ++ _
    rw [argT_app as t]
    simp
theorem txR_app : ∀ (as : List Tr) (t : Tr), txR (as ++ [t]) = 44 :: 32 :: (argT as ++ (t.tx ++ [41]))
  | [], t => rfl
  | a :: as, t => by
    show 44 :: 32 :: (a.tx ++ txR (as ++ [t])) = _
    rw [txR_app as t]
    show _ = 44 :: 32 :: ((a.tx ++ 44 :: 32 :: argT as) ++ _)
    simp
theorem tx_args (w : Str) (as : List Tr) (t : Tr) : Tr.tx (.nd w (as ++ [t])) = lab w ++ 40 :: (argT as ++ (t.tx ++ [41])) := by
  cases as with
  | nil => rfl
  | cons a as =>
    show lab w ++ 40 :: (a.tx ++ txR (as ++ [t])) = _
    rw [txR_app]
    show _ = lab w ++ 40 :: ((a.tx ++ 44 :: 32 :: argT as) ++ _)
    simp
theorem bump_fr (R : FrL) (w : Str) (as : List Tr) (t : Tr) : bump (fN ((w, as) :: R) ++ t.nodes) (fN R).length = fN R ++ ((w, as.length + 1) :: (nodesL as ++ t.nodes)) := by
  unfold bump
  have e : fN ((w, as) :: R) ++ t.nodes = fN R ++ ((w, as.length) :: (nodesL as ++ t.nodes)) := by
    show (fN R ++ ((w, as.length) :: nodesL as)) ++ t.nodes = _
    simp
  rw [e, List.getElem?_append_right (Nat.le_refl _), Nat.sub_self]
  show (fN R ++ _).set (fN R).length (w, as.length + 1) = _
  rw [List.set_append_right _ _ (Nat.le_refl _), Nat.sub_self]
  rfl
theorem nodesL_snoc (as : List Tr) (t : Tr) : nodesL (as ++ [t]) = nodesL as ++ t.nodes := by
  rw [nodesL_app]
  show nodesL as ++ (t.nodes ++ []) = _
  rw [List.append_nil]
theorem ri_step {F : FrL} {c : Option Tr} {tx : List Nat} {s s' : RS} {z : Str} (h : RI F c tx s) (e : takeF s z = some s') : ∃ F' c', RI F' c' (tx ++ lab z) s' := by
  unfold takeF at e
  by_cases h1 : isSign z = false
  · rw [if_pos h1] at e
    by_cases hw : s.wants = true
    · rw [if_pos hw] at e
      cases e
      have hc : c = none := by
        have := h.wants
        rw [hw] at this
        cases c with
        | none => rfl
        | some t => cases this
      subst hc
      refine ⟨F, some (.nd z []), ?_, h.opn, rfl, ?_, fun t ht _ => ⟨z, (Option.some.inj ht).symm⟩⟩
      · rw [h.nodes]
        show (fN F ++ []) ++ [(z, 0)] = fN F ++ [(z, 0)]
        rw [List.append_nil]
      · rw [h.text]
        show (fT F ++ []) ++ lab z = fT F ++ lab z
        rw [List.append_nil]
    · rw [if_neg hw] at e
      cases e
  · rw [if_neg h1] at e
    by_cases h2 : z = mkS [40]
    · subst h2
      rw [if_pos rfl] at e
      by_cases hw : s.wants = false ∧ isSign s.last = false
      · rw [if_pos hw] at e
        cases e
        have hc : ∃ t, c = some t := by
          have := h.wants
          rw [hw.1] at this
          cases c with
          | none => cases this
          | some t => exact ⟨t, rfl⟩
        obtain ⟨t, rfl⟩ := hc
        obtain ⟨w, rfl⟩ := h.last t rfl hw.2
        refine ⟨(w, []) :: F, none, ?_, ?_, rfl, ?_, fun t ht => by cases ht⟩
        · rw [h.nodes]
          show fN F ++ [(w, 0)] = (fN F ++ [(w, 0)]) ++ []
          rw [List.append_nil]
        · show s.opn ++ [s.nodes.length - 1] = fI F ++ [(fN F).length]
          rw [h.opn, h.nodes]
          show fI F ++ [(fN F ++ [(w, 0)]).length - 1] = _
          rw [List.length_append]
          rfl
        · rw [h.text, lab_mk]
          show (fT F ++ lab w) ++ [40] = (fT F ++ (lab w ++ [40])) ++ []
          simp
      · rw [if_neg hw] at e
        cases e
    · rw [if_neg h2] at e
      have hz : z = mkS [41] ∨ z = mkS [44, 32] := by
        have : isSign z = true := by cases q : isSign z with
          | true => rfl
          | false => exact absurd q h1
        rcases of_decide_eq_true this with h3 | h3 | h3
        · exact absurd h3 h2
        · exact .inl h3
        · exact .inr h3
      cases F with
      | nil =>
        rw [h.opn] at e
        cases e
      | cons q R =>
        obtain ⟨w, as⟩ := q
        have ho : s.opn = fI R ++ [(fN R).length] := h.opn
        rw [ho, List.getLast?_append, List.getLast?_singleton] at e
        have e : (if s.wants = true then none else some (⟨bump s.nodes (fN R).length, if z = mkS [44, 32] then fI R ++ [(fN R).length] else (fI R ++ [(fN R).length]).dropLast, decide (z = mkS [44, 32]), z⟩ : RS)) = some s' := e
        by_cases hw : s.wants = true
        · rw [if_pos hw] at e
          cases e
        · rw [if_neg hw] at e
          have e := Option.some.inj e
          subst e
          have hc : ∃ t, c = some t := by
            have := h.wants
            cases c with
            | none => exact absurd this hw
            | some t => exact ⟨t, rfl⟩
          obtain ⟨t, rfl⟩ := hc
          have hb : bump s.nodes (fN R).length = fN R ++ ((w, as.length + 1) :: (nodesL as ++ t.nodes)) := by
            rw [h.nodes]
            exact bump_fr R w as t
          rcases hz with rfl | rfl
          · refine ⟨R, some (.nd w (as ++ [t])), ?_, ?_, ?_, ?_, fun u _ hs => ?_⟩
            · show bump s.nodes _ = fN R ++ ((w, (as ++ [t]).length) :: nodesL (as ++ [t]))
              rw [hb, nodesL_snoc, List.length_append]
              rfl
            · show (if mkS [41] = mkS [44, 32] then fI R ++ [(fN R).length] else (fI R ++ [(fN R).length]).dropLast) = fI R
              rw [if_neg ne13, List.dropLast_concat]
            · show decide (mkS [41] = mkS [44, 32]) = false
              exact decide_eq_false ne13
            · rw [h.text, lab_mk]
              show (((fT R ++ (lab w ++ 40 :: argT as)) ++ t.tx) ++ [41]) = fT R ++ Tr.tx (.nd w (as ++ [t]))
              rw [tx_args]
              simp
            · have hs : isSign (mkS [41]) = false := hs
              rw [sign2] at hs
              cases hs
          · refine ⟨(w, as ++ [t]) :: R, none, ?_, ?_, ?_, ?_, fun u hu => by cases hu⟩
            · show bump s.nodes _ = (fN R ++ ((w, (as ++ [t]).length) :: nodesL (as ++ [t]))) ++ []
              rw [hb, nodesL_snoc, List.length_append, List.append_nil]
              rfl
            · show (if mkS [44, 32] = mkS [44, 32] then fI R ++ [(fN R).length] else (fI R ++ [(fN R).length]).dropLast) = fI R ++ [(fN R).length]
              rw [if_pos rfl]
            · show decide (mkS [44, 32] = mkS [44, 32]) = true
              exact decide_eq_true rfl
            · rw [h.text, lab_mk]
              show (((fT R ++ (lab w ++ 40 :: argT as)) ++ t.tx) ++ [44, 32]) = (fT R ++ (lab w ++ 40 :: argT (as ++ [t]))) ++ []
              rw [argT_app]
              simp
theorem ri_run : ∀ (zs : List Str) {F : FrL} {c : Option Tr} {tx : List Nat} {s s' : RS}, RI F c tx s → runF s zs = some s' → ∃ F' c', RI F' c' (tx ++ zs.flatMap lab) s'
  | [], F, c, tx, s, s', h, e => by
    cases e
    exact ⟨F, c, by rw [List.flatMap_nil, List.append_nil]; exact h⟩
  | z :: zs, F, c, tx, s, s', h, e => by
    have e : (takeF s z).bind (fun s' => runF s' zs) = some s' := e
    obtain ⟨s1, h1, h2⟩ := Option.bind_eq_some_iff.mp e
    obtain ⟨F1, c1, r1⟩ := ri_step h h1
    obtain ⟨F2, c2, r2⟩ := ri_run zs r1 h2
    refine ⟨F2, c2, ?_⟩
    rw [List.flatMap_cons, ← List.append_assoc]
    exact r2
theorem ri_0 : RI [] none [] rs0 := ⟨rfl, rfl, rfl, rfl, fun t h => by cases h⟩
/-- the nodes that a text is read as -/
def rawOf (l : List Nat) : Option (List Nd) := (tokF l).bind fun zs => (runF rs0 zs).bind fun s => if s.wants = true ∨ s.opn ≠ [] ∨ 40 < s.nodes.length then none else some s.nodes
theorem raw_sound {l : List Nat} {nds : List Nd} (h : rawOf l = some nds) : ∃ t : Tr, l = t.tx ∧ nds = t.nodes ∧ t.size ≤ 40 := by
  obtain ⟨zs, h1, h⟩ := Option.bind_eq_some_iff.mp h
  obtain ⟨s, h2, h⟩ := Option.bind_eq_some_iff.mp h
  split at h
  · cases h
  · rename_i hn
    cases h
    obtain ⟨F, c, r⟩ := ri_run zs ri_0 h2
    have ho : s.opn = [] := Classical.byContradiction fun z => hn (.inr (.inl z))
    have hF : F = [] := by
      cases F with
      | nil => rfl
      | cons q R =>
        have z := r.opn
        rw [ho] at z
        have z := congrArg List.length z
        have z : 0 = (fI R ++ [(fN R).length]).length := z
        rw [List.length_append] at z
        simp at z
    subst hF
    cases c with
    | none => exact absurd (.inl r.wants) hn
    | some t =>
      have ht := r.text
      rw [List.nil_append, tok_back l.length l zs (Nat.le_refl _) h1] at ht
      refine ⟨t, ht, r.nodes, ?_⟩
      have hl : ¬ 40 < s.nodes.length := fun z => hn (.inr (.inr z))
      rw [r.nodes] at hl
      have hl : ¬ 40 < t.nodes.length := hl
      show t.nodes.length ≤ 40
      omega
theorem all_imp {P R : Str → Prop} (h : ∀ w, P w → R w) : ∀ t : Tr, t.All P → t.All R := by
  intro t
  exact Tr.rec (motive_1 := fun t => t.All P → t.All R) (motive_2 := fun ts => AllL P ts → AllL R ts) (fun w ts ih q => ⟨h w q.1, ih q.2⟩) (fun _ => trivial) (fun t ts i1 i2 q => ⟨i1 q.1, i2 q.2⟩) t
theorem lab_notSign {w : Str} (h : LabT w) : isSign w = false := by
  have key : ∀ l : List Nat, (l = [40] ∨ l = [41] ∨ l = [44, 32]) → lab w = l → False := fun l hl hw => by
    rcases h with ⟨_, h⟩ | h | h
    · rw [hw] at h
      rcases hl with rfl | rfl | rfl <;> exact absurd h (by decide +kernel)
    · rw [hw] at h
      rcases hl with rfl | rfl | rfl <;> cases h
    · rw [hw] at h
      rcases hl with rfl | rfl | rfl <;> cases h
  refine decide_eq_false fun z => ?_
  rcases z with rfl | rfl | rfl
  · exact key [40] (.inl rfl) (lab_mk _)
  · exact key [41] (.inr (.inl rfl)) (lab_mk _)
  · exact key [44, 32] (.inr (.inr rfl)) (lab_mk _)
theorem raw_tree {t : Tr} (h : t.All LabT) (hs : t.size ≤ 40) : rawOf t.tx = some t.nodes := by
  have h1 := t.tok_tx h [] (fun c hc => by cases hc)
  rw [List.append_nil, tokF] at h1
  obtain ⟨s, r, n, o, w⟩ := t.run_tk (all_imp (fun _ => lab_notSign) t h) rs0 [] rfl
  unfold rawOf
  rw [h1]
  show (runF rs0 (t.tk ++ [])).bind _ = _
  rw [r]
  show (if s.wants = true ∨ s.opn ≠ [] ∨ 40 < s.nodes.length then none else some s.nodes) = _
  have n : s.nodes = t.nodes := n
  have o : s.opn = [] := o
  rw [if_neg (by
    rintro (z | z | z)
    · rw [w] at z; cases z
    · exact z o
    · rw [n] at z
      have hs : t.nodes.length ≤ 40 := hs
      omega), n]
end TM

set_option Elab.async false
set_option maxRecDepth 100000
/-! Plain: the law's own reader. -/
namespace TM
open PySem L2 Ly
def rdL (f : List Nat → Option (Tr × List Nat)) (w : Str) : Nat → List Nat → List Tr → Option (Tr × List Nat)
  | 0, _, _ => none
  | k + 1, l, as => match f l with
    | none => none
    | some (t, r) =>
      if r.head? = some 41 then (if as.length + 1 < 4 then some (.nd w (as ++ [t]), r.drop 1) else none)
      else if r.take 2 = [44, 32] then rdL f w k (r.drop 2) (as ++ [t]) else none
def rd : Nat → List Nat → Option (Tr × List Nat)
  | 0, _ => none
  | n + 1, l =>
    if l.head? = some 95 ∨ l.head? = some 35 then some (.nd (mkS (l.take 1)) [], l.drop 1)
    else if 0 < (l.takeWhile isL).length ∧ (l.takeWhile isL).length < 9 then
      (if (l.dropWhile isL).head? = some 40 then rdL (rd n) (mkS (l.takeWhile isL)) 4 ((l.dropWhile isL).drop 1) []
      else some (.nd (mkS (l.takeWhile isL)) [], l.dropWhile isL))
    else none
theorem len_lab (w : Str) : w.length = (lab w).length := by
  show w.cps.size = w.cps.toList.length
  rw [Array.length_toList]
theorem lab_us : lab "_" = [95] := by decide +kernel
theorem lab_ha : lab "#" = [35] := by decide +kernel
def LabW (w : Str) : Prop := 0 < (lab w).length ∧ (lab w).length < 9 ∧ (lab w).all isL = true
def LabS (w : Str) : Prop := lab w = [95] ∨ lab w = [35]
theorem isW_iff (w : Str) : isW (.str w) = true ↔ LabW w := by
  show ((decide (1 ≤ (w.length : Int)) && decide ((w.length : Int) ≤ 8)) && (lab w).all fun c => decide (c ∈ letters)) = true ↔ _
  rw [Bool.and_eq_true, Bool.and_eq_true, decide_eq_true_iff, decide_eq_true_iff, len_lab]
  constructor
  · rintro ⟨⟨a, b⟩, c⟩
    exact ⟨by omega, by omega, c⟩
  · rintro ⟨a, b, c⟩
    exact ⟨⟨by omega, by omega⟩, c⟩
theorem sign_iff (w : Str) : (V.str w = V.str "_" ∨ V.str w = V.str "#") ↔ LabS w := by
  constructor
  · rintro (h | h)
    · cases h; exact .inl lab_us
    · cases h; exact .inr lab_ha
  · rintro (h | h)
    · exact .inl (by rw [lab_inj (h.trans lab_us.symm)])
    · exact .inr (by rw [lab_inj (h.trans lab_ha.symm)])
theorem good_iff (w : Str) (k : Nat) : GoodNd (w, k) ↔ k ≤ 3 ∧ (LabW w ∨ (LabS w ∧ k = 0)) := by
  have hw : wthn (.int (k : Int)) 0 3 = true ↔ k ≤ 3 := by
    constructor
    · intro h
      have h : (isI (.int (k : Int)) && (decide ((0 : Int) ≤ k) && decide ((k : Int) ≤ 3))) = true := h
      rw [Bool.and_eq_true, Bool.and_eq_true] at h
      have := of_decide_eq_true h.2.2
      omega
    · intro h
      have : k = 0 ∨ k = 1 ∨ k = 2 ∨ k = 3 := by omega
      rcases this with rfl | rfl | rfl | rfl <;> decide +kernel
  have hk : V.int (k : Int) = V.int 0 ↔ k = 0 := by
    constructor
    · intro h
      injection h with h
      omega
    · rintro rfl; rfl
  unfold GoodNd isNode2
  rw [Bool.and_eq_true, Bool.or_eq_true, Bool.and_eq_true, decide_eq_true_iff, decide_eq_true_iff, hw, isW_iff, sign_iff, hk]
  constructor
  · exact fun h => h.1
  · intro h
    refine ⟨h, ?_⟩
    show w.length ≤ 1000
    rw [len_lab]
    rcases h.2 with q | ⟨q | q, _⟩
    · have := q.2.1
      omega
    · rw [q]; decide
    · rw [q]; decide
theorem GoodNd.labT {w : Str} {k : Nat} (h : GoodNd (w, k)) : LabT w := by
  rcases ((good_iff w k).mp h).2 with q | ⟨q, _⟩
  · exact .inl ⟨fun z => by have := q.1; rw [z] at this; exact absurd this (by decide), q.2.2⟩
  · exact .inr q
def GoodT (t : Tr) : Prop := ∀ m ∈ t.nodes, GoodNd m
theorem goodL {ts : List Tr} (h : ∀ m ∈ nodesL ts, GoodNd m) : ∀ t ∈ ts, GoodT t := by
  induction ts with
  | nil => intro t ht; cases ht
  | cons u us ih =>
    intro t ht
    rcases List.mem_cons.mp ht with rfl | ht
    · exact fun m hm => h m (List.mem_append_left _ hm)
    · exact ih (fun m hm => h m (List.mem_append_right _ hm)) t ht
theorem goodL_of : ∀ {ts : List Tr}, (∀ t ∈ ts, GoodT t) → ∀ m ∈ nodesL ts, GoodNd m
  | [], _, m, hm => by cases hm
  | t :: ts, h, m, hm => by
    rcases List.mem_append.mp hm with hm | hm
    · exact h t (List.mem_cons_self ..) m hm
    · exact goodL_of (fun u hu => h u (List.mem_cons_of_mem _ hu)) m hm
theorem good_nd {w : Str} {ts : List Tr} (h1 : GoodNd (w, ts.length)) (h2 : ∀ t ∈ ts, GoodT t) : GoodT (.nd w ts) := fun m hm => by
  have hm : m ∈ (w, ts.length) :: nodesL ts := hm
  rcases List.mem_cons.mp hm with rfl | hm
  · exact h1
  · exact goodL_of h2 m hm
theorem labAll (t : Tr) : GoodT t → t.All LabT :=
  Tr.rec (motive_1 := fun t => GoodT t → t.All LabT) (motive_2 := fun ts => (∀ m ∈ nodesL ts, GoodNd m) → AllL LabT ts)
    (fun w ts ih h => ⟨(h (w, ts.length) (List.mem_cons_self ..)).labT, ih fun m hm => h m (List.mem_cons_of_mem _ hm)⟩) (fun _ => trivial)
    (fun t ts i1 i2 h => ⟨i1 fun m hm => h m (List.mem_append_left _ hm), i2 fun m hm => h m (List.mem_append_right _ hm)⟩) t
theorem ht_lt (t : Tr) : t.ht < t.size :=
  Tr.rec (motive_1 := fun t => t.ht < t.size) (motive_2 := fun ts => htL ts ≤ (nodesL ts).length)
    (fun w ts ih => by
      show htL ts < ((w, ts.length) :: nodesL ts).length
      rw [List.length_cons]
      omega) (Nat.le_refl 0)
    (fun t ts i1 i2 => by
      show max (t.ht + 1) (htL ts) ≤ (t.nodes ++ nodesL ts).length
      have i1 : t.ht < t.nodes.length := i1
      rw [List.length_append]
      omega) t
/-! ### what it reads is there -/
theorem take_drop (p : Nat → Bool) (l : List Nat) : l = l.takeWhile p ++ l.dropWhile p := List.takeWhile_append_dropWhile.symm
theorem take_allW (l : List Nat) : (l.takeWhile isL).all isL = true := by
  induction l with
  | nil => rfl
  | cons c l ih =>
    rw [List.takeWhile_cons]
    cases q : isL c with
    | true => rw [if_pos rfl, List.all_cons, q, ih]; rfl
    | false => rw [if_neg (by simp)]; rfl
theorem head_drop {c : Nat} {l : List Nat} (h : l.head? = some c) : l = c :: l.drop 1 := by
  cases l with
  | nil => cases h
  | cons d l => cases h; rfl
theorem two_drop {l : List Nat} (h : l.take 2 = [44, 32]) : l = 44 :: 32 :: l.drop 2 := by
  match l, h with
  | [], h => cases h
  | [a], h => cases h
  | a :: b :: l, h => cases h; rfl
theorem rdL_sound {f : List Nat → Option (Tr × List Nat)} (hf : ∀ l t r, f l = some (t, r) → l = t.tx ++ r ∧ GoodT t) (w : Str) : ∀ (k : Nat) (l : List Nat) (as : List Tr) (t : Tr) (r : List Nat), rdL f w k l as = some (t, r) →
    ∃ u us, t = .nd w (as ++ u :: us) ∧ as.length + 1 + us.length ≤ 3 ∧ l = (u.tx ++ txR us) ++ r ∧ ∀ v ∈ u :: us, GoodT v
  | 0, l, as, t, r, h => by cases h
  | k + 1, l, as, t, r, h => by
    unfold rdL at h
    cases q : f l with
    | none => rw [q] at h; cases h
    | some p =>
      obtain ⟨u, r1⟩ := p
      rw [q] at h
      obtain ⟨e, g⟩ := hf l u r1 q
      have h : (if r1.head? = some 41 then (if as.length + 1 < 4 then some (Tr.nd w (as ++ [u]), r1.drop 1) else none) else if r1.take 2 = [44, 32] then rdL f w k (r1.drop 2) (as ++ [u]) else none) = some (t, r) := h
      by_cases h1 : r1.head? = some 41
      · rw [if_pos h1] at h
        by_cases h2 : as.length + 1 < 4
        · rw [if_pos h2] at h
          cases h
          refine ⟨u, [], rfl, by simp; omega, ?_, fun v hv => by rw [List.mem_singleton.mp hv]; exact g⟩
          rw [e]
          conv => lhs; rw [head_drop h1]
          show _ = (u.tx ++ [41]) ++ _
          simp
        · rw [if_neg h2] at h
          cases h
      · rw [if_neg h1] at h
        by_cases h2 : r1.take 2 = [44, 32]
        · rw [if_pos h2] at h
          obtain ⟨u2, us, rfl, hl, e2, g2⟩ := rdL_sound hf w k _ _ t r h
          refine ⟨u, u2 :: us, by simp, by rw [List.length_append] at hl; simp at hl ⊢; omega, ?_, fun v hv => ?_⟩
          · rw [e]
            conv => lhs; rw [two_drop h2, e2]
            show _ = (u.tx ++ (44 :: 32 :: (u2.tx ++ txR us))) ++ r
            simp
          · rcases List.mem_cons.mp hv with rfl | hv
            · exact g
            · exact g2 v hv
        · rw [if_neg h2] at h
          cases h
theorem rd_sound : ∀ (n : Nat) (l : List Nat) (t : Tr) (r : List Nat), rd n l = some (t, r) → l = t.tx ++ r ∧ GoodT t
  | 0, l, t, r, h => by cases h
  | n + 1, l, t, r, h => by
    unfold rd at h
    by_cases h1 : l.head? = some 95 ∨ l.head? = some 35
    · rw [if_pos h1] at h
      cases h
      have e : ∃ c, (c = 95 ∨ c = 35) ∧ l = c :: l.drop 1 := by
        rcases h1 with h1 | h1
        · exact ⟨95, .inl rfl, head_drop h1⟩
        · exact ⟨35, .inr rfl, head_drop h1⟩
      obtain ⟨c, hc, e⟩ := e
      have e1 : l.take 1 = [c] := by rw [e]; rfl
      refine ⟨?_, good_nd ((good_iff _ _).mpr ⟨by simp, .inr ⟨?_, rfl⟩⟩) fun t ht => by cases ht⟩
      · show l = lab (mkS (l.take 1)) ++ l.drop 1
        rw [lab_mk, e1]
        exact e
      · show lab (mkS (l.take 1)) = [95] ∨ lab (mkS (l.take 1)) = [35]
        rw [lab_mk, e1]
        rcases hc with rfl | rfl
        · exact .inl rfl
        · exact .inr rfl
    · rw [if_neg h1] at h
      by_cases h2 : 0 < (l.takeWhile isL).length ∧ (l.takeWhile isL).length < 9
      · rw [if_pos h2] at h
        have lw : LabW (mkS (l.takeWhile isL)) := by
          unfold LabW
          rw [lab_mk]
          exact ⟨h2.1, h2.2, take_allW l⟩
        by_cases h3 : (l.dropWhile isL).head? = some 40
        · rw [if_pos h3] at h
          obtain ⟨u, us, rfl, hl, e, g⟩ := rdL_sound (rd_sound n) _ 4 _ _ t r h
          refine ⟨?_, good_nd ((good_iff _ _).mpr ⟨by simp at hl ⊢; omega, .inl lw⟩) g⟩
          show l = (lab (mkS (l.takeWhile isL)) ++ 40 :: (u.tx ++ txR us)) ++ r
          rw [lab_mk]
          conv => lhs; rw [take_drop isL l, head_drop h3, e]
          simp
        · rw [if_neg h3] at h
          cases h
          refine ⟨?_, good_nd ((good_iff _ _).mpr ⟨by simp, .inl lw⟩) fun t ht => by cases ht⟩
          show l = lab (mkS (l.takeWhile isL)) ++ _
          rw [lab_mk]
          exact take_drop isL l
      · rw [if_neg h2] at h
        cases h
/-! ### it reads every tree -/
def EndOk (r : List Nat) : Prop := ∀ c, r.head? = some c → c = 41 ∨ c = 44
theorem EndOk.noL {r : List Nat} (h : EndOk r) : NoL r := fun c hc => by
  rcases h c hc with rfl | rfl
  · exact isL_signs.2.2.2.1
  · exact isL_signs.2.2.2.2.1
theorem endR (ts : List Tr) (r : List Nat) : EndOk (txR ts ++ r) := by
  cases ts with
  | nil => exact fun c hc => by cases hc; exact .inl rfl
  | cons t ts => exact fun c hc => by cases hc; exact .inr rfl
theorem headW {w : Str} (h : LabW w) (r : List Nat) : ¬ ((lab w ++ r).head? = some 95 ∨ (lab w ++ r).head? = some 35) := by
  cases q : lab w with
  | nil => rw [LabW, q] at h; exact absurd h.1 (by decide)
  | cons c l =>
    have hc : isL c = true := by
      have := h.2.2
      rw [q, List.all_cons, Bool.and_eq_true] at this
      exact this.1
    rintro (z | z)
    · cases z
      rw [isL_signs.1] at hc
      cases hc
    · cases z
      rw [isL_signs.2.1] at hc
      cases hc
mutual
theorem Tr.rd_tx (t : Tr) : ∀ (n : Nat) (r : List Nat), GoodT t → t.ht < n → EndOk r → rd n (t.tx ++ r) = some (t, r) := by
  intro n r hg hn hr
  match n, hn with
  | n + 1, hn =>
    match t, hg, hn with
    | .nd w [], hg, _ =>
      have h1 := ((good_iff w 0).mp (hg (w, 0) (List.mem_cons_self ..))).2
      show rd (n + 1) (lab w ++ r) = _
      unfold rd
      rcases h1 with h1 | ⟨h1, _⟩
      · obtain ⟨a, b⟩ := take_all h1.2.2 hr.noL
        rw [if_neg (headW h1 r), a, b, if_pos ⟨h1.1, h1.2.1⟩, if_neg (fun z => by rcases hr 40 z with z | z <;> cases z), mk_lab]
      · rcases h1 with h1 | h1
        · rw [h1, if_pos (.inl rfl)]
          show some (Tr.nd (mkS [95]) [], r) = _
          rw [← h1, mk_lab]
        · rw [h1, if_pos (.inr rfl)]
          show some (Tr.nd (mkS [35]) [], r) = _
          rw [← h1, mk_lab]
    | .nd w (u :: us), hg, hn =>
      have h0 := (good_iff w (us.length + 1)).mp (hg (w, us.length + 1) (List.mem_cons_self ..))
      have h1 : LabW w := h0.2.elim id fun z => absurd z.2 (by omega)
      have hl : us.length + 1 ≤ 3 := h0.1
      have hgs : ∀ v ∈ u :: us, GoodT v := goodL fun m hm => hg m (List.mem_cons_of_mem _ hm)
      have hh : max (u.ht + 1) (htL us) < n + 1 := hn
      show rd (n + 1) ((lab w ++ 40 :: (u.tx ++ txR us)) ++ r) = _
      rw [List.append_assoc]
      have hnl : NoL (40 :: (u.tx ++ txR us) ++ r) := noL_of isL_signs.2.2.1
      obtain ⟨a, b⟩ := take_all h1.2.2 hnl
      unfold rd
      rw [if_neg (headW h1 _), a, b, if_pos ⟨h1.1, h1.2.1⟩, if_pos (show (40 :: (u.tx ++ txR us) ++ r).head? = some 40 from rfl), mk_lab]
      show rdL (rd n) w 4 ((u.tx ++ txR us) ++ r) [] = _
      rw [List.append_assoc]
      have q := rd_R us n w [] u r 3 hgs (by omega) (by simp; omega) (by omega) (Tr.rd_tx u n (txR us ++ r) (hgs u (List.mem_cons_self ..)) (by omega) (endR us r))
      exact q
theorem rd_R (us : List Tr) : ∀ (n : Nat) (w : Str) (as : List Tr) (u : Tr) (r : List Nat) (k : Nat), (∀ v ∈ u :: us, GoodT v) → htL us ≤ n → as.length + 1 + us.length ≤ 3 → us.length ≤ k →
    rd n (u.tx ++ (txR us ++ r)) = some (u, txR us ++ r) → rdL (rd n) w (k + 1) (u.tx ++ (txR us ++ r)) as = some (.nd w (as ++ u :: us), r) := by
  intro n w as u r k hg hh hl hk hu
  unfold rdL
  rw [hu]
  match us, hg, hh, hl, hk with
  | [], _, _, hl, _ =>
    have hl : as.length + 1 < 4 := by simp at hl; omega
    show (if ((41 : Nat) :: r).head? = some 41 then (if as.length + 1 < 4 then some (Tr.nd w (as ++ [u]), r) else none) else _) = _
    rw [if_pos (show ((41 : Nat) :: r).head? = some 41 from rfl), if_pos hl]
  | v :: us, hg, hh, hl, hk =>
    match k, hk with
    | k + 1, hk =>
      have hh : max (v.ht + 1) (htL us) ≤ n := hh
      have q := rd_R us n w (as ++ [u]) v r k (fun x hx => hg x (List.mem_cons_of_mem _ hx)) (by omega) (by rw [List.length_append]; simp at hl ⊢; omega) (by simp at hk; omega) (Tr.rd_tx v n (txR us ++ r) (hg v (by simp)) (by omega) (endR us r))
      show (if ((44 : Nat) :: _).head? = some 41 then _ else if ((44 : Nat) :: 32 :: ((v.tx ++ txR us) ++ r)).take 2 = [44, 32] then rdL (rd n) w (k + 1) (((44 : Nat) :: 32 :: ((v.tx ++ txR us) ++ r)).drop 2) (as ++ [u]) else none) = _
      rw [if_neg (by simp), if_pos (show ((44 : Nat) :: 32 :: ((v.tx ++ txR us) ++ r)).take 2 = [44, 32] from rfl)]
      show rdL (rd n) w (k + 1) ((v.tx ++ txR us) ++ r) (as ++ [u]) = _
      rw [List.append_assoc, q]
      simp
end
theorem rd_raw {l : List Nat} {nds : List Nd} (h : rawOf l = some nds) (hg : ∀ m ∈ nds, GoodNd m) : ∃ t, rd 60 l = some (t, []) ∧ nds = t.nodes ∧ t.size ≤ 40 ∧ GoodT t ∧ l = t.tx := by
  obtain ⟨t, rfl, rfl, hs⟩ := raw_sound h
  have q := t.rd_tx 60 [] hg (Nat.lt_of_lt_of_le (ht_lt t) (by omega)) (fun c hc => by cases hc)
  rw [List.append_nil] at q
  exact ⟨t, q, rfl, hs, hg, rfl⟩
theorem raw_rd {l : List Nat} {t : Tr} (h : rd 60 l = some (t, [])) (hs : t.size ≤ 40) : rawOf l = some t.nodes ∧ GoodT t ∧ l = t.tx := by
  obtain ⟨e, g⟩ := rd_sound 60 l t [] h
  rw [List.append_nil] at e
  subst e
  exact ⟨raw_tree (labAll t g) hs, g, rfl⟩
end TM

set_option Elab.async false
set_option maxRecDepth 100000
set_option linter.all false
/-! The pure layer: what code does, told by values without a heap. -/
namespace Pu
open PySem PySem.Spec PyProof.Rows L2 Ly

/-! ### values without a heap -/
inductive D where
  | non | bl (b : Bool) | int (i : Int) | str (x : Str)
  | lst (ds : List D) | tup (ds : List D)
  | dic (ks : List Key) (ds : List D)
  | obj (C : Addr) (ns : List Str) (ds : List D)
  | dice
  | cls (C : Addr)
  | exn (a dd : Addr) (ns : List Str) (ds : List D)
  | lsk (ds : List D)

mutual
/-- v is d, by what is seen of the heap -/
inductive Rep (K : PySem.W.Frag) (W : Hp) : V → D → Prop
  | non : Rep K W .non .non
  | bl (b : Bool) : Rep K W (.bl b) (.bl b)
  | int (i : Int) : Rep K W (.int i) (.int i)
  | str (x : Str) : Rep K W (.str x) (.str x)
  | lst {a : Addr} {vs : List V} {ds : List D} : W a = some (.lst vs) → RepAll K W vs ds → vs.length ≤ sizeLine → Rep K W (.ref a) (.lst ds)
  | tup {a : Addr} {vs : List V} {ds : List D} : SqT K W a vs → RepAll K W vs ds → vs.length ≤ sizeLine → Rep K W (.ref a) (.tup ds)
  | dic {a : Addr} {kvs : List (Key × V)} {ks : List Key} {ds : List D} : Rd W a (.dK kvs) → kvs.map Prod.fst = ks → RepAll K W (kvs.map Prod.snd) ds → kvs.length ≤ sizeLine → Rep K W (.ref a) (.dic ks ds)
  | obj {a C dx : Addr} {fs : List (Str × V)} {ns : List Str} {ds : List D} : W a = some (.ins C dx fs) → fs.map Prod.fst = ns → RepAll K W (fs.map Prod.snd) ds → Rep K W (.ref a) (.obj C ns ds)
  | dice {a : Addr} : W a = some (diceO a) → Rep K W (.ref a) .dice
  | cls (C : Addr) : Rep K W (.ref C) (.cls C)
  | exn {a dd : Addr} {fs : List (Str × V)} {ns : List Str} {ds : List D} : W dd = some (.xd fs) → fs.map Prod.fst = ns → RepAll K W (fs.map Prod.snd) ds → Rep K W (.ref a) (.exn a dd ns ds)
  | lsk {a : Addr} {vs : List V} {ds : List D} : SqL K W a vs → RepAll K W vs ds → vs.length ≤ sizeLine → Rep K W (.ref a) (.lsk ds)
inductive RepAll (K : PySem.W.Frag) (W : Hp) : List V → List D → Prop
  | nil : RepAll K W [] []
  | cons {v : V} {vs : List V} {d : D} {ds : List D} : Rep K W v d → RepAll K W vs ds → RepAll K W (v :: vs) (d :: ds)
end
/-- what is read stays readable -/
def Le (W W' : Hp) : Prop := (∀ a vs, W a = some (.lst vs) → W' a = some (.lst vs)) ∧ (∀ a u, (∀ o v, u ≠ .frz o v) → Rd W a u → Rd W' a u) ∧ (∀ a C dx fs, W a = some (.ins C dx fs) → W' a = some (.ins C dx fs)) ∧ (∀ a, W a = some (diceO a) → W' a = some (diceO a)) ∧ ∀ a fs, W a = some (.xd fs) → W' a = some (.xd fs)
theorem Gx.le {W W' : Hp} (e : Gx W W') : Le W W' := ⟨fun _ _ h => e _ _ h, fun _ _ _ h => e.rd h, fun _ _ _ _ h => e _ _ h, fun _ h => e _ _ h, fun _ _ h => e _ _ h⟩
theorem Le.t {K : PySem.W.Frag} {W W' : Hp} (e : Le W W') {a : Addr} {vs : List V} (h : SqT K W a vs) : SqT K W' a vs := by
  rcases h with h | h
  · exact .inl (e.2.1 _ _ (fun _ _ z => by cases z) h)
  · exact .inr h
theorem Le.l {K : PySem.W.Frag} {W W' : Hp} (e : Le W W') {a : Addr} {vs : List V} (h : SqL K W a vs) : SqL K W' a vs := by
  rcases h with h | h
  · exact .inl (e.2.1 _ _ (fun _ _ z => by cases z) h)
  · exact .inr h
mutual
theorem Rep.le {K : PySem.W.Frag} {W W' : Hp} (e : Le W W') : ∀ {v : V} {d : D}, Rep K W v d → Rep K W' v d
  | _, _, .non => .non
  | _, _, .bl b => .bl b
  | _, _, .int i => .int i
  | _, _, .str x => .str x
  | _, _, .lst h hs n => .lst (e.1 _ _ h) (RepAll.le e hs) n
  | _, _, .tup h hs n => .tup (e.t h) (RepAll.le e hs) n
  | _, _, .dic h k hs n => .dic (e.2.1 _ _ (fun _ _ z => by cases z) h) k (RepAll.le e hs) n
  | _, _, .obj h k hs => .obj (e.2.2.1 _ _ _ _ h) k (RepAll.le e hs)
  | _, _, .dice h => .dice (e.2.2.2.1 _ h)
  | _, _, .cls C => .cls C
  | _, _, .exn h k hs => .exn (e.2.2.2.2 _ _ h) k (RepAll.le e hs)
  | _, _, .lsk h hs n => .lsk (e.l h) (RepAll.le e hs) n
theorem RepAll.le {K : PySem.W.Frag} {W W' : Hp} (e : Le W W') : ∀ {vs : List V} {ds : List D}, RepAll K W vs ds → RepAll K W' vs ds
  | _, _, .nil => .nil
  | _, _, .cons h hs => .cons (Rep.le e h) (RepAll.le e hs)
end
section
variable {K : PySem.W.Frag} {W W' : Hp}
theorem Rep.gx (e : Gx W W') {v : V} {d : D} (h : Rep K W v d) : Rep K W' v d := h.le (Gx.le e)
theorem RepAll.gx (e : Gx W W') {vs : List V} {ds : List D} (h : RepAll K W vs ds) : RepAll K W' vs ds := h.le (Gx.le e)
theorem RepAll.len : ∀ {vs : List V} {ds : List D}, RepAll K W vs ds → vs.length = ds.length
  | _, _, .nil => rfl
  | _, _, .cons _ hs => by rw [List.length_cons, List.length_cons, RepAll.len hs]
theorem RepAll.get : ∀ {vs : List V} {ds : List D} {i : Nat} {v : V}, RepAll K W vs ds → vs[i]? = some v → ∃ d, ds[i]? = some d ∧ Rep K W v d
  | _, _, _, _, .nil, e => by simp at e
  | _, _, 0, _, .cons h _, e => by simp at e; subst e; exact ⟨_, rfl, h⟩
  | _, _, i + 1, v, .cons _ hs, e => by
    obtain ⟨d, h1, h2⟩ := RepAll.get (i := i) (v := v) hs (by simpa using e)
    exact ⟨d, by simpa using h1, h2⟩
theorem RepAll.getD : ∀ {vs : List V} {ds : List D} {i : Nat} {d : D}, RepAll K W vs ds → ds[i]? = some d → ∃ v, vs[i]? = some v ∧ Rep K W v d
  | _, _, _, _, .nil, e => by simp at e
  | _, _, 0, _, .cons h _, e => by simp at e; subst e; exact ⟨_, rfl, h⟩
  | _, _, i + 1, v, .cons _ hs, e => by
    obtain ⟨d, h1, h2⟩ := RepAll.getD (i := i) (d := v) hs (by simpa using e)
    exact ⟨d, by simpa using h1, h2⟩
theorem RepAll.app : ∀ {vs us : List V} {ds es : List D}, RepAll K W vs ds → RepAll K W us es → RepAll K W (vs ++ us) (ds ++ es)
  | _, _, _, _, .nil, h => h
  | _, _, _, _, .cons h hs, k => .cons h (RepAll.app hs k)
theorem RepAll.one {v : V} {d : D} (h : Rep K W v d) : RepAll K W [v] [d] := .cons h .nil
theorem RepAll.rev : ∀ {vs : List V} {ds : List D}, RepAll K W vs ds → RepAll K W vs.reverse ds.reverse
  | _, _, .nil => .nil
  | _, _, .cons h hs => by
    rw [List.reverse_cons, List.reverse_cons]
    exact (RepAll.rev hs).app (.one h)
theorem RepAll.take : ∀ {vs : List V} {ds : List D} (n : Nat), RepAll K W vs ds → RepAll K W (vs.take n) (ds.take n)
  | _, _, 0, _ => .nil
  | _, _, _ + 1, .nil => .nil
  | _, _, n + 1, .cons h hs => .cons h (RepAll.take n hs)
theorem RepAll.drop : ∀ {vs : List V} {ds : List D} (n : Nat), RepAll K W vs ds → RepAll K W (vs.drop n) (ds.drop n)
  | _, _, 0, h => h
  | _, _, _ + 1, .nil => .nil
  | _, _, n + 1, .cons _ hs => RepAll.drop n hs
theorem RepAll.set {v : V} {d : D} (h : Rep K W v d) : ∀ {vs : List V} {ds : List D} (n : Nat), RepAll K W vs ds → RepAll K W (vs.set n v) (ds.set n d)
  | _, _, _, .nil => .nil
  | _, _, 0, .cons _ hs => .cons h hs
  | _, _, n + 1, .cons k hs => .cons k (RepAll.set h n hs)
theorem RepAll.dropLast {vs : List V} {ds : List D} (h : RepAll K W vs ds) : RepAll K W vs.dropLast ds.dropLast := by
  rw [List.dropLast_eq_take, List.dropLast_eq_take, h.len]
  exact h.take _
theorem RepAll.eraseIdx : ∀ {vs : List V} {ds : List D} (n : Nat), RepAll K W vs ds → RepAll K W (vs.eraseIdx n) (ds.eraseIdx n)
  | _, _, _, .nil => .nil
  | _, _, 0, .cons _ hs => hs
  | _, _, n + 1, .cons k hs => .cons k (RepAll.eraseIdx n hs)
theorem RepAll.map {α : Type} {f : α → V} {g : α → D} (h : ∀ x, Rep K W (f x) (g x)) : ∀ l : List α, RepAll K W (l.map f) (l.map g)
  | [] => .nil
  | x :: l => .cons (h x) (RepAll.map h l)
end

/-! ### heaps that grow, and what is seen of them -/
structure Ex (W H W' H' : Hp) : Prop where
  h : Gx H H'
  w : Gx W W'
  s : Gx W' H'
  n : ∀ a o, W' a = some o → W a = some o ∨ H a = none
section
variable {W H W1 H1 W2 H2 : Hp} {p : Addr} {o : HO}
theorem Ex.refl (s : Gx W H) : Ex W H W H := ⟨Gx.refl _, Gx.refl _, s, fun _ _ h => .inl h⟩
theorem Ex.trans (a : Ex W H W1 H1) (b : Ex W1 H1 W2 H2) : Ex W H W2 H2 := ⟨a.h.trans b.h, a.w.trans b.w, b.s, fun x o h => by
  rcases b.n x o h with h | h
  · exact a.n x o h
  · exact .inr (a.h.free h)⟩
theorem gx_upd {W H : Hp} (s : Gx W H) (p : Addr) (o : HO) : Gx (upd W p o) (upd H p o) := fun a u h => by
  by_cases e : a = p
  · subst e
    rw [upd_same] at h ⊢
    exact h
  · rw [upd_ne e] at h ⊢
    exact s _ _ h
theorem Ex.new (s : Gx W H) (hp : H p = none) : Ex W H (upd W p o) (upd H p o) := ⟨Gx.new hp, Gx.new (s.free hp), gx_upd s p o, fun a u h => by
  by_cases e : a = p
  · subst e
    exact .inr hp
  · rw [upd_ne e] at h
    exact .inl h⟩
/-- a new thing that is not seen -/
theorem Ex.hid (s : Gx W H) (hp : H p = none) : Ex W H W (upd H p o) := ⟨Gx.new hp, Gx.refl _, s.trans (Gx.new hp), fun a u h => .inl h⟩
/-- .. and then it is -/
theorem Ex.see {W' H' : Hp} (e : Ex W H W' H') (hp : H p = none) (hw : W' p = none) (h' : H' p = some o) : Ex W H (upd W' p o) H' := ⟨e.h, e.w.trans (Gx.new hw), fun a u h => by
  by_cases q : a = p
  · subst q
    rw [upd_same] at h
    rw [← h]
    exact h'
  · rw [upd_ne q] at h
    exact e.s _ _ h, fun a u h => by
  by_cases q : a = p
  · subst q
    exact .inr hp
  · rw [upd_ne q] at h
    exact e.n _ _ h⟩
end

/-! ### the names of a def -/
inductive B where
  | un | val (d : D)
  | lst (ds : List D)
  | dic (ks : List Key) (ds : List D)
  | obj (a C : Addr) (ns : List Str) (ds : List D)
abbrev Env := List B
/-- what stands in a slot: o its own thing's place -/
def BRep (K : PySem.W.Frag) (H0 W H : Hp) (o : Option Addr) : B → Option V → Prop
  | .un, _ => o = none
  | .val d, s => o = none ∧ ∃ v, s = some v ∧ Rep K W v d
  | .lst ds, s => ∃ p vs, o = some p ∧ s = some (.ref p) ∧ W p = none ∧ H0 p = none ∧ H p = some (.lst vs) ∧ RepAll K W vs ds ∧ vs.length ≤ sizeLine
  | .dic ks ds, s => ∃ p kvs, o = some p ∧ s = some (.ref p) ∧ W p = none ∧ H0 p = none ∧ H p = some (.dK kvs) ∧ kvs.map Prod.fst = ks ∧ RepAll K W (kvs.map Prod.snd) ds ∧ kvs.length ≤ sizeLine
  | .obj a C ns ds, s => ∃ p dx fs, p = a ∧ o = some p ∧ s = some (.ref p) ∧ W p = none ∧ H0 p = none ∧ H p = some (.ins C dx fs) ∧ H dx = some (.own p) ∧ H0 dx = none ∧ fs.map Prod.fst = ns ∧ RepAll K W (fs.map Prod.snd) ds ∧ ns.length ≤ 100
structure Sat (K : PySem.W.Frag) (W0 H0 W : Hp) (ρ : Env) (σ : L2.St) (H : Hp) : Prop where
  ex : Ex W0 H0 W H
  len : σ.length = ρ.length
  rep : ∃ oa : Nat → Option Addr, (∀ i j p, oa i = some p → oa j = some p → i = j) ∧ ∀ i b, ρ[i]? = some b → ∃ s, σ[i]? = some s ∧ BRep K H0 W H (oa i) b s
section
variable {K : PySem.W.Frag} {W0 H0 W H W' H' : Hp} {ρ : Env} {σ : L2.St} {i : Nat}
theorem BRep.ext {o : Option Addr} {b : B} {s : Option V} (e : Ex W H W' H') (h : BRep K H0 W H o b s) : BRep K H0 W' H' o b s := by
  have hid : ∀ {p : Addr} {u : HO}, W p = none → H p = some u → W' p = none := fun {p u} hw hp => by
    cases q : W' p with
    | none => rfl
    | some u' =>
      rcases e.n p u' q with z | z
      · rw [hw] at z; cases z
      · rw [hp] at z; cases z
  cases b with
  | un => exact h
  | val d =>
    obtain ⟨h1, v, h2, h3⟩ := h
    exact ⟨h1, v, h2, h3.gx e.w⟩
  | lst ds =>
    obtain ⟨p, vs, h1, h2, h3, h4, h5, h6, h7⟩ := h
    exact ⟨p, vs, h1, h2, hid h3 h5, h4, e.h _ _ h5, h6.gx e.w, h7⟩
  | dic ks ds =>
    obtain ⟨p, vs, h1, h2, h3, h4, h5, h6, h7, h8⟩ := h
    exact ⟨p, vs, h1, h2, hid h3 h5, h4, e.h _ _ h5, h6, h7.gx e.w, h8⟩
  | obj a C ns ds =>
    obtain ⟨p, dx, vs, h0, h1, h2, h3, h4, h5, h6, h7, h8, h9⟩ := h
    exact ⟨p, dx, vs, h0, h1, h2, hid h3 h5, h4, e.h _ _ h5, e.h _ _ h6, h7, h8, h9.1.gx e.w, h9.2⟩
theorem Sat.ext (h : Sat K W0 H0 W ρ σ H) (e : Ex W H W' H') : Sat K W0 H0 W' ρ σ H' := ⟨h.ex.trans e, h.len, by
  obtain ⟨oa, h1, h2⟩ := h.rep
  refine ⟨oa, h1, fun i b hb => ?_⟩
  obtain ⟨s, h3, h4⟩ := h2 i b hb
  exact ⟨s, h3, h4.ext e⟩⟩
theorem Sat.see (h : Sat K W0 H0 W ρ σ H) : Gx W H := h.ex.s
theorem Sat.val (h : Sat K W0 H0 W ρ σ H) {d : D} (hi : ρ[i]? = some (.val d)) : ∃ v, σ[i]? = some (some v) ∧ Rep K W v d := by
  obtain ⟨oa, _, h2⟩ := h.rep
  obtain ⟨s, h3, _, v, h4, h5⟩ := h2 i _ hi
  exact ⟨v, by rw [h3, h4], h5⟩
theorem Sat.own (h : Sat K W0 H0 W ρ σ H) {ds : List D} (hi : ρ[i]? = some (.lst ds)) : ∃ p vs, σ[i]? = some (some (.ref p)) ∧ W p = none ∧ H0 p = none ∧ H p = some (.lst vs) ∧ RepAll K W vs ds ∧ vs.length ≤ sizeLine := by
  obtain ⟨oa, _, h2⟩ := h.rep
  obtain ⟨s, h3, p, vs, _, h4, h5⟩ := h2 i _ hi
  exact ⟨p, vs, by rw [h3, h4], h5⟩
def setO (oa : Nat → Option Addr) (i : Nat) (o : Option Addr) : Nat → Option Addr := fun j => if j = i then o else oa j
theorem setO_same {oa : Nat → Option Addr} {o : Option Addr} : setO oa i o i = o := if_pos rfl
theorem setO_ne {oa : Nat → Option Addr} {o : Option Addr} {j : Nat} (h : j ≠ i) : setO oa i o j = oa j := if_neg h
/-- one slot anew: b with its own place o -/
theorem sat_set {oa : Nat → Option Addr} {b : B} {s : Option V} {o : Option Addr} (ex : Ex W0 H0 W' H') (len : σ.length = ρ.length) (h1 : ∀ i j p, oa i = some p → oa j = some p → i = j) (hn : ∀ j p, o = some p → j ≠ i → j < ρ.length → oa j ≠ some p)
    (h2 : ∀ j b, j ≠ i → ρ[j]? = some b → ∃ s, σ[j]? = some s ∧ BRep K H0 W' H' (oa j) b s) (r : BRep K H0 W' H' o b s) : Sat K W0 H0 W' (ρ.set i b) (σ.set i s) H' := ⟨ex, by rw [List.length_set, List.length_set]; exact len, by
  refine ⟨fun j => if j < ρ.length then setO oa i o j else none, fun a c p ha hc => ?_, fun j b' hb => ?_⟩
  · dsimp only at ha hc
    by_cases la : a < ρ.length
    · rw [if_pos la] at ha
      by_cases lc : c < ρ.length
      · rw [if_pos lc] at hc
        by_cases qa : a = i
        · rw [qa, setO_same] at ha
          by_cases qc : c = i
          · rw [qa, qc]
          · rw [setO_ne qc] at hc
            exact absurd hc (hn c p ha qc lc)
        · rw [setO_ne qa] at ha
          by_cases qc : c = i
          · rw [qc, setO_same] at hc
            exact absurd ha (hn a p hc qa la)
          · rw [setO_ne qc] at hc
            exact h1 a c p ha hc
      · rw [if_neg lc] at hc; cases hc
    · rw [if_neg la] at ha; cases ha
  · have hj : j < ρ.length := by
      have := (List.getElem?_eq_some_iff.mp hb).1
      rw [List.length_set] at this
      exact this
    dsimp only
    rw [if_pos hj]
    by_cases q : j = i
    · subst q
      rw [List.getElem?_set_self hj] at hb
      cases hb
      rw [setO_same]
      exact ⟨s, by rw [List.getElem?_set_self (by rw [len]; exact hj)], r⟩
    · rw [List.getElem?_set_ne (Ne.symm q)] at hb
      obtain ⟨s', h3, h4⟩ := h2 j b' q hb
      rw [setO_ne q]
      exact ⟨s', by rw [List.getElem?_set_ne (Ne.symm q)]; exact h3, h4⟩⟩
/-- a value stored -/
theorem Sat.set (h : Sat K W0 H0 W ρ σ H) {v : V} {d : D} (r : Rep K W v d) : Sat K W0 H0 W (ρ.set i (.val d)) (σ.set i (some v)) H := by
  obtain ⟨oa, h1, h2⟩ := h.rep
  exact sat_set (o := none) h.ex h.len h1 (fun _ _ z => by cases z) (fun j b _ hb => h2 j b hb) ⟨rfl, v, rfl, r⟩
theorem Sat.wipe1 (h : Sat K W0 H0 W ρ σ H) : Sat K W0 H0 W (ρ.set i .un) (σ.set i none) H := by
  obtain ⟨oa, h1, h2⟩ := h.rep
  exact sat_set (o := none) h.ex h.len h1 (fun _ _ z => by cases z) (fun j b _ hb => h2 j b hb) rfl
theorem BRep.place {o : Option Addr} {p : Addr} {b : B} {s : Option V} (h : BRep K H0 W H o b s) (e : o = some p) : (∃ u, H p = some u) ∧ H0 p = none ∧ W p = none := by
  cases b with
  | un => rw [show o = none from h] at e; cases e
  | val d => rw [h.1] at e; cases e
  | lst ds =>
    obtain ⟨q, vs, h1, h2, h3, h4, h5, _⟩ := h
    rw [h1] at e; cases e
    exact ⟨⟨_, h5⟩, h4, h3⟩
  | dic ks ds =>
    obtain ⟨q, vs, h1, h2, h3, h4, h5, _⟩ := h
    rw [h1] at e; cases e
    exact ⟨⟨_, h5⟩, h4, h3⟩
  | obj a C ns ds =>
    obtain ⟨q, dx, vs, _, h1, h2, h3, h4, h5, _⟩ := h
    rw [h1] at e; cases e
    exact ⟨⟨_, h5⟩, h4, h3⟩
/-- a new own thing stored -/
theorem Sat.put (h : Sat K W0 H0 W ρ σ H) {p : Addr} {b : B} (e : Ex W H W' H') (hp : H p = none) (r : BRep K H0 W' H' (some p) b (some (.ref p))) : Sat K W0 H0 W' (ρ.set i b) (σ.set i (some (.ref p))) H' := by
  obtain ⟨oa, h1, h2⟩ := h.rep
  refine sat_set (o := some p) (h.ex.trans e) h.len h1 (fun j q z hj hl hq => ?_) (fun j b _ hb => ?_) r
  · cases z
    obtain ⟨s, _, h4⟩ := h2 j _ (List.getElem?_eq_getElem hl)
    obtain ⟨⟨u, h5⟩, _⟩ := h4.place hq
    rw [hp] at h5; cases h5
  · obtain ⟨s, h3, h4⟩ := h2 j b hb
    exact ⟨s, h3, h4.ext e⟩
/-- what an own thing's change leaves -/
theorem BRep.mut {o : Option Addr} {p : Addr} {u : HO} {b : B} {s : Option V} (h : BRep K H0 W H o b s) (ho : o ≠ some p) (hown : ∀ x, H p ≠ some (.own x)) : BRep K H0 W (upd H p u) o b s := by
  cases b with
  | un => exact h
  | val d => exact h
  | lst ds =>
    obtain ⟨q, vs, h1, h2, h3, h4, h5, h6⟩ := h
    exact ⟨q, vs, h1, h2, h3, h4, by rw [upd_ne (fun z => ho (by rw [h1, z]))]; exact h5, h6⟩
  | dic ks ds =>
    obtain ⟨q, vs, h1, h2, h3, h4, h5, h6⟩ := h
    exact ⟨q, vs, h1, h2, h3, h4, by rw [upd_ne (fun z => ho (by rw [h1, z]))]; exact h5, h6⟩
  | obj a C ns ds =>
    obtain ⟨q, dx, vs, h0, h1, h2, h3, h4, h5, h6, h7⟩ := h
    exact ⟨q, dx, vs, h0, h1, h2, h3, h4, by rw [upd_ne (fun z => ho (by rw [h1, z]))]; exact h5, by rw [upd_ne (fun z => hown q (by rw [← z]; exact h6))]; exact h6, h7⟩
theorem Ex.mut {p : Addr} {u : HO} (e : Ex W0 H0 W H) (h0 : H0 p = none) (hw : W p = none) : Ex W0 H0 W (upd H p u) := ⟨e.h.mut h0, e.w, fun a o h => by
  by_cases q : a = p
  · subst q
    rw [hw] at h; cases h
  · rw [upd_ne q]
    exact e.s _ _ h, e.n⟩
/-- an own list changed -/
theorem Sat.chg (h : Sat K W0 H0 W ρ σ H) {ds es : List D} {p : Addr} {us : List V} (hi : ρ[i]? = some (.lst ds)) (hs : σ[i]? = some (some (.ref p))) (r : RepAll K W us es) (hn : us.length ≤ sizeLine) : Sat K W0 H0 W (ρ.set i (.lst es)) σ (upd H p (.lst us)) := by
  obtain ⟨oa, h1, h2⟩ := h.rep
  obtain ⟨s, h3, q, vs, h4, h5, h6, h7, h8, _⟩ := h2 i _ hi
  have hq : q = p := by
    rw [h3, h5] at hs
    cases hs
    rfl
  subst hq
  have hσ : σ.set i (some (.ref q)) = σ := by
    apply List.ext_getElem?
    intro j
    by_cases e : j = i
    · subst e
      rw [List.getElem?_set_self (List.getElem?_eq_some_iff.mp hs).1, hs]
    · rw [List.getElem?_set_ne (Ne.symm e)]
  rw [← hσ]
  refine sat_set (o := some q) (Ex.mut h.ex h7 h6) h.len h1 (fun j p z hj _ hp => ?_) (fun j b hj hb => ?_) ⟨q, us, rfl, rfl, h6, h7, upd_same, r, hn⟩
  · cases z
    exact hj (h1 j i q hp h4)
  · obtain ⟨s', h9, h10⟩ := h2 j b hb
    exact ⟨s', h9, h10.mut (fun z => hj (h1 j i q z h4)) fun x z => by rw [h8] at z; cases z⟩
/-- an own list is given away -/
theorem Sat.dem (h : Sat K W0 H0 W ρ σ H) {ds : List D} (hi : ρ[i]? = some (.lst ds)) : ∃ W', Gx W W' ∧ Sat K W0 H0 W' (ρ.set i (.val (.lst ds))) σ H := by
  obtain ⟨oa, h1, h2⟩ := h.rep
  obtain ⟨s, h3, q, vs, h4, h5, h6, h7, h8, h9, h10⟩ := h2 i _ hi
  have hσ : σ.set i (some (.ref q)) = σ := by
    apply List.ext_getElem?
    intro j
    by_cases e : j = i
    · subst e
      rw [List.getElem?_set_self (List.getElem?_eq_some_iff.mp h3).1, h3, h5]
    · rw [List.getElem?_set_ne (Ne.symm e)]
  refine ⟨upd W q (.lst vs), Gx.new h6, ?_⟩
  have e2 : Gx W (upd W q (.lst vs)) := Gx.new h6
  rw [← hσ]
  refine sat_set (o := none) (Ex.see h.ex h7 h6 h8) h.len h1 (fun _ _ z => by cases z) (fun j b hj hb => ?_) ⟨rfl, _, rfl, .lst upd_same (h9.gx e2) h10⟩
  obtain ⟨s', h11, h12⟩ := h2 j b hb
  refine ⟨s', h11, ?_⟩
  have hne : ∀ p, oa j = some p → p ≠ q := fun p hp z => hj (h1 j i q (by rw [hp, z]) h4)
  cases b with
  | un => exact h12
  | val d =>
    obtain ⟨k1, v, k2, k3⟩ := h12
    exact ⟨k1, v, k2, k3.gx e2⟩
  | lst es =>
    obtain ⟨p, us, k1, k2, k3, k4, k5, k6, k7⟩ := h12
    exact ⟨p, us, k1, k2, by rw [upd_ne (hne p k1)]; exact k3, k4, k5, k6.gx e2, k7⟩
  | dic ks es =>
    obtain ⟨p, us, k1, k2, k3, k4, k5, k6, k7, k8⟩ := h12
    exact ⟨p, us, k1, k2, by rw [upd_ne (hne p k1)]; exact k3, k4, k5, k6, k7.gx e2, k8⟩
  | obj a C ns es =>
    obtain ⟨p, dx, us, k0, k1, k2, k3, k4, k5, k6, k7, k8, k9, k10⟩ := h12
    exact ⟨p, dx, us, k0, k1, k2, by rw [upd_ne (hne p k1)]; exact k3, k4, k5, k6, k7, k8, k9.gx e2, k10⟩
end
end Pu

set_option Elab.async false
set_option maxRecDepth 100000
set_option linter.all false
namespace Pu
open PySem PySem.Spec PyProof.Rows L2 Ly

/-! ### exceptions -/
inductive Exn where
  | bare (C : Addr)
  | kept (C : Addr) (ns : List Str) (ds : List D)
inductive XRep (K : PySem.W.Frag) (W : Hp) : Exn → Value → Option Addr → Prop
  | bare (C : Addr) : XRep K W (.bare C) (.ref C) none
  | kept {C a : Addr} {fs : List (Str × V)} {ns : List Str} {ds : List D} : W a = some (.xd fs) → fs.map Prod.fst = ns → RepAll K W (fs.map Prod.snd) ds → XRep K W (.kept C ns ds) (.ref C) (some a)
def XC (K : PySem.W.Frag) (E : XK) (W H : Hp) (Z : Exn → Prop) : Prop := ∀ x cls dd W' H', Ex W H W' H' → XRep K W' x cls dd → Z x → E cls dd H'
theorem XC.ext {K : PySem.W.Frag} {E : XK} {W H W' H' : Hp} {Z : Exn → Prop} (h : XC K E W H Z) (e : Ex W H W' H') : XC K E W' H' Z := fun x cls dd W2 H2 e2 => h x cls dd W2 H2 (e.trans e2)

/-! ### the top of a thing in the heap, its parts in what is seen -/
inductive RepT (K : PySem.W.Frag) (W H : Hp) : V → D → Prop
  | val {v : V} {d : D} : Rep K W v d → RepT K W H v d
  | lst {a : Addr} {vs : List V} {ds : List D} : H a = some (.lst vs) → RepAll K W vs ds → vs.length ≤ sizeLine → RepT K W H (.ref a) (.lst ds)
  | dic {a : Addr} {kvs : List (Key × V)} {ks : List Key} {ds : List D} : Rd H a (.dK kvs) → kvs.map Prod.fst = ks → RepAll K W (kvs.map Prod.snd) ds → kvs.length ≤ sizeLine → RepT K W H (.ref a) (.dic ks ds)
  | obj {a C dx : Addr} {fs : List (Str × V)} {ns : List Str} {ds : List D} : H a = some (.ins C dx fs) → fs.map Prod.fst = ns → RepAll K W (fs.map Prod.snd) ds → RepT K W H (.ref a) (.obj C ns ds)
inductive RepTs (K : PySem.W.Frag) (W H : Hp) : List V → List D → Prop
  | nil : RepTs K W H [] []
  | cons {v : V} {vs : List V} {d : D} {ds : List D} : RepT K W H v d → RepTs K W H vs ds → RepTs K W H (v :: vs) (d :: ds)
section
variable {K : PySem.W.Frag} {W H W' H' : Hp}
theorem RepT.full {v : V} {d : D} (s : Gx W H) (h : RepT K W H v d) : Rep K H v d := by
  cases h with
  | val h => exact h.gx s
  | lst h hs n => exact .lst h (hs.gx s) n
  | dic h k hs n => exact .dic h k (hs.gx s) n
  | obj h k hs => exact .obj h k (hs.gx s)
theorem RepT.ext {v : V} {d : D} (e : Ex W H W' H') (h : RepT K W H v d) : RepT K W' H' v d := by
  cases h with
  | val h => exact .val (h.gx e.w)
  | lst h hs n => exact .lst (e.h _ _ h) (hs.gx e.w) n
  | dic h k hs n => exact .dic (e.h.rd h) k (hs.gx e.w) n
  | obj h k hs => exact .obj (e.h _ _ h) k (hs.gx e.w)
theorem RepTs.ext {vs : List V} {ds : List D} (e : Ex W H W' H') (h : RepTs K W H vs ds) : RepTs K W' H' vs ds := by
  induction h with
  | nil => exact .nil
  | cons h _ ih => exact .cons (h.ext e) ih
theorem RepAll.ts {vs : List V} {ds : List D} : ∀ {vs : List V} {ds : List D}, RepAll K W vs ds → RepTs K W H vs ds
  | _, _, .nil => .nil
  | _, _, .cons h hs => .cons (.val h) (RepAll.ts (vs := []) (ds := []) hs)
/-- a sequence's items -/
theorem RepT.lst_inv {v : V} {ds : List D} (s : Gx W H) (h : RepT K W H v (.lst ds)) : ∃ a vs, v = .ref a ∧ H a = some (.lst vs) ∧ RepAll K W vs ds ∧ vs.length ≤ sizeLine := by
  cases h with
  | val h =>
    cases h with
    | lst h hs n => exact ⟨_, _, rfl, s _ _ h, hs, n⟩
  | lst h hs n => exact ⟨_, _, rfl, h, hs, n⟩
theorem RepT.tup_inv {v : V} {ds : List D} (s : Gx W H) (h : RepT K W H v (.tup ds)) : ∃ a vs, v = .ref a ∧ SqT K H a vs ∧ RepAll K W vs ds ∧ vs.length ≤ sizeLine := by
  cases h with
  | val h =>
    cases h with
    | tup h hs n => exact ⟨_, _, rfl, s.t h, hs, n⟩
theorem RepT.dic_inv {v : V} {ks : List Key} {ds : List D} (s : Gx W H) (h : RepT K W H v (.dic ks ds)) : ∃ a kvs, v = .ref a ∧ Rd H a (.dK kvs) ∧ kvs.map Prod.fst = ks ∧ RepAll K W (kvs.map Prod.snd) ds ∧ kvs.length ≤ sizeLine := by
  cases h with
  | val h =>
    cases h with
    | dic h k hs n => exact ⟨_, _, rfl, s.rd h, k, hs, n⟩
  | dic h k hs n => exact ⟨_, _, rfl, h, k, hs, n⟩
theorem RepT.obj_inv {v : V} {C : Addr} {ns : List Str} {ds : List D} (s : Gx W H) (h : RepT K W H v (.obj C ns ds)) : ∃ a dx fs, v = .ref a ∧ H a = some (.ins C dx fs) ∧ fs.map Prod.fst = ns ∧ RepAll K W (fs.map Prod.snd) ds := by
  cases h with
  | val h =>
    cases h with
    | obj h k hs => exact ⟨_, _, _, rfl, s _ _ h, k, hs⟩
  | obj h k hs => exact ⟨_, _, _, rfl, h, k, hs⟩
theorem RepT.int_inv {v : V} {i : Int} (h : RepT K W H v (.int i)) : v = .int i := by
  cases h with
  | val h => cases h; rfl
theorem RepT.str_inv {v : V} {i : Str} (h : RepT K W H v (.str i)) : v = .str i := by
  cases h with
  | val h => cases h; rfl
theorem RepT.bl_inv {v : V} {i : Bool} (h : RepT K W H v (.bl i)) : v = .bl i := by
  cases h with
  | val h => cases h; rfl
theorem RepT.non_inv {v : V} (h : RepT K W H v .non) : v = .non := by
  cases h with
  | val h => cases h; rfl
theorem RepT.dice_inv {v : V} (s : Gx W H) (h : RepT K W H v .dice) : ∃ a, v = .ref a ∧ H a = some (diceO a) := by
  cases h with
  | val h =>
    cases h with
    | dice h => exact ⟨_, rfl, s _ _ h⟩
theorem RepT.cls_inv {v : V} {C : Addr} (h : RepT K W H v (.cls C)) : v = .ref C := by
  cases h with
  | val h => cases h; rfl
/-- items of a list or a tuple -/
def seqD : D → Option (List D)
  | .lst ds => some ds
  | .tup ds => some ds
  | _ => none
theorem RepT.seq_inv {v : V} {d : D} {ds : List D} (s : Gx W H) (h : RepT K W H v d) (hd : seqD d = some ds) : ∃ a vs, v = .ref a ∧ (SqL K H a vs ∨ SqT K H a vs) ∧ RepAll K W vs ds ∧ vs.length ≤ sizeLine := by
  cases d with
  | lst es =>
    cases hd
    obtain ⟨a, vs, h1, h2, h3⟩ := h.lst_inv s
    exact ⟨a, vs, h1, .inl (SqL.of h2), h3⟩
  | tup es =>
    cases hd
    obtain ⟨a, vs, h1, h2, h3⟩ := h.tup_inv s
    exact ⟨a, vs, h1, .inr h2, h3⟩
  | _ => cases hd
end

/-! ### readings -/
abbrev ZX := Exn → Prop
abbrev FE := Env → (D → Prop) → ZX → Prop
abbrev FT := Env → (Bool → Prop) → ZX → Prop
abbrev FA := Env → (List D → Prop) → ZX → Prop
def tD (K : PySem.W.Frag) (E : XK) (F : FE) : TE := fun σ H Qh => ∃ W0 H0 W ρ Q Z, Sat K W0 H0 W ρ σ H ∧ F ρ Q Z ∧ (∀ v W' H' d, Ex W H W' H' → Rep K W' v d → Q d → Qh v H') ∧ XC K E W H Z
def tDT (K : PySem.W.Frag) (E : XK) (F : FE) : TE := fun σ H Qh => ∃ W0 H0 W ρ Q Z, Sat K W0 H0 W ρ σ H ∧ F ρ Q Z ∧ (∀ v W' H' d, Ex W H W' H' → RepT K W' H' v d → Q d → Qh v H') ∧ XC K E W H Z
def tDN (K : PySem.W.Frag) (E : XK) (F : FA) : TE := fun σ H Qh => ∃ W0 H0 W ρ Q Z, Sat K W0 H0 W ρ σ H ∧ F ρ Q Z ∧
  (∀ p vs W' H' ds, Ex W H W' H' → H p = none → W' p = none → H' p = some (.lst vs) → RepAll K W' vs ds → vs.length ≤ sizeLine → Q ds → Qh (.ref p) H') ∧ XC K E W H Z
def tDB (K : PySem.W.Frag) (E : XK) (F : FT) : TT := fun σ H Qh => ∃ W0 H0 W ρ Q Z, Sat K W0 H0 W ρ σ H ∧ F ρ Q Z ∧ (∀ b W' H', Ex W H W' H' → Q b → Qh b H') ∧ XC K E W H Z
def tDA (K : PySem.W.Frag) (E : XK) (F : FA) : TA := fun σ H Qh => ∃ W0 H0 W ρ Q Z, Sat K W0 H0 W ρ σ H ∧ F ρ Q Z ∧ (∀ vs W' H' ds, Ex W H W' H' → RepAll K W' vs ds → Q ds → Qh vs H') ∧ XC K E W H Z
def tDAT (K : PySem.W.Frag) (E : XK) (F : FA) : TA := fun σ H Qh => ∃ W0 H0 W ρ Q Z, Sat K W0 H0 W ρ σ H ∧ F ρ Q Z ∧ (∀ vs W' H' ds, Ex W H W' H' → RepTs K W' H' vs ds → Q ds → Qh vs H') ∧ XC K E W H Z
theorem _root_.L2.PE.mono {X : Cx} {e : Expr} {t u : TE} (h : PE X e t) (m : ∀ σ H Q, u σ H Q → t σ H Q) : PE X e u := ⟨fun pins s σ H Q I q => h.run pins s σ H Q I (m _ _ _ q)⟩
theorem _root_.L2.PT.mono {X : Cx} {e : Expr} {t u : TT} (h : PT X e t) (m : ∀ σ H Q, u σ H Q → t σ H Q) : PT X e u := ⟨fun pins s σ H Q I q => h.run pins s σ H Q I (m _ _ _ q)⟩
theorem _root_.L2.PW.mono {X : Cx} {e : Expr} {t u : TT} (h : PW X e t) (m : ∀ σ H Q, u σ H Q → t σ H Q) : PW X e u := ⟨fun wh pins s σ H Q I q => h.run wh pins s σ H Q I (m _ _ _ q)⟩
theorem _root_.L2.PA.mono {X : Cx} {e : List Expr} {t u : TA} (h : PA X e t) (m : ∀ σ H Q, u σ H Q → t σ H Q) : PA X e u := ⟨fun pos pins s σ H Q I q => h.run pos pins s σ H Q I (m _ _ _ q)⟩

/-! ### what is read: names, constants -/
def bD : B → Option D
  | .val d => some d
  | .lst ds => some (.lst ds)
  | .dic ks ds => some (.dic ks ds)
  | .obj _ C ns ds => some (.obj C ns ds)
  | .un => none
def fVar (i : Nat) : FE := fun ρ Q _ => ∃ d, ρ[i]? = some (.val d) ∧ Q d
def fVarT (i : Nat) : FE := fun ρ Q _ => ∃ b d, ρ[i]? = some b ∧ bD b = some d ∧ Q d
def fC (d : D) : FE := fun _ Q _ => Q d
section
variable {X : Cx} {K : PySem.W.Frag} {E : XK} {F G : FE} {N : FA} {e a b : Expr} {i : Nat} {pos : Pos}
theorem d_var {x : Str} (h : PE X (.Name x pos) (tVar i)) : PE X (.Name x pos) (tD K E (fVar i)) := h.mono fun σ H Qh ⟨W0, H0, W, ρ, Q, Z, st, ⟨d, hi, q⟩, k, _⟩ => by
  obtain ⟨v, h1, h2⟩ := st.val hi
  exact ⟨v, h1, k v W H d (Ex.refl st.see) h2 q⟩
theorem d_varT {x : Str} (h : PE X (.Name x pos) (tVar i)) : PE X (.Name x pos) (tDT K E (fVarT i)) := h.mono fun σ H Qh ⟨W0, H0, W, ρ, Q, Z, st, ⟨b, d, hi, hd, q⟩, k, _⟩ => by
  obtain ⟨oa, _, h2⟩ := st.rep
  obtain ⟨s, h3, h4⟩ := h2 i b hi
  cases b with
  | un => cases hd
  | val d' =>
    cases hd
    obtain ⟨_, v, h5, h6⟩ := h4
    exact ⟨v, by rw [h3, h5], k v W H d (Ex.refl st.see) (.val h6) q⟩
  | lst ds =>
    cases hd
    obtain ⟨p, vs, _, h5, _, _, h6, h7, h8⟩ := h4
    exact ⟨.ref p, by rw [h3, h5], k _ W H _ (Ex.refl st.see) (.lst h6 h7 h8) q⟩
  | dic ks ds =>
    cases hd
    obtain ⟨p, vs, _, h5, _, _, h6, h7, h8, h9⟩ := h4
    exact ⟨.ref p, by rw [h3, h5], k _ W H _ (Ex.refl st.see) (.dic (.inl h6) h7 h8 h9) q⟩
  | obj a C ns ds =>
    cases hd
    obtain ⟨p, dx, vs, _, _, h5, _, _, h6, _, _, h7, h8, _⟩ := h4
    exact ⟨.ref p, by rw [h3, h5], k _ W H _ (Ex.refl st.see) (.obj h6 h7 h8) q⟩
theorem d_c {v : V} {d : D} (h : PE X e (tC v)) (r : ∀ W, Rep K W v d) : PE X e (tD K E (fC d)) := h.mono fun σ H Qh ⟨W0, H0, W, ρ, Q, Z, st, q, k, _⟩ => k v W H d (Ex.refl st.see) (r W) q
theorem d_int {n : Int} (h : PE X e (tC (.int n))) : PE X e (tD K E (fC (.int n))) := d_c h fun _ => .int n
theorem d_str {n : Str} (h : PE X e (tC (.str n))) : PE X e (tD K E (fC (.str n))) := d_c h fun _ => .str n
theorem d_bl {n : Bool} (h : PE X e (tC (.bl n))) : PE X e (tD K E (fC (.bl n))) := d_c h fun _ => .bl n
theorem d_non (h : PE X e (tC .non)) : PE X e (tD K E (fC .non)) := d_c h fun _ => .non
theorem d_cls {C : Addr} (h : PE X e (tC (.ref C))) : PE X e (tD K E (fC (.cls C))) := d_c h fun _ => .cls C
/-- a value may be read -/
theorem d_t (h : PE X e (tD K E F)) : PE X e (tDT K E F) := h.mono fun σ H Qh ⟨W0, H0, W, ρ, Q, Z, st, f, k, x⟩ => ⟨W0, H0, W, ρ, Q, Z, st, f, fun v W' H' d e r q => k v W' H' d e (.val r) q, x⟩
/-- a new list is a value -/
def fNew (F : FA) : FE := fun ρ Q Z => F ρ (fun ds => Q (.lst ds)) Z
theorem d_n (h : PE X e (tDN K E N)) : PE X e (tD K E (fNew N)) := h.mono fun σ H Qh ⟨W0, H0, W, ρ, Q, Z, st, f, k, x⟩ => ⟨W0, H0, W, ρ, _, Z, st, f, fun p vs W' H' ds e hp hw h' r n q =>
  k _ _ H' _ (e.see hp hw h') (.lst upd_same (r.gx (Gx.new hw)) n) q, x⟩
theorem d_nt (h : PE X e (tDN K E N)) : PE X e (tDT K E (fNew N)) := d_t (d_n h)

/-! ### operators -/
/-- an operation by values -/
def RSnd (K : PySem.W.Frag) (r : R2) (R : D → D → (D → Prop) → Prop) : Prop := ∀ W H x y a b Q Qh, Gx W H → RepT K W H x a → RepT K W H y b → R a b Q → (∀ v W' H' d, Ex W H W' H' → Rep K W' v d → Q d → Qh v H') → r x y H Qh
def fOp (R : D → D → (D → Prop) → Prop) (F G : FE) : FE := fun ρ Q Z => F ρ (fun a => G ρ (fun b => R a b Q) Z) Z
theorem op_to {r : R2} {R : D → D → (D → Prop) → Prop} (hR : RSnd K r R) {σ : L2.St} {H : Hp} {Qh : VK} (h : tD K E (fOp R F G) σ H Qh) : tOp r (tDT K E F) (tDT K E G) σ H Qh := by
  obtain ⟨W0, H0, W, ρ, Q, Z, st, f, k, x⟩ := h
  refine ⟨W0, H0, W, ρ, _, Z, st, f, fun v W1 H1 d e1 r1 g => ?_, x⟩
  refine ⟨W0, H0, W1, ρ, _, Z, st.ext e1, g, fun v2 W2 H2 d2 e2 r2 q => ?_, x.ext e1⟩
  exact hR W2 H2 v v2 d d2 Q Qh e2.s (r1.ext e2) r2 q fun v3 W3 H3 d3 e3 r3 q3 => k v3 W3 H3 d3 ((e1.trans e2).trans e3) r3 q3
theorem d_op {op : Operator} {r : R2} {R : D → D → (D → Prop) → Prop} (ho : OpR X (binaryOp op) r) (hR : RSnd K r R) (ha : PE X a (tDT K E F)) (hb : PE X b (tDT K E G)) : PE X (.BinOp a op b pos) (tD K E (fOp R F G)) := (pe_op ho ha hb).mono fun _ _ _ h => op_to hR h
theorem d_cmp {op : CmpOp} {r : R2} {R : D → D → (D → Prop) → Prop} (ho : OpR X (compareOp op) r) (hR : RSnd K r R) (ha : PE X a (tDT K E F)) (hb : PE X b (tDT K E G)) (hm : behindInMarks op b = false) : PE X (.Compare a [op] [b] pos) (tD K E (fOp R F G)) := (pe_cmpR ho ha hb hm).mono fun _ _ _ h => op_to hR h
theorem d_ix {r : R2} {R : D → D → (D → Prop) → Prop} (hr : IxR X r) (hR : RSnd K r R) (ha : PE X a (tDT K E F)) (hb : PE X b (tDT K E G)) (hs : PlainIx b) : PE X (.Subscript a b pos) (tD K E (fOp R F G)) := (pe_ix hr ha hb hs).mono fun _ _ _ h => op_to hR h
/-- a value that is a truth value, as a test -/
def fTst (F : FE) : FT := fun ρ Q Z => F ρ (fun d => ∃ b, d = .bl b ∧ Q b) Z
theorem tst_to {σ : L2.St} {H : Hp} {Qh : Bool → Hp → Prop} (h : tDB K E (fTst F) σ H Qh) : tD K E F σ H fun x H1 => ∃ c, x = .bl c ∧ Qh c H1 := by
  obtain ⟨W0, H0, W, ρ, Q, Z, st, f, k, x⟩ := h
  refine ⟨W0, H0, W, ρ, _, Z, st, f, fun v W' H' d e r ⟨b, z, q⟩ => ?_, x⟩
  subst z
  cases r
  exact ⟨b, rfl, k b W' H' e q⟩
theorem d_test (h : PE X e (tD K E F)) (he : ∀ whole, isTrue e X.env whole = (do let v ← whole; standAt e.pos; holding [v] (truthy v)) := by intro _; rfl) : PT X e (tDB K E (fTst F)) := (pt_val h he).mono fun _ _ _ h => tst_to h
theorem d_tcmp {op : CmpOp} {r : R2} {R : D → D → (D → Prop) → Prop} (ho : OpR X (compareOp op) r) (hR : RSnd K r R) (ha : PE X a (tDT K E F)) (hb : PE X b (tDT K E G)) (hm : behindInMarks op b = false) : PT X (.Compare a [op] [b] pos) (tDB K E (fTst (fOp R F G))) :=
  (pt_cmpR ho ha hb hm).mono fun σ H Qh h => op_to hR (tst_to h)
end
end Pu

set_option Elab.async false
set_option maxRecDepth 100000
set_option linter.all false
namespace Pu
open PySem PySem.Spec PyProof.Rows L2 Ly

/-! ### plain data -/
mutual
def toP : D → PyData
  | .non => .none
  | .bl b => .bool b
  | .int i => .int i
  | .str x => .str x
  | .lst ds => .list (toPs ds)
  | .tup ds => .tuple (toPs ds)
  | _ => .dict []
def toPs : List D → List PyData
  | [] => []
  | d :: ds => toP d :: toPs ds
end
theorem toPs_map : ∀ ds : List D, toPs ds = ds.map toP
  | [] => rfl
  | d :: ds => by rw [toPs, toPs_map ds]; rfl
mutual
theorem Rep.dp {K : PySem.W.Frag} {W : Hp} : ∀ {v : V} {d : D}, Rep K W v d → (toP d).canLay0 = true → Dp K W v (toP d)
  | _, _, .non, _ => .non
  | _, _, .bl b, _ => .bl b
  | _, _, .int i, _ => .int i
  | _, _, .str x, _ => .str x
  | _, _, .lst h hs _, z => .lst (SqL.of h) (RepAll.dp hs (by simpa [toP, PyData.canLay0] using z))
  | _, _, .tup h hs _, z => .tup h (RepAll.dp hs (by simpa [toP, PyData.canLay0] using z))
  | _, _, .dic .., z => by simp [toP, PyData.canLay0] at z
  | _, _, .obj .., z => by simp [toP, PyData.canLay0] at z
  | _, _, .dice .., z => by simp [toP, PyData.canLay0] at z
  | _, _, .cls .., z => by simp [toP, PyData.canLay0] at z
  | _, _, .exn .., z => by simp [toP, PyData.canLay0] at z
  | _, _, .lsk .., z => by simp [toP, PyData.canLay0] at z
theorem RepAll.dp {K : PySem.W.Frag} {W : Hp} : ∀ {vs : List V} {ds : List D}, RepAll K W vs ds → PyData.canLayAll0 (toPs ds) = true → DpAll K W vs (toPs ds)
  | _, _, .nil, _ => .nil
  | _, _, .cons h hs, z => by
    rw [toPs, PyData.canLayAll0, Bool.and_eq_true] at z
    exact .cons (Rep.dp h z.1) (RepAll.dp hs z.2)
end
/-- may be compared as data -/
def shp (d : D) : Prop := SeqAt.shaped (toP d) = true
theorem shp_lay {d : D} (h : shp d) : (toP d).canLay0 = true := by
  unfold shp SeqAt.shaped at h
  rw [Bool.and_eq_true] at h
  exact h.1
/-- == of scalars -/
def sc : D → D → Option Bool
  | .int i, .int j => some (decide (i = j))
  | .str i, .str j => some (decide (i = j))
  | .bl i, .bl j => some (decide (i = j))
  | .non, .non => some true
  | .non, .int _ => some false | .int _, .non => some false | .non, .bl _ => some false | .bl _, .non => some false | .non, .str _ => some false | .str _, .non => some false
  | .int _, .str _ => some false | .str _, .int _ => some false | .bl _, .str _ => some false | .str _, .bl _ => some false
  | _, _ => none
def REq (a b : D) (Q : D → Prop) : Prop := match sc a b with
  | some c => Q (.bl c)
  | none => shp a ∧ shp b ∧ Q (.bl (PyData.eqv (toP a) (toP b)))
def RNe (a b : D) (Q : D → Prop) : Prop := match sc a b with
  | some c => Q (.bl (!c))
  | none => shp a ∧ shp b ∧ Q (.bl (!PyData.eqv (toP a) (toP b)))
section
variable {K : PySem.W.Frag} {X : Cx}
theorem sc_v {W H : Hp} {x y : V} {a b : D} {c : Bool} (r1 : RepT K W H x a) (r2 : RepT K W H y b) (h : sc a b = some c) : scal x y = true ∧ decide (x = y) = c := by
  cases a <;> cases b <;> first
    | (cases h; done)
    | skip
  all_goals
    first
    | (rw [r1.int_inv, r2.int_inv]; cases h; exact ⟨rfl, by simp⟩)
    | (rw [r1.str_inv, r2.str_inv]; cases h; exact ⟨rfl, by simp⟩)
    | (rw [r1.bl_inv, r2.bl_inv]; cases h; exact ⟨rfl, by simp⟩)
    | (rw [r1.non_inv, r2.non_inv]; cases h; exact ⟨rfl, by simp⟩)
    | (rw [r1.non_inv, r2.int_inv]; cases h; exact ⟨rfl, by simp⟩)
    | (rw [r1.int_inv, r2.non_inv]; cases h; exact ⟨rfl, by simp⟩)
    | (rw [r1.non_inv, r2.bl_inv]; cases h; exact ⟨rfl, by simp⟩)
    | (rw [r1.bl_inv, r2.non_inv]; cases h; exact ⟨rfl, by simp⟩)
    | (rw [r1.non_inv, r2.str_inv]; cases h; exact ⟨rfl, by simp⟩)
    | (rw [r1.str_inv, r2.non_inv]; cases h; exact ⟨rfl, by simp⟩)
    | (rw [r1.int_inv, r2.str_inv]; cases h; exact ⟨rfl, by simp⟩)
    | (rw [r1.str_inv, r2.int_inv]; cases h; exact ⟨rfl, by simp⟩)
    | (rw [r1.bl_inv, r2.str_inv]; cases h; exact ⟨rfl, by simp⟩)
    | (rw [r1.str_inv, r2.bl_inv]; cases h; exact ⟨rfl, by simp⟩)
def rEqA (K : PySem.W.Frag) : R2 := fun x y H Q => rEq x y H Q ∨ rEqD K x y H Q
def rNeA (K : PySem.W.Frag) : R2 := fun x y H Q => rNe x y H Q ∨ rNeD K x y H Q
theorem op_eqA (hu : X.A.units + 64 < cLine) (hK : X.K = K := by rfl) : OpR X (compareOp .Eq) (rEqA K) := OpR.or op_eq (kop_eqD hu hK)
theorem op_neA (hu : X.A.units + 64 < cLine) (hK : X.K = K := by rfl) : OpR X (compareOp .NotEq) (rNeA K) := OpR.or op_ne (kop_neD hu hK)
theorem s_eq : RSnd K (rEqA K) REq := fun W H x y a b Q Qh s r1 r2 h k => by
  unfold REq at h
  cases q : sc a b with
  | some c =>
    rw [q] at h
    obtain ⟨h1, h2⟩ := sc_v r1 r2 q
    refine .inl ⟨h1, ?_⟩
    rw [h2]
    exact k _ W H _ (Ex.refl s) (.bl c) h
  | none =>
    rw [q] at h
    obtain ⟨ha, hb, h⟩ := h
    exact .inr ⟨_, _, (r1.full s).dp (shp_lay ha), (r2.full s).dp (shp_lay hb), ha, hb, k _ W H _ (Ex.refl s) (.bl _) h⟩
theorem s_ne : RSnd K (rNeA K) RNe := fun W H x y a b Q Qh s r1 r2 h k => by
  unfold RNe at h
  cases q : sc a b with
  | some c =>
    rw [q] at h
    obtain ⟨h1, h2⟩ := sc_v r1 r2 q
    refine .inl ⟨h1, ?_⟩
    rw [h2]
    exact k _ W H _ (Ex.refl s) (.bl _) h
  | none =>
    rw [q] at h
    obtain ⟨ha, hb, h⟩ := h
    exact .inr ⟨_, _, (r1.full s).dp (shp_lay ha), (r2.full s).dp (shp_lay hb), ha, hb, k _ W H _ (Ex.refl s) (.bl _) h⟩

/-! ### arithmetic, joins -/
def RAdd : D → D → (D → Prop) → Prop
  | .int i, .int j, Q => Q (.int (i + j))
  | .str x, .str y, Q => x.length + y.length ≤ sizeLine ∧ Q (.str (x ++ y))
  | .lst x, .lst y, Q => x.length + y.length ≤ sizeLine ∧ Q (.lst (x ++ y))
  | .tup x, .tup y, Q => x.length + y.length ≤ sizeLine ∧ Q (.tup (x ++ y))
  | _, _, _ => False
def rAddS : R2 := fun x y H Q => ∃ i j, x = .str i ∧ y = .str j ∧ i.length + j.length ≤ sizeLine ∧ Q (.str (i ++ j)) H
def rAddA (K : PySem.W.Frag) : R2 := fun x y H Q => (rI0 (fun i j => .int (i + j)) x y H Q ∨ rAddS x y H Q) ∨ (rCat x y H Q ∨ rCatA K x y H Q)
theorem op_addA (hK : X.K = K := by rfl) : OpR X (binaryOp .Add) (rAddA K) := by
  subst hK
  exact OpR.or (OpR.or op_add op_add_str) (OpR.or op_cat op_catA)
theorem s_add : RSnd K (rAddA K) RAdd := fun W H x y a b Q Qh s r1 r2 h k => by
  cases a <;> cases b <;> first
    | exact h.elim
    | skip
  · exact .inl (.inl ⟨_, _, r1.int_inv, r2.int_inv, k _ W H _ (Ex.refl s) (.int _) h⟩)
  · exact .inl (.inr ⟨_, _, r1.str_inv, r2.str_inv, h.1, k _ W H _ (Ex.refl s) (.str _) h.2⟩)
  · obtain ⟨p, vs, e1, h1, h2, h3⟩ := r1.lst_inv s
    obtain ⟨q, us, e2, h4, h5, h6⟩ := r2.lst_inv s
    refine .inr (.inl ⟨p, q, vs, us, e1, e2, h1, h4, by rw [h2.len, h5.len]; exact h.1, fun l hl => k _ _ _ _ (Ex.new s hl) (.lst upd_same ((h2.app h5).gx (Gx.new (s.free hl))) ?_) h.2⟩)
    rw [List.length_append, h2.len, h5.len]
    exact h.1
  · obtain ⟨p, vs, e1, h1, h2, h3⟩ := r1.tup_inv s
    obtain ⟨q, us, e2, h4, h5, h6⟩ := r2.tup_inv s
    rename_i xs ys
    have hn : vs.length + us.length ≤ sizeLine := by rw [h2.len, h5.len]; exact h.1
    refine .inr (.inr ⟨p, q, vs, us, e1, e2, h1, h4, hn, fun z => ?_, fun _ z => ?_, fun _ _ l hl => k _ _ _ _ (Ex.new s hl) (.tup (SqT.of upd_same) ((h2.app h5).gx (Gx.new (s.free hl))) (by rw [List.length_append]; exact hn)) h.2⟩)
    · subst z
      cases h2
      cases r2 with
      | val r2 =>
        subst e2
        exact k _ W H _ (Ex.refl s) r2 h.2
    · subst z
      cases h5
      cases r1 with
      | val r1 =>
        subst e1
        have h7 := h.2
        rw [List.append_nil] at h7
        exact k _ W H _ (Ex.refl s) r1 h7
def RI (C : Int → Int → Prop) (g : Int → Int → D) : D → D → (D → Prop) → Prop
  | .int i, .int j, Q => C i j ∧ Q (g i j)
  | _, _, _ => False
def RI0 (g : Int → Int → D) : D → D → (D → Prop) → Prop
  | .int i, .int j, Q => Q (g i j)
  | _, _, _ => False
theorem s_I {C : Int → Int → Prop} {f : Int → Int → V} {g : Int → Int → D} (hg : ∀ W i j, Rep K W (f i j) (g i j)) : RSnd K (rI C f) (RI C g) := fun W H x y a b Q Qh s r1 r2 h k => by
  cases a <;> cases b <;> first
    | exact h.elim
    | skip
  exact ⟨_, _, r1.int_inv, r2.int_inv, h.1, k _ W H _ (Ex.refl s) (hg W _ _) h.2⟩
theorem s_I0 {f : Int → Int → V} {g : Int → Int → D} (hg : ∀ W i j, Rep K W (f i j) (g i j)) : RSnd K (rI0 f) (RI0 g) := fun W H x y a b Q Qh s r1 r2 h k => by
  cases a <;> cases b <;> first
    | exact h.elim
    | skip
  exact ⟨_, _, r1.int_inv, r2.int_inv, k _ W H _ (Ex.refl s) (hg W _ _) h⟩
abbrev RSub := RI0 fun i j => .int (i - j)
abbrev RMod := RI (fun _ j => 0 < j) fun i j => .int (i % j)
abbrev RMul := RI CMul fun i j => .int (i * j)
abbrev RLt := RI0 fun i j => .bl (decide (i < j))
abbrev RLe := RI0 fun i j => .bl (decide (i ≤ j))
abbrev RGt := RI0 fun i j => .bl (decide (j < i))
abbrev RGe := RI0 fun i j => .bl (decide (j ≤ i))
theorem s_sub : RSnd K (rI0 fun i j => .int (i - j)) RSub := s_I0 fun _ _ _ => .int _
theorem s_mod : RSnd K (rI (fun _ j => 0 < j) fun i j => .int (i % j)) RMod := s_I fun _ _ _ => .int _
theorem s_mul : RSnd K (rI CMul fun i j => .int (i * j)) RMul := s_I fun _ _ _ => .int _
theorem s_lt : RSnd K (rI0 fun i j => .bl (decide (i < j))) RLt := s_I0 fun _ _ _ => .bl _
theorem s_le : RSnd K (rI0 fun i j => .bl (decide (i ≤ j))) RLe := s_I0 fun _ _ _ => .bl _
theorem s_gt : RSnd K (rI0 fun i j => .bl (decide (j < i))) RGt := s_I0 fun _ _ _ => .bl _
theorem s_ge : RSnd K (rI0 fun i j => .bl (decide (j ≤ i))) RGe := s_I0 fun _ _ _ => .bl _
/-- is None -/
def isN : D → Bool
  | .non => true
  | _ => false
def RIsN (a b : D) (Q : D → Prop) : Prop := b = .non ∧ Q (.bl (isN a))
def RNotN (a b : D) (Q : D → Prop) : Prop := b = .non ∧ Q (.bl (!isN a))
theorem isN_v {W H : Hp} {x : V} {a : D} (r : RepT K W H x a) : decide (x = .non) = isN a := by
  cases r with
  | val r => cases r <;> simp [isN]
  | _ => simp [isN]
theorem s_isN : RSnd K (fun x y H Q => y = .non ∧ Q (.bl (decide (x = .non))) H) RIsN := fun W H x y a b Q Qh s r1 r2 h k => by
  obtain ⟨rfl, h⟩ := h
  exact ⟨r2.non_inv, k _ W H _ (Ex.refl s) (.bl _) (by rw [isN_v r1]; exact h)⟩
theorem s_notN : RSnd K (fun x y H Q => y = .non ∧ Q (.bl (!decide (x = .non))) H) RNotN := fun W H x y a b Q Qh s r1 r2 h k => by
  obtain ⟨rfl, h⟩ := h
  exact ⟨r2.non_inv, k _ W H _ (Ex.refl s) (.bl _) (by rw [isN_v r1]; exact h)⟩
/-! ### x in .. -/
def flD : D → Bool
  | .non => true
  | .bl _ => true
  | .int _ => true
  | .str _ => true
  | _ => false
def eqF : D → D → Bool
  | .non, .non => true
  | .bl a, .bl b => a == b
  | .bl a, .int b => (if a then 1 else 0) == b
  | .int a, .bl b => a == (if b then 1 else 0)
  | .int a, .int b => a == b
  | .str a, .str b => a == b
  | _, _ => false
/-- a flat value in a list or tuple of flat ones; data in a list of data; a sign in a text -/
def RIn (neg : Bool) (a b : D) (Q : D → Prop) : Prop := match b with
  | .lst ds => (flD a = true ∧ ds.all flD = true ∧ Q (.bl (neg != ds.any fun y => eqF y a))) ∨ (shp a ∧ shp b ∧ Q (.bl (neg != ds.any fun y => PyData.eqv (toP y) (toP a))))
  | .tup ds => flD a = true ∧ ds.all flD = true ∧ Q (.bl (neg != ds.any fun y => eqF y a))
  | .str z => ∃ x, a = .str x ∧ Q (.bl (neg != !(Builtin.Str.occurrences z x 0 z.length 1).isEmpty))
  | _ => False
theorem flat_v {W : Hp} {x : V} {a : D} (r : Rep K W x a) (h : flD a = true) : flatV x = true := by
  cases r <;> first | rfl | cases h
theorem eqF_v {W : Hp} {x y : V} {a b : D} (r : Rep K W x a) (q : Rep K W y b) (h : flD a = true) (h2 : flD b = true) : eqV x y = eqF a b := by
  cases r <;> first
    | (cases h; done)
    | (cases q <;> first | (cases h2; done) | rfl)
theorem any_v {W : Hp} {x : V} {a : D} (r : Rep K W x a) (h : flD a = true) : ∀ {vs : List V} {ds : List D}, RepAll K W vs ds → ds.all flD = true → vs.all flatV = true ∧ inV x vs = ds.any fun y => eqF y a
  | _, _, .nil, _ => ⟨rfl, rfl⟩
  | _, _, .cons q hs, z => by
    rw [List.all_cons, Bool.and_eq_true] at z
    obtain ⟨h1, h2⟩ := any_v r h hs z.2
    refine ⟨by rw [List.all_cons, h1, flat_v q z.1]; rfl, ?_⟩
    unfold inV at h2 ⊢
    rw [List.any_cons, List.any_cons, h2, eqF_v q r z.1 h]
def rInS (neg : Bool) : R2 := fun x y H Q => ∃ i j, x = .str i ∧ y = .str j ∧ Q (.bl (neg != !(Builtin.Str.occurrences j i 0 j.length 1).isEmpty)) H
def rInA (K : PySem.W.Frag) : R2 := fun x y H Q => (rIn K false x y H Q ∨ rInD K x y H Q) ∨ rInS false x y H Q
def rNotInA (K : PySem.W.Frag) : R2 := fun x y H Q => (rIn K true x y H Q ∨ rNotInD K x y H Q) ∨ rInS true x y H Q
theorem op_notIn_str : OpR X (compareOp .NotIn) (rInS true) := by
  intro pins s σ H x y v u Q I rx ry h
  obtain ⟨i, j, rfl, rfl, q⟩ := h
  obtain ⟨t, rfl⟩ := rx
  obtain ⟨t', rfl⟩ := ry
  exact notIn_str (fin_bl I q (by cases (Builtin.Str.occurrences j i 0 j.length 1).isEmpty <;> rfl))
theorem op_inA (hu : X.A.units + 65 < cLine) (hK : X.K = K := by rfl) : OpR X (compareOp .In) (rInA K) := by
  subst hK
  exact OpR.or (OpR.or op_in_seq (op_inD hu)) (fun pins s σ H x y v u Q I rx ry h => op_in_str pins s σ H x y v u Q I rx ry (by
    obtain ⟨i, j, h1, h2, h3⟩ := h
    refine ⟨i, j, h1, h2, ?_⟩
    rw [Bool.false_bne] at h3
    exact h3))
theorem op_notInA (hu : X.A.units + 65 < cLine) (hK : X.K = K := by rfl) : OpR X (compareOp .NotIn) (rNotInA K) := by
  subst hK
  exact OpR.or (OpR.or op_notIn_seq (op_notInD hu)) op_notIn_str
theorem anyP : ∀ (ds : List D) (a : D), ((toPs ds).any fun z => PyData.eqv z (toP a)) = ds.any fun y => PyData.eqv (toP y) (toP a)
  | [], _ => rfl
  | d :: ds, a => by rw [toPs, List.any_cons, List.any_cons, anyP ds a]
theorem s_in : RSnd K (rInA K) (RIn false) := fun W H x y a b Q Qh s r1 r2 h k => by
  cases b with
  | lst ds =>
    obtain ⟨p, vs, e, h1, h2, h3⟩ := r2.lst_inv s
    rcases h with ⟨f1, f2, h⟩ | ⟨f1, f2, h⟩
    · obtain ⟨h4, h5⟩ := any_v (r1.full s) f1 (h2.gx s) f2
      refine .inl (.inl ⟨p, vs, e, .inl (SqL.of h1), flat_v (r1.full s) f1, h4, k _ W H _ (Ex.refl s) (.bl _) ?_⟩)
      rw [h5]
      rw [Bool.false_bne] at h
      exact h
    · refine .inl (.inr ⟨_, toPs ds, (r1.full s).dp (shp_lay f1), (r2.full s).dp (shp_lay f2), f1, f2, k _ W H _ (Ex.refl s) (.bl _) ?_⟩)
      rw [anyP]
      rw [Bool.false_bne] at h
      exact h
  | tup ds =>
    obtain ⟨p, vs, e, h1, h2, h3⟩ := r2.tup_inv s
    obtain ⟨f1, f2, h⟩ := h
    obtain ⟨h4, h5⟩ := any_v (r1.full s) f1 (h2.gx s) f2
    refine .inl (.inl ⟨p, vs, e, .inr h1, flat_v (r1.full s) f1, h4, k _ W H _ (Ex.refl s) (.bl _) ?_⟩)
    rw [h5]
    rw [Bool.false_bne] at h
    exact h
  | str z =>
    obtain ⟨x', rfl, h⟩ := h
    exact .inr ⟨_, _, r1.str_inv, r2.str_inv, k _ W H _ (Ex.refl s) (.bl _) h⟩
  | _ => exact h.elim
theorem s_notIn : RSnd K (rNotInA K) (RIn true) := fun W H x y a b Q Qh s r1 r2 h k => by
  cases b with
  | lst ds =>
    obtain ⟨p, vs, e, h1, h2, h3⟩ := r2.lst_inv s
    rcases h with ⟨f1, f2, h⟩ | ⟨f1, f2, h⟩
    · obtain ⟨h4, h5⟩ := any_v (r1.full s) f1 (h2.gx s) f2
      refine .inl (.inl ⟨p, vs, e, .inl (SqL.of h1), flat_v (r1.full s) f1, h4, k _ W H _ (Ex.refl s) (.bl _) ?_⟩)
      rw [if_pos rfl, h5]
      rw [Bool.true_bne] at h
      exact h
    · refine .inl (.inr ⟨_, toPs ds, (r1.full s).dp (shp_lay f1), (r2.full s).dp (shp_lay f2), f1, f2, k _ W H _ (Ex.refl s) (.bl _) ?_⟩)
      rw [anyP]
      rw [Bool.true_bne] at h
      exact h
  | tup ds =>
    obtain ⟨p, vs, e, h1, h2, h3⟩ := r2.tup_inv s
    obtain ⟨f1, f2, h⟩ := h
    obtain ⟨h4, h5⟩ := any_v (r1.full s) f1 (h2.gx s) f2
    refine .inl (.inl ⟨p, vs, e, .inr h1, flat_v (r1.full s) f1, h4, k _ W H _ (Ex.refl s) (.bl _) ?_⟩)
    rw [if_pos rfl, h5]
    rw [Bool.true_bne] at h
    exact h
  | str z =>
    obtain ⟨x', rfl, h⟩ := h
    exact .inr ⟨_, _, r1.str_inv, r2.str_inv, k _ W H _ (Ex.refl s) (.bl _) h⟩
  | _ => exact h.elim
/-! ### a[i] -/
def RIx : D → D → (D → Prop) → Prop
  | .lst ds, .int i, Q => ∃ d, atI ds i = some d ∧ Q d
  | .tup ds, .int i, Q => ∃ d, atI ds i = some d ∧ Q d
  | .str z, .int i, Q => z.length ≤ sizeLine ∧ ∃ c, atI z.cps.toList i = some c ∧ Q (.str ⟨#[c]⟩)
  | _, _, _ => False
def rIxA (K : PySem.W.Frag) : R2 := fun x y H Q => (rIxL K x y H Q ∨ rIxT K x y H Q) ∨ rIxS x y H Q
theorem ix_A (hK : X.K = K := by rfl) : IxR X (rIxA K) := by
  subst hK
  exact IxR.or (IxR.or ix_list ix_tup) ix_str
theorem at_v {W : Hp} {vs : List V} {ds : List D} {i : Int} {d : D} (r : RepAll K W vs ds) (h : atI ds i = some d) : ∃ v, atI vs i = some v ∧ Rep K W v d := by
  unfold atI at h ⊢
  rw [r.len]
  cases q : ixN ds.length i with
  | none => rw [q] at h; cases h
  | some j =>
    rw [q] at h
    exact r.getD h
theorem s_ix : RSnd K (rIxA K) RIx := fun W H x y a b Q Qh s r1 r2 h k => by
  cases a <;> cases b <;> first
    | exact h.elim
    | skip
  · obtain ⟨z, c, h1, h2⟩ := h
    exact .inr ⟨_, _, c, r1.str_inv, r2.int_inv, z, h1, k _ W H _ (Ex.refl s) (.str _) h2⟩
  · obtain ⟨p, vs, e1, h1, h2, h3⟩ := r1.lst_inv s
    obtain ⟨d, h4, h5⟩ := h
    obtain ⟨v, h6, h7⟩ := at_v h2 h4
    exact .inl (.inl ⟨p, vs, _, v, e1, r2.int_inv, SqL.of h1, h6, k _ W H _ (Ex.refl s) h7 h5⟩)
  · obtain ⟨p, vs, e1, h1, h2, h3⟩ := r1.tup_inv s
    obtain ⟨d, h4, h5⟩ := h
    obtain ⟨v, h6, h7⟩ := at_v h2 h4
    exact .inl (.inr ⟨p, vs, _, v, e1, r2.int_inv, h1, h6, k _ W H _ (Ex.refl s) h7 h5⟩)
end
end Pu

set_option Elab.async false
set_option maxRecDepth 100000
set_option linter.all false
namespace Pu
open PySem PySem.Spec PyProof.Rows L2 Ly
section
variable {X : Cx} {K : PySem.W.Frag} {E : XK} {F G L : FE} {N : FA} {T U : FT} {A A' : FA} {e a b c : Expr} {es rest : List Expr} {i : Nat} {pos : Pos}

/-! ### tests -/
def fAnd (T U : FT) : FT := fun ρ Q Z => T ρ (fun c => if c = true then U ρ Q Z else Q false) Z
def fOr (T U : FT) : FT := fun ρ Q Z => T ρ (fun c => if c = true then Q true else U ρ Q Z) Z
def fNot (T : FT) : FT := fun ρ Q Z => T ρ (fun c => Q (!c)) Z
theorem d_and1 (h : PT X a (tDB K E T)) : PW X (.BoolOp .And [a] pos) (tDB K E T) := pw_and1 h
theorem d_or1 (h : PT X a (tDB K E T)) : PW X (.BoolOp .Or [a] pos) (tDB K E T) := pw_or1 h
theorem d_and (ha : PT X a (tDB K E T)) (hb : PW X (.BoolOp .And (b :: rest) pos) (tDB K E U)) : PW X (.BoolOp .And (a :: b :: rest) pos) (tDB K E (fAnd T U)) := (pw_and ha hb).mono fun σ H Qh ⟨W0, H0, W, ρ, Q, Z, st, f, k, x⟩ =>
  ⟨W0, H0, W, ρ, _, Z, st, f, fun c W1 H1 e1 q => by
    cases c with
    | true =>
      rw [if_pos rfl] at q
      exact iteT ⟨W0, H0, W1, ρ, Q, Z, st.ext e1, q, fun c W2 H2 e2 q2 => k c W2 H2 (e1.trans e2) q2, x.ext e1⟩
    | false =>
      rw [if_neg (by decide)] at q
      exact iteF (k false W1 H1 e1 q), x⟩
theorem d_or (ha : PT X a (tDB K E T)) (hb : PW X (.BoolOp .Or (b :: rest) pos) (tDB K E U)) : PW X (.BoolOp .Or (a :: b :: rest) pos) (tDB K E (fOr T U)) := (pw_or ha hb).mono fun σ H Qh ⟨W0, H0, W, ρ, Q, Z, st, f, k, x⟩ =>
  ⟨W0, H0, W, ρ, _, Z, st, f, fun c W1 H1 e1 q => by
    cases c with
    | true =>
      rw [if_pos rfl] at q
      exact iteT (k true W1 H1 e1 q)
    | false =>
      rw [if_neg (by decide)] at q
      exact iteF ⟨W0, H0, W1, ρ, Q, Z, st.ext e1, q, fun c W2 H2 e2 q2 => k c W2 H2 (e1.trans e2) q2, x.ext e1⟩, x⟩
theorem d_not (h : PT X a (tDB K E T)) : PT X (.UnaryOp .Not a pos) (tDB K E (fNot T)) := (pt_not h).mono fun σ H Qh ⟨W0, H0, W, ρ, Q, Z, st, f, k, x⟩ => ⟨W0, H0, W, ρ, _, Z, st, f, fun c W1 H1 e1 q => k _ W1 H1 e1 q, x⟩
def fAndV (F G : FE) : FE := fun ρ Q Z => F ρ (fun d => ∃ c, d = .bl c ∧ if c = true then G ρ Q Z else Q (.bl false)) Z
def fOrV (F G : FE) : FE := fun ρ Q Z => F ρ (fun d => ∃ c, d = .bl c ∧ if c = true then Q (.bl true) else G ρ Q Z) Z
def fNotV (F : FE) : FE := fun ρ Q Z => F ρ (fun d => ∃ c, d = .bl c ∧ Q (.bl (!c))) Z
theorem d_one {op : BoolOp} (h : PE X a (tD K E F)) : PE X (.BoolOp op [a] pos) (tD K E F) := pe_one h
theorem d_andV (ha : PE X a (tD K E F)) (hb : PE X (.BoolOp .And (b :: rest) pos) (tD K E G)) : PE X (.BoolOp .And (a :: b :: rest) pos) (tD K E (fAndV F G)) := (pe_and ha hb).mono fun σ H Qh ⟨W0, H0, W, ρ, Q, Z, st, f, k, x⟩ =>
  ⟨W0, H0, W, ρ, _, Z, st, f, fun v W1 H1 d e1 r ⟨c, z, q⟩ => by
    subst z
    cases r
    refine ⟨c, rfl, ?_⟩
    cases c with
    | true =>
      rw [if_pos rfl] at q
      exact iteT ⟨W0, H0, W1, ρ, Q, Z, st.ext e1, q, fun c W2 H2 d e2 r2 q2 => k c W2 H2 d (e1.trans e2) r2 q2, x.ext e1⟩
    | false =>
      rw [if_neg (by decide)] at q
      exact iteF (k _ W1 H1 _ e1 (.bl _) q), x⟩
theorem d_orV (ha : PE X a (tD K E F)) (hb : PE X (.BoolOp .Or (b :: rest) pos) (tD K E G)) : PE X (.BoolOp .Or (a :: b :: rest) pos) (tD K E (fOrV F G)) := (pe_or ha hb).mono fun σ H Qh ⟨W0, H0, W, ρ, Q, Z, st, f, k, x⟩ =>
  ⟨W0, H0, W, ρ, _, Z, st, f, fun v W1 H1 d e1 r ⟨c, z, q⟩ => by
    subst z
    cases r
    refine ⟨c, rfl, ?_⟩
    cases c with
    | true =>
      rw [if_pos rfl] at q
      exact iteT (k _ W1 H1 _ e1 (.bl _) q)
    | false =>
      rw [if_neg (by decide)] at q
      exact iteF ⟨W0, H0, W1, ρ, Q, Z, st.ext e1, q, fun c W2 H2 d e2 r2 q2 => k c W2 H2 d (e1.trans e2) r2 q2, x.ext e1⟩, x⟩
theorem d_notV (ha : PE X a (tD K E F)) : PE X (.UnaryOp .Not a pos) (tD K E (fNotV F)) := (pe_not ha).mono fun σ H Qh ⟨W0, H0, W, ρ, Q, Z, st, f, k, x⟩ =>
  ⟨W0, H0, W, ρ, _, Z, st, f, fun v W1 H1 d e1 r ⟨c, z, q⟩ => by
    subst z
    cases r
    exact ⟨c, rfl, k _ W1 H1 _ e1 (.bl _) q⟩, x⟩
def fIf (T : FT) (F G : FE) : FE := fun ρ Q Z => T ρ (fun c => if c = true then F ρ Q Z else G ρ Q Z) Z
theorem d_if (hc : PT X c (tDB K E T)) (ha : PE X a (tD K E F)) (hb : PE X b (tD K E G)) : PE X (.IfExp c a b pos) (tD K E (fIf T F G)) := (pe_ifExp hc ha hb).mono fun σ H Qh ⟨W0, H0, W, ρ, Q, Z, st, f, k, x⟩ =>
  ⟨W0, H0, W, ρ, _, Z, st, f, fun c W1 H1 e1 q => by
    cases c with
    | true =>
      rw [if_pos rfl] at q
      exact iteT ⟨W0, H0, W1, ρ, Q, Z, st.ext e1, q, fun c W2 H2 d e2 r2 q2 => k c W2 H2 d (e1.trans e2) r2 q2, x.ext e1⟩
    | false =>
      rw [if_neg (by decide)] at q
      exact iteF ⟨W0, H0, W1, ρ, Q, Z, st.ext e1, q, fun c W2 H2 d e2 r2 q2 => k c W2 H2 d (e1.trans e2) r2 q2, x.ext e1⟩, x⟩
def fChain (R R' : D → D → (D → Prop) → Prop) (F G L : FE) : FE := fun ρ Q Z => F ρ (fun a => G ρ (fun b => R a b fun z => ∃ k, z = .bl k ∧ if k = true then L ρ (fun c => R' b c Q) Z else Q (.bl false)) Z) Z
theorem chain_to {r r' : R2} {R R' : D → D → (D → Prop) → Prop} (hR : RSnd K r R) (hR' : RSnd K r' R') {σ : L2.St} {H : Hp} {Qh : VK} (h : tD K E (fChain R R' F G L) σ H Qh) : tChain r r' (tDT K E F) (tDT K E G) (tDT K E L) σ H Qh := by
  obtain ⟨W0, H0, W, ρ, Q, Z, st, f, k, x⟩ := h
  refine ⟨W0, H0, W, ρ, _, Z, st, f, fun v W1 H1 d e1 r1 g => ?_, x⟩
  refine ⟨W0, H0, W1, ρ, _, Z, st.ext e1, g, fun v2 W2 H2 d2 e2 r2 q => ?_, x.ext e1⟩
  refine hR W2 H2 v v2 d d2 _ _ e2.s (r1.ext e2) r2 q fun v3 W3 H3 d3 e3 r3 ⟨kk, z, q3⟩ => ?_
  subst z
  cases r3
  refine ⟨kk, rfl, ?_⟩
  cases kk with
  | true =>
    rw [if_pos rfl] at q3
    refine iteT ⟨W0, H0, W3, ρ, _, Z, st.ext ((e1.trans e2).trans e3), q3, fun v4 W4 H4 d4 e4 r4 q4 => ?_, x.ext ((e1.trans e2).trans e3)⟩
    exact hR' W4 H4 _ _ _ _ _ _ e4.s (r2.ext (e3.trans e4)) r4 q4 fun v5 W5 H5 d5 e5 r5 q5 => k v5 W5 H5 d5 ((((e1.trans e2).trans e3).trans e4).trans e5) r5 q5
  | false =>
    rw [if_neg (by decide)] at q3
    exact iteF (k _ W3 H3 _ ((e1.trans e2).trans e3) (.bl _) q3)
theorem d_chain {op op' : CmpOp} {r r' : R2} {R R' : D → D → (D → Prop) → Prop} (ho : OpR X (compareOp op) r) (ho' : OpR X (compareOp op') r') (hR : RSnd K r R) (hR' : RSnd K r' R') (ha : PE X a (tDT K E F)) (hb : PE X b (tDT K E G)) (hc : PE X c (tDT K E L))
    (hm : lastMarks [op, op'] [b, c] = false := by with_unfolding_all rfl) : PE X (.Compare a [op, op'] [b, c] pos) (tD K E (fChain R R' F G L)) := (pe_chain ho ho' ha hb hc hm).mono fun _ _ _ h => chain_to hR hR' h
theorem d_tchain {op op' : CmpOp} {r r' : R2} {R R' : D → D → (D → Prop) → Prop} (ho : OpR X (compareOp op) r) (ho' : OpR X (compareOp op') r') (hR : RSnd K r R) (hR' : RSnd K r' R') (ha : PE X a (tDT K E F)) (hb : PE X b (tDT K E G)) (hc : PE X c (tDT K E L))
    (hm : lastMarks [op, op'] [b, c] = false := by with_unfolding_all rfl) : PT X (.Compare a [op, op'] [b, c] pos) (tDB K E (fTst (fChain R R' F G L))) := (pt_chain ho ho' ha hb hc hm).mono fun _ _ _ h => chain_to hR hR' (tst_to h)

/-! ### minus -/
def fNeg (F : FE) : FE := fun ρ Q Z => F ρ (fun d => ∃ i, d = .int i ∧ Q (.int (-i))) Z
theorem d_neg (h : PE X a (tD K E F)) : PE X (.UnaryOp .USub a pos) (tD K E (fNeg F)) := (pe_un un_neg h).mono fun σ H Qh ⟨W0, H0, W, ρ, Q, Z, st, f, k, x⟩ => ⟨W0, H0, W, ρ, _, Z, st, f, fun v W1 H1 d e1 r ⟨i, z, q⟩ => by
  subst z
  cases r
  exact ⟨i, rfl, k _ W1 H1 _ e1 (.int _) q⟩, x⟩

/-! ### argument lists and displays -/
def fNil : FA := fun _ Q _ => Q []
def fCons (F : FE) (A : FA) : FA := fun ρ Q Z => F ρ (fun d => A ρ (fun ds => Q (d :: ds)) Z) Z
def fStar (F : FE) (A : FA) : FA := fun ρ Q Z => F ρ (fun d => ∃ xs, seqD d = some xs ∧ A ρ (fun ds => Q (xs ++ ds)) Z) Z
theorem d_nil : PA X [] (tDA K E fNil) := pa_nil.mono fun σ H Qh ⟨W0, H0, W, ρ, Q, Z, st, f, k, x⟩ => k [] W H [] (Ex.refl st.see) .nil f
theorem d_nilT : PA X [] (tDAT K E fNil) := pa_nil.mono fun σ H Qh ⟨W0, H0, W, ρ, Q, Z, st, f, k, x⟩ => k [] W H [] (Ex.refl st.see) .nil f
theorem d_cons (ha : PE X e (tD K E F)) (hr : PA X es (tDA K E A)) (hs : starEach (e :: es) X.env = (false, eval e X.env) :: starEach es X.env := by rfl) : PA X (e :: es) (tDA K E (fCons F A)) := (pa_cons ha hr hs).mono fun σ H Qh ⟨W0, H0, W, ρ, Q, Z, st, f, k, x⟩ =>
  ⟨W0, H0, W, ρ, _, Z, st, f, fun v W1 H1 d e1 r q => ⟨W0, H0, W1, ρ, _, Z, st.ext e1, q, fun vs W2 H2 ds e2 rs q2 => k _ W2 H2 _ (e1.trans e2) (.cons (r.gx e2.w) rs) q2, x.ext e1⟩, x⟩
theorem d_consT (ha : PE X e (tDT K E F)) (hr : PA X es (tDAT K E A)) (hs : starEach (e :: es) X.env = (false, eval e X.env) :: starEach es X.env := by rfl) : PA X (e :: es) (tDAT K E (fCons F A)) := (pa_cons ha hr hs).mono fun σ H Qh ⟨W0, H0, W, ρ, Q, Z, st, f, k, x⟩ =>
  ⟨W0, H0, W, ρ, _, Z, st, f, fun v W1 H1 d e1 r q => ⟨W0, H0, W1, ρ, _, Z, st.ext e1, q, fun vs W2 H2 ds e2 rs q2 => k _ W2 H2 _ (e1.trans e2) (.cons (r.ext e2) rs) q2, x.ext e1⟩, x⟩
theorem d_star {p : Pos} (he : PE X e (tDT K E F)) (hr : PA X es (tDA K E A)) (hK : X.K = K := by rfl) (hs : starEach (.Starred e p :: es) X.env = (true, eval e X.env) :: starEach es X.env := by rfl) : PA X (.Starred e p :: es) (tDA K E (fStar F A)) := (kpa_star he hr hK hs).mono fun σ H Qh ⟨W0, H0, W, ρ, Q, Z, st, f, k, x⟩ =>
  ⟨W0, H0, W, ρ, _, Z, st, f, fun v W1 H1 d e1 r ⟨xs, hd, q⟩ => by
    obtain ⟨a, vs, h1, h2, h3, h4⟩ := r.seq_inv e1.s hd
    exact ⟨a, vs, h1, h2.symm, W0, H0, W1, ρ, _, Z, st.ext e1, q, fun us W2 H2 ds e2 rs q2 => k _ W2 H2 _ (e1.trans e2) ((h3.gx e2.w).app rs) q2, x.ext e1⟩, x⟩
def fTup (A : FA) : FE := fun ρ Q Z => A ρ (fun ds => ds.length ≤ sizeLine ∧ Q (.tup ds)) Z
def fLst (A : FA) : FA := fun ρ Q Z => A ρ (fun ds => ds.length ≤ sizeLine ∧ Q ds) Z
theorem d_tup {x1} (h : PA X es (tDA K E A)) : PE X (.Tuple es x1 pos) (tD K E (fTup A)) := (pe_tup h).mono fun σ H Qh ⟨W0, H0, W, ρ, Q, Z, st, f, k, x⟩ => ⟨W0, H0, W, ρ, _, Z, st, f, fun vs W1 H1 ds e1 r ⟨n, q⟩ =>
  ⟨by rw [r.len]; exact n, fun p hp => k _ _ _ _ (e1.trans (Ex.new e1.s hp)) (.tup (SqT.of upd_same) (r.gx (Gx.new (e1.s.free hp))) (by rw [r.len]; exact n)) q⟩, x⟩
theorem d_lst (h : PA X es (tDA K E A)) : PE X (.List es pos) (tDN K E (fLst A)) := (pe_lst h).mono fun σ H Qh ⟨W0, H0, W, ρ, Q, Z, st, f, k, x⟩ => ⟨W0, H0, W, ρ, _, Z, st, f, fun vs W1 H1 ds e1 r ⟨n, q⟩ =>
  ⟨by rw [r.len]; exact n, fun p hp => k p vs W1 _ ds (e1.trans (Ex.hid e1.s hp)) (e1.h.free hp) (e1.s.free hp) upd_same r (by rw [r.len]; exact n) q⟩, x⟩

/-! ### slices -/
abbrev FO := Env → (Option Int → Prop) → ZX → Prop
def tDO (K : PySem.W.Frag) (E : XK) (O : FO) : TO := fun σ H Qh => ∃ W0 H0 W ρ Q Z, Sat K W0 H0 W ρ σ H ∧ O ρ Q Z ∧ (∀ o W' H', Ex W H W' H' → Q o → Qh o H') ∧ XC K E W H Z
def oNo : FO := fun _ Q _ => Q none
def oAt (F : FE) : FO := fun ρ Q Z => F ρ (fun d => ∃ i, d = .int i ∧ Q (some i)) Z
theorem _root_.L2.PO.mono {X : Cx} {e : Option Expr} {t u : TO} (h : PO X e t) (m : ∀ σ H Q, u σ H Q → t σ H Q) : PO X e u := ⟨fun pins s σ H Q I q => h.run pins s σ H Q I (m _ _ _ q)⟩
theorem d_ono : PO X none (tDO K E oNo) := po_none.mono fun σ H Qh ⟨W0, H0, W, ρ, Q, Z, st, f, k, x⟩ => k none W H (Ex.refl st.see) f
theorem d_oat (h : PE X e (tD K E F)) : PO X (some e) (tDO K E (oAt F)) := (po_some h).mono fun σ H Qh ⟨W0, H0, W, ρ, Q, Z, st, f, k, x⟩ => ⟨W0, H0, W, ρ, _, Z, st, f, fun v W1 H1 d e1 r ⟨i, z, q⟩ => by
  subst z
  cases r
  exact ⟨i, rfl, k _ W1 H1 e1 q⟩, x⟩
def cutD (xs : List D) (lo hi : Option Int) : List D := (xs.drop (HT.sIx xs.length 0 lo)).take (HT.sIx xs.length xs.length hi - HT.sIx xs.length 0 lo)
theorem RepAll.cut {W : Hp} {vs : List V} {ds : List D} (h : RepAll K W vs ds) (lo hi : Option Int) : RepAll K W (cutV vs lo hi) (cutD ds lo hi) := by
  unfold cutV cutD
  rw [h.len]
  exact (h.drop _).take _
def RSl (a : D) (lo hi : Option Int) (Q : D → Prop) : Prop := match a with
  | .lst ds => Q (.lst (cutD ds lo hi))
  | .tup ds => Q (.tup (cutD ds lo hi))
  | .str z => z.length ≤ sizeLine ∧ Q (.str (Txt.slice z lo hi))
  | _ => False
def rSlAll (K : PySem.W.Frag) : V → Option Int → Option Int → Hp → VK → Prop := fun x lo hi H Q => (rSlL K x lo hi H Q ∨ rSlA K x lo hi H Q) ∨ C8.rSlX x lo hi H Q
theorem sl_All (hK : X.K = K := by rfl) : SlR X (rSlAll K) := by
  subst hK
  exact SlR.or (SlR.or sl_list sl_tupA) C8.sl_txt
def fSl (F : FE) (O P : FO) : FE := fun ρ Q Z => F ρ (fun a => O ρ (fun lo => P ρ (fun hi => RSl a lo hi Q) Z) Z) Z
theorem whole_cut {α : Type} {n : Nat} (xs : List α) (hn : xs.length = n) (lo hi : Option Int) (h : HT.sIx n 0 lo = 0 ∧ HT.sIx n n hi = n) : (xs.drop (HT.sIx n 0 lo)).take (HT.sIx n n hi - HT.sIx n 0 lo) = xs := by
  rw [h.1, h.2, List.drop_zero, Nat.sub_zero, List.take_of_length_le (by omega)]
theorem d_slice {lo hi : Option Expr} {O P : FO} {p2 : Pos} (he : PE X e (tDT K E F)) (hl : PO X lo (tDO K E O)) (hu : PO X hi (tDO K E P)) (hK : X.K = K := by rfl) : PE X (.Subscript e (.Slice lo hi none p2) pos) (tD K E (fSl F O P)) := (pe_slice (sl_All hK) he hl hu).mono fun σ H Qh ⟨W0, H0, W, ρ, Q, Z, st, f, k, x⟩ => by
  refine ⟨W0, H0, W, ρ, _, Z, st, f, fun v W1 H1 d e1 r1 q1 => ?_, x⟩
  refine ⟨W0, H0, W1, ρ, _, Z, st.ext e1, q1, fun lo W2 H2 e2 q2 => ?_, x.ext e1⟩
  refine ⟨W0, H0, W2, ρ, _, Z, st.ext (e1.trans e2), q2, fun hi W3 H3 e3 q3 => ?_, x.ext (e1.trans e2)⟩
  have e13 := (e1.trans e2).trans e3
  have r3 := r1.ext (e2.trans e3)
  cases d with
  | lst ds =>
    obtain ⟨p, vs, h1, h2, h3, h4⟩ := r3.lst_inv e3.s
    exact .inl (.inl ⟨p, vs, h1, SqL.of h2, fun q hq => k _ _ _ _ (e13.trans (Ex.new e3.s hq)) (.lst upd_same ((h3.cut lo hi).gx (Gx.new (e3.s.free hq))) (Nat.le_trans (cutV_length _ _ _) h4)) q3⟩)
  | tup ds =>
    obtain ⟨p, vs, h1, h2, h3, h4⟩ := r3.tup_inv e3.s
    refine .inl (.inr ⟨p, vs, h1, h2, fun z => ?_, fun _ q hq => k _ _ _ _ (e13.trans (Ex.new e3.s hq)) (.tup (SqT.of upd_same) ((h3.cut lo hi).gx (Gx.new (e3.s.free hq))) (Nat.le_trans (cutV_length _ _ _) h4)) q3⟩)
    have z2 : cutD ds lo hi = ds := by
      unfold cutD
      rw [h3.len] at z
      exact whole_cut ds rfl lo hi z
    have q3 : Q (.tup (cutD ds lo hi)) := q3
    rw [z2] at q3
    cases r3 with
    | val r3 =>
      subst h1
      exact k _ W3 H3 _ e13 r3 q3
  | str z => exact .inr ⟨z, r3.str_inv, q3.1, k _ W3 H3 _ e13 (.str _) q3.2⟩
  | _ => exact False.elim q3
/-- xs[::-1] of a list: a new one -/
def fRev (F : FE) : FA := fun ρ Q Z => F ρ (fun d => ∃ ds, d = .lst ds ∧ Q ds.reverse) Z
theorem d_rev {k : Nat} {p1 p2 p3 : Pos} (he : PE X e (tDT K E F)) (hK : X.K = K := by rfl) : PE X (.Subscript e (.Slice none none (some (.UnaryOp .USub (.Constant (.int 1) k p1) p2)) p3) pos) (tDN K E (fRev F)) := (kpe_revL he hK).mono fun σ H Qh ⟨W0, H0, W, ρ, Q, Z, st, f, k, x⟩ =>
  ⟨W0, H0, W, ρ, _, Z, st, f, fun v W1 H1 d e1 r ⟨ds, z, q⟩ => by
    subst z
    obtain ⟨p, vs, h1, h2, h3, h4⟩ := r.lst_inv e1.s
    exact ⟨p, vs, h1, SqL.of h2, fun l hl => k l _ W1 _ _ (e1.trans (Ex.hid e1.s hl)) (e1.h.free hl) (e1.s.free hl) upd_same h3.rev (by rw [List.length_reverse]; exact h4) q⟩, x⟩

/-! ### fields -/
def lookD : List Str → List D → Str → Option D
  | n :: ns, d :: ds, f => if f == n then some d else lookD ns ds f
  | _, _, _ => none
theorem look_v {W : Hp} {f : Str} {d : D} : ∀ {fs : List (Str × V)} {ds : List D}, RepAll K W (fs.map Prod.snd) ds → lookD (fs.map Prod.fst) ds f = some d → ∃ v, fs.lookup f = some v ∧ Rep K W v d
  | [], _, _, h => by cases h
  | (n, v) :: fs, d' :: ds, .cons r rs, h => by
    simp only [List.map_cons, lookD] at h
    rw [List.lookup_cons]
    cases q : f == n with
    | true =>
      rw [q, if_pos rfl] at h
      cases h
      exact ⟨v, rfl, r⟩
    | false =>
      rw [q, if_neg (by decide)] at h
      exact look_v rs h
def fFld (K : PySem.W.Frag) (f : Str) (F : FE) : FE := fun ρ Q Z => F ρ (fun d => ∃ C ns ds v, d = .obj C ns ds ∧ Cls K C ∧ NoAttr K C f ∧ lookD ns ds f = some v ∧ Q v) Z
theorem d_fld {f : Str} (he : PE X e (tDT K E F)) (hb : attributeBase e f X.env (eval e X.env) = eval e X.env) (hK : X.K = K := by rfl) : PE X (.Attribute e f pos) (tD K E (fFld K f F)) := (kpe_fld he hb hK).mono fun σ H Qh ⟨W0, H0, W, ρ, Q, Z, st, g, k, x⟩ =>
  ⟨W0, H0, W, ρ, _, Z, st, g, fun v W1 H1 d e1 r ⟨C, ns, ds, u, z, hc, hn, hl, q⟩ => by
    subst z
    obtain ⟨a, dx, fs, h1, h2, h3, h4⟩ := r.obj_inv e1.s
    subst h3
    obtain ⟨w, h5, h6⟩ := look_v h4 hl
    exact ⟨a, C, dx, fs, w, h1, h2, hc, hn, h5, k _ W1 H1 _ e1 h6 q⟩, x⟩
end
end Pu

set_option Elab.async false
set_option maxRecDepth 100000
set_option linter.all false
namespace Pu
open PySem PySem.Spec PyProof.Rows L2 Ly RZ
/-! ### what is walked -/
/-- J walks ds while what is seen stays -/
def IterF (K : PySem.W.Frag) (W : Hp) (J : It) (ds : List D) : Prop := ∃ G Y, Walk J ds.length G Y ∧ (∀ H3, Gx W H3 → G H3) ∧
  ∀ i H3 x H4 W3, i < ds.length → Gx W W3 → Gx W3 H3 → Y i H3 x H4 → ∃ W4 d, ds[i]? = some d ∧ Ex W3 H3 W4 H4 ∧ Rep K W4 x d
/-- .. while all of the heap stays -/
def IterC (K : PySem.W.Frag) (W H : Hp) (J : It) (ds : List D) : Prop := ∃ G Y, Walk J ds.length G Y ∧ (∀ H3, Gx H H3 → G H3) ∧
  ∀ i H3 x H4 W3, i < ds.length → Gx H H3 → Gx W W3 → Gx W3 H3 → Y i H3 x H4 → ∃ W4 d, ds[i]? = some d ∧ Ex W3 H3 W4 H4 ∧ Rep K W4 x d
def tDI (K : PySem.W.Frag) (E : XK) (A : FA) : TI := fun σ H R => ∃ W0 H0 W ρ Q Z, Sat K W0 H0 W ρ σ H ∧ A ρ Q Z ∧ (∀ J W' H' ds, Ex W H W' H' → IterC K W' H' J ds → Q ds → R J H') ∧ XC K E W H Z
def tDF (K : PySem.W.Frag) (E : XK) (A : FA) : TI := fun σ H R => ∃ W0 H0 W ρ Q Z, Sat K W0 H0 W ρ σ H ∧ A ρ Q Z ∧ (∀ J W' H' ds, Ex W H W' H' → IterF K W' J ds → Q ds → R J H') ∧ XC K E W H Z
theorem _root_.L2.PI.mono {X : Cx} {tg e : Expr} {t u : TI} (h : PI X tg e t) (m : ∀ σ H R, u σ H R → t σ H R) : PI X tg e u := ⟨fun pins s σ H Q I q => h.run pins s σ H Q I (m _ _ _ q)⟩
section
variable {X : Cx} {K : PySem.W.Frag} {E : XK} {F G L : FE} {T U : FT} {A : FA} {tg e a b : Expr} {es : List Expr} {pos : Pos}
theorem iter_list {W H : Hp} {p : Addr} {vs : List V} {ds : List D} (h : W p = some (.lst vs)) (r : RepAll K W vs ds) : IterF K W (Itl K p) ds :=
  ⟨fun H => SqL K H p vs, YAt vs, by rw [← r.len]; exact walk_list, fun H3 e => SqL.of (e _ _ h), fun i H3 x H4 W3 hi e s y => by
    obtain ⟨rfl, hx⟩ := y
    obtain ⟨d, h1, h2⟩ := r.get hx
    exact ⟨W3, d, h1, Ex.refl s, h2.gx e⟩⟩
theorem iter_listC {W H : Hp} {p : Addr} {vs : List V} {ds : List D} (h : H p = some (.lst vs)) (r : RepAll K W vs ds) : IterC K W H (Itl K p) ds :=
  ⟨fun H => SqL K H p vs, YAt vs, by rw [← r.len]; exact walk_list, fun H3 e => SqL.of (e _ _ h), fun i H3 x H4 W3 hi _ e s y => by
    obtain ⟨rfl, hx⟩ := y
    obtain ⟨d, h1, h2⟩ := r.get hx
    exact ⟨W3, d, h1, Ex.refl s, h2.gx e⟩⟩
theorem iter_tup {W : Hp} {p : Addr} {vs : List V} {ds : List D} (h : SqT K W p vs) (r : RepAll K W vs ds) : IterF K W (Itt K p) ds :=
  ⟨fun H => SqT K H p vs, YAt vs, by rw [← r.len]; exact walk_tup, fun H3 e => e.t h, fun i H3 x H4 W3 hi e s y => by
    obtain ⟨rfl, hx⟩ := y
    obtain ⟨d, h1, h2⟩ := r.get hx
    exact ⟨W3, d, h1, Ex.refl s, h2.gx e⟩⟩
def signsD (z : Str) : List D := z.cps.toList.map fun c => .str ⟨#[c]⟩
theorem iter_str {W : Hp} {z : Str} : IterF K W (Its z) (signsD z) :=
  ⟨_, _, by unfold signsD; rw [List.length_map, Array.length_toList]; exact walk_str (z := z), fun _ _ => trivial, fun i H3 x H4 W3 hi e s y => by
    obtain ⟨rfl, c, hc, rfl⟩ := y
    exact ⟨W3, .str ⟨#[c]⟩, by unfold signsD; rw [List.getElem?_map]; simp [hc], Ex.refl s, .str _⟩⟩
theorem IterF.c {W H : Hp} {J : It} {ds : List D} (s : Gx W H) (h : IterF K W J ds) : IterC K W H J ds := by
  obtain ⟨G, Y, h1, h2, h3⟩ := h
  exact ⟨G, Y, h1, fun H3 e => h2 H3 (s.trans e), fun i H3 x H4 W3 hi _ => h3 i H3 x H4 W3 hi⟩
def iAny (K : PySem.W.Frag) (tl : TE) : TI := fun σ H R => tl σ H fun x H1 => (∃ a, x = .ref a ∧ (∃ xs, SqL K H1 a xs) ∧ R (Itl K a) H1) ∨ (∃ a, x = .ref a ∧ (∃ xs, SqT K H1 a xs) ∧ R (Itt K a) H1) ∨ ∃ z, x = .str z ∧ R (Its z) H1
theorem pi_any {l : Expr} {tl : TE} (hl : PE X l tl) (hK : X.K = K := by rfl) : PI X tg l (iAny K tl) := by
  subst hK
  refine ⟨fun pins s σ H R I h => ?_⟩
  refine thn (hl.run pins s σ H _ I h) fun v s1 ⟨x, H1, I1, r1, q1⟩ => ?_
  rcases q1 with ⟨a, e, ⟨xs, hq⟩, q⟩ | ⟨a, e, ⟨xs, hq⟩, q⟩ | ⟨z, e, q⟩
  · subst e
    cases r1
    obtain ⟨its, rv, p, hz⟩ := I1.list hq
    refine wpAny_pyIter_list p.isList ?_
    refine ⟨s1.heap.objs.size, [s1.heap.objs.size], _, _, H1, rfl, I1.kept (t' := s1.toks) fun b o e => Heap.get?_push_of_some _ e, turn_list a _, ⟨_, Heap.get?_push_size _ rfl, rfl, rfl⟩, fun b hb => ?_, q⟩
    have e : b = s1.heap.objs.size := by simpa using hb
    subst e
    exact I1.fpOk (Nat.le_refl _) (I1.hok.fresh (Nat.le_refl _))
  · subst e
    cases r1
    obtain ⟨its, rv, p, hz⟩ := I1.tuple hq
    refine wpAny_pyIter_tuple (show s1.heap.IsTuple a its.toArray from p) ?_
    refine ⟨s1.heap.objs.size, [s1.heap.objs.size], _, _, H1, rfl, I1.kept (t' := s1.toks) fun b o e => Heap.get?_push_of_some _ e, turn_tuple a _, ⟨_, Heap.get?_push_size _ rfl, rfl, rfl⟩, fun b hb => ?_, q⟩
    have e : b = s1.heap.objs.size := by simpa using hb
    subst e
    exact I1.fpOk (Nat.le_refl _) (I1.hok.fresh (Nat.le_refl _))
  · subst e
    obtain ⟨t, rfl⟩ := r1
    cases ha : z.cps.all (· < 128)
    · exact wpAny_pyIter_wide ha (pi_one (tk := s1.toks) I1 _ (turn_str _ z t "str_iterator" (.inr rfl)) ⟨_, Heap.get?_push_size _ rfl, rfl, rfl⟩ q)
    · exact wpAny_pyIter_ascii ha (pi_one (tk := s1.toks) I1 _ (turn_str _ z t "str_ascii_iterator" (.inl rfl)) ⟨_, Heap.get?_push_size _ rfl, rfl, rfl⟩ q)
/-- the items of what is walked -/
def itD : D → Option (List D)
  | .lst ds => some ds
  | .tup ds => some ds
  | .str z => if z.length ≤ sizeLine then some (signsD z) else none
  | _ => none
def fIt (F : FE) : FA := fun ρ Q Z => F ρ (fun d => ∃ ds, itD d = some ds ∧ Q ds) Z
theorem d_itC (h : PE X e (tDT K E F)) (hK : X.K = K := by rfl) : PI X tg e (tDI K E (fIt F)) := (pi_any h hK).mono fun σ H R ⟨W0, H0, W, ρ, Q, Z, st, f, k, x⟩ => ⟨W0, H0, W, ρ, _, Z, st, f, fun v W1 H1 d e1 r ⟨ds, hd, q⟩ => (by
  cases d with
  | lst es =>
    cases hd
    obtain ⟨p, vs, h1, h2, h3, h4⟩ := r.lst_inv e1.s
    exact .inl ⟨p, h1, ⟨vs, SqL.of h2⟩, k _ W1 H1 _ e1 (iter_listC h2 h3) q⟩
  | tup es =>
    cases hd
    cases r with
    | val r =>
      cases r with
      | tup h2 h3 h4 => exact .inr (.inl ⟨_, rfl, ⟨_, e1.s.t h2⟩, k _ W1 H1 _ e1 ((iter_tup h2 h3).c e1.s) q⟩)
  | str z =>
    have hd : (if z.length ≤ sizeLine then some (signsD z) else none) = some ds := hd
    by_cases hz : z.length ≤ sizeLine
    · rw [if_pos hz] at hd
      cases hd
      exact .inr (.inr ⟨z, r.str_inv, k _ W1 H1 _ e1 (iter_str.c e1.s) q⟩)
    · rw [if_neg hz] at hd
      cases hd
  | _ => cases hd), x⟩
theorem d_itF (h : PE X e (tD K E F)) (hK : X.K = K := by rfl) : PI X tg e (tDF K E (fIt F)) := (pi_any h hK).mono fun σ H R ⟨W0, H0, W, ρ, Q, Z, st, f, k, x⟩ => ⟨W0, H0, W, ρ, _, Z, st, f, fun v W1 H1 d e1 r ⟨ds, hd, q⟩ => (by
  cases d with
  | lst es =>
    cases hd
    cases r with
    | lst h2 h3 h4 => exact .inl ⟨_, rfl, ⟨_, SqL.of (e1.s _ _ h2)⟩, k _ W1 H1 _ e1 (iter_list (H := H1) h2 h3) q⟩
  | tup es =>
    cases hd
    cases r with
    | tup h2 h3 h4 => exact .inr (.inl ⟨_, rfl, ⟨_, e1.s.t h2⟩, k _ W1 H1 _ e1 (iter_tup h2 h3) q⟩)
  | str z =>
    have hd : (if z.length ≤ sizeLine then some (signsD z) else none) = some ds := hd
    by_cases hz : z.length ≤ sizeLine
    · rw [if_pos hz] at hd
      cases hd
      cases r
      exact .inr (.inr ⟨z, rfl, k _ W1 H1 _ e1 iter_str q⟩)
    · rw [if_neg hz] at hd
      cases hd
  | _ => cases hd), x⟩
/-- ranges -/
def rngD (lo : Int) (c : Int) (n : Nat) : List D := (List.range n).map fun k => .int (lo + (k : Nat) * c)
def fRng1 (A : FA) : FA := fun ρ Q Z => A ρ (fun as => ∃ j, as = [.int j] ∧ (-1000000 ≤ j ∧ j ≤ 1000000) ∧ Q (rngD 0 1 j.toNat)) Z
def fRng2 (A : FA) : FA := fun ρ Q Z => A ρ (fun as => ∃ i j, as = [.int i, .int j] ∧ (-1000000 ≤ i ∧ i ≤ 1000000) ∧ (-1000000 ≤ j ∧ j ≤ 1000000) ∧ Q (rngD i 1 (j - i).toNat)) Z
def fRng3 (A : FA) : FA := fun ρ Q Z => A ρ (fun as => ∃ i j, as = [.int i, .int j, .int (-1)] ∧ (-1000000 ≤ i ∧ i ≤ 1000000) ∧ (-1000000 ≤ j ∧ j ≤ 1000000) ∧ Q (rngD i (-1) (i - j).toNat)) Z
theorem iter_rng {W : Hp} {lo : Int} {n : Nat} : IterF K W (Itr lo n) (rngD lo 1 n) :=
  ⟨_, _, by unfold rngD; rw [List.length_map, List.length_range]; exact walk_range (lo := lo) (n := n), fun _ _ => trivial, fun i H3 x H4 W3 hi e s y => by
    obtain ⟨rfl, rfl⟩ := y
    have hi : i < n := by
      unfold rngD at hi
      rw [List.length_map, List.length_range] at hi
      exact hi
    refine ⟨W3, .int (lo + (i : Nat) * 1), by unfold rngD; rw [List.getElem?_map, List.getElem?_range hi]; rfl, Ex.refl s, ?_⟩
    rw [Int.mul_one]
    exact .int _⟩
theorem iter_rngC {W : Hp} {lo c : Int} {n : Nat} : IterF K W (Itc lo c n) (rngD lo c n) :=
  ⟨_, _, by unfold rngD; rw [List.length_map, List.length_range]; exact walk_rangeC (lo := lo) (c := c) (n := n), fun _ _ => trivial, fun i H3 x H4 W3 hi e s y => by
    obtain ⟨rfl, rfl⟩ := y
    have hi : i < n := by
      unfold rngD at hi
      rw [List.length_map, List.length_range] at hi
      exact hi
    exact ⟨W3, .int (lo + (i : Nat) * c), by unfold rngD; rw [List.getElem?_map, List.getElem?_range hi]; rfl, Ex.refl s, .int _⟩⟩
theorem ints1 {W : Hp} {vs : List V} {i : Int} (r : RepAll K W vs [.int i]) : vs = [.int i] := by
  cases r with
  | cons r rs => cases r; cases rs; rfl
theorem ints2 {W : Hp} {vs : List V} {i j : Int} (r : RepAll K W vs [.int i, .int j]) : vs = [.int i, .int j] := by
  cases r with
  | cons r rs => cases r; rw [ints1 rs]
theorem ints3 {W : Hp} {vs : List V} {i j l : Int} (r : RepAll K W vs [.int i, .int j, .int l]) : vs = [.int i, .int j, .int l] := by
  cases r with
  | cons r rs => cases r; rw [ints2 rs]
theorem rng1_to {σ : L2.St} {H : Hp} {R : It → Hp → Prop} (h : tDF K E (fRng1 A) σ H R) : iRng1 (tDA K E A) σ H R := by
  obtain ⟨W0, H0, W, ρ, Q, Z, st, f, k, x⟩ := h
  refine ⟨W0, H0, W, ρ, _, Z, st, f, fun vs W1 H1 ds e1 r ⟨j, z, hb, q⟩ => ?_, x⟩
  subst z
  exact ⟨j, ints1 r, by omega, by omega, k _ W1 H1 _ e1 iter_rng q⟩
theorem rng2_to {σ : L2.St} {H : Hp} {R : It → Hp → Prop} (h : tDF K E (fRng2 A) σ H R) : iRng2 (tDA K E A) σ H R := by
  obtain ⟨W0, H0, W, ρ, Q, Z, st, f, k, x⟩ := h
  refine ⟨W0, H0, W, ρ, _, Z, st, f, fun vs W1 H1 ds e1 r ⟨i, j, z, hb, hb2, q⟩ => ?_, x⟩
  subst z
  exact ⟨i, j, ints2 r, by omega, k _ W1 H1 _ e1 iter_rng q⟩
theorem rng3_to {σ : L2.St} {H : Hp} {R : It → Hp → Prop} (h : tDF K E (fRng3 A) σ H R) : iRng3 (tDA K E A) σ H R := by
  obtain ⟨W0, H0, W, ρ, Q, Z, st, f, k, x⟩ := h
  refine ⟨W0, H0, W, ρ, _, Z, st, f, fun vs W1 H1 ds e1 r ⟨i, j, z, hb, hb2, q⟩ => ?_, x⟩
  subst z
  exact ⟨i, j, -1, _, ints3 r, RgC.neg (by omega) (by omega) (by omega) (by omega), k _ W1 H1 _ e1 iter_rngC q⟩
/-- what a for may walk, a comprehension may -/
theorem df_di {σ : L2.St} {H : Hp} {R : It → Hp → Prop} (h : tDI K E A σ H R) : tDF K E A σ H R := by
  obtain ⟨W0, H0, W, ρ, Q, Z, st, f, k, x⟩ := h
  exact ⟨W0, H0, W, ρ, Q, Z, st, f, fun J W' H' ds e i q => k J W' H' ds e (i.c e.s) q, x⟩
theorem d_fc (h : PI X tg e (tDF K E A)) : PI X tg e (tDI K E A) := h.mono fun _ _ _ q => df_di q
theorem d_rng1 {p : Pos} (hg : Gl X "range") (hm : X.mg "range" = none) (ha : PA X [a] (tDA K E A)) (hs : starEach [a] X.env = [(false, eval a X.env)] := by rfl) : PI X tg (.Call (.Name "range" p) [a] [] pos) (tDF K E (fRng1 A)) := (pi_range1 hg hm ha hs).mono fun _ _ _ h => rng1_to h
theorem d_rng2 {p : Pos} (hg : Gl X "range") (hm : X.mg "range" = none) (ha : PA X [a, b] (tDA K E A)) (hs : starEach [a, b] X.env = [(false, eval a X.env), (false, eval b X.env)] := by rfl) (hs2 : starEach [b] X.env = [(false, eval b X.env)] := by rfl) :
    PI X tg (.Call (.Name "range" p) [a, b] [] pos) (tDF K E (fRng2 A)) := (pi_range2 hg hm ha hs hs2).mono fun _ _ _ h => rng2_to h
theorem d_rng3 {p : Pos} {c : Expr} (hg : Gl X "range") (hm : X.mg "range" = none) (ha : PA X [a, b, c] (tDA K E A)) (hs : starEach [a, b, c] X.env = (false, eval a X.env) :: starEach [b, c] X.env := by rfl) (hpl : (backTo pos (starEach [b, c] X.env)).any (·.1) = false := by rfl) :
    PI X tg (.Call (.Name "range" p) [a, b, c] [] pos) (tDF K E (fRng3 A)) := (pi_range3 hg hm ha hs hpl).mono fun _ _ _ h => rng3_to h
/-- pairs -/
def pairsD : List D → List D → List D
  | a :: as, b :: bs => .tup [a, b] :: pairsD as bs
  | _, _ => []
theorem pairsD_len : ∀ as bs : List D, (pairsD as bs).length = min as.length bs.length
  | [], _ => by simp [pairsD]
  | _ :: _, [] => by simp [pairsD]
  | a :: as, b :: bs => by simp [pairsD, pairsD_len as bs]
theorem pairsD_get : ∀ (as bs : List D) (i : Nat) (a b : D), as[i]? = some a → bs[i]? = some b → (pairsD as bs)[i]? = some (.tup [a, b])
  | [], _, _, _, _, h, _ => by simp at h
  | _ :: _, [], _, _, _, _, h => by simp at h
  | a :: as, b :: bs, 0, x, y, h, h2 => by simp at h h2; subst h; subst h2; rfl
  | a :: as, b :: bs, i + 1, x, y, h, h2 => by
    rw [pairsD, List.getElem?_cons_succ]
    exact pairsD_get as bs i x y (by simpa using h) (by simpa using h2)
theorem pair_new {W3 H3 H4 : Hp} {x : V} {T : Addr} {v w : V} {a b : D} (s : Gx W3 H3) (hx : x = .ref T) (hT : H3 T = none) (h4 : H4 = upd H3 T (.tup [v, w])) (r1 : Rep K W3 v a) (r2 : Rep K W3 w b) : ∃ W4, Ex W3 H3 W4 H4 ∧ Rep K W4 x (.tup [a, b]) := by
  subst h4
  subst hx
  have e := Gx.new (o := .tup [v, w]) (s.free hT)
  exact ⟨_, Ex.new s hT, .tup (SqT.of upd_same) (.cons (r1.gx e) (.cons (r2.gx e) .nil)) (by show 2 ≤ sizeLine; decide)⟩
/-- zip of two lists or of two tuples -/
def fZip (A : FA) : FA := fun ρ Q Z => A ρ (fun as => ∃ xs ys, (as = [.lst xs, .lst ys] ∨ as = [.tup xs, .tup ys]) ∧ Q (pairsD xs ys)) Z
theorem zip_to {σ : L2.St} {H : Hp} {R : It → Hp → Prop} (h : tDF K E (fZip A) σ H R) : iZipA K (tDA K E A) σ H R := by
  obtain ⟨W0, H0, W, ρ, Q, Z, st, f, k, x⟩ := h
  refine ⟨W0, H0, W, ρ, _, Z, st, f, fun vs W1 H1 ds e1 r ⟨xs, ys, z, q⟩ => ?_, x⟩
  rcases z with z | z
  · subst z
    cases r with
    | cons r1 r =>
      cases r with
      | cons r2 r =>
        cases r
        cases r1 with
        | lst h1 h2 h3 =>
          cases r2 with
          | lst h4 h5 h6 =>
            refine ⟨_, _, _, _, rfl, .inl ⟨SqL.of (e1.s _ _ h1), SqL.of (e1.s _ _ h4), k _ W1 H1 _ e1 ⟨_, _, walk_zip (by rw [pairsD_len, h2.len, h5.len]), fun H3 e => ⟨SqL.of (e _ _ h1), SqL.of (e _ _ h4)⟩, fun i H3 x H4 W3 hi e s y => ?_⟩ q⟩⟩
            obtain ⟨T, v, w, y1, y2, y3, y4, y5⟩ := y
            obtain ⟨a, g1, g2⟩ := h2.get y4
            obtain ⟨b, g3, g4⟩ := h5.get y5
            obtain ⟨W4, g5, g6⟩ := pair_new s y1 y2 y3 (g2.gx e) (g4.gx e)
            exact ⟨W4, _, pairsD_get _ _ i _ _ g1 g3, g5, g6⟩
  · subst z
    cases r with
    | cons r1 r =>
      cases r with
      | cons r2 r =>
        cases r
        cases r1 with
        | @tup a1 us _ h1 h2 h3 =>
          cases r2 with
          | @tup a2 ws _ h4 h5 h6 =>
            refine ⟨_, _, _, _, rfl, .inr ⟨e1.s.t h1, e1.s.t h4, k _ W1 H1 _ e1 ⟨fun H => SqT K H _ us ∧ SqT K H _ ws, YPair (fun i => us[i]?) (fun i => ws[i]?), ⟨fun i H hi q => ?_, fun H q => ?_, fun i H v H' hi q y => ?_⟩, fun H3 e => ⟨e.t h1, e.t h4⟩, fun i H3 x H4 W3 hi e s y => ?_⟩ q⟩⟩
            · rw [pairsD_len, ← h2.len, ← h5.len] at hi
              have g1 : i < us.length := by omega
              have g2 : i < ws.length := by omega
              exact ⟨us, ws, us[i], ws[i], q.1, q.2, by simp [g1], by simp [g2]⟩
            · rw [pairsD_len, ← h2.len, ← h5.len]
              exact ⟨us, ws, q.1, q.2, by omega⟩
            · obtain ⟨T, x, z, g1, g2, g3, g4, g5⟩ := y
              exact ⟨T, x, z, g1, g2, g3, g4 us q.1, g5 ws q.2⟩
            · obtain ⟨T, v, w, y1, y2, y3, y4, y5⟩ := y
              obtain ⟨a, g1, g2⟩ := h2.get y4
              obtain ⟨b, g3, g4⟩ := h5.get y5
              obtain ⟨W4, g5, g6⟩ := pair_new s y1 y2 y3 (g2.gx e) (g4.gx e)
              exact ⟨W4, _, pairsD_get _ _ i _ _ g1 g3, g5, g6⟩
theorem d_zip {p tpos : Pos} {elts : List Expr} {kk : Nat} (hg : Gl X "zip") (hm : X.mg "zip" = none) (ha : PA X [a, b] (tDA K E A)) (hK : X.K = K := by rfl) (hs : starEach [a, b] X.env = (false, eval a X.env) :: starEach [b] X.env := by rfl) (hpl : (backTo pos (starEach [b] X.env)).any (·.1) = false := by rfl) :
    PI X (.Tuple elts kk tpos) (.Call (.Name "zip" p) [a, b] [] pos) (tDF K E (fZip A)) := by
  subst hK
  exact (pi_zipA hg hm ha hs hpl).mono fun _ _ _ h => zip_to h
/-- enumerate of a tuple -/
def enumD (i : Nat) : List D → List D
  | [] => []
  | d :: ds => .tup [.int (i : Nat), d] :: enumD (i + 1) ds
theorem enumD_len : ∀ (ds : List D) (i : Nat), (enumD i ds).length = ds.length
  | [], _ => rfl
  | d :: ds, i => by rw [enumD, List.length_cons, List.length_cons, enumD_len ds]
theorem enumD_get : ∀ (ds : List D) (j i : Nat) (d : D), ds[i]? = some d → (enumD j ds)[i]? = some (.tup [.int ((j + i : Nat) : Int), d])
  | [], _, _, _, h => by simp at h
  | d :: ds, j, 0, x, h => by simp at h; subst h; rfl
  | d :: ds, j, i + 1, x, h => by
    rw [enumD, List.getElem?_cons_succ, enumD_get ds (j + 1) i x (by simpa using h), show j + 1 + i = j + (i + 1) by omega]
def fEnum (A : FA) : FA := fun ρ Q Z => A ρ (fun as => ∃ xs, as = [.tup xs] ∧ Q (enumD 0 xs)) Z
theorem enum_to {σ : L2.St} {H : Hp} {R : It → Hp → Prop} (h : tDF K E (fEnum A) σ H R) : iEnumT K (tDA K E A) σ H R := by
  obtain ⟨W0, H0, W, ρ, Q, Z, st, f, k, x⟩ := h
  refine ⟨W0, H0, W, ρ, _, Z, st, f, fun vs W1 H1 ds e1 r ⟨xs, z, q⟩ => ?_, x⟩
  subst z
  cases r with
  | cons r1 r =>
    cases r
    cases r1 with
    | tup h1 h2 h3 =>
      refine ⟨_, _, rfl, e1.s.t h1, k _ W1 H1 _ e1 ⟨_, _, by rw [enumD_len, ← h2.len]; exact walk_enumT, fun H3 e => e.t h1, fun i H3 x H4 W3 hi e s y => ?_⟩ q⟩
      obtain ⟨T, v, w, y1, y2, y3, y4, y5⟩ := y
      cases y4
      obtain ⟨b, g3, g4⟩ := h2.get y5
      obtain ⟨W4, g5, g6⟩ := pair_new s y1 y2 y3 (.int _) (g4.gx e)
      exact ⟨W4, _, by rw [enumD_get _ 0 i _ g3, Nat.zero_add], g5, g6⟩
theorem d_enum {p tpos : Pos} {elts : List Expr} {kk : Nat} (hg : Gl X "enumerate") (hm : X.mg "enumerate" = none) (ha : PA X [e] (tDA K E A)) (hK : X.K = K := by rfl) (hs : starEach [e] X.env = [(false, eval e X.env)] := by rfl) :
    PI X (.Tuple elts kk tpos) (.Call (.Name "enumerate" p) [e] [] pos) (tDF K E (fEnum A)) := (kpi_enumT hg hm ha hK hs).mono fun _ _ _ h => enum_to h

/-! ### targets -/
abbrev FG := D → Env → (Env → Prop) → Prop
/-- a target: the slots it stores are among vs -/
def GSnd (K : PySem.W.Frag) (gh : TG) (g : FG) (vs : List Nat) : Prop := ∀ W0 H0 W ρ σ H x d k Q, Sat K W0 H0 W ρ σ H → Rep K W x d → g d ρ k → (∀ ρ2 σ2, Sat K W0 H0 W ρ2 σ2 H → wipe σ2 vs = wipe σ vs → k ρ2 → Q σ2 H) → gh x σ H Q
def gN (i : Nat) : FG := fun d ρ k => k (ρ.set i (.val d))
def gT (is : List Nat) : FG := fun d ρ k => ∃ ds, d = .tup ds ∧ ds.length = is.length ∧ k ((is.zip ds).foldl (fun ρ p => ρ.set p.1 (.val p.2)) ρ)
theorem wipe_set {σ : L2.St} {x : Option V} {j : Nat} : ∀ {vs : List Nat}, j ∈ vs → wipe (σ.set j x) vs = wipe σ vs
  | [], h => by cases h
  | v :: vs, h => by
    by_cases hj : j ∈ vs
    · show (wipe (σ.set j x) vs).set v none = (wipe σ vs).set v none
      rw [wipe_set hj]
    · have hv : j = v := by
        rcases List.mem_cons.mp h with h | h
        · exact h
        · exact absurd h hj
      subst hv
      show (wipe (σ.set j x) vs).set j none = (wipe σ vs).set j none
      have : ∀ {us : List Nat}, j ∉ us → wipe (σ.set j x) us = (wipe σ us).set j x := fun {us} => by
        induction us with
        | nil => intro _; rfl
        | cons u us ih =>
          intro hn
          show (wipe (σ.set j x) us).set u none = ((wipe σ us).set u none).set j x
          rw [ih (fun z => hn (List.mem_cons_of_mem _ z)), List.set_comm _ _ (fun z => hn (by rw [← z]; exact List.mem_cons_self ..))]
      rw [this hj, List.set_set]
theorem g_name {j : Nat} {vs : List Nat} (hj : j ∈ vs) : GSnd K (gName j) (gN j) vs := fun W0 H0 W ρ σ H x d k Q st r g q => q _ _ (st.set r) (wipe_set hj) g
theorem g_pair {i j : Nat} {vs : List Nat} (hi : i ∈ vs) (hj : j ∈ vs) : GSnd K (gTup K 2 (gCons (gName i) (gCons (gName j) gNil))) (gT [i, j]) vs := fun W0 H0 W ρ σ H x d k Q st r ⟨ds, z, hl, g⟩ q => by
  subst z
  cases r with
  | tup h1 h2 h3 =>
    cases h2 with
    | nil => cases hl
    | cons r1 h2 =>
      cases h2 with
      | nil => cases hl
      | cons r2 h2 =>
        cases h2 with
        | cons _ _ => simp at hl
        | nil => exact ⟨_, _, rfl, st.see.t h1, rfl, _, _, rfl, _, _, rfl, rfl, q _ _ ((st.set r1).set r2) (by rw [wipe_set hj, wipe_set hi]) g⟩

/-! ### comprehensions -/
abbrev F0 : ZX := fun _ => False
def wipeB (ρ : Env) : List Nat → Env
  | [] => ρ
  | v :: vs => (wipeB ρ vs).set v .un
theorem Sat.wipe {W0 H0 W H : Hp} {ρ : Env} {σ : L2.St} (h : Sat K W0 H0 W ρ σ H) : ∀ vs : List Nat, Sat K W0 H0 W (wipeB ρ vs) (L2.wipe σ vs) H
  | [] => h
  | v :: vs => (Sat.wipe h vs).wipe1
theorem wipe_wipe {σ : L2.St} : ∀ vs : List Nat, L2.wipe (L2.wipe σ vs) vs = L2.wipe σ vs := by
  intro vs
  have key : ∀ (us ws : List Nat), (∀ u ∈ us, u ∈ ws) → L2.wipe (L2.wipe σ us) ws = L2.wipe σ ws := by
    intro us
    induction us with
    | nil => intro ws _; rfl
    | cons u us ih =>
      intro ws hs
      show L2.wipe ((L2.wipe σ us).set u none) ws = _
      rw [wipe_set (hs u (List.mem_cons_self ..))]
      exact ih ws fun v hv => hs v (List.mem_cons_of_mem _ hv)
  exact key vs vs fun _ h => h
def lcD (g : FG) (T : FT) (F : FE) (ρ : Env) : List D → (List D → Prop) → Prop
  | [], Q => Q []
  | d :: ds, Q => g d ρ fun ρ2 => T ρ2 (fun b => if b = true then F ρ2 (fun y => lcD g T F ρ ds fun ys => Q (y :: ys)) F0 else lcD g T F ρ ds Q) F0
def fLc (A : FA) (g : FG) (T : FT) (F : FE) (vs : List Nat) : FA := fun ρ Q Z => A ρ (fun ds => ds.length ≤ sizeLine ∧ lcD g T F (wipeB ρ vs) ds Q) Z
theorem xc0 {W H : Hp} : XC K E0 W H F0 := fun _ _ _ _ _ _ _ z => z.elim
theorem lc_to {wi : TI} {gh : TG} {tt : TT} {te : TE} {g : FG} {vs : List Nat} {σ : L2.St} {H : Hp} {Qh : VK} (hw : ∀ σ H R, tDI K E A σ H R → wi σ H R) (gs : GSnd K gh g vs) (ht : ∀ σ H Q, tDB K E0 T σ H Q → tt σ H Q) (he : ∀ σ H Q, tD K E0 F σ H Q → te σ H Q)
    (h : tDN K E (fLc A g T F vs) σ H Qh) : tLc wi gh tt te vs σ H Qh := by
  obtain ⟨W0, H0, W, ρ, Q, Z, st, f, k, x⟩ := h
  refine hw _ _ _ ⟨W0, H0, W, ρ, _, Z, st, f, fun J W1 H1 ds e1 ⟨G, Y, hW, hG, hY⟩ ⟨hn, q⟩ => ?_, x⟩
  intro Dd hD
  refine lc_it hW (fun i H' => ∃ W' us acc, i ≤ ds.length ∧ Ex W1 H1 W' H' ∧ W' Dd = none ∧ H' Dd = some (.lst us) ∧ RepAll K W' us acc ∧ us.length ≤ i ∧ lcD g T F (wipeB ρ vs) (ds.drop i) fun ys => Q (acc ++ ys)) ?_ ?_ ?_ ?_
  · exact ⟨W1, [], [], Nat.zero_le _, Ex.hid e1.s hD, e1.s.free hD, upd_same, .nil, Nat.le_refl _, q⟩
  · rintro i H' _ ⟨W', us, acc, _, e2, _⟩
    exact hG H' e2.h
  · rintro i v H3 H4 hi ⟨W3, us, acc, _, e3, hw3, hd3, r3, l3, q3⟩ y
    obtain ⟨W4, d, hd, e4, r4⟩ := hY i H3 v H4 W3 hi e3.h e3.w e3.s y
    have e5 := e3.trans e4
    have hw4 : ∀ {W' H' : Hp}, Ex W3 H3 W' H' → W' Dd = none := fun {W' H'} e => by
      cases z : W' Dd with
      | none => rfl
      | some o =>
        rcases e.n _ _ z with z | z
        · rw [hw3] at z; cases z
        · rw [hd3] at z; cases z
    have hdr : ds.drop i = d :: ds.drop (i + 1) := by
      rw [List.drop_eq_getElem_cons hi]
      congr 1
      rw [List.getElem?_eq_getElem hi] at hd
      exact Option.some.inj hd
    rw [hdr] at q3
    have stw : Sat K W0 H0 W4 (wipeB ρ vs) (L2.wipe σ vs) H4 := (st.ext (e1.trans e5)).wipe vs
    refine gs W0 H0 W4 _ _ H4 v d _ _ stw r4 q3 fun ρ2 σ2 st2 hw2 q4 => ⟨by rw [hw2, wipe_wipe], ?_⟩
    refine ht _ _ _ ⟨W0, H0, W4, ρ2, _, F0, st2, q4, fun b W5 H5 e6 q5 => ?_, xc0⟩
    cases b with
    | true =>
      rw [if_pos rfl] at q5
      refine iteT (he _ _ _ ⟨W0, H0, W5, ρ2, _, F0, st2.ext e6, q5, fun u W6 H6 d6 e7 r6 q6 => ?_, xc0⟩)
      have e8 := (e4.trans e6).trans e7
      have hd6 := e8.h _ _ hd3
      refine ⟨us, hd6, by omega, W6, us ++ [u], acc ++ [d6], hi, Ex.mut (e3.trans e8) hD (hw4 e8), hw4 e8, upd_same, (r3.gx e8.w).app (.one r6), by rw [List.length_append]; show us.length + 1 ≤ i + 1; omega, ?_⟩
      have : (fun ys => Q (acc ++ [d6] ++ ys)) = fun ys => Q (acc ++ (d6 :: ys)) := by
        funext ys
        rw [List.append_assoc]
        rfl
      rw [this]
      exact q6
    | false =>
      rw [if_neg (by decide)] at q5
      have e8 := e4.trans e6
      exact iteF ⟨W5, us, acc, hi, e3.trans e8, hw4 e8, e8.h _ _ hd3, r3.gx e8.w, by omega, q5⟩
  · rintro H3 ⟨W3, us, acc, _, e3, hw3, hd3, r3, l3, q3⟩
    rw [List.drop_length] at q3
    have q3 : Q (acc ++ []) := q3
    rw [List.append_nil] at q3
    exact k Dd us W3 H3 acc (e1.trans e3) (e1.h.free hD) hw3 hd3 r3 (by omega) q3
theorem d_lc {elt tg iter : Expr} {ifs : List Expr} {scope : Scope} {own : List (Str × Nat)} {gh : TG} {g : FG} (hc : X.calm = true) (hN : X.N.Nodup) (hi : PI X tg iter (tDI K E A)) (ok : BlkOk X.N X.env.scope scope own) (gs : GSnd K gh g (own.map (·.2)))
    (hg : ∀ (s : Shared) (H : Hp) (C : Addr) (cl : List (Str × Addr)) (fp : List Addr), PG (X.blk s H scope (compEnvC scope cl C X.env) fp) tg gh) (ht : ∀ (s : Shared) (H : Hp) (C : Addr) (cl : List (Str × Addr)) (fp : List Addr), PTs (X.blk s H scope (compEnvC scope cl C X.env) fp) ifs (tDB K E0 T))
    (he : ∀ (s : Shared) (H : Hp) (C : Addr) (cl : List (Str × Addr)) (fp : List Addr), PE (X.blk s H scope (compEnvC scope cl C X.env) fp) elt (tD K E0 F)) (hs : ∀ x, foldedSetIterable iter X.env x = pure x := by intro _; rfl) :
    PE X (.ListComp elt [⟨tg, iter, ifs, 0⟩] scope pos) (tDN K E (fLc A g T F (own.map (·.2)))) := (pe_lc hc hN hi ok hg ht he hs).mono fun _ _ _ h => lc_to (fun _ _ _ q => q) gs (fun _ _ _ q => q) (fun _ _ _ q => q) h
def fYes : FT := fun _ Q _ => Q true
theorem d_pts0 : PTs X [] (tDB K E fYes) := ⟨fun pins s σ H Q I ⟨W0, H0, W, ρ, Q', Z, st, f, k, x⟩ => pts_nil.run pins s σ H Q I (k true W H (Ex.refl st.see) f)⟩
theorem d_pts1 {c : Expr} (h : PT X c (tDB K E T)) : PTs X [c] (tDB K E T) := pts_one h
end
end Pu

set_option Elab.async false
set_option maxRecDepth 100000
set_option linter.all false
namespace Pu
open PySem PySem.Spec PyProof.Rows L2 Ly
/-! ### statements -/
structure EndsD where
  nx : Env → Prop
  rt : D → Prop
  bk : Env → Prop := fun _ => False
  ct : Env → Prop := fun _ => False
  ex : ZX
abbrev FS := Env → EndsD → Prop
structure Ok (K : PySem.W.Frag) (W0 H0 : Hp) (E : XK) (W : Hp) (De : EndsD) (Dh : Ends) : Prop where
  nx : ∀ W' ρ' σ' H', Gx W W' → Sat K W0 H0 W' ρ' σ' H' → De.nx ρ' → Dh.nx σ' H'
  rt : ∀ v W' H' d, Ex W0 H0 W' H' → Rep K W' v d → De.rt d → Dh.rt v H'
  bk : ∀ W' ρ' σ' H', Gx W W' → Sat K W0 H0 W' ρ' σ' H' → De.bk ρ' → Dh.bk σ' H'
  ct : ∀ W' ρ' σ' H', Gx W W' → Sat K W0 H0 W' ρ' σ' H' → De.ct ρ' → Dh.ct σ' H'
  ex : XC K E W0 H0 De.ex
def tDS (K : PySem.W.Frag) (W0 H0 : Hp) (E : XK) (S : FS) : TS := fun Dh σ H => ∃ W ρ De, Sat K W0 H0 W ρ σ H ∧ S ρ De ∧ Ok K W0 H0 E W De Dh
theorem _root_.L2.PS.mono {X : Cx} {st : Stmt} {t u : TS} (h : PS X st t) (m : ∀ D σ H, u D σ H → t D σ H) : PS X st u := ⟨fun pins s σ H D I q => h.run pins s σ H D I (m _ _ _ q)⟩
theorem _root_.L2.PSs.mono {X : Cx} {st : List Stmt} {t u : TS} (h : PSs X st t) (m : ∀ D σ H, u D σ H → t D σ H) : PSs X st u := ⟨fun pins s σ H D I q => h.run pins s σ H D I (m _ _ _ q)⟩
section
variable {X : Cx} {K : PySem.W.Frag} {E : XK} {W0 H0 : Hp} {F G L : FE} {T U : FT} {A N : FA} {S S' : FS} {tg e a b : Expr} {es : List Expr} {pos pos' : Pos} {st : Stmt} {rest body : List Stmt} {i j : Nat}
theorem Ok.up {De : EndsD} {Dh : Ends} {W W1 : Hp} (o : Ok K W0 H0 E W De Dh) (e : Gx W W1) : Ok K W0 H0 E W1 De Dh := ⟨fun W' ρ' σ' H' g => o.nx W' ρ' σ' H' (e.trans g), o.rt, fun W' ρ' σ' H' g => o.bk W' ρ' σ' H' (e.trans g), fun W' ρ' σ' H' g => o.ct W' ρ' σ' H' (e.trans g), o.ex⟩
theorem Ok.xc {De : EndsD} {Dh : Ends} {W H Wb : Hp} {ρ : Env} {σ : L2.St} (o : Ok K W0 H0 E Wb De Dh) (s : Sat K W0 H0 W ρ σ H) : XC K E W H De.ex := o.ex.ext s.ex
def sNext : FS := fun ρ De => De.nx ρ
def sSeq (S S' : FS) : FS := fun ρ De => S ρ { De with nx := fun ρ' => S' ρ' De }
theorem d_snil : PSs X [] (tDS K W0 H0 E sNext) := pss_nil.mono fun D σ H ⟨W, ρ, De, s, q, o⟩ => o.nx W ρ σ H (Gx.refl W) s q
theorem d_seq (h1 : PS X st (tDS K W0 H0 E S)) (h2 : PSs X rest (tDS K W0 H0 E S')) : PSs X (st :: rest) (tDS K W0 H0 E (sSeq S S')) := (pss_cons h1 h2).mono fun D σ H ⟨W, ρ, De, s, q, o⟩ =>
  ⟨W, ρ, _, s, q, ⟨fun W' ρ' σ' H' g s' q' => ⟨W', ρ', De, s', q', o.up g⟩, o.rt, o.bk, o.ct, o.ex⟩⟩
theorem d_sone (h1 : PS X st (tDS K W0 H0 E S)) : PSs X [st] (tDS K W0 H0 E S) := pss_one h1
theorem d_pass : PS X (.Pass pos) (tDS K W0 H0 E sNext) := ps_pass.mono fun D σ H ⟨W, ρ, De, s, q, o⟩ => o.nx W ρ σ H (Gx.refl W) s q
def sRet (F : FE) : FS := fun ρ De => F ρ De.rt De.ex
theorem d_ret (h : PE X e (tD K E F)) : PS X (.Return (some e) pos) (tDS K W0 H0 E (sRet F)) := (ps_ret h).mono fun D σ H ⟨W, ρ, De, s, q, o⟩ => ⟨W0, H0, W, ρ, _, _, s, q, fun v W' H' d e r z => o.rt v W' H' d (s.ex.trans e) r z, o.xc s⟩
def sIf (T : FT) (S S' : FS) : FS := fun ρ De => T ρ (fun b => if b = true then S ρ De else S' ρ De) De.ex
theorem d_ifs {c : Expr} {u v : List Stmt} (hc : PT X c (tDB K E T)) (ha : PSs X u (tDS K W0 H0 E S)) (hb : PSs X v (tDS K W0 H0 E S')) : PS X (.If c u v pos) (tDS K W0 H0 E (sIf T S S')) := (ps_if hc ha hb).mono fun D σ H ⟨W, ρ, De, s, q, o⟩ =>
  ⟨W0, H0, W, ρ, _, _, s, q, fun b W' H' e z => by
    cases b with
    | true =>
      rw [if_pos rfl] at z
      exact iteT ⟨W', ρ, De, s.ext e, z, o.up e.w⟩
    | false =>
      rw [if_neg (by decide)] at z
      exact iteF ⟨W', ρ, De, s.ext e, z, o.up e.w⟩, o.xc s⟩
/-- x = a value -/
def sAsg (i : Nat) (F : FE) : FS := fun ρ De => F ρ (fun d => De.nx (ρ.set i (.val d))) De.ex
theorem d_asg (he : PE X e (tD K E F)) (hg : PG X tg (gName i)) (hs : swapsWithSole [tg] e pos.line X.env = pure false := by rfl) (hw : swappedStores [tg] e X.env = pure none := by rfl)
    (h1 : (assignEach [tg] X.env).map (·.2) = [assign tg X.env] := by rfl) : PS X (.Assign [tg] e pos) (tDS K W0 H0 E (sAsg i F)) := (ps_asg he hg hs hw h1).mono fun D σ H ⟨W, ρ, De, s, q, o⟩ =>
  ⟨W0, H0, W, ρ, _, _, s, q, fun v W' H' d e r z => o.nx W' _ _ H' e.w ((s.ext e).set r) z, o.xc s⟩
/-- x = a new list -/
def sNew (i : Nat) (N : FA) : FS := fun ρ De => N ρ (fun ds => De.nx (ρ.set i (.lst ds))) De.ex
theorem d_new (he : PE X e (tDN K E N)) (hg : PG X tg (gName i)) (hs : swapsWithSole [tg] e pos.line X.env = pure false := by rfl) (hw : swappedStores [tg] e X.env = pure none := by rfl)
    (h1 : (assignEach [tg] X.env).map (·.2) = [assign tg X.env] := by rfl) : PS X (.Assign [tg] e pos) (tDS K W0 H0 E (sNew i N)) := (ps_asg he hg hs hw h1).mono fun D σ H ⟨W, ρ, De, s, q, o⟩ =>
  ⟨W0, H0, W, ρ, _, _, s, q, fun p vs W' H' ds e hp hw h' r n z => o.nx W' _ _ H' e.w (s.put (b := .lst ds) e hp ⟨p, vs, rfl, rfl, hw, s.ex.h.free hp, h', r, n⟩) z, o.xc s⟩
/-- (a, b) = a value -/
def sTgt (g : FG) (F : FE) : FS := fun ρ De => F ρ (fun d => g d ρ De.nx) De.ex
theorem d_tgt {gh : TG} {g : FG} {vs : List Nat} (he : PE X e (tD K E F)) (hg : PG X tg gh) (gs : GSnd K gh g vs) (hs : swapsWithSole [tg] e pos.line X.env = pure false := by rfl) (hw : swappedStores [tg] e X.env = pure none := by rfl)
    (h1 : (assignEach [tg] X.env).map (·.2) = [assign tg X.env] := by rfl) : PS X (.Assign [tg] e pos) (tDS K W0 H0 E (sTgt g F)) := (ps_asg he hg hs hw h1).mono fun D σ H ⟨W, ρ, De, s, q, o⟩ =>
  ⟨W0, H0, W, ρ, _, _, s, q, fun v W' H' d e r z => gs W0 H0 W' ρ σ H' v d _ _ (s.ext e) r z fun ρ2 σ2 s2 _ q2 => o.nx W' ρ2 σ2 H' e.w s2 q2, o.xc s⟩
/-- a, b = x, y -/
def sPar (i j : Nat) (A : FA) : FS := fun ρ De => A ρ (fun ds => ∃ d f, ds = [d, f] ∧ De.nx ((ρ.set i (.val d)).set j (.val f))) De.ex
theorem d_par {st : Stmt} (h : PS X st (tPar i j (tDA K E A))) : PS X st (tDS K W0 H0 E (sPar i j A)) := h.mono fun D σ H ⟨W, ρ, De, s, q, o⟩ =>
  ⟨W0, H0, W, ρ, _, _, s, q, fun vs W' H' ds e r ⟨d, f, z, q⟩ => by
    subst z
    cases r with
    | cons r1 r =>
      cases r with
      | cons r2 r =>
        cases r
        exact ⟨_, _, rfl, o.nx W' _ _ H' e.w (((s.ext e).set r1).set r2) q⟩, o.xc s⟩
/-- a list is given away ahead of a statement -/
def demB (i : Nat) (ρ : Env) : Env := match ρ[i]? with
  | some (.lst ds) => ρ.set i (.val (.lst ds))
  | _ => ρ
def sDem (i : Nat) (S : FS) : FS := fun ρ De => S (demB i ρ) De
theorem dem_to {D : Ends} {σ : L2.St} {H : Hp} (h : tDS K W0 H0 E (sDem i S) D σ H) : tDS K W0 H0 E S D σ H := by
  obtain ⟨W, ρ, De, s, q, o⟩ := h
  unfold sDem demB at q
  split at q
  · rename_i ds hi
    obtain ⟨W', g, s'⟩ := s.dem hi
    exact ⟨W', _, De, s', q, o.up g⟩
  · exact ⟨W, ρ, De, s, q, o⟩
theorem d_dem (i : Nat) (h : PS X st (tDS K W0 H0 E S)) : PS X st (tDS K W0 H0 E (sDem i S)) := h.mono fun _ _ _ q => dem_to q
/-- x[k] = v of an own list -/
def sPut (i : Nat) (G F : FE) : FS := fun ρ De => F ρ (fun d => ∃ ds, ρ[i]? = some (.lst ds) ∧ G ρ (fun k => ∃ n m, k = .int n ∧ ixN ds.length n = some m ∧ De.nx (ρ.set i (.lst (ds.set m d)))) De.ex) De.ex
theorem d_put {st : Stmt} (h : PS X st (tAsg (tD K E F) (gSub (tVar i) (tD K E G) rSetL))) : PS X st (tDS K W0 H0 E (sPut i G F)) := h.mono fun D σ H ⟨W, ρ, De, s, q, o⟩ => by
  refine ⟨W0, H0, W, ρ, _, _, s, q, fun v W1 H1 d e1 r1 ⟨ds, hi, q1⟩ => ?_, o.xc s⟩
  have s1 := s.ext e1
  obtain ⟨p, vs, h1, _⟩ := s1.own hi
  refine ⟨.ref p, h1, W0, H0, W1, ρ, _, _, s1, q1, fun k W2 H2 dk e2 r2 ⟨n, m, z, hm, q2⟩ => ?_, o.xc s1⟩
  subst z
  cases r2
  have s2 := s1.ext e2
  obtain ⟨p', us, g1, g2, g3, g4, g5, g6⟩ := s2.own hi
  rw [h1] at g1
  cases g1
  refine ⟨p, us, n, m, rfl, rfl, g4, by rw [g5.len]; exact hm, ?_⟩
  exact o.nx W2 _ σ _ (e1.trans e2).w (s2.chg hi h1 (g5.set (r1.gx e2.w) m) (by rw [List.length_set]; exact g6)) q2
/-- x.append(v), x.extend(v) of an own list -/
def sApp (i : Nat) (F : FE) : FS := fun ρ De => ∃ ds, ρ[i]? = some (.lst ds) ∧ F ρ (fun d => ds.length < sizeLine ∧ De.nx (ρ.set i (.lst (ds ++ [d])))) De.ex
def sExt (i : Nat) (F : FE) : FS := fun ρ De => ∃ ds, ρ[i]? = some (.lst ds) ∧ F ρ (fun d => ∃ es, d = .lst es ∧ ds.length + es.length ≤ sizeLine ∧ De.nx (ρ.set i (.lst (ds ++ es)))) De.ex
theorem d_app {st : Stmt} (h : PS X st (tDrop (tBM K "list" rAppend (tVar i) (tCons (tD K E F) tNil)))) : PS X st (tDS K W0 H0 E (sApp i F)) := h.mono fun D σ H ⟨W, ρ, De, s, ⟨ds, hi, q⟩, o⟩ => by
  obtain ⟨p, vs, h1, _, _, h4, _⟩ := s.own hi
  refine ⟨.ref p, h1, .inl ⟨rfl, vs, SqL.of h4⟩, W0, H0, W, ρ, _, _, s, q, fun v W1 H1 d e1 r1 ⟨hn, q1⟩ => ?_, o.xc s⟩
  have s1 := s.ext e1
  obtain ⟨p', us, g1, g2, g3, g4, g5, g6⟩ := s1.own hi
  rw [h1] at g1
  cases g1
  refine ⟨p, us, v, rfl, rfl, g4, by rw [g5.len]; exact hn, ?_⟩
  exact o.nx W1 _ σ _ e1.w (s1.chg hi h1 (g5.app (.one r1)) (by rw [List.length_append, g5.len]; exact hn)) q1
theorem d_ext {st : Stmt} (h : PS X st (tDrop (tBM K "list" rExtend (tVar i) (tCons (tD K E F) tNil)))) : PS X st (tDS K W0 H0 E (sExt i F)) := h.mono fun D σ H ⟨W, ρ, De, s, ⟨ds, hi, q⟩, o⟩ => by
  obtain ⟨p, vs, h1, _, _, h4, _⟩ := s.own hi
  refine ⟨.ref p, h1, .inl ⟨rfl, vs, SqL.of h4⟩, W0, H0, W, ρ, _, _, s, q, fun v W1 H1 d e1 r1 ⟨es, z, hn, q1⟩ => ?_, o.xc s⟩
  subst z
  cases r1 with
  | lst k1 k2 k3 =>
    have s1 := s.ext e1
    obtain ⟨p', us, g1, g2, g3, g4, g5, g6⟩ := s1.own hi
    rw [h1] at g1
    cases g1
    refine ⟨p, _, us, _, rfl, rfl, g4, e1.s _ _ k1, by rw [g5.len, k2.len]; exact hn, ?_⟩
    exact o.nx W1 _ σ _ e1.w (s1.chg hi h1 (g5.app k2) (by rw [List.length_append, g5.len, k2.len]; exact hn)) q1
/-- self.f = v of an own instance -/
def putN (f : Str) (d : D) : List Str → List D → List Str × List D
  | n :: ns, x :: ds => if n = f then (n :: ns, d :: ds) else ((n :: (putN f d ns ds).1), (x :: (putN f d ns ds).2))
  | _, _ => ([f], [d])
theorem putN_v {W : Hp} {f : Str} {v : V} {d : D} (r : Rep K W v d) : ∀ {fs : List (Str × V)} {ds : List D}, RepAll K W (fs.map Prod.snd) ds → (putF f v fs).map Prod.fst = (putN f d (fs.map Prod.fst) ds).1 ∧ RepAll K W ((putF f v fs).map Prod.snd) (putN f d (fs.map Prod.fst) ds).2 ∧ (putN f d (fs.map Prod.fst) ds).1.length ≤ fs.length + 1
  | [], [], .nil => ⟨rfl, .one r, Nat.le_refl _⟩
  | (n, x) :: fs, y :: ds, .cons r1 rs => by
    obtain ⟨h1, h2, h3⟩ := putN_v (f := f) r rs
    show (if n = f then (n, v) :: fs else (n, x) :: putF f v fs).map Prod.fst = (if n = f then (n :: fs.map Prod.fst, d :: ds) else (n :: (putN f d (fs.map Prod.fst) ds).1, y :: (putN f d (fs.map Prod.fst) ds).2)).1 ∧
      RepAll K W ((if n = f then (n, v) :: fs else (n, x) :: putF f v fs).map Prod.snd) (if n = f then (n :: fs.map Prod.fst, d :: ds) else (n :: (putN f d (fs.map Prod.fst) ds).1, y :: (putN f d (fs.map Prod.fst) ds).2)).2 ∧
      (if n = f then (n :: fs.map Prod.fst, d :: ds) else (n :: (putN f d (fs.map Prod.fst) ds).1, y :: (putN f d (fs.map Prod.fst) ds).2)).1.length ≤ fs.length + 1 + 1
    by_cases h : n = f
    · rw [if_pos h, if_pos h]
      exact ⟨rfl, .cons r rs, by simp⟩
    · rw [if_neg h, if_neg h]
      exact ⟨by rw [List.map_cons, h1], .cons r1 h2, by rw [List.length_cons]; omega⟩
def sFldS (K : PySem.W.Frag) (i : Nat) (f : Str) (F : FE) : FS := fun ρ De => F ρ (fun d => ∃ a C ns ds, ρ[i]? = some (.obj a C ns ds) ∧ Cls K C ∧ NoAttr K C f ∧ ns.length < 100 ∧ De.nx (ρ.set i (.obj a C (putN f d ns ds).1 (putN f d ns ds).2))) De.ex
theorem Sat.chgO {W H : Hp} {ρ : Env} {σ : L2.St} (h : Sat K W0 H0 W ρ σ H) {C p dx : Addr} {ns ms : List Str} {ds es : List D} {fs : List (Str × V)} {x : Addr} (hi : ρ[i]? = some (.obj x C ns ds)) (hs : σ[i]? = some (some (.ref p))) (hp : ∃ gs, H p = some (.ins C dx gs)) (k : fs.map Prod.fst = ms) (r : RepAll K W (fs.map Prod.snd) es) (hn : ms.length ≤ 100) : Sat K W0 H0 W (ρ.set i (.obj x C ms es)) σ (upd H p (.ins C dx fs)) := by
  obtain ⟨oa, h1, h2⟩ := h.rep
  obtain ⟨s, h3, q, dx', vs, h0, h4, h5, h6, h7, h8, h9, h10, _⟩ := h2 i _ hi
  obtain ⟨gs, hg⟩ := hp
  have hq : q = p := by
    rw [h3, h5] at hs
    cases hs
    rfl
  subst hq
  rw [h8] at hg
  cases hg
  have hσ : σ.set i (some (.ref q)) = σ := by
    apply List.ext_getElem?
    intro j
    by_cases e : j = i
    · subst e
      rw [List.getElem?_set_self (List.getElem?_eq_some_iff.mp hs).1, hs]
    · rw [List.getElem?_set_ne (Ne.symm e)]
  rw [← hσ]
  refine sat_set (o := some q) (Ex.mut h.ex h7 h6) h.len h1 (fun j p z hj _ hp => ?_) (fun j b hj hb => ?_) ⟨q, dx, fs, h0, rfl, rfl, h6, h7, upd_same, by rw [upd_ne (fun z => by rw [z, h8] at h9; cases h9)]; exact h9, h10, k, r, hn⟩
  · cases z
    exact hj (h1 j i q hp h4)
  · obtain ⟨s', h11, h12⟩ := h2 j b hb
    exact ⟨s', h11, h12.mut (fun z => hj (h1 j i q z h4)) fun x z => by rw [h8] at z; cases z⟩
theorem d_fldS {st : Stmt} {f : Str} (h : PS X st (sFld K (tVar i) (tD K E F) f)) : PS X st (tDS K W0 H0 E (sFldS K i f F)) := h.mono fun D σ H ⟨W, ρ, De, s, q, o⟩ => by
  refine ⟨W0, H0, W, ρ, _, _, s, q, fun v W1 H1 d e1 r1 ⟨x, C, ns, ds, hi, hc, hn, hl, q1⟩ => ?_, o.xc s⟩
  have s1 := s.ext e1
  obtain ⟨oa, _, h2⟩ := s1.rep
  obtain ⟨u, h3, q, dx, vs, _, _, h5, _, _, h8, _, _, k1, k2, _⟩ := h2 i _ hi
  subst h5
  subst k1
  obtain ⟨g1, g2, g3⟩ := putN_v (f := f) r1 k2
  have hl : vs.length < 100 := by
    rw [List.length_map] at hl
    exact hl
  refine ⟨.ref q, h3, q, C, dx, vs, rfl, h8, hc, hn, by omega, ?_⟩
  exact o.nx W1 _ σ _ e1.w (s1.chgO hi h3 ⟨vs, h8⟩ g1 g2 (by omega)) q1

/-! ### loops -/
def forD (g : FG) (S : FS) : List D → Env → EndsD → Prop
  | [], ρ, De => De.nx ρ
  | d :: ds, ρ, De => g d ρ fun ρ2 => S ρ2 { De with nx := fun ρ3 => forD g S ds ρ3 De, ct := fun ρ3 => forD g S ds ρ3 De, bk := De.nx }
def sFor (A : FA) (g : FG) (S : FS) : FS := fun ρ De => A ρ (fun ds => forD g S ds ρ De) De.ex
theorem d_for {iter : Expr} {gh : TG} {g : FG} {vs : List Nat} (hp : PassesOwn (model X.prog X.w) X.A X.env X.xe) (hc : X.calm = true) (hi : PI X tg iter (tDF K E A)) (hg : PG X tg gh) (gs : GSnd K gh g vs) (hb : PSs X body (tDS K W0 H0 E S))
    (hs : ∀ x, foldedSetIterable iter X.env x = pure x := by intro _; rfl) : PS X (.For tg iter body [] pos) (tDS K W0 H0 E (sFor A g S)) := (ps_for hp hc hi hg hb hs).mono fun D σ H ⟨W, ρ, De, s, q, o⟩ => by
  refine ⟨W0, H0, W, ρ, _, _, s, q, fun J W1 H1 ds e1 ⟨G, Y, hW, hG, hY⟩ q1 => ?_, o.xc s⟩
  refine for_it hW (D := D) (fun i σ' H' => ∃ W' ρ', Gx W1 W' ∧ Sat K W0 H0 W' ρ' σ' H' ∧ forD g S (ds.drop i) ρ' De) ⟨W1, ρ, Gx.refl _, s.ext e1, q1⟩ ?_ ?_ ?_
  · rintro i σ' H' _ ⟨W', ρ', e2, s2, _⟩
    exact hG H' (e2.trans s2.see)
  · rintro i x σ' H2 H3 hi ⟨W2, ρ2, e2, s2, q2⟩ y
    obtain ⟨W3, d, hd, e3, r3⟩ := hY i H2 x H3 W2 hi e2 s2.see y
    have hdr : ds.drop i = d :: ds.drop (i + 1) := by
      rw [List.drop_eq_getElem_cons hi]
      congr 1
      rw [List.getElem?_eq_getElem hi] at hd
      exact Option.some.inj hd
    rw [hdr] at q2
    refine gs W0 H0 W3 ρ2 σ' H3 x d _ _ (s2.ext e3) r3 q2 fun ρ3 σ3 s3 _ q3 => ?_
    exact ⟨W3, ρ3, _, s3, q3, ⟨fun W' ρ' σ' H' g s' q' => ⟨W', ρ', (e2.trans e3.w).trans g, s', q'⟩, o.rt, fun W' ρ' σ' H' g s' q' => o.nx W' ρ' σ' H' (((e1.w.trans e2).trans e3.w).trans g) s' q', fun W' ρ' σ' H' g s' q' => ⟨W', ρ', (e2.trans e3.w).trans g, s', q'⟩, o.ex⟩⟩
  · rintro σ' H' ⟨W', ρ', e2, s2, q2⟩
    rw [List.drop_length] at q2
    exact o.nx W' ρ' σ' H' (e1.w.trans e2) s2 q2
end
end Pu

set_option Elab.async false
set_option maxRecDepth 100000
set_option linter.all false
namespace Pu
open PySem PySem.Spec PyProof.Rows L2 Ly
/-! ### what a def does -/
abbrev Fn := List D → (D → Prop) → ZX → Prop
def spD (K : PySem.W.Frag) (n : Nat) (f : Fn) : Sp := fun vs H Qh E => ∃ W ds Q Z, Gx W H ∧ RepAll K W vs ds ∧ ds.length = n ∧ f ds Q Z ∧ (∀ v W' H' d, Ex W H W' H' → Rep K W' v d → Q d → Qh v H') ∧ XC K E W H Z
def startB (n : Nat) (ds : List D) : Env := ds.map .val ++ List.replicate (n - ds.length) .un
def fnS (n : Nat) (S : FS) : Fn := fun ds Q Z => S (startB n ds) { nx := fun _ => Q .non, rt := Q, ex := Z }
section
variable {K : PySem.W.Frag}
theorem rep_start {W H : Hp} {n : Nat} {N : List Str} {vs : List V} {ds : List D} (s : Gx W H) (hN : N.length = n) (r : RepAll K W vs ds) : Sat K W H W (startB n ds) (L2.start N vs) H := by
  refine ⟨Ex.refl s, ?_, fun _ => none, (fun _ _ _ z => by cases z), fun i b hb => ?_⟩
  · unfold startB L2.start
    simp [r.len, hN]
  · unfold startB at hb
    unfold L2.start
    by_cases hi : i < ds.length
    · rw [List.getElem?_append_left (by simpa using hi), List.getElem?_map, List.getElem?_eq_getElem hi] at hb
      cases hb
      obtain ⟨v, h1, h2⟩ := r.getD (List.getElem?_eq_getElem hi)
      refine ⟨some v, ?_, rfl, v, rfl, h2⟩
      rw [List.getElem?_append_left (by rw [List.length_map, r.len]; exact hi), List.getElem?_map, h1]
      rfl
    · rw [List.getElem?_append_right (by simpa using Nat.le_of_not_lt hi), List.length_map] at hb
      have hlt : i - ds.length < n - ds.length := by
        have := (List.getElem?_eq_some_iff.mp hb).1
        rw [List.length_replicate] at this
        exact this
      rw [List.getElem?_replicate_of_lt hlt] at hb
      cases hb
      refine ⟨none, ?_, rfl⟩
      rw [List.getElem?_append_right (by rw [List.length_map, r.len]; omega), List.length_map, r.len, hN, List.getElem?_replicate_of_lt hlt]
end
section
variable {P : Program} {w : World} {K : PySem.W.Frag} {mg : Str → Option Value} {base : Heap}
/-- a def by its body -/
theorem fn_d {x qual : Str} {st : Stmt} {f : Addr} {fd : FuncData} {N ps : List Str} {k n : Nat} {g : Fn} {S : FS} (F : Fun K x qual st f fd) (Sc : FnScope N ps (defScope st)) (hn : ps.length = n)
    (hbody : ∀ (cdv : Value) (A : Around) (outer : List PySem.Env) (s : Shared) (H : Hp) (E : XK) (W0 : Hp), Room k (A.deeper (envOfC qual (defScope st) s.heap.objs.size f cdv)) →
      PSs (cxOf (L2.CX P w) P w K mg base N qual (defScope st) f cdv A outer s H E) (defBody st) (tDS K W0 H E S)) (hg : ∀ ds Q Z, ds.length = n → g ds Q Z → fnS N.length S ds Q Z) : FnOk P w K mg base (L2.CX P w) (k + 1) f fd ps (spD K n g) :=
  F.okX Sc (fun vs H Q E ⟨W, ds, _, _, _, r, hl, _⟩ => by rw [r.len, hl, hn]) fun cdv A outer s H vs Q E hr ⟨W, ds, Qd, Z, sw, r, hl, hf, k, x⟩ =>
    ⟨_, hbody cdv A outer s H E W hr, W, startB N.length ds, _, rep_start sw rfl r, hg ds Qd Z hl hf, ⟨fun W' ρ' σ' H' _ s' q => k _ W' H' _ s'.ex .non q, fun v W' H' d e r q => k v W' H' d e r q, (fun _ _ _ _ _ _ z => z.elim), (fun _ _ _ _ _ _ z => z.elim), x⟩⟩
/-- nothing raised is within all that may be -/
theorem fn_cx {k : Nat} {f : Addr} {fd : FuncData} {ps : List Str} {sp : Sp} (F : FnOk P w K mg base CX0 k f fd ps sp) : FnOk P w K mg base (L2.CX P w) k f fd ps sp :=
  ⟨F.len, fun A outer s H args us vs Q E hr he hb hv hs => codeAny_mono (F.run A outer s H args us vs Q E hr he hb hv hs) fun r s' h => by
    cases r with
    | error e => exact False.elim h
    | ok fl => cases fl <;> exact h⟩
/-- a def for its callers -/
structure CalF (P : Program) (w : World) (K : PySem.W.Frag) (mg : Str → Option Value) (base : Heap) (x : Str) (k n : Nat) (g : Fn) : Prop where
  ex : ∃ (f : Addr) (fd : FuncData) (ps : List Str), FnOk P w K mg base (L2.CX P w) k f fd ps (spD K n g) ∧ mg x = some (.ref f) ∧ PySem.W.keepIn K (.ref f) = true ∧ Binds K fd ps []
end
section
variable {X : Cx} {K : PySem.W.Frag} {E : XK} {W0 H0 : Hp} {F G L : FE} {T U : FT} {A N : FA} {S S' : FS} {g : Fn} {tg e a b o : Expr} {es : List Expr} {p pos apos : Pos} {i j k n : Nat} {x m f : Str} {C : Addr}
def fCall (g : Fn) (n : Nat) (A : FA) : FE := fun ρ Q Z => A ρ (fun ds => ds.length = n ∧ g ds Q Z) Z
theorem sp_to {σ : L2.St} {H : Hp} {Qh : VK} (h : tD K E (fCall g n A) σ H Qh) : tCall (spD K n g) [] E (tDA K E A) σ H Qh := by
  obtain ⟨W0, H0, W, ρ, Q, Z, st, f, k, x⟩ := h
  refine ⟨W0, H0, W, ρ, _, Z, st, f, fun vs W1 H1 ds e1 r ⟨hl, q⟩ => ?_, x⟩
  show spD K n g (vs ++ []) H1 Qh E
  rw [List.append_nil]
  exact ⟨W1, ds, Q, Z, e1.s, r, hl, q, fun v W2 H2 d e2 r2 q2 => k v W2 H2 d (e1.trans e2) r2 q2, x.ext e1⟩
theorem d_call (c : CalF X.prog X.w X.K X.mg X.base x k n g) (hr : Room k X.A) (hg : Gl X x) (hx : Passes (L2.CX X.prog X.w) X E) (ha : PA X (e :: es) (tDA K E A)) (hK : X.K = K := by rfl) (hdb : (x == ("__debug__" : Str)) = false := by decide)
    (he : starEach (e :: es) X.env = (false, eval e X.env) :: starEach es X.env := by rfl) (hpl : (backTo pos (starEach es X.env)).any (·.1) = false := by rfl) : PE X (.Call (.Name x p) (e :: es) [] pos) (tD K E (fCall g n A)) := by
  subst hK
  obtain ⟨f, fd, ps, F, hm, hk, hb⟩ := c.ex
  exact (pe_call F hr hg hm hk hb .nil hx ha hdb he hpl).mono fun _ _ _ h => sp_to h
theorem d_call0 (c : CalF X.prog X.w X.K X.mg X.base x k n g) (hr : Room k X.A) (hg : Gl X x) (hx : Passes (L2.CX X.prog X.w) X E) (hK : X.K = K := by rfl) (hdb : (x == ("__debug__" : Str)) = false := by decide) : PE X (.Call (.Name x p) [] [] pos) (tD K E (fCall g n fNil)) := by
  subst hK
  obtain ⟨f, fd, ps, F, hm, hk, hb⟩ := c.ex
  exact (pe_call0 F hr hg hm hk hb .nil hx hdb).mono fun σ H Qh ⟨W0, H0, W, ρ, Q, Z, st, ⟨hl, q⟩, k, x⟩ => ⟨W, [], Q, Z, st.see, .nil, hl, q, k, x⟩

/-! ### new instances -/
/-- __init__ as a def: the instance is its own -/
def spI (K : PySem.W.Frag) (C : Addr) (n : Nat) (g : Fn) : Sp := fun vs H Qh E => ∃ x dx us H1 W ds Q Z, vs = .ref x :: us ∧ H1 x = none ∧ H1 dx = none ∧ dx ≠ x ∧ H = upd (upd H1 dx (.own x)) x (.ins C dx []) ∧ Gx W H1 ∧ RepAll K W us ds ∧ ds.length = n ∧ g ds Q Z ∧
  (∀ W' H' d, Ex W H1 W' H' → Rep K W' (.ref x) d → Q d → Qh .non H') ∧ XC K E W H1 Z
def initB (x C : Addr) (n : Nat) (ds : List D) : Env := .obj x C [] [] :: startB (n - 1) ds
def fnI (C : Addr) (n : Nat) (S : FS) : Fn := fun ds Q Z => ∀ x, S (initB x C n ds) { nx := fun ρ => ∃ ns fs, ρ[0]? = some (.obj x C ns fs) ∧ Q (.obj C ns fs), rt := fun _ => False, ex := Z }
end
section
variable {P : Program} {w : World} {K : PySem.W.Frag} {mg : Str → Option Value} {base : Heap}
theorem fn_i {qual : Str} {st : Stmt} {f C : Addr} {fd : FuncData} {N ps : List Str} {k n : Nat} {g : Fn} {S : FS} (F : Fun K "__init__" qual st f fd) (Sc : FnScope N ps (defScope st)) (hn : ps.length = n + 1) (hN : 0 < N.length)
    (hbody : ∀ (cdv : Value) (A : Around) (outer : List PySem.Env) (s : Shared) (H : Hp) (E : XK) (W0 H0 : Hp), Room k (A.deeper (envOfC qual (defScope st) s.heap.objs.size f cdv)) →
      PSs (cxOf (L2.CX P w) P w K mg base N qual (defScope st) f cdv A outer s H E) (defBody st) (tDS K W0 H0 E S)) (hg : ∀ ds Q Z, ds.length = n → g ds Q Z → fnI C N.length S ds Q Z) : FnOk P w K mg base (L2.CX P w) (k + 1) f fd ps (spI K C n g) :=
  F.okX Sc (fun vs H Q E ⟨_, _, us, _, W, ds, _, _, z, _, _, _, _, _, r, hl, _⟩ => by rw [z, List.length_cons, r.len, hl, hn]) fun cdv A outer s H vs Q E hr ⟨x, dx, us, H1, W, ds, Qd, Z, hv, hx, hdx, hne, hH, sw, r, hl, hf, k, xc⟩ => by
    subst hv
    subst hH
    have e1 : Ex W H1 W (upd (upd H1 dx (.own x)) x (.ins C dx [])) := (Ex.hid sw hdx).trans (Ex.hid (sw.trans (Gx.new hdx)) (by rw [upd_ne (Ne.symm hne)]; exact hx))
    have s0 := rep_start (N := N.tail) (n := N.length - 1) sw (by rw [List.length_tail]) r
    have hst : L2.start N (.ref x :: us) = some (.ref x) :: L2.start N.tail us := by
      unfold L2.start
      rw [List.length_tail, List.map_cons, List.length_cons]
      show some (V.ref x) :: (us.map some ++ List.replicate (N.length - (us.length + 1)) none) = some (V.ref x) :: (us.map some ++ List.replicate (N.length - 1 - us.length) none)
      rw [show N.length - (us.length + 1) = N.length - 1 - us.length by omega]
    refine ⟨_, hbody cdv A outer s _ E W H1 hr, W, initB x C N.length ds, _, ?_, hg ds Qd Z hl hf x, ⟨fun W' ρ' σ' H' _ s' ⟨ns, fs, h0, q⟩ => ?_, (fun _ _ _ _ _ _ z => z.elim), (fun _ _ _ _ _ _ z => z.elim), (fun _ _ _ _ _ _ z => z.elim), xc⟩⟩
    · rw [hst]
      refine ⟨e1, by unfold initB; rw [List.length_cons, List.length_cons, s0.len], ?_⟩
      obtain ⟨oa, h1, h2⟩ := s0.rep
      have hoa : ∀ i, i < (startB (N.length - 1) ds).length → oa i = none := fun i hi => by
        obtain ⟨b, hb⟩ : ∃ b, (startB (N.length - 1) ds)[i]? = some b := ⟨_, List.getElem?_eq_getElem hi⟩
        obtain ⟨s, h3, h4⟩ := h2 i b hb
        cases hq : oa i with
        | none => rfl
        | some p =>
          obtain ⟨⟨u, h5⟩, h6, _⟩ := h4.place hq
          rw [h6] at h5
          cases h5
      refine ⟨fun i => if i = 0 then some x else none, fun i j p hi hj => ?_, fun i b hb => ?_⟩
      · by_cases qi : i = 0
        · by_cases qj : j = 0
          · rw [qi, qj]
          · dsimp only at hj
            rw [if_neg qj] at hj
            cases hj
        · dsimp only at hi
          rw [if_neg qi] at hi
          cases hi
      · cases i with
        | zero =>
          cases hb
          refine ⟨_, rfl, x, dx, [], rfl, rfl, rfl, sw.free hx, hx, upd_same, ?_, hdx, rfl, .nil, by decide⟩
          rw [upd_ne hne, upd_same]
        | succ i =>
          have hb : (startB (N.length - 1) ds)[i]? = some b := hb
          obtain ⟨s, h3, h4⟩ := h2 i b hb
          rw [hoa i (List.getElem?_eq_some_iff.mp hb).1] at h4
          exact ⟨s, h3, h4.ext e1⟩
    · obtain ⟨oa, h1, h2⟩ := s'.rep
      obtain ⟨s, h3, q', dx', vs, hxx, h4, h5, h6, h7, h8, h9, h10, h11, h12, _⟩ := h2 0 _ h0
      subst hxx
      exact k (upd W' q' (.ins C dx' vs)) H' _ (s'.ex.see hx h6 h8) (.obj upd_same h11 (h12.gx (Gx.new h6))) q
end
end Pu

set_option Elab.async false
set_option maxRecDepth 100000
set_option linter.all false
namespace Pu
open PySem PySem.Spec PyProof.Rows L2 Ly
section
variable {P : Program} {w : World} {K : PySem.W.Frag} {mg : Str → Option Value} {base : Heap}
/-- a class that makes instances -/
structure CalI (P : Program) (w : World) (K : PySem.W.Frag) (mg : Str → Option Value) (base : Heap) (x : Str) (C : Addr) (k n : Nat) (g : Fn) : Prop where
  ex : ∃ (f : Addr) (fd : FuncData) (ps : List Str), Mk K C f ∧ FnOk P w K mg base (L2.CX P w) k f fd ps (spI K C n g) ∧ mg x = some (.ref C) ∧ Binds K fd ps []
/-- a method -/
structure CalO (P : Program) (w : World) (K : PySem.W.Frag) (mg : Str → Option Value) (base : Heap) (C : Addr) (m : Str) (k n : Nat) (g : Fn) : Prop where
  cl : Cls K C
  ex : ∃ (f : Addr) (fd : FuncData) (ps : List Str), Meth K C m f ∧ FnOk P w K mg base (L2.CX P w) k f fd ps (spD K n g) ∧ Binds K fd ps []
/-- a property -/
structure CalP (P : Program) (w : World) (K : PySem.W.Frag) (mg : Str → Option Value) (base : Heap) (C : Addr) (m : Str) (k : Nat) (g : Fn) : Prop where
  cl : Cls K C
  ex : ∃ (p f : Addr) (fd : FuncData) (ps : List Str), PropOf K C m p f ∧ FnOk P w K mg base (L2.CX P w) k f fd ps (spD K 1 g) ∧ Binds K fd ps []
end
section
variable {X : Cx} {K : PySem.W.Frag} {E : XK} {W0 H0 : Hp} {F G L : FE} {T U : FT} {A N : FA} {S S' : FS} {g : Fn} {tg e a b o : Expr} {es : List Expr} {p pos apos : Pos} {i j k n : Nat} {x m f : Str} {C : Addr}
theorem make_to {σ : L2.St} {H : Hp} {Qh : VK} (h : tD K E (fCall g n A) σ H Qh) : tMake C (spI K C n g) [] E (tDA K E A) σ H Qh := by
  obtain ⟨W0, H0, W, ρ, Q, Z, st, f, k, x⟩ := h
  refine ⟨W0, H0, W, ρ, _, Z, st, f, fun vs W1 H1 ds e1 r ⟨hl, q⟩ y dy hy hdy hne => ?_, x⟩
  rw [List.append_nil]
  exact ⟨y, dy, vs, H1, W1, ds, Q, Z, rfl, hy, hdy, hne, rfl, e1.s, r, hl, q, fun W2 H2 d e2 r2 q2 => ⟨rfl, k _ W2 H2 d (e1.trans e2) r2 q2⟩, x.ext e1⟩
theorem d_make (c : CalI X.prog X.w X.K X.mg X.base x C k n g) (hr : Room (k + 1) X.A) (hg : Gl X x) (hx : Passes (L2.CX X.prog X.w) X E) (ha : PA X (e :: es) (tDA K E A)) (hK : X.K = K := by rfl) (hdb : (x == ("__debug__" : Str)) = false := by decide)
    (he : starEach (e :: es) X.env = (false, eval e X.env) :: starEach es X.env := by rfl) (hpl : (backTo pos (starEach es X.env)).any (·.1) = false := by rfl) : PE X (.Call (.Name x p) (e :: es) [] pos) (tD K E (fCall g n A)) := by
  subst hK
  obtain ⟨f, fd, ps, M, F, hm, hb⟩ := c.ex
  exact (pe_make M F hr hg hm hb .nil hx ha hdb he hpl).mono fun _ _ _ h => make_to h
/-- o.m(..) -/
def fMeth (C : Addr) (m : Str) (g : Fn) (n : Nat) (F : FE) (A : FA) : FE := fun ρ Q Z => F ρ (fun d => ∃ ns ds, d = .obj C ns ds ∧ m ∉ ns ∧ A ρ (fun es => es.length + 1 = n ∧ g (d :: es) Q Z) Z) Z
theorem look_none : ∀ {fs : List (Str × V)}, m ∉ fs.map Prod.fst → fs.lookup m = none
  | [], _ => rfl
  | (n, v) :: fs, h => by
    rw [List.map_cons, List.mem_cons, not_or] at h
    rw [List.lookup_cons, beq_eq_false_iff_ne.mpr h.1]
    exact look_none h.2
theorem meth_to {σ : L2.St} {H : Hp} {Qh : VK} (h : tD K E (fMeth C m g n F A) σ H Qh) : tMeth C m (spD K n g) [] E (tD K E F) (tDA K E A) σ H Qh := by
  obtain ⟨W0, H0, W, ρ, Q, Z, st, f, k, x⟩ := h
  refine ⟨W0, H0, W, ρ, _, Z, st, f, fun v W1 H1 d e1 r ⟨ns, ds, z, hm, q⟩ => ?_, x⟩
  subst z
  cases r with
  | @obj a _ dx fs _ _ h1 h2 h3 =>
    subst h2
    refine ⟨a, dx, fs, rfl, e1.s _ _ h1, look_none hm, W0, H0, W1, ρ, _, Z, st.ext e1, q, fun us W2 H2 es e2 r2 ⟨hl, q2⟩ => ?_, x.ext e1⟩
    show spD K n g (V.ref a :: (us ++ [])) H2 Qh E
    rw [List.append_nil]
    exact ⟨W2, _, Q, Z, e2.s, .cons ((Rep.obj h1 rfl h3).gx e2.w) r2, by rw [List.length_cons]; exact hl, q2, fun v W3 H3 d e3 r3 q3 => k v W3 H3 d ((e1.trans e2).trans e3) r3 q3, x.ext (e1.trans e2)⟩
theorem d_meth {pl : Sem Bool} (c : CalO X.prog X.w X.K X.mg X.base C m k n g) (hr : Room k X.A) (hx : Passes (L2.CX X.prog X.w) X E) (ho : PE X o (tD K E F)) (ha : PA X (e :: es) (tDA K E A)) (hK : X.K = K := by rfl)
    (hst : starEach (e :: es) X.env = (false, eval e X.env) :: starEach es X.env := by rfl) (hpl : (backTo pos (starEach es X.env)).any (·.1) = false := by rfl)
    (ht : eval (.Call (.Attribute o m apos) (e :: es) [] pos) X.env = (do
      let ov ← eval o X.env
      standAt apos.atName
      let (f, first) ← holding [ov] (getMethod ov m pl)
      callWith pos f first (backTo pos (starEach (e :: es) X.env)) (backToKw pos (keywordEach [] X.env))) := by rfl) : PE X (.Call (.Attribute o m apos) (e :: es) [] pos) (tD K E (fMeth C m g n F A)) := by
  subst hK
  obtain ⟨f, fd, ps, hm, F, hb⟩ := c.ex
  exact (pe_meth (pl := pl) ho c.cl hm F hr hb .nil hx ha hst hpl ht).mono fun _ _ _ h => meth_to h
/-- o.f, a property -/
def fProp (C : Addr) (g : Fn) (F : FE) : FE := fun ρ Q Z => F ρ (fun d => ∃ ns ds, d = .obj C ns ds ∧ g [d] Q F0) Z
theorem d_prop (c : CalP X.prog X.w X.K X.mg X.base C m k g) (hr : Room (k + 1) X.A) (ho : PE X o (tD K E F)) (hab : attributeBase o m X.env (eval o X.env) = eval o X.env) (hK : X.K = K := by rfl) : PE X (.Attribute o m pos) (tD K E (fProp C g F)) := by
  subst hK
  obtain ⟨p, f, fd, ps, hp, F, hb⟩ := c.ex
  refine (pe_prop ho c.cl hp F hr hb .nil (passL (X := X.nox)) hab).mono fun σ H Qh ⟨W0, H0, W, ρ, Q, Z, st, f, k, x⟩ => ⟨W0, H0, W, ρ, _, Z, st, f, fun v W1 H1 d e1 r ⟨ns, ds, z, q⟩ => ?_, x⟩
  subst z
  cases r with
  | @obj a _ dx fs _ _ h1 h2 h3 => exact ⟨a, dx, fs, rfl, e1.s _ _ h1, W1, _, Q, F0, e1.s, .one (.obj h1 h2 h3), rfl, q, fun v W3 H3 d e3 r3 q3 => k v W3 H3 d (e1.trans e3) r3 q3, xc0⟩

/-! ### built-ins -/
def CSnd (K : PySem.W.Frag) (r : List V → Hp → VK → Prop) (R : List D → (D → Prop) → Prop) : Prop := ∀ W H xs ds Q Qh, Gx W H → RepTs K W H xs ds → R ds Q → (∀ v W' H' d, Ex W H W' H' → Rep K W' v d → Q d → Qh v H') → r xs H Qh
def CSndN (K : PySem.W.Frag) (r : List V → Hp → VK → Prop) (R : List D → (List D → Prop) → Prop) : Prop := ∀ W H xs ds Q Qh, Gx W H → RepTs K W H xs ds → R ds Q →
  (∀ p vs W' H' ds, Ex W H W' H' → H p = none → W' p = none → H' p = some (.lst vs) → RepAll K W' vs ds → vs.length ≤ sizeLine → Q ds → Qh (.ref p) H') → r xs H Qh
def fCB (R : List D → (D → Prop) → Prop) (A : FA) : FE := fun ρ Q Z => A ρ (fun ds => R ds Q) Z
def fCBN (R : List D → (List D → Prop) → Prop) (A : FA) : FA := fun ρ Q Z => A ρ (fun ds => R ds Q) Z
variable {r : List V → Hp → VK → Prop} {R : List D → (D → Prop) → Prop} {RN : List D → (List D → Prop) → Prop} {idn Tn : String}
theorem cb_to (hR : CSnd K r R) {σ : L2.St} {H : Hp} {Qh : VK} (h : tD K E (fCB R A) σ H Qh) : tCB r (tDAT K E A) σ H Qh := by
  obtain ⟨W0, H0, W, ρ, Q, Z, st, f, k, x⟩ := h
  exact ⟨W0, H0, W, ρ, _, Z, st, f, fun vs W1 H1 ds e1 r1 q => hR W1 H1 vs ds Q Qh e1.s r1 q fun v W2 H2 d e2 r2 q2 => k v W2 H2 d (e1.trans e2) r2 q2, x⟩
theorem cbn_to (hR : CSndN K r RN) {σ : L2.St} {H : Hp} {Qh : VK} (h : tDN K E (fCBN RN A) σ H Qh) : tCB r (tDAT K E A) σ H Qh := by
  obtain ⟨W0, H0, W, ρ, Q, Z, st, f, k, x⟩ := h
  exact ⟨W0, H0, W, ρ, _, Z, st, f, fun vs W1 H1 ds e1 r1 q => hR W1 H1 vs ds Q Qh e1.s r1 q fun p vs W2 H2 ds e2 hp hw h' r2 n q2 => k p vs W2 H2 ds (e1.trans e2) (e1.h.free hp) hw h' r2 n q2, x⟩
theorem d_cb (hc : CallR X (.builtin idn) r) (hR : CSnd K r R) (hg : Gl X x) (hm : X.mg x = none) (hv : bootBuiltins x = some (.builtin idn)) (ha : PA X (e :: es) (tDAT K E A)) (hn : x ≠ "__name__" := by decide) (hdb : (x == ("__debug__" : Str)) = false := by decide)
    (hs : starEach (e :: es) X.env = (false, eval e X.env) :: starEach es X.env := by rfl) (hpl : (backTo pos (starEach es X.env)).any (·.1) = false := by rfl) : PE X (.Call (.Name x p) (e :: es) [] pos) (tD K E (fCB R A)) :=
  (pe_callB hc hg hm hv ha hn hdb hs hpl).mono fun _ _ _ h => cb_to hR h
theorem d_ct (hc : CallR X (.type Tn) r) (hR : CSnd K r R) (hg : Gl X x) (hm : X.mg x = none) (hv : bootBuiltins x = some (.type Tn)) (ha : PA X (e :: es) (tDAT K E A)) (hn : x ≠ "__name__" := by decide) (hdb : (x == ("__debug__" : Str)) = false := by decide)
    (hs : starEach (e :: es) X.env = (false, eval e X.env) :: starEach es X.env := by rfl) (hpl : (backTo pos (starEach es X.env)).any (·.1) = false := by rfl) : PE X (.Call (.Name x p) (e :: es) [] pos) (tD K E (fCB R A)) :=
  (pe_callTy hc hg hm hv ha hn hdb hs hpl).mono fun _ _ _ h => cb_to hR h
theorem d_ctN (hc : CallR X (.type Tn) r) (hR : CSndN K r RN) (hg : Gl X x) (hm : X.mg x = none) (hv : bootBuiltins x = some (.type Tn)) (ha : PA X (e :: es) (tDAT K E A)) (hn : x ≠ "__name__" := by decide) (hdb : (x == ("__debug__" : Str)) = false := by decide)
    (hs : starEach (e :: es) X.env = (false, eval e X.env) :: starEach es X.env := by rfl) (hpl : (backTo pos (starEach es X.env)).any (·.1) = false := by rfl) : PE X (.Call (.Name x p) (e :: es) [] pos) (tDN K E (fCBN RN A)) :=
  (pe_callTy hc hg hm hv ha hn hdb hs hpl).mono fun _ _ _ h => cbn_to hR h
theorem d_cbN (hc : CallR X (.builtin idn) r) (hR : CSndN K r RN) (hg : Gl X x) (hm : X.mg x = none) (hv : bootBuiltins x = some (.builtin idn)) (ha : PA X (e :: es) (tDAT K E A)) (hn : x ≠ "__name__" := by decide) (hdb : (x == ("__debug__" : Str)) = false := by decide)
    (hs : starEach (e :: es) X.env = (false, eval e X.env) :: starEach es X.env := by rfl) (hpl : (backTo pos (starEach es X.env)).any (·.1) = false := by rfl) : PE X (.Call (.Name x p) (e :: es) [] pos) (tDN K E (fCBN RN A)) :=
  (pe_callB hc hg hm hv ha hn hdb hs hpl).mono fun _ _ _ h => cbn_to hR h
theorem ts1 {W H : Hp} {xs : List V} {d : D} (h : RepTs K W H xs [d]) : ∃ v, xs = [v] ∧ RepT K W H v d := by
  cases h with
  | cons r rs => cases rs; exact ⟨_, rfl, r⟩
theorem ts2 {W H : Hp} {xs : List V} {d d' : D} (h : RepTs K W H xs [d, d']) : ∃ v v', xs = [v, v'] ∧ RepT K W H v d ∧ RepT K W H v' d' := by
  cases h with
  | cons r rs =>
    obtain ⟨v', z, r'⟩ := ts1 rs
    subst z
    exact ⟨_, v', rfl, r, r'⟩
/-- len -/
def lenD : D → Option Nat
  | .lst ds => some ds.length
  | .tup ds => some ds.length
  | .dic ks _ => some ks.length
  | .lsk ds => some ds.length
  | .str z => if z.length ≤ sizeLine then some z.length else none
  | _ => none
def RLen (ds : List D) (Q : D → Prop) : Prop := ∃ d n, ds = [d] ∧ lenD d = some n ∧ Q (.int (n : Nat))
def rLenA (K : PySem.W.Frag) : List V → Hp → VK → Prop := fun xs H Q => (rLenK K xs H Q ∨ ∃ z, xs = [.str z] ∧ z.length ≤ sizeLine ∧ Q (.int z.length) H) ∨ ∃ a kvs, xs = [V.ref a] ∧ Rd H a (.dK kvs) ∧ Q (.int kvs.length) H
theorem callR_or {r r' : List V → Hp → VK → Prop} {v : Value} (h : CallR X v r) (h' : CallR X v r') : CallR X v (fun xs H Q => r xs H Q ∨ r' xs H Q) := fun pins s σ H xs us Q I rv q => by
  rcases q with q | q
  · exact h pins s σ H xs us Q I rv q
  · exact h' pins s σ H xs us Q I rv q
theorem call_lenDR : CallR X (.builtin "len") (fun xs H Q => ∃ a kvs, xs = [V.ref a] ∧ Rd H a (.dK kvs) ∧ Q (.int kvs.length) H) := by
  intro pins s σ H xs us Q I r h
  obtain ⟨a, kvs, rfl, ha, q⟩ := h
  obtain ⟨u, rfl, ru⟩ := vals1 r
  cases ru
  exact d_len I ha fun t s' I' => ⟨.int kvs.length, H, I', ⟨t, rfl⟩, q⟩
theorem c_len (hK : X.K = K := by rfl) : CallR X (.builtin "len") (rLenA K) := callR_or (callR_or (kcall_len hK) call_len_str) call_lenDR
theorem s_len : CSnd K (rLenA K) RLen := fun W H xs ds Q Qh s rr ⟨d, n, z, hd, q⟩ k => by
  subst z
  obtain ⟨v, rfl, r⟩ := ts1 rr
  cases d with
  | lst ds =>
    cases hd
    obtain ⟨p, vs, h1, h2, h3, h4⟩ := r.lst_inv s
    subst h1
    refine .inl (.inl ⟨p, vs, rfl, .inl (SqL.of h2), ?_⟩)
    rw [h3.len]
    exact k _ W H _ (Ex.refl s) (.int _) q
  | tup ds =>
    cases hd
    obtain ⟨p, vs, h1, h2, h3, h4⟩ := r.tup_inv s
    subst h1
    refine .inl (.inl ⟨p, vs, rfl, .inr h2, ?_⟩)
    rw [h3.len]
    exact k _ W H _ (Ex.refl s) (.int _) q
  | str z =>
    have hd : (if z.length ≤ sizeLine then some z.length else none) = some n := hd
    by_cases hz : z.length ≤ sizeLine
    · rw [if_pos hz] at hd
      cases hd
      rw [r.str_inv]
      exact .inl (.inr ⟨z, rfl, hz, k _ W H _ (Ex.refl s) (.int _) q⟩)
    · rw [if_neg hz] at hd
      cases hd
  | dic ks ds =>
    cases hd
    obtain ⟨p, vs, h1, h2, h3, h4, h5⟩ := r.dic_inv s
    subst h1
    refine .inr ⟨p, vs, rfl, h2, ?_⟩
    rw [← List.length_map (f := Prod.fst), h3]
    exact k _ W H _ (Ex.refl s) (.int _) q
  | lsk ds =>
    cases hd
    cases r with
    | val r =>
      cases r with
      | @lsk p vs _ h2 h3 h4 =>
        refine .inl (.inl ⟨p, vs, rfl, .inl (s.l h2), ?_⟩)
        rw [h3.len]
        exact k _ W H _ (Ex.refl s) (.int _) q
  | _ => cases hd
/-- list(x): a new list -/
def RList (ds : List D) (Q : List D → Prop) : Prop := ∃ d xs, ds = [d] ∧ seqD d = some xs ∧ Q xs
theorem s_list : CSndN K (rListK K) RList := fun W H xs ds Q Qh s rr ⟨d, ys, z, hd, q⟩ k => by
  subst z
  obtain ⟨v, rfl, r⟩ := ts1 rr
  obtain ⟨p, vs, h1, h2, h3, h4⟩ := r.seq_inv s hd
  subst h1
  exact ⟨p, vs, rfl, h2, fun l hl => k l vs W _ ys (Ex.hid s hl) hl (s.free hl) upd_same h3 h4 q⟩
/-- tuple(x) -/
def RTuple (ds : List D) (Q : D → Prop) : Prop := ∃ d xs, ds = [d] ∧ seqD d = some xs ∧ Q (.tup xs)
theorem s_tuple : CSnd K (rTupK K) RTuple := fun W H xs ds Q Qh s rr ⟨d, ys, z, hd, q⟩ k => by
  subst z
  obtain ⟨v, rfl, r⟩ := ts1 rr
  cases d with
  | lst es =>
    cases hd
    obtain ⟨p, vs, h1, h2, h3, h4⟩ := r.lst_inv s
    subst h1
    exact ⟨p, vs, rfl, .inl ⟨SqL.of h2, fun l hl => k _ _ _ _ (Ex.new s hl) (.tup (SqT.of upd_same) (h3.gx (Gx.new (s.free hl))) h4) q⟩⟩
  | tup es =>
    cases hd
    cases r with
    | val r =>
      cases r with
      | tup h1 h2 h3 => exact ⟨_, _, rfl, .inr ⟨s.t h1, k _ W H _ (Ex.refl s) (.tup h1 h2 h3) q⟩⟩
  | _ => cases hd
/-- all, any of truth values -/
def blsD : List D → Option (List Bool)
  | [] => some []
  | .bl b :: ds => (blsD ds).map (b :: ·)
  | _ => none
theorem bls_v {W : Hp} : ∀ {ds : List D} {vs : List V} {bs : List Bool}, RepAll K W vs ds → blsD ds = some bs → vs = bs.map V.bl
  | [], _, _, .nil, h => by cases h; rfl
  | d :: ds, _, bs, .cons r rs, h => by
    cases d with
    | bl b =>
      have h : (blsD ds).map (b :: ·) = some bs := h
      cases q : blsD ds with
      | none => rw [q] at h; cases h
      | some cs =>
        rw [q] at h
        cases h
        cases r
        rw [bls_v rs q]
        rfl
    | _ => cases h
theorem blsD_map {α : Type} (f : α → Bool) : ∀ l : List α, blsD (l.map fun x => .bl (f x)) = some (l.map f)
  | [] => rfl
  | x :: l => by
    show (blsD (l.map fun x => .bl (f x))).map (f x :: ·) = _
    rw [blsD_map f l]
    rfl
def RAll (ds : List D) (Q : D → Prop) : Prop := ∃ xs bs, ds = [.lst xs] ∧ blsD xs = some bs ∧ Q (.bl (bs.all id))
def RAny (ds : List D) (Q : D → Prop) : Prop := ∃ xs bs, ds = [.lst xs] ∧ blsD xs = some bs ∧ Q (.bl (bs.any id))
theorem s_all : CSnd K (rAll K) RAll := fun W H xs ds Q Qh s rr ⟨ys, bs, z, hb, q⟩ k => by
  subst z
  obtain ⟨v, rfl, r⟩ := ts1 rr
  obtain ⟨p, vs, h1, h2, h3, h4⟩ := r.lst_inv s
  subst h1
  exact ⟨p, bs, rfl, by rw [← bls_v h3 hb]; exact SqL.of h2, k _ W H _ (Ex.refl s) (.bl _) q⟩
theorem s_any : CSnd K (rAny K) RAny := fun W H xs ds Q Qh s rr ⟨ys, bs, z, hb, q⟩ k => by
  subst z
  obtain ⟨v, rfl, r⟩ := ts1 rr
  obtain ⟨p, vs, h1, h2, h3, h4⟩ := r.lst_inv s
  subst h1
  exact ⟨p, bs, rfl, by rw [← bls_v h3 hb]; exact SqL.of h2, k _ W H _ (Ex.refl s) (.bl _) q⟩
/-- max, min of two numbers -/
def RMax2 (ds : List D) (Q : D → Prop) : Prop := ∃ i j : Int, ds = [.int i, .int j] ∧ Q (.int (if j > i then j else i))
def RMin2 (ds : List D) (Q : D → Prop) : Prop := ∃ i j : Int, ds = [.int i, .int j] ∧ Q (.int (if j < i then j else i))
theorem s_max2 : CSnd K (fun xs H Q => ∃ i j, xs = [.int i, .int j] ∧ Q (.int (if j > i then j else i)) H) RMax2 := fun W H xs ds Q Qh s rr ⟨i, j, z, q⟩ k => by
  subst z
  obtain ⟨v, v', rfl, r, r'⟩ := ts2 rr
  exact ⟨i, j, by rw [r.int_inv, r'.int_inv], k _ W H _ (Ex.refl s) (.int _) q⟩
theorem s_min2 : CSnd K (fun xs H Q => ∃ i j, xs = [.int i, .int j] ∧ Q (.int (if j < i then j else i)) H) RMin2 := fun W H xs ds Q Qh s rr ⟨i, j, z, q⟩ k => by
  subst z
  obtain ⟨v, v', rfl, r, r'⟩ := ts2 rr
  exact ⟨i, j, by rw [r.int_inv, r'.int_inv], k _ W H _ (Ex.refl s) (.int _) q⟩
/-- str(text) -/
def RStr (ds : List D) (Q : D → Prop) : Prop := ∃ z, ds = [.str z] ∧ Q (.str z)
theorem s_str : CSnd K (fun xs H Q => ∃ a, xs = [.str a] ∧ Q (.str a) H) RStr := fun W H xs ds Q Qh s rr ⟨z, h, q⟩ k => by
  subst h
  obtain ⟨v, rfl, r⟩ := ts1 rr
  exact ⟨z, by rw [r.str_inv], k _ W H _ (Ex.refl s) (.str _) q⟩
/-! ### isinstance -/
def kdD : D → Kd
  | .non => .non
  | .bl _ => .bl
  | .int _ => .int
  | .str _ => .str
  | .lst _ => .lst
  | .tup _ => .tup
  | .dic _ _ => .dic
  | _ => .own
def okI (K : PySem.W.Frag) : D → Prop
  | .obj C _ _ => Own K C
  | .dice => False
  | .cls _ => False
  | .exn _ _ _ _ => False
  | .lsk _ => False
  | _ => True
def seven : List String := ["NoneType", "bool", "int", "str", "list", "tuple", "dict"]
theorem ty_of {H : Hp} {v : V} {d : D} (r : Rep K H v d) (o : okI K d) : (∃ t ∈ seven, TyX K H v (.type t) ∧ (∀ C ns ds, d ≠ .obj C ns ds) ∧ ∀ n ∈ asked, kitB t n = some (kdIs (kdD d) n)) ∨ ∃ C ns ds, d = .obj C ns ds ∧ TyX K H v (.ref C) ∧ Own K C := by
  cases r with
  | non => exact .inl ⟨_, by decide, .base .non, (by intros; simp), show ∀ n ∈ asked, kitB "NoneType" n = some (kdIs .non n) by decide +kernel⟩
  | bl b => exact .inl ⟨_, by decide, .base (.bl b), (by intros; simp), show ∀ n ∈ asked, kitB "bool" n = some (kdIs .bl n) by decide +kernel⟩
  | int i => exact .inl ⟨_, by decide, .base (.int i), (by intros; simp), show ∀ n ∈ asked, kitB "int" n = some (kdIs .int n) by decide +kernel⟩
  | str x => exact .inl ⟨_, by decide, .base (.str x), (by intros; simp), show ∀ n ∈ asked, kitB "str" n = some (kdIs .str n) by decide +kernel⟩
  | lst h _ _ => exact .inl ⟨_, by decide, .base (.lst h), (by intros; simp), show ∀ n ∈ asked, kitB "list" n = some (kdIs .lst n) by decide +kernel⟩
  | tup h _ _ =>
    refine .inl ⟨"tuple", by decide, ?_, (by intros; simp), show ∀ n ∈ asked, kitB "tuple" n = some (kdIs .tup n) by decide +kernel⟩
    rcases h with (h | ⟨o, h⟩) | ⟨o, its, n, h1, h2, _⟩
    · exact .base (.tup h)
    · exact .fTuple h
    · exact .kTuple h1 h2
  | dic h _ _ _ =>
    refine .inl ⟨"dict", by decide, ?_, (by intros; simp), show ∀ n ∈ asked, kitB "dict" n = some (kdIs .dic n) by decide +kernel⟩
    rcases h with h | ⟨o, h⟩
    · exact .base (.dK h)
    · exact .fDict h
  | obj h _ _ => exact .inr ⟨_, _, _, rfl, .base (.ins h o.cl o.ha o.hn o.htk o.hm), o⟩
  | dice => exact o.elim
  | cls => exact o.elim
  | exn => exact o.elim
  | lsk => exact o.elim
def fIsi (K : PySem.W.Frag) (n : String) (F : FE) : FE := fun ρ Q Z => F ρ (fun d => okI K d ∧ Q (.bl (kdIs (kdD d) n))) Z
theorem d_isi {n : String} {y : Str} {p2 : Pos} (hn : n ∈ asked) (hg : Gl X "isinstance") (hm : X.mg "isinstance" = none) (h : PE X e (tDT K E F)) (ht : PE X (.Name y p2) (tC (.ty n))) (hK : X.K = K := by rfl)
    (hs : starEach [e, .Name y p2] X.env = (false, eval e X.env) :: starEach [.Name y p2] X.env := by rfl) (hs2 : starEach [.Name y p2] X.env = [(false, eval (.Name y p2) X.env)] := by rfl) (hpl : (backTo pos (starEach [.Name y p2] X.env)).any (·.1) = false := by rfl) :
    PE X (.Call (.Name "isinstance" p) [e, .Name y p2] [] pos) (tD K E (fIsi K n F)) := by
  refine (pe_callB (kcall_isi hK) hg hm (by decide +kernel) (pa_cons h (pa_cons ht pa_nil hs2) hs) (by decide) (by decide) hs hpl).mono fun σ H Qh ⟨W0, H0, W, ρ, Q, Z, st, f, k, x⟩ => ⟨W0, H0, W, ρ, _, Z, st, f, fun v W1 H1 d e1 r ⟨o, q⟩ => ?_, x⟩
  have fin := k _ W1 H1 _ e1 (.bl _) q
  rcases ty_of (r.full e1.s) o with ⟨t, _, h1, _, h2⟩ | ⟨C, ns, ds, z, h1, h2⟩
  · exact ⟨v, .ty n, .type t, .type n, _, rfl, .ty n, h1, kit_ty (h2 n hn), fin⟩
  · subst z
    refine ⟨v, .ty n, .ref C, .type n, false, rfl, .ty n, h1, h2.no n hn, ?_⟩
    have : kdIs (kdD (.obj C ns ds)) n = false := by
      show kdIs .own n = false
      rfl
    rw [this] at fin
    exact fin
/-- is of the class at C -/
def isC (K : PySem.W.Frag) (C : Addr) (d : D) (b : Bool) : Prop := okI K d ∧ match d with
  | .obj C' _ _ => PySem.W.kitOne K (.ref C') (.ref C) = some b
  | _ => b = false ∧ ∀ n ∈ seven, PySem.W.kitOne K (.type n) (.ref C) = some false
def fIsc (K : PySem.W.Frag) (C : Addr) (F : FE) : FE := fun ρ Q Z => F ρ (fun d => ∃ b, isC K C d b ∧ Q (.bl b)) Z
theorem d_isc {y : Str} {p2 : Pos} (hg : Gl X "isinstance") (hm : X.mg "isinstance" = none) (h : PE X e (tDT K E F)) (ht : PE X (.Name y p2) (tC (.ref C))) (hK : X.K = K := by rfl)
    (hs : starEach [e, .Name y p2] X.env = (false, eval e X.env) :: starEach [.Name y p2] X.env := by rfl) (hs2 : starEach [.Name y p2] X.env = [(false, eval (.Name y p2) X.env)] := by rfl) (hpl : (backTo pos (starEach [.Name y p2] X.env)).any (·.1) = false := by rfl) :
    PE X (.Call (.Name "isinstance" p) [e, .Name y p2] [] pos) (tD K E (fIsc K C F)) := by
  refine (pe_callB (kcall_isi hK) hg hm (by decide +kernel) (pa_cons h (pa_cons ht pa_nil hs2) hs) (by decide) (by decide) hs hpl).mono fun σ H Qh ⟨W0, H0, W, ρ, Q, Z, st, f, k, x⟩ => ⟨W0, H0, W, ρ, _, Z, st, f, fun v W1 H1 d e1 r ⟨b, ⟨o, hb⟩, q⟩ => ?_, x⟩
  have fin := k _ W1 H1 _ e1 (.bl _) q
  rcases ty_of (r.full e1.s) o with ⟨t, ht, h1, h0, h2⟩ | ⟨C', ns, ds, z, h1, h2⟩
  · cases d with
    | obj C' ns ds => exact absurd rfl (h0 C' ns ds)
    | _ =>
      obtain ⟨rfl, hb⟩ := hb
      exact ⟨v, .ref C, .type t, .ref C, false, rfl, .own C, h1, hb t ht, fin⟩
  · subst z
    exact ⟨v, .ref C, .ref C', .ref C, b, rfl, .own C, h1, hb, fin⟩
/-! ### sep.join(list of texts) -/
def strsD : List D → Option (List Str)
  | [] => some []
  | .str b :: ds => (strsD ds).map (b :: ·)
  | _ => none
theorem strs_v {W : Hp} : ∀ {ds : List D} {vs : List V} {bs : List Str}, RepAll K W vs ds → strsD ds = some bs → vs = bs.map V.str
  | [], _, _, .nil, h => by cases h; rfl
  | d :: ds, _, bs, .cons r rs, h => by
    cases d with
    | str b =>
      have h : (strsD ds).map (b :: ·) = some bs := h
      cases q : strsD ds with
      | none => rw [q] at h; cases h
      | some cs =>
        rw [q] at h
        cases h
        cases r
        rw [strs_v rs q]
        rfl
    | _ => cases h
theorem strsD_map {α : Type} (f : α → Str) : ∀ l : List α, strsD (l.map fun x => .str (f x)) = some (l.map f)
  | [] => rfl
  | x :: l => by
    show (strsD (l.map fun x => .str (f x))).map (f x :: ·) = _
    rw [strsD_map f l]
    rfl
def fJoin (F G : FE) : FE := fun ρ Q Z => F ρ (fun a => ∃ s, a = .str s ∧ G ρ (fun d => ∃ xs ys, seqD d = some xs ∧ strsD xs = some ys ∧ (ys.map (·.length)).sum + ys.length * s.length ≤ 16777216 ∧ Q (.str (Txt.join s ys))) Z) Z
theorem d_join (ho : PE X o (tD K E F)) (he : PE X e (tDT K E G)) (hK : X.K = K := by rfl) (hs : starEach [e] X.env = [(false, eval e X.env)] := by rfl) (hbase : attributeBase o "join" X.env (eval o X.env) = eval o X.env := by rfl) (hline : (apos.endLine == pos.line) = true := by rfl) :
    PE X (.Call (.Attribute o "join" apos) [e] [] pos) (tD K E (fJoin F G)) := (kpe_join ho he hK hs hbase hline).mono fun σ H Qh ⟨W0, H0, W, ρ, Q, Z, st, f, k, x⟩ => by
  refine ⟨W0, H0, W, ρ, _, Z, st, f, fun v W1 H1 d e1 r ⟨s, z, q⟩ => ?_, x⟩
  subst z
  cases r
  refine ⟨⟨s, rfl⟩, W0, H0, W1, ρ, _, Z, st.ext e1, q, fun v2 W2 H2 d2 e2 r2 ⟨xs, ys, h1, h2, h3, q2⟩ => ?_, x.ext e1⟩
  obtain ⟨p, vs, g1, g2, g3, g4⟩ := r2.seq_inv e2.s h1
  subst g1
  rw [strs_v g3 h2] at g2
  exact ⟨s, p, ys, rfl, rfl, g2, h3, k _ W2 H2 _ (e1.trans e2) (.str _) q2⟩
/-! ### sorted(list of texts) -/
end
end Pu

set_option Elab.async false
set_option maxRecDepth 100000
set_option linter.all false
namespace Pu
open PySem PySem.Spec PyProof.Rows L2 Ly
section
variable {X : Cx} {K : PySem.W.Frag} {E : XK} {W0 H0 : Hp} {F G L : FE} {T U : FT} {A N : FA} {S S' : FS} {g : Fn} {tg e a b o : Expr} {es : List Expr} {p pos apos : Pos} {i j k n : Nat} {x m f : Str} {C : Addr} {st : Stmt} {body : List Stmt}
/-- x = [..] on one line -/
theorem d_setLc {gh : TG} {gg : FG} {vs : List Nat} (gs : GSnd K gh gg vs) (h : PS X st (tAsg (tLc (tDI K E A) gh (tDB K E0 T) (tD K E0 F) vs) (gName i))) : PS X st (tDS K W0 H0 E (sNew i (fLc A gg T F vs))) := h.mono fun D σ H ⟨W, ρ, De, s, q, o⟩ =>
  lc_to (K := K) (E := E) (A := A) (T := T) (F := F) (g := gg) (fun _ _ _ q => q) gs (fun _ _ _ q => q) (fun _ _ _ q => q) ⟨W0, H0, W, ρ, _, _, s, q, fun p vs W' H' ds e hp hw h' r n z => o.nx W' _ _ H' e.w (s.put (b := .lst ds) e hp ⟨p, vs, rfl, rfl, hw, s.ex.h.free hp, h', r, n⟩) z, o.xc s⟩
theorem d_setLcV {gh : TG} {gg : FG} {vs : List Nat} (gs : GSnd K gh gg vs) (h : PS X st (tAsg (tLc (tDI K E A) gh (tDB K E0 T) (tD K E0 F) vs) (gName i))) : PS X st (tDS K W0 H0 E (sAsg i (fNew (fLc A gg T F vs)))) := h.mono fun D σ H ⟨W, ρ, De, s, q, o⟩ =>
  lc_to (K := K) (E := E) (A := A) (T := T) (F := F) (g := gg) (fun _ _ _ q => q) gs (fun _ _ _ q => q) (fun _ _ _ q => q) ⟨W0, H0, W, ρ, _, _, s, q, fun p vs W' H' ds e hp hw h' r n z =>
    o.nx _ _ _ H' (e.w.trans (Gx.new hw)) ((s.ext (e.see hp hw h')).set (.lst upd_same (r.gx (Gx.new hw)) n)) z, o.xc s⟩
/-- while -/
def sWhile (T : FT) (S : FS) : FS := fun ρ De => ∃ I : Nat → Env → Prop, (∃ m, I m ρ) ∧ ∀ m ρ, I m ρ → T ρ (fun b => if b = true then S ρ { De with nx := fun ρ' => ∃ m', m' < m ∧ I m' ρ', ct := fun ρ' => ∃ m', m' < m ∧ I m' ρ', bk := De.nx } else De.nx ρ) De.ex
theorem d_while {c : Expr} (hp : PassesOwn (model X.prog X.w) X.A X.env X.xe) (hc : PT X c (tDB K E T)) (hb : PSs X body (tDS K W0 H0 E S)) : PS X (.While c body [] pos) (tDS K W0 H0 E (sWhile T S)) := (ps_while hp hc hb).mono fun D σ H ⟨W, ρ, De, s, ⟨I, ⟨m0, i0⟩, turn⟩, o⟩ => by
  refine ⟨fun m σ' H' => ∃ W' ρ', Gx W W' ∧ Sat K W0 H0 W' ρ' σ' H' ∧ I m ρ', ⟨m0, W, ρ, Gx.refl _, s, i0⟩, ?_⟩
  rintro m σ' H' ⟨W', ρ', e2, s2, i2⟩
  refine ⟨W0, H0, W', ρ', _, _, s2, turn m ρ' i2, fun b W3 H3 e3 q3 => ?_, o.xc s2⟩
  cases b with
  | true =>
    rw [if_pos rfl] at q3
    refine iteT ⟨fun σ4 H4 => ∃ m', m' < m ∧ ∃ W4 ρ4, Gx W W4 ∧ Sat K W0 H0 W4 ρ4 σ4 H4 ∧ I m' ρ4, fun σ4 H4 ⟨m', h1, h2⟩ => ⟨m', h1, h2⟩, W3, ρ', _, s2.ext e3, q3, ?_⟩
    exact ⟨fun W' ρ' σ' H' g s' ⟨m', h1, h2⟩ => ⟨m', h1, W', ρ', (e2.trans e3.w).trans g, s', h2⟩, o.rt, fun W' ρ' σ' H' g s' q' => o.nx W' ρ' σ' H' ((e2.trans e3.w).trans g) s' q', fun W' ρ' σ' H' g s' ⟨m', h1, h2⟩ => ⟨m', h1, W', ρ', (e2.trans e3.w).trans g, s', h2⟩, o.ex⟩
  | false =>
    rw [if_neg (by decide)] at q3
    exact iteF (o.nx W3 ρ' σ' H3 (e2.trans e3.w) (s2.ext e3) q3)
/-- raise C('..') -/
def sRaise (C : Addr) : FS := fun _ De => De.ex (.bare C)
theorem d_raise (h : PS X st (fun _ σ H => E (.ref C) none H)) : PS X st (tDS K W0 H0 E (sRaise C)) := h.mono fun D σ H ⟨W, ρ, De, s, q, o⟩ => o.ex _ _ _ W H s.ex (.bare C) q
/-- an expression whose value is dropped -/
def sDrop (F : FE) : FS := fun ρ De => F ρ (fun _ => De.nx ρ) De.ex
theorem d_drop (h : PE X e (tD K E F)) (hs : swapsWith e none pos.line X.env = pure false := by rfl) : PS X (.Expr e pos) (tDS K W0 H0 E (sDrop F)) := (ps_expr h hs).mono fun D σ H ⟨W, ρ, De, s, q, o⟩ =>
  ⟨W0, H0, W, ρ, _, _, s, q, fun v W' H' d e r z => o.nx W' ρ σ H' e.w (s.ext e) z, o.xc s⟩
def sBrk : FS := fun ρ De => De.bk ρ
def sCont : FS := fun ρ De => De.ct ρ
theorem d_brk : PS X (.Break pos) (tDS K W0 H0 E sBrk) := ps_break.mono fun D σ H ⟨W, ρ, De, s, q, o⟩ => o.bk W ρ σ H (Gx.refl W) s q
theorem d_cont : PS X (.Continue pos) (tDS K W0 H0 E sCont) := ps_continue.mono fun D σ H ⟨W, ρ, De, s, q, o⟩ => o.ct W ρ σ H (Gx.refl W) s q
end
theorem hr65 {k : Nat} {A : Around} (hr : Room k A) : A.units + 65 < cLine := by have := hr.un; omega
theorem hr1 {k : Nat} {A : Around} (hr : Room k A) : A.units + 1 < cLine := by have := hr.un; omega
end Pu

set_option Elab.async false
set_option maxRecDepth 100000
set_option linter.all false
/-! the pure layer: dicts -/
namespace Pu
open PySem PySem.Spec PyProof.Rows L2 Ly
def keyD : D → Option Key
  | .int i => some (.inl i)
  | .str x => some (.inr x)
  | _ => none
def kD : Key → D
  | .inl i => .int i
  | .inr x => .str x
theorem keyD_kD (k : Key) : keyD (kD k) = some k := by cases k <;> rfl
def valD : List Key → List D → Key → Option D
  | k' :: ks, d :: ds, k => if k' = k then some d else valD ks ds k
  | _, _, _ => none
def putKs (ks : List Key) (k : Key) : List Key := if (ks.any fun x => decide (x = k)) = true then ks else ks ++ [k]
def putDs (ks : List Key) (ds : List D) (k : Key) (d : D) : List D := if (ks.any fun x => decide (x = k)) = true then List.zipWith (fun x y => if x = k then d else y) ks ds else ds ++ [d]
section
variable {K : PySem.W.Frag} {W H : Hp}
theorem key_v {v : V} {d : D} {k : Key} (r : Rep K W v d) (h : keyD d = some k) : v = kV k := by
  cases r <;> cases h <;> rfl
theorem keyT_v {v : V} {d : D} {k : Key} (r : RepT K W H v d) (h : keyD d = some k) : v = kV k := by
  cases d with
  | int i => cases h; exact r.int_inv
  | str x => cases h; exact r.str_inv
  | _ => cases h
theorem rep_kV (k : Key) : Rep K W (kV k) (kD k) := by
  cases k with
  | inl i => exact .int i
  | inr x => exact .str x
theorem val_v {k : Key} : ∀ {kvs : List (Key × V)} {ds : List D}, RepAll K W (kvs.map Prod.snd) ds → (valV kvs k = none ∧ valD (kvs.map Prod.fst) ds k = none) ∨ ∃ v d, valV kvs k = some v ∧ valD (kvs.map Prod.fst) ds k = some d ∧ Rep K W v d
  | [], _, _ => .inl ⟨rfl, rfl⟩
  | (k', v) :: kvs, d :: ds, .cons r rs => by
    unfold valV
    rw [List.find?_cons, List.map_cons]
    by_cases h : k' = k
    · refine .inr ⟨v, d, ?_, ?_, r⟩
      · rw [decide_eq_true h]
        rfl
      · show (if k' = k then some d else _) = some d
        rw [if_pos h]
    · rw [decide_eq_false h]
      have e : valD (k' :: kvs.map Prod.fst) (d :: ds) k = valD (kvs.map Prod.fst) ds k := by
        show (if k' = k then some d else _) = _
        rw [if_neg h]
      rw [e]
      exact val_v rs
theorem any_k {k : Key} : ∀ kvs : List (Key × V), (kvs.any fun kv => decide (kv.1 = k)) = ((kvs.map Prod.fst).any fun x => decide (x = k))
  | [] => rfl
  | p :: kvs => by rw [List.any_cons, List.map_cons, List.any_cons, any_k kvs]
theorem rep_put {k : Key} {v : V} {d : D} {kvs : List (Key × V)} {ds : List D} (r : Rep K W v d) (rs : RepAll K W (kvs.map Prod.snd) ds) : (putK kvs k v).map Prod.fst = putKs (kvs.map Prod.fst) k ∧ RepAll K W ((putK kvs k v).map Prod.snd) (putDs (kvs.map Prod.fst) ds k d) := by
  unfold putK putKs putDs
  rw [any_k]
  by_cases h : ((kvs.map Prod.fst).any fun x => decide (x = k)) = true
  · rw [if_pos h, if_pos h, if_pos h]
    clear h
    have : ∀ {kvs : List (Key × V)} {ds : List D}, RepAll K W (kvs.map Prod.snd) ds → (kvs.map fun kv => if kv.1 = k then (kv.1, v) else kv).map Prod.fst = kvs.map Prod.fst ∧ RepAll K W ((kvs.map fun kv => if kv.1 = k then (kv.1, v) else kv).map Prod.snd) (List.zipWith (fun x y => if x = k then d else y) (kvs.map Prod.fst) ds) := by
      intro kvs
      induction kvs with
      | nil =>
        intro ds h
        cases h
        exact ⟨rfl, .nil⟩
      | cons p kvs ih =>
        intro ds h
        cases h with
        | cons r1 rs =>
          obtain ⟨h1, h2⟩ := ih rs
          refine ⟨?_, ?_⟩
          · rw [List.map_cons, List.map_cons, h1, List.map_cons]
            congr 1
            split <;> rfl
          · rw [List.map_cons, List.map_cons, List.map_cons, List.zipWith_cons_cons]
            refine .cons ?_ h2
            split
            · exact r
            · exact r1
    exact this rs
  · rw [if_neg h, if_neg h, if_neg h]
    refine ⟨by rw [List.map_append]; rfl, ?_⟩
    rw [List.map_append]
    exact rs.app (.one r)
theorem put_len (kvs : List (Key × V)) (k : Key) (v : V) : (putK kvs k v).length ≤ kvs.length + 1 := Ly.putK_len kvs k v
end
section
variable {X : Cx} {K : PySem.W.Frag} {E : XK} {W0 H0 : Hp} {F G L : FE} {T U : FT} {A N : FA} {S S' : FS} {g : Fn} {tg e a b o : Expr} {es : List Expr} {p pos apos : Pos} {i j k n : Nat} {x m f : Str} {C : Addr} {st : Stmt} {body : List Stmt}
/-! ### d[k], k in d, d.get(k, x) -/
def fGet (F G : FE) : FE := fun ρ Q Z => F ρ (fun d => ∃ ks ds, d = .dic ks ds ∧ G ρ (fun y => ∃ k v, keyD y = some k ∧ valD ks ds k = some v ∧ Q v) Z) Z
theorem d_get (hu : X.A.units + 1 < cLine) (ho : PE X o (tDT K E F)) (hi : PE X a (tD K E G)) (hs : NoSl a) : PE X (.Subscript o a pos) (tD K E (fGet F G)) := (pe_dget hu ho hi hs).mono fun σ H Qh ⟨W0, H0, W, ρ, Q, Z, st, f, k, x⟩ => by
  refine ⟨W0, H0, W, ρ, _, Z, st, f, fun v W1 H1 d e1 r ⟨ks, ds, z, q⟩ => ?_, x⟩
  subst z
  refine ⟨W0, H0, W1, ρ, _, Z, st.ext e1, q, fun v2 W2 H2 d2 e2 r2 ⟨kk, u, hk, hv, q2⟩ => ?_, x.ext e1⟩
  obtain ⟨ad, kvs, h1, h2, h3, h4, h5⟩ := (r.ext e2).dic_inv e2.s
  subst h3
  rcases val_v (k := kk) h4 with ⟨g1, g2⟩ | ⟨w, d', g1, g2, g3⟩
  · rw [hv] at g2; cases g2
  · rw [hv] at g2
    cases g2
    exact ⟨ad, w, h1, .inl ⟨kvs, kk, h2, key_v r2 hk, g1.symm⟩, k _ W2 H2 _ (e1.trans e2) g3 q2⟩
def fHas (neg : Bool) (G F : FE) : FE := fun ρ Q Z => G ρ (fun y => F ρ (fun d => ∃ ks ds k, d = .dic ks ds ∧ keyD y = some k ∧ Q (.bl (neg != (valD ks ds k).isSome))) Z) Z
theorem has_to {σ : L2.St} {H : Hp} {Qh : VK} (h : tD K E (fHas false G F) σ H Qh) : tDIn (tD K E G) (tDT K E F) σ H Qh := by
  obtain ⟨W0, H0, W, ρ, Q, Z, st, f, k, x⟩ := h
  refine ⟨W0, H0, W, ρ, _, Z, st, f, fun v W1 H1 d e1 r q => ?_, x⟩
  refine ⟨W0, H0, W1, ρ, _, Z, st.ext e1, q, fun v2 W2 H2 d2 e2 r2 ⟨ks, ds, kk, z, hk, q2⟩ => ?_, x.ext e1⟩
  subst z
  obtain ⟨ad, kvs, h1, h2, h3, h4, h5⟩ := r2.dic_inv e2.s
  subst h3
  rw [Bool.false_bne] at q2
  refine ⟨ad, valV kvs kk, h1, .inl ⟨kvs, kk, h2, key_v r hk, rfl⟩, ?_⟩
  rcases val_v (k := kk) h4 with ⟨g1, g2⟩ | ⟨w, d', g1, g2, g3⟩
  · rw [g1]
    rw [g2] at q2
    exact k _ W2 H2 _ (e1.trans e2) (.bl _) q2
  · rw [g1]
    rw [g2] at q2
    exact k _ W2 H2 _ (e1.trans e2) (.bl _) q2
theorem hasnt_to {σ : L2.St} {H : Hp} {Qh : VK} (h : tD K E (fHas true G F) σ H Qh) : tDNotIn (tD K E G) (tDT K E F) σ H Qh := by
  obtain ⟨W0, H0, W, ρ, Q, Z, st, f, k, x⟩ := h
  refine ⟨W0, H0, W, ρ, _, Z, st, f, fun v W1 H1 d e1 r q => ?_, x⟩
  refine ⟨W0, H0, W1, ρ, _, Z, st.ext e1, q, fun v2 W2 H2 d2 e2 r2 ⟨ks, ds, kk, z, hk, q2⟩ => ?_, x.ext e1⟩
  subst z
  obtain ⟨ad, kvs, h1, h2, h3, h4, h5⟩ := r2.dic_inv e2.s
  subst h3
  rw [Bool.true_bne] at q2
  refine ⟨ad, valV kvs kk, h1, .inl ⟨kvs, kk, h2, key_v r hk, rfl⟩, ?_⟩
  rcases val_v (k := kk) h4 with ⟨g1, g2⟩ | ⟨w, d', g1, g2, g3⟩
  · rw [g1]
    rw [g2] at q2
    exact k _ W2 H2 _ (e1.trans e2) (.bl _) q2
  · rw [g1]
    rw [g2] at q2
    exact k _ W2 H2 _ (e1.trans e2) (.bl _) q2
theorem d_has (hu : X.A.units + 1 < cLine) (ha : PE X a (tD K E G)) (hb : PE X b (tDT K E F)) (hm : behindInMarks .In b = false := by rfl) : PE X (.Compare a [.In] [b] pos) (tD K E (fHas false G F)) := (pe_cmp (pc_din hu ha hb) hm).mono fun _ _ _ h => has_to h
theorem d_hasnt (hu : X.A.units + 1 < cLine) (ha : PE X a (tD K E G)) (hb : PE X b (tDT K E F)) (hm : behindInMarks .NotIn b = false := by rfl) : PE X (.Compare a [.NotIn] [b] pos) (tD K E (fHas true G F)) := (pe_cmp (pc_dnotin hu ha hb) hm).mono fun _ _ _ h => hasnt_to h
theorem d_thas (hu : X.A.units + 1 < cLine) (ha : PE X a (tD K E G)) (hb : PE X b (tDT K E F)) (hm : behindInMarks .In b = false := by rfl) : PT X (.Compare a [.In] [b] pos) (tDB K E (fTst (fHas false G F))) := (pt_cmp (pc_din hu ha hb) hm).mono fun _ _ _ h => has_to (tst_to h)
theorem d_thasnt (hu : X.A.units + 1 < cLine) (ha : PE X a (tD K E G)) (hb : PE X b (tDT K E F)) (hm : behindInMarks .NotIn b = false := by rfl) : PT X (.Compare a [.NotIn] [b] pos) (tDB K E (fTst (fHas true G F))) := (pt_cmp (pc_dnotin hu ha hb) hm).mono fun _ _ _ h => hasnt_to (tst_to h)
def fGet2 (F G L : FE) : FE := fun ρ Q Z => F ρ (fun d => ∃ ks ds, d = .dic ks ds ∧ G ρ (fun y => L ρ (fun z => ∃ k, keyD y = some k ∧ Q ((valD ks ds k).getD z)) Z) Z) Z
theorem d_get2 {c : Expr} (hu : X.A.units + 1 < cLine) (ho : PE X o (tDT K E F)) (he : PE X a (tD K E G)) (hf : PE X c (tD K E L)) (m : M2 X o "get" apos a c pos) : PE X (.Call (.Attribute o "get" apos) [a, c] [] pos) (tD K E (fGet2 F G L)) := (pe_dget2 hu ho he hf m).mono fun σ H Qh ⟨W0, H0, W, ρ, Q, Z, st, f, k, x⟩ => by
  refine ⟨W0, H0, W, ρ, _, Z, st, f, fun v W1 H1 d e1 r ⟨ks, ds, z, q⟩ => ?_, x⟩
  subst z
  obtain ⟨ad, kvs, h1, h2, h3, h4, h5⟩ := r.dic_inv e1.s
  subst h3
  refine ⟨ad, h1, .inl ⟨kvs, h2⟩, W0, H0, W1, ρ, _, Z, st.ext e1, q, fun v2 W2 H2 d2 e2 r2 q2 => ?_, x.ext e1⟩
  refine ⟨W0, H0, W2, ρ, _, Z, st.ext (e1.trans e2), q2, fun v3 W3 H3 d3 e3 r3 ⟨kk, hk, q3⟩ => ?_, x.ext (e1.trans e2)⟩
  have e13 := (e1.trans e2).trans e3
  refine ⟨valV kvs kk, .inl ⟨kvs, kk, (e2.trans e3).h.rd h2, key_v r2 hk, rfl⟩, ?_⟩
  rcases val_v (k := kk) h4 with ⟨g1, g2⟩ | ⟨w, d', g1, g2, g3⟩
  · rw [g1]
    rw [g2] at q3
    exact k _ W3 H3 _ e13 r3 q3
  · rw [g1]
    rw [g2] at q3
    exact k _ W3 H3 _ e13 (g3.gx (e2.trans e3).w) q3

/-! ### new dicts -/
/-- an expression that makes a dict -/
abbrev FDi := Env → (List Key → List D → Prop) → ZX → Prop
def tDD (K : PySem.W.Frag) (E : XK) (F : FDi) : TE := fun σ H Qh => ∃ W0 H0 W ρ Q Z, Sat K W0 H0 W ρ σ H ∧ F ρ Q Z ∧
  (∀ p kvs W' H' ds, Ex W H W' H' → H p = none → W' p = none → H' p = some (.dK kvs) → RepAll K W' (kvs.map Prod.snd) ds → kvs.length ≤ sizeLine → Q (kvs.map Prod.fst) ds → Qh (.ref p) H') ∧ XC K E W H Z
def fDic (F : FDi) : FE := fun ρ Q Z => F ρ (fun ks ds => Q (.dic ks ds)) Z
variable {Fd : FDi}
theorem d_dd (h : PE X e (tDD K E Fd)) : PE X e (tD K E (fDic Fd)) := h.mono fun σ H Qh ⟨W0, H0, W, ρ, Q, Z, st, f, k, x⟩ => ⟨W0, H0, W, ρ, _, Z, st, f, fun p kvs W' H' ds e hp hw h' r n q =>
  k _ _ H' _ (e.see hp hw h') (.dic (.inl upd_same) rfl (r.gx (Gx.new hw)) n) q, x⟩
def fDic0 : FDi := fun _ Q _ => Q [] []
theorem d_dic0 (h : PE X e tDNewK) : PE X e (tDD K E fDic0) := h.mono fun σ H Qh ⟨W0, H0, W, ρ, Q, Z, st, f, k, x⟩ p hp => k p [] W _ [] (Ex.hid st.see hp) hp (st.see.free hp) upd_same .nil (by decide) f
def sNewD (i : Nat) (F : FDi) : FS := fun ρ De => F ρ (fun ks ds => De.nx (ρ.set i (.dic ks ds))) De.ex
theorem d_newD (he : PE X e (tDD K E Fd)) (hg : PG X tg (gName i)) (hs : swapsWithSole [tg] e pos.line X.env = pure false := by rfl) (hw : swappedStores [tg] e X.env = pure none := by rfl)
    (h1 : (assignEach [tg] X.env).map (·.2) = [assign tg X.env] := by rfl) : PS X (.Assign [tg] e pos) (tDS K W0 H0 E (sNewD i Fd)) := (ps_asg he hg hs hw h1).mono fun D σ H ⟨W, ρ, De, s, q, o⟩ =>
  ⟨W0, H0, W, ρ, _, _, s, q, fun p vs W' H' ds e hp hw h' r n z => o.nx W' _ _ H' e.w (s.put (b := .dic _ ds) e hp ⟨p, vs, rfl, rfl, hw, s.ex.h.free hp, h', rfl, r, n⟩) z, o.xc s⟩
/-- x[k] = v of an own dict -/
def sPutD (i : Nat) (G F : FE) : FS := fun ρ De => F ρ (fun d => ∃ ks ds, ρ[i]? = some (.dic ks ds) ∧ G ρ (fun y => ∃ k, keyD y = some k ∧ ks.length < sizeLine ∧ De.nx (ρ.set i (.dic (putKs ks k) (putDs ks ds k d)))) De.ex) De.ex
theorem Sat.chgD {W H : Hp} {ρ : Env} {σ : L2.St} (h : Sat K W0 H0 W ρ σ H) {p : Addr} {ks ms : List Key} {ds es : List D} {kvs : List (Key × V)} (hi : ρ[i]? = some (.dic ks ds)) (hs : σ[i]? = some (some (.ref p))) (k : kvs.map Prod.fst = ms) (r : RepAll K W (kvs.map Prod.snd) es) (hn : kvs.length ≤ sizeLine) : Sat K W0 H0 W (ρ.set i (.dic ms es)) σ (upd H p (.dK kvs)) := by
  obtain ⟨oa, h1, h2⟩ := h.rep
  obtain ⟨s, h3, q, vs, h4, h5, h6, h7, h8, _⟩ := h2 i _ hi
  have hq : q = p := by
    rw [h3, h5] at hs
    cases hs
    rfl
  subst hq
  have hσ : σ.set i (some (.ref q)) = σ := by
    apply List.ext_getElem?
    intro j
    by_cases e : j = i
    · subst e
      rw [List.getElem?_set_self (List.getElem?_eq_some_iff.mp hs).1, hs]
    · rw [List.getElem?_set_ne (Ne.symm e)]
  rw [← hσ]
  refine sat_set (o := some q) (Ex.mut h.ex h7 h6) h.len h1 (fun j p z hj _ hp => ?_) (fun j b hj hb => ?_) ⟨q, kvs, rfl, rfl, h6, h7, upd_same, k, r, hn⟩
  · cases z
    exact hj (h1 j i q hp h4)
  · obtain ⟨s', h11, h12⟩ := h2 j b hb
    exact ⟨s', h11, h12.mut (fun z => hj (h1 j i q z h4)) fun x z => by rw [h8] at z; cases z⟩
theorem Sat.ownD {W H : Hp} {ρ : Env} {σ : L2.St} (h : Sat K W0 H0 W ρ σ H) {ks : List Key} {ds : List D} (hi : ρ[i]? = some (.dic ks ds)) : ∃ p kvs, σ[i]? = some (some (.ref p)) ∧ H p = some (.dK kvs) ∧ kvs.map Prod.fst = ks ∧ RepAll K W (kvs.map Prod.snd) ds ∧ kvs.length ≤ sizeLine := by
  obtain ⟨oa, _, h2⟩ := h.rep
  obtain ⟨s, h3, p, kvs, _, h4, _, _, h5⟩ := h2 i _ hi
  exact ⟨p, kvs, by rw [h3, h4], h5⟩
theorem d_putD (h : PS X st (sDPut (tVar i) (tD K E G) (tD K E F))) : PS X st (tDS K W0 H0 E (sPutD i G F)) := h.mono fun D σ H ⟨W, ρ, De, s, q, o⟩ => by
  refine ⟨W0, H0, W, ρ, _, _, s, q, fun v W1 H1 d e1 r1 ⟨ks, ds, hi, q1⟩ => ?_, o.xc s⟩
  have s1 := s.ext e1
  obtain ⟨p, kvs, h1, _⟩ := s1.ownD hi
  refine ⟨.ref p, h1, W0, H0, W1, ρ, _, _, s1, q1, fun y W2 H2 dk e2 r2 ⟨kk, hk, hn, q2⟩ => ?_, o.xc s1⟩
  have s2 := s1.ext e2
  obtain ⟨p', us, g1, g2, g3, g4, g5⟩ := s2.ownD hi
  rw [h1] at g1
  cases g1
  subst g3
  have hl : us.length < sizeLine := by
    rw [List.length_map] at hn
    exact hn
  obtain ⟨h6, h7⟩ := rep_put (k := kk) (r1.gx e2.w) g4
  refine ⟨p, _, rfl, .inl ⟨us, kk, g2, key_v r2 hk, hl, rfl⟩, ?_⟩
  exact o.nx W2 _ σ _ (e1.trans e2).w (s2.chgD hi h1 h6 h7 (by have := put_len us kk v; omega)) q2
/-- an own dict is given away -/
theorem Sat.demD {W H : Hp} {ρ : Env} {σ : L2.St} (h : Sat K W0 H0 W ρ σ H) {ks : List Key} {ds : List D} (hi : ρ[i]? = some (.dic ks ds)) : ∃ W', Gx W W' ∧ Sat K W0 H0 W' (ρ.set i (.val (.dic ks ds))) σ H := by
  obtain ⟨oa, h1, h2⟩ := h.rep
  obtain ⟨s, h3, q, vs, h4, h5, h6, h7, h8, h9, h10, h11⟩ := h2 i _ hi
  have hσ : σ.set i (some (.ref q)) = σ := by
    apply List.ext_getElem?
    intro j
    by_cases e : j = i
    · subst e
      rw [List.getElem?_set_self (List.getElem?_eq_some_iff.mp h3).1, h3, h5]
    · rw [List.getElem?_set_ne (Ne.symm e)]
  refine ⟨upd W q (.dK vs), Gx.new h6, ?_⟩
  have e2 : Gx W (upd W q (.dK vs)) := Gx.new h6
  rw [← hσ]
  refine sat_set (o := none) (Ex.see h.ex h7 h6 h8) h.len h1 (fun _ _ z => by cases z) (fun j b hj hb => ?_) ⟨rfl, _, rfl, .dic (.inl upd_same) h9 (h10.gx e2) h11⟩
  obtain ⟨s', h11, h12⟩ := h2 j b hb
  refine ⟨s', h11, ?_⟩
  have hne : ∀ p, oa j = some p → p ≠ q := fun p hp z => hj (h1 j i q (by rw [hp, z]) h4)
  cases b with
  | un => exact h12
  | val d =>
    obtain ⟨k1, v, k2, k3⟩ := h12
    exact ⟨k1, v, k2, k3.gx e2⟩
  | lst es =>
    obtain ⟨p, us, k1, k2, k3, k4, k5, k6, k7⟩ := h12
    exact ⟨p, us, k1, k2, by rw [upd_ne (hne p k1)]; exact k3, k4, k5, k6.gx e2, k7⟩
  | dic ks es =>
    obtain ⟨p, us, k1, k2, k3, k4, k5, k6, k7, k8⟩ := h12
    exact ⟨p, us, k1, k2, by rw [upd_ne (hne p k1)]; exact k3, k4, k5, k6, k7.gx e2, k8⟩
  | obj a C ns es =>
    obtain ⟨p, dx, us, k0, k1, k2, k3, k4, k5, k6, k7, k8, k9, k10⟩ := h12
    exact ⟨p, dx, us, k0, k1, k2, by rw [upd_ne (hne p k1)]; exact k3, k4, k5, k6, k7, k8, k9.gx e2, k10⟩
def demBD (i : Nat) (ρ : Env) : Env := match ρ[i]? with
  | some (.dic ks ds) => ρ.set i (.val (.dic ks ds))
  | _ => ρ
def sDemD (i : Nat) (S : FS) : FS := fun ρ De => S (demBD i ρ) De
theorem d_demD (i : Nat) (h : PS X st (tDS K W0 H0 E S)) : PS X st (tDS K W0 H0 E (sDemD i S)) := h.mono fun D σ H ⟨W, ρ, De, s, q, o⟩ => by
  unfold sDemD demBD at q
  split at q
  · rename_i ks ds hi
    obtain ⟨W', g, s'⟩ := s.demD hi
    exact ⟨W', _, De, s', q, o.up g⟩
  · exact ⟨W, ρ, De, s, q, o⟩
/-! ### displays {k: v, ..} -/
abbrev FP := Env → (List (D × D) → Prop) → ZX → Prop
def mergeKs : List Key → List (Key × D) → List Key
  | ks, [] => ks
  | ks, p :: ps => mergeKs (putKs ks p.1) ps
def mergeDs : List Key → List D → List (Key × D) → List D
  | _, ds, [] => ds
  | ks, ds, p :: ps => mergeDs (putKs ks p.1) (putDs ks ds p.1 p.2) ps
def keysD : List (D × D) → Option (List (Key × D))
  | [] => some []
  | p :: ps => match keyD p.1, keysD ps with
    | some k, some r => some ((k, p.2) :: r)
    | _, _ => none
theorem merge_v {W : Hp} : ∀ {more : List (Key × V)} {rs : List (Key × D)}, Paired (fun (p : Key × V) (q : Key × D) => p.1 = q.1 ∧ Rep K W p.2 q.2) more rs → ∀ {kvs : List (Key × V)} {ds : List D}, RepAll K W (kvs.map Prod.snd) ds →
    (mergeK kvs more).map Prod.fst = mergeKs (kvs.map Prod.fst) rs ∧ RepAll K W ((mergeK kvs more).map Prod.snd) (mergeDs (kvs.map Prod.fst) ds rs)
  | _, _, .nil, kvs, ds, h => ⟨rfl, h⟩
  | _, _, .cons (a := p) (b := q) h t, kvs, ds, r => by
    obtain ⟨h1, h2⟩ := rep_put (k := p.1) h.2 r
    obtain ⟨g1, g2⟩ := merge_v t h2
    show (mergeK (putK kvs p.1 p.2) _).map Prod.fst = mergeKs (putKs (kvs.map Prod.fst) q.1) _ ∧ RepAll K W ((mergeK (putK kvs p.1 p.2) _).map Prod.snd) (mergeDs (putKs (kvs.map Prod.fst) q.1) (putDs (kvs.map Prod.fst) ds q.1 q.2) _)
    rw [← h.1, ← h1]
    exact ⟨g1, g2⟩
end
end Pu

set_option Elab.async false
set_option maxRecDepth 100000
set_option linter.all false
/-! the pure layer: comprehensions over dicts, dict comprehensions -/
namespace Pu
open PySem PySem.Spec PyProof.Rows L2 Ly
section
variable {K : PySem.W.Frag} {E : XK} {F G L Fk Fv : FE} {T : FT} {A : FA} {g : FG} {vs : List Nat}
/-- a comprehension's turns, once its source is there -/
theorem lc_body {gh : TG} {tt : TT} {te : TE} {σ : L2.St} {W0 H0 W1 H1 : Hp} {ρ : Env} {J : It} {ds : List D} {Q : List D → Prop} {Qh : VK} (gs : GSnd K gh g vs) (ht : ∀ σ H Q, tDB K E0 T σ H Q → tt σ H Q) (he : ∀ σ H Q, tD K E0 F σ H Q → te σ H Q)
    (st : Sat K W0 H0 W1 ρ σ H1) (it : IterC K W1 H1 J ds) (hn : ds.length ≤ sizeLine) (q : lcD g T F (wipeB ρ vs) ds Q)
    (k : ∀ p us W' H' es, Ex W1 H1 W' H' → H1 p = none → W' p = none → H' p = some (.lst us) → RepAll K W' us es → us.length ≤ sizeLine → Q es → Qh (.ref p) H') :
    ∀ D, H1 D = none → ∃ W : Nat → Nat → Hp → Prop, (∃ m, W 0 m (upd H1 D (.lst []))) ∧ ∀ i m H, W i m H →
      (J.stop i H ∧ Qh (.ref D) H) ∨ (J.go i H ∧ ∃ Nx : Hp → Prop, (∀ H', Nx H' → ∃ m', m' < m ∧ W (i + 1) m' H') ∧ ∀ x H', J.yld i H x H' → gh x (wipe σ vs) H' fun σ2 H2 => wipe σ2 vs = wipe σ vs ∧ tt σ2 H2 fun b H3 =>
        if b = true then te σ2 H3 fun y H4 => ∃ acc, H4 D = some (.lst acc) ∧ acc.length < sizeLine ∧ Nx (upd H4 D (.lst (acc ++ [y]))) else Nx H3) := by
  obtain ⟨G, Y, hW, hG, hY⟩ := it
  intro Dd hD
  refine lc_it hW (fun i H' => ∃ W' us acc, i ≤ ds.length ∧ Ex W1 H1 W' H' ∧ W' Dd = none ∧ H' Dd = some (.lst us) ∧ RepAll K W' us acc ∧ us.length ≤ i ∧ lcD g T F (wipeB ρ vs) (ds.drop i) fun ys => Q (acc ++ ys)) ?_ ?_ ?_ ?_
  · exact ⟨W1, [], [], Nat.zero_le _, Ex.hid st.see hD, st.see.free hD, upd_same, .nil, Nat.le_refl _, q⟩
  · rintro i H' _ ⟨W', us, acc, _, e2, _⟩
    exact hG H' e2.h
  · rintro i v H3 H4 hi ⟨W3, us, acc, _, e3, hw3, hd3, r3, l3, q3⟩ y
    obtain ⟨W4, d, hd, e4, r4⟩ := hY i H3 v H4 W3 hi e3.h e3.w e3.s y
    have e5 := e3.trans e4
    have hw4 : ∀ {W' H' : Hp}, Ex W3 H3 W' H' → W' Dd = none := fun {W' H'} e => by
      cases z : W' Dd with
      | none => rfl
      | some o =>
        rcases e.n _ _ z with z | z
        · rw [hw3] at z; cases z
        · rw [hd3] at z; cases z
    have hdr : ds.drop i = d :: ds.drop (i + 1) := by
      rw [List.drop_eq_getElem_cons hi]
      congr 1
      rw [List.getElem?_eq_getElem hi] at hd
      exact Option.some.inj hd
    rw [hdr] at q3
    have stw : Sat K W0 H0 W4 (wipeB ρ vs) (L2.wipe σ vs) H4 := (st.ext e5).wipe vs
    refine gs W0 H0 W4 _ _ H4 v d _ _ stw r4 q3 fun ρ2 σ2 st2 hw2 q4 => ⟨by rw [hw2, wipe_wipe], ?_⟩
    refine ht _ _ _ ⟨W0, H0, W4, ρ2, _, F0, st2, q4, fun b W5 H5 e6 q5 => ?_, xc0⟩
    cases b with
    | true =>
      rw [if_pos rfl] at q5
      refine iteT (he _ _ _ ⟨W0, H0, W5, ρ2, _, F0, st2.ext e6, q5, fun u W6 H6 d6 e7 r6 q6 => ?_, xc0⟩)
      have e8 := (e4.trans e6).trans e7
      have hd6 := e8.h _ _ hd3
      refine ⟨us, hd6, by omega, W6, us ++ [u], acc ++ [d6], hi, Ex.mut (e3.trans e8) hD (hw4 e8), hw4 e8, upd_same, (r3.gx e8.w).app (.one r6), by rw [List.length_append]; show us.length + 1 ≤ i + 1; omega, ?_⟩
      have : (fun ys => Q (acc ++ [d6] ++ ys)) = fun ys => Q (acc ++ (d6 :: ys)) := by
        funext ys
        rw [List.append_assoc]
        rfl
      rw [this]
      exact q6
    | false =>
      rw [if_neg (by decide)] at q5
      have e8 := e4.trans e6
      exact iteF ⟨W5, us, acc, hi, e3.trans e8, hw4 e8, e8.h _ _ hd3, r3.gx e8.w, by omega, q5⟩
  · rintro H3 ⟨W3, us, acc, _, e3, hw3, hd3, r3, l3, q3⟩
    rw [List.drop_length] at q3
    have q3 : Q (acc ++ []) := q3
    rw [List.append_nil] at q3
    exact k Dd us W3 H3 acc e3 hD hw3 hd3 r3 (by omega) q3
/-! ### dict comprehensions -/
def dcD (g : FG) (T : FT) (Fk Fv : FE) (ρ : Env) : List D → List Key → List D → (List Key → List D → Prop) → Prop
  | [], ks, es, Q => Q ks es
  | d :: ds, ks, es, Q => g d ρ fun ρ2 => T ρ2 (fun b => if b = true then Fk ρ2 (fun y => Fv ρ2 (fun z => ∃ k, keyD y = some k ∧ dcD g T Fk Fv ρ ds (putKs ks k) (putDs ks es k z) Q) F0) F0 else dcD g T Fk Fv ρ ds ks es Q) F0
def fDc (A : FA) (g : FG) (T : FT) (Fk Fv : FE) (vs : List Nat) : FDi := fun ρ Q Z => A ρ (fun ds => ds.length ≤ sizeLine ∧ dcD g T Fk Fv (wipeB ρ vs) ds [] [] Q) Z
theorem dc_body {gh : TG} {tt : TT} {tk tv : TE} {σ : L2.St} {W0 H0 W1 H1 : Hp} {ρ : Env} {J : It} {ds : List D} {Q : List Key → List D → Prop} {Qh : VK} (gs : GSnd K gh g vs) (ht : ∀ σ H Q, tDB K E0 T σ H Q → tt σ H Q) (hk : ∀ σ H Q, tD K E0 Fk σ H Q → tk σ H Q) (hv : ∀ σ H Q, tD K E0 Fv σ H Q → tv σ H Q)
    (st : Sat K W0 H0 W1 ρ σ H1) (it : IterC K W1 H1 J ds) (hn : ds.length ≤ sizeLine) (q : dcD g T Fk Fv (wipeB ρ vs) ds [] [] Q)
    (k : ∀ p kvs W' H' es, Ex W1 H1 W' H' → H1 p = none → W' p = none → H' p = some (.dK kvs) → RepAll K W' (kvs.map Prod.snd) es → kvs.length ≤ sizeLine → Q (kvs.map Prod.fst) es → Qh (.ref p) H') :
    ∀ D, H1 D = none → ∃ W : Nat → Nat → Hp → Prop, (∃ m, W 0 m (upd H1 D (.dK []))) ∧ ∀ i m H, W i m H →
      (J.stop i H ∧ Qh (.ref D) H) ∨ (J.go i H ∧ ∃ Nx : Hp → Prop, (∀ H', Nx H' → ∃ m', m' < m ∧ W (i + 1) m' H') ∧ ∀ x H', J.yld i H x H' → gh x (wipe σ vs) H' fun σ2 H2 => wipe σ2 vs = wipe σ vs ∧ tt σ2 H2 fun b H3 =>
        if b = true then tk σ2 H3 fun y H4 => tv σ2 H4 fun z H5 => ∃ kvs k, y = kV k ∧ H5 D = some (.dK kvs) ∧ kvs.length < sizeLine ∧ Nx (upd H5 D (.dK (putK kvs k z))) else Nx H3) := by
  obtain ⟨G, Y, hW, hG, hY⟩ := it
  intro Dd hD
  refine ⟨fun i m H' => m = ds.length - i ∧ i ≤ ds.length ∧ ∃ W' kvs es, Ex W1 H1 W' H' ∧ W' Dd = none ∧ H' Dd = some (.dK kvs) ∧ RepAll K W' (kvs.map Prod.snd) es ∧ kvs.length ≤ i ∧ dcD g T Fk Fv (wipeB ρ vs) (ds.drop i) (kvs.map Prod.fst) es Q,
    ⟨ds.length, by omega, by omega, W1, [], [], Ex.hid st.see hD, st.see.free hD, upd_same, .nil, Nat.le_refl _, q⟩, ?_⟩
  rintro i m H3 ⟨rfl, hi, W3, kvs, es, e3, hw3, hd3, r3, l3, q3⟩
  by_cases hlt : i < ds.length
  · refine .inr ⟨hW.goes i H3 hlt (hG H3 e3.h), fun H' => ∃ W' kvs es, Ex W1 H1 W' H' ∧ W' Dd = none ∧ H' Dd = some (.dK kvs) ∧ RepAll K W' (kvs.map Prod.snd) es ∧ kvs.length ≤ i + 1 ∧ dcD g T Fk Fv (wipeB ρ vs) (ds.drop (i + 1)) (kvs.map Prod.fst) es Q, fun H' p' => ⟨ds.length - (i + 1), by omega, rfl, hlt, p'⟩, fun x H4 y => ?_⟩
    obtain ⟨W4, d, hd, e4, r4⟩ := hY i H3 x H4 W3 hlt e3.h e3.w e3.s (hW.yields i H3 x H4 hlt (hG H3 e3.h) y)
    have e5 := e3.trans e4
    have hw4 : ∀ {W' H' : Hp}, Ex W3 H3 W' H' → W' Dd = none := fun {W' H'} e => by
      cases z : W' Dd with
      | none => rfl
      | some o =>
        rcases e.n _ _ z with z | z
        · rw [hw3] at z; cases z
        · rw [hd3] at z; cases z
    have hdr : ds.drop i = d :: ds.drop (i + 1) := by
      rw [List.drop_eq_getElem_cons hlt]
      congr 1
      rw [List.getElem?_eq_getElem hlt] at hd
      exact Option.some.inj hd
    rw [hdr] at q3
    have stw : Sat K W0 H0 W4 (wipeB ρ vs) (L2.wipe σ vs) H4 := (st.ext e5).wipe vs
    refine gs W0 H0 W4 _ _ H4 x d _ _ stw r4 q3 fun ρ2 σ2 st2 hw2 q4 => ⟨by rw [hw2, wipe_wipe], ?_⟩
    refine ht _ _ _ ⟨W0, H0, W4, ρ2, _, F0, st2, q4, fun b W5 H5 e6 q5 => ?_, xc0⟩
    cases b with
    | true =>
      rw [if_pos rfl] at q5
      refine iteT (hk _ _ _ ⟨W0, H0, W5, ρ2, _, F0, st2.ext e6, q5, fun u W6 H6 d6 e7 r6 q6 => ?_, xc0⟩)
      refine hv _ _ _ ⟨W0, H0, W6, ρ2, _, F0, st2.ext (e6.trans e7), q6, fun u2 W7 H7 d7 e8 r7 ⟨kk, hkk, q7⟩ => ?_, xc0⟩
      have e9 := ((e4.trans e6).trans e7).trans e8
      have hd6 := e9.h _ _ hd3
      obtain ⟨g1, g2⟩ := rep_put (k := kk) r7 (r3.gx e9.w)
      refine ⟨kvs, kk, key_v r6 hkk, hd6, by omega, W7, putK kvs kk u2, _, Ex.mut (e3.trans e9) hD (hw4 e9), hw4 e9, upd_same, g2, by have := put_len kvs kk u2; omega, ?_⟩
      rw [g1]
      exact q7
    | false =>
      rw [if_neg (by decide)] at q5
      have e8 := e4.trans e6
      exact iteF ⟨W5, kvs, es, e3.trans e8, hw4 e8, e8.h _ _ hd3, r3.gx e8.w, by omega, q5⟩
  · have hie : i = ds.length := by omega
    subst hie
    rw [List.drop_length] at q3
    exact .inl ⟨hW.stops H3 (hG H3 e3.h), k Dd kvs W3 H3 es e3 hD hw3 hd3 r3 (by omega) q3⟩
end
/-! ### sources that stay: names, fields of them -/
/-- the heap with a dict locked -/
def LkH (H Hl : Hp) : Prop := ∀ a o, H a = some o → Hl a = some o ∨ ∃ kvs od, o = .dK kvs ∧ Hl a = some (.frz od (.dK kvs))
def Stat (K : PySem.W.Frag) (te : TE) (F : FE) : Prop := ∀ W0 H0 W ρ σ H Q Z, Sat K W0 H0 W ρ σ H → F ρ Q Z → ∃ v d, Rep K W v d ∧ Q d ∧ ∀ Hl Qh, LkH H Hl → Qh v Hl → te σ Hl Qh
section
variable {K : PySem.W.Frag} {E : XK} {F G L Fk Fv : FE} {T : FT} {A : FA} {g : FG} {vs : List Nat} {te : TE} {f : Str} {i : Nat}
theorem stat_var : Stat K (tVar i) (fVar i) := fun W0 H0 W ρ σ H Q Z st ⟨d, hi, q⟩ => by
  obtain ⟨v, h1, h2⟩ := st.val hi
  exact ⟨v, d, h2, q, fun Hl Qh _ h => ⟨v, h1, h⟩⟩
theorem stat_fld (h : Stat K te F) : Stat K (tFld K te f) (fFld K f F) := fun W0 H0 W ρ σ H Q Z st q => by
  obtain ⟨v, d, h1, ⟨C, ns, ds, u, z, hc, hn, hl, q2⟩, h2⟩ := h W0 H0 W ρ σ H _ Z st q
  subst z
  cases h1 with
  | @obj a _ dx fs _ _ h3 h4 h5 =>
    subst h4
    obtain ⟨w, h6, h7⟩ := look_v h5 hl
    refine ⟨w, u, h7, q2, fun Hl Qh lk hq => h2 Hl _ lk ⟨a, C, dx, fs, w, rfl, ?_, hc, hn, h6, hq⟩⟩
    rcases lk a _ (st.see _ _ h3) with z | ⟨_, _, z, _⟩
    · exact z
    · cases z
/-- the walkers of a dict -/
structure DWalk (K : PySem.W.Frag) (mk : Addr → Obj → List (Key × V) → It) (its : List Key → List D → List D) : Prop where
  len : ∀ ks ds, ks.length = ds.length → (its ks ds).length ≤ ks.length
  it : ∀ W H d o kvs ds, W d = some (.frz o (.dK kvs)) → Gx W H → RepAll K W (kvs.map Prod.snd) ds → IterC K W H (mk d o kvs) (its (kvs.map Prod.fst) ds)
def iDw (mk : Addr → Obj → List (Key × V) → It) (td : TE) : TI := fun σ H R => td σ H fun x H1 => ∃ d o kvs, x = .ref d ∧ H1 d = some (.frz o (.dK kvs)) ∧ R (mk d o kvs) H1
def fDw (its : List Key → List D → List D) (F : FE) : FA := fun ρ Q Z => F ρ (fun d => ∃ ks ds, d = .dic ks ds ∧ Q (its ks ds)) Z
def itemsD (ks : List Key) (ds : List D) : List D := pairsD (ks.map kD) ds
theorem dw_items : DWalk K Iti itemsD := ⟨fun ks ds h => by unfold itemsD; rw [pairsD_len, List.length_map]; omega, fun W H d o kvs ds hd s r => by
  have hl : (itemsD (kvs.map Prod.fst) ds).length = kvs.length := by
    unfold itemsD
    rw [pairsD_len, List.length_map, List.length_map, ← r.len, List.length_map]
    omega
  refine ⟨_, _, by rw [hl]; exact walk_items (d := d) (o := o) (kvs := kvs), fun H3 e => e _ _ (s _ _ hd), fun i H3 x H4 W3 hi _ e s3 y => ?_⟩
  obtain ⟨T, v, w, y1, y2, y3, y4, y5⟩ := y
  have hi : i < kvs.length := by rw [← hl]; exact hi
  have hk : kvs[i]? = some kvs[i] := List.getElem?_eq_getElem hi
  have y4 : kvs[i]?.map (fun kv => kV kv.1) = some v := y4
  have y5 : kvs[i]?.map Prod.snd = some w := y5
  rw [hk] at y4 y5
  cases y4
  cases y5
  obtain ⟨b, g3, g4⟩ := r.get (i := i) (v := kvs[i].2) (by rw [List.getElem?_map, hk]; rfl)
  obtain ⟨W4, g5, g6⟩ := pair_new s3 y1 y2 y3 (rep_kV kvs[i].1) (g4.gx e)
  exact ⟨W4, _, pairsD_get _ _ i _ _ (by rw [List.getElem?_map, List.getElem?_map, hk]; rfl) g3, g5, g6⟩⟩
theorem dw_vals : DWalk K Itd (fun _ ds => ds) := ⟨fun ks ds h => by omega, fun W H d o kvs ds hd s r => by
  have hl : ds.length = kvs.length := by rw [← r.len, List.length_map]
  refine ⟨_, _, by rw [hl]; exact walk_values (d := d) (o := o) (kvs := kvs), fun H3 e => e _ _ (s _ _ hd), fun i H3 x H4 W3 hi _ e s3 y => ?_⟩
  obtain ⟨rfl, k, hk⟩ := y
  obtain ⟨b, g3, g4⟩ := r.get (i := i) (v := x) (by rw [List.getElem?_map, hk]; rfl)
  exact ⟨W3, b, g3, Ex.refl s3, g4.gx e⟩⟩
theorem dw_keys : DWalk K Itk (fun ks _ => ks.map kD) := ⟨fun ks ds h => by rw [List.length_map]; omega, fun W H d o kvs ds hd s r => by
  refine ⟨_, _, by rw [List.length_map, List.length_map]; exact walk_keys (d := d) (o := o) (kvs := kvs), fun H3 e => e _ _ (s _ _ hd), fun i H3 x H4 W3 hi _ e s3 y => ?_⟩
  obtain ⟨rfl, k, v, hk, rfl⟩ := y
  exact ⟨W3, kD k, by rw [List.getElem?_map, List.getElem?_map, hk]; rfl, Ex.refl s3, rep_kV k⟩⟩
/-- with a dict locked or unlocked -/
def lk (d : Addr) (u : HO) (H : Hp) : Hp := fun a => if a = d then (H d).map fun _ => u else H a
theorem lk_at {d : Addr} {u o : HO} {H : Hp} (h : H d = some o) : lk d u H = upd H d u := by
  funext a
  unfold lk upd
  by_cases q : a = d
  · rw [if_pos q, if_pos q, h]
    rfl
  · rw [if_neg q, if_neg q]
theorem lk_off {d : Addr} {u : HO} {H : Hp} (h : H d = none) : lk d u H = H := by
  funext a
  unfold lk
  by_cases q : a = d
  · rw [if_pos q, h, q, h]
    rfl
  · rw [if_neg q]
theorem lk_ne {d a : Addr} {u : HO} {H : Hp} (h : a ≠ d) : lk d u H a = H a := if_neg h
theorem lk_none {d a : Addr} {u : HO} {H : Hp} : lk d u H a = none ↔ H a = none := by
  unfold lk
  by_cases q : a = d
  · rw [if_pos q, q]
    cases H d <;> simp
  · rw [if_neg q]
theorem lk_gx {d : Addr} {u : HO} {W H : Hp} (e : Gx W H) : Gx (lk d u W) (lk d u H) := fun a o h => by
  by_cases q : a = d
  · subst q
    unfold lk at h ⊢
    rw [if_pos rfl] at h ⊢
    cases z : W a with
    | none => rw [z] at h; cases h
    | some o' =>
      rw [z] at h
      rw [e _ _ z]
      exact h
  · rw [lk_ne q] at h ⊢
    exact e _ _ h
theorem lk_ex {d : Addr} {u : HO} {W H W' H' : Hp} (e : Ex W H W' H') : Ex (lk d u W) (lk d u H) (lk d u W') (lk d u H') := ⟨lk_gx e.h, lk_gx e.w, lk_gx e.s, fun a o h => by
  by_cases q : a = d
  · subst q
    unfold lk at h
    rw [if_pos rfl] at h
    cases z : W' a with
    | none => rw [z] at h; cases h
    | some o' =>
      rw [z] at h
      cases h
      rcases e.n _ _ z with z2 | z2
      · left
        unfold lk
        rw [if_pos rfl, z2]
        rfl
      · right
        exact lk_none.mpr z2
  · rw [lk_ne q] at h ⊢
    rw [lk_ne q]
    exact e.n _ _ h⟩
theorem le_lock {d : Addr} {od : Obj} {kvs : List (Key × V)} {W : Hp} (h : W d = some (.dK kvs)) : Le W (upd W d (.frz od (.dK kvs))) := by
  refine ⟨fun a xs q => ?_, fun a u hu q => ?_, fun a C dx fs q => ?_, fun a q => ?_, fun a fs q => ?_⟩
  · rw [upd_ne (fun z => by rw [z, h] at q; cases q)]; exact q
  · by_cases z : a = d
    · subst z
      rcases q with q | ⟨o, q⟩
      · rw [h] at q
        cases q
        exact .inr ⟨od, upd_same⟩
      · rw [h] at q; cases q
    · rcases q with q | ⟨o, q⟩
      · exact .inl (by rw [upd_ne z]; exact q)
      · exact .inr ⟨o, by rw [upd_ne z]; exact q⟩
  · rw [upd_ne (fun z => by rw [z, h] at q; cases q)]; exact q
  · rw [upd_ne (fun z => by rw [z, h] at q; cases q)]; exact q
  · rw [upd_ne (fun z => by rw [z, h] at q; cases q)]; exact q
theorem le_unlock {d : Addr} {od : Obj} {kvs : List (Key × V)} {W : Hp} (h : W d = some (.frz od (.dK kvs))) : Le W (upd W d (.dK kvs)) := by
  refine ⟨fun a xs q => ?_, fun a u hu q => ?_, fun a C dx fs q => ?_, fun a q => ?_, fun a fs q => ?_⟩
  · rw [upd_ne (fun z => by rw [z, h] at q; cases q)]; exact q
  · by_cases z : a = d
    · subst z
      rcases q with q | ⟨o, q⟩
      · rw [h] at q
        cases q
        exact absurd rfl (hu _ _)
      · rw [h] at q
        cases q
        exact .inl upd_same
    · rcases q with q | ⟨o, q⟩
      · exact .inl (by rw [upd_ne z]; exact q)
      · exact .inr ⟨o, by rw [upd_ne z]; exact q⟩
  · rw [upd_ne (fun z => by rw [z, h] at q; cases q)]; exact q
  · rw [upd_ne (fun z => by rw [z, h] at q; cases q)]; exact q
  · rw [upd_ne (fun z => by rw [z, h] at q; cases q)]; exact q
/-- a state with a dict locked -/
theorem Sat.lock {W0 H0 W H : Hp} {ρ : Env} {σ : L2.St} {d : Addr} {od : Obj} {kvs : List (Key × V)} (st : Sat K W0 H0 W ρ σ H) (hd : W d = some (.dK kvs)) : ∃ W0' H0', Sat K W0' H0' (upd W d (.frz od (.dK kvs))) ρ σ (upd H d (.frz od (.dK kvs))) := by
  have hH := st.see _ _ hd
  have e := lk_ex (d := d) (u := .frz od (.dK kvs)) st.ex
  rw [lk_at hd, lk_at hH] at e
  refine ⟨_, _, e, st.len, ?_⟩
  obtain ⟨oa, h1, h2⟩ := st.rep
  refine ⟨oa, h1, fun i b hb => ?_⟩
  obtain ⟨s, h3, h4⟩ := h2 i b hb
  refine ⟨s, h3, ?_⟩
  have ne : ∀ p, W p = none → p ≠ d := fun p hp z => by rw [z, hd] at hp; cases hp
  cases b with
  | un => exact h4
  | val d' =>
    obtain ⟨k1, v, k2, k3⟩ := h4
    exact ⟨k1, v, k2, k3.le (le_lock hd)⟩
  | lst es =>
    obtain ⟨p, us, k1, k2, k3, k4, k5, k6, k7⟩ := h4
    exact ⟨p, us, k1, k2, by rw [upd_ne (ne p k3)]; exact k3, lk_none.mpr k4, by rw [upd_ne (ne p k3)]; exact k5, k6.le (le_lock hd), k7⟩
  | dic ks es =>
    obtain ⟨p, us, k1, k2, k3, k4, k5, k6, k7, k8⟩ := h4
    exact ⟨p, us, k1, k2, by rw [upd_ne (ne p k3)]; exact k3, lk_none.mpr k4, by rw [upd_ne (ne p k3)]; exact k5, k6, k7.le (le_lock hd), k8⟩
  | obj a C ns es =>
    obtain ⟨p, dx, us, k0, k1, k2, k3, k4, k5, k6, k7, k8, k9, k10⟩ := h4
    exact ⟨p, dx, us, k0, k1, k2, by rw [upd_ne (ne p k3)]; exact k3, lk_none.mpr k4, by rw [upd_ne (ne p k3)]; exact k5, by rw [upd_ne (fun z => by rw [z, hH] at k6; cases k6)]; exact k6, lk_none.mpr k7, k8, k9.le (le_lock hd), k10⟩
theorem lkh_refl (H : Hp) : LkH H H := fun _ _ h => .inl h
theorem lkh_lock {H : Hp} {d : Addr} {od : Obj} {kvs : List (Key × V)} (h : H d = some (.dK kvs)) : LkH H (upd H d (.frz od (.dK kvs))) := fun a o q => by
  by_cases z : a = d
  · subst z
    rw [h] at q
    cases q
    exact .inr ⟨kvs, od, rfl, upd_same⟩
  · exact .inl (by rw [upd_ne z]; exact q)
/-- what was made under a lock -/
theorem ex_unlock {W H W' H' : Hp} {d : Addr} {od : Obj} {kvs : List (Key × V)} (hd : W d = some (.dK kvs)) (hH : H d = some (.dK kvs)) (e : Ex (upd W d (.frz od (.dK kvs))) (upd H d (.frz od (.dK kvs))) W' H') : Ex W H (upd W' d (.dK kvs)) (upd H' d (.dK kvs)) := by
  have h := lk_ex (d := d) (u := .dK kvs) e
  rw [lk_at (o := .frz od (.dK kvs)) upd_same, lk_at (o := .frz od (.dK kvs)) upd_same, upd_upd, upd_upd, upd_id hd, upd_id hH, lk_at (e.w _ _ upd_same), lk_at (e.h _ _ upd_same)] at h
  exact h
variable {mk : Addr → Obj → List (Key × V) → It} {its : List Key → List D → List D}
theorem lcw_to {gh : TG} {tt : TT} {td te : TE} {σ : L2.St} {H : Hp} {Qh : VK} (hs : Stat K td F) (dw : DWalk K mk its) (gs : GSnd K gh g vs) (ht : ∀ σ H Q, tDB K E0 T σ H Q → tt σ H Q) (he : ∀ σ H Q, tD K E0 G σ H Q → te σ H Q)
    (h : tDN K E (fLc (fDw its F) g T G vs) σ H Qh) : tLockE (tLc (iDw mk td) gh tt te vs) σ H Qh ∨ tLc (iDw mk td) gh tt te vs σ H Qh := by
  obtain ⟨W0, H0, W, ρ, Q, Z, st, f, k, x⟩ := h
  obtain ⟨v, d, r, ⟨ks, ds, z, hn, q⟩, hst⟩ := hs W0 H0 W ρ σ H _ Z st f
  subst z
  cases r with
  | @dic a kvs _ _ hd hk hr hl =>
    subst hk
    rcases hd with hd | ⟨od, hd⟩
    · have hH := st.see _ _ hd
      refine .inl ⟨a, .dK kvs, hH, trivial, fun od => ?_⟩
      obtain ⟨W0', H0', st'⟩ := st.lock (od := od) hd
      refine hst _ _ (lkh_lock hH) ⟨a, od, kvs, rfl, upd_same, ?_⟩
      refine lc_body (Qh := fun v H' => H' a = some (.frz od (.dK kvs)) ∧ Qh v (upd H' a (.dK kvs))) gs ht he st' (dw.it _ _ a od kvs ds upd_same st'.see (hr.le (le_lock hd))) hn q fun p us W' H' es e hp hw h' r n q => ?_
      have hpa : p ≠ a := fun z => by rw [z, upd_same] at hp; cases hp
      rw [upd_ne hpa] at hp
      refine ⟨e.h _ _ upd_same, k p us _ _ es (ex_unlock hd hH e) hp (by rw [upd_ne hpa]; exact hw) (by rw [upd_ne hpa]; exact h') (r.le (le_unlock (e.w _ _ upd_same))) n q⟩
    · refine .inr (hst _ _ (lkh_refl H) ⟨a, od, kvs, rfl, st.see _ _ hd, ?_⟩)
      exact lc_body (Qh := Qh) gs ht he st (dw.it _ _ a od kvs ds hd st.see hr) hn q k
theorem dcw_to {gh : TG} {tt : TT} {td tk tv : TE} {σ : L2.St} {H : Hp} {Qh : VK} (hs : Stat K td F) (dw : DWalk K mk its) (gs : GSnd K gh g vs) (ht : ∀ σ H Q, tDB K E0 T σ H Q → tt σ H Q) (hkk : ∀ σ H Q, tD K E0 Fk σ H Q → tk σ H Q) (hv : ∀ σ H Q, tD K E0 Fv σ H Q → tv σ H Q)
    (h : tDD K E (fDc (fDw its F) g T Fk Fv vs) σ H Qh) : tLockE (tDc (iDw mk td) gh tt tk tv vs) σ H Qh ∨ tDc (iDw mk td) gh tt tk tv vs σ H Qh := by
  obtain ⟨W0, H0, W, ρ, Q, Z, st, f, k, x⟩ := h
  obtain ⟨v, d, r, ⟨ks, ds, z, hn, q⟩, hst⟩ := hs W0 H0 W ρ σ H _ Z st f
  subst z
  cases r with
  | @dic a kvs _ _ hd hk hr hl =>
    subst hk
    rcases hd with hd | ⟨od, hd⟩
    · have hH := st.see _ _ hd
      refine .inl ⟨a, .dK kvs, hH, trivial, fun od => ?_⟩
      obtain ⟨W0', H0', st'⟩ := st.lock (od := od) hd
      refine hst _ _ (lkh_lock hH) ⟨a, od, kvs, rfl, upd_same, ?_⟩
      refine dc_body (Qh := fun v H' => H' a = some (.frz od (.dK kvs)) ∧ Qh v (upd H' a (.dK kvs))) gs ht hkk hv st' (dw.it _ _ a od kvs ds upd_same st'.see (hr.le (le_lock hd))) hn q fun p us W' H' es e hp hw h' r n q => ?_
      have hpa : p ≠ a := fun z => by rw [z, upd_same] at hp; cases hp
      rw [upd_ne hpa] at hp
      refine ⟨e.h _ _ upd_same, k p us _ _ es (ex_unlock hd hH e) hp (by rw [upd_ne hpa]; exact hw) (by rw [upd_ne hpa]; exact h') (r.le (le_unlock (e.w _ _ upd_same))) n q⟩
    · refine .inr (hst _ _ (lkh_refl H) ⟨a, od, kvs, rfl, st.see _ _ hd, ?_⟩)
      exact dc_body (Qh := Qh) gs ht hkk hv st (dw.it _ _ a od kvs ds hd st.see hr) hn q k
theorem dc_to {wi : TI} {gh : TG} {tt : TT} {tk tv : TE} {σ : L2.St} {H : Hp} {Qh : VK} (hw : ∀ σ H R, tDI K E A σ H R → wi σ H R) (gs : GSnd K gh g vs) (ht : ∀ σ H Q, tDB K E0 T σ H Q → tt σ H Q) (hkk : ∀ σ H Q, tD K E0 Fk σ H Q → tk σ H Q) (hv : ∀ σ H Q, tD K E0 Fv σ H Q → tv σ H Q)
    (h : tDD K E (fDc A g T Fk Fv vs) σ H Qh) : tDc wi gh tt tk tv vs σ H Qh := by
  obtain ⟨W0, H0, W, ρ, Q, Z, st, f, k, x⟩ := h
  refine hw _ _ _ ⟨W0, H0, W, ρ, _, Z, st, f, fun J W1 H1 ds e1 it ⟨hn, q⟩ => ?_, x⟩
  exact dc_body (Qh := Qh) gs ht hkk hv (st.ext e1) it hn q fun p us W' H' es e hp hw h' r n q => k p us W' H' es (e1.trans e) (e1.h.free hp) hw h' r n q
end
theorem _root_.L2.PE.or {X : Cx} {e : Expr} {t u : TE} (h : PE X e t) (h2 : PE X e u) : PE X e (fun σ H Q => t σ H Q ∨ u σ H Q) := ⟨fun pins s σ H Q I q => by
  rcases q with q | q
  · exact h.run pins s σ H Q I q
  · exact h2.run pins s σ H Q I q⟩
section
variable {X : Cx} {K : PySem.W.Frag} {E : XK} {W0 H0 : Hp} {F G L Fk Fv : FE} {T U : FT} {A N : FA} {S S' : FS} {tg e a b o : Expr} {es : List Expr} {p pos apos : Pos} {i j k n : Nat} {x m f : Str} {C : Addr} {st : Stmt} {body : List Stmt} {g : FG} {gh : TG} {td : TE} {scope : Scope} {own : List (Str × Nat)} {ifs : List Expr} {elt iter kx vx : Expr}
  {mk : Addr → Obj → List (Key × V) → It} {its : List Key → List D → List D}
/-- [.. for .. in a dict's walk] -/
theorem d_lcw (hs : Stat K td F) (dw : DWalk K mk its) (gs : GSnd K gh g (own.map (·.2))) (hp : PE X (.ListComp elt [⟨tg, iter, ifs, 0⟩] scope pos) (tLc (iDw mk td) gh (tDB K E0 T) (tD K E0 G) (own.map (·.2)))) :
    PE X (.ListComp elt [⟨tg, iter, ifs, 0⟩] scope pos) (tDN K E (fLc (fDw its F) g T G (own.map (·.2)))) := (PE.or (pe_lock hp) hp).mono fun _ _ _ h => lcw_to hs dw gs (fun _ _ _ q => q) (fun _ _ _ q => q) h
theorem d_dcw (hs : Stat K td F) (dw : DWalk K mk its) (gs : GSnd K gh g (own.map (·.2))) (hp : PE X (.DictComp kx vx [⟨tg, iter, ifs, 0⟩] scope pos) (tDc (iDw mk td) gh (tDB K E0 T) (tD K E0 Fk) (tD K E0 Fv) (own.map (·.2)))) :
    PE X (.DictComp kx vx [⟨tg, iter, ifs, 0⟩] scope pos) (tDD K E (fDc (fDw its F) g T Fk Fv (own.map (·.2)))) := (PE.or (pe_lock hp) hp).mono fun _ _ _ h => dcw_to hs dw gs (fun _ _ _ q => q) (fun _ _ _ q => q) (fun _ _ _ q => q) h
theorem d_dc (gs : GSnd K gh g (own.map (·.2))) (hp : PE X (.DictComp kx vx [⟨tg, iter, ifs, 0⟩] scope pos) (tDc (tDI K E A) gh (tDB K E0 T) (tD K E0 Fk) (tD K E0 Fv) (own.map (·.2)))) :
    PE X (.DictComp kx vx [⟨tg, iter, ifs, 0⟩] scope pos) (tDD K E (fDc A g T Fk Fv (own.map (·.2)))) := hp.mono fun _ _ _ h => dc_to (fun _ _ _ q => q) gs (fun _ _ _ q => q) (fun _ _ _ q => q) (fun _ _ _ q => q) h
/-! ### displays -/
def tPs (K : PySem.W.Frag) (E : XK) : List (FE × FE) → List (TE × TE) := List.map fun p => (tD K E p.1, tD K E p.2)
def pairsF : List (FE × FE) → FP
  | [] => fun _ Q _ => Q []
  | (k, v) :: r => fun ρ Q Z => k ρ (fun x => v ρ (fun y => pairsF r ρ (fun ps => Q ((x, y) :: ps)) Z) Z) Z
theorem pairs_to {σ : L2.St} : ∀ {fs : List (FE × FE)} {H : Hp} {W0 H0 W : Hp} {ρ : Env} {Q : List (D × D) → Prop} {Z : ZX} {R : List (V × V) → Hp → Prop}, Sat K W0 H0 W ρ σ H → pairsF fs ρ Q Z → XC K E W H Z →
    (∀ vs W' H' ps, Ex W H W' H' → Paired (fun (p : V × V) (q : D × D) => Rep K W' p.1 q.1 ∧ Rep K W' p.2 q.2) vs ps → Q ps → R vs H') → tPairs (tPs K E fs) σ H R
  | [], H, W0, H0, W, ρ, Q, Z, R, st, f, x, k => k [] W H [] (Ex.refl st.see) .nil f
  | (a, b) :: fs, H, W0, H0, W, ρ, Q, Z, R, st, f, x, k => by
    refine ⟨W0, H0, W, ρ, _, Z, st, f, fun v W1 H1 d e1 r q => ?_, x⟩
    refine ⟨W0, H0, W1, ρ, _, Z, st.ext e1, q, fun v2 W2 H2 d2 e2 r2 q2 => ?_, x.ext e1⟩
    refine pairs_to (st.ext (e1.trans e2)) q2 (x.ext (e1.trans e2)) fun vs W3 H3 ps e3 rp q3 => k _ W3 H3 _ ((e1.trans e2).trans e3) (.cons ⟨r.gx (e2.trans e3).w, r2.gx e3.w⟩ rp) q3
def fDisp (fs : List (FE × FE)) : FDi := fun ρ Q Z => pairsF fs ρ (fun ps => ∃ kds, keysD ps = some kds ∧ ps.length ≤ 15 ∧ Q (mergeKs [] kds) (mergeDs [] [] kds)) Z
theorem keys_v {W : Hp} : ∀ {vs : List (V × V)} {ps : List (D × D)} {kds : List (Key × D)}, Paired (fun (p : V × V) (q : D × D) => Rep K W p.1 q.1 ∧ Rep K W p.2 q.2) vs ps → keysD ps = some kds →
    ∃ kvs : List (Key × V), vs = kvs.map (fun kv => (kV kv.1, kv.2)) ∧ kvs.length = ps.length ∧ Paired (fun (p : Key × V) (q : Key × D) => p.1 = q.1 ∧ Rep K W p.2 q.2) kvs kds
  | _, _, _, .nil, h => by cases h; exact ⟨[], rfl, rfl, .nil⟩
  | _, _, kds, .cons (a := v) (b := p) (l₁ := vs) (l₂ := ps) h t, hk => by
    simp only [keysD] at hk
    cases h1 : keyD p.1 with
    | none => rw [h1] at hk; cases hk
    | some kk =>
      cases h2 : keysD ps with
      | none => rw [h1, h2] at hk; cases hk
      | some r =>
        rw [h1, h2] at hk
        cases hk
        obtain ⟨kvs, g1, g2, g3⟩ := keys_v t h2
        refine ⟨(kk, v.2) :: kvs, ?_, by rw [List.length_cons, List.length_cons, g2], .cons ⟨rfl, h.2⟩ g3⟩
        rw [List.map_cons, ← g1]
        congr 1
        exact Prod.ext (key_v h.1 h1) rfl
theorem d_disp {keys : List (Option Expr)} {values : List Expr} {fs : List (FE × FE)} (h : PE X (.Dict keys values pos) (tDisp (tPs K E fs))) : PE X (.Dict keys values pos) (tDD K E (fDisp fs)) := h.mono fun σ H Qh ⟨W0, H0, W, ρ, Q, Z, st, f, k, x⟩ p hp => by
  have e0 := Ex.hid (o := .dK []) st.see hp
  refine pairs_to (st.ext e0) f (x.ext e0) fun vs W1 H1 ps e1 rp ⟨kds, hk, hl, q⟩ => ?_
  have hw : W1 p = none := by
    cases z : W1 p with
    | none => rfl
    | some o =>
      rcases e1.n _ _ z with z | z
      · rw [st.see.free hp] at z; cases z
      · rw [upd_same] at z; cases z
  obtain ⟨kvs, g1, g2, g3⟩ := keys_v rp hk
  obtain ⟨g4, g5⟩ := merge_v g3 (kvs := []) (ds := []) .nil
  refine ⟨e1.h _ _ upd_same, kvs, g1, by omega, k p _ W1 _ _ (Ex.mut (e0.trans e1) hp hw) hp hw upd_same g5 ?_ ?_⟩
  · have h1 := length_mergeK kvs []
    rw [List.length_nil] at h1
    rw [sizeLine_eq]; omega
  · rw [g4]
    exact q
end
end Pu

set_option Elab.async false
set_option maxRecDepth 100000
set_option linter.all false
/-! operators of own classes, by their methods -/
namespace Pu
open PySem PySem.Spec PyProof.Rows L2 Ly
section
variable {X : Cx} {K : PySem.W.Frag} {CX : CXT} {k : Nat} {C f : Addr} {fd : FuncData} {ps : List Str} {sp : Sp} {E : XK} {m : Str} {pins : List (Addr × Obj)} {σ : L2.St} {H : Hp} {s : Shared} {Q : VK}
/-- the other operand: an instance of the class, or a plain value -/
def YOk (C : Addr) (H : Hp) (y : V) : Prop := (∃ b dx fs, y = .ref b ∧ H b = some (.ins C dx fs)) ∨ flatV y = true
theorem sub4 (n : String) (hn : n ∈ ["NoneType", "bool", "int", "str"]) : PySem.W.subIn K (.type n) (.ref C) = some false := by
  simp only [List.mem_cons, List.not_mem_nil, or_false] at hn
  rcases hn with rfl | rfl | rfl | rfl
  · show (fastBuiltinMro "NoneType").map (fun l => l.contains (Value.ref C)) = some false
    rw [show fastBuiltinMro "NoneType" = some [.type "NoneType", .type "object"] by decide +kernel]
    simp
  · show (fastBuiltinMro "bool").map (fun l => l.contains (Value.ref C)) = some false
    rw [show fastBuiltinMro "bool" = some [.type "bool", .type "int", .type "object"] by decide +kernel]
    simp
  · show (fastBuiltinMro "int").map (fun l => l.contains (Value.ref C)) = some false
    rw [show fastBuiltinMro "int" = some [.type "int", .type "object"] by decide +kernel]
    simp
  · show (fastBuiltinMro "str").map (fun l => l.contains (Value.ref C)) = some false
    rw [show fastBuiltinMro "str" = some [.type "str", .type "object"] by decide +kernel]
    simp
theorem y_looks {M : Model} {y : V} {u : Value} (I : Inv X pins σ H s) (ry : RelV y u) (h : YOk C H y) : ∃ tb, PySem.W.Looks M s.heap (typeOf u) tb ∧ PySem.W.notFirst X.K C tb = true := by
  rcases h with ⟨b, dx, fs, rfl, hb⟩ | h
  · cases ry
    obtain ⟨mB, J, _⟩ := ins_get I.hok hb
    obtain ⟨od, J, _⟩ := J.look
    exact ⟨.ref C, J.type, by simp [PySem.W.notFirst]⟩
  · have key : ∀ n, n ∈ ["NoneType", "bool", "int", "str"] → (∀ s' : Shared, s'.TypeIs u n) → ∃ tb, PySem.W.Looks M s.heap (typeOf u) tb ∧ PySem.W.notFirst X.K C tb = true := fun n hn ht =>
      ⟨.type n, fun A Q E s' _ q => wpAny_typeOf (ht s') q, by unfold PySem.W.notFirst; rw [sub4 n hn]; simp⟩
    cases y with
    | non => cases ry; exact key "NoneType" (by decide) fun _ => rfl
    | bl b => cases ry; exact key "bool" (by decide) fun _ => rfl
    | int i => obtain ⟨t, rfl⟩ := ry; exact key "int" (by decide) fun _ => rfl
    | str i => obtain ⟨t, rfl⟩ := ry; exact key "str" (by decide) fun _ => rfl
    | _ => cases h
/-- what an own method of two is asked for -/
def rMet (C : Addr) (sp : Sp) (E : XK) (g : VK → VK) : R2 := fun x y H Q => ∃ a dx fs, x = .ref a ∧ H a = some (.ins C dx fs) ∧ YOk C H y ∧ sp [x, y] H (g Q) E
/-- a truth value, as it is or turned -/
def blQ (neg : Bool) (Q : VK) : VK := fun v H' => ∃ b, v = .bl b ∧ Q (.bl (neg != b)) H'
theorem op_eqO (M : CalM X.prog X.w X.K X.mg X.base CX C "__eq__" k ps sp) (hr : Room k X.A) (hx : Passes CX X E) : OpR X (compareOp .Eq) (rMet C sp E (blQ false)) := fun pins s σ H x y v u Q I rx ry ⟨a, dx, fs, z, ha, hy, q⟩ => by
  subst z
  cases rx
  obtain ⟨f, fd, hm, hf, F, hb⟩ := M.ex
  obtain ⟨mA, J, _⟩ := ins_get I.hok ha
  obtain ⟨od, J, _⟩ := J.look
  obtain ⟨m, hF⟩ := I.fr
  obtain ⟨tb, h1, h2⟩ := y_looks (M := model X.prog X.w) I ry hy
  show wpAny _ _ (richCompare .Eq _ _) _ _ _
  refine PySem.W.cmp_K (op := .Eq) (tb := tb) hr.units0 hF I.ok.mod.kin J h1 h2 hm.at_ hm.fn ?_
  refine thn (run_at (vs := [.ref a, y]) rfl F hr hb hx I (.cons rfl (.cons ry .nil)) q) fun w s' ⟨z, H', I', rz, b, hz, q'⟩ => ?_
  subst hz
  cases rz
  rw [Bool.false_bne] at q'
  exact ⟨.bl b, H', I', rfl, q'⟩
/-! #### != by == -/
variable {prog : Program} {w : World} {A : Around} {ox : Obj} {od : Option Obj} {a : Addr} {h₀ : Heap} {L : Addr} {mm : Str → Option Value}
theorem bound_ne {args : List Value} {R : Option Value → Shared → Prop} {E' : Value → Shared → Prop} {M : Model} (hK : K.In s.heap) (J : PySem.W.InstAt s.heap a ox C od) (hs : PySem.W.findIn K (.ref C) "__ne__" = some (some (.builtin "object.__ne__")))
    (go : wpAny M A (call (.builtin "object.__ne__") (.ref a :: args)) (fun v => R (some v)) E' s) : wpAny M A (callSpecialIfBound? (.ref a) "__ne__" args) R E' s := by
  have end_ : wpAny M A (call (.builtin "object.__ne__") ([Value.ref a] ++ args) >>= fun v => pure (some v)) R E' s := wpAny_bind (wpAny_mono go (fun _ _ z => wpAny_pure z) fun _ _ z => z)
  simp only [callSpecialIfBound?, bindSpecialIfBound?]
  refine wpAny_holding (wpAny_bind (wpAny_bind (wpAny_bind (J.type.here ((PySem.W.looks_findIn hK hs).here (wpAny_bind (wpAny_askSetting (wpAny_ite ?_))))))))
  split
  · refine wpAny_bind (wpAny_of_eq (F.cmp_object.ne.bind _) (wpAny_pure ?_))
    exact end_
  · refine wpAny_tryCatch (wpAny_bind (wpAny_of_eq (F.cmp_object.ne.bind _) (wpAny_pure ?_)))
    exact end_
theorem entry_ne {v : Value} {R : Fin → Shared → Prop} {E' : Value → Shared → Prop} (hu : A.units < cLine) (hK : K.In s.heap) (J : PySem.W.InstAt s.heap a ox C od) (he : PySem.W.findIn K (.ref C) "__eq__" = some (some (.ref f))) (hf : PySem.W.isFn K (.ref f) = true)
    (go : wpAny (model prog w) A (call (.ref f) [.ref a, v]) (fun r s' => ∃ b, r = .bool b ∧ R (.done (.ret (.bool (!b)))) s') E' s) : wpAny (model prog w) A (Builtin.«object.__ne__» ⟨[.ref a, v], []⟩) R E' s := by
  unfold Builtin.«object.__ne__»
  repeat (first
    | with_reducible refine wpAny_cRoomFor hu ?_
    | (refine wpAny_bind (m := callSpecialIfBound? (.ref a) (Str.ofString "__eq__") [v]) (PySem.W.ifBound_K hK J he hf (wpAny_mono go (fun r s' z => by
        obtain ⟨b, z1, z2⟩ := z
        subst z1
        repeat (first | exact z2 | exact wpAny_pure z2 | exact wpAny_truthy_bool z2 | (refine wpAny_bind (m := truthy (.bool _)) (wpAny_truthy_bool ?_)) | wp_step)) fun _ _ z => z)))
    | wp_step)
theorem rich_ne {v tb : Value} {R : Value → Shared → Prop} {E' : Value → Shared → Prop} (hu : A.units + 1 < cLine) (hK : K.In s.heap) (J : PySem.W.InstAt s.heap a ox C od) (hl : PySem.W.Looks (model prog w) s.heap (typeOf v) tb) (hn : PySem.W.notFirst K C tb = true)
    (ho : PySem.W.mroIn K C (.type "object") = some true) (hs : PySem.W.findIn K (.ref C) "__ne__" = some (some (.builtin "object.__ne__"))) (he : PySem.W.findIn K (.ref C) "__eq__" = some (some (.ref f))) (hf : PySem.W.isFn K (.ref f) = true)
    (go : wpAny (model prog w) A.in1 (call (.ref f) [.ref a, v]) (fun r s' => ∃ b, r = .bool b ∧ R (.bool (!b)) s') E' s) : wpAny (model prog w) A (richCompare .NotEq (.ref a) v) R E' s := by
  have first_ : wpAny (model prog w) A (tryCompare (.ref a) "__ne__" v) (fun r s' => ∃ x, r = some x ∧ R x s') E' s := by
    unfold tryCompare
    refine wpAny_bind (bound_ne hK J hs (wpAny_call (codeAny_call_builtin F.cmp_object.ne.plain F.cmpEntry_ne (PySem.W.check_slot F.cmpKind_ne F.cmpSplit_ne (J.type.andThen (PySem.W.looks_mroIn hK ho)) (F.cmpArgs_ne _ _) ?_))))
    refine entry_ne (A := A.in1) hu hK J he hf (wpAny_mono go (fun r s' ⟨b, z1, z2⟩ => ⟨b, z1, ?_⟩) fun _ _ z => z)
    exact wpAny_pure ⟨_, rfl, z2⟩
  simp only [richCompare, cmpInfo_NotEq, oneThing_ref]
  refine wpAny_holding (wpAny_bind (wpAny_cRoomFor (Nat.lt_of_succ_lt hu) (wpAny_bind (J.type.here (wpAny_bind (hl.here ?_))))))
  split
  · rename_i hq
    have hsub : PySem.W.subIn K tb (.ref C) = some false := by
      unfold PySem.W.notFirst at hn
      rw [Bool.or_eq_true, beq_iff_eq, beq_iff_eq] at hn
      rcases hn with z | z
      · rw [z] at hq
        simp at hq
      · exact z
    refine wpAny_bind ((PySem.W.looks_subIn hK hsub).here ?_)
    simp only [Bool.false_eq_true, if_false]
    refine wpAny_bind (wpAny_mono first_ (fun r s' ⟨x, z1, z2⟩ => ?_) fun _ _ z => z)
    subst z1
    exact wpAny_pure z2
  · refine wpAny_bind (wpAny_pure ?_)
    simp only [Bool.false_eq_true, if_false]
    refine wpAny_bind (wpAny_mono first_ (fun r s' ⟨x, z1, z2⟩ => ?_) fun _ _ z => z)
    subst z1
    exact wpAny_pure z2
theorem op_neO (M : CalM X.prog X.w X.K X.mg X.base CX C "__eq__" k ps sp) (ho : PySem.W.mroIn X.K C (.type "object") = some true) (hs : PySem.W.findIn X.K (.ref C) "__ne__" = some (some (.builtin "object.__ne__"))) (hr : Room (k + 1) X.A) (hx : Passes CX X E) : OpR X (compareOp .NotEq) (rMet C sp E (blQ true)) := fun pins s σ H x y v u Q I rx ry ⟨a, dx, fs, z, ha, hy, q⟩ => by
  subst z
  cases rx
  obtain ⟨f, fd, hm, hf, F, hb⟩ := M.ex
  obtain ⟨mA, J, _⟩ := ins_get I.hok ha
  obtain ⟨od, J, _⟩ := J.look
  obtain ⟨tb, h1, h2⟩ := y_looks (M := model X.prog X.w) I ry hy
  show wpAny _ _ (richCompare .NotEq _ _) _ _ _
  refine rich_ne (hr1 hr) I.kIn J h1 h2 ho hs hm.at_ hm.fn ?_
  refine thn (run_at (vs := [.ref a, y]) rfl F hr.in1 hb hx I (.cons rfl (.cons ry .nil)) q) fun w s' ⟨z, H', I', rz, b, hz, q'⟩ => ?_
  subst hz
  cases rz
  rw [Bool.true_bne] at q'
  exact ⟨b, rfl, .bl (!b), H', I', rfl, q'⟩
/-! #### x in o -/
def rInO (C : Addr) (sp : Sp) (E : XK) (neg : Bool) : R2 := fun y x H Q => ∃ a dx fs, x = .ref a ∧ H a = some (.ins C dx fs) ∧ sp [x, y] H (blQ neg Q) E
theorem op_inO (M : CalM X.prog X.w X.K X.mg X.base CX C "__contains__" k ps sp) (hr : Room k X.A) (hx : Passes CX X E) : OpR X (compareOp .In) (rInO C sp E false) := fun pins s σ H y x u v Q I ry rx ⟨a, dx, fs, z, ha, q⟩ => by
  subst z
  cases rx
  obtain ⟨f, fd, hm, hf, F, hb⟩ := M.ex
  obtain ⟨mA, J, _⟩ := ins_get I.hok ha
  obtain ⟨od, J, _⟩ := J.look
  obtain ⟨m, hF⟩ := I.fr
  refine PySem.W.in_K hF I.ok.mod.kin J hm.at_ hm.fn ?_
  refine thn (run_at (vs := [.ref a, y]) rfl F hr hb hx I (.cons rfl (.cons ry .nil)) q) fun w s' ⟨z, H', I', rz, b, hz, q'⟩ => ?_
  subst hz
  cases rz
  rw [Bool.false_bne] at q'
  exact wpAny_truthy_bool ⟨.bl b, H', I', rfl, q'⟩
theorem op_notInO (M : CalM X.prog X.w X.K X.mg X.base CX C "__contains__" k ps sp) (hr : Room k X.A) (hx : Passes CX X E) : OpR X (compareOp .NotIn) (rInO C sp E true) := fun pins s σ H y x u v Q I ry rx ⟨a, dx, fs, z, ha, q⟩ => by
  subst z
  cases rx
  obtain ⟨f, fd, hm, hf, F, hb⟩ := M.ex
  obtain ⟨mA, J, _⟩ := ins_get I.hok ha
  obtain ⟨od, J, _⟩ := J.look
  obtain ⟨m, hF⟩ := I.fr
  refine PySem.W.notIn_K hF I.ok.mod.kin J hm.at_ hm.fn ?_
  refine thn (run_at (vs := [.ref a, y]) rfl F hr hb hx I (.cons rfl (.cons ry .nil)) q) fun w s' ⟨z, H', I', rz, b, hz, q'⟩ => ?_
  subst hz
  cases rz
  rw [Bool.true_bne] at q'
  exact wpAny_truthy_bool ⟨.bl (!b), H', I', rfl, q'⟩
/-! #### a op b of two instances -/
def rBin (C : Addr) (sp : Sp) (E : XK) : R2 := fun x y H Q => ∃ a b dx dy fs gs, x = .ref a ∧ y = .ref b ∧ H a = some (.ins C dx fs) ∧ H b = some (.ins C dy gs) ∧ sp [x, y] H Q E
theorem op_binO {op : Operator} (M : CalM X.prog X.w X.K X.mg X.base CX C (PySem.dunder op.info.2) k ps sp) (hc : PySem.W.selfFirst X.K C = true) (hr : Room k X.A) (hx : Passes CX X E) : OpR X (binaryOp op) (rBin C sp E) := fun pins s σ H x y v u Q I rx ry ⟨a, b, dx, dy, fs, gs, z, z2, ha, hb', q⟩ => by
  subst z
  subst z2
  cases rx
  cases ry
  obtain ⟨f, fd, hm, hf, F, hb⟩ := M.ex
  obtain ⟨mA, J, _⟩ := ins_get I.hok ha
  obtain ⟨od, J, _⟩ := J.look
  obtain ⟨mB, J2, _⟩ := ins_get I.hok hb'
  obtain ⟨od2, J2, _⟩ := J2.look
  obtain ⟨m, hF⟩ := I.fr
  refine PySem.W.binop_K hF I.ok.mod.kin J J2.type hc hm.at_ hm.fn ?_
  refine thn (run_at (vs := [.ref a, .ref b]) rfl F hr hb hx I (.cons rfl (.cons rfl .nil)) q) fun w s' ⟨z, H', I', rz, q'⟩ => ?_
  have fin : EP X pins σ Q w s' := ⟨z, H', I', rz, q'⟩
  cases w <;> first
    | exact fin
    | (exfalso; cases z <;> first | (cases rz; done) | (obtain ⟨_, rz⟩ := rz; cases rz; done))
end
end Pu

set_option Elab.async false
set_option maxRecDepth 100000
set_option linter.all false
/-! Pure layer: a, b = [], y (the list is an own one). -/
namespace Pu
open PySem PySem.Spec PyProof.Rows L2 Ly
section
variable {X : Cx} {K : PySem.W.Frag} {E : XK} {W0 H0 : Hp} {F : FE} {st : Stmt} {i j : Nat}
def sParL (i j : Nat) (F : FE) : FS := fun ρ De => F ρ (fun d => De.nx ((ρ.set i (.lst [])).set j (.val d))) De.ex
theorem d_parL (h : PS X st (tPar i j (tCons (tLst tNil) (tCons (tD K E F) tNil)))) : PS X st (tDS K W0 H0 E (sParL i j F)) := h.mono fun D σ H ⟨W, ρ, De, s, q, o⟩ =>
  ⟨by decide, fun p hp => by
    have e0 : Ex W H W (upd H p (.lst [])) := Ex.hid s.see hp
    refine ⟨W0, H0, W, ρ, _, _, s.ext e0, q, fun v W' H' d e r z => ?_, (o.xc s).ext e0⟩
    have hw : W' p = none := by
      cases c : W' p with
      | none => rfl
      | some u =>
        rcases e.n p u c with z | z
        · have z := s.see _ _ z
          rw [hp] at z
          cases z
        · rw [upd_same] at z
          cases z
    exact ⟨_, _, rfl, o.nx W' _ _ H' (e0.trans e).w ((s.put (i := i) (b := .lst []) (e0.trans e) hp ⟨p, [], rfl, rfl, hw, s.ex.h.free hp, e.h _ _ upd_same, .nil, by decide⟩).set (i := j) r) z⟩⟩
end
end Pu

set_option Elab.async false
set_option maxRecDepth 100000
set_option linter.all false
/-! Pure layer: list(d), sorted(..), dict(..). -/
namespace Pu
open PySem PySem.Spec PyProof.Rows L2 Ly
section
variable {X : Cx} {K : PySem.W.Frag} {E : XK} {W0 H0 : Hp} {A : FA} {e : Expr} {es : List Expr} {x : Str} {p pos : Pos} {Tn : String} {r : List V → Hp → VK → Prop}
theorem strs_w {W : Hp} : ∀ {vs : List V} {zs : List Str}, RepAll K W vs (zs.map D.str) → vs = zs.map V.str
  | [], [], _ => rfl
  | v :: vs, z :: zs, .cons r rs => by
    cases r
    rw [strs_w rs]
    rfl
  | [], z :: zs, h => by cases h
  | v :: vs, [], h => by cases h
theorem v_strs {W : Hp} : ∀ zs : List Str, RepAll K W (zs.map V.str) (zs.map D.str)
  | [] => .nil
  | z :: zs => .cons (.str z) (v_strs zs)
theorem v_keys {W : Hp} : ∀ kvs : List (Key × V), RepAll K W (kvs.map fun kv => kV kv.1) ((kvs.map Prod.fst).map kD)
  | [] => .nil
  | q :: kvs => .cons (rep_kV q.1) (v_keys kvs)
/-- list(d) -/
def rListDr : List V → Hp → VK → Prop := fun xs H Q => ∃ (a : Addr) (kvs : List (Key × V)), xs = [.ref a] ∧ Rd H a (.dK kvs) ∧ ∀ p, H p = none → Q (.ref p) (upd H p (.lst (kvs.map fun kv => kV kv.1)))
theorem c_listD (hc : X.calm = true) : CallR X (.type "list") rListDr := call_listD hc
def RListD (ds : List D) (Q : List D → Prop) : Prop := ∃ ks es, ds = [.dic ks es] ∧ Q (ks.map kD)
theorem s_listD : CSndN K rListDr RListD := fun W H xs ds Q Qh s rr ⟨ks, es, z, q⟩ k => by
  subst z
  obtain ⟨v, rfl, r⟩ := ts1 rr
  obtain ⟨a, kvs, rfl, h2, rfl, h4, h5⟩ := r.dic_inv s
  exact ⟨a, kvs, rfl, h2, fun l hl => k l _ W _ _ (Ex.hid s hl) hl (s.free hl) upd_same (v_keys kvs) (by rw [List.length_map]; exact h5) q⟩
/-- sorted(texts), sorted(d) -/
def RSortS (ds : List D) (Q : List D → Prop) : Prop := ∃ zs : List Str, ds = [.lst (zs.map .str)] ∧ zs.length < 64 ∧ ∀ ys : List Str, ys.Perm zs → sortedS ys = true → Q (ys.map .str)
theorem s_sortS : CSndN K (rSortedS K) RSortS := fun W H xs ds Q Qh s rr ⟨zs, z, hl, q⟩ k => by
  subst z
  obtain ⟨v, rfl, r⟩ := ts1 rr
  obtain ⟨a, vs, rfl, h2, h3, h4⟩ := r.lst_inv s
  rw [strs_w h3] at h2
  exact ⟨a, zs, rfl, SqL.of h2, hl, fun ys l hp hs hn => k l _ W _ _ (Ex.hid s hn) hn (s.free hn) upd_same (v_strs ys) (by rw [List.length_map, hp.length_eq, sizeLine_eq]; omega) (q ys hp hs)⟩
def RSortD (ds : List D) (Q : List D → Prop) : Prop := ∃ (zs : List Str) (es : List D), ds = [.dic (zs.map Sum.inr) es] ∧ zs.length < 64 ∧ ∀ ys : List Str, ys.Perm zs → sortedS ys = true → Q (ys.map .str)
theorem s_sortD : CSndN K TM.rSortedDk RSortD := fun W H xs ds Q Qh s rr ⟨zs, es, z, hl, q⟩ k => by
  subst z
  obtain ⟨v, rfl, r⟩ := ts1 rr
  obtain ⟨a, kvs, rfl, h2, h3, h4, h5⟩ := r.dic_inv s
  exact ⟨a, kvs, zs, rfl, h2, h3, hl, fun ys l hp hs hn => k l _ W _ _ (Ex.hid s hn) hn (s.free hn) upd_same (v_strs ys) (by rw [List.length_map, hp.length_eq, sizeLine_eq]; omega) (q ys hp hs)⟩
/-- dict(..) -/
def CSndD (K : PySem.W.Frag) (r : List V → Hp → VK → Prop) (R : List D → (List Key → List D → Prop) → Prop) : Prop := ∀ W H xs ds Q Qh, Gx W H → RepTs K W H xs ds → R ds Q →
  (∀ p kvs W' H' ds, Ex W H W' H' → H p = none → W' p = none → H' p = some (.dK kvs) → RepAll K W' (kvs.map Prod.snd) ds → kvs.length ≤ sizeLine → Q (kvs.map Prod.fst) ds → Qh (.ref p) H') → r xs H Qh
def fCBD (R : List D → (List Key → List D → Prop) → Prop) (A : FA) : FDi := fun ρ Q Z => A ρ (fun ds => R ds Q) Z
variable {RD : List D → (List Key → List D → Prop) → Prop}
theorem cbd_to (hR : CSndD K r RD) {σ : L2.St} {H : Hp} {Qh : VK} (h : tDD K E (fCBD RD A) σ H Qh) : tCB r (tDAT K E A) σ H Qh := by
  obtain ⟨W0, H0, W, ρ, Q, Z, st, f, k, x⟩ := h
  exact ⟨W0, H0, W, ρ, _, Z, st, f, fun vs W1 H1 ds e1 r1 q => hR W1 H1 vs ds Q Qh e1.s r1 q fun p vs W2 H2 ds e2 hp hw h' r2 n q2 => k p vs W2 H2 ds (e1.trans e2) (e1.h.free hp) hw h' r2 n q2, x⟩
theorem d_ctD (hc : CallR X (.type Tn) r) (hR : CSndD K r RD) (hg : Gl X x) (hm : X.mg x = none) (hv : bootBuiltins x = some (.type Tn)) (ha : PA X (e :: es) (tDAT K E A)) (hn : x ≠ "__name__" := by decide) (hdb : (x == ("__debug__" : Str)) = false := by decide)
    (hs : starEach (e :: es) X.env = (false, eval e X.env) :: starEach es X.env := by rfl) (hpl : (backTo pos (starEach es X.env)).any (·.1) = false := by rfl) : PE X (.Call (.Name x p) (e :: es) [] pos) (tDD K E (fCBD RD A)) :=
  (pe_callTy hc hg hm hv ha hn hdb hs hpl).mono fun _ _ _ h => cbd_to hR h
def rDictDr : List V → Hp → VK → Prop := fun xs H Q => ∃ (a : Addr) (kvs : List (Key × V)), xs = [.ref a] ∧ Rd H a (.dK kvs) ∧ ∀ p, H p = none → Q (.ref p) (upd H p (.dK kvs))
theorem c_dictD : CallR X (.type "dict") rDictDr := call_dictD
def RDictD (ds : List D) (Q : List Key → List D → Prop) : Prop := ∃ ks es, ds = [.dic ks es] ∧ Q ks es
theorem s_dictD : CSndD K rDictDr RDictD := fun W H xs ds Q Qh s rr ⟨ks, es, z, q⟩ k => by
  subst z
  obtain ⟨v, rfl, r⟩ := ts1 rr
  obtain ⟨a, kvs, rfl, h2, rfl, h4, h5⟩ := r.dic_inv s
  exact ⟨a, kvs, rfl, h2, fun l hl => k l _ W _ _ (Ex.hid s hl) hl (s.free hl) upd_same h4 h5 q⟩
def rDictPr (K : PySem.W.Frag) : List V → Hp → VK → Prop := fun xs H Q => ∃ (a : Addr) (ps : List Addr) (kvs : List (Key × V)), xs = [.ref a] ∧ SqL K H a (ps.map V.ref) ∧ Paired (fun p kv => SqT K H p [kV kv.1, kv.2]) ps kvs ∧ ∀ p, H p = none → Q (.ref p) (upd H p (.dK (mergeK [] kvs)))
theorem c_dictP (hc : X.calm = true) (hK : X.K = K := by rfl) : CallR X (.type "dict") (rDictPr K) := by subst hK; exact call_dictP hc
def RDictP (ds : List D) (Q : List Key → List D → Prop) : Prop := ∃ (ps : List (D × D)) (kds : List (Key × D)), ds = [.lst (ps.map fun q => .tup [q.1, q.2])] ∧ keysD ps = some kds ∧ Q (mergeKs [] kds) (mergeDs [] [] kds)
theorem pairs_in {W : Hp} : ∀ {vs : List V} {ps : List (D × D)} {kds : List (Key × D)}, RepAll K W vs (ps.map fun q => D.tup [q.1, q.2]) → keysD ps = some kds → ∃ (as : List Addr) (kvs : List (Key × V)), vs = as.map V.ref ∧ Paired (fun p kv => SqT K W p [kV kv.1, kv.2]) as kvs ∧ Paired (fun (p : Key × V) (q : Key × D) => p.1 = q.1 ∧ Rep K W p.2 q.2) kvs kds ∧ kvs.length = ps.length
  | [], [], kds, _, h => by
    cases h
    exact ⟨[], [], rfl, .nil, .nil, rfl⟩
  | v :: vs, q :: ps, kds, .cons r rs, h => by
    simp only [keysD] at h
    cases h1 : keyD q.1 with
    | none => rw [h1] at h; cases h
    | some kk =>
      cases h2 : keysD ps with
      | none => rw [h1, h2] at h; cases h
      | some l =>
        rw [h1, h2] at h
        cases h
        obtain ⟨as, kvs, g1, g2, g3, g4⟩ := pairs_in rs h2
        cases r with
        | @tup a us _ hs hr hn =>
          cases hr with
          | cons ra hr =>
            cases hr with
            | cons rb hr =>
              cases hr
              have := key_v ra h1
              subst this
              refine ⟨a :: as, (kk, _) :: kvs, by rw [g1]; rfl, .cons hs g2, .cons ⟨rfl, rb⟩ g3, by rw [List.length_cons, List.length_cons, g4]⟩
  | [], q :: ps, kds, h, _ => by cases h
  | v :: vs, [], kds, h, _ => by cases h
theorem s_dictP : CSndD K (rDictPr K) RDictP := fun W H xs ds Q Qh s rr ⟨ps, kds, z, hk, q⟩ k => by
  subst z
  obtain ⟨v, rfl, r⟩ := ts1 rr
  obtain ⟨a, vs, rfl, h2, h3, h4⟩ := r.lst_inv s
  obtain ⟨as, kvs, g1, g2, g3, g4⟩ := pairs_in h3 hk
  obtain ⟨g5, g6⟩ := merge_v g3 (kvs := []) (ds := []) .nil
  rw [g1] at h2 h4
  have hp : Paired (fun p kv => SqT K H p [kV kv.1, kv.2]) as kvs := Paired.mapP g2 fun _ _ z => s.t z
  refine ⟨a, as, kvs, rfl, SqL.of h2, hp, fun l hl => k l _ W _ _ (Ex.hid s hl) hl (s.free hl) upd_same g6 ?_ ?_⟩
  · have h1 := length_mergeK kvs []
    have h6 := Paired.length g2
    rw [List.length_nil] at h1
    rw [List.length_map] at h4
    omega
  · rw [g5]
    exact q
end
end Pu

set_option Elab.async false
set_option maxRecDepth 100000
set_option linter.all false
/-! Pure layer: the dice. -/
namespace Pu
open PySem PySem.Spec PyProof.Rows L2 Ly
section
variable {P : Program} {w : World} {K : PySem.W.Frag} {mg : Str → Option Value} {base : Heap} {k : Nat} {f : Addr} {fd : FuncData} {ps : List Str}
def FRoll : Fn := fun ds Q _ => ∃ t : Int, ds = [.dice, .int t] ∧ 0 < t ∧ t < 1073741824 ∧ ∀ r, 0 ≤ r → r < t → Q (.int r)
def FPick : Fn := fun ds Q _ => ∃ xs : List D, ds = [.dice, .lst xs] ∧ 0 < xs.length ∧ xs.length < 1073741824 ∧ ∀ x ∈ xs, Q x
def FDice : Fn := fun ds Q _ => ∃ (ns : List Int) (n : Nat), ds = [.lsk (ns.map .int), .int (n : Int)] ∧ Q .dice
theorem dice_v {W : Hp} {v : V} (h : Rep K W v .dice) : ∃ a, v = .ref a ∧ W a = some (diceO a) := by
  cases h with
  | dice h => exact ⟨_, rfl, h⟩
theorem all_get {W : Hp} : ∀ {vs : List V} {ds : List D}, RepAll K W vs ds → ∀ (j : Nat) (v : V), vs[j]? = some v → ∃ d, d ∈ ds ∧ Rep K W v d
  | [], _, _, j, v, h => by simp at h
  | u :: vs, _, .cons r rs, 0, v, h => by
    cases h
    exact ⟨_, List.mem_cons_self .., r⟩
  | u :: vs, _, .cons r rs, j + 1, v, h => by
    obtain ⟨d, h1, h2⟩ := all_get rs j v (by simpa using h)
    exact ⟨d, List.mem_cons_of_mem _ h1, h2⟩
theorem all_len {W : Hp} : ∀ {vs : List V} {ds : List D}, RepAll K W vs ds → vs.length = ds.length
  | _, _, .nil => rfl
  | _, _, .cons r rs => by rw [List.length_cons, List.length_cons, all_len rs]
theorem fn_roll (F : FnOk P w K mg base CX0 k f fd ps spRoll) : FnOk P w K mg base (L2.CX P w) k f fd ps (spD K 2 FRoll) := (fn_cx F).imp fun vs H Qh E ⟨W, ds, Q, Z, s, r, hl, ⟨t, z, h1, h2, q⟩, kk, _⟩ => by
  subst z
  cases r with
  | cons r1 r =>
    cases r with
    | cons r2 r =>
      cases r
      cases r2
      obtain ⟨a, rfl, ha⟩ := dice_v r1
      exact ⟨a, t, rfl, h1, h2, s _ _ ha, fun r g1 g2 => kk _ W H _ (Ex.refl s) (.int r) (q r g1 g2)⟩
theorem fn_pick (F : FnOk P w K mg base CX0 k f fd ps (spPick K)) : FnOk P w K mg base (L2.CX P w) k f fd ps (spD K 2 FPick) := (fn_cx F).imp fun vs H Qh E ⟨W, ds, Q, Z, s, r, hl, ⟨xs, z, h1, h2, q⟩, kk, _⟩ => by
  subst z
  cases r with
  | cons r1 r =>
    cases r with
    | cons r2 r =>
      cases r
      obtain ⟨a, rfl, ha⟩ := dice_v r1
      cases r2 with
      | @lst b us _ g1 g2 g3 =>
        have hlen := all_len g2
        exact ⟨a, b, us, rfl, s _ _ ha, SqL.of (s _ _ g1), by omega, by omega, fun j x hx => by
          obtain ⟨d, e1, e2⟩ := all_get g2 j x hx
          exact kk _ W H _ (Ex.refl s) e2 (q d e1)⟩
theorem ints_w {W : Hp} : ∀ {vs : List V} {ns : List Int}, RepAll K W vs (ns.map D.int) → vs = ns.map V.int
  | [], [], _ => rfl
  | v :: vs, z :: zs, .cons r rs => by
    cases r
    rw [ints_w rs]
    rfl
  | [], z :: zs, h => by cases h
  | v :: vs, [], h => by cases h
theorem v_ints {W : Hp} : ∀ ns : List Int, RepAll K W (ns.map V.int) (ns.map D.int)
  | [] => .nil
  | z :: zs => .cons (.int z) (v_ints zs)
theorem fn_diceD (F : FnOk P w K mg base CX0 k f fd ps (spDice K)) : FnOk P w K mg base (L2.CX P w) k f fd ps (spD K 2 FDice) := (fn_cx F).imp fun vs H Qh E ⟨W, ds, Q, Z, s, r, hl, ⟨ns, n, z, q⟩, kk, _⟩ => by
  subst z
  cases r with
  | cons r1 r =>
    cases r with
    | cons r2 r =>
      cases r
      cases r2
      cases r1 with
      | @lsk a us _ h1 h2 h3 =>
        rw [ints_w h2] at h1
        exact ⟨a, ns, n, rfl, s.l h1, fun p hp => kk _ _ _ _ (Ex.new s hp) (.dice upd_same) q⟩
/-- what raises nothing -/
theorem fn_cx0 {sp sp' : Sp} (F : FnOk P w K mg base (L2.CX P w) k f fd ps sp) (h : ∀ vs H Q E, sp' vs H Q E → sp vs H Q fun _ _ _ => False) : FnOk P w K mg base CX0 k f fd ps sp' :=
  ⟨fun vs H Q E q => F.len vs H Q _ (h _ _ _ _ q), fun A outer s H args us vs Q E hr he hb hv hs => codeAny_mono (F.run A outer s H args us vs Q _ hr he hb hv (h _ _ _ _ hs)) fun r s' z => by
    cases r with
    | error e =>
      obtain ⟨_, _, _, _, _, _, _, _, _, _, _, _, hE⟩ := z
      exact hE.elim
    | ok fl => cases fl <;> exact z⟩
end
end Pu

set_option Elab.async false
set_option maxRecDepth 100000
set_option linter.all false
/-! Pure layer: try with several clauses, some of them with a name. -/
namespace Pu
open PySem PySem.Spec PyProof.Rows L2 Ly
/-- one clause: its class, the slot of its name, its suite -/
structure Cl where
  c : Value
  nm : Option Nat
  ts : Addr → Value → Option Addr → TS
def shut (D : Ends) : Option Nat → Ends
  | none => D
  | some i => { nx := fun σ H => D.nx (σ.set i none) H, rt := D.rt, bk := fun σ H => D.bk (σ.set i none) H, ct := fun σ H => D.ct (σ.set i none) H }
def put1 (a : Addr) : Option Nat → L2.St → L2.St
  | none, σ => σ
  | some i, σ => σ.set i (some (.ref a))
def wCls (K : PySem.W.Frag) (Wo : WX) (D : Ends) : List Cl → WX
  | [] => Wo
  | q :: r => fun cls d σ H => ∃ b, PySem.W.exmOne K cls q.c = some b ∧ (b = true → ∀ a, H a = none → q.ts a cls d (shut D q.nm) (put1 a q.nm σ) H) ∧ (b = false → wCls K Wo D r cls d σ H)
def NmOk (X : Cx) : Option Str → Option Nat → Prop
  | none, none => True
  | some n, some i => X.N[i]? = some n ∧ X.env.kindOf n = some .local
  | _, _ => False
inductive ClsOk (X : Cx) : List ExceptHandler → List Cl → Prop
  | nil : ClsOk X [] []
  | cons {x : Str} {q : Cl} {n : Option Str} {b1 : Stmt} {su : List Stmt} {p1 p2 : Pos} {hs : List ExceptHandler} {qs : List Cl} (hc : Names X x q.c) (hn : NmOk X n q.nm)
      (hsu : ∀ (a : Addr) (ob : Obj) (cls : Value) (d : Option Addr) (pn : List (Addr × Obj)), Zc cls d ob → (∃ fs, ob.data = .fields fs) → PSs (X.suite a ((a, ob) :: pn)) (b1 :: su) (q.ts a cls d)) (r : ClsOk X hs qs) :
      ClsOk X (.ExceptHandler (some (.Name x p1)) n (b1 :: su) p2 :: hs) (q :: qs)
section
variable {X : Cx} {body : List Stmt} {h1 : ExceptHandler} {hs : List ExceptHandler} {qs : List Cl} {pos : Pos} {tb : WX → TS} {Wo : WX}
theorem ps_tries (st : X.stack = X.env :: X.outer) (fr : X.env.frame = some X.env.locals) (nd : X.N.Nodup) (tk : Takes X Wo)
    (hb : ∀ (W : WX) (pn : List (Addr × Obj)) (xe : Value → Shared → Prop), Takes (X.tr pn xe) W →
      PassesOwn (model X.prog X.w) X.A X.env xe → PSs (X.tr pn xe) body (tb W))
    (hh : ClsOk X (h1 :: hs) qs) : PS X (.Try body (h1 :: hs) [] [] pos) (fun D σ H => tb (wCls X.K Wo D qs) D σ H) := by
  refine ⟨fun pins s σ H D I h => ?_⟩
  have ok := I.ok
  have frs' : X.A.frames = some (X.env :: X.outer) := ok.frames.trans (congrArg some st)
  refine wpAny_Try_except ?_
  refine wpAny_mono ((hb (wCls X.K Wo D qs) (X.pn ++ pins) _ (fun u z caught => ?_) PassesOwn.looking).run [] s σ H D (I.toTry _) h) (fun fl z done => ?_) (fun _ _ y => y)
  · obtain ⟨a, B, z0, pins', σ', H', cls, d, rfl, J', nb, up, sky, na, os, ag, wish⟩ := caught
    have J : Inv X pins σ' H' z0 := J'.ofTry ok
    have sky2 : Sky B (X.env :: X.outer) a (Zc cls d) X.env.locals z.heap := st ▸ sky
    show wpAny (model X.prog X.w) X.A (noteFrame (.ref a) X.env) _ _ _
    refine Sky.land Zc.steady frs' fr sky2 fun g3 fl3 up3 => ?_
    have J3 : Inv X pins σ' H' { z with heap := g3 } :=
      J.landed nb fl3.1 (up.trans up3) os ag
    obtain ⟨ob3, fs3, at3, zc3, dt3⟩ := fl3.there
    have off : a ∉ frs (X.env :: X.outer) := fun hm => by
      obtain ⟨_, ob', at', no⟩ := fl3.2.2.1.mem hm
      rw [at3] at at'
      cases at'
      exact no _ dt3
    have nL : a ≠ X.env.locals := fun y => off (List.mem_filterMap.mpr ⟨X.env, List.mem_cons_self, fr.trans (congrArg some y.symm)⟩)
    have nF : a ∉ X.fs := fun hm => by
      obtain ⟨e, he, q⟩ := List.mem_filterMap.mp hm
      exact off (List.mem_filterMap.mpr ⟨e, List.mem_cons_of_mem _ he, q⟩)
    have S3 := J3.suite at3 dt3 na nL nF
    have go : ∀ {hs' : List ExceptHandler} {qs' : List Cl}, ClsOk X hs' qs' → wCls X.K Wo D qs' cls d σ' H' →
        wpAny (model X.prog X.w) X.A (handleBy (.ref a) X.env hs') (SP X pins D) X.xe { z with heap := g3 } := by
      intro hs' qs' hk
      induction hk with
      | nil =>
        intro wi
        refine wpAny_handleBy_nil ?_
        obtain ⟨_, _, _, ob, fs, T, _, _, at_, _, dt, f1, _⟩ := id fl3
        unfold PySem.passOn
        refine wpAny_bind (wpAny_field at_ dt f1 ?_)
        rw [if_neg (show ¬ (Value.ref T == Value.none) = true by simp)]
        have fin : wpAny (model X.prog X.w) X.A (setFlight (.ref a) X.env.frame)
            (fun _ y => wpAny (model X.prog X.w) X.A (throw (.ref a) : Sem Flow) (SP X pins D) X.xe y) X.xe { z with heap := g3 } := by
          rw [fr]
          refine HandSPX.setFlight_upZ fl3 fun g4 hh4 up4 => wpAny_throw (tk _ _ ?_)
          exact ⟨a, B, z0, pins, σ', H', cls, d, rfl, J, nb, (up.trans up3).trans up4, .inr (.inr (st ▸ hh4)), na, os, ag, wi⟩
        first
          | exact wpAny_bind (wpAny_pure (wpAny_bind fin))
          | exact wpAny_bind fin
      | @cons x q n b1 su p1 p2 hs2 qs2 hc hn hsu r ih =>
        intro wi
        obtain ⟨b, hb1, hyes, hno⟩ := wi
        refine wpAny_handleBy_cons (codeAny_handlers_test ?_) (by intro y; cases y)
        have LT : PySem.W.Looks (model X.prog X.w) g3 (typeOf (.ref a)) cls :=
          fun _ _ _ _ k y => wpAny_typeOf_ref (k _ _ at3) (zc3.1.symm ▸ y)
        have LM := PySem.W.exm_one (M := model X.prog X.w) J3.kIn LT hb1
        have test : ∀ {Q : Value → Shared → Prop} {E : Value → Shared → Prop}, Q q.c { z with heap := g3 } →
            wpAny (model X.prog X.w) (X.A.mark (some (.ref a))) (eval (.Name x p1) X.env) Q E { z with heap := g3 } := fun {Q E} y => by
          obtain ⟨hg, hdb, hm | ⟨hm, hv, hnn⟩⟩ := hc
          · exact ld_glob (X := X.suite a ((a, ob3) :: (X.pn ++ pins))) S3 hg hm y hdb
          · exact ld_blt (X := X.suite a ((a, ob3) :: (X.pn ++ pins))) S3 hg hm hv y hnn hdb
        refine test (LM.here ?_)
        cases b with
        | false =>
          show wpAny _ X.A (handleBy (.ref a) X.env hs2) _ _ _
          exact ih (hno rfl)
        | true =>
          have wy := hyes rfl a na
          revert hn hsu wy
          obtain ⟨qc, qn, qt⟩ := q
          dsimp only
          intro hn hsu wy
          cases qn with
          | none =>
            cases n with
            | some n => exact hn.elim
            | none =>
            refine codeAny_handlers_suite ?_
            refine HandSPX.lands_againZ fl3 fun g4 fl4 up4 => ?_
            have J4 : Inv X pins σ' H' { z with heap := g4 } :=
              J.landed nb fl4.1 ((up.trans up3).trans up4) os ag
            obtain ⟨ob4, fs4, at4, zc4, dt4⟩ := fl4.there
            have S4 := J4.suite at4 dt4 na nL nF
            refine wpAny_mono ((hsu a ob4 cls d (X.pn ++ pins) zc4 ⟨_, dt4⟩).run [] _ _ H' _ S4 wy) (fun f y dn => ?_) (fun _ _ y => False.elim y)
            cases f with
            | ret u =>
              obtain ⟨v6, σ6, H6, S6, r6, q6⟩ := dn
              exact ⟨v6, σ6, H6, S6.unsuite ok, r6, q6⟩
            | _ =>
              obtain ⟨σ6, H6, S6, q6⟩ := dn
              exact ⟨σ6, H6, S6.unsuite ok, q6⟩
          | some i =>
            cases n with
            | none => exact hn.elim
            | some n =>
            obtain ⟨hi, hln⟩ := hn
            refine codeAny_handlers_suite_as ?_
            refine HandSPX.lands_againZ fl3 fun g4 fl4 up4 => ?_
            have J4 : Inv X pins σ' H' { z with heap := g4 } :=
              J.landed nb fl4.1 ((up.trans up3).trans up4) os ag
            obtain ⟨ob4, fs4, at4, zc4, dt4⟩ := fl4.there
            have S4 := J4.suite at4 dt4 na nL nF
            refine store_ok (X := X.suite a ((a, ob4) :: (X.pn ++ pins))) (v := .ref a) S4 nd hi (.inl hln) rfl (fun z5 S5 => ?_) (.inr hln)
            refine wpAny_mono ((hsu a ob4 cls d (X.pn ++ pins) zc4 ⟨_, dt4⟩).run [] z5 _ H' _ S5 wy) (fun f y dn => ?_) (fun _ _ y => False.elim y)
            have fin : ∀ {σ6 : L2.St} {H6 : Hp} {R : Shared → Prop}, Inv (X.suite a ((a, ob4) :: (X.pn ++ pins))) [] σ6 H6 y → (∀ z7, Inv X pins (σ6.set i none) H6 z7 → R z7) →
                wpAny (model X.prog X.w) X.A (do bindName X.env n .none; unbindBehindTheSuite X.env n p2) (fun _ z7 => R z7) X.xe y :=
              fun S6 hq => gone_ok (S6.unsuite ok) nd hi hln hq
            cases f with
            | ret u =>
              obtain ⟨v6, σ6, H6, S6, r6, q6⟩ := dn
              exact fin S6 fun z7 J7 => ⟨_, _, _, J7, r6, q6⟩
            | _ =>
              obtain ⟨σ6, H6, S6, q6⟩ := dn
              exact fin S6 fun z7 J7 => ⟨_, _, J7, q6⟩
    exact go hh wish
  · cases fl with
    | next =>
      obtain ⟨σ', H', J', y⟩ := done
      exact wpAny_execs_nil ⟨σ', H', J'.ofTry ok, y⟩
    | ret u =>
      obtain ⟨v, σ', H', J', r, y⟩ := done
      exact ⟨v, σ', H', J'.ofTry ok, r, y⟩
    | _ =>
      obtain ⟨σ', H', J', y⟩ := done
      exact ⟨σ', H', J'.ofTry ok, y⟩
end
end Pu

set_option Elab.async false
set_option maxRecDepth 100000
set_option linter.all false
/-! Pure layer: try, raise of an error that keeps something, classmethods. -/
namespace Pu
open PySem PySem.Spec PyProof.Rows L2 Ly
/-- a clause -/
structure HC where
  C : Addr
  nm : Option Nat
  S : Exn → Addr → Value → Option Addr → FS
def exC : Exn → Addr
  | .bare C => C
  | .kept C _ _ => C
def exV (a : Addr) (d : Option Addr) : Exn → D
  | .bare _ => .cls a
  | .kept _ ns ds => .exn a (d.getD 0) ns ds
def slotE (n : Nat) (a : Addr) (d : Option Addr) (x : Exn) : Option Nat → Pu.Env
  | none => List.replicate n .un
  | some i => (List.replicate n .un).set i (.val (exV a d x))
def backE (De : EndsD) : EndsD := { nx := fun _ => False, rt := De.rt, ex := fun _ => False }
def xShape : Exn → Value → Option Addr → Prop
  | .bare C, cls, d => cls = .ref C ∧ d = none
  | .kept C _ _, cls, d => cls = .ref C ∧ ∃ dd, d = some dd
def hchain (K : PySem.W.Frag) (n : Nat) (De : EndsD) : List HC → ZX
  | [] => De.ex
  | q :: r => fun x => ∃ b, PySem.W.exmOne K (.ref (exC x)) (.ref q.C) = some b ∧ if b = true then ∀ a cls d, xShape x cls d → q.S x a cls d (slotE n a d x q.nm) (backE De) else hchain K n De r x
def sTry (K : PySem.W.Frag) (S : FS) (hs : List HC) : FS := fun ρ De => S ρ { De with ex := hchain K ρ.length De hs }
section
variable {X : Cx} {K : PySem.W.Frag} {E : XK} {W0 H0 : Hp}
def tDH (K : PySem.W.Frag) (W0 H0 : Hp) (E : XK) (q : HC) (a : Addr) (cls : Value) (d : Option Addr) : TS := fun Dh σ H => ∃ x, tDS K W0 H0 E (q.S x a cls d) Dh σ H
def clOf (K : PySem.W.Frag) (W0 H0 : Hp) (E : XK) (q : HC) : Cl := ⟨.ref q.C, q.nm, tDH K W0 H0 E q⟩
theorem pss_ex {α : Type} {X : Cx} {su : List Stmt} {t : α → TS} (h : ∀ x, PSs X su (t x)) : PSs X su (fun D σ H => ∃ x, t x D σ H) := ⟨fun pins s σ H D I ⟨x, q⟩ => (h x).run pins s σ H D I q⟩
inductive HcOk (X : Cx) (K : PySem.W.Frag) (W0 H0 : Hp) (E : XK) : List ExceptHandler → List HC → Prop
  | nil : HcOk X K W0 H0 E [] []
  | cons {x : Str} {q : HC} {n : Option Str} {b1 : Stmt} {su : List Stmt} {p1 p2 : Pos} {hs : List ExceptHandler} {qs : List HC} (hc : Names X x (.ref q.C)) (hn : NmOk X n q.nm)
      (hsu : ∀ (a : Addr) (ob : Obj) (cls : Value) (d : Option Addr) (pn : List (Addr × Obj)), Zc cls d ob → (∃ fs, ob.data = .fields fs) → ∀ x, PSs (X.suite a ((a, ob) :: pn)) (b1 :: su) (tDS K W0 H0 E (q.S x a cls d))) (r : HcOk X K W0 H0 E hs qs) :
      HcOk X K W0 H0 E (.ExceptHandler (some (.Name x p1)) n (b1 :: su) p2 :: hs) (q :: qs)
theorem HcOk.cls : ∀ {hs : List ExceptHandler} {qs : List HC}, HcOk X K W0 H0 E hs qs → ClsOk X hs (qs.map (clOf K W0 H0 E))
  | _, _, .nil => .nil
  | _, _, .cons hc hn hsu r => .cons (q := clOf K W0 H0 E _) hc hn (fun a ob cls d pn z f => pss_ex (hsu a ob cls d pn z f)) r.cls
theorem rep_un {n : Nat} {σ : L2.St} {W H : Hp} (e : Pu.Ex W0 H0 W H) (hl : σ.length = n) : Sat K W0 H0 W (List.replicate n .un) σ H := by
  refine ⟨e, by rw [List.length_replicate]; exact hl, fun _ => none, fun _ _ _ z => (by cases z), fun i b hb => ?_⟩
  have hi : i < n := by
    have := (List.getElem?_eq_some_iff.mp hb).1
    rw [List.length_replicate] at this
    exact this
  rw [List.getElem?_replicate_of_lt hi] at hb
  cases hb
  exact ⟨_, List.getElem?_eq_getElem (by rw [hl]; exact hi), rfl⟩
theorem xrep_v {W : Hp} {x : Exn} {cls : Value} {d : Option Addr} (r : XRep K W x cls d) (a : Addr) : cls = .ref (exC x) ∧ xShape x cls d ∧ Rep K W (.ref a) (exV a d x) := by
  cases r with
  | bare C => exact ⟨rfl, ⟨rfl, rfl⟩, .cls a⟩
  | kept h1 h2 h3 => exact ⟨rfl, ⟨rfl, _, rfl⟩, .exn h1 h2 h3⟩
theorem chain_w {n : Nat} {De : EndsD} {Dh : Ends} {W : Hp} (ok : Ok K W0 H0 E W De Dh) {x : Exn} {cls : Value} {dd : Option Addr} {W' H' : Hp} (e : Pu.Ex W0 H0 W' H') (r : XRep K W' x cls dd) {σ : L2.St} (hl : σ.length = n) :
    ∀ {hs : List HC}, hchain K n De hs x → wCls K (fun cls d _ H => E cls d H) Dh (hs.map (clOf K W0 H0 E)) cls dd σ H'
  | [], h => ok.ex x cls dd W' H' e r h
  | q :: hs, ⟨b, hb, h⟩ => by
    refine ⟨b, by rw [(xrep_v r 0).1]; exact hb, fun z a ha => ?_, fun z => ?_⟩
    · subst z
      rw [if_pos rfl] at h
      obtain ⟨_, sh, rv⟩ := xrep_v r a
      refine ⟨x, W', slotE n a dd x q.nm, backE De, ?_, h a cls dd sh, ⟨fun _ _ _ _ _ _ z => z.elim, fun v W2 H2 d e2 r2 z => ?_, (fun _ _ _ _ _ _ z => z.elim), (fun _ _ _ _ _ _ z => z.elim), fun _ _ _ _ _ _ _ z => z.elim⟩⟩
      · show Sat K W0 H0 W' (slotE n a dd x q.nm) (put1 a q.nm σ) H'
        cases q.nm with
        | none => exact rep_un e hl
        | some i => exact (rep_un e hl).set rv
      · show (shut Dh q.nm).rt v H2
        cases q.nm with
        | none => exact ok.rt v W2 H2 d e2 r2 z
        | some i => exact ok.rt v W2 H2 d e2 r2 z
    · subst z
      rw [if_neg (by decide)] at h
      exact chain_w ok e r hl h
theorem d_try {body : List Stmt} {h1 : ExceptHandler} {hs : List ExceptHandler} {qs : List HC} {pos : Pos} {S : FS} (st : X.stack = X.env :: X.outer) (fr : X.env.frame = some X.env.locals) (nd : X.N.Nodup) (tk : Takes X (fun cls d _ H => E cls d H))
    (hb : ∀ (E' : XK) (pn : List (Addr × Obj)) (xe : Value → Shared → Prop), Takes (X.tr pn xe) (fun cls d _ H => E' cls d H) → PassesOwn (model X.prog X.w) X.A X.env xe → PSs (X.tr pn xe) body (tDS K W0 H0 E' S))
    (hh : HcOk X K W0 H0 E (h1 :: hs) qs) (hK : X.K = K := by rfl) : PS X (.Try body (h1 :: hs) [] [] pos) (tDS K W0 H0 E (sTry K S qs)) := by
  subst hK
  have key := ps_tries (pos := pos) (tb := fun W => tDS X.K W0 H0 (fun cls d H => ∀ σ : L2.St, σ.length = X.N.length → W cls d σ H) S) st fr nd tk (fun W pn xe t p => hb _ pn xe (fun u s' ⟨a, B, sI, pins, σ, H, cls, d, e1, I, nb, up, sky, na, os, ag, w⟩ =>
    t u s' ⟨a, B, sI, pins, σ, H, cls, d, e1, I, nb, up, sky, na, os, ag, w σ I.len⟩) p) hh.cls
  refine ⟨fun pins s σ H D I h => key.run pins s σ H D I ?_⟩
  obtain ⟨W, ρ, De, sat, q, ok⟩ := h
  have hρ : ρ.length = X.N.length := by rw [← sat.len]; exact I.len
  exact ⟨W, ρ, _, sat, q, ⟨ok.nx, ok.rt, ok.bk, ok.ct, fun x cls dd W' H' e r z σ' hl => chain_w ok e r (by rw [hρ]; exact hl) z⟩⟩
/-- error.f -/
def fXf (cls : Value) (d : Option Addr) (C : Addr) (a : Addr) (f : Str) (F : FE) : FE := fun ρ Q Z => F ρ (fun v => ∃ dd ns ds u, v = .exn a dd ns ds ∧ cls = .ref C ∧ d = some dd ∧ lookD ns ds f = some u ∧ Q u) Z
theorem d_xf {a C : Addr} {oe : Obj} {cls : Value} {d : Option Addr} {pn : List (Addr × Obj)} {e : Expr} {F : FE} {pos : Pos} {n : Str} (T : XfC X.K C) (hno : PySem.W.findIn X.K (.ref C) n = some none) (hz : Zc cls d oe) (hf : ∃ vs, oe.data = .fields vs)
    (he : PE (X.suite a ((a, oe) :: pn)) e (tD K E F)) (hb : attributeBase e n X.env (eval e X.env) = eval e X.env := by rfl) : PE (X.suite a ((a, oe) :: pn)) (.Attribute e n pos) (tD K E (fXf cls d C a n F)) :=
  (pe_xf T hno hz hf he hb).mono fun σ H Qh ⟨W0, H0, W, ρ, Q, Z, st, f, k, x⟩ => ⟨W0, H0, W, ρ, _, Z, st, f, fun v W1 H1 d e1 r ⟨dd, ns, ds, u, z, hc, hd, hl, q⟩ => by
    subst z
    cases r with
    | @exn _ _ fs _ _ h1 h2 h3 =>
      subst h2
      obtain ⟨v, h4, h5⟩ := look_v h3 hl
      exact ⟨rfl, hc, dd, fs, v, hd, e1.s _ _ h1, h4, k v W1 H1 u e1 h5 q⟩, x⟩
end
/-- what is known of a class of errors whose field f is read -/
structure ErF (K : PySem.W.Frag) (C : Addr) (f : Str) : Prop where
  xf : XfC K C
  no : PySem.W.findIn K (.ref C) f = some none
/-! ### raise C(e), C's own __init__ keeps e under a name -/
def spXi (C : Addr) (f : Str) : Sp := fun vs H Q _ => ∃ a v, vs = [.ref a, v] ∧ H a = some (exo a C none) ∧ ∀ dx, H dx = none → dx ≠ a → Q .non (upd (upd H dx (exd dx [(f, v)])) a (exo a C (some dx)))
structure CalX (P : Program) (w : World) (K : PySem.W.Frag) (mg : Str → Option Value) (base : Heap) (x : Str) (C : Addr) (k : Nat) (f : Str) : Prop where
  o : OexC K C
  g : mg x = some (.ref C)
  ex : ∃ (fI : Addr) (fd : FuncData) (ps : List Str), PySem.W.findIn K (.ref C) "__init__" = some (some (.ref fI)) ∧ PySem.W.typeIn K (.ref fI) = some (.type "function") ∧ FnOk P w K mg base CX0 k fI fd ps (spXi C f) ∧ Binds K fd ps []
def sRaiseK (C : Addr) (f : Str) (F : FE) : FS := fun ρ De => F ρ (fun d => De.ex (.kept C [f] [d])) De.ex
section
variable {X : Cx} {K : PySem.W.Frag} {E : XK} {W0 H0 : Hp} {F : FE} {e : Expr} {x f : Str} {C : Addr} {k : Nat} {p pos pos' : Pos}
theorem mk_heap {H1 : Hp} {a dx C : Addr} {f : Str} {v : V} (ha : H1 a = none) (hd : dx ≠ a) : upd (del (upd (upd (upd H1 a (exo a C none)) dx (exd dx [(f, v)])) a (exo a C (some dx))) a) dx (.xd [(f, v)]) = upd H1 dx (.xd [(f, v)]) := by
  funext b
  by_cases e1 : b = dx
  · subst e1
    rw [upd_same, upd_same]
  · rw [upd_ne e1, upd_ne e1]
    by_cases e2 : b = a
    · subst e2
      rw [del_same, ha]
    · rw [del_ne e2, upd_ne e2, upd_ne e1, upd_ne e2]
theorem d_raiseK (c : CalX X.prog X.w X.K X.mg X.base x C k f) (hc : X.calm = true) (tk : Takes X (fun cls d _ H => E cls d H)) (hr : Room (k + 1) X.A) (hg : Gl X x) (he : PE X e (tD K E F)) (hK : X.K = K := by rfl) (hdb : (x == ("__debug__" : Str)) = false := by decide)
    (hs : starEach [e] X.env = (false, eval e X.env) :: starEach [] X.env := by rfl) (hpl : (backTo pos (starEach [] X.env)).any (·.1) = false := by rfl) : PS X (.Raise (some (.Call (.Name x p) [e] [] pos)) none pos') (tDS K W0 H0 E (sRaiseK C f F)) := by
  obtain ⟨fI, fd, ps, h1, h2, h3, h4⟩ := c.ex
  refine (ps_raise hc tk (pmk_oex c.o h1 h2 h3 hr h4 .nil pass0 hg c.g (pa_cons he pa_nil hs) hdb hs hpl)).mono fun D σ H ⟨W, ρ, De, s, q, o⟩ => ?_
  refine ⟨W0, H0, W, ρ, _, _, s, q, fun v W1 H1 d e1 r1 z => ⟨(show 1 ≤ 1000 by decide), fun a ha => ?_⟩, o.xc s⟩
  refine ⟨a, v, rfl, upd_same, fun dx hdx hne => ⟨rfl, dx, [(f, v)], upd_same, ?_, ?_, ?_⟩⟩
  · rw [upd_ne hne, upd_same]
  · rw [upd_ne hne] at hdx
    exact hdx
  · rw [mk_heap ha hne]
    have hdx' : H1 dx = none := by rw [upd_ne hne] at hdx; exact hdx
    have e2 := Ex.new (o := .xd [(f, v)]) e1.s hdx'
    exact o.ex _ _ _ _ _ ((s.ex.trans e1).trans e2) (.kept upd_same rfl (.one (r1.gx e2.w))) z
end
/-! ### classmethods, cls(..) -/
structure CalCm (P : Program) (w : World) (K : PySem.W.Frag) (mg : Str → Option Value) (base : Heap) (C : Addr) (m : Str) (k n : Nat) (g : Fn) : Prop where
  ex : ∃ (mc : Value) (p f : Addr), ClX.CRead K C mc ∧ ClX.CMet K C mc m p f ∧ FnR P w K mg base (L2.CX P w) k f (spD K n g)
section
variable {X : Cx} {K : PySem.W.Frag} {E : XK} {A : FA} {g : Fn} {o e : Expr} {es : List Expr} {x m y : Str} {C : Addr} {k n i : Nat} {p pos apos : Pos}
def fCmeth (C : Addr) (g : Fn) (n : Nat) (A : FA) : FE := fun ρ Q Z => A ρ (fun ds => ds.length + 1 = n ∧ g (.cls C :: ds) Q Z) Z
theorem d_cmeth {pl : Sem Bool} (c : CalCm X.prog X.w X.K X.mg X.base C m k n g) (hr : Room k X.A) (hx : Passes (L2.CX X.prog X.w) X E) (ho : PE X o (tC (.ref C))) (ha : PA X (e :: es) (tDA K E A)) (hK : X.K = K := by rfl)
    (hst : starEach (e :: es) X.env = (false, eval e X.env) :: starEach es X.env := by rfl) (hpl : (backTo pos (starEach es X.env)).any (·.1) = false := by rfl)
    (ht : eval (.Call (.Attribute o m apos) (e :: es) [] pos) X.env = (do
      let ov ← eval o X.env
      standAt apos.atName
      let (f, first) ← holding [ov] (getMethod ov m pl)
      callWith pos f first (backTo pos (starEach (e :: es) X.env)) (backToKw pos (keywordEach [] X.env))) := by rfl) : PE X (.Call (.Attribute o m apos) (e :: es) [] pos) (tD K E (fCmeth C g n A)) := by
  subst hK
  refine (pe_cmt (pl := pl) ho (⟨c.ex⟩ : CalK X.prog X.w X.K X.mg X.base (L2.CX X.prog X.w) C m k (spD X.K n g)) hr hx ha hst hpl ht).mono fun σ H Qh ⟨W0, H0, W, ρ, Q, Z, st, f, k, xc⟩ => ?_
  refine ⟨rfl, W0, H0, W, ρ, _, Z, st, f, fun vs W1 H1 ds e1 r ⟨hl, q⟩ => ?_, xc⟩
  exact ⟨W1, .cls C :: ds, Q, Z, e1.s, .cons (.cls C) r, by rw [List.length_cons]; exact hl, q, fun v W2 H2 d e2 r2 q2 => k v W2 H2 d (e1.trans e2) r2 q2, xc.ext e1⟩
def fMkL (i : Nat) (C : Addr) (g : Fn) (n : Nat) (A : FA) : FE := fun ρ Q Z => ρ[i]? = some (.val (.cls C)) ∧ A ρ (fun ds => ds.length = n ∧ g ds Q Z) Z
theorem d_mkL (c : CalI X.prog X.w X.K X.mg X.base y C k n g) (hr : Room (k + 1) X.A) (hN : X.N[i]? = some x) (hv : Vis X.env.scope x) (hx : Passes (L2.CX X.prog X.w) X E) (ha : PA X (e :: es) (tDA K E A)) (hK : X.K = K := by rfl)
    (hdb : (x == ("__debug__" : Str)) = false := by decide) (hcd : (x == ("__classdict__" : Str)) = false := by decide)
    (he : starEach (e :: es) X.env = (false, eval e X.env) :: starEach es X.env := by rfl) (hpl : (backTo pos (starEach es X.env)).any (·.1) = false := by rfl) : PE X (.Call (.Name x p) (e :: es) [] pos) (tD K E (fMkL i C g n A)) := by
  subst hK
  obtain ⟨f, fd, ps, M, F, hm, hb⟩ := c.ex
  refine (pe_mkL (i := i) (⟨f, fd, M, F, hm, hb⟩ : CalC X.prog X.w X.K X.mg X.base (L2.CX X.prog X.w) y C k ps (spI X.K C n g)) hr hN hv hx ha hdb hcd he hpl).mono fun σ H Qh ⟨W0, H0, W, ρ, Q, Z, st, ⟨hi, f⟩, k, xc⟩ => ?_
  obtain ⟨v, h1, h2⟩ := st.val hi
  cases h2
  exact ⟨h1, make_to ⟨W0, H0, W, ρ, Q, Z, st, f, k, xc⟩⟩
/-- repr(None), repr of a number -/
def rRepr : List V → Hp → VK → Prop := fun xs H Q => (xs = [.non] ∧ Q (.str "None") H) ∨ ∃ i : Int, xs = [.int i] ∧ i.natAbs.log2 < 1920 ∧ Q (.str (toString i)) H
theorem c_repr : CallR X (.builtin "repr") rRepr := by
  intro pins s σ H xs us Q I r h
  rcases h with ⟨rfl, q⟩ | ⟨i, rfl, hi, q⟩
  · obtain ⟨u, rfl, ru⟩ := vals1 r
    obtain rfl : u = Value.none := ru
    exact PySem.P.repr_of_none ⟨.str _, H, I.tok _, ⟨_, rfl⟩, q⟩
  · obtain ⟨u, rfl, ru⟩ := vals1 r
    obtain ⟨t, rfl⟩ := ru
    exact PySem.P.repr_of_int hi ⟨.str _, H, I.tok _, ⟨_, rfl⟩, q⟩
def RRepr (ds : List D) (Q : D → Prop) : Prop := (ds = [.non] ∧ Q (.str "None")) ∨ ∃ i : Int, ds = [.int i] ∧ i.natAbs.log2 < 1920 ∧ Q (.str (toString i))
theorem s_repr : CSnd K rRepr RRepr := fun W H xs ds Q Qh s rr h k => by
  rcases h with ⟨z, q⟩ | ⟨i, z, hi, q⟩
  · subst z
    obtain ⟨v, rfl, r⟩ := ts1 rr
    exact .inl ⟨by rw [r.non_inv], k _ W H _ (Ex.refl s) (.str _) q⟩
  · subst z
    obtain ⟨v, rfl, r⟩ := ts1 rr
    exact .inr ⟨i, by rw [r.int_inv], hi, k _ W H _ (Ex.refl s) (.str _) q⟩
end
end Pu

set_option Elab.async false
set_option maxRecDepth 100000
set_option linter.all false
/-! Pure layer: == and != by an own class. -/
namespace Pu
open PySem PySem.Spec PyProof.Rows L2 Ly
structure CalE (P : Program) (w : World) (K : PySem.W.Frag) (mg : Str → Option Value) (base : Heap) (C : Addr) (k : Nat) (g : Fn) : Prop where
  ex : ∃ ps, CalM P w K mg base (L2.CX P w) C "__eq__" k ps (spD K 2 g)
  ho : PySem.W.mroIn K C (.type "object") = some true
  hs : PySem.W.findIn K (.ref C) "__ne__" = some (some (.builtin "object.__ne__"))
section
variable {X : Cx} {K : PySem.W.Frag} {C : Addr} {k : Nat} {g : Fn}
def rMetD (K : PySem.W.Frag) (C : Addr) (g : Fn) (neg : Bool) : R2 := rMet C (spD K 2 g) E0 (blQ neg)
def RMetO (C : Addr) (g : Fn) (neg : Bool) : D → D → (D → Prop) → Prop := fun a b Q => (∃ ns ds, a = .obj C ns ds) ∧ (flD b = true ∨ ∃ ns ds, b = .obj C ns ds) ∧ g [a, b] (fun d => ∃ c, d = .bl c ∧ Q (.bl (neg != c))) F0
theorem op_eqM (c : CalE X.prog X.w X.K X.mg X.base C k g) (hr : Room (k + 1) X.A) (hK : X.K = K := by rfl) : OpR X (compareOp .Eq) (rMetD K C g false) := by
  subst hK
  obtain ⟨ps, M⟩ := c.ex
  exact op_eqO M (hr.mono (Nat.le_succ _)) passL
theorem op_neM (c : CalE X.prog X.w X.K X.mg X.base C k g) (hr : Room (k + 1) X.A) (hK : X.K = K := by rfl) : OpR X (compareOp .NotEq) (rMetD K C g true) := by
  subst hK
  obtain ⟨ps, M⟩ := c.ex
  exact op_neO M c.ho c.hs hr passL
theorem s_met {neg : Bool} : RSnd K (rMetD K C g neg) (RMetO C g neg) := fun W H x y a b Q Qh s r1 r2 ⟨⟨ns, ds, ha⟩, hb, q⟩ k => by
  subst ha
  obtain ⟨p, dx, fs, rfl, h2, h3, h4⟩ := r1.obj_inv s
  have hy : YOk C H y := by
    rcases hb with hb | ⟨ns, ds, hb⟩
    · exact .inr (flat_v (r2.full s) hb)
    · subst hb
      obtain ⟨p2, dx2, fs2, rfl, h5, _⟩ := r2.obj_inv s
      exact .inl ⟨_, _, _, rfl, h5⟩
  have fin : ∀ v W' H' d, Ex H H W' H' → Rep K W' v d → (∃ c, d = .bl c ∧ Q (.bl (neg != c))) → blQ neg Qh v H' := fun v W' H' d e r ⟨c, z, q2⟩ => by
    subst z
    cases r
    exact ⟨c, rfl, k _ W H' _ ⟨e.h, Gx.refl _, s.trans e.h, fun _ _ h => .inl h⟩ (.bl _) q2⟩
  exact ⟨p, dx, fs, rfl, h2, hy, H, [.obj C ns ds, b], _, _, Gx.refl _, .cons (r1.full s) (.cons (r2.full s) .nil), rfl, q, fin, fun _ _ _ _ _ _ _ z => z.elim⟩
end
end Pu

set_option Elab.async false
set_option maxRecDepth 100000
set_option linter.all false
/-! Pure layer: a list times a number; the script. -/
namespace Pu
open PySem PySem.Spec PyProof.Rows L2 Ly
section
variable {X : Cx} {K : PySem.W.Frag}
def RRep : D → D → (D → Prop) → Prop
  | .lst ds, .int k, Q => 0 ≤ k ∧ k < 2 ^ 63 ∧ ds.length * k.toNat ≤ sizeLine ∧ Q (.lst (List.replicate k.toNat ds).flatten)
  | _, _, _ => False
theorem rep_rep {W : Hp} {vs : List V} {ds : List D} (r : RepAll K W vs ds) : ∀ n : Nat, RepAll K W (List.replicate n vs).flatten (List.replicate n ds).flatten
  | 0 => .nil
  | n + 1 => by
    rw [List.replicate_succ, List.replicate_succ, List.flatten_cons, List.flatten_cons]
    exact r.app (rep_rep r n)
theorem s_rep : RSnd K rRep RRep := fun W H x y a b Q Qh s r1 r2 h k => by
  cases a <;> cases b <;> first
    | exact h.elim
    | skip
  obtain ⟨p, vs, e1, h1, h2, h3⟩ := r1.lst_inv s
  obtain ⟨hk, hk2, hl, q⟩ := h
  have e2 := r2.int_inv
  subst e1
  subst e2
  refine ⟨p, _, vs, rfl, rfl, h1, by omega, hk2, by rw [h2.len]; exact hl, fun l hl2 => ?_⟩
  have r3 := rep_rep h2
  refine k _ _ _ _ (Ex.new s hl2) (.lst upd_same ((r3 _).gx (Gx.new (s.free hl2))) ?_) q
  rw [List.length_flatten, List.map_replicate, h2.len]
  have e : ∀ (n m : Nat), (List.replicate n m).sum = m * n := fun n m => by
    induction n with
    | zero => simp
    | succ n ih => rw [List.replicate_succ, List.sum_cons, ih, Nat.mul_succ]; omega
  rw [e]
  exact hl
end
end Pu

set_option Elab.async false
set_option maxRecDepth 100000
set_option linter.all false
/-! Pure layer: defs that are called where no text of a container is under way; repr of containers. -/
namespace Pu
open PySem PySem.Spec PyProof.Rows L2 Ly
structure FnG (P : Program) (w : World) (K : PySem.W.Frag) (mg : Str → Option Value) (base : Heap) (CX : CXT) (k : Nat) (f : Addr) (fd : FuncData) (ps : List Str) (sp : Sp) : Prop where
  len : ∀ vs H Q E, sp vs H Q E → vs.length = ps.length
  run : ∀ (A : Around) (outer : List PySem.Env) (s : Shared) (H : Hp) (args : Args) (us : List Value) (vs : List V) (Q : VK) (E : XK),
    Room k A → A.guards = some [] → Env0 P w K mg base A outer s H → BindsTo s fd args (ps.zip us) → Vals vs us → sp vs H Q E →
      codeAny (model P w) A (.call (.ref f) args) (CR CX outer P w H s Q E) s
section
variable {P : Program} {w : World} {K : PySem.W.Frag} {mg : Str → Option Value} {base : Heap}
theorem FnG.of {CX : CXT} {k : Nat} {f : Addr} {fd : FuncData} {ps : List Str} {sp : Sp} (F : FnOk P w K mg base CX k f fd ps sp) : FnG P w K mg base CX k f fd ps sp :=
  ⟨F.len, fun A outer s H args us vs Q E hr _ he hb hv hs => F.run A outer s H args us vs Q E hr he hb hv hs⟩
theorem fng_x {x qual : Str} {st : Stmt} {f : Addr} {fd : FuncData} {N ps : List Str} {k : Nat} {sp : Sp} (F : Fun K x qual st f fd) (S : FnScope N ps (defScope st)) (hlen : ∀ vs H Q E, sp vs H Q E → vs.length = ps.length)
    (hbody : ∀ (cdv : Value) (A : Around) (outer : List PySem.Env) (s : Shared) (H : Hp) (vs : List V) (Q : VK) (E : XK), Room k (A.deeper (envOfC qual (defScope st) s.heap.objs.size f cdv)) → A.guards = some [] → sp vs H Q E →
      ∃ t, PSs (cxOf (L2.CX P w) P w K mg base N qual (defScope st) f cdv A outer s H E) (defBody st) t ∧ t { nx := fun _ H' => Q .non H', rt := Q } (L2.start N vs) H) : FnG P w K mg base (L2.CX P w) (k + 1) f fd ps sp := by
  obtain ⟨oc, od, kV, doc, pm, an, cdv, ct, osl, hfd, look, code⟩ := F.ex
  subst hfd
  refine ⟨hlen, fun A outer s H args us vs Q E room gd env bnd rv want => ?_⟩
  have keepB : ∀ b o, base.get? b = some o → s.heap.get? b = some o := fun b o e => (env.bs b o e).1
  have inK : K.In s.heap := env.mod.kin.keeps keepB
  have noLim : s.heap.NoLimit := env.mod.nolimit.keeps keepB
  have kinds : ∀ y ∈ ps.zip us, (defScope st).names.lookup y.1 = some .local ∨ ((defScope st).names.lookup y.1 = some .cell ∧ ((cellsFrom (s.heap.objs.size + 1) (defScope st).names []).lookup y.1).isSome = true) := by
    rintro ⟨n, v⟩ hy
    rcases S.par n (List.of_mem_zip hy).1 with q | q
    · exact .inl q
    · exact .inr ⟨q, PySem.W.cellsFrom_some _ _ _ (.inl q)⟩
  refine codeAny_call_function room.depth (inK _ _ look) rfl S.co S.gen rfl (PySem.W.codeRec_of inK code) (bnd _ _ _ _ ?_)
  refine wpAny_newFunctionEnv_cells S.kind kinds fun ev hev s1 inside => ?_
  subst hev
  refine ⟨noLim.keeps inside.toInCall.keep, codeAny_func ?_⟩
  obtain ⟨t, ht, hq⟩ := hbody cdv A outer s H vs Q E (room.deeper _) gd want
  have I0 := inv_start (CX := L2.CX P w) (E := E) S room.hd env (hlen _ _ _ _ want) rv inside
  refine wpAny_mono (ht.run [] s1 (L2.start N vs) H _ I0 hq) (fun fl s' done => ?_) (fun _ _ z => z)
  cases fl with
  | ret u =>
    obtain ⟨v, σ', H', J, r2, q2⟩ := done
    exact ⟨v, H', J.os, J.bare, J.base, J.hok, r2, q2⟩
  | next =>
    obtain ⟨σ', H', J, q2⟩ := done
    exact ⟨.non, H', J.os, J.bare, J.base, J.hok, rfl, q2⟩
  | brk =>
    obtain ⟨_, _, _, q2⟩ := done
    exact q2.elim
  | cont =>
    obtain ⟨_, _, _, q2⟩ := done
    exact q2.elim
theorem fn_dG {x qual : Str} {st : Stmt} {f : Addr} {fd : FuncData} {N ps : List Str} {k n : Nat} {g : Fn} {S : FS} (F : Fun K x qual st f fd) (Sc : FnScope N ps (defScope st)) (hn : ps.length = n)
    (hbody : ∀ (cdv : Value) (A : Around) (outer : List PySem.Env) (s : Shared) (H : Hp) (E : XK) (W0 : Hp), Room k (A.deeper (envOfC qual (defScope st) s.heap.objs.size f cdv)) → A.guards = some [] →
      PSs (cxOf (L2.CX P w) P w K mg base N qual (defScope st) f cdv A outer s H E) (defBody st) (tDS K W0 H E S)) (hg : ∀ ds Q Z, ds.length = n → g ds Q Z → fnS N.length S ds Q Z) : FnG P w K mg base (L2.CX P w) (k + 1) f fd ps (spD K n g) :=
  fng_x F Sc (fun vs H Q E ⟨W, ds, _, _, _, r, hl, _⟩ => by rw [r.len, hl, hn]) fun cdv A outer s H vs Q E hr gd ⟨W, ds, Qd, Z, sw, r, hl, hf, k, x⟩ =>
    ⟨_, hbody cdv A outer s H E W hr gd, W, startB N.length ds, _, rep_start sw rfl r, hg ds Qd Z hl hf, ⟨fun W' ρ' σ' H' _ s' q => k _ W' H' _ s'.ex .non q, fun v W' H' d e r q => k v W' H' d e r q, (fun _ _ _ _ _ _ z => z.elim), (fun _ _ _ _ _ _ z => z.elim), x⟩⟩
structure CalG (P : Program) (w : World) (K : PySem.W.Frag) (mg : Str → Option Value) (base : Heap) (x : Str) (k n : Nat) (g : Fn) : Prop where
  ex : ∃ (f : Addr) (fd : FuncData) (ps : List Str), FnG P w K mg base (L2.CX P w) k f fd ps (spD K n g) ∧ mg x = some (.ref f) ∧ PySem.W.keepIn K (.ref f) = true ∧ Binds K fd ps []
end
section
variable {X : Cx} {K : PySem.W.Frag} {E : XK} {A : FA} {g : Fn} {e : Expr} {es : List Expr} {p pos : Pos} {k n : Nat} {x : Str}
theorem run_g {CX : CXT} {f : Addr} {fd : FuncData} {ps : List Str} {sp : Sp} {pins : List (Addr × Obj)} {σ : L2.St} {H : Hp} {s : Shared} {Q : VK} {us : List Value} {vs : List V} (F : FnG X.prog X.w X.K X.mg X.base CX k f fd ps sp) (hr : Room k X.A) (gd : X.A.guards = some [])
    (hb : Binds X.K fd ps []) (hx : Passes CX X E) (I : Inv X pins σ H s) (r : Vals vs us) (h : sp vs H Q E) : wpAny (model X.prog X.w) X.A (call (.ref f) us) (EP X pins σ Q) X.xe s := by
  have hl : us.length = ps.length := by rw [← r.length]; exact F.len _ _ _ _ h
  have hb2 := hb s us I.kIn (by rw [List.append_nil]; exact hl)
  rw [List.append_nil] at hb2
  refine wpAny_call (codeAny_mono (F.run X.A X.stack s H ⟨us, []⟩ us vs Q E hr gd I.env0 hb2 r h) fun res s' hq => ?_)
  cases res with
  | error e => exact hx pins σ H s e s' I hq
  | ok fl =>
    cases fl with
    | ret u => exact I.after hq
    | next => exact hq.elim
    | brk => exact hq.elim
    | cont => exact hq.elim
theorem d_callG (c : CalG X.prog X.w X.K X.mg X.base x k n g) (hr : Room k X.A) (gd : X.A.guards = some []) (hg : Gl X x) (hx : Passes (L2.CX X.prog X.w) X E) (ha : PA X (e :: es) (tDA K E A)) (hK : X.K = K := by rfl) (hdb : (x == ("__debug__" : Str)) = false := by decide)
    (he : starEach (e :: es) X.env = (false, eval e X.env) :: starEach es X.env := by rfl) (hpl : (backTo pos (starEach es X.env)).any (·.1) = false := by rfl) : PE X (.Call (.Name x p) (e :: es) [] pos) (tD K E (fCall g n A)) := by
  subst hK
  obtain ⟨f, fd, ps, F, hm, hk, hb⟩ := c.ex
  refine ⟨fun pins s σ H Q I h => ?_⟩
  refine wpAny_Call_Name_kw (ld_glob I hg hm ?_ hdb)
  refine PySem.W.callWith_K (h₀ := X.base) I.ok.mod.kin hk (thn (ha.run pos pins s σ H _ I (sp_to h)) fun us s1 ⟨vs, H1, I1, r, q⟩ => ⟨I1.kIn, ?_⟩) he hpl
  have q : spD X.K n g (vs ++ []) H1 Q E := q
  rw [List.append_nil] at q
  exact run_g F hr gd hb hx I1 r q
/-! ### repr -/
def rReprL (K : PySem.W.Frag) : List V → Hp → VK → Prop := fun xs H Q => ∃ a d, xs = [.ref a] ∧ Dp K H (.ref a) d ∧ d.showable = true ∧ d.hasDict = false ∧ d.shown.length ≤ sizeLine ∧ d.depth ≤ 60 ∧ Q (.str d.shown) H
theorem c_reprL (gd : X.A.guards = some []) (hu : X.A.units + 64 < cLine) (hK : X.K = K := by rfl) : CallR X (.builtin "repr") (rReprL K) := by
  subst hK
  intro pins s σ H xs us Q I r h
  obtain ⟨a, d, rfl, dp, h1, h2, h3, h4, q⟩ := h
  obtain ⟨u, rfl, ru⟩ := vals1 r
  cases ru
  obtain ⟨as, rd⟩ := Dp.reads I d _ _ dp rfl
  exact repr_of_reads' rd h1 (fun z => by rw [h2] at z; cases z) gd (by omega) (fun _ _ z => z) (fun h' u tk kk => ⟨.str _, H, I.kept kk, ⟨_, rfl⟩, q⟩) h3
structure ShO (d : D) : Prop where
  sq : ∃ es, seqD d = some es
  lay : (toP d).canLay0 = true
  sho : (toP d).showable = true
  nod : (toP d).hasDict = false
  sz : (toP d).shown.length ≤ sizeLine
  dep : (toP d).depth ≤ 60
def rReprB : List V → Hp → VK → Prop := fun xs H Q => ∃ b, xs = [.bl b] ∧ Q (.str (if b then "True" else "False")) H
def rReprA (K : PySem.W.Frag) : List V → Hp → VK → Prop := fun xs H Q => (rRepr xs H Q ∨ rReprB xs H Q) ∨ rReprL K xs H Q
theorem c_reprA (gd : X.A.guards = some []) (hu : X.A.units + 64 < cLine) (hK : X.K = K := by rfl) : CallR X (.builtin "repr") (rReprA K) := callR_or (callR_or c_repr call_reprB) (c_reprL gd hu hK)
def RReprA (ds : List D) (Q : D → Prop) : Prop := (RRepr ds Q ∨ ∃ b, ds = [.bl b] ∧ Q (.str (if b then "True" else "False"))) ∨ ∃ d, ds = [d] ∧ ShO d ∧ Q (.str (toP d).shown)
theorem s_reprA : CSnd K (rReprA K) RReprA := fun W H xs ds Q Qh s rr h kk => by
  rcases h with (h | ⟨b, z, q⟩) | ⟨d, z, o, q⟩
  · exact .inl (.inl (s_repr W H xs ds Q Qh s rr h kk))
  · subst z
    obtain ⟨v, rfl, r⟩ := ts1 rr
    exact .inl (.inr ⟨b, by rw [r.bl_inv], kk _ W H _ (Ex.refl s) (.str _) q⟩)
  · subst z
    obtain ⟨v, rfl, r⟩ := ts1 rr
    obtain ⟨es, hes⟩ := o.sq
    obtain ⟨a, vs, rfl, _⟩ := r.seq_inv s hes
    exact .inr ⟨a, _, rfl, (r.full s).dp o.lay, o.sho, o.nod, o.sz, o.dep, kk _ W H _ (Ex.refl s) (.str _) q⟩
end
/-! ### the law's end -/
section
variable {P : Program} {w : World} {K : PySem.W.Frag} {mg mb : Str → Option Value} {k : Nat} {fa a : Addr} {fd : FuncData} {x : Str} {sp : Sp} {s1 : Shared} {vs : List Value} {ns : List Int}
theorem law_callG (inK : K.In s1.heap) (hns : s1.heap.Ns mainGlobals mg) (hb : s1.heap.Ns builtinsNs mb) (hbb : ∀ y : Str, y ≠ "__name__" → mb y = bootBuiltins y) (nl : s1.heap.NoLimit) (ng : s1.gens = #[])
    (ha : s1.heap.get? a = some { cls := .type "list", data := .seq vs.toArray }) (hi : IntsAre vs ns) (hl : ns.length ≤ sizeLine) (room : Room k callerA)
    (F : ∀ base : Heap, K.In base → base.Ns mainGlobals mg → FnG P w K mg base (L2.CX P w) k fa fd [x] sp) (bnd : ∀ (s : Shared) (u : Value), BindsTo s fd ⟨[u], []⟩ [(x, u)])
    (want : ∀ H : Hp, Only H → SqL K H a (ns.map V.int) → sp [.ref a] H (fun v _ => v = .bl true) fun _ _ _ => False) :
    codeAny (model P w) callerA (.call (.ref fa) ⟨[.ref a], []⟩) (fun r s' => r = .ok (.ret (.bool true)) ∧ OldK s1.heap s'.heap ∧ s'.os = s1.os ∧ AllBare s'.gens) s1 := by
  have rv := vals_ints hi
  have lenV := hi.length
  have main : ∀ H : Hp, Only H → SqL K H a (ns.map V.int) → HOk P w H s1.heap → (∀ b, H b ≠ none → b = a) → (H a ≠ none → K.lookup a = none) →
      codeAny (model P w) callerA (.call (.ref fa) ⟨[.ref a], []⟩) (fun r s' => r = .ok (.ret (.bool true)) ∧ OldK s1.heap s'.heap ∧ s'.os = s1.os ∧ AllBare s'.gens) s1 := by
    intro H only sq hok onlyA noK
    have notA : ∀ {b : Addr}, b ≠ a → H b = none := fun {b} nb => by
      cases q : H b with
      | none => rfl
      | some u => exact absurd (onlyA b (by rw [q]; simp)) nb
    have dictN : ∀ {b : Addr} {o : Obj} {es : Array DictEntry} {ep : Nat}, s1.heap.get? b = some o → o.data = .dict es ep → H b = none := fun {b o es ep} e d => notA fun z => by
      subst z
      rw [ha] at e
      cases e
      cases (show Data.seq vs.toArray _ = Data.dict es ep from d)
    have nsN : ∀ {b : Addr} {m : Str → Option Value}, s1.heap.Ns b m → (hidT s1.heap H).Ns b m := fun {b m} ⟨o, es, ep, e, d, r⟩ => ⟨o, es, ep, hidT_get e (dictN e d), d, r⟩
    have kN : ∀ b o, K.lookup b = some o → H b = none := fun b o e => by
      cases q : H b with
      | none => rfl
      | some u =>
        have z := onlyA b (by rw [q]; simp)
        subst z
        rw [noK (by rw [q]; simp)] at e
        cases e
    have hKb : K.In (hidT s1.heap H) := fun b o e => hidT_get (inK b o e) (kN b o e)
    have md : Mod K mg (hidT s1.heap H) := ⟨hKb, nsN hns, ⟨mb, nsN hb, hbb⟩, let ⟨mc, n1, n2⟩ := nl; ⟨mc, nsN n1, n2⟩⟩
    have ev : Env0 P w K mg (hidT s1.heap H) callerA [] s1 H := ⟨rfl, md, fun b o e => of_hidT e, Nat.le_of_eq (hidT_size _ _), trivial, (fun b hb => (nomatch (show b ∈ ([] : List Addr) from hb))), hok, .of_eq ng⟩
    refine codeAny_mono ((F _ hKb (nsN hns)).run callerA [] s1 H ⟨[.ref a], []⟩ [.ref a] [.ref a] _ _ room rfl ev (bnd s1 (.ref a)) (.cons rfl .nil) (want H only sq)) fun r s' h => ?_
    cases r with
    | error e =>
      obtain ⟨_, _, _, _, _, _, _, _, _, _, _, _, hE⟩ := h
      exact hE.elim
    | ok fl =>
      cases fl with
      | next => exact h.elim
      | brk => exact h.elim
      | cont => exact h.elim
      | ret u =>
        obtain ⟨v, H', os, bare, un, hok', r', q⟩ := h
        have q : v = .bl true := q
        subst q
        obtain rfl : u = Value.bool true := r'
        refine ⟨rfl, OldK.of_keep fun b o e => ?_, os, bare⟩
        rcases only b with z | ⟨ob, xs, z⟩
        · exact un.keep b o e z (fun y => (nomatch (show b ∈ ([] : List Addr) from y))) (by simp)
        · obtain ⟨e1, _⟩ := hok b _ z
          obtain ⟨e2, _⟩ := hok' b _ (un.frzs b ob _ z)
          rw [e] at e1
          cases e1
          exact e2
  cases hk : K.lookup a with
  | some o =>
    have e := inK a o hk
    rw [ha] at e
    cases e
    exact main (fun _ => none) (fun _ => .inl rfl) (.inr ⟨_, vs.toArray, _, hk, rfl, rfl, rfl, by rw [List.size_toArray, lenV]; exact hl, by simpa using rv⟩) (fun b u z => by cases (show (none : Option HO) = some u from z)) (fun b z => absurd rfl z) fun z => absurd rfl z
  | none =>
    refine main (fun b => if b = a then some (.frz { cls := .type "list", data := .seq vs.toArray } (.lst (ns.map V.int))) else none) (fun b => ?_) (.inl (.inr ⟨_, if_pos rfl⟩)) (fun b u z => ?_) (fun b z => ?_) fun _ => hk
    · by_cases hb : b = a
      · exact .inr ⟨_, _, if_pos hb⟩
      · exact .inl (if_neg hb)
    · by_cases hb : b = a
      · have z := (if_pos hb).symm.trans z
        cases z
        subst hb
        exact ⟨ha, by rw [List.length_map]; exact hl, vs, _, rv, ha⟩
      · have z := (if_neg hb).symm.trans z
        cases z
    · by_cases hb : b = a
      · exact hb
      · exact absurd (if_neg hb) z
end
theorem walk_ofG {l : PySem.W.OpenLaw} {n k : Nat} {q : Program} {loose : List Str} {XP : (Str → Option Value) → Heap → Prop} {YP : World → Heap → Prop} {d : DefRec} {K : Params → PySem.W.Frag} {sp : World → Sp} {x : Str}
    (hn : l.most = some n) (hn2 : n ≤ sizeLine) (hdf : d.params.defaults = []) (hr : Room k callerA) (hY : ∀ (w : World) (h : Heap), YP w h → (K w.params).In h)
    (F : ∀ (w : World) (mg : Str → Option Value) (fa : Addr) (h : Heap), (K w.params).In h → h.Ns mainGlobals mg → mg d.name = some (.ref fa) →
      ∃ fd : FuncData, (∀ (s : Shared) (u : Value), BindsTo s fd ⟨[u], []⟩ [(x, u)]) ∧ ∀ base : Heap, (K w.params).In base → base.Ns mainGlobals mg → FnG l.prog w (K w.params) mg base (L2.CX l.prog w) k fa fd [x] (sp w))
    (hsp : ∀ (w : World) (H : Hp) (a : Addr) (ns : List Int), ns.length ≤ n → Only H → SqL (K w.params) H a (ns.map V.int) → sp w [.ref a] H (fun v _ => v = .bl true) fun _ _ _ => False) :
    PySem.W.WalkO q loose XP YP l.row.toRowW d [] (fun f vs => PySem.call f vs) := by
  refine Att.attach_call hn hdf fun w s0 s1 mg mb fa o pm cd doc a vs ns G Y ho hd hcd hmg hobj hints hlen hg => ?_
  have inK := hY w _ Y
  obtain ⟨fd, hb, hF⟩ := F w mg fa _ inK G.T.g hmg
  exact law_callG inK G.T.g G.T.b G.T.builtins G.T.nolimit hg hobj hints (Nat.le_trans hlen hn2) hr hF hb (fun H hO hS => hsp w H a ns hlen hO hS)
end Pu

set_option Elab.async false
set_option maxRecDepth 100000
set_option linter.all false
set_option maxHeartbeats 1000000
/-! Pure layer: code that is never reached; methods behind len, [], in, str; lists of pairs, sorted; max with a default. -/
namespace Pu
open PySem PySem.Spec PyProof.Rows L2 Ly
section
variable {X : Cx} {K : PySem.W.Frag} {E : XK} {W0 H0 : Hp} {e : Expr} {st : Stmt}
def sNo : FS := fun _ _ => False
def fNo : FE := fun _ _ _ => False
theorem d_noS : PS X st (tDS K W0 H0 E sNo) := ⟨fun pins s σ H D I ⟨_, _, _, _, q, _⟩ => q.elim⟩
theorem d_noE : PE X e (tD K E fNo) := ⟨fun pins s σ H D I ⟨_, _, _, _, _, _, _, q, _⟩ => q.elim⟩
end
/-! ### methods behind builtins -/
structure CalS (P : Program) (w : World) (K : PySem.W.Frag) (mg : Str → Option Value) (base : Heap) (C : Addr) (m : Str) (k n : Nat) (g : Fn) : Prop where
  ex : ∃ ps, CalM P w K mg base (L2.CX P w) C m k ps (spD K n g)
section
variable {X : Cx} {K : PySem.W.Frag} {E : XK} {C : Addr} {k : Nat} {g : Fn} {F G : FE} {a b : Expr} {pos : Pos}
/-- a call whose end is a plain value, by what is seen at the top -/
theorem sp_top {W H : Hp} {xs : List V} {ds : List D} {Qd : D → Prop} {Qh : VK} {n : Nat} (s : Gx W H) (r : RepTs K W H xs ds) (hn : ds.length = n) (q : g ds Qd F0) (k : ∀ v W' H' d, Ex H H W' H' → Rep K W' v d → Qd d → Qh v H') : spD K n g xs H Qh E0 := by
  have full : ∀ {xs : List V} {ds : List D}, RepTs K W H xs ds → RepAll K H xs ds := by
    intro xs ds h
    induction h with
    | nil => exact .nil
    | cons h _ ih => exact .cons (h.full s) ih
  exact ⟨H, ds, Qd, F0, Gx.refl _, full r, hn, q, k, fun _ _ _ _ _ _ _ z => z.elim⟩
theorem ex_low {W H W' H' : Hp} (s : Gx W H) (e : Ex H H W' H') : Ex W H W H' := ⟨e.h, Gx.refl _, s.trans e.h, fun _ _ h => .inl h⟩
/-- len(o) -/
def RLenO (C : Addr) (g : Fn) (ds : List D) (Q : D → Prop) : Prop := ∃ ns es, ds = [.obj C ns es] ∧ g ds (fun v => ∃ n : Int, v = .int n ∧ 0 ≤ n ∧ n < 2 ^ 63 ∧ Q (.int n)) F0
theorem c_lenO (c : CalS X.prog X.w X.K X.mg X.base C "__len__" k 1 g) (hr : Room (k + 1) X.A) (hK : X.K = K := by rfl) : CallR X (.builtin "len") (rLenO C (spD K 1 g) E0) := by
  subst hK
  obtain ⟨ps, M⟩ := c.ex
  exact call_lenO M hr passL
theorem s_lenO : CSnd K (rLenO C (spD K 1 g) E0) (RLenO C g) := fun W H xs ds Q Qh s rr ⟨ns, es, z, q⟩ kk => by
  subst z
  obtain ⟨v, rfl, r⟩ := ts1 rr
  obtain ⟨p, dx, fs, rfl, h2, _⟩ := r.obj_inv s
  exact ⟨p, dx, fs, rfl, h2, sp_top s rr rfl q fun v W' H' d e r ⟨n, z, h0, h1, q2⟩ => by
    subst z
    cases r
    exact ⟨n, rfl, h0, h1, kk _ W H' _ (ex_low s e) (.int _) q2⟩⟩
/-- str(o) -/
def rStrO (C : Addr) (sp : Sp) (E : XK) : List V → Hp → VK → Prop := fun xs H Q => ∃ a dx fs, xs = [.ref a] ∧ H a = some (.ins C dx fs) ∧ sp [.ref a] H (fun v H' => ∃ z, v = .str z ∧ Q (.str z) H') E
theorem c_strO (c : CalS X.prog X.w X.K X.mg X.base C "__str__" k 1 g) (hr : Room (k + 2) X.A) (hK : X.K = K := by rfl) : CallR X (.type "str") (rStrO C (spD K 1 g) E0) := by
  subst hK
  obtain ⟨ps, M⟩ := c.ex
  intro pins s σ H xs us Q I r h
  obtain ⟨a, dx, fs, rfl, ha, q⟩ := h
  obtain ⟨u, rfl, ru⟩ := vals1 r
  obtain rfl : u = Value.ref a := ru
  obtain ⟨f, fd, hm, hf, F, hb⟩ := M.ex
  obtain ⟨mA, J, _⟩ := ins_get I.hok ha
  obtain ⟨od, J, _⟩ := J.look
  refine PySem.W.kso_call (by have := hr.un; show X.A.units + 1 + 1 < cLine; omega) I.kIn J hm.at_ hm.fn ?_
  refine thn (run_at (vs := [.ref a]) rfl F hr.in1.in1 hb passL I (.cons rfl .nil) q) fun v s' ⟨y, H', I', ry, z, hz, q'⟩ => ?_
  subst hz
  obtain ⟨t, rfl⟩ : ∃ t, v = Value.str z t := ry
  exact ⟨.str z, H', I', ⟨_, rfl⟩, q'⟩
def RStrO (C : Addr) (g : Fn) (ds : List D) (Q : D → Prop) : Prop := ∃ ns es, ds = [.obj C ns es] ∧ g ds (fun v => ∃ z, v = .str z ∧ Q (.str z)) F0
theorem s_strO : CSnd K (rStrO C (spD K 1 g) E0) (RStrO C g) := fun W H xs ds Q Qh s rr ⟨ns, es, z, q⟩ kk => by
  subst z
  obtain ⟨v, rfl, r⟩ := ts1 rr
  obtain ⟨p, dx, fs, rfl, h2, _⟩ := r.obj_inv s
  exact ⟨p, dx, fs, rfl, h2, sp_top s rr rfl q fun v W' H' d e r ⟨n, z, q2⟩ => by
    subst z
    cases r
    exact ⟨n, rfl, kk _ W H' _ (ex_low s e) (.str _) q2⟩⟩
/-- y in o -/
def RInO (C : Addr) (g : Fn) (neg : Bool) : D → D → (D → Prop) → Prop := fun a b Q => (∃ ns ds, b = .obj C ns ds) ∧ g [b, a] (fun d => ∃ c, d = .bl c ∧ Q (.bl (neg != c))) F0
theorem op_inM (c : CalS X.prog X.w X.K X.mg X.base C "__contains__" k 2 g) (hr : Room k X.A) (hK : X.K = K := by rfl) : OpR X (compareOp .In) (rInO C (spD K 2 g) E0 false) := by
  subst hK
  obtain ⟨ps, M⟩ := c.ex
  exact op_inO M hr passL
theorem op_notInM (c : CalS X.prog X.w X.K X.mg X.base C "__contains__" k 2 g) (hr : Room k X.A) (hK : X.K = K := by rfl) : OpR X (compareOp .NotIn) (rInO C (spD K 2 g) E0 true) := by
  subst hK
  obtain ⟨ps, M⟩ := c.ex
  exact op_notInO M hr passL
theorem s_inO {neg : Bool} : RSnd K (rInO C (spD K 2 g) E0 neg) (RInO C g neg) := fun W H x y a b Q Qh s r1 r2 ⟨⟨ns, ds, hb⟩, q⟩ kk => by
  subst hb
  obtain ⟨p, dx, fs, rfl, h2, _⟩ := r2.obj_inv s
  exact ⟨p, dx, fs, rfl, h2, sp_top s (.cons r2 (.cons r1 .nil)) rfl q fun v W' H' d e r ⟨c, z, q2⟩ => by
    subst z
    cases r
    exact ⟨c, rfl, kk _ W H' _ (ex_low s e) (.bl _) q2⟩⟩
/-- o[i] -/
def fIxO (C : Addr) (g : Fn) (F G : FE) : FE := fun ρ Q Z => F ρ (fun a => (∃ ns ds, a = .obj C ns ds) ∧ G ρ (fun b => g [a, b] Q Z) Z) Z
theorem d_ixO (c : CalS X.prog X.w X.K X.mg X.base C "__getitem__" k 2 g) (hr : Room (k + 1) X.A) (hx : Passes (L2.CX X.prog X.w) X E) (ha : PE X a (tD K E F)) (hb : PE X b (tD K E G)) (hK : X.K = K := by rfl)
    (hsl : ∀ (x : Addr) (i : Value), subscripted b true (.ref x) i = runValue (.builtin "lifetime.subscript" ⟨[.ref x, i], []⟩) := by intro _ _; with_unfolding_all rfl) : PE X (.Subscript a b pos) (tD K E (fIxO C g F G)) := by
  subst hK
  obtain ⟨ps, M⟩ := c.ex
  obtain ⟨f, fd, hm, hf, Fn', hbi⟩ := M.ex
  refine ⟨fun pins s σ H Q I h => ?_⟩
  obtain ⟨W0, H0, W, ρ, Qd, Z, st, fq, kk, xc⟩ := h
  have hq : (tD X.K E F) σ H fun x H1 => (tD X.K E G) σ H1 fun y H2 => ∃ p dx fs, x = .ref p ∧ H2 p = some (.ins C dx fs) ∧ spD X.K 2 g [x, y] H2 Q E := by
    refine ⟨W0, H0, W, ρ, _, Z, st, fq, fun v W1 H1 d e1 r1 ⟨⟨ns, ds, z⟩, q1⟩ => ?_, xc⟩
    subst z
    refine ⟨W0, H0, W1, ρ, _, Z, st.ext e1, q1, fun v2 W2 H2 d2 e2 r2 q2 => ?_, xc.ext e1⟩
    have r1' := r1.gx e2.w
    cases r1 with
    | @obj p _ dx fs _ _ g1 g2 g3 =>
      exact ⟨p, dx, fs, rfl, e2.h _ _ (e1.s _ _ g1), W2, _, Qd, Z, e2.s, .cons r1' (.cons r2 .nil), rfl, q2, fun v W3 H3 d e3 r3 q3 => kk v W3 H3 d ((e1.trans e2).trans e3) r3 q3, xc.ext (e1.trans e2)⟩
  exact Subscript_ (binT ha hb I hq fun v u s2 x y H2 I2 rx ry ⟨p, dx, fs, z, hp, q⟩ => by
    subst z
    cases rx
    obtain ⟨mA, J, _⟩ := ins_get I2.hok hp
    obtain ⟨od, J, _⟩ := J.look
    obtain ⟨m, hF⟩ := I2.fr
    exact PySem.W.sub_K hF I2.ok.mod.kin J hm.at_ hf hm.fn (run_at (vs := [.ref p, y]) rfl Fn' hr.in1 hbi hx I2 (.cons rfl (.cons ry .nil)) q) (hsl _ _))
end
/-! ### list(d.items()) -/
section
variable {X : Cx} {K : PySem.W.Frag} {E : XK} {F : FDi} {e : Expr} {p apos cpos pos : Pos}
/-- a dict that stands as it is -/
def tDX (K : PySem.W.Frag) (E : XK) (F : FDi) : TE := fun σ H Qh => ∃ W0 H0 W ρ Q Z, Sat K W0 H0 W ρ σ H ∧ F ρ Q Z ∧
  (∀ p kvs W' H' ds, Ex W H W' H' → H' p = some (.dK kvs) → RepAll K W' (kvs.map Prod.snd) ds → kvs.length ≤ sizeLine → Q (kvs.map Prod.fst) ds → Qh (.ref p) H') ∧ XC K E W H Z
theorem d_ddx (h : PE X e (tDD K E F)) : PE X e (tDX K E F) := h.mono fun σ H Qh ⟨W0, H0, W, ρ, Q, Z, st, f, k, x⟩ => ⟨W0, H0, W, ρ, Q, Z, st, f, fun p kvs W' H' ds ex _ _ h' r n q => k p kvs W' H' ds ex h' r n q, x⟩
def fVarX (i : Nat) : FDi := fun ρ Q _ => ∃ ks ds, ρ[i]? = some (.dic ks ds) ∧ Q ks ds
theorem d_varX {x : Str} {i : Nat} (h : PE X (.Name x pos) (tVar i)) : PE X (.Name x pos) (tDX K E (fVarX i)) := h.mono fun σ H Qh ⟨W0, H0, W, ρ, Q, Z, st, ⟨ks, ds, hi, q⟩, k, _⟩ => by
  obtain ⟨p, kvs, h1, h2, h3, h4, h5⟩ := st.ownD hi
  exact ⟨.ref p, h1, k p kvs W H ds (Ex.refl st.see) h2 h4 h5 (by rw [h3]; exact q)⟩
def fItems (F : FDi) : FA := fun ρ Q Z => F ρ (fun ks ds => Q (itemsD ks ds)) Z
theorem paired_rep {W' : Hp} : ∀ {ts : List Addr} {kvs : List (Key × V)} {ds : List D}, Paired (fun (t : Addr) (q : Key × V) => W' t = some (.tup [kV q.1, q.2])) ts kvs → RepAll K W' (kvs.map Prod.snd) ds → RepAll K W' (ts.map V.ref) (itemsD (kvs.map Prod.fst) ds)
  | [], [], [], .nil, .nil => .nil
  | t :: ts, q :: kvs, d :: ds, .cons h hs, .cons r rs => by
    show RepAll K W' (V.ref t :: ts.map V.ref) (.tup [kD q.1, d] :: itemsD (kvs.map Prod.fst) ds)
    exact .cons (.tup (SqT.of h) (.cons (rep_kV q.1) (.cons r .nil)) (show 2 ≤ sizeLine by decide)) (paired_rep hs rs)
theorem d_items (hc : X.calm = true) (he : PE X e (tDX K E F)) (hg : Gl X "list") (hm : X.mg "list" = none) (hv : bootBuiltins "list" = some (.type "list")) (hbase : attributeBase e "items" X.env (eval e X.env) = eval e X.env := by rfl) (hline : (apos.endLine == cpos.line) = true := by rfl)
    (hs : starEach [.Call (.Attribute e "items" apos) [] [] cpos] X.env = (false, eval (.Call (.Attribute e "items" apos) [] [] cpos) X.env) :: starEach [] X.env := by rfl) : PE X (.Call (.Name "list" p) [.Call (.Attribute e "items" apos) [] [] cpos] [] pos) (tD K E (fNew (fItems F))) :=
  (LiI.pe_listItems hc he hg hm hv hbase hline hs).mono fun σ H Qh ⟨W0, H0, W, ρ, Q, Z, st, f, k, x⟩ => ⟨W0, H0, W, ρ, _, Z, st, f, fun p kvs W1 H1 ds e1 h' r n q => ⟨p, kvs, rfl, h', fun H2 l ts gx hl ht hlt h2 pr => by
    let W2 : Hp := fun c => open Classical in if c = l ∨ c ∈ ts then H2 c else W1 c
    have g1 : Gx H1 H2 := gx
    have lo : ∀ c, (c = l ∨ c ∈ ts) → H1 c = none := fun c hc => by
      rcases hc with rfl | hc
      · exact hl
      · exact ht c hc
    have gw : Gx W1 W2 := fun c u hc => by
      show (if c = l ∨ c ∈ ts then H2 c else W1 c) = _
      rw [if_neg]
      · exact hc
      · intro z
        have := lo c z
        rw [e1.s _ _ hc] at this
        cases this
    have gs : Gx W2 H2 := fun c u hc => by
      have hc : (if c = l ∨ c ∈ ts then H2 c else W1 c) = some u := hc
      by_cases z : c = l ∨ c ∈ ts
      · rw [if_pos z] at hc
        exact hc
      · rw [if_neg z] at hc
        exact g1 _ _ (e1.s _ _ hc)
    have ex2 : Ex W1 H1 W2 H2 := ⟨g1, gw, gs, fun c u hc => by
      have hc : (if c = l ∨ c ∈ ts then H2 c else W1 c) = some u := hc
      by_cases z : c = l ∨ c ∈ ts
      · exact .inr (lo c z)
      · rw [if_neg z] at hc
        exact .inl hc⟩
    have wl : W2 l = some (.lst (ts.map V.ref)) := by
      show (if l = l ∨ l ∈ ts then H2 l else W1 l) = _
      rw [if_pos (.inl rfl)]
      exact h2
    have pr2 : Paired (fun (t : Addr) (q : Key × V) => W2 t = some (.tup [kV q.1, q.2])) ts kvs := by
      have key : ∀ {as : List Addr} {bs : List (Key × V)}, (∀ t ∈ as, t ∈ ts) → Paired (fun (t : Addr) (q : Key × V) => H2 t = some (.tup [kV q.1, q.2])) as bs → Paired (fun (t : Addr) (q : Key × V) => W2 t = some (.tup [kV q.1, q.2])) as bs := by
        intro as bs sub pp
        induction pp with
        | nil => exact .nil
        | @cons a b as bs h _ ih =>
          refine .cons ?_ (ih fun t m => sub t (List.mem_cons_of_mem _ m))
          show (if a = l ∨ a ∈ ts then H2 a else W1 a) = _
          rw [if_pos (.inr (sub a (List.mem_cons_self ..)))]
          exact h
      exact key (fun _ m => m) pr
    have lts : ts.length = kvs.length := Paired.length pr
    exact k _ W2 H2 _ (e1.trans ex2) (.lst wl (paired_rep pr2 (r.gx gw)) (by rw [List.length_map, lts]; exact n)) q⟩, x⟩
end
/-! ### a property that gives a new dict -/
abbrev FnD := List D → (List Key → List D → Prop) → ZX → Prop
def spDD (K : PySem.W.Frag) (n : Nat) (g : FnD) : Sp := fun vs H Qh E => ∃ W ds Q Z, Gx W H ∧ RepAll K W vs ds ∧ ds.length = n ∧ g ds Q Z ∧
  (∀ p kvs W' H' es, Ex W H W' H' → H p = none → W' p = none → H' p = some (.dK kvs) → RepAll K W' (kvs.map Prod.snd) es → kvs.length ≤ sizeLine → Q (kvs.map Prod.fst) es → Qh (.ref p) H') ∧ XC K E W H Z
section
variable {P : Program} {w : World} {K : PySem.W.Frag} {mg : Str → Option Value} {base : Heap}
theorem fn_dd {x qual : Str} {st : Stmt} {f : Addr} {fd : FuncData} {N ps : List Str} {k n : Nat} {Fd : FDi} {e : Expr} {pos : Pos} (F : Fun K x qual st f fd) (Sc : FnScope N ps (defScope st)) (hn : ps.length = n) (hst : defBody st = [.Return (some e) pos])
    (hbody : ∀ (cdv : Value) (A : Around) (outer : List PySem.Env) (s : Shared) (H : Hp) (E : XK), Room k (A.deeper (envOfC qual (defScope st) s.heap.objs.size f cdv)) →
      PE (cxOf (L2.CX P w) P w K mg base N qual (defScope st) f cdv A outer s H E) e (tDD K E Fd)) : FnOk P w K mg base (L2.CX P w) (k + 1) f fd ps (spDD K n fun ds Q Z => Fd (startB N.length ds) Q Z) :=
  F.okX Sc (fun vs H Q E ⟨W, ds, _, _, _, r, hl, _⟩ => by rw [r.len, hl, hn]) fun cdv A outer s H vs Q E hr ⟨W, ds, Qd, Z, sw, r, hl, hf, k, x⟩ =>
    ⟨tRet (tDD K E Fd), by rw [hst]; exact pss_one (ps_ret (hbody cdv A outer s H E hr)), W, H, W, startB N.length ds, Qd, Z, rep_start sw rfl r, hf, k, x⟩
structure CalPD (P : Program) (w : World) (K : PySem.W.Frag) (mg : Str → Option Value) (base : Heap) (C : Addr) (m : Str) (k : Nat) (g : FnD) : Prop where
  cl : Cls K C
  ex : ∃ (p f : Addr) (fd : FuncData) (ps : List Str), PropOf K C m p f ∧ FnOk P w K mg base (L2.CX P w) k f fd ps (spDD K 1 g) ∧ Binds K fd ps []
end
section
variable {X : Cx} {K : PySem.W.Frag} {E : XK} {W0 H0 : Hp} {F : FE} {Fd : FDi} {g : FnD} {o e : Expr} {k : Nat} {m : Str} {C : Addr} {pos apos cpos : Pos}
def fPropD (C : Addr) (g : FnD) (F : FE) : FDi := fun ρ Q Z => F ρ (fun d => ∃ ns ds, d = .obj C ns ds ∧ g [d] Q F0) Z
theorem d_propD (c : CalPD X.prog X.w X.K X.mg X.base C m k g) (hr : Room (k + 1) X.A) (ho : PE X o (tD K E F)) (hab : attributeBase o m X.env (eval o X.env) = eval o X.env) (hK : X.K = K := by rfl) : PE X (.Attribute o m pos) (tDD K E (fPropD C g F)) := by
  subst hK
  obtain ⟨p, f, fd, ps, hp, F, hb⟩ := c.ex
  refine (pe_prop ho c.cl hp F hr hb .nil (passL (X := X.nox)) hab).mono fun σ H Qh ⟨W0, H0, W, ρ, Q, Z, st, f, k, x⟩ => ⟨W0, H0, W, ρ, _, Z, st, f, fun v W1 H1 d e1 r ⟨ns, ds, z, q⟩ => ?_, x⟩
  subst z
  cases r with
  | @obj a _ dx fs _ _ h1 h2 h3 =>
    exact ⟨a, dx, fs, rfl, e1.s _ _ h1, W1, _, Q, F0, e1.s, .one (.obj h1 h2 h3), rfl, q, fun p kvs W3 H3 es e3 hp hw h' r3 n q3 => k p kvs W3 H3 es (e1.trans e3) (e1.h.free hp) hw h' r3 n q3, xc0⟩
/-- e.clear(), e a new dict -/
def sClear (Fd : FDi) : FS := fun ρ De => Fd ρ (fun _ _ => De.nx ρ) De.ex
theorem d_clear (h : PE X o (tDD K E Fd)) (hs : swapsWith (.Call (.Attribute o "clear" apos) [] [] cpos) none pos.line X.env = pure false := by rfl) (hbase : attributeBase o "clear" X.env (eval o X.env) = eval o X.env := by rfl) (hline : (apos.endLine == cpos.line) = true := by rfl) :
    PS X (.Expr (.Call (.Attribute o "clear" apos) [] [] cpos) pos) (tDS K W0 H0 E (sClear Fd)) := (ps_expr (pe_dclear h hbase hline) hs).mono fun D σ H ⟨W, ρ, De, s, q, ok⟩ =>
  ⟨W0, H0, W, ρ, _, _, s, q, fun p kvs W' H' ds e hp hw h' r n z => ⟨.inr (.inr (.inl ⟨rfl, .inl ⟨kvs, h'⟩⟩)), p, kvs, rfl, rfl, h', ok.nx W' ρ σ _ e.w (s.ext (e.mut hp hw)) z⟩, ok.xc s⟩
end
end Pu

set_option Elab.async false
set_option maxRecDepth 100000
set_option linter.all false
set_option maxHeartbeats 1000000
/-! Pure layer: sorted(list of data), max(list, default=..), a, b, c = x, y, z. -/
namespace Pu
open PySem PySem.Spec PyProof.Rows L2 Ly PySem.W
section
variable {X : Cx} {K : PySem.W.Frag} {E : XK} {W0 H0 : Hp}
/-! ### sorted -/
theorem rep_each {W : Hp} {R : V → D → Prop} (h : ∀ v d, Rep K W v d → R v d) : ∀ {vs : List V} {ds : List D}, RepAll K W vs ds → EachIs R vs ds
  | _, _, .nil => .nil
  | _, _, .cons r rs => .cons (h _ _ r) (rep_each h rs)
theorem each_vals {R : V → D → Prop} : ∀ {vs : List V} {us : List Value} {ds : List D}, Vals vs us → EachIs R vs ds → EachIs (fun u d => ∃ v, R v d ∧ RelV v u) us ds
  | _, _, _, .nil, .nil => .nil
  | _, _, _, .cons r rs, .cons h hs => .cons ⟨_, h, r⟩ (each_vals rs hs)
theorem vals_each {R : V → D → Prop} : ∀ {us : List Value} {ds : List D}, EachIs (fun u d => ∃ v, R v d ∧ RelV v u) us ds → ∃ vs, Vals vs us ∧ EachIs R vs ds
  | _, _, .nil => ⟨[], .nil, .nil⟩
  | _, _, .cons ⟨v, h, r⟩ hs => by
    obtain ⟨vs, h1, h2⟩ := vals_each hs
    exact ⟨v :: vs, .cons r h1, .cons h h2⟩
theorem each_rep {W : Hp} : ∀ {vs : List V} {ds : List D}, EachIs (Rep K W) vs ds → RepAll K W vs ds
  | _, _, .nil => .nil
  | _, _, .cons h hs => .cons h (each_rep hs)
structure SrtO (xs : List D) : Prop where
  lay : ∀ x ∈ xs, (toP x).canLay0 = true
  ali : AllAlike (xs.map toP)
  srt : Sortable (xs.map toP)
  dep : ∀ x ∈ xs, (toP x).depth ≤ 60
def sortD (xs : List D) : List D := xs.mergeSort (dataLe false toP)
def rSortDt (K : PySem.W.Frag) : List V → Hp → VK → Prop := fun vs H Q => ∃ (a : Addr) (us : List V) (W : Hp) (xs : List D), vs = [.ref a] ∧ SqL K H a us ∧ Gx W H ∧ RepAll K W us xs ∧ SrtO xs ∧ ∀ us' p, RepAll K W us' (sortD xs) → H p = none → Q (.ref p) (upd H p (.lst us'))
theorem each_mem {α β : Type} {R S : α → β → Prop} : ∀ {as : List α} {bs : List β}, EachIs R as bs → (∀ a b, b ∈ bs → R a b → S a b) → EachIs S as bs
  | _, _, .nil, _ => .nil
  | _, _, .cons h hs, k => .cons (k _ _ (List.mem_cons_self ..) h) (each_mem hs fun a b m => k a b (List.mem_cons_of_mem _ m))
theorem c_sortDt (hu : X.A.units + 64 < cLine) (hK : X.K = K := by rfl) : CallR X (.builtin "sorted") (rSortDt K) := by
  subst hK
  intro pins s σ H vs us Q I r h
  obtain ⟨a, xs, W, ds, rfl, hs, sw, rp, so, q⟩ := h
  obtain ⟨its, rv, hl, hz⟩ := I.list hs
  rw [Vals.ref1 r]
  have e := each_vals rv (rep_each (R := Rep X.K W) (fun _ _ h => h) rp)
  have len1 := rp.len
  refine sorted_data (enc := toP) hl.isList e (each_mem e fun u d m ⟨v, rv', ru⟩ => Dp.reads I (toP d) v u ((rv'.gx sw).dp (so.lay d m)) ru) so.ali so.srt (by rw [← len1]; exact hz) (fun d m => by have := so.dep d m; omega) fun out hlen ho => ?_
  obtain ⟨vs', hv, hr⟩ := vals_each ho
  obtain ⟨ep, he⟩ := PyProof.Rows.sortedAll_at s.heap its out.toArray
  refine ⟨.ref _, upd H (s.heap.objs.size + 1) (.lst vs'), I.laid (t' := s.toks) (fun _ _ => PyProof.Rows.sortedAll_old) (Nat.le_succ _) ⟨?_, out, ep, hv, he⟩, rfl, q vs' _ (each_rep hr) (I.hok.fresh (Nat.le_succ _))⟩
  rw [hv.length, hlen, ← len1]
  exact hz
def RSortDt (ds : List D) (Q : List D → Prop) : Prop := ∃ xs, ds = [.lst xs] ∧ SrtO xs ∧ Q (sortD xs)
theorem s_sortDt : CSndN K (rSortDt K) RSortDt := fun W H xs ds Q Qh s rr ⟨ys, z, o, q⟩ k => by
  subst z
  obtain ⟨v, rfl, r⟩ := ts1 rr
  obtain ⟨a, vs, rfl, h2, h3, h4⟩ := r.lst_inv s
  exact ⟨a, vs, W, ys, rfl, SqL.of h2, s, h3, o, fun us' p r2 hp => k p us' W _ _ (Ex.hid s hp) hp (s.free hp) upd_same r2 (by rw [r2.len, sortD, List.length_mergeSort, ← h3.len]; exact h4) q⟩
/-! ### three at once -/
def sPar3 (i j l : Nat) (A : FA) : FS := fun ρ De => A ρ (fun ds => ∃ d f g, ds = [d, f, g] ∧ De.nx (((ρ.set i (.val d)).set j (.val f)).set l (.val g))) De.ex
theorem d_par3 {st : Stmt} {i j l : Nat} {A : FA} (h : PS X st (tPar3 i j l (tDA K E A))) : PS X st (tDS K W0 H0 E (sPar3 i j l A)) := h.mono fun D σ H ⟨W, ρ, De, s, q, o⟩ =>
  ⟨W0, H0, W, ρ, _, _, s, q, fun vs W' H' ds e r ⟨d, f, g, z, q⟩ => by
    subst z
    cases r with
    | cons r1 r =>
      cases r with
      | cons r2 r =>
        cases r with
        | cons r3 r =>
          cases r
          exact ⟨_, _, _, rfl, o.nx W' _ _ H' e.w ((((s.ext e).set r1).set r2).set r3) q⟩, o.xc s⟩
/-- a, b, c = x, [], z: the list is an own one -/
def sPar3L (i j l : Nat) (F G : FE) : FS := fun ρ De => F ρ (fun d => G ρ (fun f => De.nx (((ρ.set i (.val d)).set j (.lst [])).set l (.val f))) De.ex) De.ex
theorem Sat.set_comm {W H : Hp} {ρ : Pu.Env} {σ : L2.St} {i j : Nat} (hij : i ≠ j) {a b : B} {x y : Option V} (h : Sat K W0 H0 W ((ρ.set i a).set j b) ((σ.set i x).set j y) H) : Sat K W0 H0 W ((ρ.set j b).set i a) ((σ.set j y).set i x) H := by
  rw [List.set_comm _ _ hij, List.set_comm _ _ hij] at h
  exact h
theorem d_par3L {st : Stmt} {i j l : Nat} {F G : FE} (hij : i ≠ j) (hjl : j ≠ l) (h : PS X st (tPar3 i j l (tCons (tD K E F) (tCons (tLst tNil) (tCons (tD K E G) tNil))))) : PS X st (tDS K W0 H0 E (sPar3L i j l F G)) := h.mono fun D σ H ⟨W, ρ, De, s, q, o⟩ => by
  refine ⟨W0, H0, W, ρ, _, _, s, q, fun v W1 H1 d e1 r1 q1 => ⟨by decide, fun p hp => ?_⟩, o.xc s⟩
  have s1 := s.ext e1
  have e0 : Ex W1 H1 W1 (upd H1 p (.lst [])) := Ex.hid e1.s hp
  refine ⟨W0, H0, W1, ρ, _, _, s1.ext e0, q1, fun v2 W2 H2 d2 e2 r2 z => ?_, (o.xc s1).ext e0⟩
  have hw : W2 p = none := by
    cases c : W2 p with
    | none => rfl
    | some u =>
      rcases e2.n p u c with z | z
      · have z := e1.s _ _ z
        rw [hp] at z
        cases z
      · rw [upd_same] at z
        cases z
  have s2 := s1.put (i := j) (b := .lst []) (e0.trans e2) hp ⟨p, [], rfl, rfl, hw, s1.ex.h.free hp, e2.h _ _ upd_same, .nil, by decide⟩
  have s3 := (s2.set (i := i) (r1.gx (e0.trans e2).w)).set (i := l) r2
  refine ⟨_, _, _, rfl, o.nx W2 _ _ H2 ((e1.trans e0).trans e2).w ?_ z⟩
  rw [List.set_comm _ _ hij, List.set_comm (α := Option V) _ _ hij]
  exact s3
end
/-! ### max(list, default=..) -/
section
variable {prog : Program} {w : World} {A : Around} {I : Addr} {fp wr : List Addr} {n : Nat} {P : Nat → Value → Prop} {St : Nat → Heap → Prop}
theorem mx_args (a v : Value) : argsOk "max" ⟨[a], [(Str.ofString "default", v)]⟩ := by unfold argsOk; kernel_rfl
theorem mx_loop {R : Result → Shared → Prop} (dv : Value) (W : Walks prog w A.in1 I fp wr n P St) (bt : Nat → Nat → Bool) (hcmp : CmpOf prog w A.in1 .Gt P bt) (S : Addr) (nS : S ∉ fp) : ∀ (k j : Nat) (s : Shared) (vb : Value) (c : Nat), n - (j + 1) = k → j + 1 ≤ n → St (j + 1) s.heap → P (argBest bt j) vb →
    s.heap.get? S = some { cls := .type "list", dict := none, data := .seq #[vb, vb] c, slots := #[] } →
    (∀ v g tk, P (argBest bt (n - 1)) v → (∀ b o, b ∉ wr → b ≠ S → s.heap.get? b = some o → g.get? b = some o) → R (.ok (.ret v)) { s with heap := g, toks := tk }) →
    codeAny (model prog w) A (.builtin "max.loop" ⟨[.ref I, .none, .ref S], [(Str.ofString "default", dv)]⟩) R s := by
  have wS : S ∉ wr := fun h => nS (W.sub _ h)
  have nm : (toString "max" ++ toString ".loop" : String) = "max.loop" := by decide
  intro k
  induction k with
  | zero =>
    intro j s vb c hk hj hst hP hS hR
    have last : j + 1 = n := by omega
    refine codeAny_builtin F.entry_max_loop ?_
    rw [Around.under_plainId F.plain_max_loop _]
    show wpAny _ A.in1 (seqItems? (.ref S) >>= _) _ _ s
    refine wpAny_bind (wpAny_seqItems hS rfl ?_)
    show wpAny _ A.in1 (tryCatch (pyNext (.ref I)) _ >>= _) _ _ s
    refine wpAny_bind (wpAny_tryCatch (W.done s _ _ (last ▸ hst) fun g tk keep => ?_))
    have hS2 := keep S _ wS hS
    show wpAny _ A.in1 (updateSeq S (fun _ => #[]) >>= _) _ _ _
    refine wpAny_bind (wpAny_updateSeq hS2 rfl (wpAny_bind (wpAny_letGo (wpAny_pure ?_))))
    exact hR vb _ tk (by rw [← last]; exact hP) fun b o hb hbS e => (Heap.get?_update_other _ _ (Ne.symm hbS)).trans (keep b o hb e)
  | succ k ih =>
    intro j s vb c hk hj hst hP hS hR
    have more : j + 1 < n := by omega
    refine codeAny_builtin F.entry_max_loop ?_
    rw [Around.under_plainId F.plain_max_loop _]
    show wpAny _ A.in1 (seqItems? (.ref S) >>= _) _ _ s
    refine wpAny_bind (wpAny_seqItems hS rfl ?_)
    show wpAny _ A.in1 (tryCatch (pyNext (.ref I)) _ >>= _) _ _ s
    refine wpAny_bind (wpAny_tryCatch (W.item (j + 1) s _ _ more hst fun v g tk hP2 hst2 keep => ?_))
    have hS2 := keep S _ wS hS
    show wpAny _ A.in1 (tryCatch (holding [v, v] (richCompare .Gt v vb >>= _)) _ >>= _) _ _ _
    refine wpAny_bind (wpAny_tryCatch (wpAny_holding (wpAny_bind (hcmp (j + 1) (argBest bt j) v vb _ _ _ hP2 hP ?_))))
    refine wpAny_bind (wpAny_holding (wpAny_truthy_bool ?_))
    refine wpAny_bind (wpAny_letGo (wpAny_pure ?_))
    cases hb : bt (j + 1) (argBest bt j) with
    | true =>
      simp only [if_true]
      refine wpAny_bind (wpAny_updateSeq hS2 rfl (wpAny_bind (wpAny_letGo ?_)))
      rw [nm]
      refine wpAny_pure ⟨plainId_quiet F.plain_max_loop _, ih (j + 1) _ v _ (by omega) more (W.frame _ _ _ hst2 fun b hbf o e => ?_) (by simp only [argBest, hb, if_true]; exact hP2) (Heap.get?_update_self _ hS2 rfl) fun v' g' tk' hP' keep' => ?_⟩
      · exact (Heap.get?_update_other _ _ (fun h : S = b => nS (by rw [h]; exact hbf))).trans e
      · exact hR v' g' tk' hP' fun b o h1 h2 e => keep' b o h1 h2 ((Heap.get?_update_other _ _ (Ne.symm h2)).trans (keep b o h1 e))
    | false =>
      simp only [Bool.false_eq_true, if_false]
      refine wpAny_bind (wpAny_letGo ?_)
      rw [nm]
      refine wpAny_pure ⟨plainId_quiet F.plain_max_loop _, ih (j + 1) _ vb c (by omega) more hst2 (by simp only [argBest, hb, Bool.false_eq_true, if_false]; exact hP) hS2 fun v' g' tk' hP' keep' => ?_⟩
      exact hR v' g' tk' hP' fun b o h1 h2 e => keep' b o h1 h2 (keep b o h1 e)
theorem mx_first {R : Result → Shared → Prop} (dv : Value) (W : Walks prog w A.in1 I fp wr n P St) (bt : Nat → Nat → Bool) (hcmp : CmpOf prog w A.in1 .Gt P bt) (S : Addr) (nS : S ∉ fp) {s : Shared} {c : Nat} (hst : St 0 s.heap)
    (hS : s.heap.get? S = some { cls := .type "list", dict := none, data := .seq #[] c, slots := #[] })
    (hR : 0 < n → ∀ v g tk, P (argBest bt (n - 1)) v → (∀ b o, b ∉ wr → b ≠ S → s.heap.get? b = some o → g.get? b = some o) → R (.ok (.ret v)) { s with heap := g, toks := tk })
    (h0 : n = 0 → ∀ g tk, (∀ b o, b ∉ wr → b ≠ S → s.heap.get? b = some o → g.get? b = some o) → R (.ok (.ret dv)) { s with heap := g, toks := tk }) :
    codeAny (model prog w) A (.builtin "max.loop" ⟨[.ref I, .none, .ref S], [(Str.ofString "default", dv)]⟩) R s := by
  have wS : S ∉ wr := fun h => nS (W.sub _ h)
  have nm : (toString "max" ++ toString ".loop" : String) = "max.loop" := by decide
  refine codeAny_builtin F.entry_max_loop ?_
  rw [Around.under_plainId F.plain_max_loop _]
  show wpAny _ A.in1 (seqItems? (.ref S) >>= _) _ _ s
  refine wpAny_bind (wpAny_seqItems hS rfl ?_)
  show wpAny _ A.in1 (tryCatch (pyNext (.ref I)) _ >>= _) _ _ s
  by_cases hn : 0 < n
  · refine wpAny_bind (wpAny_tryCatch (W.item 0 s _ _ hn hst fun v g tk hP hst2 keep => ?_))
    have hS2 := keep S _ wS hS
    show wpAny _ A.in1 (updateSeq S (fun _ => #[v, v]) >>= _) _ _ _
    refine wpAny_bind (wpAny_updateSeq hS2 rfl ?_)
    rw [nm]
    refine wpAny_pure ⟨plainId_quiet F.plain_max_loop _, mx_loop dv W bt hcmp S nS _ 0 _ v _ rfl hn (W.frame _ _ _ hst2 fun b hbf o e => ?_) hP (Heap.get?_update_self _ hS2 rfl) fun v' g' tk' hP' keep' => ?_⟩
    · exact (Heap.get?_update_other _ _ (fun h : S = b => nS (by rw [h]; exact hbf))).trans e
    · exact hR hn v' g' tk' hP' fun b o h1 h2 e => keep' b o h1 h2 ((Heap.get?_update_other _ _ (Ne.symm h2)).trans (keep b o h1 e))
  · have hz : n = 0 := by omega
    refine wpAny_bind (wpAny_tryCatch (W.done s _ _ (hz ▸ hst) fun g tk keep => ?_))
    show wpAny _ A.in1 (rule _ >>= _) _ _ _
    refine wpAny_bind (wpAny_rule (wpAny_pure ?_))
    exact h0 hz g tk fun b o h1 h2 e => keep b o h1 e
end
end Pu

set_option Elab.async false
set_option maxRecDepth 100000
set_option linter.all false
set_option maxHeartbeats 1000000
/-! Pure layer: max(list, default=n). -/
namespace Pu
open PySem PySem.Spec PyProof.Rows L2 Ly PySem.W
section
variable {prog : Program} {w : World} {A : Around} {E : Value → Shared → Prop} {s : Shared} {l : Addr} {its : List Value} {ns : List Int} {Q : Value → Shared → Prop}
theorem max_def {d : Int} {t : Tok} (hh : A.handled = none) (hl : s.heap.IsList l its.toArray) (hi : IntsAre its ns)
    (h : ∀ g tk M t', (∀ b o, s.heap.get? b = some o → g.get? b = some o) → ((ns = [] ∧ M = d) ∨ (M ∈ ns ∧ ∀ a ∈ ns, a ≤ M)) → Q (.int M t') { s with heap := g, toks := tk }) :
    wpAny (model prog w) A (call (.builtin "max") [.ref l] [(Str.ofString "default", .int d t)]) Q E s := by
  obtain ⟨xs, e⟩ := hi.allInts.items
  have hn : numsOf (intItems xs).toList = ns := by rw [← e]; exact hi.numsOf
  rw [nums_intItems] at hn
  subst hn
  rw [e] at hl
  have nm : (toString "max" ++ toString ".loop" : String) = "max.loop" := by decide
  refine kmk_tree PySem.F.kind_max PySem.F.plain_max PySem.F.entry_max (mx_args _ _) ?_
  show wpAny _ A.in1 (Builtin.Builtins.bindParams "max" ["key", "default"] 0 ⟨[], [(Str.ofString "default", .int d t)]⟩ >>= _) _ _ s
  refine wpAny_bind (wpAny_of_eq (show Builtin.Builtins.bindParams "max" ["key", "default"] 0 ⟨[], [(Str.ofString "default", .int d t)]⟩ = pure [none, some (.int d t)] from rfl) ?_)
  refine wpAny_bind (wpAny_pure ?_)
  refine wpAny_bind (iter_intList hl fun s2 es st hfp hlI => ?_)
  subst es
  refine wpAny_bind (wpAny_newObj_type ?_)
  rw [nm]
  have hSf : (s.heap.push { cls := .type "list_iterator", data := .fields #[.ref l, .int 0 0] }).objs.size ∉ [s.heap.objs.size, l] := fun hm => Nat.lt_irrefl _ (hfp _ hm)
  have W := Walks.list (prog := prog) (w := w) (A := A.in1) hh s.heap.objs.size l hlI (intItems xs)
  have old : ∀ {g : Heap}, (∀ b o, b ∉ [s.heap.objs.size] → b ≠ (s.heap.push { cls := .type "list_iterator", data := .fields #[.ref l, .int 0 0] }).objs.size → ((s.heap.push { cls := .type "list_iterator", data := .fields #[.ref l, .int 0 0] }).push { cls := .type "list", data := .seq #[] }).get? b = some o → g.get? b = some o) → ∀ b o, s.heap.get? b = some o → g.get? b = some o := fun {g} k b o hb => by
    have lt := Heap.lt_size hb
    refine k b o (fun m => ?_) (fun z => ?_) (Heap.get?_push_of_some _ (Heap.get?_push_of_some _ hb))
    · rw [List.mem_singleton.mp m] at lt
      exact Nat.lt_irrefl _ lt
    · have e1 : (s.heap.push { cls := .type "list_iterator", data := .fields #[.ref l, .int 0 0] }).objs.size = s.heap.objs.size + 1 := Heap.size_push ..
      rw [e1] at z
      rw [z] at lt
      exact absurd lt (Nat.not_lt.mpr (Nat.le_succ _))
  refine wpAny_pure ⟨plainId_quiet PySem.F.plain_max_loop _, mx_first (.int d t) W _ (CmpOf.ints_gt (numAt xs) (fun _ _ => intItems_at)) _ hSf (W.frame _ _ _ st fun b _ o e => Heap.get?_push_of_some _ e) (Heap.get?_push_size _ rfl) (fun hp v g tk hP keep => ?_) (fun hz g tk keep => ?_)⟩
  · have hsz : 0 < xs.size := by simpa [intItems] using hp
    have hP : (intItems xs)[argBest (fun i j => decide (numAt xs i > numAt xs j)) ((intItems xs).size - 1)]? = some v := hP
    rw [show (intItems xs).size = xs.size by simp [intItems]] at hP
    obtain ⟨t', rfl⟩ := intItems_at hP
    obtain ⟨h1, h2⟩ := argBest_gt (numAt xs) (xs.size - 1)
    refine h g tk _ t' (old keep) (.inr ⟨?_, fun a ha => ?_⟩)
    · rw [numAt_eq]
      exact PySem.getD_mem (by rw [List.length_map, Array.length_toList]; omega)
    · obtain ⟨j, hj, rfl⟩ := mem_getD ha
      rw [List.length_map, Array.length_toList] at hj
      rw [← numAt_eq]
      exact h2 j (by omega)
  · refine h g tk d t (old keep) (.inl ⟨?_, rfl⟩)
    have hz : (intItems xs).size = 0 := hz
    rw [show (intItems xs).size = xs.size by simp [intItems]] at hz
    have : xs = #[] := Array.eq_empty_of_size_eq_zero hz
    subst this
    rfl
end
section
variable {X : Cx} {K : PySem.W.Frag} {E : XK} {F : FE} {e c : Expr} {p pos kp : Pos}
def rMaxDef (K : PySem.W.Frag) : List V → List V → Hp → VK → Prop := fun vs zs H Q => ∃ (a : Addr) (ns : List Int) (d : Int), vs = [.ref a] ∧ zs = [.int d] ∧ SqL K H a (ns.map V.int) ∧ ∀ M, ((ns = [] ∧ M = d) ∨ (M ∈ ns ∧ ∀ a ∈ ns, a ≤ M)) → Q (.int M) H
theorem c_maxDef (hc : X.calm = true) (hK : X.K = K := by rfl) : CallRK X (.builtin "max") [Str.ofString "default"] (rMaxDef K) := by
  subst hK
  intro pins s σ H vs zs us ws Q I r1 r2 h
  obtain ⟨a, ns, d, rfl, rfl, hs, q⟩ := h
  obtain ⟨its, rv, hl, _⟩ := I.list hs
  rw [Vals.ref1 r1]
  obtain ⟨u, rfl, ru⟩ := vals1 r2
  obtain ⟨t, rfl⟩ := ru
  exact max_def (I.ok.hd hc) hl.isList rv.ints fun g tk M t' hk hM => ⟨.int M, H, I.kept hk, ⟨_, rfl⟩, q M hM⟩
theorem ints_wD {W : Hp} : ∀ {vs : List V} {ns : List Int}, RepAll K W vs (ns.map D.int) → vs = ns.map V.int := ints_w
def fMaxD (F : FE) (d : Int) : FE := fun ρ Q Z => F ρ (fun v => ∃ ns : List Int, v = .lst (ns.map .int) ∧ ∀ M, ((ns = [] ∧ M = d) ∨ (M ∈ ns ∧ ∀ a ∈ ns, a ≤ M)) → Q (.int M)) Z
theorem d_maxD {d : Int} (hc : X.calm = true) (hg : Gl X "max") (hm : X.mg "max" = none) (he : PE X e (tDT K E F)) (hd : PE X c (tC (.int d))) (hK : X.K = K := by rfl)
    (hs : starEach [e] X.env = (false, eval e X.env) :: starEach [] X.env := by rfl) (he2 : backTo pos (starEach [e] X.env) = (false, eval e X.env) :: backTo pos (starEach [] X.env) := by rfl) (hpl : (backTo pos (starEach [e] X.env)).any (·.1) = false := by rfl)
    (hall : (backToKw pos (keywordEach [⟨some "default", c, kp⟩] X.env)).all (·.1.isSome) = true := by rfl) (hnone : (backToKw pos (keywordEach [⟨some "default", c, kp⟩] X.env)).any (·.1.isNone) = false := by rfl) (hks : (backToKw pos (keywordEach [⟨some "default", c, kp⟩] X.env)).filterMap (·.1) = [Str.ofString "default"] := by rfl) :
    PE X (.Call (.Name "max" p) [e] [⟨some "default", c, kp⟩] pos) (tD K E (fMaxD F d)) :=
  (pe_callBK (c_maxDef hc hK) hg hm (by decide +kernel) (pa_cons he pa_nil hs) (pk_cons hd pk_nil) (by decide) (by decide) he2 hpl hall hnone hks).mono fun σ H Qh ⟨W0, H0, W, ρ, Q, Z, st, f, k, x⟩ => ⟨W0, H0, W, ρ, _, Z, st, f, fun v W1 H1 d e1 r ⟨ns, z, q⟩ => by
    subst z
    obtain ⟨a, vs, rfl, h2, h3, h4⟩ := r.lst_inv e1.s
    rw [ints_w h3] at h2
    exact ⟨a, ns, _, rfl, rfl, SqL.of h2, fun M hM => k _ W1 H1 _ e1 (.int M) (q M hM)⟩, x⟩
/-! ### == with a tuple or a list on the other side -/
theorem sub2 {K : PySem.W.Frag} {C : Addr} (n : String) (hn : n ∈ ["list", "tuple"]) : PySem.W.subIn K (.type n) (.ref C) = some false := by
  simp only [List.mem_cons, List.not_mem_nil, or_false] at hn
  rcases hn with rfl | rfl
  · show (fastBuiltinMro "list").map (fun l => l.contains (Value.ref C)) = some false
    rw [show fastBuiltinMro "list" = some [.type "list", .type "object"] by decide +kernel]
    simp
  · show (fastBuiltinMro "tuple").map (fun l => l.contains (Value.ref C)) = some false
    rw [show fastBuiltinMro "tuple" = some [.type "tuple", .type "object"] by decide +kernel]
    simp
def rMetT (K : PySem.W.Frag) (C : Addr) (sp : Sp) (E : XK) (g : VK → VK) : R2 := fun x y H Q => ∃ a dx fs p ys, x = .ref a ∧ H a = some (.ins C dx fs) ∧ y = .ref p ∧ SqT K H p ys ∧ sp [x, y] H (g Q) E
theorem op_eqT {C : Addr} {k : Nat} {g : Fn} (c : CalE X.prog X.w X.K X.mg X.base C k g) (hr : Room (k + 1) X.A) (hK : X.K = K := by rfl) : OpR X (compareOp .Eq) (rMetT K C (spD K 2 g) E0 (blQ false)) := fun pins s σ H x y v u Q I rx ry ⟨a, dx, fs, p, ys, z, ha, z2, hy, q⟩ => by
  subst hK
  obtain ⟨ps, M⟩ := c.ex
  subst z
  subst z2
  cases rx
  cases ry
  obtain ⟨f, fd, hm, hf, F, hb⟩ := M.ex
  obtain ⟨mA, J, _⟩ := ins_get I.hok ha
  obtain ⟨od, J, _⟩ := J.look
  obtain ⟨m, hF⟩ := I.fr
  obtain ⟨its, rv, ⟨o, ho, hc, _⟩, _⟩ := I.tuple hy
  show wpAny _ _ (richCompare .Eq _ _) _ _ _
  refine PySem.W.cmp_K (op := .Eq) (tb := .type "tuple") hr.units0 hF I.ok.mod.kin J (fun A Q E s' kk q => wpAny_typeOf (T := "tuple") ⟨o, kk _ _ ho, hc⟩ q) (by unfold PySem.W.notFirst; rw [sub2 "tuple" (by decide)]; simp) hm.at_ hm.fn ?_
  refine thn (run_at (vs := [.ref a, .ref p]) rfl F (hr.mono (Nat.le_succ _)) hb passL I (.cons rfl (.cons rfl .nil)) q) fun w s' ⟨z, H', I', rz, b, hz, q'⟩ => ?_
  subst hz
  cases rz
  rw [Bool.false_bne] at q'
  exact ⟨.bl b, H', I', rfl, q'⟩
def RMetT (C : Addr) (g : Fn) : D → D → (D → Prop) → Prop := fun a b Q => (∃ ns ds, a = .obj C ns ds) ∧ (∃ es, b = .tup es) ∧ g [a, b] (fun d => ∃ c, d = .bl c ∧ Q (.bl (false != c))) F0
theorem s_metT {C : Addr} {g : Fn} : RSnd K (rMetT K C (spD K 2 g) E0 (blQ false)) (RMetT C g) := fun W H x y a b Q Qh s r1 r2 ⟨⟨ns, ds, ha⟩, ⟨es, hb⟩, q⟩ kk => by
  subst ha
  subst hb
  obtain ⟨p, dx, fs, rfl, h2, _⟩ := r1.obj_inv s
  obtain ⟨p2, vs, rfl, h5, _⟩ := r2.tup_inv s
  exact ⟨p, dx, fs, p2, vs, rfl, h2, rfl, h5, sp_top s (.cons r1 (.cons r2 .nil)) rfl q fun v W' H' d e r ⟨c, z, q2⟩ => by
    subst z
    cases r
    exact ⟨c, rfl, kk _ W H' _ (ex_low s e) (.bl _) q2⟩⟩
/-! ### d == {} -/
def rEq0 : R2 := fun x y H Q => ∃ a b kvs, x = .ref a ∧ y = .ref b ∧ H a = some (.dK kvs) ∧ H b = some (.dK []) ∧ Q (.bl kvs.isEmpty) H
theorem op_eq0 (hu : X.A.units < cLine) : OpR X (compareOp .Eq) rEq0 := by
  intro pins s σ H x y v u Q I rx ry h
  obtain ⟨a, b, ks, rfl, rfl, ea, eb, q⟩ := h
  obtain rfl : v = Value.ref a := rx
  obtain rfl : u = Value.ref b := ry
  obtain ⟨_, ya, va, ra, da⟩ := (show ObjOk X.prog X.w H s.heap a (.dK ks) from I.hok a _ ea)
  obtain ⟨_, yb, vb, rb, db⟩ := (show ObjOk X.prog X.w H s.heap b (.dK []) from I.hok b _ eb)
  have l1 := ra.length
  have l2 := rb.length
  refine PySem.W.keq_eq (knd := mixKind X.prog X.w) (r := true) ya yb da db hu (fun hl => ?_) (fin_bl I q ?_)
  · rw [← l1, ← l2] at hl
    have : ks = [] := List.length_eq_zero_iff.mp hl
    subst this
    exact hits_all rb ra (fun p hp => nomatch hp)
  · rw [← l1, ← l2]
    cases ks <;> rfl
def fEq0 (Fd : FDi) : FE := fun ρ Q Z => Fd ρ (fun ks _ => Q (.bl ks.isEmpty)) Z
theorem d_eq0 {Fd : FDi} (hu : X.A.units < cLine) (ha : PE X e (tDX K E Fd)) (hb : PE X c tDNewK) (hm : behindInMarks .Eq c = false) : PE X (.Compare e [.Eq] [c] pos) (tD K E (fEq0 Fd)) :=
  (pe_cmpR (op_eq0 hu) ha hb hm).mono fun σ H Qh ⟨W0, H0, W, ρ, Q, Z, st, f, k, x⟩ => ⟨W0, H0, W, ρ, _, Z, st, f, fun p kvs W1 H1 ds e1 h' r n q => fun d hd => ⟨p, d, kvs, rfl, rfl, by rw [upd_ne (fun z => by rw [← z, h'] at hd; cases hd)]; exact h', upd_same, k _ W1 _ _ (e1.trans (Ex.hid e1.s hd)) (.bl _) (by
    cases kvs <;> exact q)⟩, x⟩
end
end Pu

set_option Elab.async false
set_option maxRecDepth 100000
set_option linter.all false
set_option maxHeartbeats 1000000
/-! Pure layer: in a tuple of data; comprehensions with two sources; classmethods with *args. -/
namespace Pu
open PySem PySem.Spec PyProof.Rows L2 Ly
section
variable {X : Cx} {K : PySem.W.Frag} {E : XK}
def rInTD (K : PySem.W.Frag) (neg : Bool) : R2 := fun x y H Q => ∃ d ds, Dp K H x d ∧ Dp K H y (.tuple ds) ∧ SeqAt.shaped d = true ∧ SeqAt.shaped (.tuple ds) = true ∧ Q (.bl (neg != ds.any fun z => PyData.eqv z d)) H
theorem lay_tup {ds : List PyData} (h : SeqAt.shaped (.tuple ds) = true) : PyData.canLayAll0 ds = true := by
  unfold SeqAt.shaped at h
  rw [Bool.and_eq_true] at h
  have := h.1
  simpa [PyData.canLay0] using this
theorem op_inTD (hu : X.A.units + 65 < cLine) (hK : X.K = K := by rfl) : OpR X (compareOp .In) (rInTD K false) := by
  subst hK
  intro pins s σ H x y v u Q I rx ry h
  obtain ⟨d, ds, hd, he, sd, se, q⟩ := h
  obtain ⟨as, r1⟩ := Dp.reads I d x v hd rx
  obtain ⟨bs, r2⟩ := Dp.reads I (.tuple ds) y u he ry
  rw [Bool.false_bne] at q
  exact SeqAt.in_tuple_reads r2 r1 (lay_tup se) (SeqAt.canLay_of_shaped sd) (room_in_shaped sd hu) ⟨.bl _, H, I, rfl, q⟩
def RInTD (neg : Bool) (a b : D) (Q : D → Prop) : Prop := ∃ ds, b = .tup ds ∧ shp a ∧ shp b ∧ Q (.bl (neg != ds.any fun y => PyData.eqv (toP y) (toP a)))
theorem s_inTD {neg : Bool} : RSnd K (rInTD K neg) (RInTD neg) := fun W H x y a b Q Qh s r1 r2 ⟨ds, z, ha, hb, q⟩ k => by
  subst z
  refine ⟨toP a, toPs ds, (r1.full s).dp (shp_lay ha), (r2.full s).dp (shp_lay hb), ha, hb, k _ W H _ (Ex.refl s) (.bl _) ?_⟩
  rw [anyP]
  exact q
/-! ### [.. for .. in .. for .. in ..] -/
def lc2D (g : FG) (T : FT) (A1 : FA) (g1 : FG) (T1 : FT) (F : FE) (vs1 : List Nat) (ρ : Env) : List D → (List D → Prop) → Prop
  | [], Q => Q []
  | d :: ds, Q => g d ρ fun ρ2 => T ρ2 (fun b => if b = true then A1 ρ2 (fun ds1 => ds1.length ≤ 1000 ∧ lcD g1 T1 F (wipeB ρ2 vs1) ds1 fun ys => lc2D g T A1 g1 T1 F vs1 ρ ds fun zs => Q (ys ++ zs)) F0 else lc2D g T A1 g1 T1 F vs1 ρ ds Q) F0
def fLc2 (A : FA) (g : FG) (T : FT) (A1 : FA) (g1 : FG) (T1 : FT) (F : FE) (vs vs1 : List Nat) : FA := fun ρ Q Z => A ρ (fun ds => ds.length ≤ 1000 ∧ lc2D g T A1 g1 T1 F vs1 (wipeB ρ vs) ds Q) Z
theorem lc2_to {gh1 : TG} {g1 : FG} {jo : Nat} {vs vs1 : List Nat} {A A1 : FA} {T T1 : FT} {F : FE} {σ : L2.St} {H : Hp} {Qh : VK} (hjo : jo ∈ vs) (gs1 : GSnd K gh1 g1 vs1)
    (h : tDN K E (fLc2 A (gN jo) T A1 g1 T1 F vs vs1) σ H Qh) : tLc2 (tDI K E A) (gName jo) (tDB K E0 T) (tDF K E0 A1) gh1 (tDB K E0 T1) (tD K E0 F) vs vs1 σ H Qh := by
  obtain ⟨W0, H0, W, ρ, Q, Z, st, f, k, x⟩ := h
  refine ⟨W0, H0, W, ρ, _, Z, st, f, fun J W1 H1 ds e1 ⟨Gd, Y, hW, hG, hY⟩ ⟨hn, q⟩ => ?_, x⟩
  intro Dd hD
  have st1 := st.ext e1
  let Pv : Nat → Hp → Prop := fun i H' => ∃ W' us acc, Ex W1 H1 W' H' ∧ W' Dd = none ∧ H' Dd = some (.lst us) ∧ RepAll K W' us acc ∧ us.length ≤ i * 1000 ∧ lc2D (gN jo) T A1 g1 T1 F vs1 (wipeB ρ vs) (ds.drop i) fun ys => Q (acc ++ ys)
  refine ⟨fun i m H' => m = ds.length - i ∧ i ≤ ds.length ∧ Pv i H', ⟨ds.length, by simp, Nat.zero_le _, W1, [], [], Ex.hid e1.s hD, e1.s.free hD, upd_same, .nil, Nat.zero_le _, q⟩, ?_⟩
  rintro i m H3 ⟨rfl, hi, W3, us, acc, e3, hw3, hd3, r3, l3, q3⟩
  have hid : ∀ {Wa Ha Wb Hb : Hp} {u : HO}, Ex Wa Ha Wb Hb → Wa Dd = none → Ha Dd = some u → Wb Dd = none := fun {Wa Ha Wb Hb u} e h1 h2 => by
    cases z : Wb Dd with
    | none => rfl
    | some o =>
      rcases e.n _ _ z with z | z
      · rw [h1] at z; cases z
      · rw [h2] at z; cases z
  by_cases hlt : i < ds.length
  · refine .inr ⟨hW.goes i H3 hlt (hG H3 e3.h), Pv (i + 1), fun H' p' => ⟨ds.length - (i + 1), by omega, rfl, hlt, p'⟩, fun v H4 y => ?_⟩
    obtain ⟨W4, d, hd, e4, r4⟩ := hY i H3 v H4 W3 hlt e3.h e3.w e3.s (hW.yields i H3 v H4 hlt (hG H3 e3.h) y)
    have hdr : ds.drop i = d :: ds.drop (i + 1) := by
      rw [List.drop_eq_getElem_cons hlt]
      congr 1
      rw [List.getElem?_eq_getElem hlt] at hd
      exact Option.some.inj hd
    rw [hdr] at q3
    have e5 := e3.trans e4
    have hw4 := hid e4 hw3 hd3
    have hd4 := e4.h _ _ hd3
    have r4' := r3.gx e4.w
    have sat : ∀ {W' H' : Hp}, Ex W1 H1 W' H' → Gx W4 W' → Sat K W0 H0 W' ((wipeB ρ vs).set jo (.val d)) ((L2.wipe σ vs).set jo (some v)) H' := fun ex gw => ((st1.ext ex).wipe vs).set (r4.gx gw)
    refine ⟨?_, ?_⟩
    · have := wipe_set hjo (σ := L2.wipe σ vs) (x := some v)
      rw [this, wipe_wipe]
    refine ⟨W0, H0, W4, _, _, F0, sat e5 (Gx.refl _), q3, fun b W5 H5 e6 q5 => ?_, xc0⟩
    cases b with
    | false =>
      rw [if_neg (by decide)] at q5
      exact iteF ⟨W5, us, acc, e5.trans e6, hid e6 hw4 hd4, e6.h _ _ hd4, r4'.gx e6.w, by omega, q5⟩
    | true =>
      rw [if_pos rfl] at q5
      refine iteT ⟨W0, H0, W5, _, _, F0, sat (e5.trans e6) e6.w, q5, fun J1 W6 H6 ds1 e7 ⟨G1, Y1, hW1, hG1, hY1⟩ ⟨hn1, q6⟩ => ?_, xc0⟩
      have e67 := e6.trans e7
      have hw6 := hid e67 hw4 hd4
      have hd6 := e67.h _ _ hd4
      let Pi : Nat → Hp → Prop := fun j H' => ∃ W' us1 acc1, Ex W1 H1 W' H' ∧ Gx W6 W' ∧ W' Dd = none ∧ H' Dd = some (.lst (us ++ us1)) ∧ RepAll K W' us1 acc1 ∧ us1.length ≤ j ∧ lcD g1 T1 F (wipeB ((wipeB ρ vs).set jo (.val d)) vs1) (ds1.drop j) fun ys => lc2D (gN jo) T A1 g1 T1 F vs1 (wipeB ρ vs) (ds.drop (i + 1)) fun zs => Q (acc ++ ((acc1 ++ ys) ++ zs))
      refine ⟨fun j m H' => m = ds1.length - j ∧ j ≤ ds1.length ∧ Pi j H', ⟨ds1.length, by simp, Nat.zero_le _, W6, [], [], e5.trans e67, Gx.refl _, hw6, by rw [List.append_nil]; exact hd6, .nil, Nat.zero_le _, q6⟩, ?_⟩
      rintro j m H7 ⟨rfl, hj, W7, us1, acc1, e8, gw, hw7, hd7, r7, l7, q7⟩
      have gw7 : Gx W6 H7 := gw.trans e8.s
      by_cases hlt1 : j < ds1.length
      · refine .inr ⟨hW1.goes j _ hlt1 (hG1 _ gw7), Pi (j + 1), fun H' p' => ⟨ds1.length - (j + 1), by omega, rfl, hlt1, p'⟩, fun v1 H8 y1 => ?_⟩
        obtain ⟨W8, d1, hd1, e9, r8⟩ := hY1 j _ v1 H8 W7 hlt1 gw e8.s (hW1.yields j _ v1 H8 hlt1 (hG1 _ gw7) y1)
        have hdr1 : ds1.drop j = d1 :: ds1.drop (j + 1) := by
          rw [List.drop_eq_getElem_cons hlt1]
          congr 1
          rw [List.getElem?_eq_getElem hlt1] at hd1
          exact Option.some.inj hd1
        rw [hdr1] at q7
        have gw8 : Gx W4 W8 := (e67.w.trans gw).trans e9.w
        refine gs1 W0 H0 W8 _ _ H8 v1 d1 _ _ ((sat (e8.trans e9) gw8).wipe vs1) r8 q7 fun ρ3 σ3 st3 hw3' q8 => ⟨by rw [hw3', wipe_wipe], ?_⟩
        refine ⟨W0, H0, W8, ρ3, _, F0, st3, q8, fun b W9 H9 e10 q9 => ?_, xc0⟩
        cases b with
        | true =>
          rw [if_pos rfl] at q9
          refine iteT ⟨W0, H0, W9, ρ3, _, F0, st3.ext e10, q9, fun u W10 H10 d10 e11 r10 q10 => ?_, xc0⟩
          have ea := (e9.trans e10).trans e11
          have hda := ea.h _ _ hd7
          have hwa := hid ea hw7 hd7
          refine ⟨us ++ us1, hda, by rw [List.length_append, sizeLine_eq]; omega, W10, us1 ++ [u], acc1 ++ [d10], Ex.mut (e8.trans ea) hD hwa, gw.trans ea.w, hwa, by rw [upd_same, List.append_assoc], (r7.gx ea.w).app (.one r10), by rw [List.length_append]; show us1.length + 1 ≤ j + 1; omega, ?_⟩
          have : (fun ys => lc2D (gN jo) T A1 g1 T1 F vs1 (wipeB ρ vs) (ds.drop (i + 1)) fun zs => Q (acc ++ ((acc1 ++ [d10] ++ ys) ++ zs))) = fun ys => lc2D (gN jo) T A1 g1 T1 F vs1 (wipeB ρ vs) (ds.drop (i + 1)) fun zs => Q (acc ++ ((acc1 ++ (d10 :: ys)) ++ zs)) := by
            funext ys
            congr 1
            funext zs
            rw [List.append_assoc acc1]
            rfl
          rw [this]
          exact q10
        | false =>
          rw [if_neg (by decide)] at q9
          have ea := e9.trans e10
          exact iteF ⟨W9, us1, acc1, e8.trans ea, gw.trans ea.w, hid ea hw7 hd7, ea.h _ _ hd7, r7.gx ea.w, by omega, q9⟩
      · have hje : j = ds1.length := by omega
        subst hje
        rw [List.drop_length] at q7
        have q7 : lc2D (gN jo) T A1 g1 T1 F vs1 (wipeB ρ vs) (ds.drop (i + 1)) fun zs => Q (acc ++ ((acc1 ++ []) ++ zs)) := q7
        refine .inl ⟨hW1.stops _ (hG1 _ gw7), W7, us ++ us1, acc ++ acc1, e8, hw7, hd7, (r4'.gx (e67.w.trans gw)).app r7, by rw [List.length_append]; omega, ?_⟩
        have : (fun ys => Q (acc ++ acc1 ++ ys)) = fun zs => Q (acc ++ ((acc1 ++ []) ++ zs)) := by
          funext ys
          rw [List.append_nil, List.append_assoc]
        rw [this]
        exact q7
  · have hie : i = ds.length := by omega
    subst hie
    rw [List.drop_length] at q3
    have q3 : Q (acc ++ []) := q3
    rw [List.append_nil] at q3
    exact .inl ⟨hW.stops H3 (hG H3 e3.h), k Dd us W3 H3 acc (e1.trans e3) (e1.h.free hD) hw3 hd3 r3 (by rw [sizeLine_eq]; omega) q3⟩
theorem d_lc2 {elt tg iter tg1 iter1 : Expr} {ifs ifs1 : List Expr} {scope : Scope} {own : List (Str × Nat)} {vs1 : List Nat} {pos : Pos} {gh1 : TG} {g1 : FG} {jo : Nat} {A A1 : FA} {T T1 : FT} {F : FE} (hc : X.calm = true) (hN : X.N.Nodup) (hjo : jo ∈ own.map (·.2)) (hi : PI X tg iter (tDI K E A)) (ok : BlkOk X.N X.env.scope scope own) (hv : ∀ i ∈ vs1, i ∈ own.map (·.2)) (gs1 : GSnd K gh1 g1 vs1)
    (hg : ∀ (s : Shared) (H : Hp) (C : Addr) (cl : List (Str × Addr)) (fp : List Addr), PG (X.blk s H scope (compEnvC scope cl C X.env) fp) tg (gName jo)) (ht : ∀ (s : Shared) (H : Hp) (C : Addr) (cl : List (Str × Addr)) (fp : List Addr), PTs (X.blk s H scope (compEnvC scope cl C X.env) fp) ifs (tDB K E0 T))
    (hi1 : ∀ (s : Shared) (H : Hp) (C : Addr) (cl : List (Str × Addr)) (fp : List Addr), PI (X.blk s H scope (compEnvC scope cl C X.env) fp) tg1 iter1 (tDF K E0 A1))
    (hg1 : ∀ (s : Shared) (H : Hp) (C : Addr) (cl : List (Str × Addr)) (fp : List Addr), PG (X.blk s H scope (compEnvC scope cl C X.env) fp) tg1 gh1) (ht1 : ∀ (s : Shared) (H : Hp) (C : Addr) (cl : List (Str × Addr)) (fp : List Addr), PTs (X.blk s H scope (compEnvC scope cl C X.env) fp) ifs1 (tDB K E0 T1))
    (he : ∀ (s : Shared) (H : Hp) (C : Addr) (cl : List (Str × Addr)) (fp : List Addr), PE (X.blk s H scope (compEnvC scope cl C X.env) fp) elt (tD K E0 F)) (hs : ∀ x, foldedSetIterable iter X.env x = pure x := by intro _; rfl) (hs1 : ∀ env x, foldedSetIterable iter1 env x = pure x := by intro _ _; rfl) :
    PE X (.ListComp elt [⟨tg, iter, ifs, 0⟩, ⟨tg1, iter1, ifs1, 0⟩] scope pos) (tDN K E (fLc2 A (gN jo) T A1 g1 T1 F (own.map (·.2)) vs1)) :=
  (pe_lc2 hc hN hi ok hv hg ht hi1 hg1 ht1 he hs hs1).mono fun _ _ _ h => lc2_to hjo gs1 h
end
/-! ### *args -/
/-- the first n arguments as they are, the rest as a tuple -/
def spDV (K : PySem.W.Frag) (n : Nat) (g : Fn) : Sp := fun vs H Qh E => ∃ W ds rs Q Z, Gx W H ∧ RepAll K W vs (ds ++ rs) ∧ ds.length = n ∧ rs.length ≤ sizeLine ∧ g (ds ++ [.tup rs]) Q Z ∧ (∀ v W' H' d, Ex W H W' H' → Rep K W' v d → Q d → Qh v H') ∧ XC K E W H Z
theorem rep_split {K : PySem.W.Frag} {W : Hp} : ∀ {ds rs : List D} {vs : List V}, RepAll K W vs (ds ++ rs) → ∃ us ws, vs = us ++ ws ∧ RepAll K W us ds ∧ RepAll K W ws rs
  | [], rs, vs, h => ⟨[], vs, rfl, .nil, h⟩
  | d :: ds, rs, _, .cons r h => by
    obtain ⟨us, ws, e, h1, h2⟩ := rep_split h
    exact ⟨_ :: us, ws, by rw [e]; rfl, .cons r h1, h2⟩
section
variable {P : Program} {w : World} {K : PySem.W.Frag} {mg : Str → Option Value} {base : Heap} {k n : Nat} {f : Addr} {g : Fn}
theorem fnR_star {m : Nat} (F : FnR P w K mg base (L2.CX P w) k f (fun vs H Q E => ∃ ws rest, vs = ws ++ rest ∧ ws.length = n ∧ rest.length ≤ sizeLine ∧ ∀ p, H p = Option.none → spD K m g (ws ++ [V.ref p]) (upd H p (.tup rest)) Q E)) (hm : m = n + 1) : FnR P w K mg base (L2.CX P w) k f (spDV K n g) := by
  refine F.imp fun vs H Q E ⟨W, ds, rs, Qd, Z, s, r, hn, hz, q, kk, xc⟩ => ?_
  obtain ⟨us, ws, e, h1, h2⟩ := rep_split r
  refine ⟨us, ws, e, by rw [h1.len]; exact hn, by rw [h2.len]; exact hz, fun p hp => ?_⟩
  have ex : Ex W H (upd W p (.tup ws)) (upd H p (.tup ws)) := Ex.new s hp
  refine ⟨_, ds ++ [.tup rs], Qd, Z, ex.s, (h1.gx ex.w).app (.one (.tup (SqT.of upd_same) (h2.gx ex.w) (by rw [h2.len]; exact hz))), by rw [List.length_append, hn, hm]; rfl, q, fun v W' H' d e2 r2 q2 => kk v W' H' d (ex.trans e2) r2 q2, xc.ext ex⟩
structure CalCv (P : Program) (w : World) (K : PySem.W.Frag) (mg : Str → Option Value) (base : Heap) (C : Addr) (m : Str) (k n : Nat) (g : Fn) : Prop where
  ex : ∃ (mc : Value) (p f : Addr), ClX.CRead K C mc ∧ ClX.CMet K C mc m p f ∧ FnR P w K mg base (L2.CX P w) k f (spDV K n g)
end
section
variable {X : Cx} {K : PySem.W.Frag} {E : XK} {A : FA} {g : Fn} {o e : Expr} {es : List Expr} {m : Str} {C : Addr} {k n : Nat} {pos apos : Pos}
/-- C.m(a, .., *rest) -/
def fCmethV (C : Addr) (g : Fn) (n : Nat) (A : FA) : FE := fun ρ Q Z => A ρ (fun ds => n ≤ ds.length + 1 ∧ ds.length ≤ 1000 ∧ g ((.cls C :: ds).take n ++ [.tup ((.cls C :: ds).drop n)]) Q Z) Z
theorem d_cmethV {pl : Sem Bool} (c : CalCv X.prog X.w X.K X.mg X.base C m k n g) (hr : Room k X.A) (hx : Passes (L2.CX X.prog X.w) X E) (ho : PE X o (tC (.ref C))) (ha : PA X (e :: es) (tDA K E A)) (hK : X.K = K := by rfl)
    (hst : starEach (e :: es) X.env = (false, eval e X.env) :: starEach es X.env := by rfl) (hpl : (backTo pos (starEach es X.env)).any (·.1) = false := by rfl)
    (ht : eval (.Call (.Attribute o m apos) (e :: es) [] pos) X.env = (do
      let ov ← eval o X.env
      standAt apos.atName
      let (f, first) ← holding [ov] (getMethod ov m pl)
      callWith pos f first (backTo pos (starEach (e :: es) X.env)) (backToKw pos (keywordEach [] X.env))) := by rfl) : PE X (.Call (.Attribute o m apos) (e :: es) [] pos) (tD K E (fCmethV C g n A)) := by
  subst hK
  refine (pe_cmt (pl := pl) ho (⟨c.ex⟩ : CalK X.prog X.w X.K X.mg X.base (L2.CX X.prog X.w) C m k (spDV X.K n g)) hr hx ha hst hpl ht).mono fun σ H Qh ⟨W0, H0, W, ρ, Q, Z, st, f, k, xc⟩ => ?_
  refine ⟨rfl, W0, H0, W, ρ, _, Z, st, f, fun vs W1 H1 ds e1 r ⟨hl, h1000, q⟩ => ?_, xc⟩
  refine ⟨W1, (.cls C :: ds).take n, (.cls C :: ds).drop n, Q, Z, e1.s, by rw [List.take_append_drop]; exact .cons (.cls C) r, by rw [List.length_take, List.length_cons]; omega, by rw [List.length_drop, List.length_cons, sizeLine_eq]; omega, q, fun v W2 H2 d e2 r2 q2 => k v W2 H2 d (e1.trans e2) r2 q2, xc.ext e1⟩
end
end Pu

set_option Elab.async false
set_option maxRecDepth 100000
namespace Pu
open PySem PySem.Spec PyProof.Rows L2 Ly
section
variable {X : Cx} {K : PySem.W.Frag} {E : XK} {e c : Expr} {pos : Pos}
theorem eq0_to {Fd : FDi} {σ : L2.St} {H : Hp} {Qh : VK} (h : tD K E (fEq0 Fd) σ H Qh) : (tDX K E Fd) σ H fun x H1 => tDNewK σ H1 fun y H2 => rEq0 x y H2 Qh := by
  obtain ⟨W0, H0, W, ρ, Q, Z, st, f, k, x⟩ := h
  exact ⟨W0, H0, W, ρ, _, Z, st, f, fun p kvs W1 H1 ds e1 h' r n q => fun d hd => ⟨p, d, kvs, rfl, rfl, by rw [upd_ne (fun z => by rw [← z, h'] at hd; cases hd)]; exact h', upd_same, k _ W1 _ _ (e1.trans (Ex.hid e1.s hd)) (.bl _) (by
    cases kvs <;> exact q)⟩, x⟩
theorem d_teq0 {Fd : FDi} (hu : X.A.units < cLine) (ha : PE X e (tDX K E Fd)) (hb : PE X c tDNewK) (hm : behindInMarks .Eq c = false) : PT X (.Compare e [.Eq] [c] pos) (tDB K E (fTst (fEq0 Fd))) :=
  (pt_cmpR (op_eq0 hu) ha hb hm).mono fun σ H Qh h => eq0_to (tst_to h)
end
end Pu

set_option Elab.async false
set_option maxRecDepth 100000
/-! The parts of a tree in preorder. -/
namespace TM
open PySem L2 Ly
mutual
def Tr.parts : Tr → List Tr
  | .nd w ts => .nd w ts :: partsL ts
def partsL : List Tr → List Tr
  | [] => []
  | t :: ts => t.parts ++ partsL ts
end
mutual
theorem Tr.parts_len (t : Tr) : t.parts.length = t.size := by
  cases t with
  | nd w ts =>
    have := partsL_len ts
    show (partsL ts).length + 1 = (nodesL ts).length + 1
    rw [this]
theorem partsL_len (ts : List Tr) : (partsL ts).length = (nodesL ts).length := by
  cases ts with
  | nil => rfl
  | cons t ts =>
    have h1 := Tr.parts_len t
    have h2 := partsL_len ts
    show (t.parts ++ partsL ts).length = (t.nodes ++ nodesL ts).length
    rw [List.length_append, List.length_append, h1, h2]
    rfl
end
mutual
theorem Tr.parts_sub (t : Tr) {nds : List Nd} {cs : List (List Nat)} : ∀ {off : Nat}, Sub nds cs off t → ∀ (p : Nat) (s : Tr), t.parts[p]? = some s → Sub nds cs (off + p) s := by
  cases t with
  | nd w ts =>
    intro off h p s hs
    cases p with
    | zero =>
      have hs : some (Tr.nd w ts) = some s := hs
      cases hs
      exact h
    | succ p =>
      have hs : (partsL ts)[p]? = some s := hs
      have h1 : (w, ts.length) :: nodesL ts <+: nds.drop off := h.1
      have h2 : roots ts (off + 1) :: chL ts (off + 1) <+: cs.drop off := h.2
      have := partsL_sub ts (off := off + 1) (drop_of_prefix (x := [(w, ts.length)]) h1).2 (drop_of_prefix (x := [roots ts (off + 1)]) h2).2 p s hs
      rw [show off + (p + 1) = off + 1 + p by omega]
      exact this
theorem partsL_sub (ts : List Tr) {nds : List Nd} {cs : List (List Nat)} : ∀ {off : Nat}, nodesL ts <+: nds.drop off → chL ts off <+: cs.drop off → ∀ (p : Nat) (s : Tr), (partsL ts)[p]? = some s → Sub nds cs (off + p) s := by
  cases ts with
  | nil => intro off _ _ p s h; cases h
  | cons t ts =>
    intro off h1 h2 p s hs
    have hs : (t.parts ++ partsL ts)[p]? = some s := hs
    have h1 : t.nodes ++ nodesL ts <+: nds.drop off := h1
    have h2 : t.ch off ++ chL ts (off + t.size) <+: cs.drop off := h2
    obtain ⟨a1, a2⟩ := drop_of_prefix h1
    obtain ⟨b1, b2⟩ := drop_of_prefix h2
    rw [t.ch_len] at b2
    by_cases hp : p < t.parts.length
    · rw [List.getElem?_append_left hp] at hs
      exact Tr.parts_sub t ⟨a1, b1⟩ p s hs
    · rw [List.getElem?_append_right (by omega)] at hs
      have := partsL_sub ts (off := off + t.size) a2 b2 (p - t.parts.length) s hs
      rw [t.parts_len] at this hp
      rw [show off + p = off + t.size + (p - t.size) by omega]
      exact this
end
theorem Tr.part_sub {t s : Tr} {p : Nat} (h : t.parts[p]? = some s) : Sub t.nodes (t.ch 0) p s := by
  have := t.parts_sub (Sub.root t) p s h
  rw [Nat.zero_add] at this
  exact this
theorem Tr.part_ex {t : Tr} {p : Nat} (h : p < t.size) : ∃ s, t.parts[p]? = some s := by
  rw [← t.parts_len] at h
  exact ⟨_, List.getElem?_eq_getElem h⟩
theorem Sub.sub {nds : List Nd} {cs : List (List Nat)} {p : Nat} {s : Tr} (h : Sub nds cs p s) : ∀ n ∈ s.nodes, n ∈ nds := fun n hn => List.mem_of_mem_drop (h.1.subset hn)
theorem Sub.cut {nds : List Nd} {cs : List (List Nat)} {p : Nat} {s : Tr} (h : Sub nds cs p s) : (nds.drop p).take s.size = s.nodes := (List.prefix_iff_eq_take.mp h.1).symm
theorem Sub.le {nds : List Nd} {cs : List (List Nat)} {p : Nat} {s : Tr} (h : Sub nds cs p s) : p + s.size ≤ nds.length := by
  have h1 := h.1.length_le
  rw [List.length_drop] at h1
  have h2 : 1 ≤ s.nodes.length := s.size_pos
  show p + s.nodes.length ≤ _
  omega
mutual
theorem Tr.ends_at (t : Tr) : ∀ (off p : Nat) (s : Tr), t.parts[p]? = some s → (t.ends off)[p]? = some (off + p + s.size) := by
  cases t with
  | nd w ts =>
    intro off p s hs
    cases p with
    | zero =>
      have hs : some (Tr.nd w ts) = some s := hs
      cases hs
      show some (off + 1 + (nodesL ts).length) = some (off + 0 + ((nodesL ts).length + 1))
      congr 1
      omega
    | succ p =>
      have hs : (partsL ts)[p]? = some s := hs
      have := endsL_at ts (off + 1) p s hs
      show (endsL ts (off + 1))[p]? = _
      rw [this]
      congr 1
      omega
theorem endsL_at (ts : List Tr) : ∀ (off p : Nat) (s : Tr), (partsL ts)[p]? = some s → (endsL ts off)[p]? = some (off + p + s.size) := by
  cases ts with
  | nil => intro off p s h; cases h
  | cons t ts =>
    intro off p s hs
    have hs : (t.parts ++ partsL ts)[p]? = some s := hs
    show (t.ends off ++ endsL ts (off + t.size))[p]? = _
    have hl : (t.ends off).length = t.size := by
      have h1 := congrArg List.length (Tr.enF_of t [] off)
      rw [List.append_nil, enF_len, t.ch_len, List.length_append, enF_len] at h1
      simpa using h1.symm
    by_cases hp : p < t.size
    · rw [List.getElem?_append_left (by rw [t.parts_len]; exact hp)] at hs
      rw [List.getElem?_append_left (by rw [hl]; exact hp)]
      exact Tr.ends_at t off p s hs
    · rw [List.getElem?_append_right (by rw [t.parts_len]; omega), t.parts_len] at hs
      rw [List.getElem?_append_right (by rw [hl]; omega), hl, endsL_at ts (off + t.size) (p - t.size) s hs]
      congr 1
      omega
end
mutual
theorem Tr.parts_ht (t : Tr) : ∀ s ∈ t.parts, s.ht ≤ t.ht := by
  cases t with
  | nd w ts =>
    intro s hs
    rcases List.mem_cons.mp hs with rfl | hs
    · exact Nat.le_refl _
    · exact Nat.le_of_lt (partsL_ht ts s hs)
theorem partsL_ht (ts : List Tr) : ∀ s ∈ partsL ts, s.ht < htL ts := by
  cases ts with
  | nil => intro s h; cases h
  | cons t ts =>
    intro s hs
    show s.ht < max (t.ht + 1) (htL ts)
    rcases List.mem_append.mp (show s ∈ t.parts ++ partsL ts from hs) with h | h
    · have := Tr.parts_ht t s h
      omega
    · have := partsL_ht ts s h
      omega
end
theorem roots_gt : ∀ (ts : List Tr) (off : Nat), ∀ k ∈ roots ts off, off ≤ k
  | [], _, k, h => by cases h
  | t :: ts, off, k, h => by
    rcases List.mem_cons.mp h with rfl | h
    · exact Nat.le_refl _
    · have := roots_gt ts (off + t.size) k h
      omega
theorem htL_max : ∀ (ts : List Tr) {M : Int}, ((ts = [] ∧ M = 0) ∨ (M ∈ ts.map (fun t => ((t.ht + 1 : Nat) : Int)) ∧ ∀ a ∈ ts.map (fun t => ((t.ht + 1 : Nat) : Int)), a ≤ M)) → M = (htL ts : Int)
  | ts, M, .inl ⟨h, e⟩ => by rw [h, e]; rfl
  | ts, M, .inr ⟨h1, h2⟩ => by
    obtain ⟨t, ht, e⟩ := List.mem_map.mp h1
    have h3 := htL_lt ht
    have h4 : ∀ (us : List Tr), (∀ u ∈ us, ((u.ht + 1 : Nat) : Int) ≤ M) → 0 ≤ M → (htL us : Int) ≤ M := by
      intro us
      induction us with
      | nil => intro _ h0; exact h0
      | cons u us ih =>
        intro hu h0
        have a := hu u (List.mem_cons_self ..)
        have b := ih (fun v hv => hu v (List.mem_cons_of_mem _ hv)) h0
        show ((max (u.ht + 1) (htL us) : Nat) : Int) ≤ M
        omega
    have h5 := h4 ts (fun u hu => h2 _ (List.mem_map.mpr ⟨u, hu, rfl⟩)) (by omega)
    omega
end TM
namespace TM
open PySem L2 Ly
theorem parts_cons (t : Tr) : ∃ l, t.parts = t :: l := by
  cases t with
  | nd w ts => exact ⟨_, rfl⟩
mutual
theorem Tr.parts_in (t : Tr) {P : List Tr} : ∀ {off : Nat}, t.parts <+: P.drop off → ∀ (p : Nat) (s : Tr), t.parts[p]? = some s → s.parts <+: P.drop (off + p) := by
  cases t with
  | nd w ts =>
    intro off h p s hs
    cases p with
    | zero =>
      have hs : some (Tr.nd w ts) = some s := hs
      cases hs
      exact h
    | succ p =>
      have hs : (partsL ts)[p]? = some s := hs
      have h1 : Tr.nd w ts :: partsL ts <+: P.drop off := h
      have := partsL_in ts (off := off + 1) (drop_of_prefix (x := [Tr.nd w ts]) h1).2 p s hs
      rw [show off + (p + 1) = off + 1 + p by omega]
      exact this
theorem partsL_in (ts : List Tr) {P : List Tr} : ∀ {off : Nat}, partsL ts <+: P.drop off → ∀ (p : Nat) (s : Tr), (partsL ts)[p]? = some s → s.parts <+: P.drop (off + p) := by
  cases ts with
  | nil => intro off _ p s h; cases h
  | cons t ts =>
    intro off h1 p s hs
    have hs : (t.parts ++ partsL ts)[p]? = some s := hs
    have h1 : t.parts ++ partsL ts <+: P.drop off := h1
    obtain ⟨a1, a2⟩ := drop_of_prefix h1
    by_cases hp : p < t.parts.length
    · rw [List.getElem?_append_left hp] at hs
      exact Tr.parts_in t a1 p s hs
    · rw [List.getElem?_append_right (by omega)] at hs
      have := partsL_in ts (off := off + t.parts.length) a2 (p - t.parts.length) s hs
      rw [show off + p = off + t.parts.length + (p - t.parts.length) by omega]
      exact this
end
theorem kidsL : ∀ {ts P : List Tr} {off : Nat}, partsL ts <+: P.drop off → ∀ (i p : Nat), (roots ts off)[i]? = some p → ∃ c, ts[i]? = some c ∧ P[p]? = some c
  | [], P, off, _, i, p, h => by cases h
  | t :: ts, P, off, h1, i, p, h => by
    have h1 : t.parts ++ partsL ts <+: P.drop off := h1
    obtain ⟨a1, a2⟩ := drop_of_prefix h1
    rw [t.parts_len] at a2
    cases i with
    | zero =>
      have h : some off = some p := h
      cases h
      obtain ⟨l, e⟩ := parts_cons t
      rw [e] at a1
      exact ⟨t, rfl, get_of_prefix a1⟩
    | succ i =>
      have h : (roots ts (off + t.size))[i]? = some p := h
      exact kidsL a2 i p h
theorem Tr.kids {t : Tr} {p : Nat} {w : Str} {ts : List Tr} (h : t.parts[p]? = some (.nd w ts)) (i q : Nat) (hq : (roots ts (p + 1))[i]? = some q) : ∃ c, ts[i]? = some c ∧ t.parts[q]? = some c := by
  have h1 := t.parts_in (P := t.parts) (off := 0) (by rw [List.drop_zero]; exact List.prefix_refl _) p _ h
  rw [Nat.zero_add] at h1
  have h2 : Tr.nd w ts :: partsL ts <+: t.parts.drop p := h1
  exact kidsL (drop_of_prefix (x := [Tr.nd w ts]) h2).2 i q hq
theorem Tr.ends_of {t s : Tr} {p : Nat} (h : t.parts[p]? = some s) : (TM.enF (t.ch 0) 0)[p]? = some (p + s.size) := by
  rw [Tr.enF, Tr.ends_at t 0 p s h, Nat.zero_add]
def upz (t : Tr) (p : Nat) : List Nat := (List.range (p + 1)).filter fun a => decide (p < a + ((t.parts[a]?).map Tr.size).getD 0)
end TM

set_option Elab.async false
set_option maxRecDepth 100000
set_option maxHeartbeats 1000000
set_option linter.all false
namespace K5
open PySem PySem.Spec PyProof.Rows L2 Ly Pu
def top (i : Nat) : Stmt := PySem.Challenge.pw_firstneed_k05_terms_told.main.body.getD i (.Pass ⟨0, 0, 0, 0⟩)
structure Txt (K : PySem.W.Frag) (mg : Str → Option Value) : Prop where
  z_len : mg "len" = none
  z_int : mg "int" = none
  z_bool : mg "bool" = none
  z_str : mg "str" = none
  z_list : mg "list" = none
  z_tuple : mg "tuple" = none
  z_dict : mg "dict" = none
  z_abs : mg "abs" = none
  z_max : mg "max" = none
  z_min : mg "min" = none
  z_range : mg "range" = none
  z_repr : mg "repr" = none
  z_isinstance : mg "isinstance" = none
  z_all : mg "all" = none
  z_any : mg "any" = none
  z_sorted : mg "sorted" = none
  z_enumerate : mg "enumerate" = none
  z_iter : mg "iter" = none
  z_zip : mg "zip" = none
structure Adr where
  cTerm : Addr
  cNodes : Addr
section
variable {P : Program} {w : World} {K : PySem.W.Frag} {mg : Str → Option Value} {base : Heap} {A : Adr}
def G_roll (K : PySem.W.Frag) (A : Adr) : Fn := FRoll
def G_pick (K : PySem.W.Frag) (A : Adr) : Fn := FPick
def G_dice (K : PySem.W.Frag) (A : Adr) : Fn := FDice
abbrev s_is_integer : Stmt := top 8
abbrev nm_is_integer : List Str := ["value"]
abbrev ps_is_integer : List Str := ["value"]
theorem sc_is_integer : FnScope nm_is_integer ps_is_integer (defScope s_is_integer) := ⟨rfl, rfl, rfl, by decide +kernel, rfl, by decide +kernel, by decide +kernel⟩
def S_is_integer (K : PySem.W.Frag) (A : Adr) : FS :=
  (sRet (fAndV (fIsi K "int" (fVarT 0)) (fAndV (fNotV (fIsi K "bool" (fVarT 0))) (fChain RLt RLt (fNeg (fC (.int 1000000000000000000000000000000000000000000000000000000000000))) (fVarT 0) (fC (.int 1000000000000000000000000000000000000000000000000000000000000))))))
def G_is_integer (K : PySem.W.Frag) (A : Adr) : Fn := fnS 1 (S_is_integer K A)
theorem ok_is_integer {f : Addr} {fd : FuncData} (F : Fun K "is_integer" "is_integer" s_is_integer f fd) (T : Txt K mg) {t_LONGEST : Tok} (g_LONGEST : mg "LONGEST" = some (.int (1000000000000000000000000000000000000000000000000000000000000) t_LONGEST)) : FnOk P w K mg base (L2.CX P w) 1 f fd ps_is_integer (spD K 1 (G_is_integer K A)) := by
  have nd := sc_is_integer.nd
  exact fn_d (k := 0) F sc_is_integer rfl (fun cdv Ar outer s H E W0 hr => (d_sone (d_ret (d_andV (d_isi (K := K) (by decide) rfl T.z_isinstance (d_varT (pv 0)) (pe_ty "int" (by rfl) T.z_int (by decide +kernel))) (d_andV (d_notV (d_isi (K := K) (by decide) rfl T.z_isinstance (d_varT (pv 0)) (pe_ty "bool" (by rfl) T.z_bool (by decide +kernel)))) (d_one (d_chain op_lt op_lt s_lt s_lt (d_t (d_neg (d_int (pe_gint rfl g_LONGEST)))) (d_varT (pv 0)) (d_t (d_int (pe_gint rfl g_LONGEST)))))))))) fun _ _ _ _ h => h
abbrev s_is_within : Stmt := top 9
abbrev nm_is_within : List Str := ["value", "least", "most"]
abbrev ps_is_within : List Str := ["value", "least", "most"]
theorem sc_is_within : FnScope nm_is_within ps_is_within (defScope s_is_within) := ⟨rfl, rfl, rfl, by decide +kernel, rfl, by decide +kernel, by decide +kernel⟩
def S_is_within (K : PySem.W.Frag) (A : Adr) : FS :=
  (sRet (fAndV (fCall (G_is_integer K A) 1 (fCons (fVar 0) fNil)) (fChain RLe RLe (fVarT 1) (fVarT 0) (fVarT 2))))
def G_is_within (K : PySem.W.Frag) (A : Adr) : Fn := fnS 3 (S_is_within K A)
theorem ok_is_within {f : Addr} {fd : FuncData} (F : Fun K "is_within" "is_within" s_is_within f fd) (T : Txt K mg) (C_is_integer : CalF P w K mg base "is_integer" 1 1 (G_is_integer K A)) : FnOk P w K mg base (L2.CX P w) 2 f fd ps_is_within (spD K 3 (G_is_within K A)) := by
  have nd := sc_is_within.nd
  exact fn_d (k := 1) F sc_is_within rfl (fun cdv Ar outer s H E W0 hr => (d_sone (d_ret (d_andV (d_call C_is_integer (hr.mono (by first | decide | omega)) rfl (passes_call (takes_of rfl rfl rfl rfl) fun _ _ _ _ h => h) (d_cons (d_var (pv 0)) d_nil)) (d_one (d_chain op_le op_le s_le s_le (d_varT (pv 1)) (d_varT (pv 0)) (d_varT (pv 2)))))))) fun _ _ _ _ h => h
abbrev s_is_word : Stmt := top 10
abbrev nm_is_word : List Str := ["value", "sign"]
abbrev ps_is_word : List Str := ["value"]
theorem sc_is_word : FnScope nm_is_word ps_is_word (defScope s_is_word) := ⟨rfl, rfl, rfl, by decide +kernel, rfl, by decide +kernel, by decide +kernel⟩
def S_is_word (K : PySem.W.Frag) (A : Adr) : FS :=
  (sRet (fAndV (fIsi K "str" (fVarT 0)) (fAndV (fChain RLe RLe (fC (.int 1)) (fCB RLen (fCons (fVarT 0) fNil)) (fC (.int 8))) (fCB RAll (fCons (fNew (fLc (fIt (fVarT 0)) (gN 1) fYes (fOp (RIn false) (fVarT 1) (fC (.str "abcdefghijklmnopqrstuvwxyz"))) [1])) fNil)))))
def G_is_word (K : PySem.W.Frag) (A : Adr) : Fn := fnS 2 (S_is_word K A)
theorem ok_is_word {f : Addr} {fd : FuncData} (F : Fun K "is_word" "is_word" s_is_word f fd) (T : Txt K mg) {t_LETTERS : Tok} (g_LETTERS : mg "LETTERS" = some (.str "abcdefghijklmnopqrstuvwxyz" t_LETTERS))
    {t_MAX_LETTERS : Tok} (g_MAX_LETTERS : mg "MAX_LETTERS" = some (.int (8) t_MAX_LETTERS)) : FnOk P w K mg base (L2.CX P w) 1 f fd ps_is_word (spD K 1 (G_is_word K A)) := by
  have nd := sc_is_word.nd
  exact fn_d (k := 0) F sc_is_word rfl (fun cdv Ar outer s H E W0 hr => (d_sone (d_ret (d_andV (d_isi (K := K) (by decide) rfl T.z_isinstance (d_varT (pv 0)) (pe_ty "str" (by rfl) T.z_str (by decide +kernel))) (d_andV (d_chain op_le op_le s_le s_le (d_t (d_int pe_int)) (d_t (d_cb (c_len (K := K)) s_len (by rfl) T.z_len (by decide +kernel) (d_consT (d_varT (pv 0)) d_nilT))) (d_t (d_int (pe_gint rfl g_MAX_LETTERS)))) (d_one (d_cb (kcr_all (K := K) rfl) s_all (by rfl) T.z_all (by decide +kernel) (d_consT (d_nt (d_lc (own := [("sign", 1)]) (by rfl) nd (d_itC (K := K) (d_varT (pv 0))) (blkOk_by (own := [("sign", 1)]) (N := nm_is_word) (sc := defScope s_is_word) (by decide +kernel)) (g_name (by decide)) (fun _ _ _ _ _ => (pg_name (i := 1) nd rfl (Or.inl rfl))) (fun _ _ _ _ _ => d_pts0) (fun _ _ _ _ _ => (d_cmp (op_inA (K := K) (hr65 hr)) s_in (d_varT (pv 1)) (d_t (d_str (pe_gstr rfl g_LETTERS))) rfl)))) d_nilT)))))))) fun _ _ _ _ h => h
abbrev s_is_node : Stmt := top 11
abbrev nm_is_node : List Str := ["value"]
abbrev ps_is_node : List Str := ["value"]
theorem sc_is_node : FnScope nm_is_node ps_is_node (defScope s_is_node) := ⟨rfl, rfl, rfl, by decide +kernel, rfl, by decide +kernel, by decide +kernel⟩
def S_is_node (K : PySem.W.Frag) (A : Adr) : FS :=
  (sSeq (sIf (fOr (fNot (fTst (fIsi K "tuple" (fVarT 0)))) (fOr (fTst (fOp RNe (fCB RLen (fCons (fVarT 0) fNil)) (fC (.int 2)))) (fNot (fTst (fCall (G_is_within K A) 3 (fCons (fOp RIx (fVarT 0) (fC (.int 1))) (fCons (fC (.int 0)) (fCons (fC (.int 3)) fNil)))))))) (sRet (fC (.bl false))) sNext)
      (sRet (fOrV (fCall (G_is_word K A) 1 (fCons (fOp RIx (fVarT 0) (fC (.int 0))) fNil)) (fAndV (fIsi K "str" (fOp RIx (fVarT 0) (fC (.int 0)))) (fAndV (fOp (RIn false) (fOp RIx (fVarT 0) (fC (.int 0))) (fTup (fCons (fC (.str "_")) (fCons (fC (.str "#")) fNil)))) (fOp REq (fOp RIx (fVarT 0) (fC (.int 1))) (fC (.int 0))))))))
def G_is_node (K : PySem.W.Frag) (A : Adr) : Fn := fnS 1 (S_is_node K A)
theorem ok_is_node {f : Addr} {fd : FuncData} (F : Fun K "is_node" "is_node" s_is_node f fd) (T : Txt K mg) {t_MAX_ARITY : Tok} (g_MAX_ARITY : mg "MAX_ARITY" = some (.int (3) t_MAX_ARITY))
    {t_LOST : Tok} (g_LOST : mg "LOST" = some (.str "#" t_LOST))
    {t_ANY : Tok} (g_ANY : mg "ANY" = some (.str "_" t_ANY))
    (C_is_within : CalF P w K mg base "is_within" 2 3 (G_is_within K A))
    (C_is_word : CalF P w K mg base "is_word" 1 1 (G_is_word K A)) : FnOk P w K mg base (L2.CX P w) 3 f fd ps_is_node (spD K 1 (G_is_node K A)) := by
  have nd := sc_is_node.nd
  exact fn_d (k := 2) F sc_is_node rfl (fun cdv Ar outer s H E W0 hr => (d_seq (d_ifs (PW.pt (d_or (d_not (d_test (d_isi (K := K) (by decide) rfl T.z_isinstance (d_varT (pv 0)) (pe_ty "tuple" (by rfl) T.z_tuple (by decide +kernel))))) (d_or (d_tcmp (op_neA (K := K) hr.units) s_ne (d_t (d_cb (c_len (K := K)) s_len (by rfl) T.z_len (by decide +kernel) (d_consT (d_varT (pv 0)) d_nilT))) (d_t (d_int pe_int)) (nomark _)) (d_or1 (d_not (d_test (d_call C_is_within (hr.mono (by first | decide | omega)) rfl (passes_call (takes_of rfl rfl rfl rfl) fun _ _ _ _ h => h) (d_cons (d_ix (ix_A (K := K)) s_ix (d_varT (pv 0)) (d_t (d_int pe_int)) (fun _ _ => rfl)) (d_cons (d_int pe_int) (d_cons (d_int (pe_gint rfl g_MAX_ARITY)) d_nil)))))))))) (d_sone (d_ret (d_bl pe_bl))) d_snil)
      (d_sone (d_ret (d_orV (d_call C_is_word (hr.mono (by first | decide | omega)) rfl (passes_call (takes_of rfl rfl rfl rfl) fun _ _ _ _ h => h) (d_cons (d_ix (ix_A (K := K)) s_ix (d_varT (pv 0)) (d_t (d_int pe_int)) (fun _ _ => rfl)) d_nil)) (d_one (d_andV (d_isi (K := K) (by decide) rfl T.z_isinstance (d_t (d_ix (ix_A (K := K)) s_ix (d_varT (pv 0)) (d_t (d_int pe_int)) (fun _ _ => rfl))) (pe_ty "str" (by rfl) T.z_str (by decide +kernel))) (d_andV (d_cmp (op_inA (K := K) (hr65 hr)) s_in (d_t (d_ix (ix_A (K := K)) s_ix (d_varT (pv 0)) (d_t (d_int pe_int)) (fun _ _ => rfl))) (d_t (d_tup (d_cons (d_str (pe_gstr rfl g_ANY)) (d_cons (d_str (pe_gstr rfl g_LOST)) d_nil)))) rfl) (d_one (d_cmp (op_eqA (K := K) hr.units) s_eq (d_t (d_ix (ix_A (K := K)) s_ix (d_varT (pv 0)) (d_t (d_int pe_int)) (fun _ _ => rfl))) (d_t (d_int pe_int)) (nomark _))))))))))) fun _ _ _ _ h => h
abbrev s_ascending_rows : Stmt := top 12
abbrev nm_ascending_rows : List Str := ["rows", "word"]
abbrev ps_ascending_rows : List Str := ["rows"]
theorem sc_ascending_rows : FnScope nm_ascending_rows ps_ascending_rows (defScope s_ascending_rows) := ⟨rfl, rfl, rfl, by decide +kernel, rfl, by decide +kernel, by decide +kernel⟩
def S_ascending_rows (K : PySem.W.Frag) (A : Adr) : FS :=
  (sRet (fDic (fDc (fIt (fNew (fCBN RSortS (fCons (fNew (fCBN RListD (fCons (fVarT 0) fNil))) fNil)))) (gN 1) fYes (fVar 1) (fGet (fVarT 0) (fVar 1)) [1])))
def G_ascending_rows (K : PySem.W.Frag) (A : Adr) : Fn := fnS 2 (S_ascending_rows K A)
theorem ok_ascending_rows {f : Addr} {fd : FuncData} (F : Fun K "ascending_rows" "ascending_rows" s_ascending_rows f fd) (T : Txt K mg)  : FnOk P w K mg base (L2.CX P w) 1 f fd ps_ascending_rows (spD K 1 (G_ascending_rows K A)) := by
  have nd := sc_ascending_rows.nd
  exact fn_d (k := 0) F sc_ascending_rows rfl (fun cdv Ar outer s H E W0 hr => (d_sone (d_ret (d_dd (d_dc (own := [("word", 1)]) (g_name (by decide)) (pe_dc (own := [("word", 1)]) (by rfl) nd (d_itC (K := K) (d_nt (d_cbN (kcr_sortedS (K := K)) s_sortS (by rfl) T.z_sorted (by decide +kernel) (d_consT (d_nt (d_ctN (c_listD rfl) s_listD (by rfl) T.z_list (by decide +kernel) (d_consT (d_varT (pv 0)) d_nilT))) d_nilT)))) (blkOk_by (own := [("word", 1)]) (N := nm_ascending_rows) (sc := defScope s_ascending_rows) (by decide +kernel)) (fun _ _ _ _ _ => (pg_name (i := 1) nd rfl (Or.inl rfl))) (fun _ _ _ _ _ => d_pts0) (fun _ _ _ _ _ => (d_var (pv 1))) (fun _ _ _ _ _ => (d_get (hr1 hr) (d_varT (pv 0)) (d_var (pv 1)) (fun _ _ => rfl))))))))) fun _ _ _ _ h => h
abbrev s_children_of : Stmt := top 22
abbrev nm_children_of : List Str := ["nodes", "found", "node", "waiting", "at", "cut"]
abbrev ps_children_of : List Str := ["nodes"]
theorem sc_children_of : FnScope nm_children_of ps_children_of (defScope s_children_of) := ⟨rfl, rfl, rfl, by decide +kernel, rfl, by decide +kernel, by decide +kernel⟩
def S_children_of (K : PySem.W.Frag) (A : Adr) : FS :=
  (sSeq (sNew 1 (fLc (fIt (fVarT 0)) (gN 2) fYes (fTup fNil) [2]))
      (sSeq (sAsg 3 (fNew (fLst fNil)))
      (sSeq (sFor (fRng3 (fCons (fOp RSub (fCB RLen (fCons (fVarT 0) fNil)) (fC (.int 1))) (fCons (fNeg (fC (.int 1))) (fCons (fNeg (fC (.int 1))) fNil)))) (gN 4) (sSeq (sAsg 5 (fOp RSub (fCB RLen (fCons (fVarT 3) fNil)) (fOp RIx (fOp RIx (fVarT 0) (fVarT 4)) (fC (.int 1)))))
      (sSeq (sIf (fTst (fOp RLt (fVarT 5) (fC (.int 0)))) (sRet (fC .non)) sNext)
      (sSeq (sPut 1 (fVar 4) (fCB RTuple (fCons (fNew (fRev (fSl (fVarT 3) (oAt (fVar 5)) oNo))) fNil)))
      (sAsg 3 (fNew (fLst (fStar (fSl (fVarT 3) oNo (oAt (fVar 5))) (fCons (fVar 4) fNil)))))))))
      (sDem 1 (sRet (fIf (fTst (fOp REq (fVarT 3) (fNew (fLst (fCons (fC (.int 0)) fNil))))) (fVar 1) (fC .non)))))))
def G_children_of (K : PySem.W.Frag) (A : Adr) : Fn := fnS 6 (S_children_of K A)
theorem ok_children_of {f : Addr} {fd : FuncData} (F : Fun K "children_of" "children_of" s_children_of f fd) (T : Txt K mg)  : FnOk P w K mg base (L2.CX P w) 1 f fd ps_children_of (spD K 1 (G_children_of K A)) := by
  have nd := sc_children_of.nd
  exact fn_d (k := 0) F sc_children_of rfl (fun cdv Ar outer s H E W0 hr => (d_seq (d_setLc (g_name (by decide)) (ps_setLc (i := 1) (own := [("node", 2)]) (by rfl) nd rfl rfl (sw_true rfl rfl rfl (by decide +kernel)) (d_itC (K := K) (d_varT (pv 0))) (blkOk_by (own := [("node", 2)]) (N := nm_children_of) (sc := defScope s_children_of) (by decide +kernel)) (fun _ _ _ _ _ => (pg_name (i := 2) nd rfl (Or.inl rfl))) (fun _ _ _ _ _ => d_pts0) (fun _ _ _ _ _ => (d_tup d_nil))))
      (d_seq (d_asg (d_n (d_lst d_nil)) (pg_name (i := 3) nd rfl (Or.inl rfl)))
      (d_seq (d_for (vs := [4]) (passes_of rfl) rfl (d_rng3 rfl T.z_range (d_cons (d_op op_sub s_sub (d_t (d_cb (c_len (K := K)) s_len (by rfl) T.z_len (by decide +kernel) (d_consT (d_varT (pv 0)) d_nilT))) (d_t (d_int pe_int))) (d_cons (d_neg (d_int pe_int)) (d_cons (d_neg (d_int pe_int)) d_nil)))) (pg_name (i := 4) nd rfl (Or.inl rfl)) (g_name (by decide)) (d_seq (d_asg (d_op op_sub s_sub (d_t (d_cb (c_len (K := K)) s_len (by rfl) T.z_len (by decide +kernel) (d_consT (d_varT (pv 3)) d_nilT))) (d_t (d_ix (ix_A (K := K)) s_ix (d_t (d_ix (ix_A (K := K)) s_ix (d_varT (pv 0)) (d_varT (pv 4)) (fun _ _ => rfl))) (d_t (d_int pe_int)) (fun _ _ => rfl)))) (pg_name (i := 5) nd rfl (Or.inl rfl)))
      (d_seq (d_ifs (d_tcmp op_lt s_lt (d_varT (pv 5)) (d_t (d_int pe_int)) (nomark _)) (d_sone (d_ret (d_non pe_non))) d_snil)
      (d_seq (d_put (ps_asg (d_ct (kcall_tuple (K := K)) s_tuple (by rfl) T.z_tuple (by decide +kernel) (d_consT (d_nt (d_rev (d_t (d_slice (K := K) (d_varT (pv 3)) (d_oat (d_var (pv 5))) d_ono)))) d_nilT)) (pg_sub (pv 1) (d_var (pv 4)) set_list)))
      (d_sone (d_asg (d_n (d_lst (d_star (d_t (d_slice (K := K) (d_varT (pv 3)) d_ono (d_oat (d_var (pv 5))))) (d_cons (d_var (pv 4)) d_nil)))) (pg_name (i := 3) nd rfl (Or.inl rfl))))))))
      (d_sone (d_dem 1 (d_ret (d_if (d_tcmp (op_eqA (K := K) hr.units) s_eq (d_varT (pv 3)) (d_nt (d_lst (d_cons (d_int pe_int) d_nil))) (nomark _)) (d_var (pv 1)) (d_non pe_non))))))))) fun _ _ _ _ h => h
abbrev s_ends_of : Stmt := top 23
abbrev nm_ends_of : List Str := ["children", "found", "at"]
abbrev ps_ends_of : List Str := ["children"]
theorem sc_ends_of : FnScope nm_ends_of ps_ends_of (defScope s_ends_of) := ⟨rfl, rfl, rfl, by decide +kernel, rfl, by decide +kernel, by decide +kernel⟩
def S_ends_of (K : PySem.W.Frag) (A : Adr) : FS :=
  (sSeq (sNew 1 (fLc (fRng1 (fCons (fCB RLen (fCons (fVarT 0) fNil)) fNil)) (gN 2) fYes (fOp RAdd (fVarT 2) (fC (.int 1))) [2]))
      (sSeq (sFor (fRng3 (fCons (fOp RSub (fCB RLen (fCons (fVarT 0) fNil)) (fC (.int 1))) (fCons (fNeg (fC (.int 1))) (fCons (fNeg (fC (.int 1))) fNil)))) (gN 2) (sIf (fTst (fOp RNe (fOp RIx (fVarT 0) (fVarT 2)) (fTup fNil))) (sPut 1 (fVar 2) (fOp RIx (fVarT 1) (fOp RIx (fOp RIx (fVarT 0) (fVarT 2)) (fNeg (fC (.int 1)))))) sNext))
      (sDem 1 (sRet (fVar 1)))))
def G_ends_of (K : PySem.W.Frag) (A : Adr) : Fn := fnS 3 (S_ends_of K A)
theorem ok_ends_of {f : Addr} {fd : FuncData} (F : Fun K "ends_of" "ends_of" s_ends_of f fd) (T : Txt K mg)  : FnOk P w K mg base (L2.CX P w) 1 f fd ps_ends_of (spD K 1 (G_ends_of K A)) := by
  have nd := sc_ends_of.nd
  exact fn_d (k := 0) F sc_ends_of rfl (fun cdv Ar outer s H E W0 hr => (d_seq (d_setLc (g_name (by decide)) (ps_setLc (i := 1) (own := [("at", 2)]) (by rfl) nd rfl rfl (sw_true rfl rfl rfl (by decide +kernel)) (d_fc (d_rng1 rfl T.z_range (d_cons (d_cb (c_len (K := K)) s_len (by rfl) T.z_len (by decide +kernel) (d_consT (d_varT (pv 0)) d_nilT)) d_nil))) (blkOk_by (own := [("at", 2)]) (N := nm_ends_of) (sc := defScope s_ends_of) (by decide +kernel)) (fun _ _ _ _ _ => (pg_name (i := 2) nd rfl (Or.inl rfl))) (fun _ _ _ _ _ => d_pts0) (fun _ _ _ _ _ => (d_op (op_addA (K := K)) s_add (d_varT (pv 2)) (d_t (d_int pe_int))))))
      (d_seq (d_for (vs := [2]) (passes_of rfl) rfl (d_rng3 rfl T.z_range (d_cons (d_op op_sub s_sub (d_t (d_cb (c_len (K := K)) s_len (by rfl) T.z_len (by decide +kernel) (d_consT (d_varT (pv 0)) d_nilT))) (d_t (d_int pe_int))) (d_cons (d_neg (d_int pe_int)) (d_cons (d_neg (d_int pe_int)) d_nil)))) (pg_name (i := 2) nd rfl (Or.inl rfl)) (g_name (by decide)) (d_sone (d_ifs (d_tcmp (op_neA (K := K) hr.units) s_ne (d_t (d_ix (ix_A (K := K)) s_ix (d_varT (pv 0)) (d_varT (pv 2)) (fun _ _ => rfl))) (d_t (d_tup d_nil)) (nomark _)) (d_sone (d_put (ps_asg (d_ix (ix_A (K := K)) s_ix (d_varT (pv 1)) (d_t (d_ix (ix_A (K := K)) s_ix (d_t (d_ix (ix_A (K := K)) s_ix (d_varT (pv 0)) (d_varT (pv 2)) (fun _ _ => rfl))) (d_t (d_neg (d_int pe_int))) (fun _ _ => rfl))) (fun _ _ => rfl)) (pg_sub (pv 1) (d_var (pv 2)) set_list)))) d_snil)))
      (d_sone (d_dem 1 (d_ret (d_var (pv 1)))))))) fun _ _ _ _ h => h
abbrev s_arities_in : Stmt := top 24
abbrev nm_arities_in : List Str := ["nodes", "found", "word", "arity"]
abbrev ps_arities_in : List Str := ["nodes"]
theorem sc_arities_in : FnScope nm_arities_in ps_arities_in (defScope s_arities_in) := ⟨rfl, rfl, rfl, by decide +kernel, rfl, by decide +kernel, by decide +kernel⟩
def S_arities_in (K : PySem.W.Frag) (A : Adr) : FS :=
  (sSeq (sNewD 1 fDic0)
      (sSeq (sFor (fIt (fVar 0)) (gT [2, 3]) (sSeq (sIf (fTst (fOp RNe (fGet2 (fVarT 1) (fVar 2) (fVar 3)) (fVarT 3))) (sRet (fC .non)) sNext)
      (sPutD 1 (fVar 2) (fVar 3))))
      (sDemD 1 (sRet (fCall (G_ascending_rows K A) 1 (fCons (fDic (fDc (fDw itemsD (fVar 1)) (gT [2, 3]) (fTst (fOp (RIn true) (fVarT 2) (fTup (fCons (fC (.str "_")) (fCons (fC (.str "#")) fNil))))) (fVar 2) (fVar 3) [2, 3])) fNil))))))
def G_arities_in (K : PySem.W.Frag) (A : Adr) : Fn := fnS 4 (S_arities_in K A)
theorem ok_arities_in {f : Addr} {fd : FuncData} (F : Fun K "arities_in" "arities_in" s_arities_in f fd) (T : Txt K mg) {t_LOST : Tok} (g_LOST : mg "LOST" = some (.str "#" t_LOST))
    {t_ANY : Tok} (g_ANY : mg "ANY" = some (.str "_" t_ANY))
    (C_ascending_rows : CalF P w K mg base "ascending_rows" 1 1 (G_ascending_rows K A)) : FnOk P w K mg base (L2.CX P w) 2 f fd ps_arities_in (spD K 1 (G_arities_in K A)) := by
  have nd := sc_arities_in.nd
  exact fn_d (k := 1) F sc_arities_in rfl (fun cdv Ar outer s H E W0 hr => (d_seq (d_newD (d_dic0 pe_dnewK) (pg_name (i := 1) nd rfl (Or.inl rfl)))
      (d_seq (d_for (vs := [2, 3]) (passes_of rfl) rfl (d_itF (K := K) (d_var (pv 0))) (kpg_tup (K := K) (n := 2) rfl (pgs_cons (pg_name (i := 2) nd rfl (Or.inl rfl)) (pgs_cons (pg_name (i := 3) nd rfl (Or.inl rfl)) pgs_nil))) (g_pair (by decide) (by decide)) (d_seq (d_ifs (d_tcmp (op_neA (K := K) hr.units) s_ne (d_t (d_get2 (hr1 hr) (d_varT (pv 1)) (d_var (pv 2)) (d_var (pv 3)) ⟨rfl, rfl, rfl, rfl⟩)) (d_varT (pv 3)) (nomark _)) (d_sone (d_ret (d_non pe_non))) d_snil)
      (d_sone (d_putD (ps_dput (hr1 hr) (pv 1) (d_var (pv 2)) (d_var (pv 3)) rfl)))))
      (d_sone (d_demD 1 (d_ret (d_call C_ascending_rows (hr.mono (by first | decide | omega)) rfl (passes_call (takes_of rfl rfl rfl rfl) fun _ _ _ _ h => h) (d_cons (d_dd (d_dcw (own := [("word", 2), ("arity", 3)]) stat_var dw_items (g_pair (by decide) (by decide)) (pe_dc (own := [("word", 2), ("arity", 3)]) (by rfl) nd (pi_items (pv 1)) (blkOk_by (own := [("word", 2), ("arity", 3)]) (N := nm_arities_in) (sc := defScope s_arities_in) (by decide +kernel)) (fun _ _ _ _ _ => (kpg_tup (K := K) (n := 2) rfl (pgs_cons (pg_name (i := 2) nd rfl (Or.inl rfl)) (pgs_cons (pg_name (i := 3) nd rfl (Or.inl rfl)) pgs_nil)))) (fun _ _ _ _ _ => (d_pts1 (d_tcmp (op_notInA (K := K) (hr65 hr)) s_notIn (d_varT (pv 2)) (d_t (d_tup (d_cons (d_str (pe_gstr rfl g_ANY)) (d_cons (d_str (pe_gstr rfl g_LOST)) d_nil)))) rfl))) (fun _ _ _ _ _ => (d_var (pv 2))) (fun _ _ _ _ _ => (d_var (pv 3)))))) d_nil)))))))) fun _ _ _ _ h => h
abbrev s_is_term_row : Stmt := top 25
abbrev nm_is_term_row : List Str := ["value", "node"]
abbrev ps_is_term_row : List Str := ["value"]
theorem sc_is_term_row : FnScope nm_is_term_row ps_is_term_row (defScope s_is_term_row) := ⟨rfl, rfl, rfl, by decide +kernel, rfl, by decide +kernel, by decide +kernel⟩
def S_is_term_row (K : PySem.W.Frag) (A : Adr) : FS :=
  (sSeq (sIf (fOr (fNot (fTst (fIsi K "tuple" (fVarT 0)))) (fOr (fNot (fTst (fChain RLe RLe (fC (.int 1)) (fCB RLen (fCons (fVarT 0) fNil)) (fC (.int 40))))) (fNot (fTst (fCB RAll (fCons (fNew (fLc (fIt (fVarT 0)) (gN 1) fYes (fCall (G_is_node K A) 1 (fCons (fVar 1) fNil)) [1])) fNil)))))) (sRet (fC (.bl false))) sNext)
      (sRet (fAndV (fOp RNotN (fCall (G_children_of K A) 1 (fCons (fVar 0) fNil)) (fC .non)) (fOp RNotN (fCall (G_arities_in K A) 1 (fCons (fVar 0) fNil)) (fC .non)))))
def G_is_term_row (K : PySem.W.Frag) (A : Adr) : Fn := fnS 2 (S_is_term_row K A)
theorem ok_is_term_row {f : Addr} {fd : FuncData} (F : Fun K "is_term_row" "is_term_row" s_is_term_row f fd) (T : Txt K mg) {t_MAX_NODES : Tok} (g_MAX_NODES : mg "MAX_NODES" = some (.int (40) t_MAX_NODES))
    (C_is_node : CalF P w K mg base "is_node" 3 1 (G_is_node K A))
    (C_arities_in : CalF P w K mg base "arities_in" 2 1 (G_arities_in K A))
    (C_children_of : CalF P w K mg base "children_of" 1 1 (G_children_of K A)) : FnOk P w K mg base (L2.CX P w) 4 f fd ps_is_term_row (spD K 1 (G_is_term_row K A)) := by
  have nd := sc_is_term_row.nd
  exact fn_d (k := 3) F sc_is_term_row rfl (fun cdv Ar outer s H E W0 hr => (d_seq (d_ifs (PW.pt (d_or (d_not (d_test (d_isi (K := K) (by decide) rfl T.z_isinstance (d_varT (pv 0)) (pe_ty "tuple" (by rfl) T.z_tuple (by decide +kernel))))) (d_or (d_not (d_tchain op_le op_le s_le s_le (d_t (d_int pe_int)) (d_t (d_cb (c_len (K := K)) s_len (by rfl) T.z_len (by decide +kernel) (d_consT (d_varT (pv 0)) d_nilT))) (d_t (d_int (pe_gint rfl g_MAX_NODES))))) (d_or1 (d_not (d_test (d_cb (kcr_all (K := K) rfl) s_all (by rfl) T.z_all (by decide +kernel) (d_consT (d_nt (d_lc (own := [("node", 1)]) (by rfl) nd (d_itC (K := K) (d_varT (pv 0))) (blkOk_by (own := [("node", 1)]) (N := nm_is_term_row) (sc := defScope s_is_term_row) (by decide +kernel)) (g_name (by decide)) (fun _ _ _ _ _ => (pg_name (i := 1) nd rfl (Or.inl rfl))) (fun _ _ _ _ _ => d_pts0) (fun _ _ _ _ _ => (d_call C_is_node (hr.mono (by first | decide | omega)) rfl passL (d_cons (d_var (pv 1)) d_nil))))) d_nilT)))))))) (d_sone (d_ret (d_bl pe_bl))) d_snil)
      (d_sone (d_ret (d_andV (d_cmp op_notN s_notN (d_t (d_call C_children_of (hr.mono (by first | decide | omega)) rfl (passes_call (takes_of rfl rfl rfl rfl) fun _ _ _ _ h => h) (d_cons (d_var (pv 0)) d_nil))) (d_t (d_non pe_non)) (nomark _)) (d_one (d_cmp op_notN s_notN (d_t (d_call C_arities_in (hr.mono (by first | decide | omega)) rfl (passes_call (takes_of rfl rfl rfl rfl) fun _ _ _ _ h => h) (d_cons (d_var (pv 0)) d_nil))) (d_t (d_non pe_non)) (nomark _)))))))) fun _ _ _ _ h => h
abbrev s_text_of : Stmt := top 26
abbrev nm_text_of : List Str := ["nodes", "children", "at", "child"]
abbrev ps_text_of : List Str := ["nodes", "children", "at"]
theorem sc_text_of : FnScope nm_text_of ps_text_of (defScope s_text_of) := ⟨rfl, rfl, rfl, by decide +kernel, rfl, by decide +kernel, by decide +kernel⟩
def S_text_of (K : PySem.W.Frag) (A : Adr) (rec : Fn) : FS :=
  (sSeq (sIf (fTst (fOp REq (fOp RIx (fVarT 1) (fVarT 2)) (fTup fNil))) (sRet (fOp RIx (fOp RIx (fVarT 0) (fVarT 2)) (fC (.int 0)))) sNext)
      (sRet (fOp RAdd (fOp RAdd (fOp RAdd (fOp RIx (fOp RIx (fVarT 0) (fVarT 2)) (fC (.int 0))) (fC (.str "("))) (fJoin (fC (.str ", ")) (fNew (fLc (fIt (fOp RIx (fVarT 1) (fVarT 2))) (gN 3) fYes (fCall rec 3 (fCons (fVar 0) (fCons (fVar 1) (fCons (fVar 3) fNil)))) [3])))) (fC (.str ")")))))
def G_text_of (K : PySem.W.Frag) (A : Adr) : Nat → Fn
  | 0 => fun _ _ _ => False
  | k + 1 => fnS 4 (S_text_of K A (G_text_of K A k))
theorem ok_text_of {f : Addr} {fd : FuncData} (F : Fun K "text_of" "text_of" s_text_of f fd) (T : Txt K mg) 
    (hm : mg "text_of" = some (.ref f)) (hk : PySem.W.keepIn K (.ref f) = true) (hb : Binds K fd ps_text_of []) : ∀ j : Nat, FnOk P w K mg base (L2.CX P w) (0 + j) f fd ps_text_of (spD K 3 (G_text_of K A j))
  | 0 => ⟨fun vs H Q E ⟨_, _, _, _, _, _, _, z, _⟩ => z.elim, fun _ _ _ _ _ _ _ _ _ _ _ _ _ ⟨_, _, _, _, _, _, _, z, _⟩ => z.elim⟩
  | j + 1 => by
    have nd := sc_text_of.nd
    have rec_ : CalF P w K mg base "text_of" (0 + j) 3 (G_text_of K A j) := ⟨f, fd, ps_text_of, ok_text_of F T  hm hk hb j, hm, hk, hb⟩
    exact fn_d (k := 0 + j) F sc_text_of rfl (fun cdv Ar outer s H E W0 hr => (d_seq (d_ifs (d_tcmp (op_eqA (K := K) hr.units) s_eq (d_t (d_ix (ix_A (K := K)) s_ix (d_varT (pv 1)) (d_varT (pv 2)) (fun _ _ => rfl))) (d_t (d_tup d_nil)) (nomark _)) (d_sone (d_ret (d_ix (ix_A (K := K)) s_ix (d_t (d_ix (ix_A (K := K)) s_ix (d_varT (pv 0)) (d_varT (pv 2)) (fun _ _ => rfl))) (d_t (d_int pe_int)) (fun _ _ => rfl)))) d_snil)
      (d_sone (d_ret (d_op (op_addA (K := K)) s_add (d_t (d_op (op_addA (K := K)) s_add (d_t (d_op (op_addA (K := K)) s_add (d_t (d_ix (ix_A (K := K)) s_ix (d_t (d_ix (ix_A (K := K)) s_ix (d_varT (pv 0)) (d_varT (pv 2)) (fun _ _ => rfl))) (d_t (d_int pe_int)) (fun _ _ => rfl))) (d_t (d_str pe_str)))) (d_t (d_join (K := K) (d_str pe_str) (d_nt (d_lc (own := [("child", 3)]) (by rfl) nd (d_itC (K := K) (d_t (d_ix (ix_A (K := K)) s_ix (d_varT (pv 1)) (d_varT (pv 2)) (fun _ _ => rfl)))) (blkOk_by (own := [("child", 3)]) (N := nm_text_of) (sc := defScope s_text_of) (by decide +kernel)) (g_name (by decide)) (fun _ _ _ _ _ => (pg_name (i := 3) nd rfl (Or.inl rfl))) (fun _ _ _ _ _ => d_pts0) (fun _ _ _ _ _ => (d_call rec_ (hr.mono (by first | decide | omega)) rfl passL (d_cons (d_var (pv 0)) (d_cons (d_var (pv 1)) (d_cons (d_var (pv 3)) d_nil))))))))))) (d_t (d_str pe_str))))))) fun _ _ _ _ h => h
abbrev s_places_with : Stmt := top 34
abbrev nm_places_with : List Str := ["nodes", "word", "at", "node"]
abbrev ps_places_with : List Str := ["nodes", "word"]
theorem sc_places_with : FnScope nm_places_with ps_places_with (defScope s_places_with) := ⟨rfl, rfl, rfl, by decide +kernel, rfl, by decide +kernel, by decide +kernel⟩
def S_places_with (K : PySem.W.Frag) (A : Adr) : FS :=
  (sRet (fCB RTuple (fCons (fNew (fLc (fEnum (fCons (fVar 0) fNil)) (gT [2, 3]) (fTst (fOp REq (fOp RIx (fVarT 3) (fC (.int 0))) (fVarT 1))) (fVar 2) [2, 3])) fNil)))
def G_places_with (K : PySem.W.Frag) (A : Adr) : Fn := fnS 4 (S_places_with K A)
theorem ok_places_with {f : Addr} {fd : FuncData} (F : Fun K "places_with" "places_with" s_places_with f fd) (T : Txt K mg)  : FnOk P w K mg base (L2.CX P w) 1 f fd ps_places_with (spD K 2 (G_places_with K A)) := by
  have nd := sc_places_with.nd
  exact fn_d (k := 0) F sc_places_with rfl (fun cdv Ar outer s H E W0 hr => (d_sone (d_ret (d_ct (kcall_tuple (K := K)) s_tuple (by rfl) T.z_tuple (by decide +kernel) (d_consT (d_nt (d_lc (own := [("at", 2), ("node", 3)]) (by rfl) nd (d_fc (d_enum rfl T.z_enumerate (d_cons (d_var (pv 0)) d_nil))) (blkOk_by (own := [("at", 2), ("node", 3)]) (N := nm_places_with) (sc := defScope s_places_with) (by decide +kernel)) (g_pair (by decide) (by decide)) (fun _ _ _ _ _ => (kpg_tup (K := K) (n := 2) rfl (pgs_cons (pg_name (i := 2) nd rfl (Or.inl rfl)) (pgs_cons (pg_name (i := 3) nd rfl (Or.inl rfl)) pgs_nil)))) (fun _ _ _ _ _ => (d_pts1 (d_tcmp (op_eqA (K := K) hr.units) s_eq (d_t (d_ix (ix_A (K := K)) s_ix (d_varT (pv 3)) (d_t (d_int pe_int)) (fun _ _ => rfl))) (d_varT (pv 1)) (nomark _)))) (fun _ _ _ _ _ => (d_var (pv 2))))) d_nilT))))) fun _ _ _ _ h => h
abbrev s_Nodes_init : Stmt := inClass (top 31) 0
abbrev nm_Nodes_init : List Str := ["self", "nodes"]
abbrev ps_Nodes_init : List Str := ["self", "nodes"]
theorem sc_Nodes_init : FnScope nm_Nodes_init ps_Nodes_init (defScope s_Nodes_init) := ⟨rfl, rfl, rfl, by decide +kernel, rfl, by decide +kernel, by decide +kernel⟩
def S_Nodes_init (K : PySem.W.Frag) (A : Adr) : FS :=
  (sFldS K 0 "told_nodes" (fVar 1))
def G_Nodes_init (K : PySem.W.Frag) (A : Adr) : Fn := fnI A.cNodes 2 (S_Nodes_init K A)
theorem ok_Nodes_init {f : Addr} {fd : FuncData} (F : Fun K "__init__" "Nodes.__init__" s_Nodes_init f fd) (T : Txt K mg)  : FnOk P w K mg base (L2.CX P w) 1 f fd ps_Nodes_init (spI K A.cNodes 1 (G_Nodes_init K A)) := by
  have nd := sc_Nodes_init.nd
  exact fn_i (k := 0) F sc_Nodes_init rfl (by decide) (fun cdv Ar outer s H E W0 H0 hr => (d_sone (d_fldS (kps_fld (K := K) (pv 0) (d_var (pv 1)) rfl)))) fun _ _ _ _ h => h
abbrev s_Term_init : Stmt := inClass (top 33) 0
abbrev nm_Term_init : List Str := ["self", "nodes"]
abbrev ps_Term_init : List Str := ["self", "nodes"]
theorem sc_Term_init : FnScope nm_Term_init ps_Term_init (defScope s_Term_init) := ⟨rfl, rfl, rfl, by decide +kernel, rfl, by decide +kernel, by decide +kernel⟩
def S_Term_init (K : PySem.W.Frag) (A : Adr) : FS :=
  (sSeq (sIf (fTst (fIsc K A.cNodes (fVarT 1))) (sFldS K 0 "own_nodes" (fFld K "told_nodes" (fVarT 1))) (sIf (fNot (fTst (fCall (G_is_term_row K A) 1 (fCons (fVar 1) fNil)))) sNo (sFldS K 0 "own_nodes" (fVar 1))))
      (sSeq (sFldS K 0 "own_children" (fCB RTuple (fCons (fCall (G_children_of K A) 1 (fCons (fFld K "own_nodes" (fVarT 0)) fNil)) fNil)))
      (sSeq (sFldS K 0 "own_ends" (fCB RTuple (fCons (fCall (G_ends_of K A) 1 (fCons (fFld K "own_children" (fVarT 0)) fNil)) fNil)))
      (sSeq (sFldS K 0 "own_symbols" (fCall (G_arities_in K A) 1 (fCons (fFld K "own_nodes" (fVarT 0)) fNil)))
      (sSeq (sFldS K 0 "own_unknown" (fCall (G_places_with K A) 2 (fCons (fFld K "own_nodes" (fVarT 0)) (fCons (fC (.str "_")) fNil))))
      (sFldS K 0 "own_lost" (fCall (G_places_with K A) 2 (fCons (fFld K "own_nodes" (fVarT 0)) (fCons (fC (.str "#")) fNil)))))))))
def G_Term_init (K : PySem.W.Frag) (A : Adr) : Fn := fnI A.cTerm 2 (S_Term_init K A)
theorem ok_Term_init {f : Addr} {fd : FuncData} (F : Fun K "__init__" "Term.__init__" s_Term_init f fd) (T : Txt K mg) {t_ANY : Tok} (g_ANY : mg "ANY" = some (.str "_" t_ANY))
    {t_LOST : Tok} (g_LOST : mg "LOST" = some (.str "#" t_LOST))
    (C_is_term_row : CalF P w K mg base "is_term_row" 4 1 (G_is_term_row K A))
    (C_children_of : CalF P w K mg base "children_of" 1 1 (G_children_of K A))
    (C_ends_of : CalF P w K mg base "ends_of" 1 1 (G_ends_of K A))
    (C_arities_in : CalF P w K mg base "arities_in" 2 1 (G_arities_in K A))
    (C_places_with : CalF P w K mg base "places_with" 1 2 (G_places_with K A))
    (g_Nodes : mg "Nodes" = some (.ref A.cNodes)) : FnOk P w K mg base (L2.CX P w) 5 f fd ps_Term_init (spI K A.cTerm 1 (G_Term_init K A)) := by
  have nd := sc_Term_init.nd
  exact fn_i (k := 4) F sc_Term_init rfl (by decide) (fun cdv Ar outer s H E W0 H0 hr => (d_seq (d_ifs (d_test (d_isc (K := K) rfl T.z_isinstance (d_varT (pv 1)) (pe_gref rfl g_Nodes))) (d_sone (d_fldS (kps_fld (K := K) (pv 0) (d_fld (K := K) (d_varT (pv 1)) rfl) rfl))) (d_sone (d_ifs (d_not (d_test (d_call C_is_term_row (hr.mono (by first | decide | omega)) rfl (passes_call (takes_of rfl rfl rfl rfl) fun _ _ _ _ h => h) (d_cons (d_var (pv 1)) d_nil)))) (d_sone d_noS) (d_sone (d_fldS (kps_fld (K := K) (pv 0) (d_var (pv 1)) rfl))))))
      (d_seq (d_fldS (kps_fld (K := K) (pv 0) (d_ct (kcall_tuple (K := K)) s_tuple (by rfl) T.z_tuple (by decide +kernel) (d_consT (d_t (d_call C_children_of (hr.mono (by first | decide | omega)) rfl (passes_call (takes_of rfl rfl rfl rfl) fun _ _ _ _ h => h) (d_cons (d_fld (K := K) (d_varT (pv 0)) rfl) d_nil))) d_nilT)) rfl))
      (d_seq (d_fldS (kps_fld (K := K) (pv 0) (d_ct (kcall_tuple (K := K)) s_tuple (by rfl) T.z_tuple (by decide +kernel) (d_consT (d_t (d_call C_ends_of (hr.mono (by first | decide | omega)) rfl (passes_call (takes_of rfl rfl rfl rfl) fun _ _ _ _ h => h) (d_cons (d_fld (K := K) (d_varT (pv 0)) rfl) d_nil))) d_nilT)) rfl))
      (d_seq (d_fldS (kps_fld (K := K) (pv 0) (d_call C_arities_in (hr.mono (by first | decide | omega)) rfl (passes_call (takes_of rfl rfl rfl rfl) fun _ _ _ _ h => h) (d_cons (d_fld (K := K) (d_varT (pv 0)) rfl) d_nil)) rfl))
      (d_seq (d_fldS (kps_fld (K := K) (pv 0) (d_call C_places_with (hr.mono (by first | decide | omega)) rfl (passes_call (takes_of rfl rfl rfl rfl) fun _ _ _ _ h => h) (d_cons (d_fld (K := K) (d_varT (pv 0)) rfl) (d_cons (d_str (pe_gstr rfl g_ANY)) d_nil))) rfl))
      (d_sone (d_fldS (kps_fld (K := K) (pv 0) (d_call C_places_with (hr.mono (by first | decide | omega)) rfl (passes_call (takes_of rfl rfl rfl rfl) fun _ _ _ _ h => h) (d_cons (d_fld (K := K) (d_varT (pv 0)) rfl) (d_cons (d_str (pe_gstr rfl g_LOST)) d_nil))) rfl))))))))) fun _ _ _ _ h => h
abbrev s_Term_text : Stmt := inClass (top 33) 4
abbrev nm_Term_text : List Str := ["self"]
abbrev ps_Term_text : List Str := ["self"]
theorem sc_Term_text : FnScope nm_Term_text ps_Term_text (defScope s_Term_text) := ⟨rfl, rfl, rfl, by decide +kernel, rfl, by decide +kernel, by decide +kernel⟩
def S_Term_text (K : PySem.W.Frag) (A : Adr) : FS :=
  (sRet (fCall (G_text_of K A 41) 3 (fCons (fFld K "own_nodes" (fVarT 0)) (fCons (fFld K "own_children" (fVarT 0)) (fCons (fC (.int 0)) fNil)))))
def G_Term_text (K : PySem.W.Frag) (A : Adr) : Fn := fnS 1 (S_Term_text K A)
theorem ok_Term_text {f : Addr} {fd : FuncData} (F : Fun K "text" "Term.text" s_Term_text f fd) (T : Txt K mg) (C_text_of : CalF P w K mg base "text_of" 41 3 (G_text_of K A 41)) : FnOk P w K mg base (L2.CX P w) 42 f fd ps_Term_text (spD K 1 (G_Term_text K A)) := by
  have nd := sc_Term_text.nd
  exact fn_d (k := 41) F sc_Term_text rfl (fun cdv Ar outer s H E W0 hr => (d_sone (d_ret (d_call C_text_of (hr.mono (by first | decide | omega)) rfl (passes_call (takes_of rfl rfl rfl rfl) fun _ _ _ _ h => h) (d_cons (d_fld (K := K) (d_varT (pv 0)) rfl) (d_cons (d_fld (K := K) (d_varT (pv 0)) rfl) (d_cons (d_int pe_int) d_nil))))))) fun _ _ _ _ h => h
abbrev s_Term_eq : Stmt := inClass (top 33) 25
abbrev nm_Term_eq : List Str := ["self", "other"]
abbrev ps_Term_eq : List Str := ["self", "other"]
theorem sc_Term_eq : FnScope nm_Term_eq ps_Term_eq (defScope s_Term_eq) := ⟨rfl, rfl, rfl, by decide +kernel, rfl, by decide +kernel, by decide +kernel⟩
def S_Term_eq (K : PySem.W.Frag) (A : Adr) : FS :=
  (sRet (fAndV (fIsc K A.cTerm (fVarT 1)) (fOp REq (fFld K "own_nodes" (fVarT 0)) (fFld K "own_nodes" (fVarT 1)))))
def G_Term_eq (K : PySem.W.Frag) (A : Adr) : Fn := fnS 2 (S_Term_eq K A)
theorem ok_Term_eq {f : Addr} {fd : FuncData} (F : Fun K "__eq__" "Term.__eq__" s_Term_eq f fd) (T : Txt K mg) (g_Term : mg "Term" = some (.ref A.cTerm)) : FnOk P w K mg base (L2.CX P w) 1 f fd ps_Term_eq (spD K 2 (G_Term_eq K A)) := by
  have nd := sc_Term_eq.nd
  exact fn_d (k := 0) F sc_Term_eq rfl (fun cdv Ar outer s H E W0 hr => (d_sone (d_ret (d_andV (d_isc (K := K) rfl T.z_isinstance (d_varT (pv 1)) (pe_gref rfl g_Term)) (d_one (d_cmp (op_eqA (K := K) hr.units) s_eq (d_t (d_fld (K := K) (d_varT (pv 0)) rfl)) (d_t (d_fld (K := K) (d_varT (pv 1)) rfl)) (nomark _))))))) fun _ _ _ _ h => h
abbrev s_nodes' : Stmt := top 44
abbrev nm_nodes' : List Str := ["_law_term_here", "_law_found", "_law_one"]
abbrev ps_nodes' : List Str := ["_law_term_here"]
theorem sc_nodes' : FnScope nm_nodes' ps_nodes' (defScope s_nodes') := ⟨rfl, rfl, rfl, by decide +kernel, rfl, by decide +kernel, by decide +kernel⟩
def S_nodes' (K : PySem.W.Frag) (A : Adr) (rec : Fn) : FS :=
  (sSeq (sAsg 1 (fNew (fLst (fCons (fTup (fCons (fOp RIx (fVarT 0) (fC (.int 0))) (fCons (fCB RLen (fCons (fOp RIx (fVarT 0) (fC (.int 1))) fNil)) fNil))) fNil))))
      (sSeq (sFor (fIt (fOp RIx (fVarT 0) (fC (.int 1)))) (gN 2) (sAsg 1 (fOp RAdd (fVarT 1) (fCall rec 1 (fCons (fVar 2) fNil)))))
      (sRet (fVar 1))))
def G_nodes' (K : PySem.W.Frag) (A : Adr) : Nat → Fn
  | 0 => fun _ _ _ => False
  | k + 1 => fnS 3 (S_nodes' K A (G_nodes' K A k))
theorem ok_nodes' {f : Addr} {fd : FuncData} (F : Fun K "_law_nodes" "_law_nodes" s_nodes' f fd) (T : Txt K mg) 
    (hm : mg "_law_nodes" = some (.ref f)) (hk : PySem.W.keepIn K (.ref f) = true) (hb : Binds K fd ps_nodes' []) : ∀ j : Nat, FnOk P w K mg base (L2.CX P w) (0 + j) f fd ps_nodes' (spD K 1 (G_nodes' K A j))
  | 0 => ⟨fun vs H Q E ⟨_, _, _, _, _, _, _, z, _⟩ => z.elim, fun _ _ _ _ _ _ _ _ _ _ _ _ _ ⟨_, _, _, _, _, _, _, z, _⟩ => z.elim⟩
  | j + 1 => by
    have nd := sc_nodes'.nd
    have rec_ : CalF P w K mg base "_law_nodes" (0 + j) 1 (G_nodes' K A j) := ⟨f, fd, ps_nodes', ok_nodes' F T  hm hk hb j, hm, hk, hb⟩
    exact fn_d (k := 0 + j) F sc_nodes' rfl (fun cdv Ar outer s H E W0 hr => (d_seq (d_asg (d_n (d_lst (d_cons (d_tup (d_cons (d_ix (ix_A (K := K)) s_ix (d_varT (pv 0)) (d_t (d_int pe_int)) (fun _ _ => rfl)) (d_cons (d_cb (c_len (K := K)) s_len (by rfl) T.z_len (by decide +kernel) (d_consT (d_t (d_ix (ix_A (K := K)) s_ix (d_varT (pv 0)) (d_t (d_int pe_int)) (fun _ _ => rfl))) d_nilT)) d_nil))) d_nil))) (pg_name (i := 1) nd rfl (Or.inl rfl)))
      (d_seq (d_for (vs := [2]) (passes_of rfl) rfl (d_itF (K := K) (d_ix (ix_A (K := K)) s_ix (d_varT (pv 0)) (d_t (d_int pe_int)) (fun _ _ => rfl))) (pg_name (i := 2) nd rfl (Or.inl rfl)) (g_name (by decide)) (d_sone (d_asg (d_op (op_addA (K := K)) s_add (d_varT (pv 1)) (d_t (d_call rec_ (hr.mono (by first | decide | omega)) rfl (passes_call (takes_of rfl rfl rfl rfl) fun _ _ _ _ h => h) (d_cons (d_var (pv 2)) d_nil)))) (pg_name (i := 1) nd rfl (Or.inl rfl)))))
      (d_sone (d_ret (d_var (pv 1))))))) fun _ _ _ _ h => h
abbrev s_text : Stmt := top 45
abbrev nm_text : List Str := ["_law_term_here", "_law_one"]
abbrev ps_text : List Str := ["_law_term_here"]
theorem sc_text : FnScope nm_text ps_text (defScope s_text) := ⟨rfl, rfl, rfl, by decide +kernel, rfl, by decide +kernel, by decide +kernel⟩
def S_text (K : PySem.W.Frag) (A : Adr) (rec : Fn) : FS :=
  (sSeq (sIf (fTst (fOp REq (fOp RIx (fVarT 0) (fC (.int 1))) (fTup fNil))) (sRet (fOp RIx (fVarT 0) (fC (.int 0)))) sNext)
      (sRet (fOp RAdd (fOp RAdd (fOp RAdd (fOp RIx (fVarT 0) (fC (.int 0))) (fC (.str "("))) (fJoin (fC (.str ", ")) (fNew (fLc (fIt (fOp RIx (fVarT 0) (fC (.int 1)))) (gN 1) fYes (fCall rec 1 (fCons (fVar 1) fNil)) [1])))) (fC (.str ")")))))
def G_text (K : PySem.W.Frag) (A : Adr) : Nat → Fn
  | 0 => fun _ _ _ => False
  | k + 1 => fnS 2 (S_text K A (G_text K A k))
theorem ok_text {f : Addr} {fd : FuncData} (F : Fun K "_law_text" "_law_text" s_text f fd) (T : Txt K mg) 
    (hm : mg "_law_text" = some (.ref f)) (hk : PySem.W.keepIn K (.ref f) = true) (hb : Binds K fd ps_text []) : ∀ j : Nat, FnOk P w K mg base (L2.CX P w) (0 + j) f fd ps_text (spD K 1 (G_text K A j))
  | 0 => ⟨fun vs H Q E ⟨_, _, _, _, _, _, _, z, _⟩ => z.elim, fun _ _ _ _ _ _ _ _ _ _ _ _ _ ⟨_, _, _, _, _, _, _, z, _⟩ => z.elim⟩
  | j + 1 => by
    have nd := sc_text.nd
    have rec_ : CalF P w K mg base "_law_text" (0 + j) 1 (G_text K A j) := ⟨f, fd, ps_text, ok_text F T  hm hk hb j, hm, hk, hb⟩
    exact fn_d (k := 0 + j) F sc_text rfl (fun cdv Ar outer s H E W0 hr => (d_seq (d_ifs (d_tcmp (op_eqA (K := K) hr.units) s_eq (d_t (d_ix (ix_A (K := K)) s_ix (d_varT (pv 0)) (d_t (d_int pe_int)) (fun _ _ => rfl))) (d_t (d_tup d_nil)) (nomark _)) (d_sone (d_ret (d_ix (ix_A (K := K)) s_ix (d_varT (pv 0)) (d_t (d_int pe_int)) (fun _ _ => rfl)))) d_snil)
      (d_sone (d_ret (d_op (op_addA (K := K)) s_add (d_t (d_op (op_addA (K := K)) s_add (d_t (d_op (op_addA (K := K)) s_add (d_t (d_ix (ix_A (K := K)) s_ix (d_varT (pv 0)) (d_t (d_int pe_int)) (fun _ _ => rfl))) (d_t (d_str pe_str)))) (d_t (d_join (K := K) (d_str pe_str) (d_nt (d_lc (own := [("_law_one", 1)]) (by rfl) nd (d_itC (K := K) (d_t (d_ix (ix_A (K := K)) s_ix (d_varT (pv 0)) (d_t (d_int pe_int)) (fun _ _ => rfl)))) (blkOk_by (own := [("_law_one", 1)]) (N := nm_text) (sc := defScope s_text) (by decide +kernel)) (g_name (by decide)) (fun _ _ _ _ _ => (pg_name (i := 1) nd rfl (Or.inl rfl))) (fun _ _ _ _ _ => d_pts0) (fun _ _ _ _ _ => (d_call rec_ (hr.mono (by first | decide | omega)) rfl passL (d_cons (d_var (pv 1)) d_nil))))))))) (d_t (d_str pe_str))))))) fun _ _ _ _ h => h
abbrev s_made_term : Stmt := top 48
abbrev nm_made_term : List Str := ["_law_term_here"]
abbrev ps_made_term : List Str := ["_law_term_here"]
theorem sc_made_term : FnScope nm_made_term ps_made_term (defScope s_made_term) := ⟨rfl, rfl, rfl, by decide +kernel, rfl, by decide +kernel, by decide +kernel⟩
def S_made_term (K : PySem.W.Frag) (A : Adr) : FS :=
  (sRet (fCall (G_Term_init K A) 1 (fCons (fCB RTuple (fCons (fCall (G_nodes' K A 8) 1 (fCons (fVar 0) fNil)) fNil)) fNil)))
def G_made_term (K : PySem.W.Frag) (A : Adr) : Fn := fnS 1 (S_made_term K A)
theorem ok_made_term {f : Addr} {fd : FuncData} (F : Fun K "_law_made_term" "_law_made_term" s_made_term f fd) (T : Txt K mg) (C_nodes' : CalF P w K mg base "_law_nodes" 8 1 (G_nodes' K A 8))
    (M_Term : CalI P w K mg base "Term" A.cTerm 5 1 (G_Term_init K A)) : FnOk P w K mg base (L2.CX P w) 9 f fd ps_made_term (spD K 1 (G_made_term K A)) := by
  have nd := sc_made_term.nd
  exact fn_d (k := 8) F sc_made_term rfl (fun cdv Ar outer s H E W0 hr => (d_sone (d_ret (d_make M_Term (hr.mono (by first | decide | omega)) rfl (passes_call (takes_of rfl rfl rfl rfl) fun _ _ _ _ h => h) (d_cons (d_ct (kcall_tuple (K := K)) s_tuple (by rfl) T.z_tuple (by decide +kernel) (d_consT (d_t (d_call C_nodes' (hr.mono (by first | decide | omega)) rfl (passes_call (takes_of rfl rfl rfl rfl) fun _ _ _ _ h => h) (d_cons (d_var (pv 0)) d_nil))) d_nilT)) d_nil))))) fun _ _ _ _ h => h
abbrev s_term' : Stmt := top 49
abbrev nm_term' : List Str := ["_law_dice_here", "_law_symbols", "_law_leaves_here", "_law_deep_here", "_law_bare", "_law_word", "_law_one", "_law_at"]
abbrev ps_term' : List Str := ["_law_dice_here", "_law_symbols", "_law_leaves_here", "_law_deep_here"]
theorem sc_term' : FnScope nm_term' ps_term' (defScope s_term') := ⟨rfl, rfl, rfl, by decide +kernel, rfl, by decide +kernel, by decide +kernel⟩
def S_term' (K : PySem.W.Frag) (A : Adr) (rec : Fn) : FS :=
  (sSeq (sAsg 4 (fNew (fLc (fIt (fNew (fCBN RSortD (fCons (fVarT 1) fNil)))) (gN 5) (fTst (fOp REq (fGet (fVarT 1) (fVar 5)) (fC (.int 0)))) (fVar 5) [5])))
      (sSeq (sIf (fOr (fTst (fOp REq (fVarT 3) (fC (.int 0)))) (fTst (fOp REq (fCall (G_roll K A) 2 (fCons (fVar 0) (fCons (fC (.int 4)) fNil))) (fC (.int 0))))) (sRet (fTup (fCons (fCall (G_pick K A) 2 (fCons (fVar 0) (fCons (fOp RAdd (fOp RAdd (fVarT 4) (fVarT 2)) (fVarT 2)) fNil))) (fCons (fTup fNil) fNil)))) sNext)
      (sSeq (sAsg 5 (fCall (G_pick K A) 2 (fCons (fVar 0) (fCons (fOp RAdd (fNew (fCBN RSortD (fCons (fVarT 1) fNil))) (fNew (fLc (fIt (fNew (fCBN RSortD (fCons (fVarT 1) fNil)))) (gN 6) (fTst (fOp RGt (fGet (fVarT 1) (fVar 6)) (fC (.int 0)))) (fVar 6) [6]))) fNil))))
      (sRet (fTup (fCons (fVar 5) (fCons (fCB RTuple (fCons (fNew (fLc (fRng1 (fCons (fGet (fVarT 1) (fVar 5)) fNil)) (gN 7) fYes (fCall rec 4 (fCons (fVar 0) (fCons (fVar 1) (fCons (fVar 2) (fCons (fOp RSub (fVarT 3) (fC (.int 1))) fNil))))) [7])) fNil)) fNil)))))))
def G_term' (K : PySem.W.Frag) (A : Adr) : Nat → Fn
  | 0 => fun _ _ _ => False
  | k + 1 => fnS 8 (S_term' K A (G_term' K A k))
theorem ok_term' {f : Addr} {fd : FuncData} (F : Fun K "_law_term" "_law_term" s_term' f fd) (T : Txt K mg) (C_roll : CalF P w K mg base "_law_roll" 1 2 (G_roll K A))
    (C_pick : CalF P w K mg base "_law_pick" 2 2 (G_pick K A))
    (hm : mg "_law_term" = some (.ref f)) (hk : PySem.W.keepIn K (.ref f) = true) (hb : Binds K fd ps_term' []) : ∀ j : Nat, FnOk P w K mg base (L2.CX P w) (2 + j) f fd ps_term' (spD K 4 (G_term' K A j))
  | 0 => ⟨fun vs H Q E ⟨_, _, _, _, _, _, _, z, _⟩ => z.elim, fun _ _ _ _ _ _ _ _ _ _ _ _ _ ⟨_, _, _, _, _, _, _, z, _⟩ => z.elim⟩
  | j + 1 => by
    have nd := sc_term'.nd
    have rec_ : CalF P w K mg base "_law_term" (2 + j) 4 (G_term' K A j) := ⟨f, fd, ps_term', ok_term' F T C_roll C_pick hm hk hb j, hm, hk, hb⟩
    exact fn_d (k := 2 + j) F sc_term' rfl (fun cdv Ar outer s H E W0 hr => (d_seq (d_setLcV (g_name (by decide)) (ps_setLc (i := 4) (own := [("_law_word", 5)]) (by rfl) nd rfl rfl (sw_true rfl rfl rfl (by decide +kernel)) (d_itC (K := K) (d_nt (d_cbN (TM.kcall_sortedD rfl) s_sortD (by rfl) T.z_sorted (by decide +kernel) (d_consT (d_varT (pv 1)) d_nilT)))) (blkOk_by (own := [("_law_word", 5)]) (N := nm_term') (sc := defScope s_term') (by decide +kernel)) (fun _ _ _ _ _ => (pg_name (i := 5) nd rfl (Or.inl rfl))) (fun _ _ _ _ _ => (d_pts1 (d_tcmp (op_eqA (K := K) hr.units) s_eq (d_t (d_get (hr1 hr) (d_varT (pv 1)) (d_var (pv 5)) (fun _ _ => rfl))) (d_t (d_int pe_int)) (nomark _)))) (fun _ _ _ _ _ => (d_var (pv 5)))))
      (d_seq (d_ifs (PW.pt (d_or (d_tcmp (op_eqA (K := K) hr.units) s_eq (d_varT (pv 3)) (d_t (d_int pe_int)) (nomark _)) (d_or1 (d_tcmp (op_eqA (K := K) hr.units) s_eq (d_t (d_call C_roll (hr.mono (by first | decide | omega)) rfl (passes_call (takes_of rfl rfl rfl rfl) fun _ _ _ _ h => h) (d_cons (d_var (pv 0)) (d_cons (d_int pe_int) d_nil)))) (d_t (d_int pe_int)) (nomark _))))) (d_sone (d_ret (d_tup (d_cons (d_call C_pick (hr.mono (by first | decide | omega)) rfl (passes_call (takes_of rfl rfl rfl rfl) fun _ _ _ _ h => h) (d_cons (d_var (pv 0)) (d_cons (d_op (op_addA (K := K)) s_add (d_t (d_op (op_addA (K := K)) s_add (d_varT (pv 4)) (d_varT (pv 2)))) (d_varT (pv 2))) d_nil))) (d_cons (d_tup d_nil) d_nil))))) d_snil)
      (d_seq (d_asg (d_call C_pick (hr.mono (by first | decide | omega)) rfl (passes_call (takes_of rfl rfl rfl rfl) fun _ _ _ _ h => h) (d_cons (d_var (pv 0)) (d_cons (d_op (op_addA (K := K)) s_add (d_nt (d_cbN (TM.kcall_sortedD rfl) s_sortD (by rfl) T.z_sorted (by decide +kernel) (d_consT (d_varT (pv 1)) d_nilT))) (d_nt (d_lc (own := [("_law_one", 6)]) (by rfl) nd (d_itC (K := K) (d_nt (d_cbN (TM.kcall_sortedD rfl) s_sortD (by rfl) T.z_sorted (by decide +kernel) (d_consT (d_varT (pv 1)) d_nilT)))) (blkOk_by (own := [("_law_one", 6)]) (N := nm_term') (sc := defScope s_term') (by decide +kernel)) (g_name (by decide)) (fun _ _ _ _ _ => (pg_name (i := 6) nd rfl (Or.inl rfl))) (fun _ _ _ _ _ => (d_pts1 (d_tcmp op_gt s_gt (d_t (d_get (hr1 hr) (d_varT (pv 1)) (d_var (pv 6)) (fun _ _ => rfl))) (d_t (d_int pe_int)) (nomark _)))) (fun _ _ _ _ _ => (d_var (pv 6)))))) d_nil))) (pg_name (i := 5) nd rfl (Or.inl rfl)))
      (d_sone (d_ret (d_tup (d_cons (d_var (pv 5)) (d_cons (d_ct (kcall_tuple (K := K)) s_tuple (by rfl) T.z_tuple (by decide +kernel) (d_consT (d_nt (d_lc (own := [("_law_at", 7)]) (by rfl) nd (d_fc (d_rng1 rfl T.z_range (d_cons (d_get (hr1 hr) (d_varT (pv 1)) (d_var (pv 5)) (fun _ _ => rfl)) d_nil))) (blkOk_by (own := [("_law_at", 7)]) (N := nm_term') (sc := defScope s_term') (by decide +kernel)) (g_name (by decide)) (fun _ _ _ _ _ => (pg_name (i := 7) nd rfl (Or.inl rfl))) (fun _ _ _ _ _ => d_pts0) (fun _ _ _ _ _ => (d_call rec_ (hr.mono (by first | decide | omega)) rfl passL (d_cons (d_var (pv 0)) (d_cons (d_var (pv 1)) (d_cons (d_var (pv 2)) (d_cons (d_op op_sub s_sub (d_varT (pv 3)) (d_t (d_int pe_int))) d_nil)))))))) d_nilT)) d_nil))))))))) fun _ _ _ _ h => h
abbrev s_small_term : Stmt := top 50
abbrev nm_small_term : List Str := ["_law_dice_here", "_law_symbols", "_law_leaves_here", "_law_deep_here", "_law_most", "_law_found"]
abbrev ps_small_term : List Str := ["_law_dice_here", "_law_symbols", "_law_leaves_here", "_law_deep_here", "_law_most"]
theorem sc_small_term : FnScope nm_small_term ps_small_term (defScope s_small_term) := ⟨rfl, rfl, rfl, by decide +kernel, rfl, by decide +kernel, by decide +kernel⟩
def S_small_term (K : PySem.W.Frag) (A : Adr) : FS :=
  (sSeq (sAsg 5 (fCall (G_term' K A 6) 4 (fCons (fVar 0) (fCons (fVar 1) (fCons (fVar 2) (fCons (fVar 3) fNil))))))
      (sSeq (sIf (fTst (fOp RLe (fCB RLen (fCons (fCall (G_nodes' K A 8) 1 (fCons (fVar 5) fNil)) fNil)) (fVarT 4))) (sRet (fVar 5)) sNext)
      (sSeq (sAsg 5 (fCall (G_term' K A 6) 4 (fCons (fVar 0) (fCons (fVar 1) (fCons (fVar 2) (fCons (fC (.int 1)) fNil))))))
      (sSeq (sIf (fTst (fOp RLe (fCB RLen (fCons (fCall (G_nodes' K A 8) 1 (fCons (fVar 5) fNil)) fNil)) (fVarT 4))) (sRet (fVar 5)) sNext)
      (sRet (fTup (fCons (fCall (G_pick K A) 2 (fCons (fVar 0) (fCons (fIf (fTst (fOp RNe (fVarT 2) (fNew (fLst fNil)))) (fVar 2) (fNew (fLst (fCons (fC (.str "a")) fNil)))) fNil))) (fCons (fTup fNil) fNil))))))))
def G_small_term (K : PySem.W.Frag) (A : Adr) : Fn := fnS 6 (S_small_term K A)
theorem ok_small_term {f : Addr} {fd : FuncData} (F : Fun K "_law_small_term" "_law_small_term" s_small_term f fd) (T : Txt K mg) (C_term' : CalF P w K mg base "_law_term" 8 4 (G_term' K A 6))
    (C_nodes' : CalF P w K mg base "_law_nodes" 8 1 (G_nodes' K A 8))
    (C_pick : CalF P w K mg base "_law_pick" 2 2 (G_pick K A)) : FnOk P w K mg base (L2.CX P w) 9 f fd ps_small_term (spD K 5 (G_small_term K A)) := by
  have nd := sc_small_term.nd
  exact fn_d (k := 8) F sc_small_term rfl (fun cdv Ar outer s H E W0 hr => (d_seq (d_asg (d_call C_term' (hr.mono (by first | decide | omega)) rfl (passes_call (takes_of rfl rfl rfl rfl) fun _ _ _ _ h => h) (d_cons (d_var (pv 0)) (d_cons (d_var (pv 1)) (d_cons (d_var (pv 2)) (d_cons (d_var (pv 3)) d_nil))))) (pg_name (i := 5) nd rfl (Or.inl rfl)))
      (d_seq (d_ifs (d_tcmp op_le s_le (d_t (d_cb (c_len (K := K)) s_len (by rfl) T.z_len (by decide +kernel) (d_consT (d_t (d_call C_nodes' (hr.mono (by first | decide | omega)) rfl (passes_call (takes_of rfl rfl rfl rfl) fun _ _ _ _ h => h) (d_cons (d_var (pv 5)) d_nil))) d_nilT))) (d_varT (pv 4)) (nomark _)) (d_sone (d_ret (d_var (pv 5)))) d_snil)
      (d_seq (d_asg (d_call C_term' (hr.mono (by first | decide | omega)) rfl (passes_call (takes_of rfl rfl rfl rfl) fun _ _ _ _ h => h) (d_cons (d_var (pv 0)) (d_cons (d_var (pv 1)) (d_cons (d_var (pv 2)) (d_cons (d_int pe_int) d_nil))))) (pg_name (i := 5) nd rfl (Or.inl rfl)))
      (d_seq (d_ifs (d_tcmp op_le s_le (d_t (d_cb (c_len (K := K)) s_len (by rfl) T.z_len (by decide +kernel) (d_consT (d_t (d_call C_nodes' (hr.mono (by first | decide | omega)) rfl (passes_call (takes_of rfl rfl rfl rfl) fun _ _ _ _ h => h) (d_cons (d_var (pv 5)) d_nil))) d_nilT))) (d_varT (pv 4)) (nomark _)) (d_sone (d_ret (d_var (pv 5)))) d_snil)
      (d_sone (d_ret (d_tup (d_cons (d_call C_pick (hr.mono (by first | decide | omega)) rfl (passes_call (takes_of rfl rfl rfl rfl) fun _ _ _ _ h => h) (d_cons (d_var (pv 0)) (d_cons (d_if (d_tcmp (op_neA (K := K) hr.units) s_ne (d_varT (pv 2)) (d_nt (d_lst d_nil)) (nomark _)) (d_var (pv 2)) (d_n (d_lst (d_cons (d_str pe_str) d_nil)))) d_nil))) (d_cons (d_tup d_nil) d_nil)))))))))) fun _ _ _ _ h => h
abbrev s_drawn_term : Stmt := top 51
abbrev nm_drawn_term : List Str := ["_law_dice_here", "_law_deep_here", "_law_symbols"]
abbrev ps_drawn_term : List Str := ["_law_dice_here", "_law_deep_here"]
theorem sc_drawn_term : FnScope nm_drawn_term ps_drawn_term (defScope s_drawn_term) := ⟨rfl, rfl, rfl, by decide +kernel, rfl, by decide +kernel, by decide +kernel⟩
def S_drawn_term (K : PySem.W.Frag) (A : Adr) : FS :=
  (sSeq (sAsg 2 (fDic (fDisp [((fC (.str "a")), (fC (.int 0))), ((fC (.str "bb")), (fC (.int 0))), ((fC (.str "f")), (fC (.int 2))), ((fC (.str "k")), (fC (.int 1))), ((fC (.str "cons")), (fC (.int 3)))])))
      (sRet (fCall (G_small_term K A) 5 (fCons (fVar 0) (fCons (fVar 2) (fCons (fNew (fLst (fCons (fC (.str "_")) (fCons (fC (.str "#")) fNil)))) (fCons (fVar 1) (fCons (fC (.int 40)) fNil))))))))
def G_drawn_term (K : PySem.W.Frag) (A : Adr) : Fn := fnS 3 (S_drawn_term K A)
theorem ok_drawn_term {f : Addr} {fd : FuncData} (F : Fun K "_law_drawn_term" "_law_drawn_term" s_drawn_term f fd) (T : Txt K mg) (C_small_term : CalF P w K mg base "_law_small_term" 9 5 (G_small_term K A)) : FnOk P w K mg base (L2.CX P w) 10 f fd ps_drawn_term (spD K 2 (G_drawn_term K A)) := by
  have nd := sc_drawn_term.nd
  exact fn_d (k := 9) F sc_drawn_term rfl (fun cdv Ar outer s H E W0 hr => (d_seq (d_asg (d_dd (d_disp (fs := [((fC (.str "a")), (fC (.int 0))), ((fC (.str "bb")), (fC (.int 0))), ((fC (.str "f")), (fC (.int 2))), ((fC (.str "k")), (fC (.int 1))), ((fC (.str "cons")), (fC (.int 3)))]) (pe_disp (pps_cons (d_str pe_str) (d_int pe_int) (pps_cons (d_str pe_str) (d_int pe_int) (pps_cons (d_str pe_str) (d_int pe_int) (pps_cons (d_str pe_str) (d_int pe_int) (pps_cons (d_str pe_str) (d_int pe_int) pps_nil))))) (by rfl) (by rfl) (fun z => by cases z) (by decide)))) (pg_name (i := 2) nd rfl (Or.inl rfl)))
      (d_sone (d_ret (d_call C_small_term (hr.mono (by first | decide | omega)) rfl (passes_call (takes_of rfl rfl rfl rfl) fun _ _ _ _ h => h) (d_cons (d_var (pv 0)) (d_cons (d_var (pv 2)) (d_cons (d_n (d_lst (d_cons (d_str pe_str) (d_cons (d_str pe_str) d_nil)))) (d_cons (d_var (pv 1)) (d_cons (d_int pe_int) d_nil)))))))))) fun _ _ _ _ h => h
end
end K5

set_option Elab.async false
set_option maxRecDepth 100000
set_option maxHeartbeats 1000000
set_option linter.all false
namespace K5
open PySem PySem.Spec PyProof.Rows L2 Ly Pu
section
variable {P : Program} {w : World} {K : PySem.W.Frag} {mg : Str → Option Value} {base : Heap} {A : Adr}
abbrev s_term_in : Stmt := top 32
abbrev nm_term_in : List Str := ["nodes"]
abbrev ps_term_in : List Str := ["nodes"]
theorem sc_term_in : FnScope nm_term_in ps_term_in (defScope s_term_in) := ⟨rfl, rfl, rfl, by decide +kernel, rfl, by decide +kernel, by decide +kernel⟩
def S_term_in (K : PySem.W.Frag) (A : Adr) : FS :=
  (sRet (fCall (G_Term_init K A) 1 (fCons (fCall (G_Nodes_init K A) 1 (fCons (fVar 0) fNil)) fNil)))
def G_term_in (K : PySem.W.Frag) (A : Adr) : Fn := fnS 1 (S_term_in K A)
theorem ok_term_in {f : Addr} {fd : FuncData} (F : Fun K "term_in" "term_in" s_term_in f fd) (T : Txt K mg) (M_Nodes : CalI P w K mg base "Nodes" A.cNodes 1 1 (G_Nodes_init K A))
    (M_Term : CalI P w K mg base "Term" A.cTerm 5 1 (G_Term_init K A)) : FnOk P w K mg base (L2.CX P w) 7 f fd ps_term_in (spD K 1 (G_term_in K A)) := by
  have nd := sc_term_in.nd
  exact fn_d (k := 6) F sc_term_in rfl (fun cdv Ar outer s H E W0 hr => (d_sone (d_ret (d_make M_Term (hr.mono (by first | decide | omega)) rfl (passes_call (takes_of rfl rfl rfl rfl) fun _ _ _ _ h => h) (d_cons (d_make M_Nodes (hr.mono (by first | decide | omega)) rfl (passes_call (takes_of rfl rfl rfl rfl) fun _ _ _ _ h => h) (d_cons (d_var (pv 0)) d_nil)) d_nil))))) fun _ _ _ _ h => h
abbrev s_part_in : Stmt := top 35
abbrev nm_part_in : List Str := ["term", "place"]
abbrev ps_part_in : List Str := ["term", "place"]
theorem sc_part_in : FnScope nm_part_in ps_part_in (defScope s_part_in) := ⟨rfl, rfl, rfl, by decide +kernel, rfl, by decide +kernel, by decide +kernel⟩
def S_part_in (K : PySem.W.Frag) (A : Adr) : FS :=
  (sRet (fCall (G_term_in K A) 1 (fCons (fSl (fFld K "own_nodes" (fVarT 0)) (oAt (fVar 1)) (oAt (fOp RIx (fFld K "own_ends" (fVarT 0)) (fVarT 1)))) fNil)))
def G_part_in (K : PySem.W.Frag) (A : Adr) : Fn := fnS 2 (S_part_in K A)
theorem ok_part_in {f : Addr} {fd : FuncData} (F : Fun K "part_in" "part_in" s_part_in f fd) (T : Txt K mg) (C_term_in : CalF P w K mg base "term_in" 7 1 (G_term_in K A)) : FnOk P w K mg base (L2.CX P w) 8 f fd ps_part_in (spD K 2 (G_part_in K A)) := by
  have nd := sc_part_in.nd
  exact fn_d (k := 7) F sc_part_in rfl (fun cdv Ar outer s H E W0 hr => (d_sone (d_ret (d_call C_term_in (hr.mono (by first | decide | omega)) rfl (passes_call (takes_of rfl rfl rfl rfl) fun _ _ _ _ h => h) (d_cons (d_slice (K := K) (d_t (d_fld (K := K) (d_varT (pv 0)) rfl)) (d_oat (d_var (pv 1))) (d_oat (d_ix (ix_A (K := K)) s_ix (d_t (d_fld (K := K) (d_varT (pv 0)) rfl)) (d_varT (pv 1)) (fun _ _ => rfl)))) d_nil))))) fun _ _ _ _ h => h
abbrev s_Term_build : Stmt := inClass (top 33) 1
abbrev nm_Term_build : List Str := ["cls", "word", "terms", "term", "node"]
abbrev ps_Term_build : List Str := ["cls", "word", "terms"]
theorem sc_Term_build : FnScope nm_Term_build ps_Term_build (defScope s_Term_build) := ⟨rfl, rfl, rfl, by decide +kernel, rfl, by decide +kernel, by decide +kernel⟩
def S_Term_build (K : PySem.W.Frag) (A : Adr) : FS :=
  (sSeq (sIf (fOr (fNot (fTst (fCall (G_is_node K A) 1 (fCons (fTup (fCons (fVar 1) (fCons (fCB RLen (fCons (fVarT 2) fNil)) fNil))) fNil)))) (fNot (fTst (fCB RAll (fCons (fNew (fLc (fIt (fVarT 2)) (gN 3) fYes (fIsc K A.cTerm (fVarT 3)) [3])) fNil))))) sNo sNext)
      (sRet (fMkL 0 A.cTerm (G_Term_init K A) 1 (fCons (fTup (fCons (fTup (fCons (fVar 1) (fCons (fCB RLen (fCons (fVarT 2) fNil)) fNil))) (fStar (fNew (fLc2 (fIt (fVarT 2)) (gN 3) fYes (fIt (fFld K "own_nodes" (fVarT 3))) (gN 4) fYes (fVar 4) [3, 4] [4])) fNil))) fNil))))
def G_Term_build (K : PySem.W.Frag) (A : Adr) : Fn := fnS 5 (S_Term_build K A)
theorem ok_Term_build {f : Addr} {fd : FuncData} (F : Fun K "build" "Term.build" s_Term_build f fd) (T : Txt K mg) (C_is_node : CalF P w K mg base "is_node" 3 1 (G_is_node K A))
    (M_Term : CalI P w K mg base "Term" A.cTerm 5 1 (G_Term_init K A))
    (g_Term : mg "Term" = some (.ref A.cTerm)) : FnR P w K mg base (L2.CX P w) 7 f (spDV K 2 (G_Term_build K A)) := by
  have nd := sc_Term_build.nd
  obtain ⟨oc, od, kV, doc, pm, an, cdv, ct, osl, rfl, lk, hcd⟩ := F.ex
  refine fnR_star (m := 3) (StX.fn_star (N := nm_Term_build) (ps := ["cls", "word"]) (pv := "terms") lk hcd sc_Term_build StX.cxUp (StX.bind_star2 (B := fun us => bindArgs (PySem.W.fnOf "build" "Term.build" (defArgs s_Term_build) (defBody s_Term_build) (defScope s_Term_build) .none kV doc pm an cdv ct) ⟨us, []⟩) (p1 := "cls") (p2 := "word") (pv := "terms") (fun _ _ => by rfl) (fun _ _ _ _ => by rfl)) (k := 6) (fun Ar outer s H vs Q E hr h => ?_)) rfl
  obtain ⟨W, ds, Qd, Z, sw, r, hl, hf, kk, x⟩ := h
  exact ⟨tDS K W H E (S_Term_build K A), (d_seq (d_ifs (PW.pt (d_or (d_not (d_test (d_call C_is_node (hr.mono (by first | decide | omega)) rfl (passes_call (takes_of rfl rfl rfl rfl) fun _ _ _ _ h => h) (d_cons (d_tup (d_cons (d_var (pv 1)) (d_cons (d_cb (c_len (K := K)) s_len (by rfl) T.z_len (by decide +kernel) (d_consT (d_varT (pv 2)) d_nilT)) d_nil))) d_nil)))) (d_or1 (d_not (d_test (d_cb (kcr_all (K := K) rfl) s_all (by rfl) T.z_all (by decide +kernel) (d_consT (d_nt (d_lc (own := [("term", 3)]) (by rfl) nd (d_itC (K := K) (d_varT (pv 2))) (blkOk_by (own := [("term", 3)]) (N := nm_Term_build) (sc := defScope s_Term_build) (by decide +kernel)) (g_name (by decide)) (fun _ _ _ _ _ => (pg_name (i := 3) nd rfl (Or.inl rfl))) (fun _ _ _ _ _ => d_pts0) (fun _ _ _ _ _ => (d_isc (K := K) rfl T.z_isinstance (d_varT (pv 3)) (pe_gref rfl g_Term))))) d_nilT))))))) (d_sone d_noS) d_snil)
      (d_sone (d_ret (d_mkL (i := 0) M_Term (hr.mono (by first | decide | omega)) rfl (Or.inl rfl) (passes_call (takes_of rfl rfl rfl rfl) fun _ _ _ _ h => h) (d_cons (d_tup (d_cons (d_tup (d_cons (d_var (pv 1)) (d_cons (d_cb (c_len (K := K)) s_len (by rfl) T.z_len (by decide +kernel) (d_consT (d_varT (pv 2)) d_nilT)) d_nil))) (d_star (d_nt (d_lc2 (own := [("term", 3), ("node", 4)]) (vs1 := [4]) (jo := 3) (by rfl) nd (by decide) (d_itC (K := K) (d_varT (pv 2))) (blkOk_by (own := [("term", 3), ("node", 4)]) (N := nm_Term_build) (sc := defScope s_Term_build) (by decide +kernel)) (by decide) (g_name (by decide)) (fun _ _ _ _ _ => (pg_name (i := 3) nd rfl (Or.inl rfl))) (fun _ _ _ _ _ => d_pts0) (fun _ _ _ _ _ => (d_itF (K := K) (d_fld (K := K) (d_varT (pv 3)) rfl))) (fun _ _ _ _ _ => (pg_name (i := 4) nd rfl (Or.inl rfl))) (fun _ _ _ _ _ => d_pts0) (fun _ _ _ _ _ => (d_var (pv 4))))) d_nil))) d_nil))))), W, startB 5 ds, _, rep_start sw rfl r, hf, ⟨fun W' ρ' σ' H' _ s' q => kk _ W' H' _ s'.ex .non q, fun v W' H' d e r q => kk v W' H' d e r q, (fun _ _ _ _ _ _ z => z.elim), (fun _ _ _ _ _ _ z => z.elim), x⟩⟩
abbrev s_Term_nodes : Stmt := inClass (top 33) 3
abbrev nm_Term_nodes : List Str := ["self"]
abbrev ps_Term_nodes : List Str := ["self"]
theorem sc_Term_nodes : FnScope nm_Term_nodes ps_Term_nodes (defScope s_Term_nodes) := ⟨rfl, rfl, rfl, by decide +kernel, rfl, by decide +kernel, by decide +kernel⟩
def S_Term_nodes (K : PySem.W.Frag) (A : Adr) : FS :=
  (sRet (fFld K "own_nodes" (fVarT 0)))
def G_Term_nodes (K : PySem.W.Frag) (A : Adr) : Fn := fnS 1 (S_Term_nodes K A)
theorem ok_Term_nodes {f : Addr} {fd : FuncData} (F : Fun K "nodes" "Term.nodes" s_Term_nodes f fd) (T : Txt K mg)  : FnOk P w K mg base (L2.CX P w) 1 f fd ps_Term_nodes (spD K 1 (G_Term_nodes K A)) := by
  have nd := sc_Term_nodes.nd
  exact fn_d (k := 0) F sc_Term_nodes rfl (fun cdv Ar outer s H E W0 hr => (d_sone (d_ret (d_fld (K := K) (d_varT (pv 0)) rfl)))) fun _ _ _ _ h => h
abbrev s_Term_symbols : Stmt := inClass (top 33) 5
abbrev nm_Term_symbols : List Str := ["self"]
abbrev ps_Term_symbols : List Str := ["self"]
theorem sc_Term_symbols : FnScope nm_Term_symbols ps_Term_symbols (defScope s_Term_symbols) := ⟨rfl, rfl, rfl, by decide +kernel, rfl, by decide +kernel, by decide +kernel⟩
def S_Term_symbols (K : PySem.W.Frag) (A : Adr) : FDi :=
  (fCBD RDictD (fCons (fFld K "own_symbols" (fVarT 0)) fNil))
def G_Term_symbols (K : PySem.W.Frag) (A : Adr) : FnD := fun ds Q Z => S_Term_symbols K A (startB 1 ds) Q Z
theorem ok_Term_symbols {f : Addr} {fd : FuncData} (F : Fun K "symbols" "Term.symbols" s_Term_symbols f fd) (T : Txt K mg)  : FnOk P w K mg base (L2.CX P w) 1 f fd ps_Term_symbols (spDD K 1 (G_Term_symbols K A)) := by
  have nd := sc_Term_symbols.nd
  exact fn_dd (k := 0) F sc_Term_symbols rfl rfl (fun cdv Ar outer s H E hr => (d_ctD c_dictD s_dictD (by rfl) T.z_dict (by decide +kernel) (d_consT (d_t (d_fld (K := K) (d_varT (pv 0)) rfl)) d_nilT)))
abbrev s_Term_unknown : Stmt := inClass (top 33) 6
abbrev nm_Term_unknown : List Str := ["self"]
abbrev ps_Term_unknown : List Str := ["self"]
theorem sc_Term_unknown : FnScope nm_Term_unknown ps_Term_unknown (defScope s_Term_unknown) := ⟨rfl, rfl, rfl, by decide +kernel, rfl, by decide +kernel, by decide +kernel⟩
def S_Term_unknown (K : PySem.W.Frag) (A : Adr) : FS :=
  (sRet (fFld K "own_unknown" (fVarT 0)))
def G_Term_unknown (K : PySem.W.Frag) (A : Adr) : Fn := fnS 1 (S_Term_unknown K A)
theorem ok_Term_unknown {f : Addr} {fd : FuncData} (F : Fun K "unknown" "Term.unknown" s_Term_unknown f fd) (T : Txt K mg)  : FnOk P w K mg base (L2.CX P w) 1 f fd ps_Term_unknown (spD K 1 (G_Term_unknown K A)) := by
  have nd := sc_Term_unknown.nd
  exact fn_d (k := 0) F sc_Term_unknown rfl (fun cdv Ar outer s H E W0 hr => (d_sone (d_ret (d_fld (K := K) (d_varT (pv 0)) rfl)))) fun _ _ _ _ h => h
abbrev s_Term_lost : Stmt := inClass (top 33) 7
abbrev nm_Term_lost : List Str := ["self"]
abbrev ps_Term_lost : List Str := ["self"]
theorem sc_Term_lost : FnScope nm_Term_lost ps_Term_lost (defScope s_Term_lost) := ⟨rfl, rfl, rfl, by decide +kernel, rfl, by decide +kernel, by decide +kernel⟩
def S_Term_lost (K : PySem.W.Frag) (A : Adr) : FS :=
  (sRet (fFld K "own_lost" (fVarT 0)))
def G_Term_lost (K : PySem.W.Frag) (A : Adr) : Fn := fnS 1 (S_Term_lost K A)
theorem ok_Term_lost {f : Addr} {fd : FuncData} (F : Fun K "lost" "Term.lost" s_Term_lost f fd) (T : Txt K mg)  : FnOk P w K mg base (L2.CX P w) 1 f fd ps_Term_lost (spD K 1 (G_Term_lost K A)) := by
  have nd := sc_Term_lost.nd
  exact fn_d (k := 0) F sc_Term_lost rfl (fun cdv Ar outer s H E W0 hr => (d_sone (d_ret (d_fld (K := K) (d_varT (pv 0)) rfl)))) fun _ _ _ _ h => h
abbrev s_Term_is_ground : Stmt := inClass (top 33) 8
abbrev nm_Term_is_ground : List Str := ["self"]
abbrev ps_Term_is_ground : List Str := ["self"]
theorem sc_Term_is_ground : FnScope nm_Term_is_ground ps_Term_is_ground (defScope s_Term_is_ground) := ⟨rfl, rfl, rfl, by decide +kernel, rfl, by decide +kernel, by decide +kernel⟩
def S_Term_is_ground (K : PySem.W.Frag) (A : Adr) : FS :=
  (sRet (fAndV (fOp REq (fFld K "own_unknown" (fVarT 0)) (fTup fNil)) (fOp REq (fFld K "own_lost" (fVarT 0)) (fTup fNil))))
def G_Term_is_ground (K : PySem.W.Frag) (A : Adr) : Fn := fnS 1 (S_Term_is_ground K A)
theorem ok_Term_is_ground {f : Addr} {fd : FuncData} (F : Fun K "is_ground" "Term.is_ground" s_Term_is_ground f fd) (T : Txt K mg)  : FnOk P w K mg base (L2.CX P w) 1 f fd ps_Term_is_ground (spD K 1 (G_Term_is_ground K A)) := by
  have nd := sc_Term_is_ground.nd
  exact fn_d (k := 0) F sc_Term_is_ground rfl (fun cdv Ar outer s H E W0 hr => (d_sone (d_ret (d_andV (d_cmp (op_eqA (K := K) hr.units) s_eq (d_t (d_fld (K := K) (d_varT (pv 0)) rfl)) (d_t (d_tup d_nil)) (nomark _)) (d_one (d_cmp (op_eqA (K := K) hr.units) s_eq (d_t (d_fld (K := K) (d_varT (pv 0)) rfl)) (d_t (d_tup d_nil)) (nomark _))))))) fun _ _ _ _ h => h
abbrev s_Term_depth : Stmt := inClass (top 33) 9
abbrev nm_Term_depth : List Str := ["self", "depths", "node", "at", "child"]
abbrev ps_Term_depth : List Str := ["self"]
theorem sc_Term_depth : FnScope nm_Term_depth ps_Term_depth (defScope s_Term_depth) := ⟨rfl, rfl, rfl, by decide +kernel, rfl, by decide +kernel, by decide +kernel⟩
def S_Term_depth (K : PySem.W.Frag) (A : Adr) : FS :=
  (sSeq (sNew 1 (fLc (fIt (fFld K "own_nodes" (fVarT 0))) (gN 2) fYes (fC (.int 1)) [2]))
      (sSeq (sFor (fRng3 (fCons (fOp RSub (fCB RLen (fCons (fVarT 1) fNil)) (fC (.int 1))) (fCons (fNeg (fC (.int 1))) (fCons (fNeg (fC (.int 1))) fNil)))) (gN 3) (sPut 1 (fVar 3) (fOp RAdd (fC (.int 1)) (fMaxD (fNew (fLc (fIt (fOp RIx (fFld K "own_children" (fVarT 0)) (fVarT 3))) (gN 4) fYes (fOp RIx (fVarT 1) (fVarT 4)) [4])) 0))))
      (sRet (fOp RIx (fVarT 1) (fC (.int 0))))))
def G_Term_depth (K : PySem.W.Frag) (A : Adr) : Fn := fnS 5 (S_Term_depth K A)
theorem ok_Term_depth {f : Addr} {fd : FuncData} (F : Fun K "depth" "Term.depth" s_Term_depth f fd) (T : Txt K mg)  : FnOk P w K mg base (L2.CX P w) 1 f fd ps_Term_depth (spD K 1 (G_Term_depth K A)) := by
  have nd := sc_Term_depth.nd
  exact fn_d (k := 0) F sc_Term_depth rfl (fun cdv Ar outer s H E W0 hr => (d_seq (d_new (d_lc (own := [("node", 2)]) (by rfl) nd (d_itC (K := K) (d_t (d_fld (K := K) (d_varT (pv 0)) rfl))) (blkOk_by (own := [("node", 2)]) (N := nm_Term_depth) (sc := defScope s_Term_depth) (by decide +kernel)) (g_name (by decide)) (fun _ _ _ _ _ => (pg_name (i := 2) nd rfl (Or.inl rfl))) (fun _ _ _ _ _ => d_pts0) (fun _ _ _ _ _ => (d_int pe_int))) (pg_name (i := 1) nd rfl (Or.inr rfl)))
      (d_seq (d_for (vs := [3]) (passes_of rfl) rfl (d_rng3 rfl T.z_range (d_cons (d_op op_sub s_sub (d_t (d_cb (c_len (K := K)) s_len (by rfl) T.z_len (by decide +kernel) (d_consT (d_varT (pv 1)) d_nilT))) (d_t (d_int pe_int))) (d_cons (d_neg (d_int pe_int)) (d_cons (d_neg (d_int pe_int)) d_nil)))) (pg_name (i := 3) nd rfl (Or.inl rfl)) (g_name (by decide)) (d_sone (d_put (ps_asg (d_op (op_addA (K := K)) s_add (d_t (d_int pe_int)) (d_t (d_maxD (by rfl) rfl T.z_max (d_nt (d_lc (own := [("child", 4)]) (by rfl) nd (d_itC (K := K) (d_t (d_ix (ix_A (K := K)) s_ix (d_t (d_fld (K := K) (d_varT (pv 0)) rfl)) (d_varT (pv 3)) (fun _ _ => rfl)))) (blkOk_by (own := [("child", 4)]) (N := nm_Term_depth) (sc := defScope s_Term_depth) (by decide +kernel)) (g_name (by decide)) (fun _ _ _ _ _ => (pg_name (i := 4) nd rfl (Or.inl rfl))) (fun _ _ _ _ _ => d_pts0) (fun _ _ _ _ _ => (d_ix (ix_A (K := K)) s_ix (d_varT (pv 1)) (d_varT (pv 4)) (fun _ _ => rfl))))) pe_int))) (pg_sub (pv 1) (d_var (pv 3)) set_list)))))
      (d_sone (d_ret (d_ix (ix_A (K := K)) s_ix (d_varT (pv 1)) (d_t (d_int pe_int)) (fun _ _ => rfl))))))) fun _ _ _ _ h => h
abbrev s_Term_require_place : Stmt := inClass (top 33) 10
abbrev nm_Term_require_place : List Str := ["self", "place"]
abbrev ps_Term_require_place : List Str := ["self", "place"]
theorem sc_Term_require_place : FnScope nm_Term_require_place ps_Term_require_place (defScope s_Term_require_place) := ⟨rfl, rfl, rfl, by decide +kernel, rfl, by decide +kernel, by decide +kernel⟩
def S_Term_require_place (K : PySem.W.Frag) (A : Adr) : FS :=
  (sIf (fNot (fTst (fCall (G_is_within K A) 3 (fCons (fVar 1) (fCons (fC (.int 0)) (fCons (fOp RSub (fCB RLen (fCons (fFld K "own_nodes" (fVarT 0)) fNil)) (fC (.int 1))) fNil)))))) sNo sNext)
def G_Term_require_place (K : PySem.W.Frag) (A : Adr) : Fn := fnS 2 (S_Term_require_place K A)
theorem ok_Term_require_place {f : Addr} {fd : FuncData} (F : Fun K "require_place" "Term.require_place" s_Term_require_place f fd) (T : Txt K mg) (C_is_within : CalF P w K mg base "is_within" 2 3 (G_is_within K A)) : FnOk P w K mg base (L2.CX P w) 3 f fd ps_Term_require_place (spD K 2 (G_Term_require_place K A)) := by
  have nd := sc_Term_require_place.nd
  exact fn_d (k := 2) F sc_Term_require_place rfl (fun cdv Ar outer s H E W0 hr => (d_sone (d_ifs (d_not (d_test (d_call C_is_within (hr.mono (by first | decide | omega)) rfl (passes_call (takes_of rfl rfl rfl rfl) fun _ _ _ _ h => h) (d_cons (d_var (pv 1)) (d_cons (d_int pe_int) (d_cons (d_op op_sub s_sub (d_t (d_cb (c_len (K := K)) s_len (by rfl) T.z_len (by decide +kernel) (d_consT (d_t (d_fld (K := K) (d_varT (pv 0)) rfl)) d_nilT))) (d_t (d_int pe_int))) d_nil)))))) (d_sone d_noS) d_snil))) fun _ _ _ _ h => h
abbrev s_Term_children : Stmt := inClass (top 33) 11
abbrev nm_Term_children : List Str := ["self", "place"]
abbrev ps_Term_children : List Str := ["self", "place"]
theorem sc_Term_children : FnScope nm_Term_children ps_Term_children (defScope s_Term_children) := ⟨rfl, rfl, rfl, by decide +kernel, rfl, by decide +kernel, by decide +kernel⟩
def S_Term_children (K : PySem.W.Frag) (A : Adr) : FS :=
  (sSeq (sDrop (fMeth A.cTerm "require_place" (G_Term_require_place K A) 2 (fVar 0) (fCons (fVar 1) fNil)))
      (sRet (fOp RIx (fFld K "own_children" (fVarT 0)) (fVarT 1))))
def G_Term_children (K : PySem.W.Frag) (A : Adr) : Fn := fnS 2 (S_Term_children K A)
theorem ok_Term_children {f : Addr} {fd : FuncData} (F : Fun K "children" "Term.children" s_Term_children f fd) (T : Txt K mg) (O_Term_require_place : CalO P w K mg base A.cTerm "require_place" 3 2 (G_Term_require_place K A)) : FnOk P w K mg base (L2.CX P w) 4 f fd ps_Term_children (spD K 2 (G_Term_children K A)) := by
  have nd := sc_Term_children.nd
  exact fn_d (k := 3) F sc_Term_children rfl (fun cdv Ar outer s H E W0 hr => (d_seq (d_drop (d_meth O_Term_require_place (hr.mono (by first | decide | omega)) (passes_call (takes_of rfl rfl rfl rfl) fun _ _ _ _ h => h) (d_var (pv 0)) (d_cons (d_var (pv 1)) d_nil)))
      (d_sone (d_ret (d_ix (ix_A (K := K)) s_ix (d_t (d_fld (K := K) (d_varT (pv 0)) rfl)) (d_varT (pv 1)) (fun _ _ => rfl)))))) fun _ _ _ _ h => h
abbrev s_Term_part : Stmt := inClass (top 33) 12
abbrev nm_Term_part : List Str := ["self", "place"]
abbrev ps_Term_part : List Str := ["self", "place"]
theorem sc_Term_part : FnScope nm_Term_part ps_Term_part (defScope s_Term_part) := ⟨rfl, rfl, rfl, by decide +kernel, rfl, by decide +kernel, by decide +kernel⟩
def S_Term_part (K : PySem.W.Frag) (A : Adr) : FS :=
  (sSeq (sDrop (fMeth A.cTerm "require_place" (G_Term_require_place K A) 2 (fVar 0) (fCons (fVar 1) fNil)))
      (sRet (fCall (G_part_in K A) 2 (fCons (fVar 0) (fCons (fVar 1) fNil)))))
def G_Term_part (K : PySem.W.Frag) (A : Adr) : Fn := fnS 2 (S_Term_part K A)
theorem ok_Term_part {f : Addr} {fd : FuncData} (F : Fun K "part" "Term.part" s_Term_part f fd) (T : Txt K mg) (C_part_in : CalF P w K mg base "part_in" 8 2 (G_part_in K A))
    (O_Term_require_place : CalO P w K mg base A.cTerm "require_place" 3 2 (G_Term_require_place K A)) : FnOk P w K mg base (L2.CX P w) 9 f fd ps_Term_part (spD K 2 (G_Term_part K A)) := by
  have nd := sc_Term_part.nd
  exact fn_d (k := 8) F sc_Term_part rfl (fun cdv Ar outer s H E W0 hr => (d_seq (d_drop (d_meth O_Term_require_place (hr.mono (by first | decide | omega)) (passes_call (takes_of rfl rfl rfl rfl) fun _ _ _ _ h => h) (d_var (pv 0)) (d_cons (d_var (pv 1)) d_nil)))
      (d_sone (d_ret (d_call C_part_in (hr.mono (by first | decide | omega)) rfl (passes_call (takes_of rfl rfl rfl rfl) fun _ _ _ _ h => h) (d_cons (d_var (pv 0)) (d_cons (d_var (pv 1)) d_nil))))))) fun _ _ _ _ h => h
abbrev s_Term_above : Stmt := inClass (top 33) 13
abbrev nm_Term_above : List Str := ["self", "place", "at"]
abbrev ps_Term_above : List Str := ["self", "place"]
theorem sc_Term_above : FnScope nm_Term_above ps_Term_above (defScope s_Term_above) := ⟨rfl, rfl, rfl, by decide +kernel, rfl, by decide +kernel, by decide +kernel⟩
def S_Term_above (K : PySem.W.Frag) (A : Adr) : FS :=
  (sSeq (sDrop (fMeth A.cTerm "require_place" (G_Term_require_place K A) 2 (fVar 0) (fCons (fVar 1) fNil)))
      (sRet (fCB RTuple (fCons (fNew (fLc (fRng1 (fCons (fOp RAdd (fVarT 1) (fC (.int 1))) fNil)) (gN 2) (fTst (fOp RLt (fVarT 1) (fOp RIx (fFld K "own_ends" (fVarT 0)) (fVarT 2)))) (fVar 2) [2])) fNil))))
def G_Term_above (K : PySem.W.Frag) (A : Adr) : Fn := fnS 3 (S_Term_above K A)
theorem ok_Term_above {f : Addr} {fd : FuncData} (F : Fun K "above" "Term.above" s_Term_above f fd) (T : Txt K mg) (O_Term_require_place : CalO P w K mg base A.cTerm "require_place" 3 2 (G_Term_require_place K A)) : FnOk P w K mg base (L2.CX P w) 4 f fd ps_Term_above (spD K 2 (G_Term_above K A)) := by
  have nd := sc_Term_above.nd
  exact fn_d (k := 3) F sc_Term_above rfl (fun cdv Ar outer s H E W0 hr => (d_seq (d_drop (d_meth O_Term_require_place (hr.mono (by first | decide | omega)) (passes_call (takes_of rfl rfl rfl rfl) fun _ _ _ _ h => h) (d_var (pv 0)) (d_cons (d_var (pv 1)) d_nil)))
      (d_sone (d_ret (d_ct (kcall_tuple (K := K)) s_tuple (by rfl) T.z_tuple (by decide +kernel) (d_consT (d_nt (d_lc (own := [("at", 2)]) (by rfl) nd (d_fc (d_rng1 rfl T.z_range (d_cons (d_op (op_addA (K := K)) s_add (d_varT (pv 1)) (d_t (d_int pe_int))) d_nil))) (blkOk_by (own := [("at", 2)]) (N := nm_Term_above) (sc := defScope s_Term_above) (by decide +kernel)) (g_name (by decide)) (fun _ _ _ _ _ => (pg_name (i := 2) nd rfl (Or.inl rfl))) (fun _ _ _ _ _ => (d_pts1 (d_tcmp op_lt s_lt (d_varT (pv 1)) (d_t (d_ix (ix_A (K := K)) s_ix (d_t (d_fld (K := K) (d_varT (pv 0)) rfl)) (d_varT (pv 2)) (fun _ _ => rfl))) (nomark _)))) (fun _ _ _ _ _ => (d_var (pv 2))))) d_nilT)))))) fun _ _ _ _ h => h
abbrev s_Term_getitem : Stmt := inClass (top 33) 21
abbrev nm_Term_getitem : List Str := ["self", "place"]
abbrev ps_Term_getitem : List Str := ["self", "place"]
theorem sc_Term_getitem : FnScope nm_Term_getitem ps_Term_getitem (defScope s_Term_getitem) := ⟨rfl, rfl, rfl, by decide +kernel, rfl, by decide +kernel, by decide +kernel⟩
def S_Term_getitem (K : PySem.W.Frag) (A : Adr) : FS :=
  (sSeq (sDrop (fMeth A.cTerm "require_place" (G_Term_require_place K A) 2 (fVar 0) (fCons (fVar 1) fNil)))
      (sRet (fOp RIx (fFld K "own_nodes" (fVarT 0)) (fVarT 1))))
def G_Term_getitem (K : PySem.W.Frag) (A : Adr) : Fn := fnS 2 (S_Term_getitem K A)
theorem ok_Term_getitem {f : Addr} {fd : FuncData} (F : Fun K "__getitem__" "Term.__getitem__" s_Term_getitem f fd) (T : Txt K mg) (O_Term_require_place : CalO P w K mg base A.cTerm "require_place" 3 2 (G_Term_require_place K A)) : FnOk P w K mg base (L2.CX P w) 4 f fd ps_Term_getitem (spD K 2 (G_Term_getitem K A)) := by
  have nd := sc_Term_getitem.nd
  exact fn_d (k := 3) F sc_Term_getitem rfl (fun cdv Ar outer s H E W0 hr => (d_seq (d_drop (d_meth O_Term_require_place (hr.mono (by first | decide | omega)) (passes_call (takes_of rfl rfl rfl rfl) fun _ _ _ _ h => h) (d_var (pv 0)) (d_cons (d_var (pv 1)) d_nil)))
      (d_sone (d_ret (d_ix (ix_A (K := K)) s_ix (d_t (d_fld (K := K) (d_varT (pv 0)) rfl)) (d_varT (pv 1)) (fun _ _ => rfl)))))) fun _ _ _ _ h => h
abbrev s_Term_len : Stmt := inClass (top 33) 22
abbrev nm_Term_len : List Str := ["self"]
abbrev ps_Term_len : List Str := ["self"]
theorem sc_Term_len : FnScope nm_Term_len ps_Term_len (defScope s_Term_len) := ⟨rfl, rfl, rfl, by decide +kernel, rfl, by decide +kernel, by decide +kernel⟩
def S_Term_len (K : PySem.W.Frag) (A : Adr) : FS :=
  (sRet (fCB RLen (fCons (fFld K "own_nodes" (fVarT 0)) fNil)))
def G_Term_len (K : PySem.W.Frag) (A : Adr) : Fn := fnS 1 (S_Term_len K A)
theorem ok_Term_len {f : Addr} {fd : FuncData} (F : Fun K "__len__" "Term.__len__" s_Term_len f fd) (T : Txt K mg)  : FnOk P w K mg base (L2.CX P w) 1 f fd ps_Term_len (spD K 1 (G_Term_len K A)) := by
  have nd := sc_Term_len.nd
  exact fn_d (k := 0) F sc_Term_len rfl (fun cdv Ar outer s H E W0 hr => (d_sone (d_ret (d_cb (c_len (K := K)) s_len (by rfl) T.z_len (by decide +kernel) (d_consT (d_t (d_fld (K := K) (d_varT (pv 0)) rfl)) d_nilT))))) fun _ _ _ _ h => h
abbrev s_Term_contains : Stmt := inClass (top 33) 24
abbrev nm_Term_contains : List Str := ["self", "value"]
abbrev ps_Term_contains : List Str := ["self", "value"]
theorem sc_Term_contains : FnScope nm_Term_contains ps_Term_contains (defScope s_Term_contains) := ⟨rfl, rfl, rfl, by decide +kernel, rfl, by decide +kernel, by decide +kernel⟩
def S_Term_contains (K : PySem.W.Frag) (A : Adr) : FS :=
  (sRet (fAndV (fCall (G_is_node K A) 1 (fCons (fVar 1) fNil)) (fOp (RInTD false) (fVarT 1) (fFld K "own_nodes" (fVarT 0)))))
def G_Term_contains (K : PySem.W.Frag) (A : Adr) : Fn := fnS 2 (S_Term_contains K A)
theorem ok_Term_contains {f : Addr} {fd : FuncData} (F : Fun K "__contains__" "Term.__contains__" s_Term_contains f fd) (T : Txt K mg) (C_is_node : CalF P w K mg base "is_node" 3 1 (G_is_node K A)) : FnOk P w K mg base (L2.CX P w) 4 f fd ps_Term_contains (spD K 2 (G_Term_contains K A)) := by
  have nd := sc_Term_contains.nd
  exact fn_d (k := 3) F sc_Term_contains rfl (fun cdv Ar outer s H E W0 hr => (d_sone (d_ret (d_andV (d_call C_is_node (hr.mono (by first | decide | omega)) rfl (passes_call (takes_of rfl rfl rfl rfl) fun _ _ _ _ h => h) (d_cons (d_var (pv 1)) d_nil)) (d_one (d_cmp (op_inTD (K := K) (hr65 hr)) s_inTD (d_varT (pv 1)) (d_t (d_fld (K := K) (d_varT (pv 0)) rfl)) rfl)))))) fun _ _ _ _ h => h
abbrev s_Term_str : Stmt := inClass (top 33) 26
abbrev nm_Term_str : List Str := ["self"]
abbrev ps_Term_str : List Str := ["self"]
theorem sc_Term_str : FnScope nm_Term_str ps_Term_str (defScope s_Term_str) := ⟨rfl, rfl, rfl, by decide +kernel, rfl, by decide +kernel, by decide +kernel⟩
def S_Term_str (K : PySem.W.Frag) (A : Adr) : FS :=
  (sRet (fCB RStr (fCons (fCall (G_text_of K A 41) 3 (fCons (fFld K "own_nodes" (fVarT 0)) (fCons (fFld K "own_children" (fVarT 0)) (fCons (fC (.int 0)) fNil)))) fNil)))
def G_Term_str (K : PySem.W.Frag) (A : Adr) : Fn := fnS 1 (S_Term_str K A)
theorem ok_Term_str {f : Addr} {fd : FuncData} (F : Fun K "__str__" "Term.__str__" s_Term_str f fd) (T : Txt K mg) (C_text_of : CalF P w K mg base "text_of" 41 3 (G_text_of K A 41)) : FnOk P w K mg base (L2.CX P w) 42 f fd ps_Term_str (spD K 1 (G_Term_str K A)) := by
  have nd := sc_Term_str.nd
  exact fn_d (k := 41) F sc_Term_str rfl (fun cdv Ar outer s H E W0 hr => (d_sone (d_ret (d_ct SkE.call_str_str s_str (by rfl) T.z_str (by decide +kernel) (d_consT (d_t (d_call C_text_of (hr.mono (by first | decide | omega)) rfl (passes_call (takes_of rfl rfl rfl rfl) fun _ _ _ _ h => h) (d_cons (d_fld (K := K) (d_varT (pv 0)) rfl) (d_cons (d_fld (K := K) (d_varT (pv 0)) rfl) (d_cons (d_int pe_int) d_nil))))) d_nilT))))) fun _ _ _ _ h => h
abbrev s_parts : Stmt := top 46
abbrev nm_parts : List Str := ["_law_term_here", "_law_found", "_law_one"]
abbrev ps_parts : List Str := ["_law_term_here"]
theorem sc_parts : FnScope nm_parts ps_parts (defScope s_parts) := ⟨rfl, rfl, rfl, by decide +kernel, rfl, by decide +kernel, by decide +kernel⟩
def S_parts (K : PySem.W.Frag) (A : Adr) (rec : Fn) : FS :=
  (sSeq (sAsg 1 (fNew (fLst (fCons (fVar 0) fNil))))
      (sSeq (sFor (fIt (fOp RIx (fVarT 0) (fC (.int 1)))) (gN 2) (sAsg 1 (fOp RAdd (fVarT 1) (fCall rec 1 (fCons (fVar 2) fNil)))))
      (sRet (fVar 1))))
def G_parts (K : PySem.W.Frag) (A : Adr) : Nat → Fn
  | 0 => fun _ _ _ => False
  | k + 1 => fnS 3 (S_parts K A (G_parts K A k))
theorem ok_parts {f : Addr} {fd : FuncData} (F : Fun K "_law_parts" "_law_parts" s_parts f fd) (T : Txt K mg) 
    (hm : mg "_law_parts" = some (.ref f)) (hk : PySem.W.keepIn K (.ref f) = true) (hb : Binds K fd ps_parts []) : ∀ j : Nat, FnOk P w K mg base (L2.CX P w) (0 + j) f fd ps_parts (spD K 1 (G_parts K A j))
  | 0 => ⟨fun vs H Q E ⟨_, _, _, _, _, _, _, z, _⟩ => z.elim, fun _ _ _ _ _ _ _ _ _ _ _ _ _ ⟨_, _, _, _, _, _, _, z, _⟩ => z.elim⟩
  | j + 1 => by
    have nd := sc_parts.nd
    have rec_ : CalF P w K mg base "_law_parts" (0 + j) 1 (G_parts K A j) := ⟨f, fd, ps_parts, ok_parts F T  hm hk hb j, hm, hk, hb⟩
    exact fn_d (k := 0 + j) F sc_parts rfl (fun cdv Ar outer s H E W0 hr => (d_seq (d_asg (d_n (d_lst (d_cons (d_var (pv 0)) d_nil))) (pg_name (i := 1) nd rfl (Or.inl rfl)))
      (d_seq (d_for (vs := [2]) (passes_of rfl) rfl (d_itF (K := K) (d_ix (ix_A (K := K)) s_ix (d_varT (pv 0)) (d_t (d_int pe_int)) (fun _ _ => rfl))) (pg_name (i := 2) nd rfl (Or.inl rfl)) (g_name (by decide)) (d_sone (d_asg (d_op (op_addA (K := K)) s_add (d_varT (pv 1)) (d_t (d_call rec_ (hr.mono (by first | decide | omega)) rfl (passes_call (takes_of rfl rfl rfl rfl) fun _ _ _ _ h => h) (d_cons (d_var (pv 2)) d_nil)))) (pg_name (i := 1) nd rfl (Or.inl rfl)))))
      (d_sone (d_ret (d_var (pv 1))))))) fun _ _ _ _ h => h
abbrev s_leaves : Stmt := top 47
abbrev nm_leaves : List Str := ["_law_term_here", "_law_word", "_law_rows", "_law_at"]
abbrev ps_leaves : List Str := ["_law_term_here", "_law_word"]
theorem sc_leaves : FnScope nm_leaves ps_leaves (defScope s_leaves) := ⟨rfl, rfl, rfl, by decide +kernel, rfl, by decide +kernel, by decide +kernel⟩
def S_leaves (K : PySem.W.Frag) (A : Adr) : FS :=
  (sSeq (sAsg 2 (fCall (G_nodes' K A 8) 1 (fCons (fVar 0) fNil)))
      (sRet (fNew (fLc (fRng1 (fCons (fCB RLen (fCons (fVarT 2) fNil)) fNil)) (gN 3) (fTst (fOp REq (fOp RIx (fVarT 2) (fVarT 3)) (fTup (fCons (fVar 1) (fCons (fC (.int 0)) fNil))))) (fVar 3) [3]))))
def G_leaves (K : PySem.W.Frag) (A : Adr) : Fn := fnS 4 (S_leaves K A)
theorem ok_leaves {f : Addr} {fd : FuncData} (F : Fun K "_law_leaves" "_law_leaves" s_leaves f fd) (T : Txt K mg) (C_nodes' : CalF P w K mg base "_law_nodes" 8 1 (G_nodes' K A 8)) : FnOk P w K mg base (L2.CX P w) 9 f fd ps_leaves (spD K 2 (G_leaves K A)) := by
  have nd := sc_leaves.nd
  exact fn_d (k := 8) F sc_leaves rfl (fun cdv Ar outer s H E W0 hr => (d_seq (d_asg (d_call C_nodes' (hr.mono (by first | decide | omega)) rfl (passes_call (takes_of rfl rfl rfl rfl) fun _ _ _ _ h => h) (d_cons (d_var (pv 0)) d_nil)) (pg_name (i := 2) nd rfl (Or.inr rfl)))
      (d_sone (d_ret (d_n (d_lc (own := [("_law_at", 3)]) (by rfl) nd (d_fc (d_rng1 rfl T.z_range (d_cons (d_cb (c_len (K := K)) s_len (by rfl) T.z_len (by decide +kernel) (d_consT (d_varT (pv 2)) d_nilT)) d_nil))) (blkOk_by (own := [("_law_at", 3)]) (N := nm_leaves) (sc := defScope s_leaves) (by decide +kernel)) (g_name (by decide)) (fun _ _ _ _ _ => (pg_name (i := 3) nd rfl (Or.inl rfl))) (fun _ _ _ _ _ => (d_pts1 (d_tcmp (op_eqA (K := K) hr.units) s_eq (d_t (d_ix (ix_A (K := K)) s_ix (d_varT (pv 2)) (d_varT (pv 3)) (fun _ _ => rfl))) (d_t (d_tup (d_cons (d_var (pv 1)) (d_cons (d_int pe_int) d_nil)))) (nomark _)))) (fun _ _ _ _ _ => (d_var (pv 3))))))))) fun _ _ _ _ h => h
abbrev s_deep : Stmt := top 52
abbrev nm_deep : List Str := ["_law_term_here", "_law_one"]
abbrev ps_deep : List Str := ["_law_term_here"]
theorem sc_deep : FnScope nm_deep ps_deep (defScope s_deep) := ⟨rfl, rfl, rfl, by decide +kernel, rfl, by decide +kernel, by decide +kernel⟩
def S_deep (K : PySem.W.Frag) (A : Adr) (rec : Fn) : FS :=
  (sRet (fOp RAdd (fC (.int 1)) (fMaxD (fNew (fLc (fIt (fOp RIx (fVarT 0) (fC (.int 1)))) (gN 1) fYes (fCall rec 1 (fCons (fVar 1) fNil)) [1])) 0)))
def G_deep (K : PySem.W.Frag) (A : Adr) : Nat → Fn
  | 0 => fun _ _ _ => False
  | k + 1 => fnS 2 (S_deep K A (G_deep K A k))
theorem ok_deep {f : Addr} {fd : FuncData} (F : Fun K "_law_deep" "_law_deep" s_deep f fd) (T : Txt K mg) 
    (hm : mg "_law_deep" = some (.ref f)) (hk : PySem.W.keepIn K (.ref f) = true) (hb : Binds K fd ps_deep []) : ∀ j : Nat, FnOk P w K mg base (L2.CX P w) (0 + j) f fd ps_deep (spD K 1 (G_deep K A j))
  | 0 => ⟨fun vs H Q E ⟨_, _, _, _, _, _, _, z, _⟩ => z.elim, fun _ _ _ _ _ _ _ _ _ _ _ _ _ ⟨_, _, _, _, _, _, _, z, _⟩ => z.elim⟩
  | j + 1 => by
    have nd := sc_deep.nd
    have rec_ : CalF P w K mg base "_law_deep" (0 + j) 1 (G_deep K A j) := ⟨f, fd, ps_deep, ok_deep F T  hm hk hb j, hm, hk, hb⟩
    exact fn_d (k := 0 + j) F sc_deep rfl (fun cdv Ar outer s H E W0 hr => (d_sone (d_ret (d_op (op_addA (K := K)) s_add (d_t (d_int pe_int)) (d_t (d_maxD (by rfl) rfl T.z_max (d_nt (d_lc (own := [("_law_one", 1)]) (by rfl) nd (d_itC (K := K) (d_t (d_ix (ix_A (K := K)) s_ix (d_varT (pv 0)) (d_t (d_int pe_int)) (fun _ _ => rfl)))) (blkOk_by (own := [("_law_one", 1)]) (N := nm_deep) (sc := defScope s_deep) (by decide +kernel)) (g_name (by decide)) (fun _ _ _ _ _ => (pg_name (i := 1) nd rfl (Or.inl rfl))) (fun _ _ _ _ _ => d_pts0) (fun _ _ _ _ _ => (d_call rec_ (hr.mono (by first | decide | omega)) rfl passL (d_cons (d_var (pv 1)) d_nil))))) pe_int)))))) fun _ _ _ _ h => h
abbrev s_below : Stmt := top 53
abbrev nm_below : List Str := ["_law_term_here", "_law_place", "_law_rows", "_law_found", "_law_at", "_law_one"]
abbrev ps_below : List Str := ["_law_term_here", "_law_place"]
theorem sc_below : FnScope nm_below ps_below (defScope s_below) := ⟨rfl, rfl, rfl, by decide +kernel, rfl, by decide +kernel, by decide +kernel⟩
def S_below (K : PySem.W.Frag) (A : Adr) : FS :=
  (sSeq (sPar3L 2 3 4 (fCall (G_parts K A 8) 1 (fCons (fVar 0) fNil)) (fOp RAdd (fVarT 1) (fC (.int 1))))
      (sSeq (sFor (fIt (fOp RIx (fOp RIx (fVarT 2) (fVarT 1)) (fC (.int 1)))) (gN 5) (sSeq (sApp 3 (fVar 4))
      (sAsg 4 (fOp RAdd (fVarT 4) (fCB RLen (fCons (fCall (G_parts K A 8) 1 (fCons (fVar 5) fNil)) fNil))))))
      (sRet (fCB RTuple (fCons (fVarT 3) fNil)))))
def G_below (K : PySem.W.Frag) (A : Adr) : Fn := fnS 6 (S_below K A)
theorem ok_below {f : Addr} {fd : FuncData} (F : Fun K "_law_below" "_law_below" s_below f fd) (T : Txt K mg) (C_parts : CalF P w K mg base "_law_parts" 8 1 (G_parts K A 8)) : FnOk P w K mg base (L2.CX P w) 9 f fd ps_below (spD K 2 (G_below K A)) := by
  have nd := sc_below.nd
  exact fn_d (k := 8) F sc_below rfl (fun cdv Ar outer s H E W0 hr => (d_seq (d_par3L (by decide) (by decide) (ps_par3 (i := 2) (j := 3) (l := 4) (by rfl) nd rfl rfl rfl (by decide) (by decide) (by decide) rfl rfl rfl (pa_cons (d_call C_parts (hr.mono (by first | decide | omega)) rfl (passes_call (takes_of rfl rfl rfl rfl) fun _ _ _ _ h => h) (d_cons (d_var (pv 0)) d_nil)) (pa_cons (pe_lst pa_nil) (pa_cons (d_op (op_addA (K := K)) s_add (d_varT (pv 1)) (d_t (d_int pe_int))) pa_nil))) (by rfl)))
      (d_seq (d_for (vs := [5]) (passes_of rfl) rfl (d_itF (K := K) (d_ix (ix_A (K := K)) s_ix (d_t (d_ix (ix_A (K := K)) s_ix (d_varT (pv 2)) (d_varT (pv 1)) (fun _ _ => rfl))) (d_t (d_int pe_int)) (fun _ _ => rfl))) (pg_name (i := 5) nd rfl (Or.inl rfl)) (g_name (by decide)) (d_seq (d_app (ps_expr (kpe_bm (K := K) PySem.F.plainAttrs_list PySem.F.slot_list_append PySem.F.type_list_append mt_append (pv 3) (pa_cons (d_var (pv 4)) pa_nil))))
      (d_sone (d_asg (d_op (op_addA (K := K)) s_add (d_varT (pv 4)) (d_t (d_cb (c_len (K := K)) s_len (by rfl) T.z_len (by decide +kernel) (d_consT (d_t (d_call C_parts (hr.mono (by first | decide | omega)) rfl (passes_call (takes_of rfl rfl rfl rfl) fun _ _ _ _ h => h) (d_cons (d_var (pv 5)) d_nil))) d_nilT)))) (pg_name (i := 4) nd rfl (Or.inl rfl))))))
      (d_sone (d_ret (d_ct (kcall_tuple (K := K)) s_tuple (by rfl) T.z_tuple (by decide +kernel) (d_consT (d_varT (pv 3)) d_nilT))))))) fun _ _ _ _ h => h
abbrev s_told_right : Stmt := top 54
abbrev nm_told_right : List Str := ["_law_made", "_law_term_here", "_law_rows", "_law_nodes_here", "_law_words", "_law_word", "_law_many", "_law_told", "_law_due", "_law_unknown", "_law_lost", "_law_at", "_law_above", "_law_up", "_law_odd", "_law_one"]
abbrev ps_told_right : List Str := ["_law_made", "_law_term_here"]
theorem sc_told_right : FnScope nm_told_right ps_told_right (defScope s_told_right) := ⟨rfl, rfl, rfl, by decide +kernel, rfl, by decide +kernel, by decide +kernel⟩
def S_told_right (K : PySem.W.Frag) (A : Adr) : FS :=
  (sSeq (sTgt (gT [2, 3]) (fTup (fCons (fCall (G_parts K A 8) 1 (fCons (fVar 1) fNil)) (fCons (fCall (G_nodes' K A 8) 1 (fCons (fVar 1) fNil)) fNil))))
      (sSeq (sNewD 4 (fCBD RDictP (fCons (fNew (fLc (fIt (fVarT 3)) (gT [5, 6]) (fTst (fOp (RIn true) (fVarT 5) (fNew (fLst (fCons (fC (.str "_")) (fCons (fC (.str "#")) fNil)))))) (fTup (fCons (fVar 5) (fCons (fVar 6) fNil))) [5, 6])) fNil)))
      (sSeq (sAsg 7 (fNew (fLst (fCons (fProp A.cTerm (G_Term_nodes K A) (fVar 0)) (fCons (fProp A.cTerm (G_Term_text K A) (fVar 0)) (fCons (fCB (RStrO A.cTerm (G_Term_str K A)) (fCons (fVarT 0) fNil)) (fCons (fCB (RLenO A.cTerm (G_Term_len K A)) (fCons (fVarT 0) fNil)) (fCons (fProp A.cTerm (G_Term_depth K A) (fVar 0)) (fCons (fNew (fItems (fPropD A.cTerm (G_Term_symbols K A) (fVar 0)))) fNil)))))))))
      (sSeq (sAsg 8 (fNew (fLst (fCons (fCB RTuple (fCons (fVarT 3) fNil)) (fCons (fCall (G_text K A 8) 1 (fCons (fVar 1) fNil)) (fCons (fCall (G_text K A 8) 1 (fCons (fVar 1) fNil)) (fCons (fCB RLen (fCons (fVarT 3) fNil)) (fCons (fCall (G_deep K A 8) 1 (fCons (fVar 1) fNil)) (fCons (fNew (fCBN RSortDt (fCons (fNew (fItems (fVarX 4))) fNil))) fNil)))))))))
      (sSeq (sIf (fTst (fOp RNe (fCB RReprA (fCons (fVarT 7) fNil)) (fCB RReprA (fCons (fVarT 8) fNil)))) (sRet (fC (.bl false))) sNext)
      (sSeq (sPar 9 10 (fCons (fCB RTuple (fCons (fCall (G_leaves K A) 2 (fCons (fVar 1) (fCons (fC (.str "_")) fNil))) fNil)) (fCons (fCB RTuple (fCons (fCall (G_leaves K A) 2 (fCons (fVar 1) (fCons (fC (.str "#")) fNil))) fNil)) fNil)))
      (sSeq (sIf (fTst (fOp RNe (fCB RReprA (fCons (fNew (fLst (fCons (fProp A.cTerm (G_Term_unknown K A) (fVar 0)) (fCons (fProp A.cTerm (G_Term_lost K A) (fVar 0)) (fCons (fProp A.cTerm (G_Term_is_ground K A) (fVar 0)) fNil))))) fNil)) (fCB RReprA (fCons (fNew (fLst (fCons (fVar 9) (fCons (fVar 10) (fCons (fOp REq (fOp RAdd (fVarT 9) (fVarT 10)) (fTup fNil)) fNil))))) fNil)))) (sRet (fC (.bl false))) sNext)
      (sSeq (sFor (fRng1 (fCons (fCB RLen (fCons (fVarT 3) fNil)) fNil)) (gN 11) (sSeq (sAsg 12 (fNew (fLc (fRng1 (fCons (fOp RAdd (fVarT 11) (fC (.int 1))) fNil)) (gN 13) (fTst (fOp RLt (fVarT 11) (fOp RAdd (fVarT 13) (fCB RLen (fCons (fCall (G_parts K A 8) 1 (fCons (fOp RIx (fVarT 2) (fVarT 13)) fNil)) fNil))))) (fVar 13) [13])))
      (sSeq (sAsg 7 (fNew (fLst (fCons (fIxO A.cTerm (G_Term_getitem K A) (fVar 0) (fVar 11)) (fCons (fMeth A.cTerm "children" (G_Term_children K A) 2 (fVar 0) (fCons (fVar 11) fNil)) (fCons (fProp A.cTerm (G_Term_text K A) (fMeth A.cTerm "part" (G_Term_part K A) 2 (fVar 0) (fCons (fVar 11) fNil))) (fCons (fMeth A.cTerm "above" (G_Term_above K A) 2 (fVar 0) (fCons (fVar 11) fNil)) fNil)))))))
      (sSeq (sIf (fTst (fOp RNe (fCB RReprA (fCons (fVarT 7) fNil)) (fCB RReprA (fCons (fNew (fLst (fCons (fOp RIx (fVarT 3) (fVarT 11)) (fCons (fCall (G_below K A) 2 (fCons (fVar 1) (fCons (fVar 11) fNil))) (fCons (fCall (G_text K A 8) 1 (fCons (fOp RIx (fVarT 2) (fVarT 11)) fNil)) (fCons (fCB RTuple (fCons (fVarT 12) fNil)) fNil)))))) fNil)))) (sRet (fC (.bl false))) sNext)
      (sIf (fTst (fOp (RInO A.cTerm (G_Term_contains K A) true) (fOp RIx (fVarT 3) (fVarT 11)) (fVarT 0))) (sRet (fC (.bl false))) sNext)))))
      (sSeq (sAsg 14 (fNew (fLst (fCons (fC .non) (fCons (fC (.int 0)) (fCons (fC (.str "a")) (fCons (fTup (fCons (fC (.str "a")) fNil)) (fCons (fTup (fCons (fC (.str "zz")) (fCons (fC (.int 0)) fNil))) (fCons (fNew (fLst (fCons (fC (.str "a")) (fCons (fC (.int 0)) fNil)))) (fCons (fTup (fCons (fC (.str "a")) (fCons (fC (.int 3)) fNil))) (fCons (fTup fNil) (fCons (fTup (fCons (fC (.str "a")) (fCons (fC (.bl false)) fNil))) (fCons (fVar 0) (fCons (fCB RTuple (fCons (fVarT 3) fNil)) fNil))))))))))))))
      (sRet (fOp REq (fNew (fLc (fIt (fVarT 14)) (gN 15) (fAnd (fTst (fOp (RInO A.cTerm (G_Term_contains K A) false) (fVarT 15) (fVarT 0))) (fTst (fOp (RIn true) (fVarT 15) (fVarT 3)))) (fVar 15) [15])) (fNew (fLst fNil)))))))))))))
def G_told_right (K : PySem.W.Frag) (A : Adr) : Fn := fnS 16 (S_told_right K A)
theorem ok_told_right {f : Addr} {fd : FuncData} (F : Fun K "_law_told_right" "_law_told_right" s_told_right f fd) (T : Txt K mg) (C_nodes' : CalF P w K mg base "_law_nodes" 8 1 (G_nodes' K A 8))
    (C_parts : CalF P w K mg base "_law_parts" 8 1 (G_parts K A 8))
    (C_deep : CalF P w K mg base "_law_deep" 8 1 (G_deep K A 8))
    (C_text : CalF P w K mg base "_law_text" 8 1 (G_text K A 8))
    (C_leaves : CalF P w K mg base "_law_leaves" 9 2 (G_leaves K A))
    (C_below : CalF P w K mg base "_law_below" 9 2 (G_below K A))
    (P_Term_depth : CalP P w K mg base A.cTerm "depth" 1 (G_Term_depth K A))
    (P_Term_text : CalP P w K mg base A.cTerm "text" 42 (G_Term_text K A))
    (P_Term_nodes : CalP P w K mg base A.cTerm "nodes" 1 (G_Term_nodes K A))
    (P_Term_is_ground : CalP P w K mg base A.cTerm "is_ground" 1 (G_Term_is_ground K A))
    (P_Term_lost : CalP P w K mg base A.cTerm "lost" 1 (G_Term_lost K A))
    (P_Term_unknown : CalP P w K mg base A.cTerm "unknown" 1 (G_Term_unknown K A))
    (O_Term_above : CalO P w K mg base A.cTerm "above" 4 2 (G_Term_above K A))
    (O_Term_part : CalO P w K mg base A.cTerm "part" 9 2 (G_Term_part K A))
    (O_Term_children : CalO P w K mg base A.cTerm "children" 4 2 (G_Term_children K A))
    (PD_Term_symbols : CalPD P w K mg base A.cTerm "symbols" 1 (G_Term_symbols K A))
    (S_Term_len : CalS P w K mg base A.cTerm "__len__" 1 1 (G_Term_len K A))
    (S_Term_str : CalS P w K mg base A.cTerm "__str__" 42 1 (G_Term_str K A))
    (S_Term_getitem : CalS P w K mg base A.cTerm "__getitem__" 4 2 (G_Term_getitem K A))
    (S_Term_contains : CalS P w K mg base A.cTerm "__contains__" 4 2 (G_Term_contains K A)) : FnG P w K mg base (L2.CX P w) 45 f fd ps_told_right (spD K 2 (G_told_right K A)) := by
  have nd := sc_told_right.nd
  exact fn_dG (k := 44) F sc_told_right rfl (fun cdv Ar outer s H E W0 hr gd => (d_seq (d_tgt (vs := [2, 3]) (d_tup (d_cons (d_call C_parts (hr.mono (by first | decide | omega)) rfl (passes_call (takes_of rfl rfl rfl rfl) fun _ _ _ _ h => h) (d_cons (d_var (pv 1)) d_nil)) (d_cons (d_call C_nodes' (hr.mono (by first | decide | omega)) rfl (passes_call (takes_of rfl rfl rfl rfl) fun _ _ _ _ h => h) (d_cons (d_var (pv 1)) d_nil)) d_nil))) (kpg_tup (K := K) (n := 2) rfl (pgs_cons (pg_name (i := 2) nd rfl (Or.inr rfl)) (pgs_cons (pg_name (i := 3) nd rfl (Or.inr rfl)) pgs_nil))) (g_pair (by decide) (by decide)))
      (d_seq (d_newD (d_ctD (c_dictP (K := K) rfl) s_dictP (by rfl) T.z_dict (by decide +kernel) (d_consT (d_nt (d_lc (own := [("_law_word", 5), ("_law_many", 6)]) (by rfl) nd (d_itC (K := K) (d_varT (pv 3))) (blkOk_by (own := [("_law_word", 5), ("_law_many", 6)]) (N := nm_told_right) (sc := defScope s_told_right) (by decide +kernel)) (g_pair (by decide) (by decide)) (fun _ _ _ _ _ => (kpg_tup (K := K) (n := 2) rfl (pgs_cons (pg_name (i := 5) nd rfl (Or.inl rfl)) (pgs_cons (pg_name (i := 6) nd rfl (Or.inl rfl)) pgs_nil)))) (fun _ _ _ _ _ => (d_pts1 (d_tcmp (op_notInA (K := K) (hr65 hr)) s_notIn (d_varT (pv 5)) (d_nt (d_lst (d_cons (d_str pe_str) (d_cons (d_str pe_str) d_nil)))) rfl))) (fun _ _ _ _ _ => (d_tup (d_cons (d_var (pv 5)) (d_cons (d_var (pv 6)) d_nil)))))) d_nilT)) (pg_name (i := 4) nd rfl (Or.inl rfl)))
      (d_seq (d_asg (d_n (d_lst (d_cons (d_prop P_Term_nodes (hr.mono (by first | decide | omega)) (d_var (pv 0)) rfl) (d_cons (d_prop P_Term_text (hr.mono (by first | decide | omega)) (d_var (pv 0)) rfl) (d_cons (d_ct (c_strO (K := K) S_Term_str (hr.mono (by first | decide | omega))) s_strO (by rfl) T.z_str (by decide +kernel) (d_consT (d_varT (pv 0)) d_nilT)) (d_cons (d_cb (c_lenO (K := K) S_Term_len (hr.mono (by first | decide | omega))) s_lenO (by rfl) T.z_len (by decide +kernel) (d_consT (d_varT (pv 0)) d_nilT)) (d_cons (d_prop P_Term_depth (hr.mono (by first | decide | omega)) (d_var (pv 0)) rfl) (d_cons (d_items (by rfl) (d_ddx (d_propD PD_Term_symbols (hr.mono (by first | decide | omega)) (d_var (pv 0)) rfl)) rfl T.z_list (by decide +kernel)) d_nil)))))))) (pg_name (i := 7) nd rfl (Or.inl rfl)))
      (d_seq (d_asg (d_n (d_lst (d_cons (d_ct (kcall_tuple (K := K)) s_tuple (by rfl) T.z_tuple (by decide +kernel) (d_consT (d_varT (pv 3)) d_nilT)) (d_cons (d_call C_text (hr.mono (by first | decide | omega)) rfl (passes_call (takes_of rfl rfl rfl rfl) fun _ _ _ _ h => h) (d_cons (d_var (pv 1)) d_nil)) (d_cons (d_call C_text (hr.mono (by first | decide | omega)) rfl (passes_call (takes_of rfl rfl rfl rfl) fun _ _ _ _ h => h) (d_cons (d_var (pv 1)) d_nil)) (d_cons (d_cb (c_len (K := K)) s_len (by rfl) T.z_len (by decide +kernel) (d_consT (d_varT (pv 3)) d_nilT)) (d_cons (d_call C_deep (hr.mono (by first | decide | omega)) rfl (passes_call (takes_of rfl rfl rfl rfl) fun _ _ _ _ h => h) (d_cons (d_var (pv 1)) d_nil)) (d_cons (d_n (d_cbN (c_sortDt (K := K) (Nat.lt_of_succ_lt (hr65 hr))) s_sortDt (by rfl) T.z_sorted (by decide +kernel) (d_consT (d_t (d_items (by rfl) (d_varX (pv 4)) rfl T.z_list (by decide +kernel))) d_nilT))) d_nil)))))))) (pg_name (i := 8) nd rfl (Or.inl rfl)))
      (d_seq (d_ifs (d_tcmp (op_neA (K := K) hr.units) s_ne (d_t (d_cb (c_reprA (K := K) gd (Nat.lt_of_succ_lt (hr65 hr))) s_reprA (by rfl) T.z_repr (by decide +kernel) (d_consT (d_varT (pv 7)) d_nilT))) (d_t (d_cb (c_reprA (K := K) gd (Nat.lt_of_succ_lt (hr65 hr))) s_reprA (by rfl) T.z_repr (by decide +kernel) (d_consT (d_varT (pv 8)) d_nilT))) (nomark _)) (d_sone (d_ret (d_bl pe_bl))) d_snil)
      (d_seq (d_par (ps_par (i := 9) (j := 10) (by rfl) nd rfl rfl (by decide) rfl rfl (d_cons (d_ct (kcall_tuple (K := K)) s_tuple (by rfl) T.z_tuple (by decide +kernel) (d_consT (d_t (d_call C_leaves (hr.mono (by first | decide | omega)) rfl (passes_call (takes_of rfl rfl rfl rfl) fun _ _ _ _ h => h) (d_cons (d_var (pv 1)) (d_cons (d_str pe_str) d_nil)))) d_nilT)) (d_cons (d_ct (kcall_tuple (K := K)) s_tuple (by rfl) T.z_tuple (by decide +kernel) (d_consT (d_t (d_call C_leaves (hr.mono (by first | decide | omega)) rfl (passes_call (takes_of rfl rfl rfl rfl) fun _ _ _ _ h => h) (d_cons (d_var (pv 1)) (d_cons (d_str pe_str) d_nil)))) d_nilT)) d_nil)) (by rfl)))
      (d_seq (d_ifs (d_tcmp (op_neA (K := K) hr.units) s_ne (d_t (d_cb (c_reprA (K := K) gd (Nat.lt_of_succ_lt (hr65 hr))) s_reprA (by rfl) T.z_repr (by decide +kernel) (d_consT (d_nt (d_lst (d_cons (d_prop P_Term_unknown (hr.mono (by first | decide | omega)) (d_var (pv 0)) rfl) (d_cons (d_prop P_Term_lost (hr.mono (by first | decide | omega)) (d_var (pv 0)) rfl) (d_cons (d_prop P_Term_is_ground (hr.mono (by first | decide | omega)) (d_var (pv 0)) rfl) d_nil))))) d_nilT))) (d_t (d_cb (c_reprA (K := K) gd (Nat.lt_of_succ_lt (hr65 hr))) s_reprA (by rfl) T.z_repr (by decide +kernel) (d_consT (d_nt (d_lst (d_cons (d_var (pv 9)) (d_cons (d_var (pv 10)) (d_cons (d_cmp (op_eqA (K := K) hr.units) s_eq (d_t (d_op (op_addA (K := K)) s_add (d_varT (pv 9)) (d_varT (pv 10)))) (d_t (d_tup d_nil)) (nomark _)) d_nil))))) d_nilT))) (nomark _)) (d_sone (d_ret (d_bl pe_bl))) d_snil)
      (d_seq (d_for (vs := [11]) (passes_of rfl) rfl (d_rng1 rfl T.z_range (d_cons (d_cb (c_len (K := K)) s_len (by rfl) T.z_len (by decide +kernel) (d_consT (d_varT (pv 3)) d_nilT)) d_nil)) (pg_name (i := 11) nd rfl (Or.inr rfl)) (g_name (by decide)) (d_seq (d_setLcV (g_name (by decide)) (ps_setLc (i := 12) (own := [("_law_up", 13)]) (by rfl) nd rfl rfl (sw_true rfl rfl rfl (by decide +kernel)) (d_fc (d_rng1 rfl T.z_range (d_cons (d_op (op_addA (K := K)) s_add (d_varT (pv 11)) (d_t (d_int pe_int))) d_nil))) (blkOk_by (own := [("_law_up", 13)]) (N := nm_told_right) (sc := defScope s_told_right) (by decide +kernel)) (fun _ _ _ _ _ => (pg_name (i := 13) nd rfl (Or.inl rfl))) (fun _ _ _ _ _ => (d_pts1 (d_tcmp op_lt s_lt (d_varT (pv 11)) (d_t (d_op (op_addA (K := K)) s_add (d_varT (pv 13)) (d_t (d_cb (c_len (K := K)) s_len (by rfl) T.z_len (by decide +kernel) (d_consT (d_t (d_call C_parts (hr.mono (by first | decide | omega)) rfl passL (d_cons (d_ix (ix_A (K := K)) s_ix (d_varT (pv 2)) (d_varT (pv 13)) (fun _ _ => rfl)) d_nil))) d_nilT))))) (nomark _)))) (fun _ _ _ _ _ => (d_var (pv 13)))))
      (d_seq (d_asg (d_n (d_lst (d_cons (d_ixO S_Term_getitem (hr.mono (by first | decide | omega)) (passes_call (takes_of rfl rfl rfl rfl) fun _ _ _ _ h => h) (d_var (pv 0)) (d_var (pv 11))) (d_cons (d_meth O_Term_children (hr.mono (by first | decide | omega)) (passes_call (takes_of rfl rfl rfl rfl) fun _ _ _ _ h => h) (d_var (pv 0)) (d_cons (d_var (pv 11)) d_nil)) (d_cons (d_prop P_Term_text (hr.mono (by first | decide | omega)) (d_meth O_Term_part (hr.mono (by first | decide | omega)) (passes_call (takes_of rfl rfl rfl rfl) fun _ _ _ _ h => h) (d_var (pv 0)) (d_cons (d_var (pv 11)) d_nil)) rfl) (d_cons (d_meth O_Term_above (hr.mono (by first | decide | omega)) (passes_call (takes_of rfl rfl rfl rfl) fun _ _ _ _ h => h) (d_var (pv 0)) (d_cons (d_var (pv 11)) d_nil)) d_nil)))))) (pg_name (i := 7) nd rfl (Or.inl rfl)))
      (d_seq (d_ifs (d_tcmp (op_neA (K := K) hr.units) s_ne (d_t (d_cb (c_reprA (K := K) gd (Nat.lt_of_succ_lt (hr65 hr))) s_reprA (by rfl) T.z_repr (by decide +kernel) (d_consT (d_varT (pv 7)) d_nilT))) (d_t (d_cb (c_reprA (K := K) gd (Nat.lt_of_succ_lt (hr65 hr))) s_reprA (by rfl) T.z_repr (by decide +kernel) (d_consT (d_nt (d_lst (d_cons (d_ix (ix_A (K := K)) s_ix (d_varT (pv 3)) (d_varT (pv 11)) (fun _ _ => rfl)) (d_cons (d_call C_below (hr.mono (by first | decide | omega)) rfl (passes_call (takes_of rfl rfl rfl rfl) fun _ _ _ _ h => h) (d_cons (d_var (pv 1)) (d_cons (d_var (pv 11)) d_nil))) (d_cons (d_call C_text (hr.mono (by first | decide | omega)) rfl (passes_call (takes_of rfl rfl rfl rfl) fun _ _ _ _ h => h) (d_cons (d_ix (ix_A (K := K)) s_ix (d_varT (pv 2)) (d_varT (pv 11)) (fun _ _ => rfl)) d_nil)) (d_cons (d_ct (kcall_tuple (K := K)) s_tuple (by rfl) T.z_tuple (by decide +kernel) (d_consT (d_varT (pv 12)) d_nilT)) d_nil)))))) d_nilT))) (nomark _)) (d_sone (d_ret (d_bl pe_bl))) d_snil)
      (d_sone (d_ifs (d_tcmp (op_notInM (K := K) S_Term_contains (hr.mono (by first | decide | omega))) s_inO (d_t (d_ix (ix_A (K := K)) s_ix (d_varT (pv 3)) (d_varT (pv 11)) (fun _ _ => rfl))) (d_varT (pv 0)) rfl) (d_sone (d_ret (d_bl pe_bl))) d_snil))))))
      (d_seq (d_asg (d_n (d_lst (d_cons (d_non pe_non) (d_cons (d_int pe_int) (d_cons (d_str pe_str) (d_cons (d_tup (d_cons (d_str pe_str) d_nil)) (d_cons (d_tup (d_cons (d_str pe_str) (d_cons (d_int pe_int) d_nil))) (d_cons (d_n (d_lst (d_cons (d_str pe_str) (d_cons (d_int pe_int) d_nil)))) (d_cons (d_tup (d_cons (d_str pe_str) (d_cons (d_int pe_int) d_nil))) (d_cons (d_tup d_nil) (d_cons (d_tup (d_cons (d_str pe_str) (d_cons (d_bl pe_bl) d_nil))) (d_cons (d_var (pv 0)) (d_cons (d_ct (kcall_tuple (K := K)) s_tuple (by rfl) T.z_tuple (by decide +kernel) (d_consT (d_varT (pv 3)) d_nilT)) d_nil))))))))))))) (pg_name (i := 14) nd rfl (Or.inl rfl)))
      (d_sone (d_ret (d_cmp (op_eqA (K := K) hr.units) s_eq (d_nt (d_lc (own := [("_law_one", 15)]) (by rfl) nd (d_itC (K := K) (d_varT (pv 14))) (blkOk_by (own := [("_law_one", 15)]) (N := nm_told_right) (sc := defScope s_told_right) (by decide +kernel)) (g_name (by decide)) (fun _ _ _ _ _ => (pg_name (i := 15) nd rfl (Or.inl rfl))) (fun _ _ _ _ _ => (d_pts1 (PW.pt (d_and (d_tcmp (op_inM (K := K) S_Term_contains (hr.mono (by first | decide | omega))) s_inO (d_varT (pv 15)) (d_varT (pv 0)) rfl) (d_and1 (d_tcmp (op_notInA (K := K) (hr65 hr)) s_notIn (d_varT (pv 15)) (d_varT (pv 3)) rfl)))))) (fun _ _ _ _ _ => (d_var (pv 15))))) (d_nt (d_lst d_nil)) (nomark _)))))))))))))) fun _ _ _ _ h => h
abbrev s_right : Stmt := top 55
abbrev nm_right : List Str := ["_law_dice_here", "_law_term_here", "_law_other", "_law_made"]
abbrev ps_right : List Str := ["_law_dice_here"]
theorem sc_right : FnScope nm_right ps_right (defScope s_right) := ⟨rfl, rfl, rfl, by decide +kernel, rfl, by decide +kernel, by decide +kernel⟩
def S_right (K : PySem.W.Frag) (A : Adr) : FS :=
  (sSeq (sPar 1 2 (fCons (fCall (G_drawn_term K A) 2 (fCons (fVar 0) (fCons (fC (.int 4)) fNil))) (fCons (fCall (G_drawn_term K A) 2 (fCons (fVar 0) (fCons (fC (.int 2)) fNil))) fNil)))
      (sSeq (sAsg 3 (fCall (G_made_term K A) 1 (fCons (fVar 1) fNil)))
      (sSeq (sIf (fOr (fNot (fTst (fCall (G_told_right K A) 2 (fCons (fVar 3) (fCons (fVar 1) fNil))))) (fTst (fOp (RMetO A.cTerm (G_Term_eq K A) true) (fVarT 3) (fCall (G_Term_init K A) 1 (fCons (fCB RTuple (fCons (fCall (G_nodes' K A 8) 1 (fCons (fVar 1) fNil)) fNil)) fNil))))) (sRet (fC (.bl false))) sNext)
      (sSeq (sClear (fPropD A.cTerm (G_Term_symbols K A) (fVar 3)))
      (sSeq (sIf (fOr (fTst (fOp (RMetO A.cTerm (G_Term_eq K A) false) (fVarT 3) (fCall (G_text K A 8) 1 (fCons (fVar 1) fNil)))) (fOr (fTst (fOp (RMetT A.cTerm (G_Term_eq K A)) (fVarT 3) (fProp A.cTerm (G_Term_nodes K A) (fVar 3)))) (fAnd (fTst (fEq0 (fPropD A.cTerm (G_Term_symbols K A) (fVar 3)))) (fTst (fOp (RIn true) (fCall (G_text K A 8) 1 (fCons (fVar 1) fNil)) (fNew (fLst (fCons (fC (.str "_")) (fCons (fC (.str "#")) fNil))))))))) (sRet (fC (.bl false))) sNext)
      (sRet (fOp REq (fOp (RMetO A.cTerm (G_Term_eq K A) false) (fVarT 3) (fCall (G_made_term K A) 1 (fCons (fVar 2) fNil))) (fOp REq (fCall (G_text K A 8) 1 (fCons (fVar 1) fNil)) (fCall (G_text K A 8) 1 (fCons (fVar 2) fNil))))))))))
def G_right (K : PySem.W.Frag) (A : Adr) : Fn := fnS 4 (S_right K A)
theorem ok_right {f : Addr} {fd : FuncData} (F : Fun K "_law_right" "_law_right" s_right f fd) (T : Txt K mg) (C_drawn_term : CalF P w K mg base "_law_drawn_term" 10 2 (G_drawn_term K A))
    (C_made_term : CalF P w K mg base "_law_made_term" 9 1 (G_made_term K A))
    (C_nodes' : CalF P w K mg base "_law_nodes" 8 1 (G_nodes' K A 8))
    (C_text : CalF P w K mg base "_law_text" 8 1 (G_text K A 8))
    (M_Term : CalI P w K mg base "Term" A.cTerm 5 1 (G_Term_init K A))
    (P_Term_nodes : CalP P w K mg base A.cTerm "nodes" 1 (G_Term_nodes K A))
    (Q_Term : CalE P w K mg base A.cTerm 1 (G_Term_eq K A))
    (C_told_right : CalG P w K mg base "_law_told_right" 45 2 (G_told_right K A))
    (PD_Term_symbols : CalPD P w K mg base A.cTerm "symbols" 1 (G_Term_symbols K A)) : FnG P w K mg base (L2.CX P w) 46 f fd ps_right (spD K 1 (G_right K A)) := by
  have nd := sc_right.nd
  exact fn_dG (k := 45) F sc_right rfl (fun cdv Ar outer s H E W0 hr gd => (d_seq (d_par (ps_par (i := 1) (j := 2) (by rfl) nd rfl rfl (by decide) rfl rfl (d_cons (d_call C_drawn_term (hr.mono (by first | decide | omega)) rfl (passes_call (takes_of rfl rfl rfl rfl) fun _ _ _ _ h => h) (d_cons (d_var (pv 0)) (d_cons (d_int pe_int) d_nil))) (d_cons (d_call C_drawn_term (hr.mono (by first | decide | omega)) rfl (passes_call (takes_of rfl rfl rfl rfl) fun _ _ _ _ h => h) (d_cons (d_var (pv 0)) (d_cons (d_int pe_int) d_nil))) d_nil)) (by rfl)))
      (d_seq (d_asg (d_call C_made_term (hr.mono (by first | decide | omega)) rfl (passes_call (takes_of rfl rfl rfl rfl) fun _ _ _ _ h => h) (d_cons (d_var (pv 1)) d_nil)) (pg_name (i := 3) nd rfl (Or.inl rfl)))
      (d_seq (d_ifs (PW.pt (d_or (d_not (d_test (d_callG C_told_right (hr.mono (by first | decide | omega)) gd rfl (passes_call (takes_of rfl rfl rfl rfl) fun _ _ _ _ h => h) (d_cons (d_var (pv 3)) (d_cons (d_var (pv 1)) d_nil))))) (d_or1 (d_tcmp (op_neM (K := K) Q_Term (hr.mono (by first | decide | omega))) s_met (d_varT (pv 3)) (d_t (d_make M_Term (hr.mono (by first | decide | omega)) rfl (passes_call (takes_of rfl rfl rfl rfl) fun _ _ _ _ h => h) (d_cons (d_ct (kcall_tuple (K := K)) s_tuple (by rfl) T.z_tuple (by decide +kernel) (d_consT (d_t (d_call C_nodes' (hr.mono (by first | decide | omega)) rfl (passes_call (takes_of rfl rfl rfl rfl) fun _ _ _ _ h => h) (d_cons (d_var (pv 1)) d_nil))) d_nilT)) d_nil))) (nomark _))))) (d_sone (d_ret (d_bl pe_bl))) d_snil)
      (d_seq (d_clear (d_propD PD_Term_symbols (hr.mono (by first | decide | omega)) (d_var (pv 3)) rfl))
      (d_seq (d_ifs (PW.pt (d_or (d_tcmp (op_eqM (K := K) Q_Term (hr.mono (by first | decide | omega))) s_met (d_varT (pv 3)) (d_t (d_call C_text (hr.mono (by first | decide | omega)) rfl (passes_call (takes_of rfl rfl rfl rfl) fun _ _ _ _ h => h) (d_cons (d_var (pv 1)) d_nil))) (nomark _)) (d_or (d_tcmp (op_eqT (K := K) Q_Term (hr.mono (by first | decide | omega))) s_metT (d_varT (pv 3)) (d_t (d_prop P_Term_nodes (hr.mono (by first | decide | omega)) (d_var (pv 3)) rfl)) (nomark _)) (d_or1 (PW.pt (d_and (d_teq0 (Nat.lt_of_succ_lt (hr1 hr)) (d_ddx (d_propD PD_Term_symbols (hr.mono (by first | decide | omega)) (d_var (pv 3)) rfl)) pe_dnewK (nomark _)) (d_and1 (d_tcmp (op_notInA (K := K) (hr65 hr)) s_notIn (d_t (d_call C_text (hr.mono (by first | decide | omega)) rfl (passes_call (takes_of rfl rfl rfl rfl) fun _ _ _ _ h => h) (d_cons (d_var (pv 1)) d_nil))) (d_nt (d_lst (d_cons (d_str pe_str) (d_cons (d_str pe_str) d_nil)))) rfl)))))))) (d_sone (d_ret (d_bl pe_bl))) d_snil)
      (d_sone (d_ret (d_cmp (op_eqA (K := K) hr.units) s_eq (d_t (d_cmp (op_eqM (K := K) Q_Term (hr.mono (by first | decide | omega))) s_met (d_varT (pv 3)) (d_t (d_call C_made_term (hr.mono (by first | decide | omega)) rfl (passes_call (takes_of rfl rfl rfl rfl) fun _ _ _ _ h => h) (d_cons (d_var (pv 2)) d_nil))) (nomark _))) (d_t (d_cmp (op_eqA (K := K) hr.units) s_eq (d_t (d_call C_text (hr.mono (by first | decide | omega)) rfl (passes_call (takes_of rfl rfl rfl rfl) fun _ _ _ _ h => h) (d_cons (d_var (pv 1)) d_nil))) (d_t (d_call C_text (hr.mono (by first | decide | omega)) rfl (passes_call (takes_of rfl rfl rfl rfl) fun _ _ _ _ h => h) (d_cons (d_var (pv 2)) d_nil))) (nomark _))) (nomark _)))))))))) fun _ _ _ _ h => h
abbrev s_law : Stmt := top 56
abbrev nm_law : List Str := ["_law_script", "_law_spot", "_law_dice_here", "_law_turn", "_law_one", "_law_told"]
abbrev ps_law : List Str := ["_law_script"]
theorem sc_law : FnScope nm_law ps_law (defScope s_law) := ⟨rfl, rfl, rfl, by decide +kernel, rfl, by decide +kernel, by decide +kernel⟩
def S_law (K : PySem.W.Frag) (A : Adr) : FS :=
  (sSeq (sFor (fRng1 (fCons (fCB RMax2 (fCons (fC (.int 1)) (fCons (fCB RMin2 (fCons (fC (.int 8)) (fCons (fCB RLen (fCons (fVarT 0) fNil)) fNil))) fNil))) fNil)) (gN 1) (sSeq (sAsg 2 (fCall (G_dice K A) 2 (fCons (fVar 0) (fCons (fVar 1) fNil))))
      (sFor (fRng1 (fCons (fC (.int 4)) fNil)) (gN 3) (sIf (fNot (fTst (fCall (G_right K A) 1 (fCons (fVar 2) fNil)))) (sRet (fC (.bl false))) sNext))))
      (sSeq (sAsg 4 (fCmethV A.cTerm (G_Term_build K A) 2 (fCons (fC (.str "f")) (fCons (fCmethV A.cTerm (G_Term_build K A) 2 (fCons (fC (.str "a")) fNil)) (fCons (fCmethV A.cTerm (G_Term_build K A) 2 (fCons (fC (.str "_")) fNil)) (fCons (fCmethV A.cTerm (G_Term_build K A) 2 (fCons (fC (.str "g")) (fCons (fCmethV A.cTerm (G_Term_build K A) 2 (fCons (fC (.str "_")) fNil)) fNil))) fNil))))))
      (sSeq (sAsg 5 (fNew (fLst (fCons (fProp A.cTerm (G_Term_text K A) (fVar 4)) (fCons (fMeth A.cTerm "children" (G_Term_children K A) 2 (fVar 4) (fCons (fC (.int 0)) fNil)) (fCons (fProp A.cTerm (G_Term_unknown K A) (fVar 4)) (fCons (fProp A.cTerm (G_Term_text K A) (fMeth A.cTerm "part" (G_Term_part K A) 2 (fVar 4) (fCons (fC (.int 3)) fNil))) (fCons (fMeth A.cTerm "above" (G_Term_above K A) 2 (fVar 4) (fCons (fC (.int 4)) fNil)) (fCons (fProp A.cTerm (G_Term_depth K A) (fVar 4)) (fCons (fC (.int 40)) fNil))))))))))
      (sRet (fOp REq (fVarT 5) (fNew (fLst (fCons (fC (.str "f(a, _, g(_))")) (fCons (fTup (fCons (fC (.int 1)) (fCons (fC (.int 2)) (fCons (fC (.int 3)) fNil)))) (fCons (fTup (fCons (fC (.int 2)) (fCons (fC (.int 4)) fNil))) (fCons (fC (.str "g(_)")) (fCons (fTup (fCons (fC (.int 0)) (fCons (fC (.int 3)) (fCons (fC (.int 4)) fNil)))) (fCons (fC (.int 3)) (fCons (fC (.int 40)) fNil))))))))))))))
def G_law (K : PySem.W.Frag) (A : Adr) : Fn := fnS 6 (S_law K A)
theorem ok_law {f : Addr} {fd : FuncData} (F : Fun K "law" "law" s_law f fd) (T : Txt K mg) {t_MAX_NODES : Tok} (g_MAX_NODES : mg "MAX_NODES" = some (.int (40) t_MAX_NODES))
    (C_dice : CalF P w K mg base "_law_dice" 1 2 (G_dice K A))
    (P_Term_depth : CalP P w K mg base A.cTerm "depth" 1 (G_Term_depth K A))
    (P_Term_text : CalP P w K mg base A.cTerm "text" 42 (G_Term_text K A))
    (P_Term_unknown : CalP P w K mg base A.cTerm "unknown" 1 (G_Term_unknown K A))
    (O_Term_above : CalO P w K mg base A.cTerm "above" 4 2 (G_Term_above K A))
    (O_Term_part : CalO P w K mg base A.cTerm "part" 9 2 (G_Term_part K A))
    (O_Term_children : CalO P w K mg base A.cTerm "children" 4 2 (G_Term_children K A))
    (C_right : CalG P w K mg base "_law_right" 46 1 (G_right K A))
    (K_Term_build : CalCv P w K mg base A.cTerm "build" 7 2 (G_Term_build K A))
    (g_Term : mg "Term" = some (.ref A.cTerm)) : FnG P w K mg base (L2.CX P w) 47 f fd ps_law (spD K 1 (G_law K A)) := by
  have nd := sc_law.nd
  exact fn_dG (k := 46) F sc_law rfl (fun cdv Ar outer s H E W0 hr gd => (d_seq (d_for (vs := [1]) (passes_of rfl) rfl (d_rng1 rfl T.z_range (d_cons (d_cb (call_max2 rfl) s_max2 (by rfl) T.z_max (by decide +kernel) (d_consT (d_t (d_int pe_int)) (d_consT (d_t (d_cb (call_min2 rfl) s_min2 (by rfl) T.z_min (by decide +kernel) (d_consT (d_t (d_int pe_int)) (d_consT (d_t (d_cb (c_len (K := K)) s_len (by rfl) T.z_len (by decide +kernel) (d_consT (d_varT (pv 0)) d_nilT))) d_nilT)))) d_nilT))) d_nil)) (pg_name (i := 1) nd rfl (Or.inl rfl)) (g_name (by decide)) (d_seq (d_asg (d_call C_dice (hr.mono (by first | decide | omega)) rfl (passes_call (takes_of rfl rfl rfl rfl) fun _ _ _ _ h => h) (d_cons (d_var (pv 0)) (d_cons (d_var (pv 1)) d_nil))) (pg_name (i := 2) nd rfl (Or.inl rfl)))
      (d_sone (d_for (vs := [3]) (passes_of rfl) rfl (d_rng1 rfl T.z_range (d_cons (d_int pe_int) d_nil)) (pg_name (i := 3) nd rfl (Or.inl rfl)) (g_name (by decide)) (d_sone (d_ifs (d_not (d_test (d_callG C_right (hr.mono (by first | decide | omega)) gd rfl (passes_call (takes_of rfl rfl rfl rfl) fun _ _ _ _ h => h) (d_cons (d_var (pv 2)) d_nil)))) (d_sone (d_ret (d_bl pe_bl))) d_snil))))))
      (d_seq (d_asg (d_cmethV K_Term_build (hr.mono (by first | decide | omega)) (passes_call (takes_of rfl rfl rfl rfl) fun _ _ _ _ h => h) (pe_gref rfl g_Term) (d_cons (d_str pe_str) (d_cons (d_cmethV K_Term_build (hr.mono (by first | decide | omega)) (passes_call (takes_of rfl rfl rfl rfl) fun _ _ _ _ h => h) (pe_gref rfl g_Term) (d_cons (d_str pe_str) d_nil)) (d_cons (d_cmethV K_Term_build (hr.mono (by first | decide | omega)) (passes_call (takes_of rfl rfl rfl rfl) fun _ _ _ _ h => h) (pe_gref rfl g_Term) (d_cons (d_str pe_str) d_nil)) (d_cons (d_cmethV K_Term_build (hr.mono (by first | decide | omega)) (passes_call (takes_of rfl rfl rfl rfl) fun _ _ _ _ h => h) (pe_gref rfl g_Term) (d_cons (d_str pe_str) (d_cons (d_cmethV K_Term_build (hr.mono (by first | decide | omega)) (passes_call (takes_of rfl rfl rfl rfl) fun _ _ _ _ h => h) (pe_gref rfl g_Term) (d_cons (d_str pe_str) d_nil)) d_nil))) d_nil))))) (pg_name (i := 4) nd rfl (Or.inl rfl)))
      (d_seq (d_asg (d_n (d_lst (d_cons (d_prop P_Term_text (hr.mono (by first | decide | omega)) (d_var (pv 4)) rfl) (d_cons (d_meth O_Term_children (hr.mono (by first | decide | omega)) (passes_call (takes_of rfl rfl rfl rfl) fun _ _ _ _ h => h) (d_var (pv 4)) (d_cons (d_int pe_int) d_nil)) (d_cons (d_prop P_Term_unknown (hr.mono (by first | decide | omega)) (d_var (pv 4)) rfl) (d_cons (d_prop P_Term_text (hr.mono (by first | decide | omega)) (d_meth O_Term_part (hr.mono (by first | decide | omega)) (passes_call (takes_of rfl rfl rfl rfl) fun _ _ _ _ h => h) (d_var (pv 4)) (d_cons (d_int pe_int) d_nil)) rfl) (d_cons (d_meth O_Term_above (hr.mono (by first | decide | omega)) (passes_call (takes_of rfl rfl rfl rfl) fun _ _ _ _ h => h) (d_var (pv 4)) (d_cons (d_int pe_int) d_nil)) (d_cons (d_prop P_Term_depth (hr.mono (by first | decide | omega)) (d_var (pv 4)) rfl) (d_cons (d_int (pe_gint rfl g_MAX_NODES)) d_nil))))))))) (pg_name (i := 5) nd rfl (Or.inl rfl)))
      (d_sone (d_ret (d_cmp (op_eqA (K := K) hr.units) s_eq (d_varT (pv 5)) (d_nt (d_lst (d_cons (d_str pe_str) (d_cons (d_tup (d_cons (d_int pe_int) (d_cons (d_int pe_int) (d_cons (d_int pe_int) d_nil)))) (d_cons (d_tup (d_cons (d_int pe_int) (d_cons (d_int pe_int) d_nil))) (d_cons (d_str pe_str) (d_cons (d_tup (d_cons (d_int pe_int) (d_cons (d_int pe_int) (d_cons (d_int pe_int) d_nil)))) (d_cons (d_int pe_int) (d_cons (d_int pe_int) d_nil))))))))) (nomark _)))))))) fun _ _ _ _ h => h
end
end K5

set_option Elab.async false
set_option maxRecDepth 100000
set_option maxHeartbeats 1000000
set_option linter.all false
namespace K5
open PySem PySem.Spec PyProof.Rows L2 Ly Pu TM
theorem in_let (c : Nat) : (!(Builtin.Str.occurrences "abcdefghijklmnopqrstuvwxyz" ⟨#[c]⟩ 0 ("abcdefghijklmnopqrstuvwxyz" : Str).length 1).isEmpty) = isL c := StrLaws.found_one _ c
theorem atI_nat {α : Type} (xs : List α) (i : Nat) : atI xs (i : Int) = xs[i]? := by
  unfold atI ixN
  rw [if_pos (by omega)]
  by_cases h : i < xs.length
  · rw [if_pos (by omega)]
    rfl
  · rw [if_neg (by omega), List.getElem?_eq_none (by omega)]
    rfl
theorem ex_eq {α : Type} {a : α} {P : α → Prop} : (∃ b, a = b ∧ P b) ↔ P a := ⟨fun ⟨_, e, h⟩ => e ▸ h, fun h => ⟨a, rfl, h⟩⟩
theorem lenD_str {z : Str} (h : z.length ≤ sizeLine) : lenD (.str z) = some z.length := if_pos h
mutual
def trD : Tr → D
  | .nd w ts => .tup [.str w, .tup (trsD ts)]
def trsD : List Tr → List D
  | [] => []
  | t :: ts => trD t :: trsD ts
end
theorem trsD_app : ∀ (ts : List Tr) (t : Tr), trsD (ts ++ [t]) = trsD ts ++ [trD t]
  | [], t => rfl
  | u :: ts, t => by
    show trD u :: trsD (ts ++ [t]) = _
    rw [trsD_app ts t]
    rfl
theorem trsD_len : ∀ ts : List Tr, (trsD ts).length = ts.length
  | [] => rfl
  | t :: ts => by
    show (trsD ts).length + 1 = _
    rw [trsD_len ts]
    rfl
theorem at0 {x : D} {xs : List D} : atI (x :: xs) 0 = some x := (atI_nat _ 0).trans rfl
theorem at1 {x y : D} {xs : List D} : atI (x :: y :: xs) 1 = some y := (atI_nat _ 1).trans rfl
def ndDD (n : Nd) : D := .tup [.str n.1, .int (n.2 : Int)]
def ndsDD (nds : List Nd) : D := .tup (nds.map ndDD)
theorem lc_map {α : Type} {j : Nat} {F : FE} {ρ : Pu.Env} {h f : α → D} : ∀ (l : List α) {Q : List D → Prop}, (∀ a ∈ l, ∀ R : D → Prop, R (f a) → F (ρ.set j (.val (h a))) R F0) → Q (l.map f) → lcD (gN j) fYes F ρ (l.map h) Q
  | [], Q, _, q => q
  | a :: l, Q, hf, q => by
    show F (ρ.set j (.val (h a))) (fun y => lcD (gN j) fYes F ρ (l.map h) fun ys => Q (y :: ys)) F0
    exact hf a (List.mem_cons_self ..) _ (lc_map l (fun b hb => hf b (List.mem_cons_of_mem _ hb)) q)
theorem lc_fil {α : Type} {j : Nat} {T : FT} {F : FE} {ρ : Pu.Env} {h f : α → D} {p : α → Bool} : ∀ (l : List α) {Q : List D → Prop}, (∀ a ∈ l, ∀ R : Bool → Prop, R (p a) → T (ρ.set j (.val (h a))) R F0) → (∀ a ∈ l, p a = true → ∀ R : D → Prop, R (f a) → F (ρ.set j (.val (h a))) R F0) → Q ((l.filter p).map f) → lcD (gN j) T F ρ (l.map h) Q
  | [], Q, _, _, q => q
  | a :: l, Q, ht, hf, q => by
    show T (ρ.set j (.val (h a))) (fun b => if b = true then F (ρ.set j (.val (h a))) (fun y => lcD (gN j) T F ρ (l.map h) fun ys => Q (y :: ys)) F0 else lcD (gN j) T F ρ (l.map h) Q) F0
    refine ht a (List.mem_cons_self ..) _ ?_
    have ih := fun (R : List D → Prop) (r : R ((l.filter p).map f)) => lc_fil l (Q := R) (fun b hb => ht b (List.mem_cons_of_mem _ hb)) (fun b hb => hf b (List.mem_cons_of_mem _ hb)) r
    cases c : p a with
    | true =>
      rw [if_pos rfl]
      rw [List.filter_cons_of_pos c] at q
      exact hf a (List.mem_cons_self ..) c _ (ih _ q)
    | false =>
      rw [if_neg (by simp)]
      rw [List.filter_cons_of_neg (by rw [c]; simp)] at q
      exact ih _ q
theorem isI_small {i : Int} (h1 : -1000 < i) (h2 : i < 1000) : isI (.int i) = true := by
  unfold isI
  have a : (1000 : Int) ≤ 10 ^ 60 := by decide +kernel
  rw [Bool.and_eq_true]
  exact ⟨decide_eq_true (by omega), decide_eq_true (by omega)⟩
theorem wthn_small {i lo hi : Int} (h1 : -1000 < i) (h2 : i < 1000) : wthn (.int i) lo hi = (decide (lo ≤ i) && decide (i ≤ hi)) := by
  have := isI_small h1 h2
  unfold wthn
  rw [this]
  exact Bool.true_and _
theorem bls_map {α : Type} (p : α → Bool) : ∀ l : List α, blsD (l.map fun a => D.bl (p a)) = some (l.map p)
  | [] => rfl
  | a :: l => by
    show (blsD (l.map fun a => D.bl (p a))).map (p a :: ·) = _
    rw [bls_map p l]
    rfl
section
variable {K : PySem.W.Frag} {A : Adr}
theorem is_integer {i : Int} (h : -1000000 < i ∧ i < 1000000) {Q : D → Prop} {Z : ZX} (q : Q (.bl true)) : G_is_integer K A [.int i] Q Z := by
  unfold G_is_integer S_is_integer
  simp only [fnS, Pu.startB, sSeq, sAsg, sIf, sRet, sNext, sNew, sApp, sPar, sDem, demB, fVar, fVarT, fC, fOp, fTst, fAnd, fOr, fNot, fNew, fLst, fTup, fNil, fCons, fSl, oAt, oNo, fCB, fCall, fIf, fChain, fRng1, fIt, fJoin, RLen, RI0, RAdd, RIx, RSl, RIsN, RTuple, RIn, gN, bD, List.map_cons, List.map_nil, List.cons_append, List.nil_append, List.length_cons, List.length_nil, List.replicate, Nat.reduceSub, Nat.reduceAdd, List.getElem?_cons_zero, List.getElem?_cons_succ, List.set_cons_zero, List.set_cons_succ, Option.some.injEq, B.val.injEq, D.int.injEq, D.bl.injEq, D.str.injEq, D.tup.injEq, D.lst.injEq, exists_eq_left', exists_eq_left, exists_and_left, ex_eq, true_and, and_true, List.cons.injEq, fIsi, fAndV, fNotV, fNeg, okI, kdD, kdIs]
  rw [if_pos (by decide), if_pos (by decide), if_pos (decide_eq_true (by omega)), decide_eq_true (by omega)]
  exact q
theorem is_within {i lo hi : Int} (h : -1000000 < i ∧ i < 1000000) {Q : D → Prop} {Z : ZX} (q : Q (.bl (decide (lo ≤ i) && decide (i ≤ hi)))) : G_is_within K A [.int i, .int lo, .int hi] Q Z := by
  unfold G_is_within S_is_within
  simp only [fnS, Pu.startB, sSeq, sAsg, sIf, sRet, sNext, sNew, sApp, sPar, sDem, demB, fVar, fVarT, fC, fOp, fTst, fAnd, fOr, fNot, fNew, fLst, fTup, fNil, fCons, fSl, oAt, oNo, fCB, fCall, fIf, fChain, fRng1, fIt, fJoin, RLen, RI0, RAdd, RIx, RSl, RIsN, RTuple, RIn, gN, bD, List.map_cons, List.map_nil, List.cons_append, List.nil_append, List.length_cons, List.length_nil, List.replicate, Nat.reduceSub, Nat.reduceAdd, List.getElem?_cons_zero, List.getElem?_cons_succ, List.set_cons_zero, List.set_cons_succ, Option.some.injEq, B.val.injEq, D.int.injEq, D.bl.injEq, D.str.injEq, D.tup.injEq, D.lst.injEq, exists_eq_left', exists_eq_left, exists_and_left, ex_eq, true_and, and_true, List.cons.injEq, fIsi, fAndV, fNotV, fNeg, okI, kdD, kdIs]
  refine is_integer h ?_
  simp only [fnS, Pu.startB, sSeq, sAsg, sIf, sRet, sNext, sNew, sApp, sPar, sDem, demB, fVar, fVarT, fC, fOp, fTst, fAnd, fOr, fNot, fNew, fLst, fTup, fNil, fCons, fSl, oAt, oNo, fCB, fCall, fIf, fChain, fRng1, fIt, fJoin, RLen, RI0, RAdd, RIx, RSl, RIsN, RTuple, RIn, gN, bD, List.map_cons, List.map_nil, List.cons_append, List.nil_append, List.length_cons, List.length_nil, List.replicate, Nat.reduceSub, Nat.reduceAdd, List.getElem?_cons_zero, List.getElem?_cons_succ, List.set_cons_zero, List.set_cons_succ, Option.some.injEq, B.val.injEq, D.int.injEq, D.bl.injEq, D.str.injEq, D.tup.injEq, D.lst.injEq, exists_eq_left', exists_eq_left, exists_and_left, ex_eq, true_and, and_true, List.cons.injEq, fIsi, fAndV, fNotV, fNeg, okI, kdD, kdIs, if_true]
  by_cases h1 : lo ≤ i
  · rw [decide_eq_true h1, Bool.true_and] at q
    rw [if_pos (decide_eq_true h1)]
    exact q
  · rw [decide_eq_false h1, Bool.false_and] at q
    rw [if_neg (by rw [decide_eq_false h1]; simp)]
    exact q
theorem is_word {z : Str} (h : z.length ≤ 100000) {Q : D → Prop} {Z : ZX} (q : Q (.bl (isW (.str z)))) : G_is_word K A [.str z] Q Z := by
  have hs : z.length ≤ sizeLine := by rw [sizeLine_eq]; omega
  unfold G_is_word S_is_word
  simp only [fnS, Pu.startB, sSeq, sAsg, sIf, sRet, sNext, sNew, sApp, sPar, sDem, demB, fVar, fVarT, fC, fOp, fTst, fAnd, fOr, fNot, fNew, fLst, fTup, fNil, fCons, fSl, oAt, oNo, fCB, fCall, fIf, fChain, fRng1, fIt, fJoin, RLen, RI0, RAdd, RIx, RSl, RIsN, RTuple, RIn, gN, bD, List.map_cons, List.map_nil, List.cons_append, List.nil_append, List.length_cons, List.length_nil, List.replicate, Nat.reduceSub, Nat.reduceAdd, List.getElem?_cons_zero, List.getElem?_cons_succ, List.set_cons_zero, List.set_cons_succ, Option.some.injEq, B.val.injEq, D.int.injEq, D.bl.injEq, D.str.injEq, D.tup.injEq, D.lst.injEq, exists_eq_left', exists_eq_left, exists_and_left, ex_eq, true_and, and_true, List.cons.injEq, fIsi, fAndV, fNotV, fNeg, okI, kdD, kdIs, lenD_str hs, RAll, fLc, itD]
  have q : Q (.bl ((decide (1 ≤ (z.length : Int)) && decide ((z.length : Int) ≤ 8)) && z.cps.toList.all fun c => decide (c ∈ letters))) := q
  rw [if_pos (by decide)]
  by_cases h1 : 1 ≤ (z.length : Int)
  · rw [if_pos (decide_eq_true h1)]
    rw [decide_eq_true h1, Bool.true_and] at q
    by_cases h2 : (z.length : Int) ≤ 8
    · rw [if_pos (decide_eq_true h2)]
      rw [decide_eq_true h2, Bool.true_and] at q
      refine ⟨_, if_pos hs, by rw [signsD, List.length_map, Array.length_toList]; exact hs, ?_⟩
      refine lc_map (f := fun c => .bl (isL c)) z.cps.toList (fun c _ R r => ?_) ?_
      · simp only [fnS, Pu.startB, sSeq, sAsg, sIf, sRet, sNext, sNew, sApp, sPar, sDem, demB, fVar, fVarT, fC, fOp, fTst, fAnd, fOr, fNot, fNew, fLst, fTup, fNil, fCons, fSl, oAt, oNo, fCB, fCall, fIf, fChain, fRng1, fIt, fJoin, RLen, RI0, RAdd, RIx, RSl, RIsN, RTuple, RIn, gN, bD, List.map_cons, List.map_nil, List.cons_append, List.nil_append, List.length_cons, List.length_nil, List.replicate, Nat.reduceSub, Nat.reduceAdd, List.getElem?_cons_zero, List.getElem?_cons_succ, List.set_cons_zero, List.set_cons_succ, Option.some.injEq, B.val.injEq, D.int.injEq, D.bl.injEq, D.str.injEq, D.tup.injEq, D.lst.injEq, exists_eq_left', exists_eq_left, exists_and_left, ex_eq, true_and, and_true, List.cons.injEq, wipeB, Bool.false_bne, in_let]
        exact r
      · refine ⟨_, bls_map isL _, ?_⟩
        rw [List.all_map]
        exact q
    · rw [if_neg (by rw [decide_eq_false h2]; simp)]
      rw [decide_eq_false h2, Bool.false_and] at q
      exact q
  · rw [if_neg (by rw [decide_eq_false h1]; simp), if_neg (by simp)]
    rw [decide_eq_false h1, Bool.false_and, Bool.false_and] at q
    exact q
theorem is_node {n : Nd} (h : n.1.length ≤ 100000 ∧ n.2 < 1000) {Q : D → Prop} {Z : ZX} (q : Q (.bl (isNode2 (.str n.1) (.int (n.2 : Int))))) : G_is_node K A [ndDD n] Q Z := by
  unfold G_is_node S_is_node ndDD
  simp only [fnS, Pu.startB, sSeq, sAsg, sIf, sRet, sNext, sNew, sApp, sPar, sDem, demB, fVar, fVarT, fC, fOp, fTst, fAnd, fOr, fNot, fNew, fLst, fTup, fNil, fCons, fSl, oAt, oNo, fCB, fCall, fIf, fChain, fRng1, fIt, fJoin, RLen, RI0, RAdd, RIx, RSl, RIsN, RTuple, RIn, gN, bD, List.map_cons, List.map_nil, List.cons_append, List.nil_append, List.length_cons, List.length_nil, List.replicate, Nat.reduceSub, Nat.reduceAdd, List.getElem?_cons_zero, List.getElem?_cons_succ, List.set_cons_zero, List.set_cons_succ, Option.some.injEq, B.val.injEq, D.int.injEq, D.bl.injEq, D.str.injEq, D.tup.injEq, D.lst.injEq, exists_eq_left', exists_eq_left, exists_and_left, ex_eq, true_and, and_true, List.cons.injEq, fIsi, fAndV, fOrV, fNotV, fNeg, okI, kdD, kdIs, lenD, RNe, REq, sc, at0, at1]
  have hsig : ([D.str (Str.ofString "_"), D.str (Str.ofString "#")].any fun y => eqF y (D.str n.1)) = decide (V.str n.1 = V.str "_" ∨ V.str n.1 = V.str "#") := by
    show ((Str.ofString "_" == n.1) || ((Str.ofString "#" == n.1) || false)) = _
    rw [Bool.or_false, Bool.eq_iff_iff, Bool.or_eq_true, beq_iff_eq, beq_iff_eq, decide_eq_true_iff]
    constructor
    · rintro (h | h)
      · exact .inl (by rw [← h])
      · exact .inr (by rw [← h])
    · rintro (h | h)
      · injection h with h; exact .inl h.symm
      · injection h with h; exact .inr h.symm
  rw [if_neg (by decide), if_neg (by decide)]
  refine is_within ⟨by omega, by omega⟩ ⟨_, rfl, ?_⟩
  have hw := wthn_small (i := (n.2 : Int)) (lo := 0) (hi := 3) (by omega) (by omega)
  have q : Q (.bl (wthn (.int (n.2 : Int)) 0 3 && (isW (.str n.1) || (decide (V.str n.1 = V.str "_" ∨ V.str n.1 = V.str "#") && decide (V.int (n.2 : Int) = V.int 0))))) := q
  rw [hw] at q
  cases c : (decide ((0 : Int) ≤ n.2) && decide ((n.2 : Int) ≤ 3)) with
  | false =>
    rw [c] at q
    rw [if_pos (by rfl)]
    exact q
  | true =>
    rw [c, Bool.true_and] at q
    rw [if_neg (by simp)]
    refine is_word h.1 ⟨_, rfl, ?_⟩
    cases c2 : isW (.str n.1) with
    | true =>
      rw [c2] at q
      rw [if_pos rfl]
      exact q
    | false =>
      rw [c2, Bool.false_or] at q
      rw [if_neg (by simp), if_pos (by decide), hsig, Bool.false_bne]
      refine ⟨by decide, rfl, rfl, ?_⟩
      have hd : decide ((n.2 : Int) = 0) = decide (V.int (n.2 : Int) = V.int 0) := by
        refine decide_eq_decide.mpr ⟨fun h => by rw [h], fun h => by injection h⟩
      cases c3 : decide (V.str n.1 = V.str "_" ∨ V.str n.1 = V.str "#") with
      | true =>
        rw [c3, Bool.true_and] at q
        rw [if_pos rfl, hd]
        exact q
      | false =>
        rw [c3, Bool.false_and] at q
        rw [if_neg (by simp)]
        exact q
end
end K5

set_option Elab.async false
set_option maxRecDepth 100000
set_option maxHeartbeats 1000000
set_option linter.all false
namespace K5
open PySem PySem.Spec PyProof.Rows L2 Ly Pu TM
def iD (l : List Nat) : List D := l.map fun (n : Nat) => D.int (n : Int)
theorem iD_len (l : List Nat) : (iD l).length = l.length := List.length_map ..
def iT (l : List Nat) : D := .tup (iD l)
def dwn : Nat → List D
  | 0 => []
  | m + 1 => .int (m : Int) :: dwn m
theorem rng_dwn (n : Nat) : rngD ((n : Int) - 1) (-1) n = dwn n := by
  have h : ∀ m, ((List.range m).map fun k => D.int ((m : Int) - 1 + (k : Nat) * (-1))) = dwn m := by
    intro m
    induction m with
    | zero => rfl
    | succ m ih =>
      rw [List.range_succ_eq_map, List.map_cons, List.map_map]
      show D.int (((m + 1 : Nat) : Int) - 1 + ((0 : Nat) : Int) * (-1)) :: _ = D.int (m : Int) :: dwn m
      rw [← ih]
      congr 1
      · congr 1; omega
      · apply List.map_congr_left
        intro k _
        show D.int (((m + 1 : Nat) : Int) - 1 + ((k + 1 : Nat) : Int) * (-1)) = D.int ((m : Int) - 1 + (k : Nat) * (-1))
        congr 1; omega
  exact h n
theorem cut_fr (xs : List D) {k : Nat} (h : k ≤ xs.length) : Pu.cutD xs (some (k : Int)) none = xs.drop k := by
  unfold Pu.cutD
  rw [HT.sIx_nat, HT.sIx_none, Nat.min_eq_left h, List.take_of_length_le (by rw [List.length_drop]; omega)]
theorem cut_to (xs : List D) {k : Nat} (h : k ≤ xs.length) : Pu.cutD xs none (some (k : Int)) = xs.take k := by
  unfold Pu.cutD
  rw [HT.sIx_nat, HT.sIx_none, Nat.min_eq_left h, List.drop_zero, Nat.sub_zero]
theorem ixN_nat {n i : Nat} (h : i < n) : ixN n (i : Int) = some i := by
  unfold ixN
  rw [if_pos (by omega), if_pos (by omega)]
  rfl
def chB (K : PySem.W.Frag) (A : Adr) : FS := (sSeq (sAsg 5 (fOp RSub (fCB RLen (fCons (fVarT 3) fNil)) (fOp RIx (fOp RIx (fVarT 0) (fVarT 4)) (fC (.int 1))))) (sSeq (sIf (fTst (fOp RLt (fVarT 5) (fC (.int 0)))) (sRet (fC .non)) sNext) (sSeq (sPut 1 (fVar 4) (fCB RTuple (fCons (fNew (fRev (fSl (fVarT 3) (oAt (fVar 5)) oNo))) fNil))) (sAsg 3 (fNew (fLst (fStar (fSl (fVarT 3) oNo (oAt (fVar 5))) (fCons (fVar 4) fNil))))))))
theorem put_rep {α : Type} (e d : α) (f : List α) (m : Nat) : (List.replicate (m + 1) e ++ f).set m d = List.replicate m e ++ (d :: f) := by
  rw [List.replicate_succ', List.append_assoc, List.set_append_right _ _ (by rw [List.length_replicate]; omega), List.length_replicate, Nat.sub_self]
  rfl
theorem toPs_iD : ∀ l : List Nat, toPs (iD l) = l.map fun (n : Nat) => PyData.int (n : Int)
  | [] => rfl
  | n :: l => by
    show toP (D.int (n : Int)) :: toPs (iD l) = _
    rw [toPs_iD l]
    rfl
theorem eq_ints {w v : List Nat} {Q : D → Prop} (q : Q (.bl (decide (w = v)))) : REq (.lst (iD w)) (.lst (iD v)) Q := by
  have h : ∀ l, shp (.lst (iD l)) := fun l => by
    show SeqAt.shaped (.list (toPs (iD l))) = true
    rw [toPs_iD]
    exact (ints_shaped l).1
  refine ⟨h w, h v, ?_⟩
  show Q (.bl (PyData.eqv (.list (toPs (iD w))) (.list (toPs (iD v)))))
  rw [toPs_iD, toPs_iD]
  show Q (.bl (PyData.eqvAll _ _))
  rw [intsV_eqv]
  exact q
section
variable {K : PySem.W.Frag} {A : Adr}
theorem ch_loop {nds : List Nd} (hn : nds.length ≤ 1000) {Q : D → Prop} {De : EndsD} (hr : De.rt = Q) (hx : ∀ o2 o4 o5 (w : List Nat) (f : List (List Nat)), chF (nds.map (·.2)) 0 = some (w, f) → De.nx [.val (ndsDD nds), .lst (f.map iT), o2, .val (.lst (iD w)), o4, o5]) (h0 : chF (nds.map (·.2)) 0 = none → Q .non) :
    ∀ (m : Nat) (w : List Nat) (f : List (List Nat)) (o2 o4 o5 : B), m ≤ nds.length → chF ((nds.map (·.2)).drop m) m = some (w, f) →
      forD (gN 4) (chB K A) (dwn m) [.val (ndsDD nds), .lst (List.replicate m (.tup []) ++ f.map iT), o2, .val (.lst (iD w)), o4, o5] De
  | 0, w, f, o2, o4, o5, hm, h => hx o2 o4 o5 w f h
  | m + 1, w, f, o2, o4, o5, hm, h => by
    unfold dwn forD chB ndsDD
    obtain ⟨n, hnd⟩ : ∃ n, nds[m]? = some n := ⟨nds[m], List.getElem?_eq_getElem (by omega)⟩
    have hat : (nds.map ndDD)[m]? = some (ndDD n) := by rw [List.getElem?_map, hnd]; rfl
    obtain ⟨fl, wl⟩ := chF_len h
    rw [List.length_drop, List.length_map] at fl wl
    have hstep : chF ((nds.map (·.2)).drop m) m = if w.length < n.2 then none else some (w.take (w.length - n.2) ++ [m], (w.drop (w.length - n.2)).reverse :: f) := by
      have e : (nds.map (·.2)).drop m = n.2 :: (nds.map (·.2)).drop (m + 1) := by
        have h1 : (nds.map (·.2))[m]? = some n.2 := by rw [List.getElem?_map, hnd]; rfl
        obtain ⟨h2, h3⟩ := List.getElem?_eq_some_iff.mp h1
        rw [List.drop_eq_getElem_cons h2, h3]
      rw [e, chF_cons, h]
    have ih := fun (w' : List Nat) (f' : List (List Nat)) (o2 o4 o5 : B) (q : chF ((nds.map (·.2)).drop m) m = some (w', f')) => ch_loop hn hr hx h0 m w' f' o2 o4 o5 (by omega) q
    generalize hR : List.replicate (m + 1) (D.tup []) ++ f.map iT = R
    have hRl : m < R.length := by rw [← hR, List.length_append, List.length_replicate]; omega
    simp only [fnS, Pu.startB, sSeq, sAsg, sIf, sRet, sNext, sNew, sApp, sPar, sDem, demB, fVar, fVarT, fC, fOp, fTst, fAnd, fOr, fNot, fNew, fLst, fTup, fNil, fCons, fSl, oAt, oNo, fCB, fCall, fIf, fChain, fRng1, fIt, fJoin, RLen, RI0, RAdd, RIx, RSl, RIsN, RTuple, RIn, gN, bD, List.map_cons, List.map_nil, List.cons_append, List.nil_append, List.length_cons, List.length_nil, List.replicate, Nat.reduceSub, Nat.reduceAdd, List.getElem?_cons_zero, List.getElem?_cons_succ, List.set_cons_zero, List.set_cons_succ, Option.some.injEq, B.val.injEq, D.int.injEq, D.bl.injEq, D.str.injEq, D.tup.injEq, D.lst.injEq, exists_eq_left', exists_eq_left, exists_and_left, ex_eq, true_and, and_true, List.cons.injEq, lenD, atI_nat, hat, ndDD, at1, B.lst.injEq, fRev, fStar, sPut, seqD]
    rw [iD_len]
    by_cases hlt : w.length < n.2
    · rw [if_pos (decide_eq_true (by omega)), hr]
      rw [if_pos hlt] at hstep
      exact h0 (chF_none (k := m) (by rw [Nat.zero_add]; exact hstep))
    · rw [if_neg (by rw [decide_eq_false (by omega)]; simp)]
      rw [if_neg hlt] at hstep
      have hk : (w.length : Int) - (n.2 : Int) = ((w.length - n.2 : Nat) : Int) := by omega
      rw [hk, cut_fr _ (by rw [iD_len]; omega), cut_to _ (by rw [iD_len]; omega)]
      refine ⟨m, ixN_nat hRl, by rw [List.length_append, List.length_take, iD_len, sizeLine_eq]; simp; omega, ?_⟩
      have q := ih _ _ o2 (.val (.int (m : Int))) (.val (.int ((w.length - n.2 : Nat) : Int))) hstep
      have e1 : R.set m (D.tup ((iD w).drop (w.length - n.2)).reverse) = List.replicate m (D.tup []) ++ ((w.drop (w.length - n.2)).reverse :: f).map iT := by
        rw [← hR, put_rep]
        show _ ++ (_ :: f.map iT) = _ ++ (iT _ :: f.map iT)
        unfold iT iD
        rw [List.map_reverse, List.map_drop]
      have e2 : (iD w).take (w.length - n.2) ++ [D.int (m : Int)] = iD (w.take (w.length - n.2) ++ [m]) := by
        unfold iD
        rw [List.map_append, List.map_take]
        rfl
      rw [e1, e2]
      exact q
theorem children_of {nds : List Nd} (hn : nds.length ≤ 1000) {Q : D → Prop} {Z : ZX} (q : match chOf nds with | none => Q .non | some cs => Q (.lst (cs.map iT))) : G_children_of K A [ndsDD nds] Q Z := by
  unfold G_children_of S_children_of ndsDD
  simp only [fnS, Pu.startB, sSeq, sAsg, sIf, sRet, sNext, sNew, sApp, sPar, sDem, demB, fVar, fVarT, fC, fOp, fTst, fAnd, fOr, fNot, fNew, fLst, fTup, fNil, fCons, fSl, oAt, oNo, fCB, fCall, fIf, fChain, fRng1, fIt, fJoin, RLen, RI0, RAdd, RIx, RSl, RIsN, RTuple, RIn, gN, bD, List.map_cons, List.map_nil, List.cons_append, List.nil_append, List.length_cons, List.length_nil, List.replicate, Nat.reduceSub, Nat.reduceAdd, List.getElem?_cons_zero, List.getElem?_cons_succ, List.set_cons_zero, List.set_cons_succ, Option.some.injEq, B.val.injEq, D.int.injEq, D.bl.injEq, D.str.injEq, D.tup.injEq, D.lst.injEq, exists_eq_left', exists_eq_left, exists_and_left, ex_eq, true_and, and_true, List.cons.injEq, lenD, itD, fLc, sFor, fRng3, fNeg]
  refine ⟨by rw [List.length_map, sizeLine_eq]; omega, ?_⟩
  refine lc_map (f := fun _ => D.tup []) nds (fun n _ R r => ?_) ?_
  · simp only [fnS, Pu.startB, sSeq, sAsg, sIf, sRet, sNext, sNew, sApp, sPar, sDem, demB, fVar, fVarT, fC, fOp, fTst, fAnd, fOr, fNot, fNew, fLst, fTup, fNil, fCons, fSl, oAt, oNo, fCB, fCall, fIf, fChain, fRng1, fIt, fJoin, RLen, RI0, RAdd, RIx, RSl, RIsN, RTuple, RIn, gN, bD, List.map_cons, List.map_nil, List.cons_append, List.nil_append, List.length_cons, List.length_nil, List.replicate, Nat.reduceSub, Nat.reduceAdd, List.getElem?_cons_zero, List.getElem?_cons_succ, List.set_cons_zero, List.set_cons_succ, Option.some.injEq, B.val.injEq, D.int.injEq, D.bl.injEq, D.str.injEq, D.tup.injEq, D.lst.injEq, exists_eq_left', exists_eq_left, exists_and_left, ex_eq, true_and, and_true, List.cons.injEq, wipeB]
    exact ⟨Nat.zero_le _, r⟩
  · refine ⟨Nat.zero_le _, _, _, ⟨rfl, rfl⟩, ⟨by rw [List.length_map]; omega, by rw [List.length_map]; omega⟩, by decide, ?_⟩
    rw [List.length_map, show ((nds.length : Int) - 1 - -1).toNat = nds.length by omega, rng_dwn]
    have hrep : nds.map (fun _ => D.tup []) = List.replicate nds.length (D.tup []) ++ ([] : List (List Nat)).map iT := by
      rw [List.map_const', List.map_nil, List.append_nil]
    rw [hrep]
    unfold chOf at q
    refine ch_loop (K := K) (A := A) (Q := Q) hn rfl (fun o2 o4 o5 w f h => ?_) (fun h => ?_) nds.length [] [] .un .un .un (Nat.le_refl _) (by rw [List.drop_of_length_le (by rw [List.length_map]; exact Nat.le_refl _)]; rfl)
    · rw [h] at q
      simp only [fnS, Pu.startB, sSeq, sAsg, sIf, sRet, sNext, sNew, sApp, sPar, sDem, demB, fVar, fVarT, fC, fOp, fTst, fAnd, fOr, fNot, fNew, fLst, fTup, fNil, fCons, fSl, oAt, oNo, fCB, fCall, fIf, fChain, fRng1, fIt, fJoin, RLen, RI0, RAdd, RIx, RSl, RIsN, RTuple, RIn, gN, bD, List.map_cons, List.map_nil, List.cons_append, List.nil_append, List.length_cons, List.length_nil, List.replicate, Nat.reduceSub, Nat.reduceAdd, List.getElem?_cons_zero, List.getElem?_cons_succ, List.set_cons_zero, List.set_cons_succ, Option.some.injEq, B.val.injEq, D.int.injEq, D.bl.injEq, D.str.injEq, D.tup.injEq, D.lst.injEq, exists_eq_left', exists_eq_left, exists_and_left, ex_eq, true_and, and_true, List.cons.injEq, demB]
      refine ⟨by decide, eq_ints (v := [0]) ⟨_, rfl, ?_⟩⟩
      have q : match (if w = [0] then some f else none) with | none => Q .non | some cs => Q (.lst (cs.map iT)) := q
      by_cases hw : w = [0]
      · rw [if_pos hw] at q
        rw [if_pos (decide_eq_true hw)]
        first | exact q | exact ⟨_, rfl, q⟩
      · rw [if_neg hw] at q
        rw [if_neg (by rw [decide_eq_false hw]; simp)]
        exact q
    · rw [h] at q
      exact q
end
end K5

set_option Elab.async false
set_option maxRecDepth 100000
set_option maxHeartbeats 1000000
set_option linter.all false
namespace K5
open PySem PySem.Spec PyProof.Rows L2 Ly Pu TM
def enB (K : PySem.W.Frag) (A : Adr) : FS := (sIf (fTst (fOp RNe (fOp RIx (fVarT 0) (fVarT 2)) (fTup fNil))) (sPut 1 (fVar 2) (fOp RIx (fVarT 1) (fOp RIx (fOp RIx (fVarT 0) (fVarT 2)) (fNeg (fC (.int 1)))))) sNext)
theorem shp_iT (l : List Nat) : shp (iT l) := by
  show SeqAt.shaped (.tuple (toPs (iD l))) = true
  rw [toPs_iD]
  exact (ints_shaped l).2
theorem ne_nil {c : List Nat} {Q : D → Prop} (q : Q (.bl (!decide (c = [])))) : RNe (iT c) (.tup []) Q := by
  refine ⟨shp_iT c, shp_iT [], ?_⟩
  show Q (.bl (!PyData.eqv (.tuple (toPs (iD c))) (.tuple (toPs (iD [])))))
  rw [toPs_iD, toPs_iD]
  show Q (.bl (!PyData.eqvAll _ _))
  rw [intsV_eqv]
  exact q
theorem at_last {xs : List D} {x : D} (h : xs.getLast? = some x) : atI xs (-1) = some x := by
  unfold atI ixN
  cases xs with
  | nil => cases h
  | cons a xs =>
    rw [if_neg (by omega), if_pos (by simp; omega)]
    rw [List.getLast?_eq_getElem?] at h
    show (a :: xs)[((-1 : Int) + ((a :: xs).length : Nat)).toNat]? = some x
    rw [show ((-1 : Int) + ((a :: xs).length : Nat)).toNat = (a :: xs).length - 1 by simp; omega]
    exact h
section
variable {K : PySem.W.Frag} {A : Adr}
theorem en_loop {cs : List (List Nat)} (hl : cs.length ≤ 1000) (hc : ChOk cs) {De : EndsD} (hx : ∀ o2, De.nx [.val (.tup (cs.map iT)), .lst (iD (enF cs 0)), o2]) :
    ∀ (m : Nat) (o2 : B), m ≤ cs.length → forD (gN 2) (enB K A) (dwn m) [.val (.tup (cs.map iT)), .lst (iD (enL cs m)), o2] De
  | 0, o2, hm => hx o2
  | m + 1, o2, hm => by
    unfold dwn forD enB
    obtain ⟨c, hcm⟩ : ∃ c, cs[m]? = some c := ⟨cs[m], List.getElem?_eq_getElem (by omega)⟩
    have hat : (cs.map iT)[m]? = some (iT c) := by rw [List.getElem?_map, hcm]; rfl
    have ih := fun (o2 : B) => en_loop hl hc hx m o2 (by omega)
    simp only [fnS, Pu.startB, sSeq, sAsg, sIf, sRet, sNext, sNew, sApp, sPar, sDem, demB, fVar, fVarT, fC, fOp, fTst, fAnd, fOr, fNot, fNew, fLst, fTup, fNil, fCons, fSl, oAt, oNo, fCB, fCall, fIf, fChain, fRng1, fIt, fJoin, RLen, RI0, RAdd, RIx, RSl, RIsN, RTuple, RIn, gN, bD, List.map_cons, List.map_nil, List.cons_append, List.nil_append, List.length_cons, List.length_nil, List.replicate, Nat.reduceSub, Nat.reduceAdd, List.getElem?_cons_zero, List.getElem?_cons_succ, List.set_cons_zero, List.set_cons_succ, Option.some.injEq, B.val.injEq, D.int.injEq, D.bl.injEq, D.str.injEq, D.tup.injEq, D.lst.injEq, exists_eq_left', exists_eq_left, exists_and_left, ex_eq, true_and, and_true, List.cons.injEq, lenD, atI_nat, hat, B.lst.injEq, sPut, fNeg]
    refine ⟨Nat.zero_le _, ne_nil ⟨_, rfl, ?_⟩⟩
    cases c with
    | nil =>
      rw [if_neg (by simp)]
      rw [enL_nil hcm]
      exact ih _
    | cons a c =>
      rw [if_pos (by simp)]
      obtain ⟨k, hk⟩ : ∃ k, (a :: c).getLast? = some k := ⟨_, List.getLast?_eq_some_getLast (by simp)⟩
      have hkm : k ∈ a :: c := List.mem_of_getLast? hk
      have hkb := hc m _ hcm k hkm
      have hge : (enL cs (m + 1))[k]? = some ((enL cs (m + 1)).getD k 0) := by
        have : k < (enL cs (m + 1)).length := by rw [enL_len (by omega)]; exact hkb.2
        rw [List.getD_eq_getElem?_getD, List.getElem?_eq_getElem this]
        rfl
      have hla : atI (iD (a :: c)) (-1) = some (.int (k : Int)) := at_last (by unfold iD; rw [List.getLast?_map, hk]; rfl)
      refine ⟨_, hla, .int ((enL cs (m + 1)).getD k 0 : Nat), ?_, m, ixN_nat (by rw [iD_len, enL_len (by omega)]; omega), ?_⟩
      · rw [atI_nat]
        unfold iD
        rw [List.getElem?_map, hge]
        rfl
      · have e : (iD (enL cs (m + 1))).set m (.int ((enL cs (m + 1)).getD k 0 : Nat)) = iD (enL cs m) := by
          rw [← enL_set hcm hk hkb.1]
          unfold iD
          rw [List.map_set]
        rw [e]
        exact ih _
theorem ends_of {cs : List (List Nat)} (hl : cs.length ≤ 1000) (hc : ChOk cs) {Q : D → Prop} {Z : ZX} (q : Q (.lst (iD (enF cs 0)))) : G_ends_of K A [.tup (cs.map iT)] Q Z := by
  unfold G_ends_of S_ends_of
  simp only [fnS, Pu.startB, sSeq, sAsg, sIf, sRet, sNext, sNew, sApp, sPar, sDem, demB, fVar, fVarT, fC, fOp, fTst, fAnd, fOr, fNot, fNew, fLst, fTup, fNil, fCons, fSl, oAt, oNo, fCB, fCall, fIf, fChain, fRng1, fIt, fJoin, RLen, RI0, RAdd, RIx, RSl, RIsN, RTuple, RIn, gN, bD, List.map_cons, List.map_nil, List.cons_append, List.nil_append, List.length_cons, List.length_nil, List.replicate, Nat.reduceSub, Nat.reduceAdd, List.getElem?_cons_zero, List.getElem?_cons_succ, List.set_cons_zero, List.set_cons_succ, Option.some.injEq, B.val.injEq, D.int.injEq, D.bl.injEq, D.str.injEq, D.tup.injEq, D.lst.injEq, exists_eq_left', exists_eq_left, exists_and_left, ex_eq, true_and, and_true, List.cons.injEq, lenD, itD, fLc, sFor, fRng3, fNeg]
  rw [List.length_map, Int.toNat_natCast]
  refine ⟨⟨by omega, by omega⟩, by rw [rngD, List.length_map, List.length_range, sizeLine_eq]; omega, ?_⟩
  refine lc_map (h := fun (k : Nat) => D.int (0 + (k : Nat) * 1)) (f := fun (k : Nat) => D.int ((k + 1 : Nat) : Int)) (List.range cs.length) (fun k _ R r => ?_) ?_
  · simp only [fnS, Pu.startB, sSeq, sAsg, sIf, sRet, sNext, sNew, sApp, sPar, sDem, demB, fVar, fVarT, fC, fOp, fTst, fAnd, fOr, fNot, fNew, fLst, fTup, fNil, fCons, fSl, oAt, oNo, fCB, fCall, fIf, fChain, fRng1, fIt, fJoin, RLen, RI0, RAdd, RIx, RSl, RIsN, RTuple, RIn, gN, bD, List.map_cons, List.map_nil, List.cons_append, List.nil_append, List.length_cons, List.length_nil, List.replicate, Nat.reduceSub, Nat.reduceAdd, List.getElem?_cons_zero, List.getElem?_cons_succ, List.set_cons_zero, List.set_cons_succ, Option.some.injEq, B.val.injEq, D.int.injEq, D.bl.injEq, D.str.injEq, D.tup.injEq, D.lst.injEq, exists_eq_left', exists_eq_left, exists_and_left, ex_eq, true_and, and_true, List.cons.injEq, wipeB]
    rw [show (0 : Int) + (k : Int) * 1 + 1 = ((k + 1 : Nat) : Int) by omega]
    exact r
  · refine ⟨_, _, ⟨rfl, rfl⟩, ⟨by omega, by omega⟩, by decide, ?_⟩
    rw [show ((cs.length : Int) - 1 - -1).toNat = cs.length by omega, rng_dwn]
    have e : ((List.range cs.length).map fun (k : Nat) => D.int ((k + 1 : Nat) : Int)) = iD (enL cs cs.length) := by
      unfold iD enL
      rw [List.drop_of_length_le (Nat.le_refl _)]
      show _ = ((List.range cs.length).map (· + 1) ++ []).map _
      rw [List.append_nil, List.map_map]
      rfl
    rw [e]
    refine en_loop (K := K) (A := A) hl hc (fun o2 => ?_) cs.length .un (Nat.le_refl _)
    exact ⟨_, rfl, q⟩
end
end K5

set_option Elab.async false
set_option maxRecDepth 100000
set_option maxHeartbeats 1000000
set_option linter.all false
namespace K5
open PySem PySem.Spec PyProof.Rows L2 Ly Pu TM
theorem eq_nil {c : List Nat} {Q : D → Prop} (q : Q (.bl (decide (c = [])))) : REq (iT c) (.tup []) Q := by
  refine ⟨shp_iT c, shp_iT [], ?_⟩
  show Q (.bl (PyData.eqv (.tuple (toPs (iD c))) (.tuple (toPs (iD [])))))
  rw [toPs_iD, toPs_iD]
  show Q (.bl (PyData.eqvAll _ _))
  rw [intsV_eqv]
  exact q
theorem strs_map : ∀ zs : List Str, strsD (zs.map D.str) = some zs
  | [] => rfl
  | z :: zs => by
    show (strsD (zs.map D.str)).map (z :: ·) = _
    rw [strs_map zs]
    rfl
theorem txt_bound {w : Str} {ts : List Tr} (h : Tr.All (fun w => w.length ≤ 100) (.nd w ts)) (hs : Tr.size (.nd w ts) ≤ 100) : ((ts.map Tr.text).map (·.length)).sum + (ts.map Tr.text).length * 2 ≤ 10400 ∧ w.length ≤ 100 ∧ (Txt.join ", " (ts.map Tr.text)).length ≤ 10400 := by
  have h1 := texts_len (m := 100) ts h.2
  have h2 : (nodesL ts).length + 1 ≤ 100 := hs
  rw [textsL_map] at h1
  have h3 : ((ts.map Tr.text).map (·.length)).sum + 2 * ts.length ≤ 10400 := by
    refine Nat.le_trans h1 ?_
    have : (100 + 4) * (nodesL ts).length ≤ 104 * 100 := Nat.mul_le_mul_left _ (by omega)
    omega
  have h4 := join_len (ts.map Tr.text)
  rw [List.length_map] at h4
  refine ⟨by rw [List.length_map]; omega, h.1, ?_⟩
  rw [TL.join_eq]
  exact Nat.le_trans h4 (by omega)
theorem slen_app (a b : Str) : (a ++ b).length = a.length + b.length := by
  show (a.cps ++ b.cps).size = _
  rw [Array.size_append]
  rfl
section
variable {K : PySem.W.Frag} {A : Adr}
theorem text_of {nds : List Nd} {cs : List (List Nat)} : ∀ (n : Nat) (p : Nat) (s : Tr) (Q : D → Prop) (Z : ZX), Sub nds cs p s → s.ht < n → s.All (fun w => w.length ≤ 100) → s.size ≤ 100 → Q (.str s.text) → G_text_of K A n [ndsDD nds, .tup (cs.map iT), .int (p : Int)] Q Z
  | 0, p, s, Q, Z, _, h, _, _, _ => by omega
  | n + 1, p, .nd w ts, Q, Z, hs, hh, ha, hz, q => by
    obtain ⟨h1, h2⟩ := hs.at
    have e1 : (nds.map ndDD)[p]? = some (ndDD (w, ts.length)) := by rw [List.getElem?_map, h1]; rfl
    have e2 : (cs.map iT)[p]? = some (iT (roots ts (p + 1))) := by rw [List.getElem?_map, h2]; rfl
    show fnS 4 (S_text_of K A (G_text_of K A n)) _ Q Z
    unfold S_text_of ndsDD
    simp only [fnS, Pu.startB, sSeq, sAsg, sIf, sRet, sNext, sNew, sApp, sPar, sDem, demB, fVar, fVarT, fC, fOp, fTst, fAnd, fOr, fNot, fNew, fLst, fTup, fNil, fCons, fSl, oAt, oNo, fCB, fCall, fIf, fChain, fRng1, fIt, fJoin, RLen, RI0, RAdd, RIx, RSl, RIsN, RTuple, RIn, gN, bD, List.map_cons, List.map_nil, List.cons_append, List.nil_append, List.length_cons, List.length_nil, List.replicate, Nat.reduceSub, Nat.reduceAdd, List.getElem?_cons_zero, List.getElem?_cons_succ, List.set_cons_zero, List.set_cons_succ, Option.some.injEq, B.val.injEq, D.int.injEq, D.bl.injEq, D.str.injEq, D.tup.injEq, D.lst.injEq, exists_eq_left', exists_eq_left, exists_and_left, ex_eq, true_and, and_true, List.cons.injEq, atI_nat, e1, e2, ndDD, at0]
    refine ⟨Nat.zero_le _, eq_nil ⟨_, rfl, ?_⟩⟩
    cases ts with
    | nil =>
      rw [if_pos (decide_eq_true (show roots [] (p + 1) = [] from rfl))]
      exact q
    | cons t ts =>
      rw [if_neg (by rw [decide_eq_false (by simp [roots])]; simp)]
      obtain ⟨b1, b2, b3⟩ := txt_bound ha hz
      simp only [fnS, Pu.startB, sSeq, sAsg, sIf, sRet, sNext, sNew, sApp, sPar, sDem, demB, fVar, fVarT, fC, fOp, fTst, fAnd, fOr, fNot, fNew, fLst, fTup, fNil, fCons, fSl, oAt, oNo, fCB, fCall, fIf, fChain, fRng1, fIt, fJoin, RLen, RI0, RAdd, RIx, RSl, RIsN, RTuple, RIn, gN, bD, List.map_cons, List.map_nil, List.cons_append, List.nil_append, List.length_cons, List.length_nil, List.replicate, Nat.reduceSub, Nat.reduceAdd, List.getElem?_cons_zero, List.getElem?_cons_succ, List.set_cons_zero, List.set_cons_succ, Option.some.injEq, B.val.injEq, D.int.injEq, D.bl.injEq, D.str.injEq, D.tup.injEq, D.lst.injEq, exists_eq_left', exists_eq_left, exists_and_left, ex_eq, true_and, and_true, List.cons.injEq, fLc, iT, itD, strs_map, seqD, atI_nat, e2]
      have hz1 : ("(" : Str).length = 1 := rfl
      have hz2 : (")" : Str).length = 1 := rfl
      have hz3 : (", " : Str).length = 2 := rfl
      refine ⟨by rw [hz1, sizeLine_eq]; omega, ?_⟩
      generalize hT : t :: ts = us at *
      have hus : us ≠ [] := by rw [← hT]; simp
      have hsz : (nodesL us).length + 1 ≤ 100 := hz
      have hul := lenL us
      have hrl := roots_len us (p + 1)
      have hL1 : (((roots us (p + 1)).zip us).map Prod.fst) = roots us (p + 1) := List.map_fst_zip (by omega)
      have hL2 : (((roots us (p + 1)).zip us).map Prod.snd) = us := List.map_snd_zip (by omega)
      have e3 : iD (roots us (p + 1)) = ((roots us (p + 1)).zip us).map fun x => D.int (x.1 : Int) := by
        conv => lhs; rw [← hL1]
        unfold iD
        rw [List.map_map]
        rfl
      refine ⟨by rw [iD_len, hrl, sizeLine_eq]; omega, ?_⟩
      rw [e3]
      refine lc_map (f := fun x => D.str x.2.text) _ (fun x hx R r => ?_) ?_
      · obtain ⟨i, hi⟩ := List.getElem?_of_mem hx
        rw [List.getElem?_zip_eq_some] at hi
        obtain ⟨c, hc, hsub⟩ := hs.child i x.1 hi.1
        rw [hi.2] at hc
        cases hc
        have hm : x.2 ∈ us := List.mem_of_getElem? hi.2
        simp only [fnS, Pu.startB, sSeq, sAsg, sIf, sRet, sNext, sNew, sApp, sPar, sDem, demB, fVar, fVarT, fC, fOp, fTst, fAnd, fOr, fNot, fNew, fLst, fTup, fNil, fCons, fSl, oAt, oNo, fCB, fCall, fIf, fChain, fRng1, fIt, fJoin, RLen, RI0, RAdd, RIx, RSl, RIsN, RTuple, RIn, gN, bD, List.map_cons, List.map_nil, List.cons_append, List.nil_append, List.length_cons, List.length_nil, List.replicate, Nat.reduceSub, Nat.reduceAdd, List.getElem?_cons_zero, List.getElem?_cons_succ, List.set_cons_zero, List.set_cons_succ, Option.some.injEq, B.val.injEq, D.int.injEq, D.bl.injEq, D.str.injEq, D.tup.injEq, D.lst.injEq, exists_eq_left', exists_eq_left, exists_and_left, ex_eq, true_and, and_true, List.cons.injEq, wipeB]
        have hlt := htL_lt hm
        have hh : htL us < n + 1 := hh
        have hsm := sizeL_mem hm
        exact text_of n x.1 x.2 R F0 hsub (by omega) (AllL_mem ha.2 x.2 hm) (by omega) r
      · have e4 : (((roots us (p + 1)).zip us).map fun x => D.str x.2.text) = (us.map Tr.text).map D.str := by
          conv => rhs; rw [← hL2]
          rw [List.map_map, List.map_map]
          rfl
        rw [e4]
        refine ⟨_, strs_map _, by rw [hz3]; omega, by rw [slen_app, hz1, sizeLine_eq]; omega, by rw [slen_app, slen_app, hz1, hz2, sizeLine_eq]; omega, ?_⟩
        rw [text_nd hus] at q
        exact q
end
end K5

set_option Elab.async false
set_option maxRecDepth 100000
set_option maxHeartbeats 1000000
set_option linter.all false
namespace K5
open PySem PySem.Spec PyProof.Rows L2 Ly Pu TM
theorem lc_g {α : Type} {g : FG} {T : FT} {F : FE} {ρ : Pu.Env} {h f : α → D} {p : α → Bool} : ∀ (l : List α) {Q : List D → Prop}, (∀ a ∈ l, ∃ ρa : Pu.Env, (∀ k : Pu.Env → Prop, k ρa → g (h a) ρ k) ∧ (∀ R : Bool → Prop, R (p a) → T ρa R F0) ∧ (p a = true → ∀ R : D → Prop, R (f a) → F ρa R F0)) → Q ((l.filter p).map f) → lcD g T F ρ (l.map h) Q
  | [], Q, _, q => q
  | a :: l, Q, hh, q => by
    obtain ⟨ρa, h1, h2, h3⟩ := hh a (List.mem_cons_self ..)
    show g (h a) ρ fun ρ2 => T ρ2 (fun b => if b = true then F ρ2 (fun y => lcD g T F ρ (l.map h) fun ys => Q (y :: ys)) F0 else lcD g T F ρ (l.map h) Q) F0
    refine h1 _ (h2 _ ?_)
    have ih := fun (R : List D → Prop) (r : R ((l.filter p).map f)) => lc_g l (Q := R) (fun b hb => hh b (List.mem_cons_of_mem _ hb)) r
    cases c : p a with
    | true =>
      rw [if_pos rfl]
      rw [List.filter_cons_of_pos c] at q
      exact h3 c _ (ih _ q)
    | false =>
      rw [if_neg (by simp)]
      rw [List.filter_cons_of_neg (by rw [c]; simp)] at q
      exact ih _ q
theorem enum_map : ∀ (nds : List Nd) (k : Nat), enumD k (nds.map ndDD) = (nds.zipIdx k).map fun x => D.tup [.int (x.2 : Int), ndDD x.1]
  | [], _ => rfl
  | n :: nds, k => by
    show D.tup [.int (k : Int), ndDD n] :: enumD (k + 1) (nds.map ndDD) = _
    rw [enum_map nds (k + 1)]
    rfl
def plz (nds : List Nd) (w : Str) : List Nat := ((nds.zipIdx 0).filter fun x => decide (x.1.1 = w)).map (·.2)
section
variable {K : PySem.W.Frag} {A : Adr}
theorem places_with {nds : List Nd} (hn : nds.length ≤ 1000) {w : Str} {Q : D → Prop} {Z : ZX} (q : Q (iT (plz nds w))) : G_places_with K A [ndsDD nds, .str w] Q Z := by
  unfold G_places_with S_places_with ndsDD
  simp only [fnS, Pu.startB, sSeq, sAsg, sIf, sRet, sNext, sNew, sApp, sPar, sDem, demB, fVar, fVarT, fC, fOp, fTst, fAnd, fOr, fNot, fNew, fLst, fTup, fNil, fCons, fSl, oAt, oNo, fCB, fCall, fIf, fChain, fRng1, fIt, fJoin, RLen, RI0, RAdd, RIx, RSl, RIsN, RTuple, RIn, gN, bD, List.map_cons, List.map_nil, List.cons_append, List.nil_append, List.length_cons, List.length_nil, List.replicate, Nat.reduceSub, Nat.reduceAdd, List.getElem?_cons_zero, List.getElem?_cons_succ, List.set_cons_zero, List.set_cons_succ, Option.some.injEq, B.val.injEq, D.int.injEq, D.bl.injEq, D.str.injEq, D.tup.injEq, D.lst.injEq, exists_eq_left', exists_eq_left, exists_and_left, ex_eq, true_and, and_true, List.cons.injEq, fLc, fEnum, seqD]
  rw [enum_map]
  refine ⟨by rw [List.length_map, List.length_zipIdx, sizeLine_eq]; omega, ?_⟩
  refine lc_g (p := fun x => decide (x.1.1 = w)) (f := fun x => D.int (x.2 : Int)) (nds.zipIdx 0) (fun x _ => ⟨[.val (ndsDD nds), .val (.str w), .val (.int (x.2 : Int)), .val (ndDD x.1)], fun k hk => ⟨_, rfl, rfl, hk⟩, fun R r => ?_, fun _ R r => ⟨_, rfl, r⟩⟩) ?_
  · unfold ndDD
    simp only [fnS, Pu.startB, sSeq, sAsg, sIf, sRet, sNext, sNew, sApp, sPar, sDem, demB, fVar, fVarT, fC, fOp, fTst, fAnd, fOr, fNot, fNew, fLst, fTup, fNil, fCons, fSl, oAt, oNo, fCB, fCall, fIf, fChain, fRng1, fIt, fJoin, RLen, RI0, RAdd, RIx, RSl, RIsN, RTuple, RIn, gN, bD, List.map_cons, List.map_nil, List.cons_append, List.nil_append, List.length_cons, List.length_nil, List.replicate, Nat.reduceSub, Nat.reduceAdd, List.getElem?_cons_zero, List.getElem?_cons_succ, List.set_cons_zero, List.set_cons_succ, Option.some.injEq, B.val.injEq, D.int.injEq, D.bl.injEq, D.str.injEq, D.tup.injEq, D.lst.injEq, exists_eq_left', exists_eq_left, exists_and_left, ex_eq, true_and, and_true, List.cons.injEq, at0, REq, sc]
    exact r
  · have e : (((nds.zipIdx 0).filter fun x => decide (x.1.1 = w)).map fun x => D.int (x.2 : Int)) = iD (plz nds w) := by
      unfold iD plz
      rw [List.map_map]
      rfl
    rw [e]
    exact q
end
end K5

set_option Elab.async false
set_option maxRecDepth 100000
set_option maxHeartbeats 1000000
set_option linter.all false
namespace K5
open PySem PySem.Spec PyProof.Rows L2 Ly Pu TM
def kA (l : List Nd) : List Key := l.map fun n => Sum.inr n.1
def vA (l : List Nd) : List D := l.map fun n => D.int (n.2 : Int)
theorem valD_A : ∀ (l : List Nd) (w : Str), valD (kA l) (vA l) (Sum.inr w) = (l.lookup w).map fun (a : Nat) => D.int (a : Int)
  | [], w => rfl
  | (u, a) :: l, w => by
    show (if (Sum.inr u : Key) = Sum.inr w then some (D.int (a : Int)) else valD (kA l) (vA l) (Sum.inr w)) = _
    rw [valD_A l w, List.lookup_cons]
    by_cases h : w = u
    · subst h
      rw [if_pos rfl, beq_self_eq_true]
      rfl
    · rw [if_neg (fun z => h (by injection z with z; exact z.symm)), beq_eq_false_iff_ne.mpr h]
theorem any_A : ∀ (l : List Nd) (w : Str), ((kA l).any fun x => decide (x = Sum.inr w)) = (l.lookup w).isSome
  | [], w => rfl
  | (u, a) :: l, w => by
    show (decide ((Sum.inr u : Key) = Sum.inr w) || (kA l).any fun x => decide (x = Sum.inr w)) = _
    rw [any_A l w, List.lookup_cons]
    by_cases h : w = u
    · subst h
      rw [decide_eq_true rfl, beq_self_eq_true]
      rfl
    · rw [decide_eq_false (fun z => h (by injection z with z; exact z.symm)), beq_eq_false_iff_ne.mpr h]
      rfl
theorem put_newA {l : List Nd} {w : Str} {a : Nat} (h : l.lookup w = none) : putKs (kA l) (Sum.inr w) = kA (l ++ [(w, a)]) ∧ putDs (kA l) (vA l) (Sum.inr w) (.int (a : Int)) = vA (l ++ [(w, a)]) := by
  unfold putKs putDs
  rw [any_A, h]
  refine ⟨?_, ?_⟩
  · rw [if_neg (by simp), kA, kA, List.map_append]; rfl
  · rw [if_neg (by simp), vA, vA, List.map_append]; rfl
theorem zip_same : ∀ (l : List Nd) (w : Str) (a : Nat), (l.map (·.1)).Nodup → (∀ b, (w, b) ∈ l → b = a) → List.zipWith (fun (x : Key) (y : D) => if x = Sum.inr w then D.int (a : Int) else y) (kA l) (vA l) = vA l
  | [], _, _, _, _ => rfl
  | (u, b) :: l, w, a, hn, hb => by
    show (if (Sum.inr u : Key) = Sum.inr w then D.int (a : Int) else D.int (b : Int)) :: List.zipWith _ (kA l) (vA l) = D.int (b : Int) :: vA l
    rw [zip_same l w a (List.nodup_cons.mp hn).2 fun b hb' => hb b (List.mem_cons_of_mem _ hb')]
    by_cases h : u = w
    · subst h
      rw [if_pos rfl, hb b (List.mem_cons_self ..)]
    · rw [if_neg (fun z => h (by injection z))]
theorem put_oldA {l : List Nd} {w : Str} {a : Nat} (hn : (l.map (·.1)).Nodup) (h : l.lookup w = some a) : putKs (kA l) (Sum.inr w) = kA l ∧ putDs (kA l) (vA l) (Sum.inr w) (.int (a : Int)) = vA l := by
  unfold putKs putDs
  rw [any_A, h]
  refine ⟨if_pos rfl, ?_⟩
  rw [if_pos (show (some a).isSome = true from rfl)]
  refine zip_same l w a hn fun b hb => ?_
  have := lookup_of_mem hn hb
  rw [h] at this
  cases this
  rfl
theorem look_none {l : List Nd} {w : Str} (h : w ∉ l.map (·.1)) : l.lookup w = none := by
  cases c : l.lookup w with
  | none => rfl
  | some a => exact absurd (List.mem_map.mpr ⟨_, lookup_mem c, rfl⟩) h
theorem dc_nd {g : FG} {T : FT} {Fk Fv : FE} {ρ : Pu.Env} {h : Nd → D} {p : Nd → Bool} : ∀ (m acc : List Nd) {Q : List Key → List D → Prop},
    (∀ n ∈ m, ∃ ρa : Pu.Env, (∀ k : Pu.Env → Prop, k ρa → g (h n) ρ k) ∧ (∀ R : Bool → Prop, R (p n) → T ρa R F0) ∧ (p n = true → (∀ R : D → Prop, R (.str n.1) → Fk ρa R F0) ∧ ∀ R : D → Prop, R (.int (n.2 : Int)) → Fv ρa R F0)) →
    ((acc ++ m).map (·.1)).Nodup → Q (kA (acc ++ m.filter p)) (vA (acc ++ m.filter p)) → dcD g T Fk Fv ρ (m.map h) (kA acc) (vA acc) Q
  | [], acc, Q, _, _, q => by
    rw [List.filter_nil, List.append_nil] at q
    exact q
  | n :: m, acc, Q, hh, hn, q => by
    obtain ⟨ρa, h1, h2, h3⟩ := hh n (List.mem_cons_self ..)
    show g (h n) ρ fun ρ2 => T ρ2 (fun b => if b = true then Fk ρ2 (fun y => Fv ρ2 (fun z => ∃ k, keyD y = some k ∧ dcD g T Fk Fv ρ (m.map h) (putKs (kA acc) k) (putDs (kA acc) (vA acc) k z) Q) F0) F0 else dcD g T Fk Fv ρ (m.map h) (kA acc) (vA acc) Q) F0
    refine h1 _ (h2 _ ?_)
    have hsub : ((acc ++ m).map (·.1)).Nodup := by
      refine List.Nodup.sublist ?_ hn
      exact ((List.Sublist.refl acc).append (List.sublist_cons_self n m)).map _
    cases c : p n with
    | false =>
      rw [if_neg (by simp)]
      rw [List.filter_cons_of_neg (by rw [c]; simp)] at q
      exact dc_nd m acc (fun b hb => hh b (List.mem_cons_of_mem _ hb)) hsub q
    | true =>
      rw [if_pos rfl]
      rw [List.filter_cons_of_pos c] at q
      refine (h3 c).1 _ ((h3 c).2 _ ⟨_, rfl, ?_⟩)
      have hl : acc.lookup n.1 = none := look_none fun hm => by
        rw [List.map_append, List.nodup_append] at hn
        exact hn.2.2 _ hm _ (List.mem_cons_self ..) rfl
      obtain ⟨e1, e2⟩ := put_newA (a := n.2) hl
      rw [e1, e2]
      exact dc_nd m (acc ++ [(n.1, n.2)]) (fun b hb => hh b (List.mem_cons_of_mem _ hb)) (by rw [List.append_assoc]; exact hn) (by rw [List.append_assoc]; exact q)
theorem relook : ∀ {l : List Nd}, (l.map (·.1)).Nodup → (l.map (·.1)).map (fun y => (y, (l.lookup y).getD 0)) = l := fun {l} hn => by
  rw [List.map_map]
  conv => rhs; rw [← List.map_id l]
  refine List.map_congr_left fun n hm => ?_
  show (n.1, (l.lookup n.1).getD 0) = n
  rw [lookup_of_mem hn (show (n.1, n.2) ∈ l from hm)]
  rfl
section
variable {K : PySem.W.Frag} {A : Adr}
theorem ascending_rows {l : List Nd} (hn : (l.map (·.1)).Nodup) (h64 : l.length < 64) {Q : D → Prop} {Z : ZX} (q : ∀ l' : List Nd, l'.Perm l → sortedS (l'.map (·.1)) = true → Q (.dic (kA l') (vA l'))) : G_ascending_rows K A [.dic (kA l) (vA l)] Q Z := by
  unfold G_ascending_rows S_ascending_rows
  simp only [fnS, Pu.startB, sSeq, sAsg, sIf, sRet, sNext, sNew, sApp, sPar, sDem, demB, fVar, fVarT, fC, fOp, fTst, fAnd, fOr, fNot, fNew, fLst, fTup, fNil, fCons, fSl, oAt, oNo, fCB, fCall, fIf, fChain, fRng1, fIt, fJoin, RLen, RI0, RAdd, RIx, RSl, RIsN, RTuple, RIn, gN, bD, List.map_cons, List.map_nil, List.cons_append, List.nil_append, List.length_cons, List.length_nil, List.replicate, Nat.reduceSub, Nat.reduceAdd, List.getElem?_cons_zero, List.getElem?_cons_succ, List.set_cons_zero, List.set_cons_succ, Option.some.injEq, B.val.injEq, D.int.injEq, D.bl.injEq, D.str.injEq, D.tup.injEq, D.lst.injEq, exists_eq_left', exists_eq_left, exists_and_left, ex_eq, true_and, and_true, List.cons.injEq, fDic, fDc, fCBN, RSortS, RListD, itD]
  have e : (kA l).map kD = (l.map (·.1)).map D.str := by
    unfold kA
    rw [List.map_map, List.map_map]
    rfl
  refine ⟨_, _, rfl, l.map (·.1), e, by rw [List.length_map]; exact h64, fun ys hp hs => ?_⟩
  have hyl : ys.length = l.length := by rw [hp.length_eq, List.length_map]
  refine ⟨by rw [List.length_map, sizeLine_eq]; omega, ?_⟩
  have hl' : (ys.map fun y => (y, (l.lookup y).getD 0)).Perm l := by
    have := hp.map fun y => (y, (l.lookup y).getD 0)
    rw [relook hn] at this
    exact this
  have e2 : ys.map D.str = (ys.map fun y => (y, (l.lookup y).getD 0)).map fun n => D.str n.1 := by rw [List.map_map]; rfl
  have e3 : (ys.map fun y => (y, (l.lookup y).getD 0)).map (·.1) = ys := by
    rw [List.map_map]
    conv => rhs; rw [← List.map_id ys]
    rfl
  rw [e2]
  refine dc_nd (p := fun _ => true) _ [] (fun n hm => ⟨[.val (.dic (kA l) (vA l)), .val (.str n.1)], fun k hk => hk, fun R r => r, fun _ => ⟨fun R r => ⟨_, rfl, r⟩, fun R r => ?_⟩⟩) ?_ ?_
  · have hm2 := hl'.mem_iff.mp hm
    refine ⟨_, _, rfl, rfl, _, _, rfl, _, rfl, _, _, rfl, ?_, r⟩
    rw [valD_A, lookup_of_mem hn (show (n.1, n.2) ∈ l from hm2)]
    rfl
  · rw [List.nil_append, e3]
    exact hp.nodup_iff.mpr hn
  · rw [List.filter_eq_self.mpr (fun _ _ => rfl), List.nil_append]
    exact q _ hl' (by rw [e3]; exact hs)
def arB (K : PySem.W.Frag) (A : Adr) : FS := (sSeq (sIf (fTst (fOp RNe (fGet2 (fVarT 1) (fVar 2) (fVar 3)) (fVarT 3))) (sRet (fC .non)) sNext) (sPutD 1 (fVar 2) (fVar 3)))
theorem ar_loop {Q : D → Prop} {De : EndsD} (hr : De.rt = Q) {v0 : B} :
    ∀ (nds acc : List Nd) (o2 o3 : B), acc.length + nds.length ≤ 1000 → (acc.map (·.1)).Nodup → (arF nds acc = none → Q .non) → (∀ l o2 o3, arF nds acc = some l → De.nx [v0, .dic (kA l) (vA l), o2, o3]) →
      forD (gT [2, 3]) (arB K A) (nds.map ndDD) [v0, .dic (kA acc) (vA acc), o2, o3] De
  | [], acc, o2, o3, _, _, _, h => h acc o2 o3 rfl
  | (w, a) :: nds, acc, o2, o3, hl, hn, h0, h1 => by
    rw [List.length_cons] at hl
    have key : ∀ (acc' : List Nd), acc'.length ≤ acc.length + 1 → (acc'.map (·.1)).Nodup → arF ((w, a) :: nds) acc = arF nds acc' → forD (gT [2, 3]) (arB K A) (nds.map ndDD) [v0, .dic (kA acc') (vA acc'), .val (.str w), .val (.int (a : Int))] De := fun acc' g1 g2 g3 =>
      ar_loop hr nds acc' _ _ (by omega) g2 (fun z => h0 (g3.trans z)) fun l o2 o3 z => h1 l o2 o3 (g3.trans z)
    show gT [2, 3] (ndDD (w, a)) _ _
    refine ⟨_, rfl, rfl, ?_⟩
    show arB K A [v0, .dic (kA acc) (vA acc), .val (.str w), .val (.int (a : Int))] _
    unfold arB
    simp only [fnS, Pu.startB, sSeq, sAsg, sIf, sRet, sNext, sNew, sApp, sPar, sDem, demB, fVar, fVarT, fC, fOp, fTst, fAnd, fOr, fNot, fNew, fLst, fTup, fNil, fCons, fSl, oAt, oNo, fCB, fCall, fIf, fChain, fRng1, fIt, fJoin, RLen, RI0, RAdd, RIx, RSl, RIsN, RTuple, RIn, gN, bD, List.map_cons, List.map_nil, List.cons_append, List.nil_append, List.length_cons, List.length_nil, List.replicate, Nat.reduceSub, Nat.reduceAdd, List.getElem?_cons_zero, List.getElem?_cons_succ, List.set_cons_zero, List.set_cons_succ, Option.some.injEq, B.val.injEq, D.int.injEq, D.bl.injEq, D.str.injEq, D.tup.injEq, D.lst.injEq, exists_eq_left', exists_eq_left, exists_and_left, ex_eq, true_and, and_true, List.cons.injEq, fGet2, keyD, RNe, sc, valD_A, sPutD]
    refine ⟨_, _, rfl, ?_⟩
    rw [valD_A]
    have hks : (kA acc).length < sizeLine := by rw [kA, List.length_map, sizeLine_eq]; omega
    cases c : acc.lookup w with
    | none =>
      show if (!decide ((a : Int) = (a : Int))) = true then _ else _
      rw [if_neg (by simp)]
      refine ⟨_, _, rfl, hks, ?_⟩
      obtain ⟨e1, e2⟩ := put_newA (a := a) c
      rw [e1, e2]
      refine key (acc ++ [(w, a)]) (by rw [List.length_append]; exact Nat.le_refl _) ?_ (by simp only [arF, c])
      rw [List.map_append, List.nodup_append]
      refine ⟨hn, by simp, fun x hx y hy z => ?_⟩
      obtain rfl : y = w := by simpa using hy
      obtain ⟨m, hm, rfl⟩ := List.mem_map.mp hx
      have := lookup_of_mem hn (show (m.1, m.2) ∈ acc from hm)
      rw [z, c] at this
      cases this
    | some b =>
      show if (!decide ((b : Int) = (a : Int))) = true then _ else _
      by_cases hba : b = a
      · subst hba
        rw [if_neg (by simp)]
        refine ⟨_, _, rfl, hks, ?_⟩
        obtain ⟨e1, e2⟩ := put_oldA hn c
        rw [e1, e2]
        exact key acc (by omega) hn (by simp only [arF, c, if_true])
      · rw [if_pos (by rw [decide_eq_false (by omega)]; rfl), hr]
        exact h0 (by simp only [arF, c, if_neg hba])
theorem items_A : ∀ l : List Nd, itemsD (kA l) (vA l) = l.map ndDD
  | [] => rfl
  | n :: l => by
    show D.tup [.str n.1, .int (n.2 : Int)] :: itemsD (kA l) (vA l) = _
    rw [items_A l]
    rfl
theorem any_leaf (z : Str) : ([D.str (Str.ofString "_"), D.str (Str.ofString "#")].any fun y => eqF y (D.str z)) = isLeaf z := by
  show ((Str.ofString "_" == z) || ((Str.ofString "#" == z) || false)) = decide (z = "_" ∨ z = "#")
  rw [Bool.or_false, Bool.eq_iff_iff, Bool.or_eq_true, beq_iff_eq, beq_iff_eq, decide_eq_true_iff]
  exact ⟨fun h => h.imp (fun h => h.symm) fun h => h.symm, fun h => h.imp (fun h => h.symm) fun h => h.symm⟩
def plainW (n : Nd) : Bool := !isLeaf n.1
theorem arities_in {nds : List Nd} (hl : nds.length < 64) {Q : D → Prop} {Z : ZX} (q : match arF nds [] with | none => Q .non | some l => ∀ l' : List Nd, l'.Perm (l.filter plainW) → sortedS (l'.map (·.1)) = true → Q (.dic (kA l') (vA l'))) : G_arities_in K A [ndsDD nds] Q Z := by
  unfold G_arities_in S_arities_in
  simp only [fnS, Pu.startB, sSeq, sAsg, sIf, sRet, sNext, sNew, sApp, sPar, sDem, demB, fVar, fVarT, fC, fOp, fTst, fAnd, fOr, fNot, fNew, fLst, fTup, fNil, fCons, fSl, oAt, oNo, fCB, fCall, fIf, fChain, fRng1, fIt, fJoin, RLen, RI0, RAdd, RIx, RSl, RIsN, RTuple, RIn, gN, bD, List.map_cons, List.map_nil, List.cons_append, List.nil_append, List.length_cons, List.length_nil, List.replicate, Nat.reduceSub, Nat.reduceAdd, List.getElem?_cons_zero, List.getElem?_cons_succ, List.set_cons_zero, List.set_cons_succ, Option.some.injEq, B.val.injEq, D.int.injEq, D.bl.injEq, D.str.injEq, D.tup.injEq, D.lst.injEq, exists_eq_left', exists_eq_left, exists_and_left, ex_eq, true_and, and_true, List.cons.injEq, sNewD, fDic0, sFor, itD, ndsDD]
  refine ar_loop (K := K) (A := A) (Q := Q) (v0 := .val (.tup (nds.map ndDD))) rfl nds [] .un .un (by simp; omega) List.nodup_nil (fun h => ?_) (fun l o2 o3 h => ?_)
  · rw [h] at q
    exact q
  · rw [h] at q
    obtain ⟨hnd, hll⟩ := arF_nodup (acc := []) List.nodup_nil h
    rw [List.length_nil] at hll
    have q : ∀ l' : List Nd, l'.Perm (l.filter plainW) → sortedS (l'.map (·.1)) = true → Q (.dic (kA l') (vA l')) := q
    simp only [fnS, Pu.startB, sSeq, sAsg, sIf, sRet, sNext, sNew, sApp, sPar, sDem, demB, fVar, fVarT, fC, fOp, fTst, fAnd, fOr, fNot, fNew, fLst, fTup, fNil, fCons, fSl, oAt, oNo, fCB, fCall, fIf, fChain, fRng1, fIt, fJoin, RLen, RI0, RAdd, RIx, RSl, RIsN, RTuple, RIn, gN, bD, List.map_cons, List.map_nil, List.cons_append, List.nil_append, List.length_cons, List.length_nil, List.replicate, Nat.reduceSub, Nat.reduceAdd, List.getElem?_cons_zero, List.getElem?_cons_succ, List.set_cons_zero, List.set_cons_succ, Option.some.injEq, B.val.injEq, D.int.injEq, D.bl.injEq, D.str.injEq, D.tup.injEq, D.lst.injEq, exists_eq_left', exists_eq_left, exists_and_left, ex_eq, true_and, and_true, List.cons.injEq, sDemD, demBD, fDic, fDc, fDw]
    refine ⟨_, _, rfl, by rw [items_A, List.length_map, sizeLine_eq]; omega, ?_⟩
    rw [items_A]
    refine dc_nd (p := plainW) l [] (fun n hm => ⟨[.val (.tup (nds.map ndDD)), .val (.dic (kA l) (vA l)), .val (.str n.1), .val (.int (n.2 : Int))], fun k hk => ⟨_, rfl, rfl, hk⟩, fun R r => ?_, fun _ => ⟨fun R r => ⟨_, rfl, r⟩, fun R r => ⟨_, rfl, r⟩⟩⟩) (by rw [List.nil_append]; exact hnd) ?_
    · simp only [fnS, Pu.startB, sSeq, sAsg, sIf, sRet, sNext, sNew, sApp, sPar, sDem, demB, fVar, fVarT, fC, fOp, fTst, fAnd, fOr, fNot, fNew, fLst, fTup, fNil, fCons, fSl, oAt, oNo, fCB, fCall, fIf, fChain, fRng1, fIt, fJoin, RLen, RI0, RAdd, RIx, RSl, RIsN, RTuple, RIn, gN, bD, List.map_cons, List.map_nil, List.cons_append, List.nil_append, List.length_cons, List.length_nil, List.replicate, Nat.reduceSub, Nat.reduceAdd, List.getElem?_cons_zero, List.getElem?_cons_succ, List.set_cons_zero, List.set_cons_succ, Option.some.injEq, B.val.injEq, D.int.injEq, D.bl.injEq, D.str.injEq, D.tup.injEq, D.lst.injEq, exists_eq_left', exists_eq_left, exists_and_left, ex_eq, true_and, and_true, List.cons.injEq]
      refine ⟨by decide, rfl, rfl, ?_⟩
      have e : (true != [D.str (Str.ofString "_"), D.str (Str.ofString "#")].any fun y => eqF y (D.str n.1)) = plainW n := by
        rw [any_leaf]
        unfold plainW
        cases isLeaf n.1 <;> rfl
      rw [e]
      exact r
    · rw [List.nil_append]
      refine ascending_rows ?_ ?_ q
      · exact List.Nodup.sublist (List.filter_sublist.map _) hnd
      · exact Nat.lt_of_le_of_lt (List.length_filter_le _ _) (by omega)
end
end K5

set_option Elab.async false
set_option maxRecDepth 100000
set_option maxHeartbeats 1000000
set_option linter.all false
namespace K5
open PySem PySem.Spec PyProof.Rows L2 Ly Pu TM
section
variable {K : PySem.W.Frag} {A : Adr}
theorem is_term_row {nds : List Nd} {cs : List (List Nat)} (h1 : 1 ≤ nds.length ∧ nds.length ≤ 40) (hg : ∀ n ∈ nds, GoodNd n) (hc : chOf nds = some cs) {Q : D → Prop} {Z : ZX} (q : Q (.bl (arF nds []).isSome)) : G_is_term_row K A [ndsDD nds] Q Z := by
  unfold G_is_term_row S_is_term_row ndsDD
  simp only [fnS, Pu.startB, sSeq, sAsg, sIf, sRet, sNext, sNew, sApp, sPar, sDem, demB, fVar, fVarT, fC, fOp, fTst, fAnd, fOr, fNot, fNew, fLst, fTup, fNil, fCons, fSl, oAt, oNo, fCB, fCall, fIf, fChain, fRng1, fIt, fJoin, RLen, RI0, RAdd, RIx, RSl, RIsN, RTuple, RIn, gN, bD, List.map_cons, List.map_nil, List.cons_append, List.nil_append, List.length_cons, List.length_nil, List.replicate, Nat.reduceSub, Nat.reduceAdd, List.getElem?_cons_zero, List.getElem?_cons_succ, List.set_cons_zero, List.set_cons_succ, Option.some.injEq, B.val.injEq, D.int.injEq, D.bl.injEq, D.str.injEq, D.tup.injEq, D.lst.injEq, exists_eq_left', exists_eq_left, exists_and_left, ex_eq, true_and, and_true, List.cons.injEq, fIsi, fAndV, okI, kdD, kdIs, lenD, RAll, fLc, itD, RNotN]
  rw [if_neg (by decide), List.length_map, if_pos (decide_eq_true (by omega)), if_neg (by rw [decide_eq_true (by omega)]; simp)]
  refine ⟨by rw [sizeLine_eq]; omega, ?_⟩
  refine lc_map (f := fun n => D.bl (isNode2 (.str n.1) (.int (n.2 : Int)))) nds (fun n hn R r => ?_) ?_
  · simp only [fnS, Pu.startB, sSeq, sAsg, sIf, sRet, sNext, sNew, sApp, sPar, sDem, demB, fVar, fVarT, fC, fOp, fTst, fAnd, fOr, fNot, fNew, fLst, fTup, fNil, fCons, fSl, oAt, oNo, fCB, fCall, fIf, fChain, fRng1, fIt, fJoin, RLen, RI0, RAdd, RIx, RSl, RIsN, RTuple, RIn, gN, bD, List.map_cons, List.map_nil, List.cons_append, List.nil_append, List.length_cons, List.length_nil, List.replicate, Nat.reduceSub, Nat.reduceAdd, List.getElem?_cons_zero, List.getElem?_cons_succ, List.set_cons_zero, List.set_cons_succ, Option.some.injEq, B.val.injEq, D.int.injEq, D.bl.injEq, D.str.injEq, D.tup.injEq, D.lst.injEq, exists_eq_left', exists_eq_left, exists_and_left, ex_eq, true_and, and_true, List.cons.injEq, wipeB]
    have hk := ((good_iff n.1 n.2).mp (hg n hn)).1
    exact is_node ⟨Nat.le_trans (hg n hn).2 (by decide), by omega⟩ r
  · refine ⟨_, bls_map (fun n : Nd => isNode2 (.str n.1) (.int (n.2 : Int))) nds, ?_⟩
    have hall : (nds.map fun n : Nd => isNode2 (.str n.1) (.int (n.2 : Int))).all id = true := by
      rw [List.all_eq_true]
      intro b hb
      obtain ⟨n, hn, e⟩ := List.mem_map.mp hb
      have h2 := (hg n hn).1
      rw [e] at h2
      exact h2
    rw [if_neg (by rw [hall]; simp)]
    refine children_of (nds := nds) (by omega) ?_
    rw [hc]
    show if (!isN (D.lst _)) = true then _ else _
    rw [if_pos (by rfl)]
    refine arities_in (nds := nds) (by omega) ?_
    cases c : arF nds [] with
    | none => rw [c] at q; exact q
    | some l => rw [c] at q; exact fun l' _ _ => q
structure TK (K : PySem.W.Frag) (A : Adr) : Prop where
  cl : Cls K A.cTerm
  n1 : NoAttr K A.cTerm "own_nodes"
  n2 : NoAttr K A.cTerm "own_children"
  n3 : NoAttr K A.cTerm "own_ends"
  n4 : NoAttr K A.cTerm "own_symbols"
  n5 : NoAttr K A.cTerm "own_unknown"
  n6 : NoAttr K A.cTerm "own_lost"
  isN : ∀ n ∈ seven, PySem.W.kitOne K (.type n) (.ref A.cNodes) = some false
  isT7 : ∀ n ∈ seven, PySem.W.kitOne K (.type n) (.ref A.cTerm) = some false
  isT : PySem.W.kitOne K (.ref A.cTerm) (.ref A.cTerm) = some true
  own : Own K A.cTerm
  clN : Cls K A.cNodes
  m1 : NoAttr K A.cNodes "told_nodes"
  isNN : PySem.W.kitOne K (.ref A.cNodes) (.ref A.cNodes) = some true
  ownN : Own K A.cNodes
theorem arities_any {nds : List Nd} (hl : nds.length < 64) {Q : D → Prop} {Z : ZX} (q : ∀ d, Q d) : G_arities_in K A [ndsDD nds] Q Z := arities_in hl (by
  cases arF nds [] with
  | none => exact q _
  | some r => exact fun l _ _ => q _)
def tmN : List Str := ["own_nodes", "own_children", "own_ends", "own_symbols", "own_unknown", "own_lost"]
def tmD (A : Adr) (t : Tr) (d : D) : D := .obj A.cTerm tmN [ndsDD t.nodes, .tup ((t.ch 0).map iT), iT (enF (t.ch 0) 0), d, iT (plz t.nodes "_"), iT (plz t.nodes "#")]
def SymD (t : Tr) (d : D) : Prop := ∃ r l, arF t.nodes [] = some r ∧ l.Perm (r.filter plainW) ∧ sortedS (l.map (·.1)) = true ∧ d = .dic (kA l) (vA l)
theorem term_init (TC : TK K A) {t : Tr} (hg : GoodT t) (hs : t.size ≤ 40) {r : List Nd} (c : arF t.nodes [] = some r) {Q : D → Prop} {Z : ZX} (q : ∀ d, SymD t d → Q (tmD A t d)) : G_Term_init K A [ndsDD t.nodes] Q Z := by
  have hsz : t.nodes.length ≤ 40 := hs
  intro x
  unfold S_Term_init initB
  have hisc : isC K A.cNodes (ndsDD t.nodes) false := ⟨trivial, rfl, TC.isN⟩
  simp only [fnS, Pu.startB, sSeq, sAsg, sIf, sRet, sNext, sNew, sApp, sPar, sDem, demB, fVar, fVarT, fC, fOp, fTst, fAnd, fOr, fNot, fNew, fLst, fTup, fNil, fCons, fSl, oAt, oNo, fCB, fCall, fIf, fChain, fRng1, fIt, fJoin, RLen, RI0, RAdd, RIx, RSl, RIsN, RTuple, RIn, gN, bD, List.map_cons, List.map_nil, List.cons_append, List.nil_append, List.length_cons, List.length_nil, List.replicate, Nat.reduceSub, Nat.reduceAdd, List.getElem?_cons_zero, List.getElem?_cons_succ, List.set_cons_zero, List.set_cons_succ, Option.some.injEq, B.val.injEq, D.int.injEq, D.bl.injEq, D.str.injEq, D.tup.injEq, D.lst.injEq, exists_eq_left', exists_eq_left, exists_and_left, ex_eq, true_and, and_true, List.cons.injEq, fIsc, sNo, sFldS, fFld]
  refine ⟨false, hisc, ?_⟩
  rw [if_neg (by simp)]
  refine is_term_row ⟨t.size_pos, hsz⟩ hg t.chOf ⟨_, rfl, ?_⟩
  rw [c]
  rw [if_neg (by simp)]
  refine ⟨_, _, _, _, rfl, TC.cl, TC.n1, by decide, _, _, _, rfl, TC.cl, TC.n1, _, rfl, ?_⟩
  refine children_of (nds := t.nodes) (by omega) ?_
  rw [t.chOf]
  refine ⟨_, rfl, _, _, _, _, rfl, TC.cl, TC.n2, by show 1 < 100; decide, _, _, _, rfl, TC.cl, TC.n2, _, rfl, ?_⟩
  refine ends_of (cs := t.ch 0) (by rw [t.ch_len]; exact Nat.le_trans hs (by decide)) t.chOk ?_
  refine ⟨_, rfl, _, _, _, _, rfl, TC.cl, TC.n3, by show 2 < 100; decide, _, _, _, rfl, TC.cl, TC.n1, _, rfl, ?_⟩
  refine arities_in (nds := t.nodes) (by omega) ?_
  rw [c]
  intro l hp hsr
  refine ⟨_, _, _, _, rfl, TC.cl, TC.n4, by show 3 < 100; decide, _, _, _, rfl, TC.cl, TC.n1, _, rfl, ?_⟩
  refine places_with (nds := t.nodes) (by omega) ?_
  refine ⟨_, _, _, _, rfl, TC.cl, TC.n5, by show 4 < 100; decide, _, _, _, rfl, TC.cl, TC.n1, _, rfl, ?_⟩
  refine places_with (nds := t.nodes) (by omega) ?_
  refine ⟨_, _, _, _, rfl, TC.cl, TC.n6, by show 5 < 100; decide, _, _, rfl, ?_⟩
  exact q _ ⟨r, l, c, hp, hsr, rfl⟩
theorem term_initN (TC : TK K A) {t : Tr} (hs : t.size ≤ 40) {Q : D → Prop} {Z : ZX} (q : ∀ d, Q (tmD A t d)) : G_Term_init K A [.obj A.cNodes ["told_nodes"] [ndsDD t.nodes]] Q Z := by
  have hsz : t.nodes.length ≤ 40 := hs
  intro x
  unfold S_Term_init initB
  simp only [fnS, Pu.startB, sSeq, sAsg, sIf, sRet, sNext, sNew, sApp, sPar, sDem, demB, fVar, fVarT, fC, fOp, fTst, fAnd, fOr, fNot, fNew, fLst, fTup, fNil, fCons, fSl, oAt, oNo, fCB, fCall, fIf, fChain, fRng1, fIt, fJoin, RLen, RI0, RAdd, RIx, RSl, RIsN, RTuple, RIn, gN, bD, List.map_cons, List.map_nil, List.cons_append, List.nil_append, List.length_cons, List.length_nil, List.replicate, Nat.reduceSub, Nat.reduceAdd, List.getElem?_cons_zero, List.getElem?_cons_succ, List.set_cons_zero, List.set_cons_succ, Option.some.injEq, B.val.injEq, D.int.injEq, D.bl.injEq, D.str.injEq, D.tup.injEq, D.lst.injEq, exists_eq_left', exists_eq_left, exists_and_left, ex_eq, true_and, and_true, List.cons.injEq, fIsc, sNo, sFldS, fFld]
  refine ⟨true, ⟨TC.ownN, TC.isNN⟩, ?_⟩
  rw [if_pos rfl]
  refine ⟨_, _, _, rfl, TC.clN, TC.m1, _, rfl, _, _, _, _, rfl, TC.cl, TC.n1, by decide, _, _, _, rfl, TC.cl, TC.n1, _, rfl, ?_⟩
  refine children_of (nds := t.nodes) (by omega) ?_
  rw [t.chOf]
  refine ⟨_, rfl, _, _, _, _, rfl, TC.cl, TC.n2, by show 1 < 100; decide, _, _, _, rfl, TC.cl, TC.n2, _, rfl, ?_⟩
  refine ends_of (cs := t.ch 0) (by rw [t.ch_len]; exact Nat.le_trans hs (by decide)) t.chOk ?_
  refine ⟨_, rfl, _, _, _, _, rfl, TC.cl, TC.n3, by show 2 < 100; decide, _, _, _, rfl, TC.cl, TC.n1, _, rfl, ?_⟩
  refine arities_any (nds := t.nodes) (by omega) fun d => ?_
  refine ⟨_, _, _, _, rfl, TC.cl, TC.n4, by show 3 < 100; decide, _, _, _, rfl, TC.cl, TC.n1, _, rfl, ?_⟩
  refine places_with (nds := t.nodes) (by omega) ?_
  refine ⟨_, _, _, _, rfl, TC.cl, TC.n5, by show 4 < 100; decide, _, _, _, rfl, TC.cl, TC.n1, _, rfl, ?_⟩
  refine places_with (nds := t.nodes) (by omega) ?_
  refine ⟨_, _, _, _, rfl, TC.cl, TC.n6, by show 5 < 100; decide, _, _, rfl, ?_⟩
  exact q _
end
end K5

set_option Elab.async false
set_option maxRecDepth 100000
set_option maxHeartbeats 1000000
set_option linter.all false
namespace K5
open PySem PySem.Spec PyProof.Rows L2 Ly Pu TM
theorem labs100 (t : Tr) (h : GoodT t) : t.All (fun w => w.length ≤ 100) := all_of_nodes (fun n hn => by
    rcases ((good_iff n.1 n.2).mp (h n hn)).2 with q | ⟨q | q, _⟩
    · rw [len_lab]; have := q.2.1; omega
    · rw [len_lab, q]; decide
    · rw [len_lab, q]; decide) where
  all_of_nodes {P : Str → Prop} {t : Tr} : (∀ n ∈ t.nodes, P n.1) → t.All P :=
    Tr.rec (motive_1 := fun t => (∀ n ∈ t.nodes, P n.1) → t.All P) (motive_2 := fun ts => (∀ n ∈ nodesL ts, P n.1) → AllL P ts)
      (fun w ts ih h => ⟨h (w, ts.length) (List.mem_cons_self ..), ih fun m hm => h m (List.mem_cons_of_mem _ hm)⟩) (fun _ => trivial)
      (fun t ts i1 i2 h => ⟨i1 fun m hm => h m (List.mem_append_left _ hm), i2 fun m hm => h m (List.mem_append_right _ hm)⟩) t
section
variable {K : PySem.W.Frag} {A : Adr}
theorem term_text (TC : TK K A) {t : Tr} (hg : GoodT t) (hs : t.size ≤ 40) {l : D} {Q : D → Prop} {Z : ZX} (q : Q (.str t.text)) : G_Term_text K A [tmD A t l] Q Z := by
  unfold G_Term_text S_Term_text tmD
  simp only [fnS, Pu.startB, sSeq, sAsg, sIf, sRet, sNext, sNew, sApp, sPar, sDem, demB, fVar, fVarT, fC, fOp, fTst, fAnd, fOr, fNot, fNew, fLst, fTup, fNil, fCons, fSl, oAt, oNo, fCB, fCall, fIf, fChain, fRng1, fIt, fJoin, RLen, RI0, RAdd, RIx, RSl, RIsN, RTuple, RIn, gN, bD, List.map_cons, List.map_nil, List.cons_append, List.nil_append, List.length_cons, List.length_nil, List.replicate, Nat.reduceSub, Nat.reduceAdd, List.getElem?_cons_zero, List.getElem?_cons_succ, List.set_cons_zero, List.set_cons_succ, Option.some.injEq, B.val.injEq, D.int.injEq, D.bl.injEq, D.str.injEq, D.tup.injEq, D.lst.injEq, exists_eq_left', exists_eq_left, exists_and_left, ex_eq, true_and, and_true, List.cons.injEq, fFld]
  refine ⟨_, _, _, rfl, TC.cl, TC.n1, _, rfl, _, _, _, rfl, TC.cl, TC.n2, _, rfl, ?_⟩
  exact text_of 41 0 t Q Z (Sub.root t) (Nat.lt_of_lt_of_le (ht_lt t) (by omega)) (labs100 t hg) (by omega) q
theorem nodes_loop {n : Nat} {De : EndsD} {v0 : B} (ih : ∀ (t : Tr) (Q : D → Prop), t.ht < n → t.size ≤ 2000 → Q (.lst (t.nodes.map ndDD)) → G_nodes' K A n [trD t] Q De.ex) :
    ∀ (ts : List Tr) (acc : List Nd) (o : B), (∀ t ∈ ts, t.ht < n) → acc.length + (nodesL ts).length ≤ 2000 → (∀ o, De.nx [v0, .val (.lst ((acc ++ nodesL ts).map ndDD)), o]) →
      forD (gN 2) (sAsg 1 (fOp RAdd (fVarT 1) (fCall (G_nodes' K A n) 1 (fCons (fVar 2) fNil)))) (trsD ts) [v0, .val (.lst (acc.map ndDD)), o] De
  | [], acc, o, _, _, h => by
    have := h o
    rw [show nodesL [] = [] from rfl, List.append_nil] at this
    exact this
  | t :: ts, acc, o, hh, hl, h => by
    have hl : acc.length + (t.nodes ++ nodesL ts).length ≤ 2000 := hl
    rw [List.length_append] at hl
    unfold trsD forD
    simp only [fnS, Pu.startB, sSeq, sAsg, sIf, sRet, sNext, sNew, sApp, sPar, sDem, demB, fVar, fVarT, fC, fOp, fTst, fAnd, fOr, fNot, fNew, fLst, fTup, fNil, fCons, fSl, oAt, oNo, fCB, fCall, fIf, fChain, fRng1, fIt, fJoin, RLen, RI0, RAdd, RIx, RSl, RIsN, RTuple, RIn, gN, bD, List.map_cons, List.map_nil, List.cons_append, List.nil_append, List.length_cons, List.length_nil, List.replicate, Nat.reduceSub, Nat.reduceAdd, List.getElem?_cons_zero, List.getElem?_cons_succ, List.set_cons_zero, List.set_cons_succ, Option.some.injEq, B.val.injEq, D.int.injEq, D.bl.injEq, D.str.injEq, D.tup.injEq, D.lst.injEq, exists_eq_left', exists_eq_left, exists_and_left, ex_eq, true_and, and_true, List.cons.injEq]
    refine ih t _ (hh t (List.mem_cons_self ..)) (by show t.nodes.length ≤ 2000; omega) ?_
    simp only [fnS, Pu.startB, sSeq, sAsg, sIf, sRet, sNext, sNew, sApp, sPar, sDem, demB, fVar, fVarT, fC, fOp, fTst, fAnd, fOr, fNot, fNew, fLst, fTup, fNil, fCons, fSl, oAt, oNo, fCB, fCall, fIf, fChain, fRng1, fIt, fJoin, RLen, RI0, RAdd, RIx, RSl, RIsN, RTuple, RIn, gN, bD, List.map_cons, List.map_nil, List.cons_append, List.nil_append, List.length_cons, List.length_nil, List.replicate, Nat.reduceSub, Nat.reduceAdd, List.getElem?_cons_zero, List.getElem?_cons_succ, List.set_cons_zero, List.set_cons_succ, Option.some.injEq, B.val.injEq, D.int.injEq, D.bl.injEq, D.str.injEq, D.tup.injEq, D.lst.injEq, exists_eq_left', exists_eq_left, exists_and_left, ex_eq, true_and, and_true, List.cons.injEq]
    rw [List.length_map, List.length_map, ← List.map_append]
    refine ⟨by rw [sizeLine_eq]; omega, ?_⟩
    refine nodes_loop ih ts (acc ++ t.nodes) _ (fun u hu => hh u (List.mem_cons_of_mem _ hu)) (by rw [List.length_append]; omega) fun o => ?_
    have := h o
    rw [show nodesL (t :: ts) = t.nodes ++ nodesL ts from rfl, ← List.append_assoc] at this
    exact this
theorem nodes : ∀ (n : Nat) (t : Tr) (Q : D → Prop) (Z : ZX), t.ht < n → t.size ≤ 2000 → Q (.lst (t.nodes.map ndDD)) → G_nodes' K A n [trD t] Q Z
  | 0, t, Q, Z, h, _, _ => by omega
  | n + 1, .nd w ts, Q, Z, h, hs, q => by
    have hs : (nodesL ts).length + 1 ≤ 2000 := hs
    have hul := lenL ts
    show fnS 3 (S_nodes' K A (G_nodes' K A n)) _ Q Z
    unfold S_nodes' trD
    simp only [fnS, Pu.startB, sSeq, sAsg, sIf, sRet, sNext, sNew, sApp, sPar, sDem, demB, fVar, fVarT, fC, fOp, fTst, fAnd, fOr, fNot, fNew, fLst, fTup, fNil, fCons, fSl, oAt, oNo, fCB, fCall, fIf, fChain, fRng1, fIt, fJoin, RLen, RI0, RAdd, RIx, RSl, RIsN, RTuple, RIn, gN, bD, List.map_cons, List.map_nil, List.cons_append, List.nil_append, List.length_cons, List.length_nil, List.replicate, Nat.reduceSub, Nat.reduceAdd, List.getElem?_cons_zero, List.getElem?_cons_succ, List.set_cons_zero, List.set_cons_succ, Option.some.injEq, B.val.injEq, D.int.injEq, D.bl.injEq, D.str.injEq, D.tup.injEq, D.lst.injEq, exists_eq_left', exists_eq_left, exists_and_left, ex_eq, true_and, and_true, List.cons.injEq, at0, at1, lenD, sFor, itD]
    refine ⟨by decide, by decide, ?_⟩
    have hh : htL ts < n + 1 := h
    rw [trsD_len]
    refine nodes_loop (v0 := .val (.tup [.str w, .tup (trsD ts)])) (fun t Q a b c => nodes n t Q _ a b c) ts [(w, ts.length)] .un (fun u hu => by have := htL_lt hu; omega) (by show 1 + _ ≤ _; omega) fun o => ?_
    exact ⟨_, rfl, q⟩
end
end K5

set_option Elab.async false
set_option maxRecDepth 100000
set_option maxHeartbeats 1000000
set_option linter.all false
namespace K5
open PySem PySem.Spec PyProof.Rows L2 Ly Pu TM
theorem let_lt {c : Nat} (h : isL c = true) : c < 1114112 := by
  have h : c ∈ letters := of_decide_eq_true h
  exact (by decide +kernel : ∀ c ∈ letters, c < 1114112) c h
theorem strOk_lab {w : Str} (h : LabT w) : PyData.strOk w = true := by
  unfold PyData.strOk
  rw [← Array.all_toList, List.all_eq_true]
  intro c hc
  refine decide_eq_true ?_
  rcases h with ⟨_, h⟩ | h | h
  · exact let_lt (List.all_eq_true.mp h c hc)
  · have hc : c ∈ lab w := hc
    rw [h] at hc
    rw [List.mem_singleton.mp hc]
    decide
  · have hc : c ∈ lab w := hc
    rw [h] at hc
    rw [List.mem_singleton.mp hc]
    decide
theorem trsD_map : ∀ us : List Tr, trsD us = us.map trD
  | [] => rfl
  | u :: us => by
    show trD u :: trsD us = _
    rw [trsD_map us]
    rfl
theorem tr_lay (t : Tr) : t.All LabT → PyData.canLay0 (toP (trD t)) = true ∧ PyData.depth (toP (trD t)) ≤ 2 * t.ht + 2 :=
  Tr.rec (motive_1 := fun t => t.All LabT → PyData.canLay0 (toP (trD t)) = true ∧ PyData.depth (toP (trD t)) ≤ 2 * t.ht + 2)
    (motive_2 := fun ts => AllL LabT ts → PyData.canLayAll0 (toPs (trsD ts)) = true ∧ PyData.depthAll (toPs (trsD ts)) ≤ 2 * htL ts)
    (fun w ts ih h => by
      obtain ⟨a, b⟩ := ih h.2
      have hw := strOk_lab h.1
      have e : toP (trD (.nd w ts)) = .tuple [.str w, .tuple (toPs (trsD ts))] := rfl
      rw [e]
      refine ⟨by simp [PyData.canLay0, PyData.canLayAll0, hw, a], ?_⟩
      show PyData.depth _ ≤ 2 * htL ts + 2
      simp only [PyData.depth, PyData.depthAll]
      omega)
    (fun _ => ⟨by simp [trsD, toPs, PyData.canLayAll0], by simp [trsD, toPs, PyData.depthAll]⟩)
    (fun t ts i1 i2 h => by
      obtain ⟨a, b⟩ := i1 h.1
      obtain ⟨c, d⟩ := i2 h.2
      refine ⟨by simp [trsD, toPs, PyData.canLayAll0, a, c], ?_⟩
      show PyData.depthAll (toP (trD t) :: toPs (trsD ts)) ≤ 2 * max (t.ht + 1) (htL ts)
      simp only [PyData.depthAll]
      omega) t
theorem trs_shp {ts : List Tr} {w : Str} (h : Tr.All LabT (.nd w ts)) (hh : htL ts ≤ 20) : shp (.tup (trsD ts)) := by
  obtain ⟨a, b⟩ := tr_lay (.nd w ts) h
  have e : toP (trD (.nd w ts)) = .tuple [.str w, .tuple (toPs (trsD ts))] := rfl
  rw [e] at a b
  show SeqAt.shaped (.tuple (toPs (trsD ts))) = true
  have hb : 2 * Tr.ht (.nd w ts) + 2 = 2 * htL ts + 2 := rfl
  unfold SeqAt.shaped
  have a2 : PyData.canLay0 (.tuple (toPs (trsD ts))) = true := by
    simp only [PyData.canLay0, PyData.canLayAll0, Bool.and_true, Bool.and_eq_true] at a
    simp only [PyData.canLay0]
    exact a.2
  rw [a2, Bool.true_and]
  refine decide_eq_true ?_
  simp only [PyData.depth, PyData.depthAll] at b ⊢
  omega
theorem eq_nilT {ts : List Tr} {w : Str} (h : Tr.All LabT (.nd w ts)) (hh : htL ts ≤ 20) {Q : D → Prop} (q : Q (.bl ts.isEmpty)) : REq (.tup (trsD ts)) (.tup []) Q := by
  refine ⟨trs_shp h hh, shp_iT [], ?_⟩
  cases ts with
  | nil => exact q
  | cons t ts => exact q
section
variable {K : PySem.W.Frag} {A : Adr}
theorem ltext : ∀ (n : Nat) (s : Tr) (Q : D → Prop) (Z : ZX), s.ht < n → n ≤ 20 → s.All LabT → s.All (fun w => w.length ≤ 100) → s.size ≤ 100 → Q (.str s.text) → G_text K A n [trD s] Q Z
  | 0, s, Q, Z, h, _, _, _, _, _ => by omega
  | n + 1, .nd w ts, Q, Z, hh, h20, hL, ha, hz, q => by
    have hh : htL ts < n + 1 := hh
    show fnS 2 (S_text K A (G_text K A n)) _ Q Z
    unfold S_text trD
    simp only [fnS, Pu.startB, sSeq, sAsg, sIf, sRet, sNext, sNew, sApp, sPar, sDem, demB, fVar, fVarT, fC, fOp, fTst, fAnd, fOr, fNot, fNew, fLst, fTup, fNil, fCons, fSl, oAt, oNo, fCB, fCall, fIf, fChain, fRng1, fIt, fJoin, RLen, RI0, RAdd, RIx, RSl, RIsN, RTuple, RIn, gN, bD, List.map_cons, List.map_nil, List.cons_append, List.nil_append, List.length_cons, List.length_nil, List.replicate, Nat.reduceSub, Nat.reduceAdd, List.getElem?_cons_zero, List.getElem?_cons_succ, List.set_cons_zero, List.set_cons_succ, Option.some.injEq, B.val.injEq, D.int.injEq, D.bl.injEq, D.str.injEq, D.tup.injEq, D.lst.injEq, exists_eq_left', exists_eq_left, exists_and_left, ex_eq, true_and, and_true, List.cons.injEq, at0, at1]
    refine ⟨Nat.zero_le _, eq_nilT hL (by omega) ⟨_, rfl, ?_⟩⟩
    cases ts with
    | nil =>
      rw [if_pos (by rfl)]
      exact q
    | cons t ts =>
      rw [if_neg (by simp)]
      obtain ⟨b1, b2, b3⟩ := txt_bound ha hz
      simp only [fnS, Pu.startB, sSeq, sAsg, sIf, sRet, sNext, sNew, sApp, sPar, sDem, demB, fVar, fVarT, fC, fOp, fTst, fAnd, fOr, fNot, fNew, fLst, fTup, fNil, fCons, fSl, oAt, oNo, fCB, fCall, fIf, fChain, fRng1, fIt, fJoin, RLen, RI0, RAdd, RIx, RSl, RIsN, RTuple, RIn, gN, bD, List.map_cons, List.map_nil, List.cons_append, List.nil_append, List.length_cons, List.length_nil, List.replicate, Nat.reduceSub, Nat.reduceAdd, List.getElem?_cons_zero, List.getElem?_cons_succ, List.set_cons_zero, List.set_cons_succ, Option.some.injEq, B.val.injEq, D.int.injEq, D.bl.injEq, D.str.injEq, D.tup.injEq, D.lst.injEq, exists_eq_left', exists_eq_left, exists_and_left, ex_eq, true_and, and_true, List.cons.injEq, fLc, itD, seqD, at1, at0]
      have hz1 : ("(" : Str).length = 1 := rfl
      have hz2 : (")" : Str).length = 1 := rfl
      have hz3 : (", " : Str).length = 2 := rfl
      refine ⟨by rw [hz1, sizeLine_eq]; omega, ?_⟩
      generalize hT : t :: ts = us at *
      have hus : us ≠ [] := by rw [← hT]; simp
      have hsz : (nodesL us).length + 1 ≤ 100 := hz
      have hul := lenL us
      refine ⟨by rw [trsD_len, sizeLine_eq]; omega, ?_⟩
      have e3 := trsD_map us
      rw [e3]
      refine lc_map (f := fun u => D.str u.text) us (fun u hu R r => ?_) ?_
      · simp only [fnS, Pu.startB, sSeq, sAsg, sIf, sRet, sNext, sNew, sApp, sPar, sDem, demB, fVar, fVarT, fC, fOp, fTst, fAnd, fOr, fNot, fNew, fLst, fTup, fNil, fCons, fSl, oAt, oNo, fCB, fCall, fIf, fChain, fRng1, fIt, fJoin, RLen, RI0, RAdd, RIx, RSl, RIsN, RTuple, RIn, gN, bD, List.map_cons, List.map_nil, List.cons_append, List.nil_append, List.length_cons, List.length_nil, List.replicate, Nat.reduceSub, Nat.reduceAdd, List.getElem?_cons_zero, List.getElem?_cons_succ, List.set_cons_zero, List.set_cons_succ, Option.some.injEq, B.val.injEq, D.int.injEq, D.bl.injEq, D.str.injEq, D.tup.injEq, D.lst.injEq, exists_eq_left', exists_eq_left, exists_and_left, ex_eq, true_and, and_true, List.cons.injEq, wipeB]
        have hlt := htL_lt hu
        have hsm := sizeL_mem hu
        exact ltext n u R F0 (by omega) (by omega) (AllL_mem hL.2 u hu) (AllL_mem ha.2 u hu) (by omega) r
      · have e4 : (us.map fun u => D.str u.text) = (us.map Tr.text).map D.str := by rw [List.map_map]; rfl
        rw [e4]
        refine ⟨_, strs_map _, by rw [hz3]; omega, by rw [slen_app, hz1, sizeLine_eq]; omega, by rw [slen_app, slen_app, hz1, hz2, sizeLine_eq]; omega, ?_⟩
        rw [text_nd hus] at q
        exact q
end
end K5

set_option Elab.async false
set_option maxRecDepth 100000
set_option maxHeartbeats 1000000
set_option linter.all false
namespace K5
open PySem PySem.Spec PyProof.Rows L2 Ly Pu TM
theorem toPs_nds : ∀ nds : List Nd, toPs (nds.map ndDD) = nds.map fun n => PyData.tuple [.str n.1, .int (n.2 : Int)]
  | [] => rfl
  | n :: nds => by
    show toP (ndDD n) :: toPs (nds.map ndDD) = _
    rw [toPs_nds nds]
    rfl
theorem nds_lay : ∀ {nds : List Nd}, (∀ n ∈ nds, LabT n.1) → PyData.canLayAll0 (nds.map fun n => PyData.tuple [.str n.1, .int (n.2 : Int)]) = true ∧ PyData.depthAll (nds.map fun n => PyData.tuple [.str n.1, .int (n.2 : Int)]) ≤ 1
  | [], _ => ⟨by simp [PyData.canLayAll0], by simp [PyData.depthAll]⟩
  | n :: nds, h => by
    obtain ⟨a, b⟩ := nds_lay (nds := nds) fun m hm => h m (List.mem_cons_of_mem _ hm)
    have hw := strOk_lab (h n (List.mem_cons_self ..))
    refine ⟨by simp [PyData.canLayAll0, PyData.canLay0, hw, a], ?_⟩
    show PyData.depthAll (PyData.tuple [.str n.1, .int (n.2 : Int)] :: _) ≤ 1
    simp only [PyData.depthAll, PyData.depth]
    omega
theorem nds_shp {nds : List Nd} (h : ∀ n ∈ nds, LabT n.1) : shp (ndsDD nds) := by
  obtain ⟨a, b⟩ := nds_lay h
  show SeqAt.shaped (.tuple (toPs (nds.map ndDD))) = true
  rw [toPs_nds]
  unfold SeqAt.shaped
  simp only [PyData.canLay0, PyData.depth, a, Bool.true_and]
  exact decide_eq_true (by omega)
theorem nds_eqv : ∀ a b : List Nd, PyData.eqvAll (a.map fun n => PyData.tuple [.str n.1, .int (n.2 : Int)]) (b.map fun n => PyData.tuple [.str n.1, .int (n.2 : Int)]) = decide (a = b)
  | [], [] => by simp [PyData.eqvAll]
  | [], _ :: _ => by simp [PyData.eqvAll]
  | _ :: _, [] => by simp [PyData.eqvAll]
  | n :: a, m :: b => by
    rw [List.map_cons, List.map_cons]
    simp only [PyData.eqvAll]
    rw [nds_eqv a b]
    have e : PyData.eqv (.tuple [.str n.1, .int (n.2 : Int)]) (.tuple [.str m.1, .int (m.2 : Int)]) = decide (n = m) := by
      simp only [PyData.eqv, PyData.eqvAll]
      rw [Bool.eq_iff_iff]
      simp
      constructor
      · rintro ⟨h1, h2⟩
        exact Prod.ext h1 (by omega)
      · rintro rfl
        exact ⟨rfl, rfl⟩
    rw [e, Bool.eq_iff_iff]
    simp
theorem eq_nds {a b : List Nd} (ha : ∀ n ∈ a, LabT n.1) (hb : ∀ n ∈ b, LabT n.1) {Q : D → Prop} (q : Q (.bl (decide (a = b)))) : REq (ndsDD a) (ndsDD b) Q := by
  refine ⟨nds_shp ha, nds_shp hb, ?_⟩
  show Q (.bl (PyData.eqv (.tuple (toPs (a.map ndDD))) (.tuple (toPs (b.map ndDD)))))
  rw [toPs_nds, toPs_nds]
  show Q (.bl (PyData.eqvAll _ _))
  rw [nds_eqv]
  exact q
theorem goodLab {t : Tr} (h : GoodT t) : ∀ n ∈ t.nodes, LabT n.1 := fun n hn => GoodNd.labT (k := n.2) (h n hn)
section
variable {K : PySem.W.Frag} {A : Adr}
theorem term_eq (TC : TK K A) {t u : Tr} (ht : GoodT t) (hu : GoodT u) {l m : D} {Q : D → Prop} {Z : ZX} (q : Q (.bl (decide (t.nodes = u.nodes)))) : G_Term_eq K A [tmD A t l, tmD A u m] Q Z := by
  unfold G_Term_eq S_Term_eq tmD
  simp only [fnS, Pu.startB, sSeq, sAsg, sIf, sRet, sNext, sNew, sApp, sPar, sDem, demB, fVar, fVarT, fC, fOp, fTst, fAnd, fOr, fNot, fNew, fLst, fTup, fNil, fCons, fSl, oAt, oNo, fCB, fCall, fIf, fChain, fRng1, fIt, fJoin, RLen, RI0, RAdd, RIx, RSl, RIsN, RTuple, RIn, gN, bD, List.map_cons, List.map_nil, List.cons_append, List.nil_append, List.length_cons, List.length_nil, List.replicate, Nat.reduceSub, Nat.reduceAdd, List.getElem?_cons_zero, List.getElem?_cons_succ, List.set_cons_zero, List.set_cons_succ, Option.some.injEq, B.val.injEq, D.int.injEq, D.bl.injEq, D.str.injEq, D.tup.injEq, D.lst.injEq, exists_eq_left', exists_eq_left, exists_and_left, ex_eq, true_and, and_true, List.cons.injEq, fFld, fIsc, fAndV]
  refine ⟨true, ⟨TC.own, TC.isT⟩, ?_⟩
  rw [if_pos rfl]
  refine ⟨_, _, _, rfl, TC.cl, TC.n1, _, rfl, _, _, _, rfl, TC.cl, TC.n1, _, rfl, ?_⟩
  exact eq_nds (goodLab ht) (goodLab hu) q
theorem term_eqS (TC : TK K A) {t : Tr} {l : D} {z : Str} {Q : D → Prop} {Z : ZX} (q : Q (.bl false)) : G_Term_eq K A [tmD A t l, .str z] Q Z := by
  unfold G_Term_eq S_Term_eq tmD
  simp only [fnS, Pu.startB, sSeq, sAsg, sIf, sRet, sNext, sNew, sApp, sPar, sDem, demB, fVar, fVarT, fC, fOp, fTst, fAnd, fOr, fNot, fNew, fLst, fTup, fNil, fCons, fSl, oAt, oNo, fCB, fCall, fIf, fChain, fRng1, fIt, fJoin, RLen, RI0, RAdd, RIx, RSl, RIsN, RTuple, RIn, gN, bD, List.map_cons, List.map_nil, List.cons_append, List.nil_append, List.length_cons, List.length_nil, List.replicate, Nat.reduceSub, Nat.reduceAdd, List.getElem?_cons_zero, List.getElem?_cons_succ, List.set_cons_zero, List.set_cons_succ, Option.some.injEq, B.val.injEq, D.int.injEq, D.bl.injEq, D.str.injEq, D.tup.injEq, D.lst.injEq, exists_eq_left', exists_eq_left, exists_and_left, ex_eq, true_and, and_true, List.cons.injEq, fFld, fIsc, fAndV]
  refine ⟨false, ⟨trivial, rfl, TC.isT7⟩, ?_⟩
  rw [if_neg (by simp)]
  exact q
theorem made_term (TC : TK K A) {t : Tr} (hg : GoodT t) (hs : t.size ≤ 40) (hh : t.ht < 8) {r : List Nd} (hr : arF t.nodes [] = some r) {Q : D → Prop} {Z : ZX} (q : ∀ l, SymD t l → Q (tmD A t l)) : G_made_term K A [trD t] Q Z := by
  unfold G_made_term S_made_term
  simp only [fnS, Pu.startB, sSeq, sAsg, sIf, sRet, sNext, sNew, sApp, sPar, sDem, demB, fVar, fVarT, fC, fOp, fTst, fAnd, fOr, fNot, fNew, fLst, fTup, fNil, fCons, fSl, oAt, oNo, fCB, fCall, fIf, fChain, fRng1, fIt, fJoin, RLen, RI0, RAdd, RIx, RSl, RIsN, RTuple, RIn, gN, bD, List.map_cons, List.map_nil, List.cons_append, List.nil_append, List.length_cons, List.length_nil, List.replicate, Nat.reduceSub, Nat.reduceAdd, List.getElem?_cons_zero, List.getElem?_cons_succ, List.set_cons_zero, List.set_cons_succ, Option.some.injEq, B.val.injEq, D.int.injEq, D.bl.injEq, D.str.injEq, D.tup.injEq, D.lst.injEq, exists_eq_left', exists_eq_left, exists_and_left, ex_eq, true_and, and_true, List.cons.injEq]
  refine nodes 8 t _ _ hh (Nat.le_trans hs (by decide)) ?_
  simp only [fnS, Pu.startB, sSeq, sAsg, sIf, sRet, sNext, sNew, sApp, sPar, sDem, demB, fVar, fVarT, fC, fOp, fTst, fAnd, fOr, fNot, fNew, fLst, fTup, fNil, fCons, fSl, oAt, oNo, fCB, fCall, fIf, fChain, fRng1, fIt, fJoin, RLen, RI0, RAdd, RIx, RSl, RIsN, RTuple, RIn, gN, bD, List.map_cons, List.map_nil, List.cons_append, List.nil_append, List.length_cons, List.length_nil, List.replicate, Nat.reduceSub, Nat.reduceAdd, List.getElem?_cons_zero, List.getElem?_cons_succ, List.set_cons_zero, List.set_cons_succ, Option.some.injEq, B.val.injEq, D.int.injEq, D.bl.injEq, D.str.injEq, D.tup.injEq, D.lst.injEq, exists_eq_left', exists_eq_left, exists_and_left, ex_eq, true_and, and_true, List.cons.injEq, seqD]
  exact term_init TC hg hs hr q
end
end K5

set_option Elab.async false
set_option maxRecDepth 100000
set_option maxHeartbeats 1000000
set_option linter.all false
namespace K5
open PySem PySem.Spec PyProof.Rows L2 Ly Pu TM
theorem lc_tr {j : Nat} {F : FE} {ρ : Pu.Env} {P : Tr → Prop} : ∀ (l : List D) {Q : List D → Prop}, (∀ d ∈ l, ∀ R : D → Prop, (∀ t, P t → R (trD t)) → F (ρ.set j (.val d)) R F0) →
    (∀ ts : List Tr, ts.length = l.length → (∀ t ∈ ts, P t) → Q (trsD ts)) → lcD (gN j) fYes F ρ l Q
  | [], Q, _, q => q [] rfl fun t h => by cases h
  | d :: l, Q, h, q => by
    refine h d (List.mem_cons_self ..) _ fun t ht => ?_
    refine lc_tr l (fun e he => h e (List.mem_cons_of_mem _ he)) fun ts hl hp => ?_
    refine q (t :: ts) (by rw [List.length_cons, List.length_cons, hl]) fun u hu => ?_
    rcases List.mem_cons.mp hu with rfl | hu
    · exact ht
    · exact hp u hu
theorem eq_int {i j : Int} {Q : D → Prop} : REq (.int i) (.int j) Q = Q (.bl (decide (i = j))) := rfl
theorem kA_zs (l : List Nd) : kA l = (l.map (·.1)).map Sum.inr := by
  rw [List.map_map]; rfl
theorem look_perm {T : List Nd} {ys : List Str} (hp : ys.Perm (T.map (·.1))) (hn : (T.map (·.1)).Nodup) {w : Str} (hw : w ∈ ys) : ∃ a, T.lookup w = some a ∧ (w, a) ∈ T := by
  obtain ⟨n, h1, h2⟩ := List.mem_map.mp (hp.mem_iff.mp hw)
  obtain ⟨u, a⟩ := n
  cases h2
  exact ⟨a, lookup_of_mem hn h1, h1⟩
section
variable {K : PySem.W.Frag} {A : Adr}
theorem term' {T : List Nd} {ls : List Str} (S : Sym T ls) : ∀ (n deep : Nat) (Q : Pu.D → Prop) (Z : ZX), deep < n → deep ≤ 5 →
    (∀ t, Fit T ls t → t.size ≤ 4 ^ (deep + 1) → t.ht ≤ deep → Q (trD t)) → G_term' K A n [.dice, .dic (kA T) (vA T), .lst (ls.map .str), .int (deep : Int)] Q Z
  | 0, _, _, _, h, _, _ => by omega
  | n + 1, deep, Q, Z, h, h5, q => by
    show fnS 8 (S_term' K A (G_term' K A n)) _ Q Z
    unfold S_term'
    simp only [fnS, Pu.startB, sSeq, sAsg, sIf, sRet, sNext, sNew, sApp, sPar, sDem, demB, fVar, fVarT, fC, fOp, fTst, fAnd, fOr, fNot, fNew, fLst, fTup, fNil, fCons, fSl, oAt, oNo, fCB, fCall, fIf, fChain, fRng1, fIt, fJoin, RLen, RI0, RAdd, RIx, RSl, RIsN, RTuple, RIn, gN, bD, List.map_cons, List.map_nil, List.cons_append, List.nil_append, List.length_cons, List.length_nil, List.replicate, Nat.reduceSub, Nat.reduceAdd, List.getElem?_cons_zero, List.getElem?_cons_succ, List.set_cons_zero, List.set_cons_succ, Option.some.injEq, B.val.injEq, D.int.injEq, D.bl.injEq, D.str.injEq, D.tup.injEq, D.lst.injEq, exists_eq_left', exists_eq_left, exists_and_left, ex_eq, true_and, and_true, List.cons.injEq, fLc, fCBN, itD, wipeB]
    refine ⟨T.map (·.1), vA T, by rw [kA_zs], by rw [List.length_map]; exact S.len, fun ys hp hs => ?_⟩
    have hyl : ys.length < 64 := by rw [hp.length_eq, List.length_map]; exact S.len
    refine ⟨by rw [List.length_map, sizeLine_eq]; omega, ?_⟩
    refine lc_fil (f := Pu.D.str) (p := fun w => decide (T.lookup w = some 0)) ys (fun w hw R r => ?_) (fun w hw _ R r => ?_) ?_
    · obtain ⟨a, h1, h2⟩ := look_perm hp S.nodup hw
      simp only [fnS, Pu.startB, sSeq, sAsg, sIf, sRet, sNext, sNew, sApp, sPar, sDem, demB, fVar, fVarT, fC, fOp, fTst, fAnd, fOr, fNot, fNew, fLst, fTup, fNil, fCons, fSl, oAt, oNo, fCB, fCall, fIf, fChain, fRng1, fIt, fJoin, RLen, RI0, RAdd, RIx, RSl, RIsN, RTuple, RIn, gN, bD, List.map_cons, List.map_nil, List.cons_append, List.nil_append, List.length_cons, List.length_nil, List.replicate, Nat.reduceSub, Nat.reduceAdd, List.getElem?_cons_zero, List.getElem?_cons_succ, List.set_cons_zero, List.set_cons_succ, Option.some.injEq, B.val.injEq, D.int.injEq, D.bl.injEq, D.str.injEq, D.tup.injEq, D.lst.injEq, exists_eq_left', exists_eq_left, exists_and_left, ex_eq, true_and, and_true, List.cons.injEq, fGet]
      refine ⟨_, _, rfl, _, rfl, _, (by rw [valD_A, h1]; rfl), ?_⟩
      rw [eq_int]
      refine ⟨_, rfl, ?_⟩
      rw [h1] at r
      exact (show decide ((a : Int) = 0) = decide (some a = some 0) by rw [Bool.eq_iff_iff]; simp) ▸ r
    · simp only [fnS, Pu.startB, sSeq, sAsg, sIf, sRet, sNext, sNew, sApp, sPar, sDem, demB, fVar, fVarT, fC, fOp, fTst, fAnd, fOr, fNot, fNew, fLst, fTup, fNil, fCons, fSl, oAt, oNo, fCB, fCall, fIf, fChain, fRng1, fIt, fJoin, RLen, RI0, RAdd, RIx, RSl, RIsN, RTuple, RIn, gN, bD, List.map_cons, List.map_nil, List.cons_append, List.nil_append, List.length_cons, List.length_nil, List.replicate, Nat.reduceSub, Nat.reduceAdd, List.getElem?_cons_zero, List.getElem?_cons_succ, List.set_cons_zero, List.set_cons_succ, Option.some.injEq, B.val.injEq, D.int.injEq, D.bl.injEq, D.str.injEq, D.tup.injEq, D.lst.injEq, exists_eq_left', exists_eq_left, exists_and_left, ex_eq, true_and, and_true, List.cons.injEq]
      exact r
    have hpick : ∀ w, w ∈ ys.filter (fun w => decide (T.lookup w = some 0)) ∨ w ∈ ls → Fit T ls (.nd w []) := fun w hw => Fit.nd (by
      rcases hw with hw | hw
      · obtain ⟨h1, h2⟩ := List.mem_filter.mp hw
        exact .inl (lookup_mem (of_decide_eq_true h2))
      · exact .inr ⟨hw, rfl⟩) fun t h => by cases h
    have hleaf : ∀ w, w ∈ ys.filter (fun w => decide (T.lookup w = some 0)) ∨ w ∈ ls → Q (.tup [.str w, .tup []]) := fun w hw => q (.nd w []) (hpick w hw) (Nat.pos_of_ne_zero (by simp)) (Nat.zero_le _)
    have hfl := List.length_filter_le (fun w => decide (T.lookup w = some 0)) ys
    have hll := S.ll
    have hne : 0 < (ys.filter (fun w => decide (T.lookup w = some 0))).length := by
      obtain ⟨w, hw⟩ := S.con
      refine List.length_pos_of_mem (a := w) (List.mem_filter.mpr ⟨hp.mem_iff.mpr (List.mem_map.mpr ⟨_, hw, rfl⟩), decide_eq_true (lookup_of_mem S.nodup hw)⟩)
    have leaf : (List.map Pu.D.str (ys.filter (fun w => decide (T.lookup w = some 0)))).length + (List.map Pu.D.str ls).length ≤ sizeLine ∧
        (List.map Pu.D.str (ys.filter (fun w => decide (T.lookup w = some 0))) ++ List.map Pu.D.str ls).length + (List.map Pu.D.str ls).length ≤ sizeLine ∧
          G_pick K A [Pu.D.dice, Pu.D.lst (List.map Pu.D.str (ys.filter (fun w => decide (T.lookup w = some 0))) ++ List.map Pu.D.str ls ++ List.map Pu.D.str ls)] (fun d => 0 ≤ sizeLine ∧ 2 ≤ sizeLine ∧ Q (Pu.D.tup [d, Pu.D.tup []])) Z := by
      simp only [List.length_append, List.length_map]
      refine ⟨by rw [sizeLine_eq]; omega, by rw [sizeLine_eq]; omega, ?_⟩
      refine ⟨_, rfl, by simp only [List.length_append, List.length_map]; omega, by simp only [List.length_append, List.length_map]; omega, fun x hx => ?_⟩
      rw [← List.map_append, ← List.map_append] at hx
      obtain ⟨z, hz, rfl⟩ := List.mem_map.mp hx
      refine ⟨Nat.zero_le _, by decide, hleaf z ?_⟩
      rcases List.mem_append.mp hz with hz | hz
      · exact List.mem_append.mp hz
      · exact .inr hz
    rw [eq_int]
    refine ⟨_, rfl, ?_⟩
    by_cases hd : (deep : Int) = 0
    · rw [decide_eq_true hd, if_pos rfl, if_pos trivial]
      exact leaf
    rw [decide_eq_false hd, if_neg (by simp)]
    refine ⟨4, rfl, by decide, by decide, fun r _ _ => ?_⟩
    show REq (.int r) (.int 0) _
    rw [eq_int]
    refine ⟨_, rfl, ?_⟩
    by_cases hr : r = 0
    · rw [decide_eq_true hr, if_pos rfl]
      exact leaf
    rw [decide_eq_false hr, if_neg (by simp)]
    refine ⟨T.map (·.1), vA T, by rw [kA_zs], by rw [List.length_map]; exact S.len, fun y2 hp2 hs2 => ?_⟩
    refine ⟨T.map (·.1), vA T, by rw [kA_zs], by rw [List.length_map]; exact S.len, fun y3 hp3 hs3 => ?_⟩
    have hy2 : y2.length < 64 := by rw [hp2.length_eq, List.length_map]; exact S.len
    have hy3 : y3.length < 64 := by rw [hp3.length_eq, List.length_map]; exact S.len
    refine ⟨by rw [List.length_map, sizeLine_eq]; omega, ?_⟩
    refine lc_fil (f := Pu.D.str) (p := fun w => decide (0 < (T.lookup w).getD 0)) y3 (fun w hw R r => ?_) (fun w hw _ R r => ?_) ?_
    · obtain ⟨a, h1, h2⟩ := look_perm hp3 S.nodup hw
      simp only [fnS, Pu.startB, sSeq, sAsg, sIf, sRet, sNext, sNew, sApp, sPar, sDem, demB, fVar, fVarT, fC, fOp, fTst, fAnd, fOr, fNot, fNew, fLst, fTup, fNil, fCons, fSl, oAt, oNo, fCB, fCall, fIf, fChain, fRng1, fIt, fJoin, RLen, RI0, RAdd, RIx, RSl, RIsN, RTuple, RIn, gN, bD, List.map_cons, List.map_nil, List.cons_append, List.nil_append, List.length_cons, List.length_nil, List.replicate, Nat.reduceSub, Nat.reduceAdd, List.getElem?_cons_zero, List.getElem?_cons_succ, List.set_cons_zero, List.set_cons_succ, Option.some.injEq, B.val.injEq, D.int.injEq, D.bl.injEq, D.str.injEq, D.tup.injEq, D.lst.injEq, exists_eq_left', exists_eq_left, exists_and_left, ex_eq, true_and, and_true, List.cons.injEq, fGet]
      refine ⟨_, _, rfl, _, rfl, _, (by rw [valD_A, h1]; rfl), ?_⟩
      rw [h1] at r
      simp only [fnS, Pu.startB, sSeq, sAsg, sIf, sRet, sNext, sNew, sApp, sPar, sDem, demB, fVar, fVarT, fC, fOp, fTst, fAnd, fOr, fNot, fNew, fLst, fTup, fNil, fCons, fSl, oAt, oNo, fCB, fCall, fIf, fChain, fRng1, fIt, fJoin, RLen, RI0, RAdd, RIx, RSl, RIsN, RTuple, RIn, gN, bD, List.map_cons, List.map_nil, List.cons_append, List.nil_append, List.length_cons, List.length_nil, List.replicate, Nat.reduceSub, Nat.reduceAdd, List.getElem?_cons_zero, List.getElem?_cons_succ, List.set_cons_zero, List.set_cons_succ, Option.some.injEq, B.val.injEq, D.int.injEq, D.bl.injEq, D.str.injEq, D.tup.injEq, D.lst.injEq, exists_eq_left', exists_eq_left, exists_and_left, ex_eq, true_and, and_true, List.cons.injEq, RGt]
      exact (show decide ((0 : Int) < (a : Int)) = decide (0 < (some a).getD 0) by rw [Bool.eq_iff_iff]; simp) ▸ r
    · simp only [fnS, Pu.startB, sSeq, sAsg, sIf, sRet, sNext, sNew, sApp, sPar, sDem, demB, fVar, fVarT, fC, fOp, fTst, fAnd, fOr, fNot, fNew, fLst, fTup, fNil, fCons, fSl, oAt, oNo, fCB, fCall, fIf, fChain, fRng1, fIt, fJoin, RLen, RI0, RAdd, RIx, RSl, RIsN, RTuple, RIn, gN, bD, List.map_cons, List.map_nil, List.cons_append, List.nil_append, List.length_cons, List.length_nil, List.replicate, Nat.reduceSub, Nat.reduceAdd, List.getElem?_cons_zero, List.getElem?_cons_succ, List.set_cons_zero, List.set_cons_succ, Option.some.injEq, B.val.injEq, D.int.injEq, D.bl.injEq, D.str.injEq, D.tup.injEq, D.lst.injEq, exists_eq_left', exists_eq_left, exists_and_left, ex_eq, true_and, and_true, List.cons.injEq]
      exact r
    have hf3 := List.length_filter_le (fun w => decide (0 < (T.lookup w).getD 0)) y3
    refine ⟨by simp only [List.length_map]; rw [sizeLine_eq]; omega, ?_⟩
    have hy0 : 0 < y2.length := by
      obtain ⟨w, hw⟩ := S.con
      exact List.length_pos_of_mem (a := w) (hp2.mem_iff.mpr (List.mem_map.mpr ⟨_, hw, rfl⟩))
    refine ⟨_, rfl, by simp only [List.length_append, List.length_map]; omega, by simp only [List.length_append, List.length_map]; omega, fun x hx => ?_⟩
    rw [← List.map_append] at hx
    obtain ⟨z, hz, rfl⟩ := List.mem_map.mp hx
    obtain ⟨a, h1, h2⟩ : ∃ a, T.lookup z = some a ∧ (z, a) ∈ T := by
      rcases List.mem_append.mp hz with hz | hz
      · exact look_perm hp2 S.nodup hz
      · exact look_perm hp3 S.nodup (List.mem_filter.mp hz).1
    have ha : a ≤ 3 := S.ar _ h2
    simp only [fnS, Pu.startB, sSeq, sAsg, sIf, sRet, sNext, sNew, sApp, sPar, sDem, demB, fVar, fVarT, fC, fOp, fTst, fAnd, fOr, fNot, fNew, fLst, fTup, fNil, fCons, fSl, oAt, oNo, fCB, fCall, fIf, fChain, fRng1, fIt, fJoin, RLen, RI0, RAdd, RIx, RSl, RIsN, RTuple, RIn, gN, bD, List.map_cons, List.map_nil, List.cons_append, List.nil_append, List.length_cons, List.length_nil, List.replicate, Nat.reduceSub, Nat.reduceAdd, List.getElem?_cons_zero, List.getElem?_cons_succ, List.set_cons_zero, List.set_cons_succ, Option.some.injEq, B.val.injEq, D.int.injEq, D.bl.injEq, D.str.injEq, D.tup.injEq, D.lst.injEq, exists_eq_left', exists_eq_left, exists_and_left, ex_eq, true_and, and_true, List.cons.injEq, fGet]
    refine ⟨_, _, rfl, _, rfl, _, (by rw [valD_A, h1]; rfl), ?_⟩
    refine ⟨_, rfl, ⟨by omega, by omega⟩, ?_⟩
    rw [Int.toNat_natCast]
    have hrl : (rngD 0 1 a).length = a := by unfold rngD; rw [List.length_map, List.length_range]
    refine ⟨by rw [hrl, sizeLine_eq]; omega, ?_⟩
    refine lc_tr (P := fun t => Fit T ls t ∧ t.size ≤ 4 ^ (deep - 1 + 1) ∧ t.ht ≤ deep - 1) _ (fun d hd R hR => ?_) fun ts hl hp => ?_
    · simp only [fnS, Pu.startB, sSeq, sAsg, sIf, sRet, sNext, sNew, sApp, sPar, sDem, demB, fVar, fVarT, fC, fOp, fTst, fAnd, fOr, fNot, fNew, fLst, fTup, fNil, fCons, fSl, oAt, oNo, fCB, fCall, fIf, fChain, fRng1, fIt, fJoin, RLen, RI0, RAdd, RIx, RSl, RIsN, RTuple, RIn, gN, bD, List.map_cons, List.map_nil, List.cons_append, List.nil_append, List.length_cons, List.length_nil, List.replicate, Nat.reduceSub, Nat.reduceAdd, List.getElem?_cons_zero, List.getElem?_cons_succ, List.set_cons_zero, List.set_cons_succ, Option.some.injEq, B.val.injEq, D.int.injEq, D.bl.injEq, D.str.injEq, D.tup.injEq, D.lst.injEq, exists_eq_left', exists_eq_left, exists_and_left, ex_eq, true_and, and_true, List.cons.injEq, RSub]
      rw [show (deep : Int) - 1 = ((deep - 1 : Nat) : Int) by omega]
      exact term' S n (deep - 1) R _ (by omega) (by omega) fun t g1 g2 g3 => hR t ⟨g1, g2, g3⟩
    · refine ⟨_, rfl, by decide, ?_⟩
      rw [hrl] at hl
      refine q (.nd z ts) (Fit.nd (.inl (by rw [hl]; exact h2)) fun t h => (hp t h).1) ?_ ?_
      · show (nodesL ts).length + 1 ≤ _
        have := sizeL_le fun t h => (hp t h).2.1
        rw [hl] at this
        have h4 : 1 ≤ 4 ^ (deep - 1 + 1) := Nat.pos_of_ne_zero (by simp)
        have h6 : 4 ^ (deep + 1) = 4 * 4 ^ (deep - 1 + 1) := by
          rw [show deep - 1 + 1 = deep by omega, Nat.pow_succ, Nat.mul_comm]
        have h7 : 4 ^ (deep - 1 + 1) * a ≤ 4 ^ (deep - 1 + 1) * 3 := Nat.mul_le_mul_left _ ha
        omega
      · show htL ts ≤ deep
        have := htL_le fun t h => (hp t h).2.2
        omega
end
end K5

set_option Elab.async false
set_option maxRecDepth 100000
set_option maxHeartbeats 1000000
set_option linter.all false
namespace K5
open PySem PySem.Spec PyProof.Rows L2 Ly Pu TM
theorem toPs_str : ∀ ls : List Str, toPs (ls.map D.str) = ls.map PyData.str
  | [] => rfl
  | x :: ls => by
    show toP (.str x) :: toPs (ls.map D.str) = _
    rw [toPs_str ls]
    rfl
theorem str_lay : ∀ {ls : List Str}, (∀ x ∈ ls, PyData.strOk x = true) → PyData.canLayAll0 (ls.map PyData.str) = true ∧ PyData.depthAll (ls.map PyData.str) ≤ 0
  | [], _ => ⟨by simp [PyData.canLayAll0], by simp [PyData.depthAll]⟩
  | x :: ls, h => by
    obtain ⟨a, b⟩ := str_lay (ls := ls) fun m hm => h m (List.mem_cons_of_mem _ hm)
    have hw := h x (List.mem_cons_self ..)
    refine ⟨by simp [PyData.canLayAll0, PyData.canLay0, hw, a], ?_⟩
    show PyData.depthAll (PyData.str x :: _) ≤ 0
    simp only [PyData.depthAll, PyData.depth]
    omega
theorem strs_shp {ls : List Str} (h : ∀ x ∈ ls, PyData.strOk x = true) : shp (.lst (ls.map D.str)) := by
  obtain ⟨a, b⟩ := str_lay h
  show SeqAt.shaped (.list (toPs (ls.map D.str))) = true
  rw [toPs_str]
  unfold SeqAt.shaped
  simp only [PyData.canLay0, PyData.depth, a, Bool.true_and]
  exact decide_eq_true (by omega)
theorem ne_strs {ls : List Str} (h : ∀ x ∈ ls, PyData.strOk x = true) (hl : ls ≠ []) {Q : D → Prop} (q : Q (.bl true)) : RNe (.lst (ls.map D.str)) (.lst []) Q := by
  refine ⟨strs_shp h, strs_shp (ls := []) (fun x h => by cases h), ?_⟩
  cases ls with
  | nil => exact absurd rfl hl
  | cons x ls => exact q
section
variable {K : PySem.W.Frag} {A : Adr}
theorem small_term {T : List Nd} {ls : List Str} (S : Sym T ls) (hl : ls ≠ []) {deep most : Nat} (hd : deep ≤ 4) (hm : 1 ≤ most) {Q : D → Prop} {Z : ZX}
    (q : ∀ t, Fit T ls t → t.size ≤ most → t.ht ≤ 5 → Q (trD t)) : G_small_term K A [.dice, .dic (kA T) (vA T), .lst (ls.map .str), .int (deep : Int), .int (most : Int)] Q Z := by
  unfold G_small_term S_small_term
  simp only [fnS, Pu.startB, sSeq, sAsg, sIf, sRet, sNext, sNew, sApp, sPar, sDem, demB, fVar, fVarT, fC, fOp, fTst, fAnd, fOr, fNot, fNew, fLst, fTup, fNil, fCons, fSl, oAt, oNo, fCB, fCall, fIf, fChain, fRng1, fIt, fJoin, RLen, RI0, RAdd, RIx, RSl, RIsN, RTuple, RIn, gN, bD, List.map_cons, List.map_nil, List.cons_append, List.nil_append, List.length_cons, List.length_nil, List.replicate, Nat.reduceSub, Nat.reduceAdd, List.getElem?_cons_zero, List.getElem?_cons_succ, List.set_cons_zero, List.set_cons_succ, Option.some.injEq, B.val.injEq, D.int.injEq, D.bl.injEq, D.str.injEq, D.tup.injEq, D.lst.injEq, exists_eq_left', exists_eq_left, exists_and_left, ex_eq, true_and, and_true, List.cons.injEq]
  refine term' S 6 deep _ _ (by omega) (by omega) fun t h1 h2 h3 => ?_
  have b1 : t.size ≤ 1024 := Nat.le_trans h2 (Nat.pow_le_pow_right (n := 4) (by decide) (show deep + 1 ≤ 5 by omega))
  refine nodes 8 t _ _ (by omega) (by omega) ?_
  refine ⟨t.size, by show some (List.map ndDD t.nodes).length = _; rw [List.length_map]; rfl, ?_⟩
  by_cases c : (t.size : Int) ≤ most
  · rw [decide_eq_true c, if_pos rfl]
    exact q t h1 (by omega) (by omega)
  rw [decide_eq_false c, if_neg (by simp)]
  refine term' S 6 1 _ _ (by omega) (by omega) fun t h1 h2 h3 => ?_
  have b1 : t.size ≤ 1024 := Nat.le_trans h2 (by decide)
  refine nodes 8 t _ _ (by omega) (by omega) ?_
  refine ⟨t.size, by show some (List.map ndDD t.nodes).length = _; rw [List.length_map]; rfl, ?_⟩
  by_cases c : (t.size : Int) ≤ most
  · rw [decide_eq_true c, if_pos rfl]
    exact q t h1 (by omega) (by omega)
  rw [decide_eq_false c, if_neg (by simp)]
  refine ⟨Nat.zero_le _, ne_strs S.lok hl ⟨true, rfl, ?_⟩⟩
  rw [if_pos rfl]
  refine ⟨_, rfl, by rw [List.length_map]; exact List.length_pos_iff.mpr hl, by rw [List.length_map]; have := S.ll; omega, fun x hx => ?_⟩
  obtain ⟨z, hz, rfl⟩ := List.mem_map.mp hx
  exact ⟨Nat.zero_le _, by decide, q (.nd z []) (Fit.nd (.inr ⟨hz, rfl⟩) fun t h => by cases h) hm (Nat.zero_le _)⟩
theorem drawn_term {deep : Nat} (hd : deep ≤ 4) {Q : D → Prop} {Z : ZX}
    (q : ∀ t, Fit D0 L0 t → t.size ≤ 40 → t.ht ≤ 5 → Q (trD t)) : G_drawn_term K A [.dice, .int (deep : Int)] Q Z := by
  unfold G_drawn_term S_drawn_term
  simp only [fnS, Pu.startB, sSeq, sAsg, sIf, sRet, sNext, sNew, sApp, sPar, sDem, demB, fVar, fVarT, fC, fOp, fTst, fAnd, fOr, fNot, fNew, fLst, fTup, fNil, fCons, fSl, oAt, oNo, fCB, fCall, fIf, fChain, fRng1, fIt, fJoin, RLen, RI0, RAdd, RIx, RSl, RIsN, RTuple, RIn, gN, bD, List.map_cons, List.map_nil, List.cons_append, List.nil_append, List.length_cons, List.length_nil, List.replicate, Nat.reduceSub, Nat.reduceAdd, List.getElem?_cons_zero, List.getElem?_cons_succ, List.set_cons_zero, List.set_cons_succ, Option.some.injEq, B.val.injEq, D.int.injEq, D.bl.injEq, D.str.injEq, D.tup.injEq, D.lst.injEq, exists_eq_left', exists_eq_left, exists_and_left, ex_eq, true_and, and_true, List.cons.injEq, fDic, fDisp, pairsF]
  refine ⟨_, rfl, by decide, by decide, ?_⟩
  exact small_term (T := D0) (ls := L0) sym0 (by decide) (deep := deep) (most := 40) hd (by decide) q
end
end K5

set_option Elab.async false
set_option maxRecDepth 100000
set_option maxHeartbeats 1000000
set_option linter.all false
namespace K5
open PySem PySem.Spec PyProof.Rows L2 Ly Pu TM
section
variable {K : PySem.W.Frag} {A : Adr}
theorem t_nodes (TC : TK K A) {t : Tr} {d : D} {Q : D → Prop} {Z : ZX} (q : Q (ndsDD t.nodes)) : G_Term_nodes K A [tmD A t d] Q Z := by
  unfold G_Term_nodes S_Term_nodes tmD
  simp only [fnS, Pu.startB, sSeq, sAsg, sIf, sRet, sNext, sNew, sApp, sPar, sDem, demB, fVar, fVarT, fC, fOp, fTst, fAnd, fOr, fNot, fNew, fLst, fTup, fNil, fCons, fSl, oAt, oNo, fCB, fCall, fIf, fChain, fRng1, fIt, fJoin, RLen, RI0, RAdd, RIx, RSl, RIsN, RTuple, RIn, gN, bD, List.map_cons, List.map_nil, List.cons_append, List.nil_append, List.length_cons, List.length_nil, List.replicate, Nat.reduceSub, Nat.reduceAdd, List.getElem?_cons_zero, List.getElem?_cons_succ, List.set_cons_zero, List.set_cons_succ, Option.some.injEq, B.val.injEq, D.int.injEq, D.bl.injEq, D.str.injEq, D.tup.injEq, D.lst.injEq, exists_eq_left', exists_eq_left, exists_and_left, ex_eq, true_and, and_true, List.cons.injEq, fFld]
  exact ⟨_, _, _, rfl, TC.cl, TC.n1, _, rfl, q⟩
theorem t_unknown (TC : TK K A) {t : Tr} {d : D} {Q : D → Prop} {Z : ZX} (q : Q (iT (plz t.nodes "_"))) : G_Term_unknown K A [tmD A t d] Q Z := by
  unfold G_Term_unknown S_Term_unknown tmD
  simp only [fnS, Pu.startB, sSeq, sAsg, sIf, sRet, sNext, sNew, sApp, sPar, sDem, demB, fVar, fVarT, fC, fOp, fTst, fAnd, fOr, fNot, fNew, fLst, fTup, fNil, fCons, fSl, oAt, oNo, fCB, fCall, fIf, fChain, fRng1, fIt, fJoin, RLen, RI0, RAdd, RIx, RSl, RIsN, RTuple, RIn, gN, bD, List.map_cons, List.map_nil, List.cons_append, List.nil_append, List.length_cons, List.length_nil, List.replicate, Nat.reduceSub, Nat.reduceAdd, List.getElem?_cons_zero, List.getElem?_cons_succ, List.set_cons_zero, List.set_cons_succ, Option.some.injEq, B.val.injEq, D.int.injEq, D.bl.injEq, D.str.injEq, D.tup.injEq, D.lst.injEq, exists_eq_left', exists_eq_left, exists_and_left, ex_eq, true_and, and_true, List.cons.injEq, fFld]
  exact ⟨_, _, _, rfl, TC.cl, TC.n5, _, rfl, q⟩
theorem t_lost (TC : TK K A) {t : Tr} {d : D} {Q : D → Prop} {Z : ZX} (q : Q (iT (plz t.nodes "#"))) : G_Term_lost K A [tmD A t d] Q Z := by
  unfold G_Term_lost S_Term_lost tmD
  simp only [fnS, Pu.startB, sSeq, sAsg, sIf, sRet, sNext, sNew, sApp, sPar, sDem, demB, fVar, fVarT, fC, fOp, fTst, fAnd, fOr, fNot, fNew, fLst, fTup, fNil, fCons, fSl, oAt, oNo, fCB, fCall, fIf, fChain, fRng1, fIt, fJoin, RLen, RI0, RAdd, RIx, RSl, RIsN, RTuple, RIn, gN, bD, List.map_cons, List.map_nil, List.cons_append, List.nil_append, List.length_cons, List.length_nil, List.replicate, Nat.reduceSub, Nat.reduceAdd, List.getElem?_cons_zero, List.getElem?_cons_succ, List.set_cons_zero, List.set_cons_succ, Option.some.injEq, B.val.injEq, D.int.injEq, D.bl.injEq, D.str.injEq, D.tup.injEq, D.lst.injEq, exists_eq_left', exists_eq_left, exists_and_left, ex_eq, true_and, and_true, List.cons.injEq, fFld]
  exact ⟨_, _, _, rfl, TC.cl, TC.n6, _, rfl, q⟩
theorem t_ground (TC : TK K A) {t : Tr} {d : D} {Q : D → Prop} {Z : ZX} (q : Q (.bl (decide (plz t.nodes "_" = []) && decide (plz t.nodes "#" = [])))) : G_Term_is_ground K A [tmD A t d] Q Z := by
  unfold G_Term_is_ground S_Term_is_ground tmD
  simp only [fnS, Pu.startB, sSeq, sAsg, sIf, sRet, sNext, sNew, sApp, sPar, sDem, demB, fVar, fVarT, fC, fOp, fTst, fAnd, fOr, fNot, fNew, fLst, fTup, fNil, fCons, fSl, oAt, oNo, fCB, fCall, fIf, fChain, fRng1, fIt, fJoin, RLen, RI0, RAdd, RIx, RSl, RIsN, RTuple, RIn, gN, bD, List.map_cons, List.map_nil, List.cons_append, List.nil_append, List.length_cons, List.length_nil, List.replicate, Nat.reduceSub, Nat.reduceAdd, List.getElem?_cons_zero, List.getElem?_cons_succ, List.set_cons_zero, List.set_cons_succ, Option.some.injEq, B.val.injEq, D.int.injEq, D.bl.injEq, D.str.injEq, D.tup.injEq, D.lst.injEq, exists_eq_left', exists_eq_left, exists_and_left, ex_eq, true_and, and_true, List.cons.injEq, fFld, fAndV]
  refine ⟨_, _, _, rfl, TC.cl, TC.n5, _, rfl, Nat.zero_le _, eq_nil ⟨_, rfl, ?_⟩⟩
  cases c : decide (plz t.nodes "_" = []) with
  | false =>
    rw [c, Bool.false_and] at q
    rw [if_neg (by simp)]
    exact q
  | true =>
    rw [c, Bool.true_and] at q
    rw [if_pos rfl]
    exact ⟨_, _, _, rfl, TC.cl, TC.n6, _, rfl, Nat.zero_le _, eq_nil q⟩
theorem t_symbols (TC : TK K A) {t : Tr} {ks : List Key} {vs : List D} {Q : List Key → List D → Prop} {Z : ZX} (q : Q ks vs) : G_Term_symbols K A [tmD A t (.dic ks vs)] Q Z := by
  unfold G_Term_symbols S_Term_symbols tmD
  simp only [fnS, Pu.startB, sSeq, sAsg, sIf, sRet, sNext, sNew, sApp, sPar, sDem, demB, fVar, fVarT, fC, fOp, fTst, fAnd, fOr, fNot, fNew, fLst, fTup, fNil, fCons, fSl, oAt, oNo, fCB, fCall, fIf, fChain, fRng1, fIt, fJoin, RLen, RI0, RAdd, RIx, RSl, RIsN, RTuple, RIn, gN, bD, List.map_cons, List.map_nil, List.cons_append, List.nil_append, List.length_cons, List.length_nil, List.replicate, Nat.reduceSub, Nat.reduceAdd, List.getElem?_cons_zero, List.getElem?_cons_succ, List.set_cons_zero, List.set_cons_succ, Option.some.injEq, B.val.injEq, D.int.injEq, D.bl.injEq, D.str.injEq, D.tup.injEq, D.lst.injEq, exists_eq_left', exists_eq_left, exists_and_left, ex_eq, true_and, and_true, List.cons.injEq, fFld, fCBD, RDictD]
  exact ⟨_, _, _, rfl, TC.cl, TC.n4, _, rfl, _, _, rfl, q⟩
theorem t_len (TC : TK K A) {t : Tr} {d : D} {Q : D → Prop} {Z : ZX} (q : Q (.int (t.size : Int))) : G_Term_len K A [tmD A t d] Q Z := by
  unfold G_Term_len S_Term_len tmD ndsDD
  simp only [fnS, Pu.startB, sSeq, sAsg, sIf, sRet, sNext, sNew, sApp, sPar, sDem, demB, fVar, fVarT, fC, fOp, fTst, fAnd, fOr, fNot, fNew, fLst, fTup, fNil, fCons, fSl, oAt, oNo, fCB, fCall, fIf, fChain, fRng1, fIt, fJoin, RLen, RI0, RAdd, RIx, RSl, RIsN, RTuple, RIn, gN, bD, List.map_cons, List.map_nil, List.cons_append, List.nil_append, List.length_cons, List.length_nil, List.replicate, Nat.reduceSub, Nat.reduceAdd, List.getElem?_cons_zero, List.getElem?_cons_succ, List.set_cons_zero, List.set_cons_succ, Option.some.injEq, B.val.injEq, D.int.injEq, D.bl.injEq, D.str.injEq, D.tup.injEq, D.lst.injEq, exists_eq_left', exists_eq_left, exists_and_left, ex_eq, true_and, and_true, List.cons.injEq, fFld]
  refine ⟨_, _, _, rfl, TC.cl, TC.n1, _, rfl, _, rfl, ?_⟩
  rw [List.length_map]
  exact q
theorem t_str (TC : TK K A) {t : Tr} (hg : GoodT t) (hs : t.size ≤ 40) {d : D} {Q : D → Prop} {Z : ZX} (q : Q (.str t.text)) : G_Term_str K A [tmD A t d] Q Z := by
  unfold G_Term_str S_Term_str tmD
  simp only [fnS, Pu.startB, sSeq, sAsg, sIf, sRet, sNext, sNew, sApp, sPar, sDem, demB, fVar, fVarT, fC, fOp, fTst, fAnd, fOr, fNot, fNew, fLst, fTup, fNil, fCons, fSl, oAt, oNo, fCB, fCall, fIf, fChain, fRng1, fIt, fJoin, RLen, RI0, RAdd, RIx, RSl, RIsN, RTuple, RIn, gN, bD, List.map_cons, List.map_nil, List.cons_append, List.nil_append, List.length_cons, List.length_nil, List.replicate, Nat.reduceSub, Nat.reduceAdd, List.getElem?_cons_zero, List.getElem?_cons_succ, List.set_cons_zero, List.set_cons_succ, Option.some.injEq, B.val.injEq, D.int.injEq, D.bl.injEq, D.str.injEq, D.tup.injEq, D.lst.injEq, exists_eq_left', exists_eq_left, exists_and_left, ex_eq, true_and, and_true, List.cons.injEq, fFld, RStr]
  refine ⟨_, _, _, rfl, TC.cl, TC.n1, _, rfl, _, _, _, rfl, TC.cl, TC.n2, _, rfl, ?_⟩
  exact text_of 41 0 t _ Z (Sub.root t) (Nat.lt_of_lt_of_le (ht_lt t) (by omega)) (labs100 t hg) (by omega) ⟨_, rfl, q⟩
theorem t_require (TC : TK K A) {t : Tr} (hs : t.size ≤ 40) {p : Nat} (hp : p < t.size) {d : D} {Q : D → Prop} {Z : ZX} (q : Q .non) : G_Term_require_place K A [tmD A t d, .int (p : Int)] Q Z := by
  unfold G_Term_require_place S_Term_require_place tmD ndsDD
  simp only [fnS, Pu.startB, sSeq, sAsg, sIf, sRet, sNext, sNew, sApp, sPar, sDem, demB, fVar, fVarT, fC, fOp, fTst, fAnd, fOr, fNot, fNew, fLst, fTup, fNil, fCons, fSl, oAt, oNo, fCB, fCall, fIf, fChain, fRng1, fIt, fJoin, RLen, RI0, RAdd, RIx, RSl, RIsN, RTuple, RIn, gN, bD, List.map_cons, List.map_nil, List.cons_append, List.nil_append, List.length_cons, List.length_nil, List.replicate, Nat.reduceSub, Nat.reduceAdd, List.getElem?_cons_zero, List.getElem?_cons_succ, List.set_cons_zero, List.set_cons_succ, Option.some.injEq, B.val.injEq, D.int.injEq, D.bl.injEq, D.str.injEq, D.tup.injEq, D.lst.injEq, exists_eq_left', exists_eq_left, exists_and_left, ex_eq, true_and, and_true, List.cons.injEq, fFld, RSub]
  refine ⟨_, _, _, rfl, TC.cl, TC.n1, _, rfl, _, rfl, ?_⟩
  rw [List.length_map]
  have e : t.nodes.length = t.size := rfl
  refine is_within ⟨by omega, by omega⟩ ⟨_, rfl, ?_⟩
  rw [decide_eq_true (by omega), decide_eq_true (by omega), if_neg (by simp)]
  exact q
theorem t_children (TC : TK K A) {t : Tr} (hs : t.size ≤ 40) {p : Nat} {w : Str} {ts : List Tr} (hp : t.parts[p]? = some (.nd w ts)) {d : D} {Q : D → Prop} {Z : ZX} (q : Q (iT (roots ts (p + 1)))) : G_Term_children K A [tmD A t d, .int (p : Int)] Q Z := by
  have hlt : p < t.size := by rw [← t.parts_len]; exact (List.getElem?_eq_some_iff.mp hp).1
  have hch : ((t.ch 0).map iT)[p]? = some (iT (roots ts (p + 1))) := by rw [List.getElem?_map, (Tr.part_sub hp).at.2]; rfl
  unfold G_Term_children S_Term_children tmD
  simp only [fnS, Pu.startB, sSeq, sAsg, sIf, sRet, sNext, sNew, sApp, sPar, sDem, demB, fVar, fVarT, fC, fOp, fTst, fAnd, fOr, fNot, fNew, fLst, fTup, fNil, fCons, fSl, oAt, oNo, fCB, fCall, fIf, fChain, fRng1, fIt, fJoin, RLen, RI0, RAdd, RIx, RSl, RIsN, RTuple, RIn, gN, bD, List.map_cons, List.map_nil, List.cons_append, List.nil_append, List.length_cons, List.length_nil, List.replicate, Nat.reduceSub, Nat.reduceAdd, List.getElem?_cons_zero, List.getElem?_cons_succ, List.set_cons_zero, List.set_cons_succ, Option.some.injEq, B.val.injEq, D.int.injEq, D.bl.injEq, D.str.injEq, D.tup.injEq, D.lst.injEq, exists_eq_left', exists_eq_left, exists_and_left, ex_eq, true_and, and_true, List.cons.injEq, fFld, sDrop, fMeth]
  refine ⟨_, _, rfl, by decide, t_require (d := d) TC hs hlt ?_⟩
  refine ⟨_, _, _, rfl, TC.cl, TC.n2, _, rfl, _, (by rw [atI_nat]; exact hch), q⟩
theorem t_getitem (TC : TK K A) {t : Tr} (hs : t.size ≤ 40) {p : Nat} {n : Nd} (hp : t.nodes[p]? = some n) {d : D} {Q : D → Prop} {Z : ZX} (q : Q (ndDD n)) : G_Term_getitem K A [tmD A t d, .int (p : Int)] Q Z := by
  have hlt : p < t.size := (List.getElem?_eq_some_iff.mp hp).1
  have hch : (t.nodes.map ndDD)[p]? = some (ndDD n) := by rw [List.getElem?_map, hp]; rfl
  unfold G_Term_getitem S_Term_getitem tmD
  simp only [fnS, Pu.startB, sSeq, sAsg, sIf, sRet, sNext, sNew, sApp, sPar, sDem, demB, fVar, fVarT, fC, fOp, fTst, fAnd, fOr, fNot, fNew, fLst, fTup, fNil, fCons, fSl, oAt, oNo, fCB, fCall, fIf, fChain, fRng1, fIt, fJoin, RLen, RI0, RAdd, RIx, RSl, RIsN, RTuple, RIn, gN, bD, List.map_cons, List.map_nil, List.cons_append, List.nil_append, List.length_cons, List.length_nil, List.replicate, Nat.reduceSub, Nat.reduceAdd, List.getElem?_cons_zero, List.getElem?_cons_succ, List.set_cons_zero, List.set_cons_succ, Option.some.injEq, B.val.injEq, D.int.injEq, D.bl.injEq, D.str.injEq, D.tup.injEq, D.lst.injEq, exists_eq_left', exists_eq_left, exists_and_left, ex_eq, true_and, and_true, List.cons.injEq, fFld, sDrop, fMeth]
  refine ⟨_, _, rfl, by decide, t_require (d := d) TC hs hlt ?_⟩
  refine ⟨_, _, _, rfl, TC.cl, TC.n1, _, rfl, _, (by rw [atI_nat]; exact hch), q⟩
theorem t_above (TC : TK K A) {t : Tr} (hs : t.size ≤ 40) {p : Nat} (hlt : p < t.size) {d : D} {Q : D → Prop} {Z : ZX} (q : Q (iT (upz t p))) : G_Term_above K A [tmD A t d, .int (p : Int)] Q Z := by
  unfold G_Term_above S_Term_above tmD
  simp only [fnS, Pu.startB, sSeq, sAsg, sIf, sRet, sNext, sNew, sApp, sPar, sDem, demB, fVar, fVarT, fC, fOp, fTst, fAnd, fOr, fNot, fNew, fLst, fTup, fNil, fCons, fSl, oAt, oNo, fCB, fCall, fIf, fChain, fRng1, fIt, fJoin, RLen, RI0, RAdd, RIx, RSl, RIsN, RTuple, RIn, gN, bD, List.map_cons, List.map_nil, List.cons_append, List.nil_append, List.length_cons, List.length_nil, List.replicate, Nat.reduceSub, Nat.reduceAdd, List.getElem?_cons_zero, List.getElem?_cons_succ, List.set_cons_zero, List.set_cons_succ, Option.some.injEq, B.val.injEq, D.int.injEq, D.bl.injEq, D.str.injEq, D.tup.injEq, D.lst.injEq, exists_eq_left', exists_eq_left, exists_and_left, ex_eq, true_and, and_true, List.cons.injEq, sDrop, fMeth, fLc, seqD]
  refine ⟨_, _, rfl, by decide, t_require (d := d) TC hs hlt ?_⟩
  refine ⟨⟨by omega, by omega⟩, ?_⟩
  rw [show ((p : Int) + 1).toNat = p + 1 by omega]
  refine ⟨by rw [rngD, List.length_map, List.length_range, sizeLine_eq]; omega, ?_⟩
  refine lc_fil (h := fun (k : Nat) => D.int (0 + (k : Nat) * 1)) (f := fun (k : Nat) => D.int (k : Int)) (p := fun a => decide (p < a + ((t.parts[a]?).map Tr.size).getD 0)) (List.range (p + 1)) (fun k hk R r => ?_) (fun k _ _ R r => ?_) ?_
  · have hk := List.mem_range.mp hk
    obtain ⟨s, hsk⟩ := Tr.part_ex (t := t) (p := k) (by omega)
    have he : (iD (enF (t.ch 0) 0))[k]? = some (.int ((k + s.size : Nat) : Int)) := by unfold iD; rw [List.getElem?_map, Tr.ends_of hsk]; rfl
    simp only [fnS, Pu.startB, sSeq, sAsg, sIf, sRet, sNext, sNew, sApp, sPar, sDem, demB, fVar, fVarT, fC, fOp, fTst, fAnd, fOr, fNot, fNew, fLst, fTup, fNil, fCons, fSl, oAt, oNo, fCB, fCall, fIf, fChain, fRng1, fIt, fJoin, RLen, RI0, RAdd, RIx, RSl, RIsN, RTuple, RIn, gN, bD, List.map_cons, List.map_nil, List.cons_append, List.nil_append, List.length_cons, List.length_nil, List.replicate, Nat.reduceSub, Nat.reduceAdd, List.getElem?_cons_zero, List.getElem?_cons_succ, List.set_cons_zero, List.set_cons_succ, Option.some.injEq, B.val.injEq, D.int.injEq, D.bl.injEq, D.str.injEq, D.tup.injEq, D.lst.injEq, exists_eq_left', exists_eq_left, exists_and_left, ex_eq, true_and, and_true, List.cons.injEq, wipeB, fFld, RLt]
    refine ⟨_, _, _, rfl, TC.cl, TC.n3, _, rfl, _, (by rw [show (0 : Int) + (k : Int) * 1 = (k : Int) by omega, atI_nat]; exact he), ?_⟩
    rw [hsk] at r
    have e : decide ((p : Int) < ((k + s.size : Nat) : Int)) = decide (p < k + ((some s).map Tr.size).getD 0) := by rw [Bool.eq_iff_iff]; simp; omega
    exact ⟨_, rfl, by rw [e]; exact r⟩
  · simp only [fnS, Pu.startB, sSeq, sAsg, sIf, sRet, sNext, sNew, sApp, sPar, sDem, demB, fVar, fVarT, fC, fOp, fTst, fAnd, fOr, fNot, fNew, fLst, fTup, fNil, fCons, fSl, oAt, oNo, fCB, fCall, fIf, fChain, fRng1, fIt, fJoin, RLen, RI0, RAdd, RIx, RSl, RIsN, RTuple, RIn, gN, bD, List.map_cons, List.map_nil, List.cons_append, List.nil_append, List.length_cons, List.length_nil, List.replicate, Nat.reduceSub, Nat.reduceAdd, List.getElem?_cons_zero, List.getElem?_cons_succ, List.set_cons_zero, List.set_cons_succ, Option.some.injEq, B.val.injEq, D.int.injEq, D.bl.injEq, D.str.injEq, D.tup.injEq, D.lst.injEq, exists_eq_left', exists_eq_left, exists_and_left, ex_eq, true_and, and_true, List.cons.injEq, wipeB]
    rw [show (0 : Int) + (k : Int) * 1 = (k : Int) by omega]
    exact r
  · exact q
end
end K5

set_option Elab.async false
set_option maxRecDepth 100000
set_option maxHeartbeats 1000000
set_option linter.all false
namespace K5
open PySem PySem.Spec PyProof.Rows L2 Ly Pu TM
def DeOk (t : Tr) (m : Nat) (dl : List Nat) : Prop := dl.length = t.size ∧ ∀ p s, m ≤ p → t.parts[p]? = some s → dl[p]? = some (s.ht + 1)
def deB (K : PySem.W.Frag) (A : Adr) : FS := (sPut 1 (fVar 3) (fOp RAdd (fC (.int 1)) (fMaxD (fNew (fLc (fIt (fOp RIx (fFld K "own_children" (fVarT 0)) (fVarT 3))) (gN 4) fYes (fOp RIx (fVarT 1) (fVarT 4)) [4])) 0)))
section
variable {K : PySem.W.Frag} {A : Adr}
theorem de_loop (TC : TK K A) {t : Tr} (hs : t.size ≤ 40) {d : D} {De : EndsD} (hx : ∀ dl o2 o3 o4, DeOk t 0 dl → De.nx [.val (tmD A t d), .lst (iD dl), o2, o3, o4]) :
    ∀ (m : Nat) (dl : List Nat) (o2 o3 o4 : B), m ≤ t.size → DeOk t m dl → forD (gN 3) (deB K A) (dwn m) [.val (tmD A t d), .lst (iD dl), o2, o3, o4] De
  | 0, dl, o2, o3, o4, _, h => hx dl o2 o3 o4 h
  | m + 1, dl, o2, o3, o4, hm, h => by
    obtain ⟨s, hsm⟩ := Tr.part_ex (t := t) (p := m) (by omega)
    cases s with
    | nd w ts =>
      have hsub := Tr.part_sub hsm
      have hch : ((t.ch 0).map iT)[m]? = some (iT (roots ts (m + 1))) := by rw [List.getElem?_map, hsub.at.2]; rfl
      have ih := fun (dl : List Nat) (o2 o3 o4 : B) => de_loop TC hs hx m dl o2 o3 o4 (by omega)
      have hle := hsub.le
      have hsz : (nodesL ts).length + 1 = Tr.size (.nd w ts) := rfl
      have hul := lenL ts
      have hrl := roots_len ts (m + 1)
      have htn : t.nodes.length = t.size := rfl
      unfold dwn forD deB tmD
      simp only [fnS, Pu.startB, sSeq, sAsg, sIf, sRet, sNext, sNew, sApp, sPar, sDem, demB, fVar, fVarT, fC, fOp, fTst, fAnd, fOr, fNot, fNew, fLst, fTup, fNil, fCons, fSl, oAt, oNo, fCB, fCall, fIf, fChain, fRng1, fIt, fJoin, RLen, RI0, RAdd, RIx, RSl, RIsN, RTuple, RIn, gN, bD, List.map_cons, List.map_nil, List.cons_append, List.nil_append, List.length_cons, List.length_nil, List.replicate, Nat.reduceSub, Nat.reduceAdd, List.getElem?_cons_zero, List.getElem?_cons_succ, List.set_cons_zero, List.set_cons_succ, Option.some.injEq, B.val.injEq, D.int.injEq, D.bl.injEq, D.str.injEq, D.tup.injEq, D.lst.injEq, exists_eq_left', exists_eq_left, exists_and_left, ex_eq, true_and, and_true, List.cons.injEq, B.lst.injEq, sPut, fFld, fLc, fMaxD, itD, wipeB]
      refine ⟨_, _, _, rfl, TC.cl, TC.n2, _, rfl, _, (by rw [atI_nat]; exact hch), ?_⟩
      unfold iT
      refine ⟨_, rfl, by rw [iD_len, hrl, sizeLine_eq]; omega, ?_⟩
      have hL1 : (((roots ts (m + 1)).zip ts).map Prod.fst) = roots ts (m + 1) := List.map_fst_zip (by omega)
      have hL2 : (((roots ts (m + 1)).zip ts).map Prod.snd) = ts := List.map_snd_zip (by omega)
      have e3 : iD (roots ts (m + 1)) = ((roots ts (m + 1)).zip ts).map fun x => D.int (x.1 : Int) := by
        conv => lhs; rw [← hL1]
        unfold iD
        rw [List.map_map]
        rfl
      rw [e3]
      refine lc_map (f := fun x => D.int ((x.2.ht + 1 : Nat) : Int)) _ (fun x hx R r => ?_) ?_
      · obtain ⟨i, hi⟩ := List.getElem?_of_mem hx
        rw [List.getElem?_zip_eq_some] at hi
        obtain ⟨c, hc, hpc⟩ := Tr.kids hsm i x.1 hi.1
        rw [hi.2] at hc
        cases hc
        have hgt := roots_gt ts (m + 1) x.1 (List.mem_of_getElem? hi.1)
        have hd := h.2 x.1 x.2 hgt hpc
        simp only [fnS, Pu.startB, sSeq, sAsg, sIf, sRet, sNext, sNew, sApp, sPar, sDem, demB, fVar, fVarT, fC, fOp, fTst, fAnd, fOr, fNot, fNew, fLst, fTup, fNil, fCons, fSl, oAt, oNo, fCB, fCall, fIf, fChain, fRng1, fIt, fJoin, RLen, RI0, RAdd, RIx, RSl, RIsN, RTuple, RIn, gN, bD, List.map_cons, List.map_nil, List.cons_append, List.nil_append, List.length_cons, List.length_nil, List.replicate, Nat.reduceSub, Nat.reduceAdd, List.getElem?_cons_zero, List.getElem?_cons_succ, List.set_cons_zero, List.set_cons_succ, Option.some.injEq, B.val.injEq, D.int.injEq, D.bl.injEq, D.str.injEq, D.tup.injEq, D.lst.injEq, exists_eq_left', exists_eq_left, exists_and_left, ex_eq, true_and, and_true, List.cons.injEq, wipeB]
        refine ⟨_, (by rw [atI_nat]; unfold iD; rw [List.getElem?_map, hd]; rfl), r⟩
      · have e4 : (((roots ts (m + 1)).zip ts).map fun x => D.int ((x.2.ht + 1 : Nat) : Int)) = (ts.map fun t => ((t.ht + 1 : Nat) : Int)).map D.int := by
          conv => rhs; rw [← hL2]
          rw [List.map_map, List.map_map]
          rfl
        rw [e4]
        refine ⟨_, rfl, fun M hM => ?_⟩
        have hM2 : M = (htL ts : Int) := htL_max ts (by
          rcases hM with ⟨a, b⟩ | hM
          · exact .inl ⟨List.map_eq_nil_iff.mp a, b⟩
          · exact .inr hM)
        subst hM2
        refine ⟨m, ixN_nat (by rw [iD_len, h.1]; omega), ?_⟩
        have e : (iD dl).set m (.int (1 + (htL ts : Int))) = iD (dl.set m (htL ts + 1)) := by
          unfold iD
          rw [List.map_set]
          congr 2
          omega
        rw [e]
        refine ih _ _ _ _ ⟨by rw [List.length_set]; exact h.1, fun p s hp hs2 => ?_⟩
        by_cases hpm : p = m
        · subst hpm
          rw [hsm] at hs2
          cases hs2
          rw [List.getElem?_set_self (by rw [h.1]; omega)]
          rfl
        · rw [List.getElem?_set_ne (Ne.symm hpm)]
          exact h.2 p s (by omega) hs2
theorem t_depth (TC : TK K A) {t : Tr} (hs : t.size ≤ 40) {d : D} {Q : D → Prop} {Z : ZX} (q : Q (.int ((t.ht + 1 : Nat) : Int))) : G_Term_depth K A [tmD A t d] Q Z := by
  have htn : t.nodes.length = t.size := rfl
  unfold G_Term_depth S_Term_depth tmD
  simp only [fnS, Pu.startB, sSeq, sAsg, sIf, sRet, sNext, sNew, sApp, sPar, sDem, demB, fVar, fVarT, fC, fOp, fTst, fAnd, fOr, fNot, fNew, fLst, fTup, fNil, fCons, fSl, oAt, oNo, fCB, fCall, fIf, fChain, fRng1, fIt, fJoin, RLen, RI0, RAdd, RIx, RSl, RIsN, RTuple, RIn, gN, bD, List.map_cons, List.map_nil, List.cons_append, List.nil_append, List.length_cons, List.length_nil, List.replicate, Nat.reduceSub, Nat.reduceAdd, List.getElem?_cons_zero, List.getElem?_cons_succ, List.set_cons_zero, List.set_cons_succ, Option.some.injEq, B.val.injEq, D.int.injEq, D.bl.injEq, D.str.injEq, D.tup.injEq, D.lst.injEq, exists_eq_left', exists_eq_left, exists_and_left, ex_eq, true_and, and_true, List.cons.injEq, fFld, fLc, itD, sFor, fRng3, fNeg, RSub, lenD]
  refine ⟨_, _, _, rfl, TC.cl, TC.n1, _, rfl, ?_⟩
  unfold ndsDD
  refine ⟨_, rfl, by rw [List.length_map, sizeLine_eq]; omega, ?_⟩
  refine lc_map (f := fun _ => D.int 1) t.nodes (fun n _ R r => ?_) ?_
  · simp only [fnS, Pu.startB, sSeq, sAsg, sIf, sRet, sNext, sNew, sApp, sPar, sDem, demB, fVar, fVarT, fC, fOp, fTst, fAnd, fOr, fNot, fNew, fLst, fTup, fNil, fCons, fSl, oAt, oNo, fCB, fCall, fIf, fChain, fRng1, fIt, fJoin, RLen, RI0, RAdd, RIx, RSl, RIsN, RTuple, RIn, gN, bD, List.map_cons, List.map_nil, List.cons_append, List.nil_append, List.length_cons, List.length_nil, List.replicate, Nat.reduceSub, Nat.reduceAdd, List.getElem?_cons_zero, List.getElem?_cons_succ, List.set_cons_zero, List.set_cons_succ, Option.some.injEq, B.val.injEq, D.int.injEq, D.bl.injEq, D.str.injEq, D.tup.injEq, D.lst.injEq, exists_eq_left', exists_eq_left, exists_and_left, ex_eq, true_and, and_true, List.cons.injEq, wipeB]
    exact r
  have e0 : (t.nodes.map fun _ => D.int 1) = iD (List.replicate t.size 1) := by
    unfold iD
    rw [List.map_replicate, ← htn, List.map_const']
    rfl
  rw [e0]
  refine ⟨_, _, ⟨rfl, rfl⟩, ?_⟩
  rw [iD_len, List.length_replicate]
  refine ⟨⟨by omega, by omega⟩, by decide, ?_⟩
  rw [show ((t.size : Int) - 1 - -1).toNat = t.size by omega, rng_dwn]
  refine de_loop (K := K) (A := A) (d := d) TC hs (fun dl o2 o3 o4 h => ?_) t.size _ _ _ _ (Nat.le_refl _) ⟨by rw [List.length_replicate], fun p s hp hps => ?_⟩
  · obtain ⟨l, hl⟩ := parts_cons t
    have h0 := h.2 0 t (Nat.le_refl _) (by rw [hl]; rfl)
    exact ⟨_, rfl, _, rfl, _, (by rw [show (0 : Int) = ((0 : Nat) : Int) from rfl, atI_nat]; unfold iD; rw [List.getElem?_map, h0]; rfl), q⟩
  · have := (List.getElem?_eq_some_iff.mp hps).1
    rw [t.parts_len] at this
    omega
theorem t_in (TC : TK K A) {t : Tr} (hs : t.size ≤ 40) {Q : D → Prop} {Z : ZX} (q : ∀ d, Q (tmD A t d)) : G_term_in K A [ndsDD t.nodes] Q Z := by
  unfold G_term_in S_term_in
  simp only [fnS, Pu.startB, sSeq, sAsg, sIf, sRet, sNext, sNew, sApp, sPar, sDem, demB, fVar, fVarT, fC, fOp, fTst, fAnd, fOr, fNot, fNew, fLst, fTup, fNil, fCons, fSl, oAt, oNo, fCB, fCall, fIf, fChain, fRng1, fIt, fJoin, RLen, RI0, RAdd, RIx, RSl, RIsN, RTuple, RIn, gN, bD, List.map_cons, List.map_nil, List.cons_append, List.nil_append, List.length_cons, List.length_nil, List.replicate, Nat.reduceSub, Nat.reduceAdd, List.getElem?_cons_zero, List.getElem?_cons_succ, List.set_cons_zero, List.set_cons_succ, Option.some.injEq, B.val.injEq, D.int.injEq, D.bl.injEq, D.str.injEq, D.tup.injEq, D.lst.injEq, exists_eq_left', exists_eq_left, exists_and_left, ex_eq, true_and, and_true, List.cons.injEq]
  intro x
  unfold S_Nodes_init initB
  simp only [fnS, Pu.startB, sSeq, sAsg, sIf, sRet, sNext, sNew, sApp, sPar, sDem, demB, fVar, fVarT, fC, fOp, fTst, fAnd, fOr, fNot, fNew, fLst, fTup, fNil, fCons, fSl, oAt, oNo, fCB, fCall, fIf, fChain, fRng1, fIt, fJoin, RLen, RI0, RAdd, RIx, RSl, RIsN, RTuple, RIn, gN, bD, List.map_cons, List.map_nil, List.cons_append, List.nil_append, List.length_cons, List.length_nil, List.replicate, Nat.reduceSub, Nat.reduceAdd, List.getElem?_cons_zero, List.getElem?_cons_succ, List.set_cons_zero, List.set_cons_succ, Option.some.injEq, B.val.injEq, D.int.injEq, D.bl.injEq, D.str.injEq, D.tup.injEq, D.lst.injEq, exists_eq_left', exists_eq_left, exists_and_left, ex_eq, true_and, and_true, List.cons.injEq, sFldS]
  refine ⟨_, _, _, _, rfl, TC.clN, TC.m1, by decide, _, _, rfl, ?_⟩
  exact term_initN TC hs q
theorem t_part (TC : TK K A) {t s : Tr} (hs : t.size ≤ 40) {p : Nat} (hp : t.parts[p]? = some s) {d : D} {Q : D → Prop} {Z : ZX} (q : ∀ d, Q (tmD A s d)) : G_Term_part K A [tmD A t d, .int (p : Int)] Q Z := by
  have hsub := Tr.part_sub hp
  have hle := hsub.le
  have htn : t.nodes.length = t.size := rfl
  have h1 := s.size_pos
  unfold G_Term_part S_Term_part tmD
  simp only [fnS, Pu.startB, sSeq, sAsg, sIf, sRet, sNext, sNew, sApp, sPar, sDem, demB, fVar, fVarT, fC, fOp, fTst, fAnd, fOr, fNot, fNew, fLst, fTup, fNil, fCons, fSl, oAt, oNo, fCB, fCall, fIf, fChain, fRng1, fIt, fJoin, RLen, RI0, RAdd, RIx, RSl, RIsN, RTuple, RIn, gN, bD, List.map_cons, List.map_nil, List.cons_append, List.nil_append, List.length_cons, List.length_nil, List.replicate, Nat.reduceSub, Nat.reduceAdd, List.getElem?_cons_zero, List.getElem?_cons_succ, List.set_cons_zero, List.set_cons_succ, Option.some.injEq, B.val.injEq, D.int.injEq, D.bl.injEq, D.str.injEq, D.tup.injEq, D.lst.injEq, exists_eq_left', exists_eq_left, exists_and_left, ex_eq, true_and, and_true, List.cons.injEq, sDrop, fMeth]
  refine ⟨_, _, rfl, by decide, t_require (d := d) TC hs (by omega) ?_⟩
  unfold G_part_in S_part_in
  simp only [fnS, Pu.startB, sSeq, sAsg, sIf, sRet, sNext, sNew, sApp, sPar, sDem, demB, fVar, fVarT, fC, fOp, fTst, fAnd, fOr, fNot, fNew, fLst, fTup, fNil, fCons, fSl, oAt, oNo, fCB, fCall, fIf, fChain, fRng1, fIt, fJoin, RLen, RI0, RAdd, RIx, RSl, RIsN, RTuple, RIn, gN, bD, List.map_cons, List.map_nil, List.cons_append, List.nil_append, List.length_cons, List.length_nil, List.replicate, Nat.reduceSub, Nat.reduceAdd, List.getElem?_cons_zero, List.getElem?_cons_succ, List.set_cons_zero, List.set_cons_succ, Option.some.injEq, B.val.injEq, D.int.injEq, D.bl.injEq, D.str.injEq, D.tup.injEq, D.lst.injEq, exists_eq_left', exists_eq_left, exists_and_left, ex_eq, true_and, and_true, List.cons.injEq, fFld]
  have he : (iD (enF (t.ch 0) 0))[p]? = some (.int ((p + s.size : Nat) : Int)) := by unfold iD; rw [List.getElem?_map, Tr.ends_of hp]; rfl
  refine ⟨_, _, _, rfl, TC.cl, TC.n1, _, rfl, _, _, _, rfl, TC.cl, TC.n3, _, rfl, ?_⟩
  refine ⟨_, (by rw [atI_nat]; exact he), _, rfl, ?_⟩
  have ec : Pu.cutD (t.nodes.map ndDD) (some (p : Int)) (some ((p + s.size : Nat) : Int)) = s.nodes.map ndDD := by
    unfold Pu.cutD
    rw [HT.sIx_nat, HT.sIx_nat, List.length_map, Nat.min_eq_left (by omega), Nat.min_eq_left (by omega), show p + s.size - p = s.size by omega, ← List.map_drop, ← List.map_take, hsub.cut]
  show G_term_in K A [D.tup (Pu.cutD (t.nodes.map ndDD) _ _)] Q Z
  rw [ec]
  exact t_in TC (by omega) q
end
end K5

set_option Elab.async false
set_option maxRecDepth 100000
set_option maxHeartbeats 1000000
set_option linter.all false
namespace K5
open PySem PySem.Spec PyProof.Rows L2 Ly Pu TM
theorem nd_eqv (m n : Nd) : PyData.eqv (toP (ndDD m)) (toP (ndDD n)) = decide (m = n) := by
  show PyData.eqv (.tuple [.str m.1, .int (m.2 : Int)]) (.tuple [.str n.1, .int (n.2 : Int)]) = decide (m = n)
  simp only [PyData.eqv, PyData.eqvAll]
  rw [Bool.eq_iff_iff]
  simp
  constructor
  · rintro ⟨h1, h2⟩
    exact Prod.ext h1 (by omega)
  · rintro rfl
    exact ⟨rfl, rfl⟩
theorem nd_shp {n : Nd} (h : LabT n.1) : shp (ndDD n) := by
  have hw := strOk_lab h
  show SeqAt.shaped (.tuple [.str n.1, .int (n.2 : Int)]) = true
  unfold SeqAt.shaped
  simp only [PyData.canLay0, PyData.canLayAll0, PyData.depth, PyData.depthAll, hw, Bool.and_true, Bool.true_and]
  exact decide_eq_true (by omega)
theorem eq_nd {m n : Nd} (hm : LabT m.1) (hn : LabT n.1) {Q : D → Prop} (q : Q (.bl (decide (m = n)))) : REq (ndDD m) (ndDD n) Q := by
  refine ⟨nd_shp hm, nd_shp hn, ?_⟩
  rw [nd_eqv]
  exact q
theorem any_nd (n : Nd) : ∀ nds : List Nd, ((nds.map ndDD).any fun y => PyData.eqv (toP y) (toP (ndDD n))) = decide (n ∈ nds)
  | [] => by simp
  | m :: nds => by
    rw [List.map_cons, List.any_cons, any_nd n nds, nd_eqv]
    by_cases h : m = n
    · subst h
      simp
    · rw [decide_eq_false h, Bool.false_or]
      exact decide_eq_decide.mpr ⟨fun h => List.mem_cons_of_mem _ h, fun hm => (List.mem_cons.mp hm).resolve_left (fun e => h e.symm)⟩
section
variable {K : PySem.W.Frag} {A : Adr}
theorem within_no {v : D} (ho : okI K v) (h : kdIs (kdD v) "int" = false ∨ kdIs (kdD v) "bool" = true) {lo hi : Int} {Q : D → Prop} {Z : ZX} (q : Q (.bl false)) : G_is_within K A [v, .int lo, .int hi] Q Z := by
  unfold G_is_within S_is_within
  simp only [fnS, Pu.startB, sSeq, sAsg, sIf, sRet, sNext, sNew, sApp, sPar, sDem, demB, fVar, fVarT, fC, fOp, fTst, fAnd, fOr, fNot, fNew, fLst, fTup, fNil, fCons, fSl, oAt, oNo, fCB, fCall, fIf, fChain, fRng1, fIt, fJoin, RLen, RI0, RAdd, RIx, RSl, RIsN, RTuple, RIn, gN, bD, List.map_cons, List.map_nil, List.cons_append, List.nil_append, List.length_cons, List.length_nil, List.replicate, Nat.reduceSub, Nat.reduceAdd, List.getElem?_cons_zero, List.getElem?_cons_succ, List.set_cons_zero, List.set_cons_succ, Option.some.injEq, B.val.injEq, D.int.injEq, D.bl.injEq, D.str.injEq, D.tup.injEq, D.lst.injEq, exists_eq_left', exists_eq_left, exists_and_left, ex_eq, true_and, and_true, List.cons.injEq, fAndV]
  unfold G_is_integer S_is_integer
  simp only [fnS, Pu.startB, sSeq, sAsg, sIf, sRet, sNext, sNew, sApp, sPar, sDem, demB, fVar, fVarT, fC, fOp, fTst, fAnd, fOr, fNot, fNew, fLst, fTup, fNil, fCons, fSl, oAt, oNo, fCB, fCall, fIf, fChain, fRng1, fIt, fJoin, RLen, RI0, RAdd, RIx, RSl, RIsN, RTuple, RIn, gN, bD, List.map_cons, List.map_nil, List.cons_append, List.nil_append, List.length_cons, List.length_nil, List.replicate, Nat.reduceSub, Nat.reduceAdd, List.getElem?_cons_zero, List.getElem?_cons_succ, List.set_cons_zero, List.set_cons_succ, Option.some.injEq, B.val.injEq, D.int.injEq, D.bl.injEq, D.str.injEq, D.tup.injEq, D.lst.injEq, exists_eq_left', exists_eq_left, exists_and_left, ex_eq, true_and, and_true, List.cons.injEq, fAndV, fIsi, fNotV, fNeg]
  refine ⟨ho, ?_⟩
  cases c : kdIs (kdD v) "int" with
  | false =>
    rw [if_neg (by simp)]
    exact q
  | true =>
    rcases h with h | h
    · rw [h] at c; cases c
    · rw [if_pos rfl]
      refine ⟨ho, ?_⟩
      rw [h]
      rw [if_neg (by simp), if_neg (by simp)]
      exact q
theorem node_no {v : D} (ho : okI K v) (h : kdIs (kdD v) "tuple" = false) {Q : D → Prop} {Z : ZX} (q : Q (.bl false)) : G_is_node K A [v] Q Z := by
  unfold G_is_node S_is_node
  simp only [fnS, Pu.startB, sSeq, sAsg, sIf, sRet, sNext, sNew, sApp, sPar, sDem, demB, fVar, fVarT, fC, fOp, fTst, fAnd, fOr, fNot, fNew, fLst, fTup, fNil, fCons, fSl, oAt, oNo, fCB, fCall, fIf, fChain, fRng1, fIt, fJoin, RLen, RI0, RAdd, RIx, RSl, RIsN, RTuple, RIn, gN, bD, List.map_cons, List.map_nil, List.cons_append, List.nil_append, List.length_cons, List.length_nil, List.replicate, Nat.reduceSub, Nat.reduceAdd, List.getElem?_cons_zero, List.getElem?_cons_succ, List.set_cons_zero, List.set_cons_succ, Option.some.injEq, B.val.injEq, D.int.injEq, D.bl.injEq, D.str.injEq, D.tup.injEq, D.lst.injEq, exists_eq_left', exists_eq_left, exists_and_left, ex_eq, true_and, and_true, List.cons.injEq, fIsi]
  refine ⟨ho, ?_⟩
  rw [h, if_pos (by rfl)]
  exact q
theorem node_len {ds : List D} (h : ds.length ≠ 2) {Q : D → Prop} {Z : ZX} (q : Q (.bl false)) : G_is_node K A [.tup ds] Q Z := by
  unfold G_is_node S_is_node
  simp only [fnS, Pu.startB, sSeq, sAsg, sIf, sRet, sNext, sNew, sApp, sPar, sDem, demB, fVar, fVarT, fC, fOp, fTst, fAnd, fOr, fNot, fNew, fLst, fTup, fNil, fCons, fSl, oAt, oNo, fCB, fCall, fIf, fChain, fRng1, fIt, fJoin, RLen, RI0, RAdd, RIx, RSl, RIsN, RTuple, RIn, gN, bD, List.map_cons, List.map_nil, List.cons_append, List.nil_append, List.length_cons, List.length_nil, List.replicate, Nat.reduceSub, Nat.reduceAdd, List.getElem?_cons_zero, List.getElem?_cons_succ, List.set_cons_zero, List.set_cons_succ, Option.some.injEq, B.val.injEq, D.int.injEq, D.bl.injEq, D.str.injEq, D.tup.injEq, D.lst.injEq, exists_eq_left', exists_eq_left, exists_and_left, ex_eq, true_and, and_true, List.cons.injEq, fIsi, okI, kdD, kdIs, lenD, RNe, sc]
  rw [if_neg (by decide), if_pos (by rw [decide_eq_false (by omega)]; rfl)]
  exact q
theorem node_2 {x v : D} (ho : okI K v) (h : kdIs (kdD v) "int" = false ∨ kdIs (kdD v) "bool" = true) {Q : D → Prop} {Z : ZX} (q : Q (.bl false)) : G_is_node K A [.tup [x, v]] Q Z := by
  unfold G_is_node S_is_node
  simp only [fnS, Pu.startB, sSeq, sAsg, sIf, sRet, sNext, sNew, sApp, sPar, sDem, demB, fVar, fVarT, fC, fOp, fTst, fAnd, fOr, fNot, fNew, fLst, fTup, fNil, fCons, fSl, oAt, oNo, fCB, fCall, fIf, fChain, fRng1, fIt, fJoin, RLen, RI0, RAdd, RIx, RSl, RIsN, RTuple, RIn, gN, bD, List.map_cons, List.map_nil, List.cons_append, List.nil_append, List.length_cons, List.length_nil, List.replicate, Nat.reduceSub, Nat.reduceAdd, List.getElem?_cons_zero, List.getElem?_cons_succ, List.set_cons_zero, List.set_cons_succ, Option.some.injEq, B.val.injEq, D.int.injEq, D.bl.injEq, D.str.injEq, D.tup.injEq, D.lst.injEq, exists_eq_left', exists_eq_left, exists_and_left, ex_eq, true_and, and_true, List.cons.injEq, fIsi, okI, kdD, kdIs, lenD, RNe, sc, at1]
  rw [if_neg (by decide), if_neg (by decide)]
  refine within_no ho h ⟨_, rfl, ?_⟩
  rw [if_pos (by rfl)]
  exact q
theorem t_containsX (TC : TK K A) {t : Tr} {d v : D} (hv : ∀ (Q : D → Prop) (Z : ZX), Q (.bl false) → G_is_node K A [v] Q Z) {Q : D → Prop} {Z : ZX} (q : Q (.bl false)) : G_Term_contains K A [tmD A t d, v] Q Z := by
  unfold G_Term_contains S_Term_contains tmD
  simp only [fnS, Pu.startB, sSeq, sAsg, sIf, sRet, sNext, sNew, sApp, sPar, sDem, demB, fVar, fVarT, fC, fOp, fTst, fAnd, fOr, fNot, fNew, fLst, fTup, fNil, fCons, fSl, oAt, oNo, fCB, fCall, fIf, fChain, fRng1, fIt, fJoin, RLen, RI0, RAdd, RIx, RSl, RIsN, RTuple, RIn, gN, bD, List.map_cons, List.map_nil, List.cons_append, List.nil_append, List.length_cons, List.length_nil, List.replicate, Nat.reduceSub, Nat.reduceAdd, List.getElem?_cons_zero, List.getElem?_cons_succ, List.set_cons_zero, List.set_cons_succ, Option.some.injEq, B.val.injEq, D.int.injEq, D.bl.injEq, D.str.injEq, D.tup.injEq, D.lst.injEq, exists_eq_left', exists_eq_left, exists_and_left, ex_eq, true_and, and_true, List.cons.injEq, fAndV]
  refine hv _ _ ⟨_, rfl, ?_⟩
  rw [if_neg (by simp)]
  exact q
theorem t_containsN (TC : TK K A) {t : Tr} (hg : GoodT t) {d : D} {n : Nd} (h : n.1.length ≤ 100000 ∧ n.2 < 1000) (hL : LabT n.1) {Q : D → Prop} {Z : ZX} (q : Q (.bl (isNode2 (.str n.1) (.int (n.2 : Int)) && decide (n ∈ t.nodes)))) : G_Term_contains K A [tmD A t d, ndDD n] Q Z := by
  unfold G_Term_contains S_Term_contains tmD
  simp only [fnS, Pu.startB, sSeq, sAsg, sIf, sRet, sNext, sNew, sApp, sPar, sDem, demB, fVar, fVarT, fC, fOp, fTst, fAnd, fOr, fNot, fNew, fLst, fTup, fNil, fCons, fSl, oAt, oNo, fCB, fCall, fIf, fChain, fRng1, fIt, fJoin, RLen, RI0, RAdd, RIx, RSl, RIsN, RTuple, RIn, gN, bD, List.map_cons, List.map_nil, List.cons_append, List.nil_append, List.length_cons, List.length_nil, List.replicate, Nat.reduceSub, Nat.reduceAdd, List.getElem?_cons_zero, List.getElem?_cons_succ, List.set_cons_zero, List.set_cons_succ, Option.some.injEq, B.val.injEq, D.int.injEq, D.bl.injEq, D.str.injEq, D.tup.injEq, D.lst.injEq, exists_eq_left', exists_eq_left, exists_and_left, ex_eq, true_and, and_true, List.cons.injEq, fAndV, fFld]
  refine is_node h ⟨_, rfl, ?_⟩
  cases c : isNode2 (.str n.1) (.int (n.2 : Int)) with
  | false =>
    rw [c, Bool.false_and] at q
    rw [if_neg (by simp)]
    exact q
  | true =>
    rw [c, Bool.true_and] at q
    rw [if_pos rfl]
    refine ⟨_, _, _, rfl, TC.cl, TC.n1, _, rfl, _, rfl, nd_shp hL, nds_shp (goodLab hg), ?_⟩
    rw [any_nd, Bool.false_bne]
    exact q
theorem parts_loop {n : Nat} {De : EndsD} {v0 : B} (ih : ∀ (t : Tr) (Q : D → Prop), t.ht < n → t.size ≤ 2000 → Q (.lst (t.parts.map trD)) → G_parts K A n [trD t] Q De.ex) :
    ∀ (ts : List Tr) (acc : List Tr) (o : B), (∀ t ∈ ts, t.ht < n) → acc.length + (partsL ts).length ≤ 2000 → (∀ o, De.nx [v0, .val (.lst ((acc ++ partsL ts).map trD)), o]) →
      forD (gN 2) (sAsg 1 (fOp RAdd (fVarT 1) (fCall (G_parts K A n) 1 (fCons (fVar 2) fNil)))) (trsD ts) [v0, .val (.lst (acc.map trD)), o] De
  | [], acc, o, _, _, h => by
    have := h o
    rw [show partsL [] = [] from rfl, List.append_nil] at this
    exact this
  | t :: ts, acc, o, hh, hl, h => by
    have hl : acc.length + (t.parts ++ partsL ts).length ≤ 2000 := hl
    rw [List.length_append] at hl
    unfold trsD forD
    simp only [fnS, Pu.startB, sSeq, sAsg, sIf, sRet, sNext, sNew, sApp, sPar, sDem, demB, fVar, fVarT, fC, fOp, fTst, fAnd, fOr, fNot, fNew, fLst, fTup, fNil, fCons, fSl, oAt, oNo, fCB, fCall, fIf, fChain, fRng1, fIt, fJoin, RLen, RI0, RAdd, RIx, RSl, RIsN, RTuple, RIn, gN, bD, List.map_cons, List.map_nil, List.cons_append, List.nil_append, List.length_cons, List.length_nil, List.replicate, Nat.reduceSub, Nat.reduceAdd, List.getElem?_cons_zero, List.getElem?_cons_succ, List.set_cons_zero, List.set_cons_succ, Option.some.injEq, B.val.injEq, D.int.injEq, D.bl.injEq, D.str.injEq, D.tup.injEq, D.lst.injEq, exists_eq_left', exists_eq_left, exists_and_left, ex_eq, true_and, and_true, List.cons.injEq]
    refine ih t _ (hh t (List.mem_cons_self ..)) (by rw [← t.parts_len]; omega) ?_
    simp only [fnS, Pu.startB, sSeq, sAsg, sIf, sRet, sNext, sNew, sApp, sPar, sDem, demB, fVar, fVarT, fC, fOp, fTst, fAnd, fOr, fNot, fNew, fLst, fTup, fNil, fCons, fSl, oAt, oNo, fCB, fCall, fIf, fChain, fRng1, fIt, fJoin, RLen, RI0, RAdd, RIx, RSl, RIsN, RTuple, RIn, gN, bD, List.map_cons, List.map_nil, List.cons_append, List.nil_append, List.length_cons, List.length_nil, List.replicate, Nat.reduceSub, Nat.reduceAdd, List.getElem?_cons_zero, List.getElem?_cons_succ, List.set_cons_zero, List.set_cons_succ, Option.some.injEq, B.val.injEq, D.int.injEq, D.bl.injEq, D.str.injEq, D.tup.injEq, D.lst.injEq, exists_eq_left', exists_eq_left, exists_and_left, ex_eq, true_and, and_true, List.cons.injEq]
    rw [List.length_map, List.length_map, ← List.map_append]
    refine ⟨by rw [sizeLine_eq]; omega, ?_⟩
    refine parts_loop ih ts (acc ++ t.parts) _ (fun u hu => hh u (List.mem_cons_of_mem _ hu)) (by rw [List.length_append]; omega) fun o => ?_
    have := h o
    rw [show partsL (t :: ts) = t.parts ++ partsL ts from rfl, ← List.append_assoc] at this
    exact this
theorem parts : ∀ (n : Nat) (t : Tr) (Q : D → Prop) (Z : ZX), t.ht < n → t.size ≤ 2000 → Q (.lst (t.parts.map trD)) → G_parts K A n [trD t] Q Z
  | 0, t, Q, Z, h, _, _ => by omega
  | n + 1, .nd w ts, Q, Z, h, hs, q => by
    have hs : (nodesL ts).length + 1 ≤ 2000 := hs
    have hul := lenL ts
    have hpl := partsL_len ts
    show fnS 3 (S_parts K A (G_parts K A n)) _ Q Z
    unfold S_parts trD
    simp only [fnS, Pu.startB, sSeq, sAsg, sIf, sRet, sNext, sNew, sApp, sPar, sDem, demB, fVar, fVarT, fC, fOp, fTst, fAnd, fOr, fNot, fNew, fLst, fTup, fNil, fCons, fSl, oAt, oNo, fCB, fCall, fIf, fChain, fRng1, fIt, fJoin, RLen, RI0, RAdd, RIx, RSl, RIsN, RTuple, RIn, gN, bD, List.map_cons, List.map_nil, List.cons_append, List.nil_append, List.length_cons, List.length_nil, List.replicate, Nat.reduceSub, Nat.reduceAdd, List.getElem?_cons_zero, List.getElem?_cons_succ, List.set_cons_zero, List.set_cons_succ, Option.some.injEq, B.val.injEq, D.int.injEq, D.bl.injEq, D.str.injEq, D.tup.injEq, D.lst.injEq, exists_eq_left', exists_eq_left, exists_and_left, ex_eq, true_and, and_true, List.cons.injEq, at0, at1, lenD, sFor, itD]
    have hh : htL ts < n + 1 := h
    refine ⟨by decide, ?_⟩
    refine parts_loop (v0 := .val (.tup [.str w, .tup (trsD ts)])) (fun t Q a b c => parts n t Q _ a b c) ts [.nd w ts] .un (fun u hu => by have := htL_lt hu; omega) (by show 1 + _ ≤ _; omega) fun o => ?_
    exact ⟨_, rfl, q⟩
theorem deep : ∀ (n : Nat) (t : Tr) (Q : D → Prop) (Z : ZX), t.ht < n → t.size ≤ 2000 → Q (.int ((t.ht + 1 : Nat) : Int)) → G_deep K A n [trD t] Q Z
  | 0, t, Q, Z, h, _, _ => by omega
  | n + 1, .nd w ts, Q, Z, h, hs, q => by
    have hs : (nodesL ts).length + 1 ≤ 2000 := hs
    have hul := lenL ts
    show fnS 2 (S_deep K A (G_deep K A n)) _ Q Z
    unfold S_deep trD
    simp only [fnS, Pu.startB, sSeq, sAsg, sIf, sRet, sNext, sNew, sApp, sPar, sDem, demB, fVar, fVarT, fC, fOp, fTst, fAnd, fOr, fNot, fNew, fLst, fTup, fNil, fCons, fSl, oAt, oNo, fCB, fCall, fIf, fChain, fRng1, fIt, fJoin, RLen, RI0, RAdd, RIx, RSl, RIsN, RTuple, RIn, gN, bD, List.map_cons, List.map_nil, List.cons_append, List.nil_append, List.length_cons, List.length_nil, List.replicate, Nat.reduceSub, Nat.reduceAdd, List.getElem?_cons_zero, List.getElem?_cons_succ, List.set_cons_zero, List.set_cons_succ, Option.some.injEq, B.val.injEq, D.int.injEq, D.bl.injEq, D.str.injEq, D.tup.injEq, D.lst.injEq, exists_eq_left', exists_eq_left, exists_and_left, ex_eq, true_and, and_true, List.cons.injEq, at1, itD, fLc, fMaxD]
    have hh : htL ts < n + 1 := h
    refine ⟨by rw [trsD_len, sizeLine_eq]; omega, ?_⟩
    rw [trsD_map]
    refine lc_map (f := fun u => D.int ((u.ht + 1 : Nat) : Int)) ts (fun u hu R r => ?_) ?_
    · simp only [fnS, Pu.startB, sSeq, sAsg, sIf, sRet, sNext, sNew, sApp, sPar, sDem, demB, fVar, fVarT, fC, fOp, fTst, fAnd, fOr, fNot, fNew, fLst, fTup, fNil, fCons, fSl, oAt, oNo, fCB, fCall, fIf, fChain, fRng1, fIt, fJoin, RLen, RI0, RAdd, RIx, RSl, RIsN, RTuple, RIn, gN, bD, List.map_cons, List.map_nil, List.cons_append, List.nil_append, List.length_cons, List.length_nil, List.replicate, Nat.reduceSub, Nat.reduceAdd, List.getElem?_cons_zero, List.getElem?_cons_succ, List.set_cons_zero, List.set_cons_succ, Option.some.injEq, B.val.injEq, D.int.injEq, D.bl.injEq, D.str.injEq, D.tup.injEq, D.lst.injEq, exists_eq_left', exists_eq_left, exists_and_left, ex_eq, true_and, and_true, List.cons.injEq, wipeB]
      have hlt := htL_lt hu
      have hsm := sizeL_mem hu
      exact deep n u R F0 (by omega) (by omega) r
    · refine ⟨ts.map fun t => ((t.ht + 1 : Nat) : Int), by rw [List.map_map]; rfl, fun M hM => ?_⟩
      have hM2 : M = (htL ts : Int) := htL_max ts (by
        rcases hM with ⟨a, b⟩ | hM
        · exact .inl ⟨List.map_eq_nil_iff.mp a, b⟩
        · exact .inr hM)
      subst hM2
      rw [show (1 : Int) + (htL ts : Int) = ((Tr.ht (.nd w ts) + 1 : Nat) : Int) by show _ = ((htL ts + 1 : Nat) : Int); omega]
      exact q
theorem rng_zip (nds : List Nd) : rngD 0 1 nds.length = (nds.zipIdx 0).map fun x => D.int (x.2 : Int) := by
  have h : (nds.zipIdx 0).map (fun x => D.int (x.2 : Int)) = ((nds.zipIdx 0).map Prod.snd).map fun (k : Nat) => D.int (k : Int) := by rw [List.map_map]; rfl
  rw [h, List.zipIdx_map_snd, ← List.range_eq_range']
  unfold rngD
  refine List.map_congr_left fun k _ => ?_
  show D.int (0 + (k : Int) * 1) = D.int (k : Int)
  congr 1
  omega
theorem leaves {t : Tr} (hg : GoodT t) (hs : t.size ≤ 40) (hh : t.ht < 8) {w : Str} (hw : w = "_" ∨ w = "#") {Q : D → Prop} {Z : ZX} (q : Q (.lst (iD (plz t.nodes w)))) : G_leaves K A [trD t, .str w] Q Z := by
  have htn : t.nodes.length = t.size := rfl
  unfold G_leaves S_leaves
  simp only [fnS, Pu.startB, sSeq, sAsg, sIf, sRet, sNext, sNew, sApp, sPar, sDem, demB, fVar, fVarT, fC, fOp, fTst, fAnd, fOr, fNot, fNew, fLst, fTup, fNil, fCons, fSl, oAt, oNo, fCB, fCall, fIf, fChain, fRng1, fIt, fJoin, RLen, RI0, RAdd, RIx, RSl, RIsN, RTuple, RIn, gN, bD, List.map_cons, List.map_nil, List.cons_append, List.nil_append, List.length_cons, List.length_nil, List.replicate, Nat.reduceSub, Nat.reduceAdd, List.getElem?_cons_zero, List.getElem?_cons_succ, List.set_cons_zero, List.set_cons_succ, Option.some.injEq, B.val.injEq, D.int.injEq, D.bl.injEq, D.str.injEq, D.tup.injEq, D.lst.injEq, exists_eq_left', exists_eq_left, exists_and_left, ex_eq, true_and, and_true, List.cons.injEq, fLc]
  refine nodes 8 t _ _ hh (Nat.le_trans hs (by decide)) ?_
  simp only [fnS, Pu.startB, sSeq, sAsg, sIf, sRet, sNext, sNew, sApp, sPar, sDem, demB, fVar, fVarT, fC, fOp, fTst, fAnd, fOr, fNot, fNew, fLst, fTup, fNil, fCons, fSl, oAt, oNo, fCB, fCall, fIf, fChain, fRng1, fIt, fJoin, RLen, RI0, RAdd, RIx, RSl, RIsN, RTuple, RIn, gN, bD, List.map_cons, List.map_nil, List.cons_append, List.nil_append, List.length_cons, List.length_nil, List.replicate, Nat.reduceSub, Nat.reduceAdd, List.getElem?_cons_zero, List.getElem?_cons_succ, List.set_cons_zero, List.set_cons_succ, Option.some.injEq, B.val.injEq, D.int.injEq, D.bl.injEq, D.str.injEq, D.tup.injEq, D.lst.injEq, exists_eq_left', exists_eq_left, exists_and_left, ex_eq, true_and, and_true, List.cons.injEq, lenD]
  rw [List.length_map, Int.toNat_natCast, rng_zip]
  refine ⟨⟨by omega, by omega⟩, by rw [List.length_map, List.length_zipIdx, sizeLine_eq]; omega, ?_⟩
  refine lc_fil (f := fun x => D.int (x.2 : Int)) (p := fun x : Nd × Nat => decide (x.1.1 = w)) (t.nodes.zipIdx 0) (fun x hx R r => ?_) (fun x _ _ R r => ?_) ?_
  · have hx2 := List.mem_zipIdx hx
    have hget : t.nodes[x.2]? = some x.1 := by
      rw [List.mem_zipIdx_iff_getElem?] at hx
      exact hx
    have hmem : x.1 ∈ t.nodes := List.mem_of_getElem? hget
    have hgd : (t.nodes.map ndDD)[x.2]? = some (ndDD x.1) := by rw [List.getElem?_map, hget]; rfl
    simp only [fnS, Pu.startB, sSeq, sAsg, sIf, sRet, sNext, sNew, sApp, sPar, sDem, demB, fVar, fVarT, fC, fOp, fTst, fAnd, fOr, fNot, fNew, fLst, fTup, fNil, fCons, fSl, oAt, oNo, fCB, fCall, fIf, fChain, fRng1, fIt, fJoin, RLen, RI0, RAdd, RIx, RSl, RIsN, RTuple, RIn, gN, bD, List.map_cons, List.map_nil, List.cons_append, List.nil_append, List.length_cons, List.length_nil, List.replicate, Nat.reduceSub, Nat.reduceAdd, List.getElem?_cons_zero, List.getElem?_cons_succ, List.set_cons_zero, List.set_cons_succ, Option.some.injEq, B.val.injEq, D.int.injEq, D.bl.injEq, D.str.injEq, D.tup.injEq, D.lst.injEq, exists_eq_left', exists_eq_left, exists_and_left, ex_eq, true_and, and_true, List.cons.injEq, wipeB]
    refine ⟨_, (by rw [atI_nat]; exact hgd), by decide, ?_⟩
    have hlw : LabT w := by
      rcases hw with rfl | rfl
      · exact .inr (.inl rfl)
      · exact .inr (.inr rfl)
    refine eq_nd (n := (w, 0)) (goodLab hg _ hmem) hlw ⟨_, rfl, ?_⟩
    have e : decide (x.1 = (w, 0)) = decide (x.1.1 = w) := by
      refine decide_eq_decide.mpr ⟨fun h => by rw [h], fun h => Prod.ext h ?_⟩
      show x.1.2 = 0
      rcases ((good_iff x.1.1 x.1.2).mp (hg _ hmem)).2 with q | ⟨_, q⟩
      · exfalso
        have h : x.1.1 = w := h
        rw [h] at q
        rcases hw with rfl | rfl
        · exact absurd q.2.2 (by decide)
        · exact absurd q.2.2 (by decide)
      · exact q
    rw [e]
    exact r
  · simp only [fnS, Pu.startB, sSeq, sAsg, sIf, sRet, sNext, sNew, sApp, sPar, sDem, demB, fVar, fVarT, fC, fOp, fTst, fAnd, fOr, fNot, fNew, fLst, fTup, fNil, fCons, fSl, oAt, oNo, fCB, fCall, fIf, fChain, fRng1, fIt, fJoin, RLen, RI0, RAdd, RIx, RSl, RIsN, RTuple, RIn, gN, bD, List.map_cons, List.map_nil, List.cons_append, List.nil_append, List.length_cons, List.length_nil, List.replicate, Nat.reduceSub, Nat.reduceAdd, List.getElem?_cons_zero, List.getElem?_cons_succ, List.set_cons_zero, List.set_cons_succ, Option.some.injEq, B.val.injEq, D.int.injEq, D.bl.injEq, D.str.injEq, D.tup.injEq, D.lst.injEq, exists_eq_left', exists_eq_left, exists_and_left, ex_eq, true_and, and_true, List.cons.injEq, wipeB]
    exact r
  · have e : (((t.nodes.zipIdx 0).filter fun x => decide (x.1.1 = w)).map fun x => D.int (x.2 : Int)) = iD (plz t.nodes w) := by
      unfold iD plz
      rw [List.map_map]
      rfl
    rw [e]
    exact q
theorem below_loop {De : EndsD} {v0 v1 v2 : B} : ∀ (ts : List Tr) (acc : List Nat) (a : Nat) (o : B), (∀ t ∈ ts, t.ht < 8 ∧ t.size ≤ 2000) → acc.length + ts.length ≤ 2000 → (∀ a2 o, De.nx [v0, v1, v2, .lst (iD (acc ++ roots ts a)), a2, o]) →
    forD (gN 5) (sSeq (sApp 3 (fVar 4)) (sAsg 4 (fOp RAdd (fVarT 4) (fCB RLen (fCons (fCall (G_parts K A 8) 1 (fCons (fVar 5) fNil)) fNil))))) (trsD ts) [v0, v1, v2, .lst (iD acc), .val (.int (a : Int)), o] De
  | [], acc, a, o, _, _, h => by
    have := h (.val (.int (a : Int))) o
    rw [show roots [] a = [] from rfl, List.append_nil] at this
    exact this
  | t :: ts, acc, a, o, hh, hl, h => by
    have hl : acc.length + (ts.length + 1) ≤ 2000 := hl
    obtain ⟨h1, h2⟩ := hh t (List.mem_cons_self ..)
    unfold trsD forD
    simp only [fnS, Pu.startB, sSeq, sAsg, sIf, sRet, sNext, sNew, sApp, sPar, sDem, demB, fVar, fVarT, fC, fOp, fTst, fAnd, fOr, fNot, fNew, fLst, fTup, fNil, fCons, fSl, oAt, oNo, fCB, fCall, fIf, fChain, fRng1, fIt, fJoin, RLen, RI0, RAdd, RIx, RSl, RIsN, RTuple, RIn, gN, bD, List.map_cons, List.map_nil, List.cons_append, List.nil_append, List.length_cons, List.length_nil, List.replicate, Nat.reduceSub, Nat.reduceAdd, List.getElem?_cons_zero, List.getElem?_cons_succ, List.set_cons_zero, List.set_cons_succ, Option.some.injEq, B.val.injEq, D.int.injEq, D.bl.injEq, D.str.injEq, D.tup.injEq, D.lst.injEq, exists_eq_left', exists_eq_left, exists_and_left, ex_eq, true_and, and_true, List.cons.injEq, B.lst.injEq]
    rw [iD_len]
    refine ⟨by rw [sizeLine_eq]; omega, ?_⟩
    refine parts 8 t _ _ h1 h2 ?_
    simp only [fnS, Pu.startB, sSeq, sAsg, sIf, sRet, sNext, sNew, sApp, sPar, sDem, demB, fVar, fVarT, fC, fOp, fTst, fAnd, fOr, fNot, fNew, fLst, fTup, fNil, fCons, fSl, oAt, oNo, fCB, fCall, fIf, fChain, fRng1, fIt, fJoin, RLen, RI0, RAdd, RIx, RSl, RIsN, RTuple, RIn, gN, bD, List.map_cons, List.map_nil, List.cons_append, List.nil_append, List.length_cons, List.length_nil, List.replicate, Nat.reduceSub, Nat.reduceAdd, List.getElem?_cons_zero, List.getElem?_cons_succ, List.set_cons_zero, List.set_cons_succ, Option.some.injEq, B.val.injEq, D.int.injEq, D.bl.injEq, D.str.injEq, D.tup.injEq, D.lst.injEq, exists_eq_left', exists_eq_left, exists_and_left, ex_eq, true_and, and_true, List.cons.injEq, lenD]
    rw [List.length_map, t.parts_len, show (a : Int) + (t.size : Int) = ((a + t.size : Nat) : Int) by omega, show iD acc ++ [D.int (a : Int)] = iD (acc ++ [a]) by unfold iD; rw [List.map_append]; rfl]
    refine below_loop ts (acc ++ [a]) (a + t.size) _ (fun u hu => hh u (List.mem_cons_of_mem _ hu)) (by rw [List.length_append]; show acc.length + 1 + _ ≤ _; omega) fun a2 o => ?_
    have := h a2 o
    rw [show roots (t :: ts) a = [a] ++ roots ts (a + t.size) from rfl, ← List.append_assoc] at this
    exact this
theorem below {t : Tr} (hs : t.size ≤ 40) (hh : t.ht < 8) {p : Nat} {w : Str} {ts : List Tr} (hp : t.parts[p]? = some (.nd w ts)) {Q : D → Prop} {Z : ZX} (q : Q (iT (roots ts (p + 1)))) : G_below K A [trD t, .int (p : Int)] Q Z := by
  have hsub := Tr.part_sub hp
  have hle := hsub.le
  have htn : t.nodes.length = t.size := rfl
  have hsz : (nodesL ts).length + 1 = Tr.size (.nd w ts) := rfl
  have hul := lenL ts
  have hht : htL ts ≤ t.ht := Tr.parts_ht t _ (List.mem_of_getElem? hp)
  have hgd : (t.parts.map trD)[p]? = some (trD (.nd w ts)) := by rw [List.getElem?_map, hp]; rfl
  unfold G_below S_below
  simp only [fnS, Pu.startB, sSeq, sAsg, sIf, sRet, sNext, sNew, sApp, sPar, sDem, demB, fVar, fVarT, fC, fOp, fTst, fAnd, fOr, fNot, fNew, fLst, fTup, fNil, fCons, fSl, oAt, oNo, fCB, fCall, fIf, fChain, fRng1, fIt, fJoin, RLen, RI0, RAdd, RIx, RSl, RIsN, RTuple, RIn, gN, bD, List.map_cons, List.map_nil, List.cons_append, List.nil_append, List.length_cons, List.length_nil, List.replicate, Nat.reduceSub, Nat.reduceAdd, List.getElem?_cons_zero, List.getElem?_cons_succ, List.set_cons_zero, List.set_cons_succ, Option.some.injEq, B.val.injEq, D.int.injEq, D.bl.injEq, D.str.injEq, D.tup.injEq, D.lst.injEq, exists_eq_left', exists_eq_left, exists_and_left, ex_eq, true_and, and_true, List.cons.injEq, sPar3L, sFor, itD]
  refine parts 8 t _ _ hh (Nat.le_trans hs (by decide)) ?_
  simp only [fnS, Pu.startB, sSeq, sAsg, sIf, sRet, sNext, sNew, sApp, sPar, sDem, demB, fVar, fVarT, fC, fOp, fTst, fAnd, fOr, fNot, fNew, fLst, fTup, fNil, fCons, fSl, oAt, oNo, fCB, fCall, fIf, fChain, fRng1, fIt, fJoin, RLen, RI0, RAdd, RIx, RSl, RIsN, RTuple, RIn, gN, bD, List.map_cons, List.map_nil, List.cons_append, List.nil_append, List.length_cons, List.length_nil, List.replicate, Nat.reduceSub, Nat.reduceAdd, List.getElem?_cons_zero, List.getElem?_cons_succ, List.set_cons_zero, List.set_cons_succ, Option.some.injEq, B.val.injEq, D.int.injEq, D.bl.injEq, D.str.injEq, D.tup.injEq, D.lst.injEq, exists_eq_left', exists_eq_left, exists_and_left, ex_eq, true_and, and_true, List.cons.injEq, atI_nat, hgd, trD, at1]
  rw [show (p : Int) + 1 = ((p + 1 : Nat) : Int) by omega]
  refine below_loop (K := K) (A := A) ts [] (p + 1) .un (fun u hu => ?_) (by simp; omega) fun a2 o => ?_
  · have := htL_lt hu
    have := sizeL_mem hu
    exact ⟨by omega, by omega⟩
  · exact ⟨_, rfl, _, rfl, _, rfl, q⟩
end
end K5

set_option Elab.async false
set_option maxRecDepth 100000
set_option maxHeartbeats 1000000
set_option linter.all false
namespace K5
open PySem PySem.Spec PyProof.Rows L2 Ly Pu TM PySem.W
/-! ### data that can be shown -/
structure Nice (W k : Nat) (p : PyData) : Prop where
  lay : p.canLay0 = true
  sho : p.showable = true
  short : p.intsShort 13 = true
  wei : p.weight ≤ W
  dep : p.depth ≤ k
structure NiceL (W k : Nat) (ps : List PyData) : Prop where
  lay : PyData.canLayAll0 ps = true
  sho : PyData.showableAll ps = true
  short : PyData.intsShortAll 13 ps = true
  wei : PyData.weightAll ps ≤ W
  dep : PyData.depthAll ps ≤ k
theorem Nice.mono {W W' k k' : Nat} {p : PyData} (h : Nice W k p) (h1 : W ≤ W') (h2 : k ≤ k') : Nice W' k' p := ⟨h.lay, h.sho, h.short, Nat.le_trans h.wei h1, Nat.le_trans h.dep h2⟩
theorem NiceL.nil {W k : Nat} : NiceL W k [] := ⟨by simp [PyData.canLayAll0], by simp [PyData.showableAll], by simp [PyData.intsShortAll], by simp [PyData.weightAll], by simp [PyData.depthAll]⟩
theorem NiceL.cons {W V k : Nat} {p : PyData} {ps : List PyData} (h : Nice W k p) (hs : NiceL V k ps) : NiceL (W + 1 + V) k (p :: ps) := by
  refine ⟨by simp [PyData.canLayAll0, h.lay, hs.lay], by simp [PyData.showableAll, h.sho, hs.sho], by simp [PyData.intsShortAll, h.short, hs.short], ?_, ?_⟩
  · have := h.wei; have := hs.wei
    simp only [PyData.weightAll]
    omega
  · have := h.dep; have := hs.dep
    simp only [PyData.depthAll]
    omega
theorem NiceL.map {α : Type} {W k : Nat} {f : α → PyData} : ∀ {l : List α} {n : Nat}, l.length ≤ n → (∀ a ∈ l, Nice W k (f a)) → NiceL ((W + 1) * n) k (l.map f)
  | [], n, _, _ => .nil
  | a :: l, 0, h, _ => by cases h
  | a :: l, n + 1, h, hf => by
    have h1 := NiceL.map (l := l) (n := n) (Nat.le_of_succ_le_succ h) fun b hb => hf b (List.mem_cons_of_mem _ hb)
    have h2 := NiceL.cons (hf a (List.mem_cons_self ..)) h1
    rw [show (W + 1) * (n + 1) = W + 1 + (W + 1) * n by rw [Nat.mul_add]; omega]
    exact h2
theorem NiceL.tup {W k : Nat} {ps : List PyData} (h : NiceL W k ps) : Nice W (k + 1) (.tuple ps) := by
  refine ⟨by simp only [PyData.canLay0]; exact h.lay, by simp only [PyData.showable]; exact h.sho, by simp only [PyData.intsShort]; exact h.short, by simp only [PyData.weight]; exact h.wei, ?_⟩
  have := h.dep
  simp only [PyData.depth]
  omega
theorem NiceL.lst {W k : Nat} {ps : List PyData} (h : NiceL W k ps) : Nice W (k + 1) (.list ps) := by
  refine ⟨by simp only [PyData.canLay0]; exact h.lay, by simp only [PyData.showable]; exact h.sho, by simp only [PyData.intsShort]; exact h.short, by simp only [PyData.weight]; exact h.wei, ?_⟩
  have := h.dep
  simp only [PyData.depth]
  omega
theorem nice_str {z : Str} {W k : Nat} (h : PyData.strOk z = true) (hl : z.length ≤ W) : Nice W k (.str z) := ⟨by simp [PyData.canLay0, h], by simp [PyData.showable], by simp [PyData.intsShort], by simp only [PyData.weight]; exact hl, by simp [PyData.depth]⟩
theorem nice_bl {b : Bool} {W k : Nat} : Nice W k (.bool b) := ⟨by simp [PyData.canLay0], by simp [PyData.showable], by simp [PyData.intsShort], by simp [PyData.weight], by simp [PyData.depth]⟩
theorem nice_int {n W k : Nat} (h : n < 200) (hW : 10 ≤ W) : Nice W k (.int (n : Int)) := by
  have h1 := (by decide +kernel : ∀ n : Nat, n < 200 → (PyData.intsShort 13 (.int (n : Int)) && PyData.showable (.int (n : Int)) && decide (PyData.weight (.int (n : Int)) ≤ 10)) = true) n h
  rw [Bool.and_eq_true, Bool.and_eq_true] at h1
  exact ⟨by simp [PyData.canLay0], h1.1.2, h1.1.1, Nat.le_trans (of_decide_eq_true h1.2) hW, by simp [PyData.depth]⟩
theorem Nice.shO {W k : Nat} {d : D} {es : List D} (hq : seqD d = some es) (h : Nice W k (toP d)) (hW : W ≤ 1000000) (hk : k ≤ 60) : ShO d := by
  refine ⟨⟨es, hq⟩, h.lay, h.sho, PyData.hasDict_of_canLay _ h.lay, ?_, Nat.le_trans h.dep hk⟩
  have h2 := PyData.shown_le 13 (by decide) _ (PyData.leavesShort_of_canLay0 13 _ h.lay h.short)
  have := h.wei
  rw [sizeLine_eq]
  omega
/-! ### sorted items -/
theorem nd_toks (n : Nd) : keyToks (toP (ndDD n)) = [.inl 1, .inr n.1.cps.toList, .inl 1, .inl (n.2 : Int), .inl 0] := by
  show keyToks (.tuple [.str n.1, .int (n.2 : Int)]) = _
  simp [keyToks, keyToksAll]
theorem blt_eq (a b : List Nat) : strKind.blt a b = ltCps a b := (ltCps_eq a b).symm
theorem sortedS_pw : ∀ {x : Str} {l : List Str}, risingS x l = true → (x :: l).Pairwise fun a b => ltCps b.cps.toList a.cps.toList = false
  | x, [], _ => List.pairwise_singleton ..
  | x, y :: l, h => by
    have h : (!ltCps y.cps.toList x.cps.toList && risingS y l) = true := h
    rw [Bool.and_eq_true] at h
    have ih := sortedS_pw h.2
    have hyx : ltCps y.cps.toList x.cps.toList = false := by simpa using h.1
    refine List.pairwise_cons.mpr ⟨fun z hz => ?_, ih⟩
    rcases List.mem_cons.mp hz with rfl | hz
    · exact hyx
    · have h1 := (List.pairwise_cons.mp ih).1 z hz
      cases c : ltCps z.cps.toList x.cps.toList with
      | false => rfl
      | true =>
        rcases strKind.negTrans z.cps.toList y.cps.toList x.cps.toList (by rw [blt_eq]; exact c) with q | q
        · rw [blt_eq, h1] at q; cases q
        · rw [blt_eq, hyx] at q; cases q
theorem sortedS_pwl : ∀ {l : List Str}, sortedS l = true → l.Pairwise fun a b => ltCps b.cps.toList a.cps.toList = false
  | [], _ => .nil
  | x :: l, h => sortedS_pw h
theorem nd_le {a b : Nd} (h : ltCps b.1.cps.toList a.1.cps.toList = false) (hne : a.1 ≠ b.1) : dataLe false toP (ndDD a) (ndDD b) = true := by
  show (!lexLt itemOrd (keyToks (toP (ndDD b))) (keyToks (toP (ndDD a)))) = true
  rw [nd_toks, nd_toks, lex_cons, lex_cons]
  have h1 : itemOrd.blt (.inl 1) (.inl 1) = false := itemOrd.irrefl _
  have h2 : itemOrd.blt (.inr b.1.cps.toList) (.inr a.1.cps.toList) = false := by
    show strKind.blt _ _ = false
    rw [blt_eq]
    exact h
  have h3 : itemOrd.blt (.inr a.1.cps.toList) (.inr b.1.cps.toList) = true := by
    cases c : itemOrd.blt (.inr a.1.cps.toList) (.inr b.1.cps.toList) with
    | true => rfl
    | false =>
      have := itemOrd.total _ _ c h2
      injection this with this
      exact absurd (show a.1 = b.1 from by
        have e : a.1.cps = b.1.cps := Array.toList_inj.mp this
        cases ha : a.1; cases hb : b.1
        rw [ha, hb] at e
        exact congrArg _ e) hne
  rw [h1, h2, h3]
  rfl
theorem sort_items {l r : List Nd} (hp : l.Perm r) (hn : (r.map (·.1)).Nodup) (hs : sortedS (l.map (·.1)) = true) : sortD (r.map ndDD) = l.map ndDD := by
  have T : TotalLe (dataLe false toP) := sortLe_total _ _ _
  have pm : (sortD (r.map ndDD)).Perm (r.map ndDD) := List.mergeSort_perm _ _
  refine List.Perm.eq_of_pairwise (le := fun a b => dataLe false toP a b = true) (fun a b ha hb h1 h2 => ?_) (List.pairwise_mergeSort T.trans (fun a b => by rw [Bool.or_eq_true]; exact T.total a b) _) ?_ (pm.trans (hp.map ndDD).symm)
  · obtain ⟨m, _, rfl⟩ := List.mem_map.mp (pm.mem_iff.mp ha)
    obtain ⟨n, _, rfl⟩ := List.mem_map.mp hb
    have h1 : (!lexLt itemOrd (keyToks (toP (ndDD n))) (keyToks (toP (ndDD m)))) = true := h1
    have h2 : (!lexLt itemOrd (keyToks (toP (ndDD m))) (keyToks (toP (ndDD n)))) = true := h2
    rw [Bool.not_eq_true'] at h1 h2
    have e := lex_total _ _ h2 h1
    rw [nd_toks, nd_toks] at e
    injection e with _ e
    injection e with e1 e
    injection e with _ e
    injection e with e2 e
    injection e1 with e1
    injection e2 with e2
    have e3 : m.1.cps = n.1.cps := Array.toList_inj.mp e1
    have e4 : m.1 = n.1 := by
      cases ha : m.1; cases hb : n.1
      rw [ha, hb] at e3
      exact congrArg _ e3
    have e5 : m = n := Prod.ext e4 (by omega)
    rw [e5]
  · refine List.pairwise_map.mpr ?_
    have p1 := List.pairwise_map.mp (sortedS_pwl hs)
    have hnl : (l.map (·.1)).Nodup := (hp.map (·.1)).nodup_iff.mpr hn
    have p2 : l.Pairwise fun a b => a.1 ≠ b.1 := List.pairwise_map.mp hnl
    exact (p1.and p2).imp fun h => nd_le h.1 h.2
theorem srtO_nds {l : List Nd} (h : ∀ n ∈ l, LabT n.1) : SrtO (l.map ndDD) := by
  have e : (l.map ndDD).map toP = l.map fun n => PyData.tuple [.str n.1, .int (n.2 : Int)] := by rw [List.map_map]; rfl
  refine ⟨fun x hx => ?_, ?_, ?_, fun x hx => ?_⟩
  · obtain ⟨n, hn, rfl⟩ := List.mem_map.mp hx
    show PyData.canLay0 (.tuple [.str n.1, .int (n.2 : Int)]) = true
    simp [PyData.canLay0, PyData.canLayAll0, strOk_lab (h n hn)]
  · rw [e]
    intro d hd d' hd'
    obtain ⟨n, _, rfl⟩ := List.mem_map.mp hd
    obtain ⟨m, _, rfl⟩ := List.mem_map.mp hd'
    simp [alike, alikeAll]
  · rw [e]
    refine .inl fun d hd => ?_
    obtain ⟨n, _, rfl⟩ := List.mem_map.mp hd
    exact ⟨_, _, rfl⟩
  · obtain ⟨n, hn, rfl⟩ := List.mem_map.mp hx
    show PyData.depth (.tuple [.str n.1, .int (n.2 : Int)]) ≤ 60
    simp [PyData.depth, PyData.depthAll]
/-! ### dict of nodes -/
def kvN (n : Nd) : Key × D := (Sum.inr n.1, .int (n.2 : Int))
theorem merge_arF : ∀ {nds acc r : List Nd}, (acc.map (·.1)).Nodup → arF nds acc = some r →
    mergeKs (kA (acc.filter plainW)) ((nds.filter plainW).map kvN) = kA (r.filter plainW) ∧ mergeDs (kA (acc.filter plainW)) (vA (acc.filter plainW)) ((nds.filter plainW).map kvN) = vA (r.filter plainW)
  | [], acc, r, _, h => by
    cases h
    exact ⟨rfl, rfl⟩
  | (w, a) :: nds, acc, r, hn, h => by
    have hfn : ((acc.filter plainW).map (·.1)).Nodup := hn.sublist (List.filter_sublist.map _)
    unfold arF at h
    cases c : acc.lookup w with
    | none =>
      rw [c] at h
      have hw : w ∉ acc.map (·.1) := fun hm => by
        obtain ⟨n, h1, h2⟩ := List.mem_map.mp hm
        obtain ⟨u, b⟩ := n
        cases h2
        rw [lookup_of_mem hn h1] at c
        cases c
      have hn2 : ((acc ++ [(w, a)]).map (·.1)).Nodup := by
        rw [List.map_append]
        exact List.nodup_append.mpr ⟨hn, by simp, fun x hx y hy => by
          have hy : y = w := List.mem_singleton.mp hy
          intro e
          rw [e, hy] at hx
          exact hw hx⟩
      have ih := merge_arF hn2 h
      rw [List.filter_append] at ih
      cases p : plainW (w, a) with
      | false =>
        rw [List.filter_cons_of_neg (by rw [p]; simp)]
        rw [show [(w, a)].filter plainW = [] by rw [List.filter_cons_of_neg (by rw [p]; simp)]; rfl, List.append_nil] at ih
        exact ih
      | true =>
        rw [List.filter_cons_of_pos p]
        rw [show [(w, a)].filter plainW = [(w, a)] by rw [List.filter_cons_of_pos p]; rfl] at ih
        obtain ⟨q1, q2⟩ := put_newA (l := acc.filter plainW) (w := w) (a := a) (look_none fun hm => hw (by
          obtain ⟨n, h1, h2⟩ := List.mem_map.mp hm
          exact List.mem_map.mpr ⟨n, (List.mem_filter.mp h1).1, h2⟩))
        show mergeKs (putKs (kA _) (Sum.inr w)) _ = _ ∧ mergeDs (putKs (kA _) (Sum.inr w)) (putDs (kA _) (vA _) (Sum.inr w) (.int (a : Int))) _ = _
        rw [q1, q2]
        exact ih
    | some b =>
      rw [c] at h
      by_cases hb : b = a
      · have h : (if b = a then arF nds acc else none) = some r := h
        rw [if_pos hb] at h
        have h3 : arF nds acc = some r := h
        clear h
        subst hb
        have ih := merge_arF hn h3
        cases p : plainW (w, b) with
        | false =>
          rw [List.filter_cons_of_neg (by rw [p]; simp)]
          exact ih
        | true =>
          rw [List.filter_cons_of_pos p]
          obtain ⟨q1, q2⟩ := put_oldA (l := acc.filter plainW) (w := w) (a := b) hfn (lookup_of_mem hfn (List.mem_filter.mpr ⟨lookup_mem c, p⟩))
          show mergeKs (putKs (kA _) (Sum.inr w)) _ = _ ∧ mergeDs (putKs (kA _) (Sum.inr w)) (putDs (kA _) (vA _) (Sum.inr w) (.int (b : Int))) _ = _
          rw [q1, q2]
          exact ih
      · have h : (if b = a then arF nds acc else none) = some r := h
        rw [if_neg hb] at h
        cases h
theorem keys_N : ∀ l : List Nd, keysD (l.map fun n => (D.str n.1, D.int (n.2 : Int))) = some (l.map kvN)
  | [] => rfl
  | n :: l => by
    show (match keyD (D.str n.1), keysD (l.map fun n => (D.str n.1, D.int (n.2 : Int))) with
      | some k, some r => some ((k, D.int (n.2 : Int)) :: r)
      | _, _ => none) = _
    rw [keys_N l]
    rfl
end K5

set_option Elab.async false
set_option maxRecDepth 100000
set_option maxHeartbeats 1000000
set_option linter.all false
namespace K5
open PySem PySem.Spec PyProof.Rows L2 Ly Pu TM
theorem ok_app {a b : Str} (ha : PyData.strOk a = true) (hb : PyData.strOk b = true) : PyData.strOk (a ++ b) = true := by
  unfold PyData.strOk at *
  show (a.cps ++ b.cps).all _ = true
  rw [Array.all_append, ha, hb]
  rfl
theorem ok_join : ∀ {zs : List Str}, (∀ z ∈ zs, PyData.strOk z = true) → PyData.strOk (Str.join ", " zs) = true
  | [], _ => by decide +kernel
  | [z], h => h z (List.mem_cons_self ..)
  | z :: y :: zs, h => by
    have ih := ok_join (zs := y :: zs) fun x hx => h x (List.mem_cons_of_mem _ hx)
    show PyData.strOk (z ++ ", " ++ Str.join ", " (y :: zs)) = true
    exact ok_app (ok_app (h z (List.mem_cons_self ..)) (by decide +kernel)) ih
theorem txt_ok (t : Tr) : t.All LabT → PyData.strOk t.text = true :=
  Tr.rec (motive_1 := fun t => t.All LabT → PyData.strOk t.text = true) (motive_2 := fun ts => AllL LabT ts → ∀ t ∈ ts, PyData.strOk t.text = true)
    (fun w ts ih h => by
      have hw := strOk_lab h.1
      have ih := ih h.2
      by_cases hts : ts = []
      · subst hts
        exact hw
      · rw [text_nd hts, TL.join_eq]
        refine ok_app (ok_app (ok_app hw (by decide +kernel)) (ok_join fun z hz => ?_)) (by decide +kernel)
        obtain ⟨u, hu, rfl⟩ := List.mem_map.mp hz
        exact ih u hu)
    (fun _ u hu => by cases hu)
    (fun t ts i1 i2 h u hu => by
      rcases List.mem_cons.mp hu with rfl | hu
      · exact i1 h.1
      · exact i2 h.2 u hu) t
theorem goodAll {t : Tr} (h : GoodT t) : t.All LabT := labs100.all_of_nodes fun n hn => goodLab h n hn
theorem text_len40 {t : Tr} (hg : GoodT t) (hs : t.size ≤ 40) : t.text.length ≤ 5000 := by
  have h1 := Tr.text_len (m := 100) t (labs100 t hg)
  have h2 : (100 + 4) * t.size ≤ 104 * 40 := Nat.mul_le_mul_left _ hs
  omega
theorem nice_text {t : Tr} {k : Nat} (hg : GoodT t) (hs : t.size ≤ 40) : Nice 5000 k (.str t.text) := nice_str (txt_ok t (goodAll hg)) (text_len40 hg hs)
theorem nice_nd {n : Nd} (h : GoodNd n) : Nice 1012 1 (toP (ndDD n)) := by
  have hk := ((good_iff n.1 n.2).mp h).1
  show Nice 1012 1 (.tuple [.str n.1, .int (n.2 : Int)])
  exact ((NiceL.cons (nice_str (W := 1000) (k := 0) (strOk_lab (GoodNd.labT (k := n.2) h)) h.2) (NiceL.cons (nice_int (n := n.2) (W := 10) (by omega) (Nat.le_refl _)) NiceL.nil (V := 0))).tup).mono (by decide) (by decide)
theorem toPs_map : ∀ l : List D, toPs l = l.map toP
  | [] => rfl
  | d :: l => by
    show toP d :: toPs l = _
    rw [toPs_map l]
    rfl
theorem nice_nds {l : List Nd} (h : ∀ n ∈ l, GoodNd n) (hl : l.length ≤ 40) : NiceL 40520 1 (toPs (l.map ndDD)) := by
  rw [toPs_map, List.map_map]
  exact NiceL.map (W := 1012) (n := 40) hl fun n hn => nice_nd (h n hn)
theorem nice_iD {l : List Nat} (h : ∀ n ∈ l, n < 200) (hl : l.length ≤ 200) : NiceL 2200 0 (toPs (iD l)) := by
  unfold iD
  rw [toPs_map, List.map_map]
  exact NiceL.map (W := 10) (n := 200) hl fun n hn => nice_int (h n hn) (Nat.le_refl _)
theorem nice_iT {l : List Nat} (h : ∀ n ∈ l, n < 200) (hl : l.length ≤ 200) : Nice 2200 1 (toP (iT l)) := (nice_iD h hl).tup
def toldD (t : Tr) (l : List Nd) : D := .lst [ndsDD t.nodes, .str t.text, .str t.text, .int (t.size : Int), .int ((t.ht + 1 : Nat) : Int), .lst (l.map ndDD)]
theorem sho_told {t : Tr} (hg : GoodT t) (hs : t.size ≤ 40) (hh : t.ht < 100) {l : List Nd} (h : ∀ n ∈ l, GoodNd n) (hl : l.length ≤ 40) : ShO (toldD t l) := by
  refine Nice.shO (W := 1000000) (k := 60) rfl (Nice.mono (NiceL.lst (NiceL.cons (W := 50000) (k := 2) ?_ (NiceL.cons (W := 50000) ?_ (NiceL.cons (W := 50000) ?_ (NiceL.cons (W := 50000) ?_ (NiceL.cons (W := 50000) ?_ (NiceL.cons (W := 50000) (V := 0) ?_ .nil))))))) (by decide) (by decide)) (by decide) (by decide)
  · exact (nice_nds hg hs).tup.mono (by decide) (by decide)
  · exact (nice_text hg hs (k := 2)).mono (by decide) (by decide)
  · exact (nice_text hg hs (k := 2)).mono (by decide) (by decide)
  · exact (nice_int (n := t.size) (W := 10) (by omega) (by decide)).mono (by decide) (Nat.zero_le _)
  · exact (nice_int (n := t.ht + 1) (W := 10) (by omega) (by decide)).mono (by decide) (Nat.zero_le _)
  · exact (nice_nds h hl).lst.mono (by decide) (by decide)
theorem plz_lt {nds : List Nd} {w : Str} : (∀ n ∈ plz nds w, n < nds.length) ∧ (plz nds w).length ≤ nds.length := by
  unfold plz
  refine ⟨fun n hn => ?_, ?_⟩
  · obtain ⟨x, hx, rfl⟩ := List.mem_map.mp hn
    have := List.mem_zipIdx (List.mem_filter.mp hx).1
    omega
  · rw [List.length_map]
    exact Nat.le_trans (List.length_filter_le _ _) (by rw [List.length_zipIdx]; exact Nat.le_refl _)
theorem sho_gr {t : Tr} (hs : t.size ≤ 40) (b : Bool) : ShO (.lst [iT (plz t.nodes "_"), iT (plz t.nodes "#"), .bl b]) := by
  have htn : t.nodes.length = t.size := rfl
  have h : ∀ w, Nice 50000 2 (toP (iT (plz t.nodes w))) := fun w => (nice_iT (fun n hn => by have := (plz_lt (nds := t.nodes) (w := w)).1 n hn; omega) (by have := (plz_lt (nds := t.nodes) (w := w)).2; omega)).mono (by decide) (by decide)
  refine Nice.shO (W := 1000000) (k := 60) rfl (Nice.mono (NiceL.lst (NiceL.cons (W := 50000) (k := 2) (h _) (NiceL.cons (W := 50000) (h _) (NiceL.cons (W := 50000) (V := 0) nice_bl .nil)))) (by decide) (by decide)) (by decide) (by decide)
theorem sho_at {t s : Tr} {n : Nd} (hn : GoodNd n) {a b : List Nat} (hg : GoodT s) (hs : s.size ≤ 40) (ha : (∀ n ∈ a, n < 200) ∧ a.length ≤ 200) (hb : (∀ n ∈ b, n < 200) ∧ b.length ≤ 200) : ShO (.lst [ndDD n, iT a, .str s.text, iT b]) := by
  refine Nice.shO (W := 1000000) (k := 60) rfl (Nice.mono (NiceL.lst (NiceL.cons (W := 50000) (k := 2) ((nice_nd hn).mono (by decide) (by decide)) (NiceL.cons (W := 50000) ((nice_iT ha.1 ha.2).mono (by decide) (by decide)) (NiceL.cons (W := 50000) ((nice_text hg hs (k := 2)).mono (by decide) (by decide)) (NiceL.cons (W := 50000) (V := 0) ((nice_iT hb.1 hb.2).mono (by decide) (by decide)) .nil))))) (by decide) (by decide)) (by decide) (by decide)
end K5

set_option Elab.async false
set_option maxRecDepth 100000
set_option maxHeartbeats 2000000
set_option linter.all false
namespace K5
open PySem PySem.Spec PyProof.Rows L2 Ly Pu TM
theorem ne_str {z : Str} {Q : D → Prop} (q : Q (.bl false)) : RNe (.str z) (.str z) Q := by
  have e : sc (.str z) (.str z) = some true := by simp [sc]
  unfold RNe
  rw [e]
  exact q
theorem repr_l {d : D} (h : ShO d) {Q : D → Prop} (q : Q (.str (toP d).shown)) : RReprA [d] Q := .inr ⟨d, rfl, h, q⟩
theorem part_good {t s : Tr} {p : Nat} (hg : GoodT t) (h : t.parts[p]? = some s) : GoodT s := fun n hn => hg n ((Tr.part_sub h).sub n hn)
theorem part_size {t s : Tr} {p : Nat} (h : t.parts[p]? = some s) : p + s.size ≤ t.size := (Tr.part_sub h).le
theorem roots_b {t : Tr} {p : Nat} {w : Str} {ts : List Tr} (h : t.parts[p]? = some (.nd w ts)) (hs : t.size ≤ 40) : (∀ n ∈ roots ts (p + 1), n < 200) ∧ (roots ts (p + 1)).length ≤ 200 := by
  refine ⟨fun n hn => ?_, ?_⟩
  · obtain ⟨i, hi⟩ := List.getElem?_of_mem hn
    obtain ⟨c, _, hc⟩ := Tr.kids h i n hi
    have := (List.getElem?_eq_some_iff.mp hc).1
    rw [t.parts_len] at this
    omega
  · rw [roots_len]
    have h1 := lenL ts
    have h2 := part_size h
    have h3 : Tr.size (.nd w ts) = (nodesL ts).length + 1 := rfl
    omega
theorem upz_b {t : Tr} {p : Nat} (hp : p < 40) : (∀ n ∈ upz t p, n < 200) ∧ (upz t p).length ≤ 200 := by
  unfold upz
  refine ⟨fun n hn => ?_, ?_⟩
  · have := List.mem_range.mp (List.mem_filter.mp hn).1
    omega
  · exact Nat.le_trans (List.length_filter_le _ _) (by rw [List.length_range]; omega)
def atB (K : PySem.W.Frag) (A : Adr) : FS := (sSeq (sAsg 12 (fNew (fLc (fRng1 (fCons (fOp RAdd (fVarT 11) (fC (.int 1))) fNil)) (gN 13) (fTst (fOp RLt (fVarT 11) (fOp RAdd (fVarT 13) (fCB RLen (fCons (fCall (G_parts K A 8) 1 (fCons (fOp RIx (fVarT 2) (fVarT 13)) fNil)) fNil))))) (fVar 13) [13])))
      (sSeq (sAsg 7 (fNew (fLst (fCons (fIxO A.cTerm (G_Term_getitem K A) (fVar 0) (fVar 11)) (fCons (fMeth A.cTerm "children" (G_Term_children K A) 2 (fVar 0) (fCons (fVar 11) fNil)) (fCons (fProp A.cTerm (G_Term_text K A) (fMeth A.cTerm "part" (G_Term_part K A) 2 (fVar 0) (fCons (fVar 11) fNil))) (fCons (fMeth A.cTerm "above" (G_Term_above K A) 2 (fVar 0) (fCons (fVar 11) fNil)) fNil)))))))
      (sSeq (sIf (fTst (fOp RNe (fCB RReprA (fCons (fVarT 7) fNil)) (fCB RReprA (fCons (fNew (fLst (fCons (fOp RIx (fVarT 3) (fVarT 11)) (fCons (fCall (G_below K A) 2 (fCons (fVar 1) (fCons (fVar 11) fNil))) (fCons (fCall (G_text K A 8) 1 (fCons (fOp RIx (fVarT 2) (fVarT 11)) fNil)) (fCons (fCB RTuple (fCons (fVarT 12) fNil)) fNil)))))) fNil)))) (sRet (fC (.bl false))) sNext)
      (sIf (fTst (fOp (RInO A.cTerm (G_Term_contains K A) true) (fOp RIx (fVarT 3) (fVarT 11)) (fVarT 0))) (sRet (fC (.bl false))) sNext))))
section
variable {K : PySem.W.Frag} {A : Adr}
theorem at_step (TC : TK K A) {t : Tr} (hg : GoodT t) (hs : t.size ≤ 40) (hh : t.ht < 8) {d : D} {p : Nat} (hp : p < t.size) {a4 a5 a6 a7 a8 a9 a10 a12 a13 a14 a15 : B} {De : EndsD}
    (q : ∀ a7 a12, De.nx [.val (tmD A t d), .val (trD t), .val (.lst (t.parts.map trD)), .val (.lst (t.nodes.map ndDD)), a4, a5, a6, a7, a8, a9, a10, .val (.int (p : Int)), a12, a13, a14, a15]) :
    atB K A [.val (tmD A t d), .val (trD t), .val (.lst (t.parts.map trD)), .val (.lst (t.nodes.map ndDD)), a4, a5, a6, a7, a8, a9, a10, .val (.int (p : Int)), a12, a13, a14, a15] De := by
  obtain ⟨s, hps⟩ := Tr.part_ex hp
  cases s with
  | nd w ts =>
    have hsub := Tr.part_sub hps
    have hn : t.nodes[p]? = some (w, ts.length) := hsub.at.1
    have hmem : (w, ts.length) ∈ t.nodes := List.mem_of_getElem? hn
    have hgn : (t.nodes.map ndDD)[p]? = some (ndDD (w, ts.length)) := by rw [List.getElem?_map, hn]; rfl
    have hgp : (t.parts.map trD)[p]? = some (trD (.nd w ts)) := by rw [List.getElem?_map, hps]; rfl
    have hgs := part_good hg hps
    have hss := part_size hps
    have hsh : Tr.ht (.nd w ts) ≤ t.ht := Tr.parts_ht t _ (List.mem_of_getElem? hps)
    have hs1 : 1 ≤ Tr.size (.nd w ts) := Tr.size_pos _
    unfold atB
    simp only [fnS, Pu.startB, sSeq, sAsg, sIf, sRet, sNext, sNew, sApp, sPar, sDem, demB, fVar, fVarT, fC, fOp, fTst, fAnd, fOr, fNot, fNew, fLst, fTup, fNil, fCons, fSl, oAt, oNo, fCB, fCall, fIf, fChain, fRng1, fIt, fJoin, RLen, RI0, RAdd, RIx, RSl, RIsN, RTuple, RIn, gN, bD, List.map_cons, List.map_nil, List.cons_append, List.nil_append, List.length_cons, List.length_nil, List.replicate, Nat.reduceSub, Nat.reduceAdd, List.getElem?_cons_zero, List.getElem?_cons_succ, List.set_cons_zero, List.set_cons_succ, Option.some.injEq, B.val.injEq, D.int.injEq, D.bl.injEq, D.str.injEq, D.tup.injEq, D.lst.injEq, exists_eq_left', exists_eq_left, exists_and_left, ex_eq, true_and, and_true, List.cons.injEq, fLc]
    refine ⟨⟨by omega, by omega⟩, ?_⟩
    rw [show ((p : Int) + 1).toNat = p + 1 by omega]
    refine ⟨by rw [rngD, List.length_map, List.length_range, sizeLine_eq]; omega, ?_⟩
    refine lc_fil (h := fun (k : Nat) => D.int (0 + (k : Nat) * 1)) (f := fun (k : Nat) => D.int (k : Int)) (p := fun a => decide (p < a + ((t.parts[a]?).map Tr.size).getD 0)) (List.range (p + 1)) (fun k hk R r => ?_) (fun k _ _ R r => ?_) ?_
    · have hk := List.mem_range.mp hk
      obtain ⟨u, huk⟩ := Tr.part_ex (t := t) (p := k) (by omega)
      have hgu : (t.parts.map trD)[k]? = some (trD u) := by rw [List.getElem?_map, huk]; rfl
      have hus := part_size huk
      have hut : u.ht ≤ t.ht := Tr.parts_ht t _ (List.mem_of_getElem? huk)
      rw [show (0 : Int) + (k : Int) * 1 = (k : Int) by omega]
      simp only [fnS, Pu.startB, sSeq, sAsg, sIf, sRet, sNext, sNew, sApp, sPar, sDem, demB, fVar, fVarT, fC, fOp, fTst, fAnd, fOr, fNot, fNew, fLst, fTup, fNil, fCons, fSl, oAt, oNo, fCB, fCall, fIf, fChain, fRng1, fIt, fJoin, RLen, RI0, RAdd, RIx, RSl, RIsN, RTuple, RIn, gN, bD, List.map_cons, List.map_nil, List.cons_append, List.nil_append, List.length_cons, List.length_nil, List.replicate, Nat.reduceSub, Nat.reduceAdd, List.getElem?_cons_zero, List.getElem?_cons_succ, List.set_cons_zero, List.set_cons_succ, Option.some.injEq, B.val.injEq, D.int.injEq, D.bl.injEq, D.str.injEq, D.tup.injEq, D.lst.injEq, exists_eq_left', exists_eq_left, exists_and_left, ex_eq, true_and, and_true, List.cons.injEq, wipeB, RLt, atI_nat, hgu]
      refine parts 8 u _ _ (by omega) (by omega) ?_
      simp only [fnS, Pu.startB, sSeq, sAsg, sIf, sRet, sNext, sNew, sApp, sPar, sDem, demB, fVar, fVarT, fC, fOp, fTst, fAnd, fOr, fNot, fNew, fLst, fTup, fNil, fCons, fSl, oAt, oNo, fCB, fCall, fIf, fChain, fRng1, fIt, fJoin, RLen, RI0, RAdd, RIx, RSl, RIsN, RTuple, RIn, gN, bD, List.map_cons, List.map_nil, List.cons_append, List.nil_append, List.length_cons, List.length_nil, List.replicate, Nat.reduceSub, Nat.reduceAdd, List.getElem?_cons_zero, List.getElem?_cons_succ, List.set_cons_zero, List.set_cons_succ, Option.some.injEq, B.val.injEq, D.int.injEq, D.bl.injEq, D.str.injEq, D.tup.injEq, D.lst.injEq, exists_eq_left', exists_eq_left, exists_and_left, ex_eq, true_and, and_true, List.cons.injEq, lenD, RLt]
      rw [List.length_map, u.parts_len]
      rw [huk] at r
      have e : decide ((p : Int) < (k : Int) + (u.size : Int)) = decide (p < k + ((some u).map Tr.size).getD 0) := by rw [Bool.eq_iff_iff]; simp; omega
      rw [e]
      exact r
    · rw [show (0 : Int) + (k : Int) * 1 = (k : Int) by omega]
      simp only [fnS, Pu.startB, sSeq, sAsg, sIf, sRet, sNext, sNew, sApp, sPar, sDem, demB, fVar, fVarT, fC, fOp, fTst, fAnd, fOr, fNot, fNew, fLst, fTup, fNil, fCons, fSl, oAt, oNo, fCB, fCall, fIf, fChain, fRng1, fIt, fJoin, RLen, RI0, RAdd, RIx, RSl, RIsN, RTuple, RIn, gN, bD, List.map_cons, List.map_nil, List.cons_append, List.nil_append, List.length_cons, List.length_nil, List.replicate, Nat.reduceSub, Nat.reduceAdd, List.getElem?_cons_zero, List.getElem?_cons_succ, List.set_cons_zero, List.set_cons_succ, Option.some.injEq, B.val.injEq, D.int.injEq, D.bl.injEq, D.str.injEq, D.tup.injEq, D.lst.injEq, exists_eq_left', exists_eq_left, exists_and_left, ex_eq, true_and, and_true, List.cons.injEq, wipeB]
      exact r
    · have eu : (((List.range (p + 1)).filter fun a => decide (p < a + ((t.parts[a]?).map Tr.size).getD 0)).map fun (k : Nat) => D.int (k : Int)) = iD (upz t p) := rfl
      rw [eu]
      simp only [fnS, Pu.startB, sSeq, sAsg, sIf, sRet, sNext, sNew, sApp, sPar, sDem, demB, fVar, fVarT, fC, fOp, fTst, fAnd, fOr, fNot, fNew, fLst, fTup, fNil, fCons, fSl, oAt, oNo, fCB, fCall, fIf, fChain, fRng1, fIt, fJoin, RLen, RI0, RAdd, RIx, RSl, RIsN, RTuple, RIn, gN, bD, List.map_cons, List.map_nil, List.cons_append, List.nil_append, List.length_cons, List.length_nil, List.replicate, Nat.reduceSub, Nat.reduceAdd, List.getElem?_cons_zero, List.getElem?_cons_succ, List.set_cons_zero, List.set_cons_succ, Option.some.injEq, B.val.injEq, D.int.injEq, D.bl.injEq, D.str.injEq, D.tup.injEq, D.lst.injEq, exists_eq_left', exists_eq_left, exists_and_left, ex_eq, true_and, and_true, List.cons.injEq, fIxO, fMeth, fProp]
      refine ⟨⟨_, _, rfl⟩, t_getitem TC hs hn ⟨_, _, rfl, by decide, t_children TC hs hps ⟨_, _, rfl, by decide, t_part TC hs hps fun d2 => ⟨_, _, rfl, term_text TC hgs (by omega) ⟨_, _, rfl, by decide, t_above TC hs hp ?_⟩⟩⟩⟩⟩
      have hso : ShO (.lst [ndDD (w, ts.length), iT (roots ts (p + 1)), .str (Tr.text (.nd w ts)), iT (upz t p)]) := sho_at (t := t) (hg _ hmem) hgs (by omega) (roots_b hps hs) (upz_b (by omega))
      refine ⟨by decide, repr_l hso ⟨_, (by rw [atI_nat]; exact hgn), below hs hh hps ⟨_, (by rw [atI_nat]; exact hgp), ltext 8 _ _ _ (by omega) (by omega) (goodAll hgs) (labs100 _ hgs) (by omega) ⟨_, rfl, by decide, repr_l hso (ne_str ⟨_, rfl, ?_⟩)⟩⟩⟩⟩
      rw [if_neg (by simp)]
      have hk := ((good_iff w ts.length).mp (hg _ hmem)).1
      refine ⟨_, (by rw [atI_nat]; exact hgn), ⟨_, _, rfl⟩, t_containsN TC hg ⟨Nat.le_trans (hg _ hmem).2 (by decide), by show ts.length < 1000; omega⟩ (goodLab hg _ hmem) ⟨_, rfl, _, rfl, ?_⟩⟩
      rw [show isNode2 (.str (w, ts.length).1) (.int (((w, ts.length).2 : Nat) : Int)) = true from (hg _ hmem).1, decide_eq_true hmem, if_neg (by simp)]
      exact q _ _
theorem at_loop (TC : TK K A) {t : Tr} (hg : GoodT t) (hs : t.size ≤ 40) (hh : t.ht < 8) {d : D} {a4 a5 a6 a8 a9 a10 a13 a14 a15 : B} {De : EndsD}
    (q : ∀ a7 a11 a12, De.nx [.val (tmD A t d), .val (trD t), .val (.lst (t.parts.map trD)), .val (.lst (t.nodes.map ndDD)), a4, a5, a6, a7, a8, a9, a10, a11, a12, a13, a14, a15]) :
    ∀ (ps : List Nat) (a7 a11 a12 : B), (∀ p ∈ ps, p < t.size) → forD (gN 11) (atB K A) (ps.map fun (k : Nat) => D.int (0 + (k : Nat) * 1)) [.val (tmD A t d), .val (trD t), .val (.lst (t.parts.map trD)), .val (.lst (t.nodes.map ndDD)), a4, a5, a6, a7, a8, a9, a10, a11, a12, a13, a14, a15] De
  | [], a7, a11, a12, _ => q a7 a11 a12
  | p :: ps, a7, a11, a12, h => by
    rw [List.map_cons]
    unfold forD
    show atB K A [.val (tmD A t d), .val (trD t), .val (.lst (t.parts.map trD)), .val (.lst (t.nodes.map ndDD)), a4, a5, a6, a7, a8, a9, a10, .val (.int (0 + (p : Int) * 1)), a12, a13, a14, a15] _
    rw [show (0 : Int) + (p : Int) * 1 = (p : Int) by omega]
    exact at_step TC hg hs hh (h p (List.mem_cons_self ..)) fun a7 a12 => at_loop TC hg hs hh q ps a7 _ a12 fun p hp => h p (List.mem_cons_of_mem _ hp)
theorem lc_none {j : Nat} {T : FT} {F : FE} {ρ : Pu.Env} : ∀ (l : List D) {Q : List D → Prop}, (∀ d ∈ l, ∀ R : Bool → Prop, R false → T (ρ.set j (.val d)) R F0) → Q [] → lcD (gN j) T F ρ l Q
  | [], Q, _, q => q
  | a :: l, Q, ht, q => by
    show T (ρ.set j (.val a)) (fun b => if b = true then F (ρ.set j (.val a)) (fun y => lcD (gN j) T F ρ l fun ys => Q (y :: ys)) F0 else lcD (gN j) T F ρ l Q) F0
    refine ht a (List.mem_cons_self ..) _ ?_
    rw [if_neg (by simp)]
    exact lc_none l (fun d hd => ht d (List.mem_cons_of_mem _ hd)) q
theorem in_nds {n : Nd} {nds : List Nd} (hn : LabT n.1) (h : ∀ m ∈ nds, LabT m.1) {Q : D → Prop} (q : Q (.bl (true != decide (n ∈ nds)))) : RIn true (ndDD n) (.lst (nds.map ndDD)) Q := by
  refine .inr ⟨nd_shp hn, ?_, ?_⟩
  · obtain ⟨a, b⟩ := nds_lay h
    show SeqAt.shaped (.list (toPs (nds.map ndDD))) = true
    rw [toPs_nds]
    unfold SeqAt.shaped
    simp only [PyData.canLay0, PyData.depth, a, Bool.true_and]
    exact decide_eq_true (by omega)
  · rw [any_nd]
    exact q
end
end K5

set_option Elab.async false
set_option maxRecDepth 100000
set_option maxHeartbeats 1000000
set_option linter.all false
namespace K5
open PySem PySem.Spec PyProof.Rows L2 Ly Pu TM
section
variable {K : PySem.W.Frag} {A : Adr}
theorem plain_e (n : Nd) : (true != [D.str (Str.ofString "_"), D.str (Str.ofString "#")].any fun y => eqF y (D.str n.1)) = plainW n := by
  rw [any_leaf]
  unfold plainW
  cases isLeaf n.1 <;> rfl
theorem arF_sub {nds r : List Nd} (h : arF nds [] = some r) : ∀ n ∈ r, n ∈ nds := fun n hn => (go h n hn).resolve_left (by simp) where
  go : ∀ {nds acc r : List Nd}, arF nds acc = some r → ∀ n ∈ r, n ∈ acc ∨ n ∈ nds
    | [], acc, r, h, n, hn => by cases h; exact .inl hn
    | (w, a) :: nds, acc, r, h, n, hn => by
      unfold arF at h
      split at h
      · rcases go h n hn with q | q
        · rcases List.mem_append.mp q with q | q
          · exact .inl q
          · exact .inr (by rw [List.mem_singleton.mp q]; exact List.mem_cons_self ..)
        · exact .inr (List.mem_cons_of_mem _ q)
      · split at h
        · rcases go h n hn with q | q
          · exact .inl q
          · exact .inr (List.mem_cons_of_mem _ q)
        · cases h
theorem odd_test {C : Addr} {g : Fn} {ρ : Pu.Env} {d m n : D} (h0 : ρ[0]? = some (.val m)) (h3 : ρ[3]? = some (.val n)) (h15 : ρ[15]? = some (.val d)) {R : Bool → Prop}
    (h : RInO C g false d m fun e => ∃ b, e = .bl b ∧ if b = true then RIn true d n (fun e => ∃ b, e = .bl b ∧ R b) else R false) : (fAnd (fTst (fOp (RInO C g false) (fVarT 15) (fVarT 0))) (fTst (fOp (RIn true) (fVarT 15) (fVarT 3)))) ρ R F0 := by
  simp only [fAnd, fTst, fOp, fVarT, h0, h3, h15, bD, Option.some.injEq, exists_and_left, exists_eq_left', ex_eq]
  exact h
def OddG (K : PySem.W.Frag) (A : Adr) (t : Tr) (s d : D) (R : Bool → Prop) : Prop := RInO A.cTerm (G_Term_contains K A) false d (tmD A t s) fun e => ∃ b, e = .bl b ∧ if b = true then RIn true d (.lst (t.nodes.map ndDD)) (fun e => ∃ b, e = .bl b ∧ R b) else R false
theorem odd_no (TC : TK K A) {t : Tr} {s d : D} {R : Bool → Prop} (r : R false) (h : ∀ (Q : D → Prop) (Z : ZX), Q (.bl false) → G_is_node K A [d] Q Z) : OddG K A t s d R := by
  refine ⟨⟨_, _, rfl⟩, t_containsX TC h ⟨_, rfl, _, rfl, ?_⟩⟩
  rw [if_neg (by simp)]
  exact r
theorem odd_yes (TC : TK K A) {t : Tr} (hg : GoodT t) {s : D} {R : Bool → Prop} (r : R false) (n : Nd) (hL : LabT n.1) (hb : n.1.length ≤ 100000 ∧ n.2 < 1000) : OddG K A t s (ndDD n) R := by
  refine ⟨⟨_, _, rfl⟩, t_containsN TC hg hb hL ⟨_, rfl, _, rfl, ?_⟩⟩
  cases c1 : isNode2 (.str n.1) (.int (n.2 : Int)) with
  | false =>
    rw [Bool.false_and, if_neg (by simp)]
    exact r
  | true =>
    rw [Bool.true_and]
    cases c2 : decide (n ∈ t.nodes) with
    | false =>
      rw [if_neg (by simp)]
      exact r
    | true =>
      rw [if_pos (by simp)]
      refine in_nds hL (goodLab hg) ⟨_, rfl, ?_⟩
      rw [c2]
      exact r
theorem odd_all (TC : TK K A) {t : Tr} (hg : GoodT t) (s : D) {d : D} {R : Bool → Prop} (hd : d ∈ [D.non, D.int 0, D.str "a", D.tup [D.str "a"], D.tup [D.str "zz", D.int 0], D.lst [D.str "a", D.int 0], D.tup [D.str "a", D.int 3], D.tup [], D.tup [D.str "a", D.bl false], tmD A t s, D.tup (t.nodes.map ndDD)]) (r : R false) : OddG K A t s d R := by
  simp only [List.mem_cons, List.not_mem_nil, or_false] at hd
  rcases hd with h | h | h | h | h | h | h | h | h | h | h
  · rw [h]; exact odd_no TC r fun Q Z q => node_no (K := K) (v := D.non) trivial rfl q
  · rw [h]; exact odd_no TC r fun Q Z q => node_no (K := K) (v := D.int 0) trivial rfl q
  · rw [h]; exact odd_no TC r fun Q Z q => node_no (K := K) (v := D.str "a") trivial rfl q
  · rw [h]; exact odd_no TC r fun Q Z q => node_len (ds := [D.str "a"]) (by decide) q
  · rw [h]; exact odd_yes TC hg r ("zz", 0) (.inl ⟨by decide, by decide⟩) ⟨by decide, by decide⟩
  · rw [h]; exact odd_no TC r fun Q Z q => node_no (K := K) (v := D.lst [D.str "a", D.int 0]) trivial rfl q
  · rw [h]; exact odd_yes TC hg r ("a", 3) (.inl ⟨by decide, by decide⟩) ⟨by decide, by decide⟩
  · rw [h]; exact odd_no TC r fun Q Z q => node_len (ds := []) (by decide) q
  · rw [h]; exact odd_no TC r fun Q Z q => node_2 (K := K) (x := D.str "a") (v := D.bl false) trivial (.inr rfl) q
  · rw [h]; exact odd_no TC r fun Q Z q => node_no (K := K) (v := tmD A t s) TC.own rfl q
  · rw [h]
    by_cases h2 : (t.nodes.map ndDD).length = 2
    · obtain ⟨x, y, e⟩ : ∃ x y, t.nodes = [x, y] := by
        rw [List.length_map] at h2
        match t.nodes, h2 with
        | [x, y], _ => exact ⟨x, y, rfl⟩
      refine odd_no TC r fun Q Z q => ?_
      rw [e]
      exact node_2 (K := K) (x := ndDD x) (v := ndDD y) trivial (.inl rfl) q
    · exact odd_no TC r fun Q Z q => node_len h2 q
end
end K5

set_option Elab.async false
set_option maxRecDepth 100000
set_option maxHeartbeats 1000000
set_option linter.all false
namespace K5
open PySem PySem.Spec PyProof.Rows L2 Ly Pu TM
section
variable {K : PySem.W.Frag} {A : Adr}
theorem told_right (TC : TK K A) {t : Tr} (hg : GoodT t) (hs : t.size ≤ 40) (hh : t.ht < 8) {d : D} (hd : SymD t d) {Q : D → Prop} {Z : ZX} (q : Q (.bl true)) : G_told_right K A [tmD A t d, trD t] Q Z := by
  obtain ⟨r, l, har, hp, hsr, rfl⟩ := hd
  have htn : t.nodes.length = t.size := rfl
  obtain ⟨hrn, hrl⟩ := arF_nodup (acc := []) List.nodup_nil har
  unfold G_told_right S_told_right
  simp only [fnS, Pu.startB, sSeq, sAsg, sIf, sRet, sNext, sNew, sApp, sPar, sDem, demB, fVar, fVarT, fC, fOp, fTst, fAnd, fOr, fNot, fNew, fLst, fTup, fNil, fCons, fSl, oAt, oNo, fCB, fCall, fIf, fChain, fRng1, fIt, fJoin, RLen, RI0, RAdd, RIx, RSl, RIsN, RTuple, RIn, gN, bD, List.map_cons, List.map_nil, List.cons_append, List.nil_append, List.length_cons, List.length_nil, List.replicate, Nat.reduceSub, Nat.reduceAdd, List.getElem?_cons_zero, List.getElem?_cons_succ, List.set_cons_zero, List.set_cons_succ, Option.some.injEq, B.val.injEq, D.int.injEq, D.bl.injEq, D.str.injEq, D.tup.injEq, D.lst.injEq, exists_eq_left', exists_eq_left, exists_and_left, ex_eq, true_and, and_true, List.cons.injEq, sTgt]
  refine parts 8 t _ _ hh (Nat.le_trans hs (by decide)) (nodes 8 t _ _ hh (Nat.le_trans hs (by decide)) ⟨by decide, _, rfl, rfl, ?_⟩)
  simp only [fnS, Pu.startB, sSeq, sAsg, sIf, sRet, sNext, sNew, sApp, sPar, sDem, demB, fVar, fVarT, fC, fOp, fTst, fAnd, fOr, fNot, fNew, fLst, fTup, fNil, fCons, fSl, oAt, oNo, fCB, fCall, fIf, fChain, fRng1, fIt, fJoin, RLen, RI0, RAdd, RIx, RSl, RIsN, RTuple, RIn, gN, bD, List.map_cons, List.map_nil, List.cons_append, List.nil_append, List.length_cons, List.length_nil, List.replicate, Nat.reduceSub, Nat.reduceAdd, List.getElem?_cons_zero, List.getElem?_cons_succ, List.set_cons_zero, List.set_cons_succ, Option.some.injEq, B.val.injEq, D.int.injEq, D.bl.injEq, D.str.injEq, D.tup.injEq, D.lst.injEq, exists_eq_left', exists_eq_left, exists_and_left, ex_eq, true_and, and_true, List.cons.injEq, List.zip_cons_cons, List.zip_nil_left, List.foldl_cons, List.foldl_nil, sNewD, fCBD, RDictP, fLc, itD]
  refine ⟨by rw [List.length_map, sizeLine_eq]; omega, ?_⟩
  refine lc_g (p := plainW) (f := ndDD) t.nodes (fun n hn => ⟨[.val (tmD A t (.dic (kA l) (vA l))), .val (trD t), .val (.lst (t.parts.map trD)), .val (.lst (t.nodes.map ndDD)), .un, .val (.str n.1), .val (.int (n.2 : Int)), .un, .un, .un, .un, .un, .un, .un, .un, .un], fun k hk => ⟨_, rfl, rfl, hk⟩, fun R r => ?_, fun _ R r => ?_⟩) ?_
  · simp only [fnS, Pu.startB, sSeq, sAsg, sIf, sRet, sNext, sNew, sApp, sPar, sDem, demB, fVar, fVarT, fC, fOp, fTst, fAnd, fOr, fNot, fNew, fLst, fTup, fNil, fCons, fSl, oAt, oNo, fCB, fCall, fIf, fChain, fRng1, fIt, fJoin, RLen, RI0, RAdd, RIx, RSl, RIsN, RTuple, RIn, gN, bD, List.map_cons, List.map_nil, List.cons_append, List.nil_append, List.length_cons, List.length_nil, List.replicate, Nat.reduceSub, Nat.reduceAdd, List.getElem?_cons_zero, List.getElem?_cons_succ, List.set_cons_zero, List.set_cons_succ, Option.some.injEq, B.val.injEq, D.int.injEq, D.bl.injEq, D.str.injEq, D.tup.injEq, D.lst.injEq, exists_eq_left', exists_eq_left, exists_and_left, ex_eq, true_and, and_true, List.cons.injEq]
    refine ⟨by decide, .inl ⟨rfl, rfl, ?_⟩⟩
    rw [plain_e]
    exact r
  · simp only [fnS, Pu.startB, sSeq, sAsg, sIf, sRet, sNext, sNew, sApp, sPar, sDem, demB, fVar, fVarT, fC, fOp, fTst, fAnd, fOr, fNot, fNew, fLst, fTup, fNil, fCons, fSl, oAt, oNo, fCB, fCall, fIf, fChain, fRng1, fIt, fJoin, RLen, RI0, RAdd, RIx, RSl, RIsN, RTuple, RIn, gN, bD, List.map_cons, List.map_nil, List.cons_append, List.nil_append, List.length_cons, List.length_nil, List.replicate, Nat.reduceSub, Nat.reduceAdd, List.getElem?_cons_zero, List.getElem?_cons_succ, List.set_cons_zero, List.set_cons_succ, Option.some.injEq, B.val.injEq, D.int.injEq, D.bl.injEq, D.str.injEq, D.tup.injEq, D.lst.injEq, exists_eq_left', exists_eq_left, exists_and_left, ex_eq, true_and, and_true, List.cons.injEq]
    exact ⟨by decide, r⟩
  refine ⟨(t.nodes.filter plainW).map (fun n => (D.str n.1, D.int (n.2 : Int))), by rw [List.map_map]; rfl, _, keys_N _, ?_⟩
  have e1 : mergeKs [] ((t.nodes.filter plainW).map kvN) = kA (r.filter plainW) := (merge_arF (acc := []) List.nodup_nil har).1
  have e2 : mergeDs [] [] ((t.nodes.filter plainW).map kvN) = vA (r.filter plainW) := (merge_arF (acc := []) List.nodup_nil har).2
  rw [e1, e2]
  have hrg : ∀ n ∈ r, n ∈ t.nodes := arF_sub har
  have hlg : ∀ n ∈ l, GoodNd n := fun n hn => hg n (hrg n (List.mem_filter.mp (hp.mem_iff.mp hn)).1)
  have hll : l.length ≤ 40 := by
    rw [hp.length_eq]
    have := List.length_filter_le plainW r
    rw [List.length_nil] at hrl
    omega
  have hso := sho_told hg hs (by omega) hlg hll
  have hfn : ((r.filter plainW).map (·.1)).Nodup := hrn.sublist (List.filter_sublist.map _)
  simp only [fnS, Pu.startB, sSeq, sAsg, sIf, sRet, sNext, sNew, sApp, sPar, sDem, demB, fVar, fVarT, fC, fOp, fTst, fAnd, fOr, fNot, fNew, fLst, fTup, fNil, fCons, fSl, oAt, oNo, fCB, fCall, fIf, fChain, fRng1, fIt, fJoin, RLen, RI0, RAdd, RIx, RSl, RIsN, RTuple, RIn, gN, bD, List.map_cons, List.map_nil, List.cons_append, List.nil_append, List.length_cons, List.length_nil, List.replicate, Nat.reduceSub, Nat.reduceAdd, List.getElem?_cons_zero, List.getElem?_cons_succ, List.set_cons_zero, List.set_cons_succ, Option.some.injEq, B.val.injEq, D.int.injEq, D.bl.injEq, D.str.injEq, D.tup.injEq, D.lst.injEq, exists_eq_left', exists_eq_left, exists_and_left, ex_eq, true_and, and_true, List.cons.injEq, fProp, fItems, fPropD, fCBN, fVarX, RSortDt, RStrO, RLenO, items_A]
  refine ⟨_, _, rfl, t_nodes TC ⟨_, _, rfl, term_text TC hg hs ⟨_, _, rfl, t_str TC hg hs ⟨_, rfl, _, _, rfl, t_len TC ⟨_, rfl, by omega, by omega, ?_⟩⟩⟩⟩⟩
  refine ⟨_, _, rfl, t_depth TC hs ⟨_, _, rfl, t_symbols TC ⟨by decide, _, rfl, ltext 8 t _ _ hh (by decide) (goodAll hg) (labs100 t hg) (by omega) (ltext 8 t _ _ hh (by decide) (goodAll hg) (labs100 t hg) (by omega) ⟨_, rfl, deep 8 t _ _ hh (by omega) ⟨_, _, rfl, ?_, by decide, ?_⟩⟩)⟩⟩⟩
  · rw [items_A]
    exact srtO_nds fun n hn => goodLab hg n (hrg n (List.mem_filter.mp hn).1)
  rw [items_A, items_A, sort_items hp hfn hsr, List.length_map]
  refine repr_l hso (repr_l hso (ne_str ⟨_, rfl, ?_⟩))
  rw [if_neg (by simp)]
  refine leaves hg hs hh (.inl rfl) ⟨_, rfl, leaves hg hs hh (.inr rfl) ⟨_, rfl, ?_⟩⟩
  simp only [fnS, Pu.startB, sSeq, sAsg, sIf, sRet, sNext, sNew, sApp, sPar, sDem, demB, fVar, fVarT, fC, fOp, fTst, fAnd, fOr, fNot, fNew, fLst, fTup, fNil, fCons, fSl, oAt, oNo, fCB, fCall, fIf, fChain, fRng1, fIt, fJoin, RLen, RI0, RAdd, RIx, RSl, RIsN, RTuple, RIn, gN, bD, List.map_cons, List.map_nil, List.cons_append, List.nil_append, List.length_cons, List.length_nil, List.replicate, Nat.reduceSub, Nat.reduceAdd, List.getElem?_cons_zero, List.getElem?_cons_succ, List.set_cons_zero, List.set_cons_succ, Option.some.injEq, B.val.injEq, D.int.injEq, D.bl.injEq, D.str.injEq, D.tup.injEq, D.lst.injEq, exists_eq_left', exists_eq_left, exists_and_left, ex_eq, true_and, and_true, List.cons.injEq, sFor]
  have pl := fun w => (plz_lt (nds := t.nodes) (w := w)).2
  refine ⟨_, _, ⟨rfl, rfl⟩, _, _, rfl, t_unknown TC ⟨_, _, rfl, t_lost TC ⟨_, _, rfl, t_ground TC ⟨by decide, repr_l (sho_gr hs _) ⟨?_, Nat.zero_le _, ?_⟩⟩⟩⟩⟩
  · rw [iD_len, iD_len, sizeLine_eq]
    have := pl "_"
    have := pl "#"
    omega
  have eab : D.tup (iD (plz t.nodes "_") ++ iD (plz t.nodes "#")) = iT (plz t.nodes "_" ++ plz t.nodes "#") := by unfold iT iD; rw [List.map_append]
  have eb : decide (plz t.nodes "_" ++ plz t.nodes "#" = []) = (decide (plz t.nodes "_" = []) && decide (plz t.nodes "#" = [])) := by
    rw [Bool.eq_iff_iff]
    simp
  rw [eab]
  refine eq_nil ⟨by decide, ?_⟩
  rw [eb]
  refine repr_l (sho_gr hs _) (ne_str ⟨_, rfl, ?_⟩)
  rw [if_neg (by simp)]
  refine ⟨_, rfl, ?_⟩
  rw [List.length_map, Int.toNat_natCast]
  refine ⟨⟨by omega, by omega⟩, ?_⟩
  refine at_loop (K := K) (A := A) TC hg hs hh (fun a7 a11 a12 => ?_) (List.range t.nodes.length) _ _ _ (fun p hp => List.mem_range.mp hp)
  simp only [fnS, Pu.startB, sSeq, sAsg, sIf, sRet, sNext, sNew, sApp, sPar, sDem, demB, fVar, fVarT, fC, fOp, fTst, fAnd, fOr, fNot, fNew, fLst, fTup, fNil, fCons, fSl, oAt, oNo, fCB, fCall, fIf, fChain, fRng1, fIt, fJoin, RLen, RI0, RAdd, RIx, RSl, RIsN, RTuple, RIn, gN, bD, List.map_cons, List.map_nil, List.cons_append, List.nil_append, List.length_cons, List.length_nil, List.replicate, Nat.reduceSub, Nat.reduceAdd, List.getElem?_cons_zero, List.getElem?_cons_succ, List.set_cons_zero, List.set_cons_succ, Option.some.injEq, B.val.injEq, D.int.injEq, D.bl.injEq, D.str.injEq, D.tup.injEq, D.lst.injEq, exists_eq_left', exists_eq_left, exists_and_left, ex_eq, true_and, and_true, List.cons.injEq]
  refine ⟨by decide, by decide, by decide, by decide, Nat.zero_le _, by decide, _, rfl, by decide, by decide, ?_⟩
  exact lc_none _ (fun d hd R r => odd_test rfl rfl rfl (odd_all TC hg _ hd r)) ⟨Nat.zero_le _, eq_ints (w := []) (v := []) q⟩
end
end K5

set_option Elab.async false
set_option maxRecDepth 100000
set_option maxHeartbeats 1000000
set_option linter.all false
namespace K5
open PySem PySem.Spec PyProof.Rows L2 Ly Pu TM
mutual
theorem Tr_inj (t : Tr) : ∀ (u : Tr) (a b : List Nd), t.nodes ++ a = u.nodes ++ b → t = u ∧ a = b := by
  cases t with
  | nd w ts =>
    intro u a b h
    cases u with
    | nd v us =>
      have h : (w, ts.length) :: (nodesL ts ++ a) = (v, us.length) :: (nodesL us ++ b) := h
      injection h with h1 h2
      injection h1 with h3 h4
      obtain ⟨e1, e2⟩ := Tr_injL ts us a b h4 h2
      rw [h3, e1]
      exact ⟨rfl, e2⟩
theorem Tr_injL (ts : List Tr) : ∀ (us : List Tr) (a b : List Nd), ts.length = us.length → nodesL ts ++ a = nodesL us ++ b → ts = us ∧ a = b := by
  cases ts with
  | nil =>
    intro us a b hl h
    cases us with
    | nil => exact ⟨rfl, h⟩
    | cons u us => cases hl
  | cons t ts =>
    intro us a b hl h
    cases us with
    | nil => cases hl
    | cons u us =>
      have h : t.nodes ++ nodesL ts ++ a = u.nodes ++ nodesL us ++ b := h
      rw [List.append_assoc, List.append_assoc] at h
      obtain ⟨e1, e2⟩ := Tr_inj t u _ _ h
      obtain ⟨e3, e4⟩ := Tr_injL ts us a b (Nat.succ.inj hl) e2
      rw [e1, e3]
      exact ⟨rfl, e4⟩
end
theorem join_tx : ∀ (ts : List Tr) (t : Tr), lab t.text = t.tx → (∀ u ∈ ts, lab u.text = u.tx) → lab (Str.join ", " ((t :: ts).map Tr.text)) ++ [41] = t.tx ++ txR ts
  | [], t, h, _ => by
    show lab t.text ++ [41] = t.tx ++ [41]
    rw [h]
  | u :: ts, t, h, hs => by
    have ih := join_tx ts u (hs u (List.mem_cons_self ..)) fun v hv => hs v (List.mem_cons_of_mem _ hv)
    show lab (t.text ++ ", " ++ Str.join ", " ((u :: ts).map Tr.text)) ++ [41] = t.tx ++ (44 :: 32 :: (u.tx ++ txR ts))
    rw [lab_app, lab_app, List.append_assoc, ih, h, List.append_assoc]
    rfl
theorem tx_text (t : Tr) : lab t.text = t.tx :=
  Tr.rec (motive_1 := fun t => lab t.text = t.tx) (motive_2 := fun ts => ∀ u ∈ ts, lab u.text = u.tx)
    (fun w ts ih => by
      cases ts with
      | nil => rfl
      | cons t us =>
        rw [text_nd (by simp)]
        have h := join_tx us t (ih t (List.mem_cons_self ..)) fun u hu => ih u (List.mem_cons_of_mem _ hu)
        show lab (w ++ "(" ++ Txt.join ", " ((t :: us).map Tr.text) ++ ")") = lab w ++ 40 :: (t.tx ++ txR us)
        rw [← h, TL.join_eq, lab_app, lab_app, lab_app, List.append_assoc, List.append_assoc]
        rfl)
    (fun u hu => by cases hu)
    (fun t ts i1 i2 u hu => by
      rcases List.mem_cons.mp hu with rfl | hu
      · exact i1
      · exact i2 u hu) t
theorem rd_text {t : Tr} (h : GoodT t) (hs : t.size ≤ 40) : rd 60 (lab t.text) = some (t, []) := by
  rw [tx_text]
  have q := t.rd_tx 60 [] h (Nat.lt_of_lt_of_le (ht_lt t) (by omega)) (fun c hc => by cases hc)
  rw [List.append_nil] at q
  exact q
theorem nodes_inj {t u : Tr} (h : t.nodes = u.nodes) : t = u := (Tr_inj t u [] [] (by rw [h])).1
theorem arF_sup {nds r : List Nd} (h : arF nds [] = some r) : ∀ n ∈ nds, n ∈ r := fun n hn => go h n (.inr hn) where
  go : ∀ {nds acc r : List Nd}, arF nds acc = some r → ∀ n, n ∈ acc ∨ n ∈ nds → n ∈ r
    | [], acc, r, h, n, hn => by
      cases h
      exact hn.resolve_right (by simp)
    | (w, a) :: nds, acc, r, h, n, hn => by
      unfold arF at h
      split at h
      · refine go h n ?_
        rcases hn with q | q
        · exact .inl (List.mem_append_left _ q)
        · rcases List.mem_cons.mp q with q | q
          · exact .inl (List.mem_append_right _ (by rw [q]; exact List.mem_singleton.mpr rfl))
          · exact .inr q
      · rename_i b hb
        split at h
        · rename_i e
          subst e
          refine go h n ?_
          rcases hn with q | q
          · exact .inl q
          · rcases List.mem_cons.mp q with q | q
            · exact .inl (by rw [q]; exact lookup_mem hb)
            · exact .inr q
        · cases h
theorem leaf_of {t : Tr} (hg : GoodT t) {r l : List Nd} (har : arF t.nodes [] = some r) (hp : l.Perm (r.filter plainW)) (h : l = []) : isLeaf t.text = true := by
  cases t with
  | nd w ts =>
    have hm : (w, ts.length) ∈ Tr.nodes (.nd w ts) := List.mem_cons_self ..
    have h1 := arF_sup har _ hm
    have h2 : r.filter plainW = [] := by
      subst h
      exact hp.symm.eq_nil
    have h3 : ¬ plainW (w, ts.length) = true := fun c => by
      have : (w, ts.length) ∈ r.filter plainW := List.mem_filter.mpr ⟨h1, c⟩
      rw [h2] at this
      cases this
    have h4 : isLeaf w = true := by
      unfold plainW at h3
      simpa using h3
    have h5 : ts = [] := by
      rcases ((good_iff w ts.length).mp (hg _ hm)).2 with q | ⟨_, q⟩
      · exfalso
        rcases of_decide_eq_true h4 with h | h
        · rw [h] at q; exact absurd q.2.2 (by decide)
        · rw [h] at q; exact absurd q.2.2 (by decide)
      · exact List.length_eq_zero_iff.mp q
    subst h5
    exact h4
theorem text_inj {t u : Tr} (hg : GoodT t) (hs : t.size ≤ 40) (hgu : GoodT u) (hsu : u.size ≤ 40) (h : t.text = u.text) : t = u := by
  have h1 := rd_text hg hs
  have h2 := rd_text hgu hsu
  rw [h, h2] at h1
  cases h1
  rfl
section
variable {K : PySem.W.Frag} {A : Adr}
theorem term_eqT (TC : TK K A) {t : Tr} {l : D} {nds : List Nd} {Q : D → Prop} {Z : ZX} (q : Q (.bl false)) : G_Term_eq K A [tmD A t l, ndsDD nds] Q Z := by
  unfold G_Term_eq S_Term_eq tmD
  simp only [fnS, Pu.startB, sSeq, sAsg, sIf, sRet, sNext, sNew, sApp, sPar, sDem, demB, fVar, fVarT, fC, fOp, fTst, fAnd, fOr, fNot, fNew, fLst, fTup, fNil, fCons, fSl, oAt, oNo, fCB, fCall, fIf, fChain, fRng1, fIt, fJoin, RLen, RI0, RAdd, RIx, RSl, RIsN, RTuple, RIn, gN, bD, List.map_cons, List.map_nil, List.cons_append, List.nil_append, List.length_cons, List.length_nil, List.replicate, Nat.reduceSub, Nat.reduceAdd, List.getElem?_cons_zero, List.getElem?_cons_succ, List.set_cons_zero, List.set_cons_succ, Option.some.injEq, B.val.injEq, D.int.injEq, D.bl.injEq, D.str.injEq, D.tup.injEq, D.lst.injEq, exists_eq_left', exists_eq_left, exists_and_left, ex_eq, true_and, and_true, List.cons.injEq, fFld, fIsc, fAndV]
  refine ⟨false, ⟨trivial, rfl, TC.isT7⟩, ?_⟩
  rw [if_neg (by simp)]
  exact q
theorem right (TC : TK K A) {Q : D → Prop} {Z : ZX} (q : Q (.bl true)) : G_right K A [.dice] Q Z := by
  unfold G_right S_right
  simp only [fnS, Pu.startB, sSeq, sAsg, sIf, sRet, sNext, sNew, sApp, sPar, sDem, demB, fVar, fVarT, fC, fOp, fTst, fAnd, fOr, fNot, fNew, fLst, fTup, fNil, fCons, fSl, oAt, oNo, fCB, fCall, fIf, fChain, fRng1, fIt, fJoin, RLen, RI0, RAdd, RIx, RSl, RIsN, RTuple, RIn, gN, bD, List.map_cons, List.map_nil, List.cons_append, List.nil_append, List.length_cons, List.length_nil, List.replicate, Nat.reduceSub, Nat.reduceAdd, List.getElem?_cons_zero, List.getElem?_cons_succ, List.set_cons_zero, List.set_cons_succ, Option.some.injEq, B.val.injEq, D.int.injEq, D.bl.injEq, D.str.injEq, D.tup.injEq, D.lst.injEq, exists_eq_left', exists_eq_left, exists_and_left, ex_eq, true_and, and_true, List.cons.injEq, fProp, sClear, fPropD, fEq0]
  refine drawn_term (deep := 4) (by decide) fun t hf hs hh => ?_
  refine drawn_term (deep := 2) (by decide) fun u hfu hsu hhu => ?_
  have G := Good.fit hf hs
  have hg : GoodT t := G.1
  obtain ⟨r, hr⟩ := G.ar
  have Gu := Good.fit hfu hsu
  have hgu : GoodT u := Gu.1
  obtain ⟨ru, hru⟩ := Gu.ar
  refine ⟨_, _, ⟨rfl, rfl⟩, made_term TC hg hs (by omega) hr fun d hd => ?_⟩
  refine told_right TC hg hs (by omega) hd ⟨_, rfl, ?_⟩
  rw [if_neg (by simp)]
  refine nodes 8 t _ _ (by omega) (by omega) ⟨_, rfl, term_init TC hg hs hr fun d2 _ => ?_⟩
  refine ⟨⟨_, _, rfl⟩, .inr ⟨_, _, rfl⟩, term_eq TC hg hg ⟨_, rfl, _, rfl, ?_⟩⟩
  rw [decide_eq_true rfl, if_neg (by decide)]
  obtain ⟨r2, l, har, hp, hsr, rfl⟩ := hd
  have lt : ∀ {R : D → Prop}, R (.str t.text) → G_text K A 8 [trD t] R Z := fun h => ltext 8 t _ _ (by omega) (by decide) (goodAll hg) (labs100 t hg) (by omega) h
  have lu : ∀ {R : D → Prop}, R (.str u.text) → G_text K A 8 [trD u] R Z := fun h => ltext 8 u _ _ (by omega) (by decide) (goodAll hgu) (labs100 u hgu) (by omega) h
  have tail : G_made_term K A [trD u] (fun b => RMetO A.cTerm (G_Term_eq K A) false (tmD A t (.dic (kA l) (vA l))) b fun a => G_text K A 8 [trD t] (fun a_1 => G_text K A 8 [trD u] (fun b => REq a_1 b fun b => REq a b Q) Z) Z) Z := by
    refine made_term TC hgu hsu (by omega) hru fun d3 _ => ⟨⟨_, _, rfl⟩, .inr ⟨_, _, rfl⟩, term_eq TC hg hgu ⟨_, rfl, lt (lu ?_)⟩⟩
    have e : decide (t.nodes = u.nodes) = decide (t.text = u.text) := decide_eq_decide.mpr ⟨fun h => by rw [nodes_inj h], fun h => by rw [text_inj hg hs hgu hsu h]⟩
    rw [e]
    show REq (.bl (false != decide (t.text = u.text))) (.bl (decide (t.text = u.text))) Q
    cases decide (t.text = u.text) <;> exact q
  refine ⟨_, _, rfl, t_symbols TC (lt ⟨⟨_, _, rfl⟩, .inl rfl, term_eqS TC ⟨_, rfl, _, rfl, ?_⟩⟩)⟩
  rw [if_neg (by decide)]
  refine ⟨_, _, rfl, t_nodes TC ⟨⟨_, _, rfl⟩, ⟨_, rfl⟩, term_eqT TC ⟨_, rfl, _, rfl, ?_⟩⟩⟩
  rw [if_neg (by decide)]
  refine ⟨_, _, rfl, t_symbols TC ?_⟩
  cases c : (kA l).isEmpty with
  | false =>
    rw [if_neg (by simp), if_neg (by simp)]
    exact tail
  | true =>
    rw [if_pos rfl]
    have hl : l = [] := by
      cases l with
      | nil => rfl
      | cons x l => cases c
    have hlf := leaf_of hg har hp hl
    refine lt ⟨by decide, .inl ⟨rfl, rfl, ?_⟩⟩
    rw [plain_e (t.text, 0)]
    have e : plainW (t.text, 0) = false := by
      unfold plainW
      rw [hlf]
      rfl
    rw [e, if_neg (by simp)]
    exact tail
end
end K5

set_option Elab.async false
set_option maxRecDepth 100000
set_option maxHeartbeats 1000000
set_option linter.all false
namespace K5
open PySem PySem.Spec PyProof.Rows L2 Ly Pu TM
theorem for_keep {j : Nat} {S : FS} {De : EndsD} (I : Pu.Env → Prop) (hs : ∀ (d : D) (ρ : Pu.Env) (D' : EndsD), I ρ → (∀ ρ', I ρ' → D'.nx ρ') → D'.rt = De.rt → D'.ex = De.ex → S (ρ.set j (.val d)) D') (hd : ∀ ρ, I ρ → De.nx ρ) : ∀ (ds : List D) (ρ : Pu.Env), I ρ → forD (gN j) S ds ρ De
  | [], ρ, h => hd ρ h
  | d :: ds, ρ, h => hs d ρ _ h (fun ρ' h' => for_keep I hs hd ds ρ' h') rfl rfl
theorem for_keepM {j : Nat} {S : FS} {De : EndsD} (I : Pu.Env → Prop) (ds : List D) (hs : ∀ (d : D) (ρ : Pu.Env) (D' : EndsD), d ∈ ds → I ρ → (∀ ρ', I ρ' → D'.nx ρ') → D'.rt = De.rt → D'.ex = De.ex → S (ρ.set j (.val d)) D') (hd : ∀ ρ, I ρ → De.nx ρ) : ∀ (es : List D) (ρ : Pu.Env), (∀ d ∈ es, d ∈ ds) → I ρ → forD (gN j) S es ρ De
  | [], ρ, _, h => hd ρ h
  | d :: es, ρ, m, h => hs d ρ _ (m d (List.mem_cons_self ..)) h (fun ρ' h' => for_keepM I ds hs hd es ρ' (fun x hx => m x (List.mem_cons_of_mem _ hx)) h') rfl rfl
theorem good_by (t : Tr) (h : (t.nodes.all fun n => isNode2 (.str n.1) (.int (n.2 : Int)) && decide (n.1.length ≤ 1000)) = true) : GoodT t := fun n hn => by
  have := List.all_eq_true.mp h n hn
  rw [Bool.and_eq_true] at this
  exact ⟨this.1, of_decide_eq_true this.2⟩
theorem lc_all {j : Nat} {F : FE} {ρ : Pu.Env} {f : D → D} : ∀ (l : List D) {Q : List D → Prop}, (∀ a ∈ l, ∀ R : D → Prop, R (f a) → F (ρ.set j (.val a)) R F0) → Q (l.map f) → lcD (gN j) fYes F ρ l Q := fun l {Q} h q => by
  have := lc_map (j := j) (F := F) (ρ := ρ) (h := id) (f := f) l (Q := Q) h q
  rw [List.map_id] at this
  exact this
section
variable {K : PySem.W.Frag} {A : Adr}
theorem lc2_ok (TC : TK K A) {ρ : Pu.Env} (hρ : 5 ≤ ρ.length) : ∀ (xs : List (Tr × D)) {Q : List D → Prop}, (∀ x ∈ xs, x.1.size ≤ 40) → Q ((nodesL (xs.map Prod.fst)).map ndDD) →
    lc2D (gN 3) fYes (fIt (fFld K "own_nodes" (fVarT 3))) (gN 4) fYes (fVar 4) [4] ρ (xs.map fun x => tmD A x.1 x.2) Q
  | [], Q, _, q => q
  | x :: xs, Q, h, q => by
    have hx := h x (List.mem_cons_self ..)
    have hxn : x.1.nodes.length ≤ 40 := hx
    have g3 : (ρ.set 3 (.val (tmD A x.1 x.2)))[3]? = some (.val (tmD A x.1 x.2)) := List.getElem?_set_self (by omega)
    show (fIt (fFld K "own_nodes" (fVarT 3))) (ρ.set 3 (.val (tmD A x.1 x.2))) (fun ds1 => ds1.length ≤ 1000 ∧ lcD (gN 4) fYes (fVar 4) (wipeB (ρ.set 3 (.val (tmD A x.1 x.2))) [4]) ds1 fun ys => lc2D (gN 3) fYes (fIt (fFld K "own_nodes" (fVarT 3))) (gN 4) fYes (fVar 4) [4] ρ (xs.map fun x => tmD A x.1 x.2) fun zs => Q (ys ++ zs)) F0
    simp only [fIt, fFld, fVarT, g3, bD, Option.some.injEq, exists_and_left, exists_eq_left', ex_eq, itD]
    refine ⟨_, _, _, rfl, TC.cl, TC.n1, _, rfl, ?_⟩
    unfold ndsDD
    refine ⟨_, rfl, by rw [List.length_map]; omega, ?_⟩
    refine lc_map (f := ndDD) x.1.nodes (fun n _ R r => ?_) ?_
    · have g4 : ((wipeB (ρ.set 3 (.val (tmD A x.1 x.2))) [4]).set 4 (.val (ndDD n)))[4]? = some (.val (ndDD n)) := List.getElem?_set_self (by simp [wipeB]; omega)
      exact ⟨_, g4, r⟩
    · refine lc2_ok TC hρ xs (fun y hy => h y (List.mem_cons_of_mem _ hy)) ?_
      rw [← List.map_append]
      exact q
theorem t_build (TC : TK K A) {w : Str} {xs : List (Tr × D)} (hg : GoodT (.nd w (xs.map Prod.fst))) (hs : Tr.size (.nd w (xs.map Prod.fst)) ≤ 40) {r : List Nd} (hr : arF (Tr.nodes (.nd w (xs.map Prod.fst))) [] = some r) {Q : D → Prop} {Z : ZX} (q : ∀ d, Q (tmD A (.nd w (xs.map Prod.fst)) d)) :
    G_Term_build K A [.cls A.cTerm, .str w, .tup (xs.map fun x => tmD A x.1 x.2)] Q Z := by
  have hm : (w, (xs.map Prod.fst).length) ∈ Tr.nodes (.nd w (xs.map Prod.fst)) := List.mem_cons_self ..
  have hn : GoodNd (w, (xs.map Prod.fst).length) := hg _ hm
  have hk : (xs.map Prod.fst).length ≤ 3 := ((good_iff _ _).mp hn).1
  rw [List.length_map] at hn hk
  have hsz : (nodesL (xs.map Prod.fst)).length + 1 ≤ 40 := hs
  unfold G_Term_build S_Term_build
  simp only [fnS, Pu.startB, sSeq, sAsg, sIf, sRet, sNext, sNew, sApp, sPar, sDem, demB, fVar, fVarT, fC, fOp, fTst, fAnd, fOr, fNot, fNew, fLst, fTup, fNil, fCons, fSl, oAt, oNo, fCB, fCall, fIf, fChain, fRng1, fIt, fJoin, RLen, RI0, RAdd, RIx, RSl, RIsN, RTuple, RIn, gN, bD, List.map_cons, List.map_nil, List.cons_append, List.nil_append, List.length_cons, List.length_nil, List.replicate, Nat.reduceSub, Nat.reduceAdd, List.getElem?_cons_zero, List.getElem?_cons_succ, List.set_cons_zero, List.set_cons_succ, Option.some.injEq, B.val.injEq, D.int.injEq, D.bl.injEq, D.str.injEq, D.tup.injEq, D.lst.injEq, exists_eq_left', exists_eq_left, exists_and_left, ex_eq, true_and, and_true, List.cons.injEq, lenD, fLc, RAll, itD, fIsc, sNo, fMkL, fStar, fLc2]
  rw [List.length_map]
  refine ⟨by decide, is_node (n := (w, xs.length)) ⟨Nat.le_trans hn.2 (by decide), by show xs.length < 1000; omega⟩ ⟨_, rfl, ?_⟩⟩
  rw [show isNode2 (.str (w, xs.length).1) (.int (((w, xs.length).2 : Nat) : Int)) = true from hn.1]
  rw [if_neg (by simp)]
  refine ⟨by rw [sizeLine_eq]; omega, ?_⟩
  refine lc_map (f := fun _ => D.bl true) xs (fun x _ R r => ?_) ?_
  · simp only [fnS, Pu.startB, sSeq, sAsg, sIf, sRet, sNext, sNew, sApp, sPar, sDem, demB, fVar, fVarT, fC, fOp, fTst, fAnd, fOr, fNot, fNew, fLst, fTup, fNil, fCons, fSl, oAt, oNo, fCB, fCall, fIf, fChain, fRng1, fIt, fJoin, RLen, RI0, RAdd, RIx, RSl, RIsN, RTuple, RIn, gN, bD, List.map_cons, List.map_nil, List.cons_append, List.nil_append, List.length_cons, List.length_nil, List.replicate, Nat.reduceSub, Nat.reduceAdd, List.getElem?_cons_zero, List.getElem?_cons_succ, List.set_cons_zero, List.set_cons_succ, Option.some.injEq, B.val.injEq, D.int.injEq, D.bl.injEq, D.str.injEq, D.tup.injEq, D.lst.injEq, exists_eq_left', exists_eq_left, exists_and_left, ex_eq, true_and, and_true, List.cons.injEq, wipeB, fIsc]
    exact ⟨true, ⟨TC.own, TC.isT⟩, r⟩
  refine ⟨_, bls_map (fun _ => true) xs, ?_⟩
  rw [if_neg (by simp)]
  refine ⟨by decide, by omega, lc2_ok TC (by simp [wipeB]) xs (fun x hx => ?_) ⟨_, rfl, ?_, ?_⟩⟩
  · have := sizeL_mem (List.mem_map_of_mem (f := Prod.fst) hx)
    omega
  · rw [List.append_nil, List.length_map, sizeLine_eq]
    omega
  · rw [List.append_nil]
    have e : D.tup (D.tup [D.str w, D.int (xs.length : Int)] :: (nodesL (xs.map Prod.fst)).map ndDD) = ndsDD (Tr.nodes (.nd w (xs.map Prod.fst))) := by
      show _ = D.tup (ndDD (w, (xs.map Prod.fst).length) :: (nodesL (xs.map Prod.fst)).map ndDD)
      rw [List.length_map]
      rfl
    rw [e]
    exact term_init TC hg hs hr fun d _ => q d
def Il (ns : List Int) (ρ : Pu.Env) : Prop := ∃ o1 o2 o3 o4 o5, ρ = [.val (.lsk (ns.map .int)), o1, o2, o3, o4, o5]
def Id (ns : List Int) (ρ : Pu.Env) : Prop := ∃ o1 o3 o4 o5, ρ = [.val (.lsk (ns.map .int)), o1, .val .dice, o3, o4, o5]
def tA : Tr := .nd "a" []
def tU : Tr := .nd "_" []
def tG : Tr := .nd "g" [tU]
def tF : Tr := .nd "f" [tA, tU, tG]
def toldF : D := .lst [.str tF.text, iT (roots [tA, tU, tG] (0 + 1)), iT (plz tF.nodes "_"), .str tG.text, iT (upz tF 4), .int ((tF.ht + 1 : Nat) : Int), .int 40]
def dueF : D := .lst [.str "f(a, _, g(_))", .tup [.int 1, .int 2, .int 3], .tup [.int 2, .int 4], .str "g(_)", .tup [.int 0, .int 3, .int 4], .int 3, .int 40]
theorem law_ok (TC : TK K A) {ns : List Int} (hl : ns.length ≤ 63) {Q : D → Prop} {Z : ZX} (q : Q (.bl true)) : G_law K A [.lsk (ns.map .int)] Q Z := by
  unfold G_law S_law
  simp only [fnS, Pu.startB, sSeq, sAsg, sIf, sRet, sNext, sNew, sApp, sPar, sDem, demB, fVar, fVarT, fC, fOp, fTst, fAnd, fOr, fNot, fNew, fLst, fTup, fNil, fCons, fSl, oAt, oNo, fCB, fCall, fIf, fChain, fRng1, fIt, fJoin, RLen, RI0, RAdd, RIx, RSl, RIsN, RTuple, RIn, gN, bD, List.map_cons, List.map_nil, List.cons_append, List.nil_append, List.length_cons, List.length_nil, List.replicate, Nat.reduceSub, Nat.reduceAdd, List.getElem?_cons_zero, List.getElem?_cons_succ, List.set_cons_zero, List.set_cons_succ, Option.some.injEq, B.val.injEq, D.int.injEq, D.bl.injEq, D.str.injEq, D.tup.injEq, D.lst.injEq, exists_eq_left', exists_eq_left, exists_and_left, ex_eq, true_and, and_true, List.cons.injEq, lenD, sFor, RMax2, RMin2]
  refine ⟨_, _, ⟨rfl, rfl⟩, ?_⟩
  refine ⟨_, _, ⟨rfl, rfl⟩, ⟨by rw [List.length_map]; split <;> split <;> omega, by rw [List.length_map]; split <;> split <;> omega⟩, ?_⟩
  refine for_keepM (Il ns) _ (fun d ρ D' hd hρ hn hrt hex => ?_) (fun ρ hρ => ?_) _ _ (fun d hd => hd) ⟨_, _, _, _, _, rfl⟩
  · obtain ⟨o1, o2, o3, o4, o5, rfl⟩ := hρ
    obtain ⟨k, _, rfl⟩ := List.mem_map.mp hd
    have e : ((0 : Int) + (k : Nat) * 1) = (k : Int) := by omega
    refine ⟨_, rfl, _, rfl, rfl, ns, k, by rw [e], ?_⟩
    refine ⟨4, rfl, by decide, ?_⟩
    refine for_keep (Id ns) (fun d2 ρ2 D2 h2 hn2 hrt2 hex2 => ?_) (fun ρ2 h2 => ?_) _ _ ⟨_, _, _, _, rfl⟩
    · obtain ⟨p1, p3, p4, p5, rfl⟩ := h2
      refine ⟨_, rfl, rfl, right TC ⟨_, rfl, ?_⟩⟩
      show if (!true) = true then _ else _
      rw [if_neg (by decide)]
      exact hn2 _ ⟨_, _, _, _, rfl⟩
    · obtain ⟨p1, p3, p4, p5, rfl⟩ := h2
      exact hn _ ⟨_, _, _, _, _, rfl⟩
  · obtain ⟨o1, o2, o3, o4, o5, rfl⟩ := hρ
    simp only [fnS, Pu.startB, sSeq, sAsg, sIf, sRet, sNext, sNew, sApp, sPar, sDem, demB, fVar, fVarT, fC, fOp, fTst, fAnd, fOr, fNot, fNew, fLst, fTup, fNil, fCons, fSl, oAt, oNo, fCB, fCall, fIf, fChain, fRng1, fIt, fJoin, RLen, RI0, RAdd, RIx, RSl, RIsN, RTuple, RIn, gN, bD, List.map_cons, List.map_nil, List.cons_append, List.nil_append, List.length_cons, List.length_nil, List.replicate, Nat.reduceSub, Nat.reduceAdd, List.getElem?_cons_zero, List.getElem?_cons_succ, List.set_cons_zero, List.set_cons_succ, Option.some.injEq, B.val.injEq, D.int.injEq, D.bl.injEq, D.str.injEq, D.tup.injEq, D.lst.injEq, exists_eq_left', exists_eq_left, exists_and_left, ex_eq, true_and, and_true, List.cons.injEq, fCmethV, fProp, fMeth]
    have ar : ∀ t : Tr, (arF t.nodes []).isSome = true → ∃ r, arF t.nodes [] = some r := fun t h => Option.isSome_iff_exists.mp h
    obtain ⟨rA, hA⟩ := ar tA (by decide +kernel)
    obtain ⟨rU, hU⟩ := ar tU (by decide +kernel)
    obtain ⟨rG, hG⟩ := ar tG (by decide +kernel)
    obtain ⟨rF, hF⟩ := ar tF (by decide +kernel)
    have gA : GoodT tA := good_by _ (by decide +kernel)
    have gU : GoodT tU := good_by _ (by decide +kernel)
    have gG : GoodT tG := good_by _ (by decide +kernel)
    have gF : GoodT tF := good_by _ (by decide +kernel)
    have sF : tF.size ≤ 40 := by decide +kernel
    have sG : tG.size ≤ 40 := by decide +kernel
    refine ⟨by decide, by decide, t_build TC (w := "a") (xs := []) gA (by decide +kernel) hA fun dA => ?_⟩
    refine ⟨by decide, by decide, t_build TC (w := "_") (xs := []) gU (by decide +kernel) hU fun dU => ?_⟩
    refine ⟨by decide, by decide, t_build TC (w := "_") (xs := []) gU (by decide +kernel) hU fun dV => ?_⟩
    refine ⟨by decide, by decide, t_build TC (w := "g") (xs := [(tU, dV)]) gG sG hG fun dG => ?_⟩
    refine ⟨by decide, by decide, t_build TC (w := "f") (xs := [(tA, dA), (tU, dU), (tG, dG)]) gF sF hF fun dF => ?_⟩
    refine ⟨_, _, rfl, term_text TC gF sF ⟨_, _, rfl, by decide, t_children TC sF (p := 0) (w := "f") (ts := [tA, tU, tG]) rfl ⟨_, _, rfl, t_unknown TC ⟨_, _, rfl, by decide, t_part TC sF (p := 3) (s := tG) rfl fun d5 => ⟨_, _, rfl, term_text TC gG (by decide +kernel) ⟨_, _, rfl, by decide, t_above TC sF (p := 4) (by decide +kernel) ⟨_, _, rfl, t_depth TC sF ?_⟩⟩⟩⟩⟩⟩⟩
    refine ⟨by decide, by decide, by decide, by decide, by decide, ?_⟩
    show REq toldF dueF Q
    refine ⟨(show SeqAt.shaped (toP toldF) = true by decide +kernel), (show SeqAt.shaped (toP dueF) = true by decide +kernel), ?_⟩
    rw [show PyData.eqv (toP toldF) (toP dueF) = true by decide +kernel]
    exact q
end
end K5

set_option Elab.async false
set_option maxRecDepth 100000
set_option maxHeartbeats 1000000
set_option linter.all false
namespace K5Di
open PySem L2 Ly
open K5 (top Txt)
section
variable {P : Program} {w : World} {K : PySem.W.Frag} {mg : Str → Option Value} {base : Heap}
abbrev s_dice : Stmt := top 41
abbrev nm_dice : List Str := ["_law_script", "_law_spot", "_law_cell", "_law_great", "_law_blend"]
abbrev ps_dice : List Str := ["_law_script", "_law_spot"]
theorem sc_dice : FnScope nm_dice ps_dice (defScope s_dice) := ⟨rfl, rfl, rfl, by decide +kernel, rfl, by decide +kernel, by decide +kernel⟩
theorem ok_dice0 {f : Addr} {fd : FuncData} (F : Fun K "_law_dice" "_law_dice" s_dice f fd) (T : Txt K mg) : FnOk P w K mg base CX0 1 f fd ["_law_script", "_law_spot"] (spDice0 K) := by
  have nd := sc_dice.nd
  refine F.ok sc_dice (fun vs H Q E h => ?_) (fun cdv A outer s H vs Q E hr h => ?_)
  · obtain ⟨_, _, _, rfl, _⟩ := h
    rfl
  · obtain ⟨a, ns, n, rfl, hS, k⟩ := h
    refine ⟨_, (pss_cons (ps_set (i := 2) nd rfl (Or.inl rfl) (pe_op op_add (pe_op op_mul pe_int (pv 1)) pe_int))
      (Evl.pss_cut (ps_if (pt_cmpR op_lt (pv 1) (pe_callB (kcall_len (K := K)) (by rfl) T.z_len (by decide +kernel) (pa_cons (pv 0) pa_nil)) (nomark _)) (pss_one (ps_set (i := 2) nd rfl (Or.inl rfl) (pe_ix (kix_list (K := K)) (pv 0) (pv 1) (fun _ _ => rfl)))) pss_nil)
      (pss_cons (ps_set (i := 3) nd rfl (Or.inl rfl) (pe_op op_mod (pe_callTy call_int1 (by rfl) T.z_int (by decide +kernel) (pa_cons (pe_callB call_abs (by rfl) T.z_abs (by decide +kernel) (pa_cons (pv 2) pa_nil)) pa_nil)) (pe_op op_powW (pe_op op_powW pe_int pe_int) pe_int)))
      (pss_cons (ps_set (i := 4) nd rfl (Or.inl rfl) (pe_op op_add (pe_op op_add (pe_op op_add (pe_op op_mul (pe_op op_mod (pe_callTy call_int1 (by rfl) T.z_int (by decide +kernel) (pa_cons (pv 3) pa_nil)) pe_int) pe_int) (pe_op op_mul pe_int (pv 1))) (pe_op op_mul pe_int (pe_callTy call_int1 (by rfl) T.z_int (by decide +kernel) (pa_cons (pe_cmpR op_lt (pv 2) pe_int (nomark _)) pa_nil)))) pe_int))
      (pss_one (ps_ret (pe_lst (pa_cons (pe_callB (call_max2 rfl) (by rfl) T.z_max (by decide +kernel) (pa_cons pe_int (pa_cons (pe_op op_sub (pv 3) (pe_op op_powW pe_int pe_int)) pa_nil))) (pa_cons (pe_op op_mod (pe_callTy call_int1 (by rfl) T.z_int (by decide +kernel) (pa_cons (pv 4) pa_nil)) pe_int) (pa_cons pe_int pa_nil)))))))))), ?_⟩
    -- cell = 53 * spot + 29
    refine ⟨_, rfl, _, _, rfl, rfl, Or.inl ⟨by decide, by decide⟩, _, _, rfl, rfl, ?_⟩
    -- if spot < len(script)
    refine ⟨fun σ H' => ∃ cell : Int, σ = [some (.ref a), some (.int n), some (.int cell), none, none] ∧ H' = H, ?_, ?_⟩
    · refine ⟨_, rfl, _, rfl, a, _, rfl, Or.inl hS, _, _, rfl, rfl, _, rfl, ite2 (fun hc => ?_) (fun hc => ?_)⟩
      · have hc : (n : Int) < ((ns.map V.int).length : Int) := of_decide_eq_true hc
        have hl : n < ns.length := by
          rw [List.length_map] at hc
          omega
        exact ⟨_, rfl, _, rfl, a, _, _, _, rfl, rfl, hS, atI_nat (v := .int ns[n]) (by simp [hl]), ns[n], rfl, rfl⟩
      · exact ⟨_, rfl, rfl⟩
    · rintro σ H' ⟨cell, rfl, rfl⟩
      -- great
      refine ⟨_, rfl, _, rfl, Or.inl ⟨_, rfl, _, _, rfl, rfl, ⟨by decide, by decide +kernel⟩, _, _, rfl, rfl, ⟨by decide, by decide +kernel⟩, _, _, rfl, rfl, by show (0 : Int) < _; decide +kernel, ?_⟩⟩
      -- blend
      refine ⟨_, rfl, Or.inl ⟨_, rfl, _, _, rfl, rfl, by show (0 : Int) < 2305843009213693723; decide, _, _, rfl, rfl, Or.inr ⟨by decide, by decide⟩, _, rfl, _, _, rfl, rfl, Or.inl ⟨by decide, by decide⟩, _, _, rfl, rfl, _, rfl, _, _, rfl, rfl, Or.inr ⟨_, rfl, _, _, rfl, rfl, Or.inl ⟨by decide, by decide⟩, _, _, rfl, rfl, _, _, rfl, rfl, ?_⟩⟩⟩
      -- return
      refine ⟨_, rfl, _, _, rfl, rfl, ⟨by decide, by decide +kernel⟩, _, _, rfl, rfl, _, _, rfl, _, rfl, Or.inl ⟨_, rfl, _, _, rfl, rfl, by show (0 : Int) < 2305843009213693723; decide, by show 3 ≤ sizeLine; decide, fun p hp => ?_⟩⟩
      exact k p _ _ _ hp
theorem ok_dice {f : Addr} {fd : FuncData} (F : Fun K "_law_dice" "_law_dice" s_dice f fd) (T : Txt K mg) : FnOk P w K mg base CX0 1 f fd ["_law_script", "_law_spot"] (spDice K) := by
  refine (fn_mkdice (ok_dice0 F T)).imp fun vs H Q E h => ?_
  obtain ⟨a, ns, n, rfl, hS, k⟩ := h
  refine ⟨a, ns, n, rfl, hS, fun p x y z hp => ⟨p, x, y, z, rfl, upd_same, ?_⟩⟩
  rw [upd_upd]
  exact k p hp

abbrev s_roll : Stmt := top 42
abbrev nm_roll : List Str := ["_law_dice_here", "_law_total", "_law_found", "_law_one", "_law_two"]
abbrev ps_roll : List Str := ["_law_dice_here", "_law_total"]
theorem sc_roll : FnScope nm_roll ps_roll (defScope s_roll) := ⟨rfl, rfl, rfl, by decide +kernel, rfl, by decide +kernel, by decide +kernel⟩
theorem ok_roll0 {f : Addr} {fd : FuncData} (F : Fun K "_law_roll" "_law_roll" s_roll f fd) (T : Txt K mg) : FnOk P w K mg base CX0 1 f fd ["_law_dice_here", "_law_total"] spRoll0 := by
  have nd := sc_roll.nd
  refine F.ok sc_roll (fun vs H Q E h => ?_) (fun cdv A outer s H vs Q E hr h => ?_)
  · obtain ⟨_, _, _, _, _, rfl, _⟩ := h
    rfl
  · obtain ⟨p, t, a, b, c, rfl, ht, ht2, hp, k⟩ := h
    refine ⟨_, (pss_cons (ps_if (pt_cmpR op_gt (pe_ix (kix_list (K := K)) (pv 0) pe_int (fun _ _ => rfl)) pe_int (nomark _)) (pss_cons (ps_set (i := 2) nd rfl (Or.inl rfl) (pe_op op_mod (pe_callTy call_int1 (by rfl) T.z_int (by decide +kernel) (pa_cons (pe_ix (kix_list (K := K)) (pv 0) pe_int (fun _ _ => rfl)) pa_nil)) (pv 1)))
      (pss_cons (ps_asg (pe_op op_fdiv (pe_ix (kix_list (K := K)) (pv 0) pe_int (fun _ _ => rfl)) (pv 1)) (pg_sub (pv 0) pe_int set_list))
      (pss_one (ps_ret (pv 2))))) pss_nil)
      (pss_cons (ps_asg (pe_op op_add (pe_ix (kix_list (K := K)) (pv 0) pe_int (fun _ _ => rfl)) pe_int) (pg_sub (pv 0) pe_int set_list))
      (pss_cons (ps_set (i := 3) nd rfl (Or.inl rfl) (pe_op op_mod (pe_callTy call_int1 (by rfl) T.z_int (by decide +kernel) (pa_cons (pe_op op_add (pe_ix (kix_list (K := K)) (pv 0) pe_int (fun _ _ => rfl)) (pe_op op_mul pe_int (pe_ix (kix_list (K := K)) (pv 0) pe_int (fun _ _ => rfl)))) pa_nil)) pe_int))
      (pss_cons (ps_set (i := 4) nd rfl (Or.inl rfl) (pe_op op_add (pe_op op_mul (pe_op op_mod (pe_callTy call_int1 (by rfl) T.z_int (by decide +kernel) (pa_cons (pe_op op_mul (pv 3) (pv 3)) pa_nil)) pe_int) (pv 3)) (pe_op op_mul pe_int (pe_ix (kix_list (K := K)) (pv 0) pe_int (fun _ _ => rfl)))))
      (pss_cons (ps_set (i := 4) nd rfl (Or.inl rfl) (pe_op op_mod (pe_callTy call_int1 (by rfl) T.z_int (by decide +kernel) (pa_cons (pv 4) pa_nil)) pe_int))
      (pss_one (ps_ret (pe_op op_mod (pe_callTy call_int1 (by rfl) T.z_int (by decide +kernel) (pa_cons (pe_op op_fdiv (pv 4) pe_int) pa_nil)) (pv 1))))))))), ?_⟩
    have hL : SqL K H p [.int a, .int b, .int c] := SqL.of hp
    have h0 : (0 : Int) < 2305843009213693951 := by decide
    have h1 : (0 : Int) < 2305843009213693921 := by decide
    have h2 : (0 : Int) < 2305843009213693723 := by decide
    have hnn : ∀ x : Int, 0 ≤ x % t := fun x => Int.emod_nonneg _ (by omega)
    have hlt : ∀ x : Int, x % t < t := fun x => Int.emod_lt_of_pos _ ht
    refine ⟨_, rfl, p, _, _, _, rfl, rfl, hL, rfl, _, _, rfl, rfl, _, rfl, ite2 (fun _ => ?_) (fun _ => ?_)⟩
    · refine ⟨_, rfl, p, _, _, _, rfl, rfl, hL, rfl, Or.inl ⟨_, rfl, _, rfl, _, _, rfl, rfl, ht, ?_⟩⟩
      refine ⟨_, rfl, p, _, _, _, rfl, rfl, hL, rfl, _, rfl, _, _, rfl, rfl, ⟨ht, ht2⟩, _, rfl, p, _, _, _, rfl, rfl, hp, rfl, ?_⟩
      exact ⟨_, rfl, k _ _ _ _ (hnn _) (hlt _)⟩
    · refine ⟨_, rfl, p, _, _, _, rfl, rfl, hL, rfl, _, _, rfl, rfl, _, rfl, p, _, _, _, rfl, rfl, hp, rfl, ?_⟩
      have hL2 : SqL K (upd H p (.lst ([.int a, .int b, .int c].set 2 (.int (c + 1))))) p [.int a, .int b, .int (c + 1)] := SqL.of upd_same
      refine ⟨_, rfl, p, _, _, _, rfl, rfl, hL2, rfl, _, rfl, p, _, _, _, rfl, rfl, hL2, rfl, _, _, rfl, rfl, Or.inl ⟨by decide, by decide⟩, _, _, rfl, rfl, Or.inl ⟨_, rfl, _, _, rfl, rfl, h0, ?_⟩⟩
      have hone : ∀ x : Int, -(2 ^ 64) < x % 2305843009213693951 ∧ x % 2305843009213693951 < 2 ^ 64 := fun x => ⟨by have := Int.emod_nonneg x (b := 2305843009213693951) (by decide); omega, by have := Int.emod_lt_of_pos x h0; omega⟩
      refine ⟨_, rfl, _, rfl, _, _, rfl, rfl, Or.inl (hone _), Or.inl ⟨_, rfl, _, _, rfl, rfl, h1, _, rfl, _, _, rfl, rfl, Or.inr (hone _), _, rfl, p, _, _, _, rfl, rfl, hL2, rfl, _, _, rfl, rfl, Or.inl ⟨by decide, by decide⟩, _, _, rfl, rfl, ?_⟩⟩
      refine ⟨_, rfl, Or.inl ⟨_, rfl, _, _, rfl, rfl, h2, ?_⟩⟩
      refine ⟨_, rfl, _, _, rfl, rfl, ⟨by decide, by decide⟩, Or.inl ⟨_, rfl, _, rfl, _, _, rfl, rfl, ht, ?_⟩⟩
      exact k _ _ _ _ (hnn _) (hlt _)
theorem ok_roll {f : Addr} {fd : FuncData} (F : Fun K "_law_roll" "_law_roll" s_roll f fd) (T : Txt K mg) : FnOk P w K mg base CX0 1 f fd ["_law_dice_here", "_law_total"] spRoll := by
  refine (fn_dice (ok_roll0 F T)).imp fun vs H Q E h => ?_
  obtain ⟨p, t, rfl, h1, h2, hp, k⟩ := h
  refine ⟨rfl, p, hp, fun a b c => ⟨p, t, a, b, c, rfl, h1, h2, upd_same, fun r a' b' c' h3 h4 => ⟨⟨a', b', c', upd_same⟩, ?_⟩⟩⟩
  rw [upd_upd, upd_upd, upd_id hp]
  exact k r h3 h4

abbrev s_pick : Stmt := top 43
abbrev nm_pick : List Str := ["_law_dice_here", "_law_items"]
abbrev ps_pick : List Str := ["_law_dice_here", "_law_items"]
theorem sc_pick : FnScope nm_pick ps_pick (defScope s_pick) := ⟨rfl, rfl, rfl, by decide +kernel, rfl, by decide +kernel, by decide +kernel⟩
theorem ok_pick {f : Addr} {fd : FuncData} (F : Fun K "_law_pick" "_law_pick" s_pick f fd) (T : Txt K mg) (C_roll : Cal P w K mg base "_law_roll" 1 ["_law_dice_here", "_law_total"] spRoll) : FnOk P w K mg base CX0 2 f fd ["_law_dice_here", "_law_items"] (spPick K) := by
  refine F.ok sc_pick (fun vs H Q E h => ?_) (fun cdv A outer s H vs Q E hr h => ?_)
  · obtain ⟨_, _, _, rfl, _⟩ := h
    rfl
  · obtain ⟨p, l, xs, rfl, hp, hl, h1, h2, k⟩ := h
    refine ⟨_, (pss_one (ps_ret (pe_ix (kix_list (K := K)) (pv 1) (pe_cal C_roll (hr.mono (by first | decide | omega)) rfl (pa_cons (pv 0) (pa_cons (pe_callB (kcall_len (K := K)) (by rfl) T.z_len (by decide +kernel) (pa_cons (pv 1) pa_nil)) pa_nil))) (fun _ _ => rfl)))), ?_⟩
    refine ⟨_, rfl, _, rfl, _, rfl, l, _, rfl, Or.inl hl, p, _, rfl, by omega, by omega, hp, fun r h3 h4 => ?_⟩
    have e : r = (r.toNat : Int) := by omega
    have hx : xs[r.toNat]? = some (xs[r.toNat]'(by omega)) := by simp
    exact ⟨l, _, _, _, rfl, rfl, hl, at_of e hx, k _ _ hx⟩
end
end K5Di
namespace K5
open PySem PySem.Spec PyProof.Rows L2 Ly Pu TM
section
variable {P : Program} {w : World} {K : PySem.W.Frag} {mg : Str → Option Value} {base : Heap} {A : Adr}
def spLaw (K : PySem.W.Frag) : Sp := fun vs H Q _ => ∃ (a : Addr) (ns : List Int), vs = [.ref a] ∧ SqL K H a (ns.map V.int) ∧ ns.length ≤ 63 ∧ ∀ H', Q (.bl true) H'
theorem law_to (TC : TK K A) {vs : List V} {H : Hp} {Q : VK} {E : XK} (h : spLaw K vs H Q E) : spD K 1 (G_law K A) vs H Q E := by
  obtain ⟨a, ns, hv, hS, hl, kk⟩ := h
  exact ⟨H, [.lsk (ns.map .int)], fun d => d = .bl true, fun _ => False, Gx.refl _, by
    subst hv
    exact .cons (.lsk hS (v_ints ns) (by rw [List.length_map, sizeLine_eq]; omega)) .nil, rfl, law_ok TC hl rfl, fun v W' H' d e r z => (by subst z; cases r; exact kk H'), fun _ _ _ _ _ _ _ z => z.elim⟩
theorem law_top (TC : TK K A) {k : Nat} {f : Addr} {fd : FuncData} {ps : List Str} (F : FnG P w K mg base (L2.CX P w) k f fd ps (spD K 1 (G_law K A))) : FnG P w K mg base (L2.CX P w) k f fd ps (spLaw K) :=
  ⟨fun vs H Q E h => F.len vs H Q E (law_to TC h), fun A outer s H args us vs Q E hr gd he hb hv hs => F.run A outer s H args us vs Q E hr gd he hb hv (law_to TC hs)⟩
end
end K5

set_option Elab.async false
set_option maxRecDepth 100000
set_option maxHeartbeats 1000000
set_option linter.all false
namespace K5
open PySem PySem.Spec PyProof.Rows L2 Ly Pu TM K5Di
theorem all_mk {l : PySem.W.OpenLaw} {w : World} {K : PySem.W.Frag} {h : Heap} {mg : Str → Option Value} {fa C CN f_Term_init f_Term_eq f_Term_require_place f_Term_children f_Term_part f_Term_above f_Term_getitem f_Term_len f_Term_contains f_Term_str f_Nodes_init f_Term_build p_Term_build f_Term_text p_Term_text f_Term_nodes p_Term_nodes f_Term_symbols p_Term_symbols f_Term_unknown p_Term_unknown f_Term_lost p_Term_lost f_Term_is_ground p_Term_is_ground f_Term_depth p_Term_depth f_dice f_roll f_pick f_is_integer f_is_within f_is_word f_is_node f_ascending_rows f_children_of f_ends_of f_arities_in f_is_term_row f_text_of f_places_with f_nodes' f_text f_made_term f_term' f_small_term f_drawn_term f_term_in f_part_in f_parts f_leaves f_deep f_below f_told_right f_right f_law : Addr} (X : K.In h) (G : h.Ns mainGlobals mg) (hfa : mg "law" = some (.ref fa))
    {od_Term_init an_Term_init : Option Addr} {sl_Term_init : Array (Option Value)} {oc_Term_init kV_Term_init dc_Term_init pm_Term_init cd_Term_init ct_Term_init : Value}
    {od_Term_eq an_Term_eq : Option Addr} {sl_Term_eq : Array (Option Value)} {oc_Term_eq kV_Term_eq dc_Term_eq pm_Term_eq cd_Term_eq ct_Term_eq : Value}
    {od_Term_require_place an_Term_require_place : Option Addr} {sl_Term_require_place : Array (Option Value)} {oc_Term_require_place kV_Term_require_place dc_Term_require_place pm_Term_require_place cd_Term_require_place ct_Term_require_place : Value}
    {od_Term_children an_Term_children : Option Addr} {sl_Term_children : Array (Option Value)} {oc_Term_children kV_Term_children dc_Term_children pm_Term_children cd_Term_children ct_Term_children : Value}
    {od_Term_part an_Term_part : Option Addr} {sl_Term_part : Array (Option Value)} {oc_Term_part kV_Term_part dc_Term_part pm_Term_part cd_Term_part ct_Term_part : Value}
    {od_Term_above an_Term_above : Option Addr} {sl_Term_above : Array (Option Value)} {oc_Term_above kV_Term_above dc_Term_above pm_Term_above cd_Term_above ct_Term_above : Value}
    {od_Term_getitem an_Term_getitem : Option Addr} {sl_Term_getitem : Array (Option Value)} {oc_Term_getitem kV_Term_getitem dc_Term_getitem pm_Term_getitem cd_Term_getitem ct_Term_getitem : Value}
    {od_Term_len an_Term_len : Option Addr} {sl_Term_len : Array (Option Value)} {oc_Term_len kV_Term_len dc_Term_len pm_Term_len cd_Term_len ct_Term_len : Value}
    {od_Term_contains an_Term_contains : Option Addr} {sl_Term_contains : Array (Option Value)} {oc_Term_contains kV_Term_contains dc_Term_contains pm_Term_contains cd_Term_contains ct_Term_contains : Value}
    {od_Term_str an_Term_str : Option Addr} {sl_Term_str : Array (Option Value)} {oc_Term_str kV_Term_str dc_Term_str pm_Term_str cd_Term_str ct_Term_str : Value}
    {od_Nodes_init an_Nodes_init : Option Addr} {sl_Nodes_init : Array (Option Value)} {oc_Nodes_init kV_Nodes_init dc_Nodes_init pm_Nodes_init cd_Nodes_init ct_Nodes_init : Value}
    {rest_Term_build : List Value}
    {od_Term_build an_Term_build : Option Addr} {sl_Term_build : Array (Option Value)} {oc_Term_build kV_Term_build dc_Term_build pm_Term_build cd_Term_build ct_Term_build : Value}
    {rest_Term_text : List Value}
    {od_Term_text an_Term_text : Option Addr} {sl_Term_text : Array (Option Value)} {oc_Term_text kV_Term_text dc_Term_text pm_Term_text cd_Term_text ct_Term_text : Value}
    {rest_Term_nodes : List Value}
    {od_Term_nodes an_Term_nodes : Option Addr} {sl_Term_nodes : Array (Option Value)} {oc_Term_nodes kV_Term_nodes dc_Term_nodes pm_Term_nodes cd_Term_nodes ct_Term_nodes : Value}
    {rest_Term_symbols : List Value}
    {od_Term_symbols an_Term_symbols : Option Addr} {sl_Term_symbols : Array (Option Value)} {oc_Term_symbols kV_Term_symbols dc_Term_symbols pm_Term_symbols cd_Term_symbols ct_Term_symbols : Value}
    {rest_Term_unknown : List Value}
    {od_Term_unknown an_Term_unknown : Option Addr} {sl_Term_unknown : Array (Option Value)} {oc_Term_unknown kV_Term_unknown dc_Term_unknown pm_Term_unknown cd_Term_unknown ct_Term_unknown : Value}
    {rest_Term_lost : List Value}
    {od_Term_lost an_Term_lost : Option Addr} {sl_Term_lost : Array (Option Value)} {oc_Term_lost kV_Term_lost dc_Term_lost pm_Term_lost cd_Term_lost ct_Term_lost : Value}
    {rest_Term_is_ground : List Value}
    {od_Term_is_ground an_Term_is_ground : Option Addr} {sl_Term_is_ground : Array (Option Value)} {oc_Term_is_ground kV_Term_is_ground dc_Term_is_ground pm_Term_is_ground cd_Term_is_ground ct_Term_is_ground : Value}
    {rest_Term_depth : List Value}
    {od_Term_depth an_Term_depth : Option Addr} {sl_Term_depth : Array (Option Value)} {oc_Term_depth kV_Term_depth dc_Term_depth pm_Term_depth cd_Term_depth ct_Term_depth : Value}
    {od_dice an_dice : Option Addr} {sl_dice : Array (Option Value)} {oc_dice kV_dice dc_dice pm_dice cd_dice ct_dice : Value}
    {od_roll an_roll : Option Addr} {sl_roll : Array (Option Value)} {oc_roll kV_roll dc_roll pm_roll cd_roll ct_roll : Value}
    {od_pick an_pick : Option Addr} {sl_pick : Array (Option Value)} {oc_pick kV_pick dc_pick pm_pick cd_pick ct_pick : Value}
    {od_is_integer an_is_integer : Option Addr} {sl_is_integer : Array (Option Value)} {oc_is_integer kV_is_integer dc_is_integer pm_is_integer cd_is_integer ct_is_integer : Value}
    {od_is_within an_is_within : Option Addr} {sl_is_within : Array (Option Value)} {oc_is_within kV_is_within dc_is_within pm_is_within cd_is_within ct_is_within : Value}
    {od_is_word an_is_word : Option Addr} {sl_is_word : Array (Option Value)} {oc_is_word kV_is_word dc_is_word pm_is_word cd_is_word ct_is_word : Value}
    {od_is_node an_is_node : Option Addr} {sl_is_node : Array (Option Value)} {oc_is_node kV_is_node dc_is_node pm_is_node cd_is_node ct_is_node : Value}
    {od_ascending_rows an_ascending_rows : Option Addr} {sl_ascending_rows : Array (Option Value)} {oc_ascending_rows kV_ascending_rows dc_ascending_rows pm_ascending_rows cd_ascending_rows ct_ascending_rows : Value}
    {od_children_of an_children_of : Option Addr} {sl_children_of : Array (Option Value)} {oc_children_of kV_children_of dc_children_of pm_children_of cd_children_of ct_children_of : Value}
    {od_ends_of an_ends_of : Option Addr} {sl_ends_of : Array (Option Value)} {oc_ends_of kV_ends_of dc_ends_of pm_ends_of cd_ends_of ct_ends_of : Value}
    {od_arities_in an_arities_in : Option Addr} {sl_arities_in : Array (Option Value)} {oc_arities_in kV_arities_in dc_arities_in pm_arities_in cd_arities_in ct_arities_in : Value}
    {od_is_term_row an_is_term_row : Option Addr} {sl_is_term_row : Array (Option Value)} {oc_is_term_row kV_is_term_row dc_is_term_row pm_is_term_row cd_is_term_row ct_is_term_row : Value}
    {od_text_of an_text_of : Option Addr} {sl_text_of : Array (Option Value)} {oc_text_of kV_text_of dc_text_of pm_text_of cd_text_of ct_text_of : Value}
    {od_places_with an_places_with : Option Addr} {sl_places_with : Array (Option Value)} {oc_places_with kV_places_with dc_places_with pm_places_with cd_places_with ct_places_with : Value}
    {od_nodes' an_nodes' : Option Addr} {sl_nodes' : Array (Option Value)} {oc_nodes' kV_nodes' dc_nodes' pm_nodes' cd_nodes' ct_nodes' : Value}
    {od_text an_text : Option Addr} {sl_text : Array (Option Value)} {oc_text kV_text dc_text pm_text cd_text ct_text : Value}
    {od_made_term an_made_term : Option Addr} {sl_made_term : Array (Option Value)} {oc_made_term kV_made_term dc_made_term pm_made_term cd_made_term ct_made_term : Value}
    {od_term' an_term' : Option Addr} {sl_term' : Array (Option Value)} {oc_term' kV_term' dc_term' pm_term' cd_term' ct_term' : Value}
    {od_small_term an_small_term : Option Addr} {sl_small_term : Array (Option Value)} {oc_small_term kV_small_term dc_small_term pm_small_term cd_small_term ct_small_term : Value}
    {od_drawn_term an_drawn_term : Option Addr} {sl_drawn_term : Array (Option Value)} {oc_drawn_term kV_drawn_term dc_drawn_term pm_drawn_term cd_drawn_term ct_drawn_term : Value}
    {od_term_in an_term_in : Option Addr} {sl_term_in : Array (Option Value)} {oc_term_in kV_term_in dc_term_in pm_term_in cd_term_in ct_term_in : Value}
    {od_part_in an_part_in : Option Addr} {sl_part_in : Array (Option Value)} {oc_part_in kV_part_in dc_part_in pm_part_in cd_part_in ct_part_in : Value}
    {od_parts an_parts : Option Addr} {sl_parts : Array (Option Value)} {oc_parts kV_parts dc_parts pm_parts cd_parts ct_parts : Value}
    {od_leaves an_leaves : Option Addr} {sl_leaves : Array (Option Value)} {oc_leaves kV_leaves dc_leaves pm_leaves cd_leaves ct_leaves : Value}
    {od_deep an_deep : Option Addr} {sl_deep : Array (Option Value)} {oc_deep kV_deep dc_deep pm_deep cd_deep ct_deep : Value}
    {od_below an_below : Option Addr} {sl_below : Array (Option Value)} {oc_below kV_below dc_below pm_below cd_below ct_below : Value}
    {od_told_right an_told_right : Option Addr} {sl_told_right : Array (Option Value)} {oc_told_right kV_told_right dc_told_right pm_told_right cd_told_right ct_told_right : Value}
    {od_right an_right : Option Addr} {sl_right : Array (Option Value)} {oc_right kV_right dc_right pm_right cd_right ct_right : Value}
    {od_law an_law : Option Addr} {sl_law : Array (Option Value)} {oc_law kV_law dc_law pm_law cd_law ct_law : Value}
    {t_LONGEST : Tok}
    {t_MAX_LETTERS : Tok}
    {t_MAX_ARITY : Tok}
    {t_MAX_NODES : Tok}
    {t_ANY : Tok}
    {t_LOST : Tok}
    {t_LETTERS : Tok}
    (a_C : PySem.W.nsIn K mainGlobals "Term" = some (some (.ref C)))
    (a_CN : PySem.W.nsIn K mainGlobals "Nodes" = some (some (.ref CN)))
    (a_Term_init : PySem.W.findIn K (.ref C) "__init__" = some (some (.ref f_Term_init)))
    (i_Term_init : PySem.W.isFn K (.ref f_Term_init) = true)
    (l_Term_init : K.lookup f_Term_init = some ⟨oc_Term_init, od_Term_init, .func (PySem.W.fnOf "__init__" "Term.__init__" (defArgs s_Term_init) (defBody s_Term_init) (defScope s_Term_init) .none kV_Term_init dc_Term_init pm_Term_init an_Term_init cd_Term_init ct_Term_init), sl_Term_init⟩)
    (c_Term_init : PySem.W.codeIn K cd_Term_init "Term.__init__" = true)
    (k_Term_init : PySem.W.keepIn K (.ref f_Term_init) = true)
    (x_Term_init : PySem.W.fnIn K f_Term_init = true)
    (a_Term_eq : PySem.W.findIn K (.ref C) "__eq__" = some (some (.ref f_Term_eq)))
    (i_Term_eq : PySem.W.isFn K (.ref f_Term_eq) = true)
    (l_Term_eq : K.lookup f_Term_eq = some ⟨oc_Term_eq, od_Term_eq, .func (PySem.W.fnOf "__eq__" "Term.__eq__" (defArgs s_Term_eq) (defBody s_Term_eq) (defScope s_Term_eq) .none kV_Term_eq dc_Term_eq pm_Term_eq an_Term_eq cd_Term_eq ct_Term_eq), sl_Term_eq⟩)
    (c_Term_eq : PySem.W.codeIn K cd_Term_eq "Term.__eq__" = true)
    (k_Term_eq : PySem.W.keepIn K (.ref f_Term_eq) = true)
    (x_Term_eq : PySem.W.fnIn K f_Term_eq = true)
    (a_Term_require_place : PySem.W.findIn K (.ref C) "require_place" = some (some (.ref f_Term_require_place)))
    (i_Term_require_place : PySem.W.isFn K (.ref f_Term_require_place) = true)
    (l_Term_require_place : K.lookup f_Term_require_place = some ⟨oc_Term_require_place, od_Term_require_place, .func (PySem.W.fnOf "require_place" "Term.require_place" (defArgs s_Term_require_place) (defBody s_Term_require_place) (defScope s_Term_require_place) .none kV_Term_require_place dc_Term_require_place pm_Term_require_place an_Term_require_place cd_Term_require_place ct_Term_require_place), sl_Term_require_place⟩)
    (c_Term_require_place : PySem.W.codeIn K cd_Term_require_place "Term.require_place" = true)
    (k_Term_require_place : PySem.W.keepIn K (.ref f_Term_require_place) = true)
    (x_Term_require_place : PySem.W.fnIn K f_Term_require_place = true)
    (a_Term_children : PySem.W.findIn K (.ref C) "children" = some (some (.ref f_Term_children)))
    (i_Term_children : PySem.W.isFn K (.ref f_Term_children) = true)
    (l_Term_children : K.lookup f_Term_children = some ⟨oc_Term_children, od_Term_children, .func (PySem.W.fnOf "children" "Term.children" (defArgs s_Term_children) (defBody s_Term_children) (defScope s_Term_children) .none kV_Term_children dc_Term_children pm_Term_children an_Term_children cd_Term_children ct_Term_children), sl_Term_children⟩)
    (c_Term_children : PySem.W.codeIn K cd_Term_children "Term.children" = true)
    (k_Term_children : PySem.W.keepIn K (.ref f_Term_children) = true)
    (x_Term_children : PySem.W.fnIn K f_Term_children = true)
    (a_Term_part : PySem.W.findIn K (.ref C) "part" = some (some (.ref f_Term_part)))
    (i_Term_part : PySem.W.isFn K (.ref f_Term_part) = true)
    (l_Term_part : K.lookup f_Term_part = some ⟨oc_Term_part, od_Term_part, .func (PySem.W.fnOf "part" "Term.part" (defArgs s_Term_part) (defBody s_Term_part) (defScope s_Term_part) .none kV_Term_part dc_Term_part pm_Term_part an_Term_part cd_Term_part ct_Term_part), sl_Term_part⟩)
    (c_Term_part : PySem.W.codeIn K cd_Term_part "Term.part" = true)
    (k_Term_part : PySem.W.keepIn K (.ref f_Term_part) = true)
    (x_Term_part : PySem.W.fnIn K f_Term_part = true)
    (a_Term_above : PySem.W.findIn K (.ref C) "above" = some (some (.ref f_Term_above)))
    (i_Term_above : PySem.W.isFn K (.ref f_Term_above) = true)
    (l_Term_above : K.lookup f_Term_above = some ⟨oc_Term_above, od_Term_above, .func (PySem.W.fnOf "above" "Term.above" (defArgs s_Term_above) (defBody s_Term_above) (defScope s_Term_above) .none kV_Term_above dc_Term_above pm_Term_above an_Term_above cd_Term_above ct_Term_above), sl_Term_above⟩)
    (c_Term_above : PySem.W.codeIn K cd_Term_above "Term.above" = true)
    (k_Term_above : PySem.W.keepIn K (.ref f_Term_above) = true)
    (x_Term_above : PySem.W.fnIn K f_Term_above = true)
    (a_Term_getitem : PySem.W.findIn K (.ref C) "__getitem__" = some (some (.ref f_Term_getitem)))
    (i_Term_getitem : PySem.W.isFn K (.ref f_Term_getitem) = true)
    (l_Term_getitem : K.lookup f_Term_getitem = some ⟨oc_Term_getitem, od_Term_getitem, .func (PySem.W.fnOf "__getitem__" "Term.__getitem__" (defArgs s_Term_getitem) (defBody s_Term_getitem) (defScope s_Term_getitem) .none kV_Term_getitem dc_Term_getitem pm_Term_getitem an_Term_getitem cd_Term_getitem ct_Term_getitem), sl_Term_getitem⟩)
    (c_Term_getitem : PySem.W.codeIn K cd_Term_getitem "Term.__getitem__" = true)
    (k_Term_getitem : PySem.W.keepIn K (.ref f_Term_getitem) = true)
    (x_Term_getitem : PySem.W.fnIn K f_Term_getitem = true)
    (a_Term_len : PySem.W.findIn K (.ref C) "__len__" = some (some (.ref f_Term_len)))
    (i_Term_len : PySem.W.isFn K (.ref f_Term_len) = true)
    (l_Term_len : K.lookup f_Term_len = some ⟨oc_Term_len, od_Term_len, .func (PySem.W.fnOf "__len__" "Term.__len__" (defArgs s_Term_len) (defBody s_Term_len) (defScope s_Term_len) .none kV_Term_len dc_Term_len pm_Term_len an_Term_len cd_Term_len ct_Term_len), sl_Term_len⟩)
    (c_Term_len : PySem.W.codeIn K cd_Term_len "Term.__len__" = true)
    (k_Term_len : PySem.W.keepIn K (.ref f_Term_len) = true)
    (x_Term_len : PySem.W.fnIn K f_Term_len = true)
    (a_Term_contains : PySem.W.findIn K (.ref C) "__contains__" = some (some (.ref f_Term_contains)))
    (i_Term_contains : PySem.W.isFn K (.ref f_Term_contains) = true)
    (l_Term_contains : K.lookup f_Term_contains = some ⟨oc_Term_contains, od_Term_contains, .func (PySem.W.fnOf "__contains__" "Term.__contains__" (defArgs s_Term_contains) (defBody s_Term_contains) (defScope s_Term_contains) .none kV_Term_contains dc_Term_contains pm_Term_contains an_Term_contains cd_Term_contains ct_Term_contains), sl_Term_contains⟩)
    (c_Term_contains : PySem.W.codeIn K cd_Term_contains "Term.__contains__" = true)
    (k_Term_contains : PySem.W.keepIn K (.ref f_Term_contains) = true)
    (x_Term_contains : PySem.W.fnIn K f_Term_contains = true)
    (a_Term_str : PySem.W.findIn K (.ref C) "__str__" = some (some (.ref f_Term_str)))
    (i_Term_str : PySem.W.isFn K (.ref f_Term_str) = true)
    (l_Term_str : K.lookup f_Term_str = some ⟨oc_Term_str, od_Term_str, .func (PySem.W.fnOf "__str__" "Term.__str__" (defArgs s_Term_str) (defBody s_Term_str) (defScope s_Term_str) .none kV_Term_str dc_Term_str pm_Term_str an_Term_str cd_Term_str ct_Term_str), sl_Term_str⟩)
    (c_Term_str : PySem.W.codeIn K cd_Term_str "Term.__str__" = true)
    (k_Term_str : PySem.W.keepIn K (.ref f_Term_str) = true)
    (x_Term_str : PySem.W.fnIn K f_Term_str = true)
    (a_Nodes_init : PySem.W.findIn K (.ref CN) "__init__" = some (some (.ref f_Nodes_init)))
    (i_Nodes_init : PySem.W.isFn K (.ref f_Nodes_init) = true)
    (l_Nodes_init : K.lookup f_Nodes_init = some ⟨oc_Nodes_init, od_Nodes_init, .func (PySem.W.fnOf "__init__" "Nodes.__init__" (defArgs s_Nodes_init) (defBody s_Nodes_init) (defScope s_Nodes_init) .none kV_Nodes_init dc_Nodes_init pm_Nodes_init an_Nodes_init cd_Nodes_init ct_Nodes_init), sl_Nodes_init⟩)
    (c_Nodes_init : PySem.W.codeIn K cd_Nodes_init "Nodes.__init__" = true)
    (k_Nodes_init : PySem.W.keepIn K (.ref f_Nodes_init) = true)
    (x_Nodes_init : PySem.W.fnIn K f_Nodes_init = true)
    (a_Term_build : PySem.W.findCls K (.ref C) (.type "type") "build" = some (.get (.builtin "classmethod.__get__") (.ref p_Term_build) .none (.ref C)))
    (r_Term_build : PySem.W.recIn K p_Term_build "classmethod" = some (.ref f_Term_build :: rest_Term_build))
    (l_Term_build : K.lookup f_Term_build = some ⟨oc_Term_build, od_Term_build, .func (PySem.W.fnOf "build" "Term.build" (defArgs s_Term_build) (defBody s_Term_build) (defScope s_Term_build) .none kV_Term_build dc_Term_build pm_Term_build an_Term_build cd_Term_build ct_Term_build), sl_Term_build⟩)
    (c_Term_build : PySem.W.codeIn K cd_Term_build "Term.build" = true)
    (k_Term_build : PySem.W.keepIn K (.ref f_Term_build) = true)
    (x_Term_build : PySem.W.fnIn K f_Term_build = true)
    (a_Term_text : PySem.W.findIn K (.ref C) "text" = some (some (.ref p_Term_text)))
    (t_Term_text : PySem.W.typeIn K (.ref p_Term_text) = some (.type "property"))
    (g_Term_text : PySem.W.specialIn K (.ref p_Term_text) "__get__" = some (some (.builtin "property.__get__")))
    (tk_Term_text : PySem.W.takesIn K (.ref p_Term_text) = some true)
    (r_Term_text : PySem.W.recIn K p_Term_text "property" = some (.ref f_Term_text :: rest_Term_text))
    (l_Term_text : K.lookup f_Term_text = some ⟨oc_Term_text, od_Term_text, .func (PySem.W.fnOf "text" "Term.text" (defArgs s_Term_text) (defBody s_Term_text) (defScope s_Term_text) .none kV_Term_text dc_Term_text pm_Term_text an_Term_text cd_Term_text ct_Term_text), sl_Term_text⟩)
    (c_Term_text : PySem.W.codeIn K cd_Term_text "Term.text" = true)
    (k_Term_text : PySem.W.keepIn K (.ref f_Term_text) = true)
    (x_Term_text : PySem.W.fnIn K f_Term_text = true)
    (a_Term_nodes : PySem.W.findIn K (.ref C) "nodes" = some (some (.ref p_Term_nodes)))
    (t_Term_nodes : PySem.W.typeIn K (.ref p_Term_nodes) = some (.type "property"))
    (g_Term_nodes : PySem.W.specialIn K (.ref p_Term_nodes) "__get__" = some (some (.builtin "property.__get__")))
    (tk_Term_nodes : PySem.W.takesIn K (.ref p_Term_nodes) = some true)
    (r_Term_nodes : PySem.W.recIn K p_Term_nodes "property" = some (.ref f_Term_nodes :: rest_Term_nodes))
    (l_Term_nodes : K.lookup f_Term_nodes = some ⟨oc_Term_nodes, od_Term_nodes, .func (PySem.W.fnOf "nodes" "Term.nodes" (defArgs s_Term_nodes) (defBody s_Term_nodes) (defScope s_Term_nodes) .none kV_Term_nodes dc_Term_nodes pm_Term_nodes an_Term_nodes cd_Term_nodes ct_Term_nodes), sl_Term_nodes⟩)
    (c_Term_nodes : PySem.W.codeIn K cd_Term_nodes "Term.nodes" = true)
    (k_Term_nodes : PySem.W.keepIn K (.ref f_Term_nodes) = true)
    (x_Term_nodes : PySem.W.fnIn K f_Term_nodes = true)
    (a_Term_symbols : PySem.W.findIn K (.ref C) "symbols" = some (some (.ref p_Term_symbols)))
    (t_Term_symbols : PySem.W.typeIn K (.ref p_Term_symbols) = some (.type "property"))
    (g_Term_symbols : PySem.W.specialIn K (.ref p_Term_symbols) "__get__" = some (some (.builtin "property.__get__")))
    (tk_Term_symbols : PySem.W.takesIn K (.ref p_Term_symbols) = some true)
    (r_Term_symbols : PySem.W.recIn K p_Term_symbols "property" = some (.ref f_Term_symbols :: rest_Term_symbols))
    (l_Term_symbols : K.lookup f_Term_symbols = some ⟨oc_Term_symbols, od_Term_symbols, .func (PySem.W.fnOf "symbols" "Term.symbols" (defArgs s_Term_symbols) (defBody s_Term_symbols) (defScope s_Term_symbols) .none kV_Term_symbols dc_Term_symbols pm_Term_symbols an_Term_symbols cd_Term_symbols ct_Term_symbols), sl_Term_symbols⟩)
    (c_Term_symbols : PySem.W.codeIn K cd_Term_symbols "Term.symbols" = true)
    (k_Term_symbols : PySem.W.keepIn K (.ref f_Term_symbols) = true)
    (x_Term_symbols : PySem.W.fnIn K f_Term_symbols = true)
    (a_Term_unknown : PySem.W.findIn K (.ref C) "unknown" = some (some (.ref p_Term_unknown)))
    (t_Term_unknown : PySem.W.typeIn K (.ref p_Term_unknown) = some (.type "property"))
    (g_Term_unknown : PySem.W.specialIn K (.ref p_Term_unknown) "__get__" = some (some (.builtin "property.__get__")))
    (tk_Term_unknown : PySem.W.takesIn K (.ref p_Term_unknown) = some true)
    (r_Term_unknown : PySem.W.recIn K p_Term_unknown "property" = some (.ref f_Term_unknown :: rest_Term_unknown))
    (l_Term_unknown : K.lookup f_Term_unknown = some ⟨oc_Term_unknown, od_Term_unknown, .func (PySem.W.fnOf "unknown" "Term.unknown" (defArgs s_Term_unknown) (defBody s_Term_unknown) (defScope s_Term_unknown) .none kV_Term_unknown dc_Term_unknown pm_Term_unknown an_Term_unknown cd_Term_unknown ct_Term_unknown), sl_Term_unknown⟩)
    (c_Term_unknown : PySem.W.codeIn K cd_Term_unknown "Term.unknown" = true)
    (k_Term_unknown : PySem.W.keepIn K (.ref f_Term_unknown) = true)
    (x_Term_unknown : PySem.W.fnIn K f_Term_unknown = true)
    (a_Term_lost : PySem.W.findIn K (.ref C) "lost" = some (some (.ref p_Term_lost)))
    (t_Term_lost : PySem.W.typeIn K (.ref p_Term_lost) = some (.type "property"))
    (g_Term_lost : PySem.W.specialIn K (.ref p_Term_lost) "__get__" = some (some (.builtin "property.__get__")))
    (tk_Term_lost : PySem.W.takesIn K (.ref p_Term_lost) = some true)
    (r_Term_lost : PySem.W.recIn K p_Term_lost "property" = some (.ref f_Term_lost :: rest_Term_lost))
    (l_Term_lost : K.lookup f_Term_lost = some ⟨oc_Term_lost, od_Term_lost, .func (PySem.W.fnOf "lost" "Term.lost" (defArgs s_Term_lost) (defBody s_Term_lost) (defScope s_Term_lost) .none kV_Term_lost dc_Term_lost pm_Term_lost an_Term_lost cd_Term_lost ct_Term_lost), sl_Term_lost⟩)
    (c_Term_lost : PySem.W.codeIn K cd_Term_lost "Term.lost" = true)
    (k_Term_lost : PySem.W.keepIn K (.ref f_Term_lost) = true)
    (x_Term_lost : PySem.W.fnIn K f_Term_lost = true)
    (a_Term_is_ground : PySem.W.findIn K (.ref C) "is_ground" = some (some (.ref p_Term_is_ground)))
    (t_Term_is_ground : PySem.W.typeIn K (.ref p_Term_is_ground) = some (.type "property"))
    (g_Term_is_ground : PySem.W.specialIn K (.ref p_Term_is_ground) "__get__" = some (some (.builtin "property.__get__")))
    (tk_Term_is_ground : PySem.W.takesIn K (.ref p_Term_is_ground) = some true)
    (r_Term_is_ground : PySem.W.recIn K p_Term_is_ground "property" = some (.ref f_Term_is_ground :: rest_Term_is_ground))
    (l_Term_is_ground : K.lookup f_Term_is_ground = some ⟨oc_Term_is_ground, od_Term_is_ground, .func (PySem.W.fnOf "is_ground" "Term.is_ground" (defArgs s_Term_is_ground) (defBody s_Term_is_ground) (defScope s_Term_is_ground) .none kV_Term_is_ground dc_Term_is_ground pm_Term_is_ground an_Term_is_ground cd_Term_is_ground ct_Term_is_ground), sl_Term_is_ground⟩)
    (c_Term_is_ground : PySem.W.codeIn K cd_Term_is_ground "Term.is_ground" = true)
    (k_Term_is_ground : PySem.W.keepIn K (.ref f_Term_is_ground) = true)
    (x_Term_is_ground : PySem.W.fnIn K f_Term_is_ground = true)
    (a_Term_depth : PySem.W.findIn K (.ref C) "depth" = some (some (.ref p_Term_depth)))
    (t_Term_depth : PySem.W.typeIn K (.ref p_Term_depth) = some (.type "property"))
    (g_Term_depth : PySem.W.specialIn K (.ref p_Term_depth) "__get__" = some (some (.builtin "property.__get__")))
    (tk_Term_depth : PySem.W.takesIn K (.ref p_Term_depth) = some true)
    (r_Term_depth : PySem.W.recIn K p_Term_depth "property" = some (.ref f_Term_depth :: rest_Term_depth))
    (l_Term_depth : K.lookup f_Term_depth = some ⟨oc_Term_depth, od_Term_depth, .func (PySem.W.fnOf "depth" "Term.depth" (defArgs s_Term_depth) (defBody s_Term_depth) (defScope s_Term_depth) .none kV_Term_depth dc_Term_depth pm_Term_depth an_Term_depth cd_Term_depth ct_Term_depth), sl_Term_depth⟩)
    (c_Term_depth : PySem.W.codeIn K cd_Term_depth "Term.depth" = true)
    (k_Term_depth : PySem.W.keepIn K (.ref f_Term_depth) = true)
    (x_Term_depth : PySem.W.fnIn K f_Term_depth = true)
    (pg_C : PySem.W.plainGet K C Str.empty = true)
    (hd_C : PySem.W.hasDictIn K C = true)
    (po_C : PySem.W.plainOver K C = true)
    (sa_C : PySem.W.findIn K (.ref C) "__setattr__" = some (some (.builtin "object.__setattr__")))
    (ha_C : PySem.W.findIn K (.ref C) "__class__" = some (some (.builtin "object.__class__")))
    (hn_C : PySem.W.specialIn K (.builtin "object.__class__") "__get__" = some (some (.builtin "getset_descriptor.__get__")))
    (ht_C : PySem.W.takesIn K (.builtin "object.__class__") = some true)
    (hm_C : PySem.W.mroIn K C (.type "object") = some true)
    (mk_C : PySem.W.makesIn K C = true)
    (kc_C : PySem.W.keepIn K (.ref C) = true)
    (is_C : PySem.W.kitOne K (.ref C) (.ref C) = some true)
    (no_C_int : PySem.W.kitOne K (.ref C) (.type "int") = some false)
    (no_C_bool : PySem.W.kitOne K (.ref C) (.type "bool") = some false)
    (no_C_str : PySem.W.kitOne K (.ref C) (.type "str") = some false)
    (no_C_list : PySem.W.kitOne K (.ref C) (.type "list") = some false)
    (no_C_tuple : PySem.W.kitOne K (.ref C) (.type "tuple") = some false)
    (no_C_dict : PySem.W.kitOne K (.ref C) (.type "dict") = some false)
    (nt_C_NoneType : PySem.W.kitOne K (.type "NoneType") (.ref C) = some false)
    (nt_C_bool : PySem.W.kitOne K (.type "bool") (.ref C) = some false)
    (nt_C_int : PySem.W.kitOne K (.type "int") (.ref C) = some false)
    (nt_C_str : PySem.W.kitOne K (.type "str") (.ref C) = some false)
    (nt_C_list : PySem.W.kitOne K (.type "list") (.ref C) = some false)
    (nt_C_tuple : PySem.W.kitOne K (.type "tuple") (.ref C) = some false)
    (nt_C_dict : PySem.W.kitOne K (.type "dict") (.ref C) = some false)
    (pg_CN : PySem.W.plainGet K CN Str.empty = true)
    (hd_CN : PySem.W.hasDictIn K CN = true)
    (po_CN : PySem.W.plainOver K CN = true)
    (sa_CN : PySem.W.findIn K (.ref CN) "__setattr__" = some (some (.builtin "object.__setattr__")))
    (ha_CN : PySem.W.findIn K (.ref CN) "__class__" = some (some (.builtin "object.__class__")))
    (hn_CN : PySem.W.specialIn K (.builtin "object.__class__") "__get__" = some (some (.builtin "getset_descriptor.__get__")))
    (ht_CN : PySem.W.takesIn K (.builtin "object.__class__") = some true)
    (hm_CN : PySem.W.mroIn K CN (.type "object") = some true)
    (mk_CN : PySem.W.makesIn K CN = true)
    (kc_CN : PySem.W.keepIn K (.ref CN) = true)
    (is_CN : PySem.W.kitOne K (.ref CN) (.ref CN) = some true)
    (no_CN_int : PySem.W.kitOne K (.ref CN) (.type "int") = some false)
    (no_CN_bool : PySem.W.kitOne K (.ref CN) (.type "bool") = some false)
    (no_CN_str : PySem.W.kitOne K (.ref CN) (.type "str") = some false)
    (no_CN_list : PySem.W.kitOne K (.ref CN) (.type "list") = some false)
    (no_CN_tuple : PySem.W.kitOne K (.ref CN) (.type "tuple") = some false)
    (no_CN_dict : PySem.W.kitOne K (.ref CN) (.type "dict") = some false)
    (nt_CN_NoneType : PySem.W.kitOne K (.type "NoneType") (.ref CN) = some false)
    (nt_CN_bool : PySem.W.kitOne K (.type "bool") (.ref CN) = some false)
    (nt_CN_int : PySem.W.kitOne K (.type "int") (.ref CN) = some false)
    (nt_CN_str : PySem.W.kitOne K (.type "str") (.ref CN) = some false)
    (nt_CN_list : PySem.W.kitOne K (.type "list") (.ref CN) = some false)
    (nt_CN_tuple : PySem.W.kitOne K (.type "tuple") (.ref CN) = some false)
    (nt_CN_dict : PySem.W.kitOne K (.type "dict") (.ref CN) = some false)
    (n1 : PySem.W.findIn K (.ref C) "own_nodes" = some none)
    (n2 : PySem.W.findIn K (.ref C) "own_children" = some none)
    (n3 : PySem.W.findIn K (.ref C) "own_ends" = some none)
    (n4 : PySem.W.findIn K (.ref C) "own_symbols" = some none)
    (n5 : PySem.W.findIn K (.ref C) "own_unknown" = some none)
    (n6 : PySem.W.findIn K (.ref C) "own_lost" = some none)
    (t1 : PySem.W.findIn K (.ref CN) "told_nodes" = some none)
    (rdC : PySem.W.readsIn K C (.type "type") = true)
    (gaC : PySem.W.specialIn K (.ref C) "__getattribute__" = some (some (.builtin "type.__getattribute__")))
    (ne_C : PySem.W.findIn K (.ref C) "__ne__" = some (some (.builtin "object.__ne__")))
    (a_dice : PySem.W.nsIn K mainGlobals "_law_dice" = some (some (.ref f_dice)))
    (l_dice : K.lookup f_dice = some ⟨oc_dice, od_dice, .func (PySem.W.fnOf "_law_dice" "_law_dice" (defArgs s_dice) (defBody s_dice) (defScope s_dice) .none kV_dice dc_dice pm_dice an_dice cd_dice ct_dice), sl_dice⟩)
    (c_dice : PySem.W.codeIn K cd_dice "_law_dice" = true)
    (k_dice : PySem.W.keepIn K (.ref f_dice) = true)
    (a_roll : PySem.W.nsIn K mainGlobals "_law_roll" = some (some (.ref f_roll)))
    (l_roll : K.lookup f_roll = some ⟨oc_roll, od_roll, .func (PySem.W.fnOf "_law_roll" "_law_roll" (defArgs s_roll) (defBody s_roll) (defScope s_roll) .none kV_roll dc_roll pm_roll an_roll cd_roll ct_roll), sl_roll⟩)
    (c_roll : PySem.W.codeIn K cd_roll "_law_roll" = true)
    (k_roll : PySem.W.keepIn K (.ref f_roll) = true)
    (a_pick : PySem.W.nsIn K mainGlobals "_law_pick" = some (some (.ref f_pick)))
    (l_pick : K.lookup f_pick = some ⟨oc_pick, od_pick, .func (PySem.W.fnOf "_law_pick" "_law_pick" (defArgs s_pick) (defBody s_pick) (defScope s_pick) .none kV_pick dc_pick pm_pick an_pick cd_pick ct_pick), sl_pick⟩)
    (c_pick : PySem.W.codeIn K cd_pick "_law_pick" = true)
    (k_pick : PySem.W.keepIn K (.ref f_pick) = true)
    (a_is_integer : PySem.W.nsIn K mainGlobals "is_integer" = some (some (.ref f_is_integer)))
    (l_is_integer : K.lookup f_is_integer = some ⟨oc_is_integer, od_is_integer, .func (PySem.W.fnOf "is_integer" "is_integer" (defArgs s_is_integer) (defBody s_is_integer) (defScope s_is_integer) .none kV_is_integer dc_is_integer pm_is_integer an_is_integer cd_is_integer ct_is_integer), sl_is_integer⟩)
    (c_is_integer : PySem.W.codeIn K cd_is_integer "is_integer" = true)
    (k_is_integer : PySem.W.keepIn K (.ref f_is_integer) = true)
    (a_is_within : PySem.W.nsIn K mainGlobals "is_within" = some (some (.ref f_is_within)))
    (l_is_within : K.lookup f_is_within = some ⟨oc_is_within, od_is_within, .func (PySem.W.fnOf "is_within" "is_within" (defArgs s_is_within) (defBody s_is_within) (defScope s_is_within) .none kV_is_within dc_is_within pm_is_within an_is_within cd_is_within ct_is_within), sl_is_within⟩)
    (c_is_within : PySem.W.codeIn K cd_is_within "is_within" = true)
    (k_is_within : PySem.W.keepIn K (.ref f_is_within) = true)
    (a_is_word : PySem.W.nsIn K mainGlobals "is_word" = some (some (.ref f_is_word)))
    (l_is_word : K.lookup f_is_word = some ⟨oc_is_word, od_is_word, .func (PySem.W.fnOf "is_word" "is_word" (defArgs s_is_word) (defBody s_is_word) (defScope s_is_word) .none kV_is_word dc_is_word pm_is_word an_is_word cd_is_word ct_is_word), sl_is_word⟩)
    (c_is_word : PySem.W.codeIn K cd_is_word "is_word" = true)
    (k_is_word : PySem.W.keepIn K (.ref f_is_word) = true)
    (a_is_node : PySem.W.nsIn K mainGlobals "is_node" = some (some (.ref f_is_node)))
    (l_is_node : K.lookup f_is_node = some ⟨oc_is_node, od_is_node, .func (PySem.W.fnOf "is_node" "is_node" (defArgs s_is_node) (defBody s_is_node) (defScope s_is_node) .none kV_is_node dc_is_node pm_is_node an_is_node cd_is_node ct_is_node), sl_is_node⟩)
    (c_is_node : PySem.W.codeIn K cd_is_node "is_node" = true)
    (k_is_node : PySem.W.keepIn K (.ref f_is_node) = true)
    (a_ascending_rows : PySem.W.nsIn K mainGlobals "ascending_rows" = some (some (.ref f_ascending_rows)))
    (l_ascending_rows : K.lookup f_ascending_rows = some ⟨oc_ascending_rows, od_ascending_rows, .func (PySem.W.fnOf "ascending_rows" "ascending_rows" (defArgs s_ascending_rows) (defBody s_ascending_rows) (defScope s_ascending_rows) .none kV_ascending_rows dc_ascending_rows pm_ascending_rows an_ascending_rows cd_ascending_rows ct_ascending_rows), sl_ascending_rows⟩)
    (c_ascending_rows : PySem.W.codeIn K cd_ascending_rows "ascending_rows" = true)
    (k_ascending_rows : PySem.W.keepIn K (.ref f_ascending_rows) = true)
    (a_children_of : PySem.W.nsIn K mainGlobals "children_of" = some (some (.ref f_children_of)))
    (l_children_of : K.lookup f_children_of = some ⟨oc_children_of, od_children_of, .func (PySem.W.fnOf "children_of" "children_of" (defArgs s_children_of) (defBody s_children_of) (defScope s_children_of) .none kV_children_of dc_children_of pm_children_of an_children_of cd_children_of ct_children_of), sl_children_of⟩)
    (c_children_of : PySem.W.codeIn K cd_children_of "children_of" = true)
    (k_children_of : PySem.W.keepIn K (.ref f_children_of) = true)
    (a_ends_of : PySem.W.nsIn K mainGlobals "ends_of" = some (some (.ref f_ends_of)))
    (l_ends_of : K.lookup f_ends_of = some ⟨oc_ends_of, od_ends_of, .func (PySem.W.fnOf "ends_of" "ends_of" (defArgs s_ends_of) (defBody s_ends_of) (defScope s_ends_of) .none kV_ends_of dc_ends_of pm_ends_of an_ends_of cd_ends_of ct_ends_of), sl_ends_of⟩)
    (c_ends_of : PySem.W.codeIn K cd_ends_of "ends_of" = true)
    (k_ends_of : PySem.W.keepIn K (.ref f_ends_of) = true)
    (a_arities_in : PySem.W.nsIn K mainGlobals "arities_in" = some (some (.ref f_arities_in)))
    (l_arities_in : K.lookup f_arities_in = some ⟨oc_arities_in, od_arities_in, .func (PySem.W.fnOf "arities_in" "arities_in" (defArgs s_arities_in) (defBody s_arities_in) (defScope s_arities_in) .none kV_arities_in dc_arities_in pm_arities_in an_arities_in cd_arities_in ct_arities_in), sl_arities_in⟩)
    (c_arities_in : PySem.W.codeIn K cd_arities_in "arities_in" = true)
    (k_arities_in : PySem.W.keepIn K (.ref f_arities_in) = true)
    (a_is_term_row : PySem.W.nsIn K mainGlobals "is_term_row" = some (some (.ref f_is_term_row)))
    (l_is_term_row : K.lookup f_is_term_row = some ⟨oc_is_term_row, od_is_term_row, .func (PySem.W.fnOf "is_term_row" "is_term_row" (defArgs s_is_term_row) (defBody s_is_term_row) (defScope s_is_term_row) .none kV_is_term_row dc_is_term_row pm_is_term_row an_is_term_row cd_is_term_row ct_is_term_row), sl_is_term_row⟩)
    (c_is_term_row : PySem.W.codeIn K cd_is_term_row "is_term_row" = true)
    (k_is_term_row : PySem.W.keepIn K (.ref f_is_term_row) = true)
    (a_text_of : PySem.W.nsIn K mainGlobals "text_of" = some (some (.ref f_text_of)))
    (l_text_of : K.lookup f_text_of = some ⟨oc_text_of, od_text_of, .func (PySem.W.fnOf "text_of" "text_of" (defArgs s_text_of) (defBody s_text_of) (defScope s_text_of) .none kV_text_of dc_text_of pm_text_of an_text_of cd_text_of ct_text_of), sl_text_of⟩)
    (c_text_of : PySem.W.codeIn K cd_text_of "text_of" = true)
    (k_text_of : PySem.W.keepIn K (.ref f_text_of) = true)
    (a_places_with : PySem.W.nsIn K mainGlobals "places_with" = some (some (.ref f_places_with)))
    (l_places_with : K.lookup f_places_with = some ⟨oc_places_with, od_places_with, .func (PySem.W.fnOf "places_with" "places_with" (defArgs s_places_with) (defBody s_places_with) (defScope s_places_with) .none kV_places_with dc_places_with pm_places_with an_places_with cd_places_with ct_places_with), sl_places_with⟩)
    (c_places_with : PySem.W.codeIn K cd_places_with "places_with" = true)
    (k_places_with : PySem.W.keepIn K (.ref f_places_with) = true)
    (a_nodes' : PySem.W.nsIn K mainGlobals "_law_nodes" = some (some (.ref f_nodes')))
    (l_nodes' : K.lookup f_nodes' = some ⟨oc_nodes', od_nodes', .func (PySem.W.fnOf "_law_nodes" "_law_nodes" (defArgs s_nodes') (defBody s_nodes') (defScope s_nodes') .none kV_nodes' dc_nodes' pm_nodes' an_nodes' cd_nodes' ct_nodes'), sl_nodes'⟩)
    (c_nodes' : PySem.W.codeIn K cd_nodes' "_law_nodes" = true)
    (k_nodes' : PySem.W.keepIn K (.ref f_nodes') = true)
    (a_text : PySem.W.nsIn K mainGlobals "_law_text" = some (some (.ref f_text)))
    (l_text : K.lookup f_text = some ⟨oc_text, od_text, .func (PySem.W.fnOf "_law_text" "_law_text" (defArgs s_text) (defBody s_text) (defScope s_text) .none kV_text dc_text pm_text an_text cd_text ct_text), sl_text⟩)
    (c_text : PySem.W.codeIn K cd_text "_law_text" = true)
    (k_text : PySem.W.keepIn K (.ref f_text) = true)
    (a_made_term : PySem.W.nsIn K mainGlobals "_law_made_term" = some (some (.ref f_made_term)))
    (l_made_term : K.lookup f_made_term = some ⟨oc_made_term, od_made_term, .func (PySem.W.fnOf "_law_made_term" "_law_made_term" (defArgs s_made_term) (defBody s_made_term) (defScope s_made_term) .none kV_made_term dc_made_term pm_made_term an_made_term cd_made_term ct_made_term), sl_made_term⟩)
    (c_made_term : PySem.W.codeIn K cd_made_term "_law_made_term" = true)
    (k_made_term : PySem.W.keepIn K (.ref f_made_term) = true)
    (a_term' : PySem.W.nsIn K mainGlobals "_law_term" = some (some (.ref f_term')))
    (l_term' : K.lookup f_term' = some ⟨oc_term', od_term', .func (PySem.W.fnOf "_law_term" "_law_term" (defArgs s_term') (defBody s_term') (defScope s_term') .none kV_term' dc_term' pm_term' an_term' cd_term' ct_term'), sl_term'⟩)
    (c_term' : PySem.W.codeIn K cd_term' "_law_term" = true)
    (k_term' : PySem.W.keepIn K (.ref f_term') = true)
    (a_small_term : PySem.W.nsIn K mainGlobals "_law_small_term" = some (some (.ref f_small_term)))
    (l_small_term : K.lookup f_small_term = some ⟨oc_small_term, od_small_term, .func (PySem.W.fnOf "_law_small_term" "_law_small_term" (defArgs s_small_term) (defBody s_small_term) (defScope s_small_term) .none kV_small_term dc_small_term pm_small_term an_small_term cd_small_term ct_small_term), sl_small_term⟩)
    (c_small_term : PySem.W.codeIn K cd_small_term "_law_small_term" = true)
    (k_small_term : PySem.W.keepIn K (.ref f_small_term) = true)
    (a_drawn_term : PySem.W.nsIn K mainGlobals "_law_drawn_term" = some (some (.ref f_drawn_term)))
    (l_drawn_term : K.lookup f_drawn_term = some ⟨oc_drawn_term, od_drawn_term, .func (PySem.W.fnOf "_law_drawn_term" "_law_drawn_term" (defArgs s_drawn_term) (defBody s_drawn_term) (defScope s_drawn_term) .none kV_drawn_term dc_drawn_term pm_drawn_term an_drawn_term cd_drawn_term ct_drawn_term), sl_drawn_term⟩)
    (c_drawn_term : PySem.W.codeIn K cd_drawn_term "_law_drawn_term" = true)
    (k_drawn_term : PySem.W.keepIn K (.ref f_drawn_term) = true)
    (a_term_in : PySem.W.nsIn K mainGlobals "term_in" = some (some (.ref f_term_in)))
    (l_term_in : K.lookup f_term_in = some ⟨oc_term_in, od_term_in, .func (PySem.W.fnOf "term_in" "term_in" (defArgs s_term_in) (defBody s_term_in) (defScope s_term_in) .none kV_term_in dc_term_in pm_term_in an_term_in cd_term_in ct_term_in), sl_term_in⟩)
    (c_term_in : PySem.W.codeIn K cd_term_in "term_in" = true)
    (k_term_in : PySem.W.keepIn K (.ref f_term_in) = true)
    (a_part_in : PySem.W.nsIn K mainGlobals "part_in" = some (some (.ref f_part_in)))
    (l_part_in : K.lookup f_part_in = some ⟨oc_part_in, od_part_in, .func (PySem.W.fnOf "part_in" "part_in" (defArgs s_part_in) (defBody s_part_in) (defScope s_part_in) .none kV_part_in dc_part_in pm_part_in an_part_in cd_part_in ct_part_in), sl_part_in⟩)
    (c_part_in : PySem.W.codeIn K cd_part_in "part_in" = true)
    (k_part_in : PySem.W.keepIn K (.ref f_part_in) = true)
    (a_parts : PySem.W.nsIn K mainGlobals "_law_parts" = some (some (.ref f_parts)))
    (l_parts : K.lookup f_parts = some ⟨oc_parts, od_parts, .func (PySem.W.fnOf "_law_parts" "_law_parts" (defArgs s_parts) (defBody s_parts) (defScope s_parts) .none kV_parts dc_parts pm_parts an_parts cd_parts ct_parts), sl_parts⟩)
    (c_parts : PySem.W.codeIn K cd_parts "_law_parts" = true)
    (k_parts : PySem.W.keepIn K (.ref f_parts) = true)
    (a_leaves : PySem.W.nsIn K mainGlobals "_law_leaves" = some (some (.ref f_leaves)))
    (l_leaves : K.lookup f_leaves = some ⟨oc_leaves, od_leaves, .func (PySem.W.fnOf "_law_leaves" "_law_leaves" (defArgs s_leaves) (defBody s_leaves) (defScope s_leaves) .none kV_leaves dc_leaves pm_leaves an_leaves cd_leaves ct_leaves), sl_leaves⟩)
    (c_leaves : PySem.W.codeIn K cd_leaves "_law_leaves" = true)
    (k_leaves : PySem.W.keepIn K (.ref f_leaves) = true)
    (a_deep : PySem.W.nsIn K mainGlobals "_law_deep" = some (some (.ref f_deep)))
    (l_deep : K.lookup f_deep = some ⟨oc_deep, od_deep, .func (PySem.W.fnOf "_law_deep" "_law_deep" (defArgs s_deep) (defBody s_deep) (defScope s_deep) .none kV_deep dc_deep pm_deep an_deep cd_deep ct_deep), sl_deep⟩)
    (c_deep : PySem.W.codeIn K cd_deep "_law_deep" = true)
    (k_deep : PySem.W.keepIn K (.ref f_deep) = true)
    (a_below : PySem.W.nsIn K mainGlobals "_law_below" = some (some (.ref f_below)))
    (l_below : K.lookup f_below = some ⟨oc_below, od_below, .func (PySem.W.fnOf "_law_below" "_law_below" (defArgs s_below) (defBody s_below) (defScope s_below) .none kV_below dc_below pm_below an_below cd_below ct_below), sl_below⟩)
    (c_below : PySem.W.codeIn K cd_below "_law_below" = true)
    (k_below : PySem.W.keepIn K (.ref f_below) = true)
    (a_told_right : PySem.W.nsIn K mainGlobals "_law_told_right" = some (some (.ref f_told_right)))
    (l_told_right : K.lookup f_told_right = some ⟨oc_told_right, od_told_right, .func (PySem.W.fnOf "_law_told_right" "_law_told_right" (defArgs s_told_right) (defBody s_told_right) (defScope s_told_right) .none kV_told_right dc_told_right pm_told_right an_told_right cd_told_right ct_told_right), sl_told_right⟩)
    (c_told_right : PySem.W.codeIn K cd_told_right "_law_told_right" = true)
    (k_told_right : PySem.W.keepIn K (.ref f_told_right) = true)
    (a_right : PySem.W.nsIn K mainGlobals "_law_right" = some (some (.ref f_right)))
    (l_right : K.lookup f_right = some ⟨oc_right, od_right, .func (PySem.W.fnOf "_law_right" "_law_right" (defArgs s_right) (defBody s_right) (defScope s_right) .none kV_right dc_right pm_right an_right cd_right ct_right), sl_right⟩)
    (c_right : PySem.W.codeIn K cd_right "_law_right" = true)
    (k_right : PySem.W.keepIn K (.ref f_right) = true)
    (a_law : PySem.W.nsIn K mainGlobals "law" = some (some (.ref f_law)))
    (l_law : K.lookup f_law = some ⟨oc_law, od_law, .func (PySem.W.fnOf "law" "law" (defArgs s_law) (defBody s_law) (defScope s_law) .none kV_law dc_law pm_law an_law cd_law ct_law), sl_law⟩)
    (c_law : PySem.W.codeIn K cd_law "law" = true)
    (k_law : PySem.W.keepIn K (.ref f_law) = true)
    (z_len : PySem.W.nsIn K mainGlobals "len" = some none)
    (z_int : PySem.W.nsIn K mainGlobals "int" = some none)
    (z_bool : PySem.W.nsIn K mainGlobals "bool" = some none)
    (z_str : PySem.W.nsIn K mainGlobals "str" = some none)
    (z_list : PySem.W.nsIn K mainGlobals "list" = some none)
    (z_tuple : PySem.W.nsIn K mainGlobals "tuple" = some none)
    (z_dict : PySem.W.nsIn K mainGlobals "dict" = some none)
    (z_abs : PySem.W.nsIn K mainGlobals "abs" = some none)
    (z_max : PySem.W.nsIn K mainGlobals "max" = some none)
    (z_min : PySem.W.nsIn K mainGlobals "min" = some none)
    (z_range : PySem.W.nsIn K mainGlobals "range" = some none)
    (z_repr : PySem.W.nsIn K mainGlobals "repr" = some none)
    (z_isinstance : PySem.W.nsIn K mainGlobals "isinstance" = some none)
    (z_all : PySem.W.nsIn K mainGlobals "all" = some none)
    (z_any : PySem.W.nsIn K mainGlobals "any" = some none)
    (z_sorted : PySem.W.nsIn K mainGlobals "sorted" = some none)
    (z_enumerate : PySem.W.nsIn K mainGlobals "enumerate" = some none)
    (z_iter : PySem.W.nsIn K mainGlobals "iter" = some none)
    (z_zip : PySem.W.nsIn K mainGlobals "zip" = some none)
    (i_LONGEST : PySem.W.nsIn K mainGlobals "LONGEST" = some (some (.int (10 ^ 60) t_LONGEST)))
    (i_MAX_LETTERS : PySem.W.nsIn K mainGlobals "MAX_LETTERS" = some (some (.int (8) t_MAX_LETTERS)))
    (i_MAX_ARITY : PySem.W.nsIn K mainGlobals "MAX_ARITY" = some (some (.int (3) t_MAX_ARITY)))
    (i_MAX_NODES : PySem.W.nsIn K mainGlobals "MAX_NODES" = some (some (.int (40) t_MAX_NODES)))
    (i_ANY : PySem.W.nsIn K mainGlobals "ANY" = some (some (.str "_" t_ANY)))
    (i_LOST : PySem.W.nsIn K mainGlobals "LOST" = some (some (.str "#" t_LOST)))
    (i_LETTERS : PySem.W.nsIn K mainGlobals "LETTERS" = some (some (.str "abcdefghijklmnopqrstuvwxyz" t_LETTERS))) :
    ∃ fd : FuncData, (∀ (s : Shared) (v : Value), BindsTo s fd ⟨[v], []⟩ [("_law_script", v)]) ∧ ∀ base : Heap, K.In base → base.Ns mainGlobals mg → FnG l.prog w K mg base (L2.CX l.prog w) 47 fa fd ["_law_script"] (spLaw K) := by
  have e := hfa.symm.trans (PySem.W.mg_of X G a_law)
  cases e
  have T : Txt K mg := ⟨PySem.W.mg_none_of X G z_len, PySem.W.mg_none_of X G z_int, PySem.W.mg_none_of X G z_bool, PySem.W.mg_none_of X G z_str, PySem.W.mg_none_of X G z_list, PySem.W.mg_none_of X G z_tuple, PySem.W.mg_none_of X G z_dict, PySem.W.mg_none_of X G z_abs, PySem.W.mg_none_of X G z_max, PySem.W.mg_none_of X G z_min, PySem.W.mg_none_of X G z_range, PySem.W.mg_none_of X G z_repr, PySem.W.mg_none_of X G z_isinstance, PySem.W.mg_none_of X G z_all, PySem.W.mg_none_of X G z_any, PySem.W.mg_none_of X G z_sorted, PySem.W.mg_none_of X G z_enumerate, PySem.W.mg_none_of X G z_iter, PySem.W.mg_none_of X G z_zip⟩
  have F_dice := fun_mk (st := s_dice) l_dice c_dice k_dice
  have m_dice := PySem.W.mg_of X G a_dice
  have b_dice := F_dice.binds (ps := ps_dice) fun _ _ _ _ _ _ us hl => match us, hl with | [_, _], _ => rfl
  have F_roll := fun_mk (st := s_roll) l_roll c_roll k_roll
  have m_roll := PySem.W.mg_of X G a_roll
  have b_roll := F_roll.binds (ps := ps_roll) fun _ _ _ _ _ _ us hl => match us, hl with | [_, _], _ => rfl
  have F_pick := fun_mk (st := s_pick) l_pick c_pick k_pick
  have m_pick := PySem.W.mg_of X G a_pick
  have b_pick := F_pick.binds (ps := ps_pick) fun _ _ _ _ _ _ us hl => match us, hl with | [_, _], _ => rfl
  have F_is_integer := fun_mk (st := s_is_integer) l_is_integer c_is_integer k_is_integer
  have m_is_integer := PySem.W.mg_of X G a_is_integer
  have b_is_integer := F_is_integer.binds (ps := ps_is_integer) fun _ _ _ _ _ _ us hl => match us, hl with | [_], _ => rfl
  have F_is_within := fun_mk (st := s_is_within) l_is_within c_is_within k_is_within
  have m_is_within := PySem.W.mg_of X G a_is_within
  have b_is_within := F_is_within.binds (ps := ps_is_within) fun _ _ _ _ _ _ us hl => match us, hl with | [_, _, _], _ => rfl
  have F_is_word := fun_mk (st := s_is_word) l_is_word c_is_word k_is_word
  have m_is_word := PySem.W.mg_of X G a_is_word
  have b_is_word := F_is_word.binds (ps := ps_is_word) fun _ _ _ _ _ _ us hl => match us, hl with | [_], _ => rfl
  have F_is_node := fun_mk (st := s_is_node) l_is_node c_is_node k_is_node
  have m_is_node := PySem.W.mg_of X G a_is_node
  have b_is_node := F_is_node.binds (ps := ps_is_node) fun _ _ _ _ _ _ us hl => match us, hl with | [_], _ => rfl
  have F_ascending_rows := fun_mk (st := s_ascending_rows) l_ascending_rows c_ascending_rows k_ascending_rows
  have m_ascending_rows := PySem.W.mg_of X G a_ascending_rows
  have b_ascending_rows := F_ascending_rows.binds (ps := ps_ascending_rows) fun _ _ _ _ _ _ us hl => match us, hl with | [_], _ => rfl
  have F_children_of := fun_mk (st := s_children_of) l_children_of c_children_of k_children_of
  have m_children_of := PySem.W.mg_of X G a_children_of
  have b_children_of := F_children_of.binds (ps := ps_children_of) fun _ _ _ _ _ _ us hl => match us, hl with | [_], _ => rfl
  have F_ends_of := fun_mk (st := s_ends_of) l_ends_of c_ends_of k_ends_of
  have m_ends_of := PySem.W.mg_of X G a_ends_of
  have b_ends_of := F_ends_of.binds (ps := ps_ends_of) fun _ _ _ _ _ _ us hl => match us, hl with | [_], _ => rfl
  have F_arities_in := fun_mk (st := s_arities_in) l_arities_in c_arities_in k_arities_in
  have m_arities_in := PySem.W.mg_of X G a_arities_in
  have b_arities_in := F_arities_in.binds (ps := ps_arities_in) fun _ _ _ _ _ _ us hl => match us, hl with | [_], _ => rfl
  have F_is_term_row := fun_mk (st := s_is_term_row) l_is_term_row c_is_term_row k_is_term_row
  have m_is_term_row := PySem.W.mg_of X G a_is_term_row
  have b_is_term_row := F_is_term_row.binds (ps := ps_is_term_row) fun _ _ _ _ _ _ us hl => match us, hl with | [_], _ => rfl
  have F_text_of := fun_mk (st := s_text_of) l_text_of c_text_of k_text_of
  have m_text_of := PySem.W.mg_of X G a_text_of
  have b_text_of := F_text_of.binds (ps := ps_text_of) fun _ _ _ _ _ _ us hl => match us, hl with | [_, _, _], _ => rfl
  have F_places_with := fun_mk (st := s_places_with) l_places_with c_places_with k_places_with
  have m_places_with := PySem.W.mg_of X G a_places_with
  have b_places_with := F_places_with.binds (ps := ps_places_with) fun _ _ _ _ _ _ us hl => match us, hl with | [_, _], _ => rfl
  have F_nodes' := fun_mk (st := s_nodes') l_nodes' c_nodes' k_nodes'
  have m_nodes' := PySem.W.mg_of X G a_nodes'
  have b_nodes' := F_nodes'.binds (ps := ps_nodes') fun _ _ _ _ _ _ us hl => match us, hl with | [_], _ => rfl
  have F_text := fun_mk (st := s_text) l_text c_text k_text
  have m_text := PySem.W.mg_of X G a_text
  have b_text := F_text.binds (ps := ps_text) fun _ _ _ _ _ _ us hl => match us, hl with | [_], _ => rfl
  have F_made_term := fun_mk (st := s_made_term) l_made_term c_made_term k_made_term
  have m_made_term := PySem.W.mg_of X G a_made_term
  have b_made_term := F_made_term.binds (ps := ps_made_term) fun _ _ _ _ _ _ us hl => match us, hl with | [_], _ => rfl
  have F_term' := fun_mk (st := s_term') l_term' c_term' k_term'
  have m_term' := PySem.W.mg_of X G a_term'
  have b_term' := F_term'.binds (ps := ps_term') fun _ _ _ _ _ _ us hl => match us, hl with | [_, _, _, _], _ => rfl
  have F_small_term := fun_mk (st := s_small_term) l_small_term c_small_term k_small_term
  have m_small_term := PySem.W.mg_of X G a_small_term
  have b_small_term := F_small_term.binds (ps := ps_small_term) fun _ _ _ _ _ _ us hl => match us, hl with | [_, _, _, _, _], _ => rfl
  have F_drawn_term := fun_mk (st := s_drawn_term) l_drawn_term c_drawn_term k_drawn_term
  have m_drawn_term := PySem.W.mg_of X G a_drawn_term
  have b_drawn_term := F_drawn_term.binds (ps := ps_drawn_term) fun _ _ _ _ _ _ us hl => match us, hl with | [_, _], _ => rfl
  have F_term_in := fun_mk (st := s_term_in) l_term_in c_term_in k_term_in
  have m_term_in := PySem.W.mg_of X G a_term_in
  have b_term_in := F_term_in.binds (ps := ps_term_in) fun _ _ _ _ _ _ us hl => match us, hl with | [_], _ => rfl
  have F_part_in := fun_mk (st := s_part_in) l_part_in c_part_in k_part_in
  have m_part_in := PySem.W.mg_of X G a_part_in
  have b_part_in := F_part_in.binds (ps := ps_part_in) fun _ _ _ _ _ _ us hl => match us, hl with | [_, _], _ => rfl
  have F_parts := fun_mk (st := s_parts) l_parts c_parts k_parts
  have m_parts := PySem.W.mg_of X G a_parts
  have b_parts := F_parts.binds (ps := ps_parts) fun _ _ _ _ _ _ us hl => match us, hl with | [_], _ => rfl
  have F_leaves := fun_mk (st := s_leaves) l_leaves c_leaves k_leaves
  have m_leaves := PySem.W.mg_of X G a_leaves
  have b_leaves := F_leaves.binds (ps := ps_leaves) fun _ _ _ _ _ _ us hl => match us, hl with | [_, _], _ => rfl
  have F_deep := fun_mk (st := s_deep) l_deep c_deep k_deep
  have m_deep := PySem.W.mg_of X G a_deep
  have b_deep := F_deep.binds (ps := ps_deep) fun _ _ _ _ _ _ us hl => match us, hl with | [_], _ => rfl
  have F_below := fun_mk (st := s_below) l_below c_below k_below
  have m_below := PySem.W.mg_of X G a_below
  have b_below := F_below.binds (ps := ps_below) fun _ _ _ _ _ _ us hl => match us, hl with | [_, _], _ => rfl
  have F_told_right := fun_mk (st := s_told_right) l_told_right c_told_right k_told_right
  have m_told_right := PySem.W.mg_of X G a_told_right
  have b_told_right := F_told_right.binds (ps := ps_told_right) fun _ _ _ _ _ _ us hl => match us, hl with | [_, _], _ => rfl
  have F_right := fun_mk (st := s_right) l_right c_right k_right
  have m_right := PySem.W.mg_of X G a_right
  have b_right := F_right.binds (ps := ps_right) fun _ _ _ _ _ _ us hl => match us, hl with | [_], _ => rfl
  have F_law := fun_mk (st := s_law) l_law c_law k_law
  have m_law := PySem.W.mg_of X G a_law
  have b_law := F_law.binds (ps := ps_law) fun _ _ _ _ _ _ us hl => match us, hl with | [_], _ => rfl
  have F_Term_init := fun_mk (st := s_Term_init) l_Term_init c_Term_init k_Term_init
  have b_Term_init := F_Term_init.binds (ps := ps_Term_init) fun _ _ _ _ _ _ us hl => match us, hl with | [_, _], _ => rfl
  have F_Term_eq := fun_mk (st := s_Term_eq) l_Term_eq c_Term_eq k_Term_eq
  have b_Term_eq := F_Term_eq.binds (ps := ps_Term_eq) fun _ _ _ _ _ _ us hl => match us, hl with | [_, _], _ => rfl
  have F_Term_require_place := fun_mk (st := s_Term_require_place) l_Term_require_place c_Term_require_place k_Term_require_place
  have b_Term_require_place := F_Term_require_place.binds (ps := ps_Term_require_place) fun _ _ _ _ _ _ us hl => match us, hl with | [_, _], _ => rfl
  have F_Term_children := fun_mk (st := s_Term_children) l_Term_children c_Term_children k_Term_children
  have b_Term_children := F_Term_children.binds (ps := ps_Term_children) fun _ _ _ _ _ _ us hl => match us, hl with | [_, _], _ => rfl
  have F_Term_part := fun_mk (st := s_Term_part) l_Term_part c_Term_part k_Term_part
  have b_Term_part := F_Term_part.binds (ps := ps_Term_part) fun _ _ _ _ _ _ us hl => match us, hl with | [_, _], _ => rfl
  have F_Term_above := fun_mk (st := s_Term_above) l_Term_above c_Term_above k_Term_above
  have b_Term_above := F_Term_above.binds (ps := ps_Term_above) fun _ _ _ _ _ _ us hl => match us, hl with | [_, _], _ => rfl
  have F_Term_getitem := fun_mk (st := s_Term_getitem) l_Term_getitem c_Term_getitem k_Term_getitem
  have b_Term_getitem := F_Term_getitem.binds (ps := ps_Term_getitem) fun _ _ _ _ _ _ us hl => match us, hl with | [_, _], _ => rfl
  have F_Term_len := fun_mk (st := s_Term_len) l_Term_len c_Term_len k_Term_len
  have b_Term_len := F_Term_len.binds (ps := ps_Term_len) fun _ _ _ _ _ _ us hl => match us, hl with | [_], _ => rfl
  have F_Term_contains := fun_mk (st := s_Term_contains) l_Term_contains c_Term_contains k_Term_contains
  have b_Term_contains := F_Term_contains.binds (ps := ps_Term_contains) fun _ _ _ _ _ _ us hl => match us, hl with | [_, _], _ => rfl
  have F_Term_str := fun_mk (st := s_Term_str) l_Term_str c_Term_str k_Term_str
  have b_Term_str := F_Term_str.binds (ps := ps_Term_str) fun _ _ _ _ _ _ us hl => match us, hl with | [_], _ => rfl
  have F_Nodes_init := fun_mk (st := s_Nodes_init) l_Nodes_init c_Nodes_init k_Nodes_init
  have b_Nodes_init := F_Nodes_init.binds (ps := ps_Nodes_init) fun _ _ _ _ _ _ us hl => match us, hl with | [_, _], _ => rfl
  have F_Term_build := fun_mk (st := s_Term_build) l_Term_build c_Term_build k_Term_build
  have F_Term_text := fun_mk (st := s_Term_text) l_Term_text c_Term_text k_Term_text
  have b_Term_text := F_Term_text.binds (ps := ps_Term_text) fun _ _ _ _ _ _ us hl => match us, hl with | [_], _ => rfl
  have F_Term_nodes := fun_mk (st := s_Term_nodes) l_Term_nodes c_Term_nodes k_Term_nodes
  have b_Term_nodes := F_Term_nodes.binds (ps := ps_Term_nodes) fun _ _ _ _ _ _ us hl => match us, hl with | [_], _ => rfl
  have F_Term_symbols := fun_mk (st := s_Term_symbols) l_Term_symbols c_Term_symbols k_Term_symbols
  have b_Term_symbols := F_Term_symbols.binds (ps := ps_Term_symbols) fun _ _ _ _ _ _ us hl => match us, hl with | [_], _ => rfl
  have F_Term_unknown := fun_mk (st := s_Term_unknown) l_Term_unknown c_Term_unknown k_Term_unknown
  have b_Term_unknown := F_Term_unknown.binds (ps := ps_Term_unknown) fun _ _ _ _ _ _ us hl => match us, hl with | [_], _ => rfl
  have F_Term_lost := fun_mk (st := s_Term_lost) l_Term_lost c_Term_lost k_Term_lost
  have b_Term_lost := F_Term_lost.binds (ps := ps_Term_lost) fun _ _ _ _ _ _ us hl => match us, hl with | [_], _ => rfl
  have F_Term_is_ground := fun_mk (st := s_Term_is_ground) l_Term_is_ground c_Term_is_ground k_Term_is_ground
  have b_Term_is_ground := F_Term_is_ground.binds (ps := ps_Term_is_ground) fun _ _ _ _ _ _ us hl => match us, hl with | [_], _ => rfl
  have F_Term_depth := fun_mk (st := s_Term_depth) l_Term_depth c_Term_depth k_Term_depth
  have b_Term_depth := F_Term_depth.binds (ps := ps_Term_depth) fun _ _ _ _ _ _ us hl => match us, hl with | [_], _ => rfl
  have m_C := PySem.W.mg_of X G a_C
  have m_CN := PySem.W.mg_of X G a_CN
  have g_LONGEST := PySem.W.mg_of X G i_LONGEST
  have g_MAX_LETTERS := PySem.W.mg_of X G i_MAX_LETTERS
  have g_MAX_ARITY := PySem.W.mg_of X G i_MAX_ARITY
  have g_MAX_NODES := PySem.W.mg_of X G i_MAX_NODES
  have g_ANY := PySem.W.mg_of X G i_ANY
  have g_LOST := PySem.W.mg_of X G i_LOST
  have g_LETTERS := PySem.W.mg_of X G i_LETTERS
  refine ⟨PySem.W.fnOf "law" "law" (defArgs s_law) (defBody s_law) (defScope s_law) .none kV_law dc_law pm_law an_law cd_law ct_law, fun s v => .of_eq rfl, fun base _ _ => ?_⟩
  have cl_C : Cls K C := ⟨pg_C, hd_C, po_C, sa_C⟩
  have no_C : ∀ n ∈ asked, PySem.W.kitOne K (.ref C) (.type n) = some false := fun n h => by
    simp only [asked, List.mem_cons, List.not_mem_nil, or_false] at h
    rcases h with rfl | rfl | rfl | rfl | rfl | rfl
    · exact no_C_int
    · exact no_C_bool
    · exact no_C_str
    · exact no_C_list
    · exact no_C_tuple
    · exact no_C_dict
  have nt_C : ∀ n ∈ ["NoneType", "bool", "int", "str", "list", "tuple", "dict"], PySem.W.kitOne K (.type n) (.ref C) = some false := fun n h => by
    simp only [List.mem_cons, List.not_mem_nil, or_false] at h
    rcases h with rfl | rfl | rfl | rfl | rfl | rfl | rfl
    · exact nt_C_NoneType
    · exact nt_C_bool
    · exact nt_C_int
    · exact nt_C_str
    · exact nt_C_list
    · exact nt_C_tuple
    · exact nt_C_dict
  have ow_C : Own K C := ⟨cl_C, ha_C, hn_C, ht_C, hm_C, no_C⟩
  have cl_CN : Cls K CN := ⟨pg_CN, hd_CN, po_CN, sa_CN⟩
  have no_CN : ∀ n ∈ asked, PySem.W.kitOne K (.ref CN) (.type n) = some false := fun n h => by
    simp only [asked, List.mem_cons, List.not_mem_nil, or_false] at h
    rcases h with rfl | rfl | rfl | rfl | rfl | rfl
    · exact no_CN_int
    · exact no_CN_bool
    · exact no_CN_str
    · exact no_CN_list
    · exact no_CN_tuple
    · exact no_CN_dict
  have nt_CN : ∀ n ∈ ["NoneType", "bool", "int", "str", "list", "tuple", "dict"], PySem.W.kitOne K (.type n) (.ref CN) = some false := fun n h => by
    simp only [List.mem_cons, List.not_mem_nil, or_false] at h
    rcases h with rfl | rfl | rfl | rfl | rfl | rfl | rfl
    · exact nt_CN_NoneType
    · exact nt_CN_bool
    · exact nt_CN_int
    · exact nt_CN_str
    · exact nt_CN_list
    · exact nt_CN_tuple
    · exact nt_CN_dict
  have ow_CN : Own K CN := ⟨cl_CN, ha_CN, hn_CN, ht_CN, hm_CN, no_CN⟩
  obtain ⟨A, eT, eN⟩ : ∃ A : Adr, A.cTerm = C ∧ A.cNodes = CN := ⟨⟨C, CN⟩, rfl, rfl⟩
  subst eT eN
  have TC : TK K A := ⟨cl_C, n1, n2, n3, n4, n5, n6, nt_CN, nt_C, is_C, ow_C, cl_CN, t1, is_CN, ow_CN⟩
  have C_roll0 : Cal l.prog w K mg base "_law_roll" 1 ps_roll spRoll := ⟨⟨_, _, ok_roll F_roll T, m_roll, k_roll, b_roll⟩⟩
  have C_roll : CalF l.prog w K mg base "_law_roll" 1 2 (G_roll K A) := ⟨⟨_, _, _, fn_roll (ok_roll F_roll T), m_roll, k_roll, b_roll⟩⟩
  have C_pick : CalF l.prog w K mg base "_law_pick" 2 2 (G_pick K A) := ⟨⟨_, _, _, fn_pick (ok_pick F_pick T C_roll0), m_pick, k_pick, b_pick⟩⟩
  have C_dice : CalF l.prog w K mg base "_law_dice" 1 2 (G_dice K A) := ⟨⟨_, _, _, fn_diceD (ok_dice F_dice T), m_dice, k_dice, b_dice⟩⟩
  have C_is_integer : CalF l.prog w K mg base "is_integer" 1 1 (G_is_integer K A) := ⟨⟨_, _, _, ok_is_integer F_is_integer T g_LONGEST, m_is_integer, k_is_integer, b_is_integer⟩⟩
  have C_is_within : CalF l.prog w K mg base "is_within" 2 3 (G_is_within K A) := ⟨⟨_, _, _, ok_is_within F_is_within T C_is_integer, m_is_within, k_is_within, b_is_within⟩⟩
  have C_is_word : CalF l.prog w K mg base "is_word" 1 1 (G_is_word K A) := ⟨⟨_, _, _, ok_is_word F_is_word T g_LETTERS g_MAX_LETTERS, m_is_word, k_is_word, b_is_word⟩⟩
  have C_is_node : CalF l.prog w K mg base "is_node" 3 1 (G_is_node K A) := ⟨⟨_, _, _, ok_is_node F_is_node T g_MAX_ARITY g_LOST g_ANY C_is_within C_is_word, m_is_node, k_is_node, b_is_node⟩⟩
  have C_ascending_rows : CalF l.prog w K mg base "ascending_rows" 1 1 (G_ascending_rows K A) := ⟨⟨_, _, _, ok_ascending_rows F_ascending_rows T , m_ascending_rows, k_ascending_rows, b_ascending_rows⟩⟩
  have C_children_of : CalF l.prog w K mg base "children_of" 1 1 (G_children_of K A) := ⟨⟨_, _, _, ok_children_of F_children_of T , m_children_of, k_children_of, b_children_of⟩⟩
  have C_ends_of : CalF l.prog w K mg base "ends_of" 1 1 (G_ends_of K A) := ⟨⟨_, _, _, ok_ends_of F_ends_of T , m_ends_of, k_ends_of, b_ends_of⟩⟩
  have C_arities_in : CalF l.prog w K mg base "arities_in" 2 1 (G_arities_in K A) := ⟨⟨_, _, _, ok_arities_in F_arities_in T g_LOST g_ANY C_ascending_rows, m_arities_in, k_arities_in, b_arities_in⟩⟩
  have C_is_term_row : CalF l.prog w K mg base "is_term_row" 4 1 (G_is_term_row K A) := ⟨⟨_, _, _, ok_is_term_row F_is_term_row T g_MAX_NODES C_is_node C_arities_in C_children_of, m_is_term_row, k_is_term_row, b_is_term_row⟩⟩
  have C_text_of : CalF l.prog w K mg base "text_of" 41 3 (G_text_of K A 41) := ⟨⟨_, _, _, ok_text_of F_text_of T  m_text_of k_text_of b_text_of 41, m_text_of, k_text_of, b_text_of⟩⟩
  have C_places_with : CalF l.prog w K mg base "places_with" 1 2 (G_places_with K A) := ⟨⟨_, _, _, ok_places_with F_places_with T , m_places_with, k_places_with, b_places_with⟩⟩
  have M_Nodes : CalI l.prog w K mg base "Nodes" A.cNodes 1 1 (G_Nodes_init K A) := ⟨⟨_, _, _, ⟨mk_CN, a_Nodes_init, i_Nodes_init, kc_CN⟩, ok_Nodes_init F_Nodes_init T , m_CN, b_Nodes_init⟩⟩
  have M_Term : CalI l.prog w K mg base "Term" A.cTerm 5 1 (G_Term_init K A) := ⟨⟨_, _, _, ⟨mk_C, a_Term_init, i_Term_init, kc_C⟩, ok_Term_init F_Term_init T g_ANY g_LOST C_is_term_row C_children_of C_ends_of C_arities_in C_places_with m_CN, m_C, b_Term_init⟩⟩
  have P_Term_text : CalP l.prog w K mg base A.cTerm "text" 42 (G_Term_text K A) := ⟨cl_C, ⟨p_Term_text, f_Term_text, _, _, ⟨a_Term_text, g_Term_text, tk_Term_text, ⟨_, r_Term_text⟩⟩, ok_Term_text F_Term_text T C_text_of, b_Term_text⟩⟩
  have Q_Term : CalE l.prog w K mg base A.cTerm 1 (G_Term_eq K A) := ⟨⟨_, ⟨⟨_, _, ⟨a_Term_eq, i_Term_eq, k_Term_eq⟩, x_Term_eq, ok_Term_eq F_Term_eq T m_C, b_Term_eq⟩⟩⟩, hm_C, ne_C⟩
  have C_nodes' : CalF l.prog w K mg base "_law_nodes" 8 1 (G_nodes' K A 8) := ⟨⟨_, _, _, ok_nodes' F_nodes' T  m_nodes' k_nodes' b_nodes' 8, m_nodes', k_nodes', b_nodes'⟩⟩
  have C_text : CalF l.prog w K mg base "_law_text" 8 1 (G_text K A 8) := ⟨⟨_, _, _, ok_text F_text T  m_text k_text b_text 8, m_text, k_text, b_text⟩⟩
  have C_made_term : CalF l.prog w K mg base "_law_made_term" 9 1 (G_made_term K A) := ⟨⟨_, _, _, ok_made_term F_made_term T C_nodes' M_Term, m_made_term, k_made_term, b_made_term⟩⟩
  have C_term' : CalF l.prog w K mg base "_law_term" 8 4 (G_term' K A 6) := ⟨⟨_, _, _, ok_term' F_term' T C_roll C_pick m_term' k_term' b_term' 6, m_term', k_term', b_term'⟩⟩
  have C_small_term : CalF l.prog w K mg base "_law_small_term" 9 5 (G_small_term K A) := ⟨⟨_, _, _, ok_small_term F_small_term T C_term' C_nodes' C_pick, m_small_term, k_small_term, b_small_term⟩⟩
  have C_drawn_term : CalF l.prog w K mg base "_law_drawn_term" 10 2 (G_drawn_term K A) := ⟨⟨_, _, _, ok_drawn_term F_drawn_term T C_small_term, m_drawn_term, k_drawn_term, b_drawn_term⟩⟩
  have C_term_in : CalF l.prog w K mg base "term_in" 7 1 (G_term_in K A) := ⟨⟨_, _, _, ok_term_in F_term_in T M_Nodes M_Term, m_term_in, k_term_in, b_term_in⟩⟩
  have C_part_in : CalF l.prog w K mg base "part_in" 8 2 (G_part_in K A) := ⟨⟨_, _, _, ok_part_in F_part_in T C_term_in, m_part_in, k_part_in, b_part_in⟩⟩
  have K_Term_build : CalCv l.prog w K mg base A.cTerm "build" 7 2 (G_Term_build K A) := ⟨⟨.type "type", p_Term_build, f_Term_build, ⟨rdC, gaC⟩, ⟨a_Term_build, ⟨_, r_Term_build⟩, x_Term_build⟩, ok_Term_build F_Term_build T C_is_node M_Term m_C⟩⟩
  have P_Term_nodes : CalP l.prog w K mg base A.cTerm "nodes" 1 (G_Term_nodes K A) := ⟨cl_C, ⟨p_Term_nodes, f_Term_nodes, _, _, ⟨a_Term_nodes, g_Term_nodes, tk_Term_nodes, ⟨_, r_Term_nodes⟩⟩, ok_Term_nodes F_Term_nodes T , b_Term_nodes⟩⟩
  have PD_Term_symbols : CalPD l.prog w K mg base A.cTerm "symbols" 1 (G_Term_symbols K A) := ⟨cl_C, ⟨p_Term_symbols, f_Term_symbols, _, _, ⟨a_Term_symbols, g_Term_symbols, tk_Term_symbols, ⟨_, r_Term_symbols⟩⟩, ok_Term_symbols F_Term_symbols T , b_Term_symbols⟩⟩
  have P_Term_unknown : CalP l.prog w K mg base A.cTerm "unknown" 1 (G_Term_unknown K A) := ⟨cl_C, ⟨p_Term_unknown, f_Term_unknown, _, _, ⟨a_Term_unknown, g_Term_unknown, tk_Term_unknown, ⟨_, r_Term_unknown⟩⟩, ok_Term_unknown F_Term_unknown T , b_Term_unknown⟩⟩
  have P_Term_lost : CalP l.prog w K mg base A.cTerm "lost" 1 (G_Term_lost K A) := ⟨cl_C, ⟨p_Term_lost, f_Term_lost, _, _, ⟨a_Term_lost, g_Term_lost, tk_Term_lost, ⟨_, r_Term_lost⟩⟩, ok_Term_lost F_Term_lost T , b_Term_lost⟩⟩
  have P_Term_is_ground : CalP l.prog w K mg base A.cTerm "is_ground" 1 (G_Term_is_ground K A) := ⟨cl_C, ⟨p_Term_is_ground, f_Term_is_ground, _, _, ⟨a_Term_is_ground, g_Term_is_ground, tk_Term_is_ground, ⟨_, r_Term_is_ground⟩⟩, ok_Term_is_ground F_Term_is_ground T , b_Term_is_ground⟩⟩
  have P_Term_depth : CalP l.prog w K mg base A.cTerm "depth" 1 (G_Term_depth K A) := ⟨cl_C, ⟨p_Term_depth, f_Term_depth, _, _, ⟨a_Term_depth, g_Term_depth, tk_Term_depth, ⟨_, r_Term_depth⟩⟩, ok_Term_depth F_Term_depth T , b_Term_depth⟩⟩
  have O_Term_require_place : CalO l.prog w K mg base A.cTerm "require_place" 3 2 (G_Term_require_place K A) := ⟨cl_C, ⟨_, _, _, ⟨a_Term_require_place, i_Term_require_place, k_Term_require_place⟩, ok_Term_require_place F_Term_require_place T C_is_within, b_Term_require_place⟩⟩
  have O_Term_children : CalO l.prog w K mg base A.cTerm "children" 4 2 (G_Term_children K A) := ⟨cl_C, ⟨_, _, _, ⟨a_Term_children, i_Term_children, k_Term_children⟩, ok_Term_children F_Term_children T O_Term_require_place, b_Term_children⟩⟩
  have O_Term_part : CalO l.prog w K mg base A.cTerm "part" 9 2 (G_Term_part K A) := ⟨cl_C, ⟨_, _, _, ⟨a_Term_part, i_Term_part, k_Term_part⟩, ok_Term_part F_Term_part T C_part_in O_Term_require_place, b_Term_part⟩⟩
  have O_Term_above : CalO l.prog w K mg base A.cTerm "above" 4 2 (G_Term_above K A) := ⟨cl_C, ⟨_, _, _, ⟨a_Term_above, i_Term_above, k_Term_above⟩, ok_Term_above F_Term_above T O_Term_require_place, b_Term_above⟩⟩
  have S_Term_getitem : CalS l.prog w K mg base A.cTerm "__getitem__" 4 2 (G_Term_getitem K A) := ⟨⟨_, ⟨⟨_, _, ⟨a_Term_getitem, i_Term_getitem, k_Term_getitem⟩, x_Term_getitem, ok_Term_getitem F_Term_getitem T O_Term_require_place, b_Term_getitem⟩⟩⟩⟩
  have S_Term_len : CalS l.prog w K mg base A.cTerm "__len__" 1 1 (G_Term_len K A) := ⟨⟨_, ⟨⟨_, _, ⟨a_Term_len, i_Term_len, k_Term_len⟩, x_Term_len, ok_Term_len F_Term_len T , b_Term_len⟩⟩⟩⟩
  have S_Term_contains : CalS l.prog w K mg base A.cTerm "__contains__" 4 2 (G_Term_contains K A) := ⟨⟨_, ⟨⟨_, _, ⟨a_Term_contains, i_Term_contains, k_Term_contains⟩, x_Term_contains, ok_Term_contains F_Term_contains T C_is_node, b_Term_contains⟩⟩⟩⟩
  have S_Term_str : CalS l.prog w K mg base A.cTerm "__str__" 42 1 (G_Term_str K A) := ⟨⟨_, ⟨⟨_, _, ⟨a_Term_str, i_Term_str, k_Term_str⟩, x_Term_str, ok_Term_str F_Term_str T C_text_of, b_Term_str⟩⟩⟩⟩
  have C_parts : CalF l.prog w K mg base "_law_parts" 8 1 (G_parts K A 8) := ⟨⟨_, _, _, ok_parts F_parts T  m_parts k_parts b_parts 8, m_parts, k_parts, b_parts⟩⟩
  have C_leaves : CalF l.prog w K mg base "_law_leaves" 9 2 (G_leaves K A) := ⟨⟨_, _, _, ok_leaves F_leaves T C_nodes', m_leaves, k_leaves, b_leaves⟩⟩
  have C_deep : CalF l.prog w K mg base "_law_deep" 8 1 (G_deep K A 8) := ⟨⟨_, _, _, ok_deep F_deep T  m_deep k_deep b_deep 8, m_deep, k_deep, b_deep⟩⟩
  have C_below : CalF l.prog w K mg base "_law_below" 9 2 (G_below K A) := ⟨⟨_, _, _, ok_below F_below T C_parts, m_below, k_below, b_below⟩⟩
  have C_told_right : CalG l.prog w K mg base "_law_told_right" 45 2 (G_told_right K A) := ⟨⟨_, _, _, ok_told_right F_told_right T C_nodes' C_parts C_deep C_text C_leaves C_below P_Term_depth P_Term_text P_Term_nodes P_Term_is_ground P_Term_lost P_Term_unknown O_Term_above O_Term_part O_Term_children PD_Term_symbols S_Term_len S_Term_str S_Term_getitem S_Term_contains, m_told_right, k_told_right, b_told_right⟩⟩
  have C_right : CalG l.prog w K mg base "_law_right" 46 1 (G_right K A) := ⟨⟨_, _, _, ok_right F_right T C_drawn_term C_made_term C_nodes' C_text M_Term P_Term_nodes Q_Term C_told_right PD_Term_symbols, m_right, k_right, b_right⟩⟩
  exact law_top TC (ok_law F_law T g_MAX_NODES C_dice P_Term_depth P_Term_text P_Term_unknown O_Term_above O_Term_part O_Term_children C_right K_Term_build m_C)
theorem walk {l : PySem.W.OpenLaw} {q : Program} {loose : List Str} {XP : (Str → Option Value) → Heap → Prop} {YP : World → Heap → Prop} {d : DefRec} {K : Params → PySem.W.Frag} (hn : l.most = some 63) (hdf : d.params.defaults = [])
    (hY : ∀ (w : World) (h : Heap), YP w h → (K w.params).In h)
    (F : ∀ (w : World) (mg : Str → Option Value) (fa : Addr) (h : Heap), (K w.params).In h → h.Ns mainGlobals mg → mg d.name = some (.ref fa) →
      ∃ fd : FuncData, (∀ (s : Shared) (u : Value), BindsTo s fd ⟨[u], []⟩ [("_law_script", u)]) ∧ ∀ base : Heap, (K w.params).In base → base.Ns mainGlobals mg → FnG l.prog w (K w.params) mg base (L2.CX l.prog w) 47 fa fd ["_law_script"] (spLaw (K w.params))) :
    PySem.W.WalkO q loose XP YP l.row.toRowW d [] (fun f vs => PySem.call f vs) :=
  walk_ofG (n := 63) (k := 47) (x := "_law_script") (sp := fun w => spLaw (K w.params)) hn (by decide) hdf ⟨rfl, by decide, by decide⟩ hY F (fun _ _ a ns hl _ hS => ⟨a, ns, rfl, hS, hl, fun _ => rfl⟩)
end K5
open PySem PySem.W PyProof.Rows
set_option maxRecDepth 100000 in
set_option maxHeartbeats 0 in
theorem PySem.Challenge.cw_firstneed_k05_terms_told_holds : PySem.Challenge.rw_firstneed_k05_terms_told.Holds := by
  w_on; o_law; k_head; (case hw => w_witness2)
  k_fill
  refine K5.walk (l := PySem.Challenge.rw_firstneed_k05_terms_told) rfl rfl (fun w h Y => PySem.W.kIn_of Y) ?F
  case F =>
    intro w mg fa h KX G hmg
    refine' K5.all_mk KX G hmg ?a_C ?a_CN ?a_Term_init ?i_Term_init ?l_Term_init ?c_Term_init ?k_Term_init ?x_Term_init ?a_Term_eq ?i_Term_eq ?l_Term_eq ?c_Term_eq ?k_Term_eq ?x_Term_eq ?a_Term_require_place ?i_Term_require_place ?l_Term_require_place ?c_Term_require_place ?k_Term_require_place ?x_Term_require_place ?a_Term_children ?i_Term_children ?l_Term_children ?c_Term_children ?k_Term_children ?x_Term_children ?a_Term_part ?i_Term_part ?l_Term_part ?c_Term_part ?k_Term_part ?x_Term_part ?a_Term_above ?i_Term_above ?l_Term_above ?c_Term_above ?k_Term_above ?x_Term_above ?a_Term_getitem ?i_Term_getitem ?l_Term_getitem ?c_Term_getitem ?k_Term_getitem ?x_Term_getitem ?a_Term_len ?i_Term_len ?l_Term_len ?c_Term_len ?k_Term_len ?x_Term_len ?a_Term_contains ?i_Term_contains ?l_Term_contains ?c_Term_contains ?k_Term_contains ?x_Term_contains ?a_Term_str ?i_Term_str ?l_Term_str ?c_Term_str ?k_Term_str ?x_Term_str ?a_Nodes_init ?i_Nodes_init ?l_Nodes_init ?c_Nodes_init ?k_Nodes_init ?x_Nodes_init ?a_Term_build ?r_Term_build ?l_Term_build ?c_Term_build ?k_Term_build ?x_Term_build ?a_Term_text ?t_Term_text ?g_Term_text ?tk_Term_text ?r_Term_text ?l_Term_text ?c_Term_text ?k_Term_text ?x_Term_text ?a_Term_nodes ?t_Term_nodes ?g_Term_nodes ?tk_Term_nodes ?r_Term_nodes ?l_Term_nodes ?c_Term_nodes ?k_Term_nodes ?x_Term_nodes ?a_Term_symbols ?t_Term_symbols ?g_Term_symbols ?tk_Term_symbols ?r_Term_symbols ?l_Term_symbols ?c_Term_symbols ?k_Term_symbols ?x_Term_symbols ?a_Term_unknown ?t_Term_unknown ?g_Term_unknown ?tk_Term_unknown ?r_Term_unknown ?l_Term_unknown ?c_Term_unknown ?k_Term_unknown ?x_Term_unknown ?a_Term_lost ?t_Term_lost ?g_Term_lost ?tk_Term_lost ?r_Term_lost ?l_Term_lost ?c_Term_lost ?k_Term_lost ?x_Term_lost ?a_Term_is_ground ?t_Term_is_ground ?g_Term_is_ground ?tk_Term_is_ground ?r_Term_is_ground ?l_Term_is_ground ?c_Term_is_ground ?k_Term_is_ground ?x_Term_is_ground ?a_Term_depth ?t_Term_depth ?g_Term_depth ?tk_Term_depth ?r_Term_depth ?l_Term_depth ?c_Term_depth ?k_Term_depth ?x_Term_depth ?pg_C ?hd_C ?po_C ?sa_C ?ha_C ?hn_C ?ht_C ?hm_C ?mk_C ?kc_C ?is_C ?no_C_int ?no_C_bool ?no_C_str ?no_C_list ?no_C_tuple ?no_C_dict ?nt_C_NoneType ?nt_C_bool ?nt_C_int ?nt_C_str ?nt_C_list ?nt_C_tuple ?nt_C_dict ?pg_CN ?hd_CN ?po_CN ?sa_CN ?ha_CN ?hn_CN ?ht_CN ?hm_CN ?mk_CN ?kc_CN ?is_CN ?no_CN_int ?no_CN_bool ?no_CN_str ?no_CN_list ?no_CN_tuple ?no_CN_dict ?nt_CN_NoneType ?nt_CN_bool ?nt_CN_int ?nt_CN_str ?nt_CN_list ?nt_CN_tuple ?nt_CN_dict ?n1 ?n2 ?n3 ?n4 ?n5 ?n6 ?t1 ?rdC ?gaC ?ne_C ?a_dice ?l_dice ?c_dice ?k_dice ?a_roll ?l_roll ?c_roll ?k_roll ?a_pick ?l_pick ?c_pick ?k_pick ?a_is_integer ?l_is_integer ?c_is_integer ?k_is_integer ?a_is_within ?l_is_within ?c_is_within ?k_is_within ?a_is_word ?l_is_word ?c_is_word ?k_is_word ?a_is_node ?l_is_node ?c_is_node ?k_is_node ?a_ascending_rows ?l_ascending_rows ?c_ascending_rows ?k_ascending_rows ?a_children_of ?l_children_of ?c_children_of ?k_children_of ?a_ends_of ?l_ends_of ?c_ends_of ?k_ends_of ?a_arities_in ?l_arities_in ?c_arities_in ?k_arities_in ?a_is_term_row ?l_is_term_row ?c_is_term_row ?k_is_term_row ?a_text_of ?l_text_of ?c_text_of ?k_text_of ?a_places_with ?l_places_with ?c_places_with ?k_places_with ?a_nodes' ?l_nodes' ?c_nodes' ?k_nodes' ?a_text ?l_text ?c_text ?k_text ?a_made_term ?l_made_term ?c_made_term ?k_made_term ?a_term' ?l_term' ?c_term' ?k_term' ?a_small_term ?l_small_term ?c_small_term ?k_small_term ?a_drawn_term ?l_drawn_term ?c_drawn_term ?k_drawn_term ?a_term_in ?l_term_in ?c_term_in ?k_term_in ?a_part_in ?l_part_in ?c_part_in ?k_part_in ?a_parts ?l_parts ?c_parts ?k_parts ?a_leaves ?l_leaves ?c_leaves ?k_leaves ?a_deep ?l_deep ?c_deep ?k_deep ?a_below ?l_below ?c_below ?k_below ?a_told_right ?l_told_right ?c_told_right ?k_told_right ?a_right ?l_right ?c_right ?k_right ?a_law ?l_law ?c_law ?k_law ?z_len ?z_int ?z_bool ?z_str ?z_list ?z_tuple ?z_dict ?z_abs ?z_max ?z_min ?z_range ?z_repr ?z_isinstance ?z_all ?z_any ?z_sorted ?z_enumerate ?z_iter ?z_zip ?i_LONGEST ?i_MAX_LETTERS ?i_MAX_ARITY ?i_MAX_NODES ?i_ANY ?i_LOST ?i_LETTERS
    (case a_C => k_is)
    (case a_CN => k_is)
    (case a_Term_init => k_is)
    (case i_Term_init => k_is)
    (case l_Term_init => k_is)
    (case c_Term_init => k_is)
    (case k_Term_init => k_is)
    (case x_Term_init => k_is)
    (case a_Term_eq => k_is)
    (case i_Term_eq => k_is)
    (case l_Term_eq => k_is)
    (case c_Term_eq => k_is)
    (case k_Term_eq => k_is)
    (case x_Term_eq => k_is)
    (case a_Term_require_place => k_is)
    (case i_Term_require_place => k_is)
    (case l_Term_require_place => k_is)
    (case c_Term_require_place => k_is)
    (case k_Term_require_place => k_is)
    (case x_Term_require_place => k_is)
    (case a_Term_children => k_is)
    (case i_Term_children => k_is)
    (case l_Term_children => k_is)
    (case c_Term_children => k_is)
    (case k_Term_children => k_is)
    (case x_Term_children => k_is)
    (case a_Term_part => k_is)
    (case i_Term_part => k_is)
    (case l_Term_part => k_is)
    (case c_Term_part => k_is)
    (case k_Term_part => k_is)
    (case x_Term_part => k_is)
    (case a_Term_above => k_is)
    (case i_Term_above => k_is)
    (case l_Term_above => k_is)
    (case c_Term_above => k_is)
    (case k_Term_above => k_is)
    (case x_Term_above => k_is)
    (case a_Term_getitem => k_is)
    (case i_Term_getitem => k_is)
    (case l_Term_getitem => k_is)
    (case c_Term_getitem => k_is)
    (case k_Term_getitem => k_is)
    (case x_Term_getitem => k_is)
    (case a_Term_len => k_is)
    (case i_Term_len => k_is)
    (case l_Term_len => k_is)
    (case c_Term_len => k_is)
    (case k_Term_len => k_is)
    (case x_Term_len => k_is)
    (case a_Term_contains => k_is)
    (case i_Term_contains => k_is)
    (case l_Term_contains => k_is)
    (case c_Term_contains => k_is)
    (case k_Term_contains => k_is)
    (case x_Term_contains => k_is)
    (case a_Term_str => k_is)
    (case i_Term_str => k_is)
    (case l_Term_str => k_is)
    (case c_Term_str => k_is)
    (case k_Term_str => k_is)
    (case x_Term_str => k_is)
    (case a_Nodes_init => k_is)
    (case i_Nodes_init => k_is)
    (case l_Nodes_init => k_is)
    (case c_Nodes_init => k_is)
    (case k_Nodes_init => k_is)
    (case x_Nodes_init => k_is)
    (case a_Term_build => k_is)
    (case r_Term_build => k_is)
    (case l_Term_build => k_is)
    (case c_Term_build => k_is)
    (case k_Term_build => k_is)
    (case x_Term_build => k_is)
    (case a_Term_text => k_is)
    (case t_Term_text => k_is)
    (case g_Term_text => k_is)
    (case tk_Term_text => k_is)
    (case r_Term_text => k_is)
    (case l_Term_text => k_is)
    (case c_Term_text => k_is)
    (case k_Term_text => k_is)
    (case x_Term_text => k_is)
    (case a_Term_nodes => k_is)
    (case t_Term_nodes => k_is)
    (case g_Term_nodes => k_is)
    (case tk_Term_nodes => k_is)
    (case r_Term_nodes => k_is)
    (case l_Term_nodes => k_is)
    (case c_Term_nodes => k_is)
    (case k_Term_nodes => k_is)
    (case x_Term_nodes => k_is)
    (case a_Term_symbols => k_is)
    (case t_Term_symbols => k_is)
    (case g_Term_symbols => k_is)
    (case tk_Term_symbols => k_is)
    (case r_Term_symbols => k_is)
    (case l_Term_symbols => k_is)
    (case c_Term_symbols => k_is)
    (case k_Term_symbols => k_is)
    (case x_Term_symbols => k_is)
    (case a_Term_unknown => k_is)
    (case t_Term_unknown => k_is)
    (case g_Term_unknown => k_is)
    (case tk_Term_unknown => k_is)
    (case r_Term_unknown => k_is)
    (case l_Term_unknown => k_is)
    (case c_Term_unknown => k_is)
    (case k_Term_unknown => k_is)
    (case x_Term_unknown => k_is)
    (case a_Term_lost => k_is)
    (case t_Term_lost => k_is)
    (case g_Term_lost => k_is)
    (case tk_Term_lost => k_is)
    (case r_Term_lost => k_is)
    (case l_Term_lost => k_is)
    (case c_Term_lost => k_is)
    (case k_Term_lost => k_is)
    (case x_Term_lost => k_is)
    (case a_Term_is_ground => k_is)
    (case t_Term_is_ground => k_is)
    (case g_Term_is_ground => k_is)
    (case tk_Term_is_ground => k_is)
    (case r_Term_is_ground => k_is)
    (case l_Term_is_ground => k_is)
    (case c_Term_is_ground => k_is)
    (case k_Term_is_ground => k_is)
    (case x_Term_is_ground => k_is)
    (case a_Term_depth => k_is)
    (case t_Term_depth => k_is)
    (case g_Term_depth => k_is)
    (case tk_Term_depth => k_is)
    (case r_Term_depth => k_is)
    (case l_Term_depth => k_is)
    (case c_Term_depth => k_is)
    (case k_Term_depth => k_is)
    (case x_Term_depth => k_is)
    (case pg_C => k_is)
    (case hd_C => k_is)
    (case po_C => k_is)
    (case sa_C => k_is)
    (case ha_C => k_is)
    (case hn_C => k_is)
    (case ht_C => k_is)
    (case hm_C => k_is)
    (case mk_C => k_is)
    (case kc_C => k_is)
    (case is_C => kit_is)
    (case no_C_int => kit_is)
    (case no_C_bool => kit_is)
    (case no_C_str => kit_is)
    (case no_C_list => kit_is)
    (case no_C_tuple => kit_is)
    (case no_C_dict => kit_is)
    (case nt_C_NoneType => kit_is)
    (case nt_C_bool => kit_is)
    (case nt_C_int => kit_is)
    (case nt_C_str => kit_is)
    (case nt_C_list => kit_is)
    (case nt_C_tuple => kit_is)
    (case nt_C_dict => kit_is)
    (case pg_CN => k_is)
    (case hd_CN => k_is)
    (case po_CN => k_is)
    (case sa_CN => k_is)
    (case ha_CN => k_is)
    (case hn_CN => k_is)
    (case ht_CN => k_is)
    (case hm_CN => k_is)
    (case mk_CN => k_is)
    (case kc_CN => k_is)
    (case is_CN => kit_is)
    (case no_CN_int => kit_is)
    (case no_CN_bool => kit_is)
    (case no_CN_str => kit_is)
    (case no_CN_list => kit_is)
    (case no_CN_tuple => kit_is)
    (case no_CN_dict => kit_is)
    (case nt_CN_NoneType => kit_is)
    (case nt_CN_bool => kit_is)
    (case nt_CN_int => kit_is)
    (case nt_CN_str => kit_is)
    (case nt_CN_list => kit_is)
    (case nt_CN_tuple => kit_is)
    (case nt_CN_dict => kit_is)
    (case n1 => k_is)
    (case n2 => k_is)
    (case n3 => k_is)
    (case n4 => k_is)
    (case n5 => k_is)
    (case n6 => k_is)
    (case t1 => k_is)
    (case rdC => k_is)
    (case gaC => k_is)
    (case ne_C => k_is)
    (case a_dice => k_is)
    (case l_dice => k_is)
    (case c_dice => k_is)
    (case k_dice => k_is)
    (case a_roll => k_is)
    (case l_roll => k_is)
    (case c_roll => k_is)
    (case k_roll => k_is)
    (case a_pick => k_is)
    (case l_pick => k_is)
    (case c_pick => k_is)
    (case k_pick => k_is)
    (case a_is_integer => k_is)
    (case l_is_integer => k_is)
    (case c_is_integer => k_is)
    (case k_is_integer => k_is)
    (case a_is_within => k_is)
    (case l_is_within => k_is)
    (case c_is_within => k_is)
    (case k_is_within => k_is)
    (case a_is_word => k_is)
    (case l_is_word => k_is)
    (case c_is_word => k_is)
    (case k_is_word => k_is)
    (case a_is_node => k_is)
    (case l_is_node => k_is)
    (case c_is_node => k_is)
    (case k_is_node => k_is)
    (case a_ascending_rows => k_is)
    (case l_ascending_rows => k_is)
    (case c_ascending_rows => k_is)
    (case k_ascending_rows => k_is)
    (case a_children_of => k_is)
    (case l_children_of => k_is)
    (case c_children_of => k_is)
    (case k_children_of => k_is)
    (case a_ends_of => k_is)
    (case l_ends_of => k_is)
    (case c_ends_of => k_is)
    (case k_ends_of => k_is)
    (case a_arities_in => k_is)
    (case l_arities_in => k_is)
    (case c_arities_in => k_is)
    (case k_arities_in => k_is)
    (case a_is_term_row => k_is)
    (case l_is_term_row => k_is)
    (case c_is_term_row => k_is)
    (case k_is_term_row => k_is)
    (case a_text_of => k_is)
    (case l_text_of => k_is)
    (case c_text_of => k_is)
    (case k_text_of => k_is)
    (case a_places_with => k_is)
    (case l_places_with => k_is)
    (case c_places_with => k_is)
    (case k_places_with => k_is)
    (case a_nodes' => k_is)
    (case l_nodes' => k_is)
    (case c_nodes' => k_is)
    (case k_nodes' => k_is)
    (case a_text => k_is)
    (case l_text => k_is)
    (case c_text => k_is)
    (case k_text => k_is)
    (case a_made_term => k_is)
    (case l_made_term => k_is)
    (case c_made_term => k_is)
    (case k_made_term => k_is)
    (case a_term' => k_is)
    (case l_term' => k_is)
    (case c_term' => k_is)
    (case k_term' => k_is)
    (case a_small_term => k_is)
    (case l_small_term => k_is)
    (case c_small_term => k_is)
    (case k_small_term => k_is)
    (case a_drawn_term => k_is)
    (case l_drawn_term => k_is)
    (case c_drawn_term => k_is)
    (case k_drawn_term => k_is)
    (case a_term_in => k_is)
    (case l_term_in => k_is)
    (case c_term_in => k_is)
    (case k_term_in => k_is)
    (case a_part_in => k_is)
    (case l_part_in => k_is)
    (case c_part_in => k_is)
    (case k_part_in => k_is)
    (case a_parts => k_is)
    (case l_parts => k_is)
    (case c_parts => k_is)
    (case k_parts => k_is)
    (case a_leaves => k_is)
    (case l_leaves => k_is)
    (case c_leaves => k_is)
    (case k_leaves => k_is)
    (case a_deep => k_is)
    (case l_deep => k_is)
    (case c_deep => k_is)
    (case k_deep => k_is)
    (case a_below => k_is)
    (case l_below => k_is)
    (case c_below => k_is)
    (case k_below => k_is)
    (case a_told_right => k_is)
    (case l_told_right => k_is)
    (case c_told_right => k_is)
    (case k_told_right => k_is)
    (case a_right => k_is)
    (case l_right => k_is)
    (case c_right => k_is)
    (case k_right => k_is)
    (case a_law => k_is)
    (case l_law => k_is)
    (case c_law => k_is)
    (case k_law => k_is)
    (case z_len => k_is)
    (case z_int => k_is)
    (case z_bool => k_is)
    (case z_str => k_is)
    (case z_list => k_is)
    (case z_tuple => k_is)
    (case z_dict => k_is)
    (case z_abs => k_is)
    (case z_max => k_is)
    (case z_min => k_is)
    (case z_range => k_is)
    (case z_repr => k_is)
    (case z_isinstance => k_is)
    (case z_all => k_is)
    (case z_any => k_is)
    (case z_sorted => k_is)
    (case z_enumerate => k_is)
    (case z_iter => k_is)
    (case z_zip => k_is)
    (case i_LONGEST => k_is)
    (case i_MAX_LETTERS => k_is)
    (case i_MAX_ARITY => k_is)
    (case i_MAX_NODES => k_is)
    (case i_ANY => k_is)
    (case i_LOST => k_is)
    (case i_LETTERS => k_is)

