import PyProof.Rows.All
import Wide.All
import OpenK.AllK
import Wide.FinOn
import HandS.ForMost
import HandS.IsInst
import HandS.Evl
import HandS.Walk
import HandS.Star
import HandS.Style
import HandS.TupAny
import HandS.DictComp
import KE.GoesMore
import KE.GoesEnum
import HandS.ForExc
import HandS.OwnEq
import HandS.ClsMeth
import HandS.Property
import OpenK.KOps
import OpenK.KMeth
import HandS.More
import HandS.Deep
import HandS.Conv
import HandS.TryOnly
import HandS.TupMul
import KE.RegKIsAll
import PySem.Challenge.RW_firstneed_k07_tuples_of_nodes_judged
set_option Elab.async false
set_option maxRecDepth 100000
/-! Own layer: dice that hide their numbers, heaps that only grow, repr of plain values. -/
namespace Ly
open PySem PySem.Spec PyProof.Rows L2

/-! ### heaps that only grow -/
def Gx (H H' : Hp) : Prop := ∀ a o, H a = some o → H' a = some o
theorem Gx.refl (H : Hp) : Gx H H := fun _ _ h => h
theorem Gx.trans {H H1 H2 : Hp} (a : Gx H H1) (b : Gx H1 H2) : Gx H H2 := fun x o h => b x o (a x o h)
theorem Gx.new {H : Hp} {p : Addr} {o : HO} (h : H p = none) : Gx H (upd H p o) := fun a u e => by
  rw [upd_ne (ne_of_none e h)]
  exact e
theorem Gx.mut {H H' : Hp} {p : Addr} {o : HO} (e : Gx H H') (h : H p = none) : Gx H (upd H' p o) := fun a u ha => by
  rw [upd_ne (ne_of_none ha h)]
  exact e a u ha
theorem Gx.free {H H' : Hp} {p : Addr} (e : Gx H H') (h : H' p = none) : H p = none := by
  cases q : H p with
  | none => rfl
  | some o =>
    rw [e p o q] at h
    cases h
theorem Gx.rd {H H' : Hp} {a : Addr} {u : HO} (e : Gx H H') (h : Rd H a u) : Rd H' a u := by
  rcases h with h | ⟨o, h⟩
  · exact Or.inl (e a _ h)
  · exact Or.inr ⟨o, e a _ h⟩
theorem Gx.l {K : PySem.W.Frag} {H H' : Hp} {a : Addr} {xs : List V} (e : Gx H H') (h : SqL K H a xs) : SqL K H' a xs := by
  rcases h with h | h
  · exact Or.inl (e.rd h)
  · exact Or.inr h
theorem Gx.t {K : PySem.W.Frag} {H H' : Hp} {a : Addr} {xs : List V} (e : Gx H H') (h : SqT K H a xs) : SqT K H' a xs := by
  rcases h with h | h
  · exact Or.inl (e.rd h)
  · exact Or.inr h

/-! ### dice: a list of three ints whose numbers nobody asks for -/
def diceP (p : Addr) : Heap → Prop := fun h => ∃ (a b c : Int) (t u v : Tok) (n : Nat), h.get? p = some { cls := .type "list", data := .seq #[.int a t, .int b u, .int c v] n }
def diceO (p : Addr) : HO := .ext (diceP p)
abbrev three (a b c : Int) : HO := .lst [.int a, .int b, .int c]
section
variable {P : Program} {w : World} {H H1 : Hp} {h h1 : Heap} {p : Addr} {fs ex : List Addr}
theorem hok_hide {a b c : Int} (x : HOk P w H h) (e : H p = some (three a b c)) : HOk P w (upd H p (diceO p)) h := by
  intro q o eq
  by_cases hq : q = p
  · subst hq
    rw [upd_same] at eq
    cases eq
    obtain ⟨_, its, n, r, g⟩ := x q _ e
    cases r with
    | cons ra r =>
      cases r with
      | cons rb r =>
        cases r with
        | cons rc r =>
          cases r
          obtain ⟨t, rfl⟩ := ra
          obtain ⟨u, rfl⟩ := rb
          obtain ⟨v, rfl⟩ := rc
          refine ⟨⟨a, b, c, t, u, v, n, g⟩, ⟨_, g⟩, ?_⟩
          rintro h1 h2 ⟨a, b, c, t, u, v, n, g⟩ k
          exact ⟨a, b, c, t, u, v, n, k _ g⟩
  · rw [upd_ne hq] at eq
    refine (x q o eq).stay (fun _ _ _ z => z) (fun b z => ?_) fun b xs z => ?_
    · rw [upd_ne]
      · exact z
      · intro z2
        subst z2
        rw [e] at z
        cases z
    · rw [upd_ne]
      · exact z
      · intro z2
        subst z2
        rw [e] at z
        cases z
theorem hok_show (x : HOk P w H h) (e : H p = some (diceO p)) : ∃ a b c, HOk P w (upd H p (three a b c)) h := by
  obtain ⟨⟨a, b, c, t, u, v, n, g⟩, _, _⟩ := x p _ e
  refine ⟨a, b, c, fun q o eq => ?_⟩
  by_cases hq : q = p
  · subst hq
    rw [upd_same] at eq
    cases eq
    refine ⟨by show 3 ≤ sizeLine; decide, [.int a t, .int b u, .int c v], n, .cons ⟨t, rfl⟩ (.cons ⟨u, rfl⟩ (.cons ⟨v, rfl⟩ .nil)), g⟩
  · rw [upd_ne hq] at eq
    refine (x q o eq).stay (fun _ _ _ z => z) (fun b z => ?_) fun b xs z => ?_
    · rw [upd_ne]
      · exact z
      · intro z2
        subst z2
        rw [e] at z
        cases z
    · rw [upd_ne]
      · exact z
      · intro z2
        subst z2
        rw [e] at z
        cases z
theorem un_hide {xs : List V} (u : Un fs ex H H1 h h1) (e : H1 p = some (.lst xs)) : Un fs ex H (upd H1 p (diceO p)) h h1 where
  keep := u.keep
  slot := u.slot
  free := fun b o g n hx => by
    have z := u.free b o g n hx
    rw [upd_ne (fun q => by subst q; rw [e] at z; cases z)]
    exact z
  there := u.there
  tups := fun b ys g => by
    have z := u.tups b ys g
    rw [upd_ne (fun q => by subst q; rw [e] at z; cases z)]
    exact z
  frzs := fun b o v g => by
    have z := u.frzs b o v g
    rw [upd_ne (fun q => by subst q; rw [e] at z; cases z)]
    exact z
  tbls := fun b ps g => by
    obtain ⟨m, z⟩ := u.tbls b ps g
    refine ⟨m, ?_⟩
    rw [upd_ne (fun q => by subst q; rw [e] at z; cases z)]
    exact z
theorem un_show {o : HO} (u : Un fs ex (upd H p o) H1 h h1) (e : H p = some (diceO p)) : Un fs ex H H1 h h1 where
  keep := fun b o g n => u.keep b o g (by rw [upd_ne (fun q => by subst q; rw [e] at n; cases n)]; exact n)
  slot := fun b o g n => u.slot b o g (by rw [upd_ne (fun q => by subst q; rw [e] at n; cases n)]; exact n)
  free := fun b o g n => u.free b o g (by rw [upd_ne (fun q => by subst q; rw [e] at n; cases n)]; exact n)
  there := u.there
  tups := fun b ys g => u.tups b ys (by rw [upd_ne (fun q => by subst q; rw [e] at g; cases g)]; exact g)
  frzs := fun b o v g => u.frzs b o v (by rw [upd_ne (fun q => by subst q; rw [e] at g; cases g)]; exact g)
  tbls := fun b ps g => u.tbls b ps (by rw [upd_ne (fun q => by subst q; rw [e] at g; cases g)]; exact g)
end
section
variable {P : Program} {w : World} {K : PySem.W.Frag} {mg : Str → Option Value} {base : Heap} {k : Nat} {f : Addr} {fd : FuncData} {ps : List Str} {sp : Sp} {CX : CXT}
/-- a def that reads and writes dice, seen from without -/
theorem fn_dice (F : FnOk P w K mg base CX0 k f fd ps sp) : FnOk P w K mg base CX0 k f fd ps (fun vs H Q E => vs.length = ps.length ∧ ∃ p, H p = some (diceO p) ∧
    ∀ a b c, sp vs (upd H p (three a b c)) (fun v H' => (∃ a' b' c', H' p = some (three a' b' c')) ∧ Q v (upd H' p (diceO p))) E) := by
  refine ⟨fun vs H Q E h => h.1, fun A outer s H args us vs Q E hr he hb hv hs => ?_⟩
  obtain ⟨_, p, hp, hs⟩ := hs
  obtain ⟨a, b, c, hok⟩ := hok_show he.hok hp
  have he' : Env0 P w K mg base A outer s (upd H p (three a b c)) := ⟨he.frames, he.mod, fun q o g => by
    obtain ⟨z1, z2⟩ := he.bs q o g
    refine ⟨z1, ?_⟩
    rw [upd_ne (fun y => by subst y; rw [hp] at z2; cases z2)]
    exact z2, he.bsz, he.funs, fun q g => by
    have z2 := he.frf q g
    rw [upd_ne (fun y => by subst y; rw [hp] at z2; cases z2)]
    exact z2, hok, he.bare⟩
  refine codeAny_mono (F.run A outer s _ args us vs _ E hr he' hb hv (hs a b c)) fun r s' h => ?_
  match r, h with
  | .ok (.ret u), h =>
    obtain ⟨v, H', os, bare, un, hok', rv, ⟨a', b', c', e'⟩, q⟩ := h
    exact ⟨v, upd H' p (diceO p), os, bare, un_hide (un_show un hp) e', hok_hide hok' e', rv, q⟩
/-- a def that makes dice -/
theorem fn_mkdice (F : FnOk P w K mg base CX0 k f fd ps sp) : FnOk P w K mg base CX0 k f fd ps (fun vs H Q E => sp vs H (fun v H' => ∃ p a b c, v = .ref p ∧ H' p = some (three a b c) ∧ Q (.ref p) (upd H' p (diceO p))) E) := by
  refine ⟨fun vs H Q E h => F.len _ _ _ _ h, fun A outer s H args us vs Q E hr he hb hv hs => ?_⟩
  refine codeAny_mono (F.run A outer s _ args us vs _ E hr he hb hv hs) fun r s' h => ?_
  match r, h with
  | .ok (.ret u), h =>
    obtain ⟨v, H', os, bare, un, hok', rv, p, a, b, c, rfl, e, q⟩ := h
    exact ⟨.ref p, upd H' p (diceO p), os, bare, un_hide un e, hok_hide hok' e, rv, q⟩
end
theorem upd_id {H : Hp} {p : Addr} {o : HO} (h : H p = some o) : upd H p o = H := by
  funext q
  by_cases e : q = p
  · subst e
    rw [upd_same, h]
  · rw [upd_ne e]

/-! ### a def of the text, for its callers -/
structure Cal (P : Program) (w : World) (K : PySem.W.Frag) (mg : Str → Option Value) (base : Heap) (x : Str) (k : Nat) (ps : List Str) (sp : Sp) : Prop where
  ex : ∃ (f : Addr) (fd : FuncData), FnOk P w K mg base CX0 k f fd ps sp ∧ mg x = some (.ref f) ∧ PySem.W.keepIn K (.ref f) = true ∧ Binds K fd ps []
section
variable {X : Cx} {k : Nat} {ps : List Str} {sp : Sp} {x : Str} {p pos : Pos} {e : Expr} {es : List Expr} {t : TA}
theorem pe_cal (C : Cal X.prog X.w X.K X.mg X.base x k ps sp) (hr : Room k X.A) (hg : Gl X x) (ha : PA X (e :: es) t) (hdb : (x == ("__debug__" : Str)) = false := by decide)
    (he : starEach (e :: es) X.env = (false, eval e X.env) :: starEach es X.env := by rfl) (hpl : (backTo pos (starEach es X.env)).any (·.1) = false := by rfl) :
    PE X (.Call (.Name x p) (e :: es) [] pos) (tCall sp [] E0 t) := by
  obtain ⟨f, fd, F, hm, hk, hb⟩ := C.ex
  exact pe_call F hr hg hm hk hb .nil pass0 ha hdb he hpl
theorem pe_cal0 (C : Cal X.prog X.w X.K X.mg X.base x k ps sp) (hr : Room k X.A) (hg : Gl X x) (hdb : (x == ("__debug__" : Str)) = false := by decide) :
    PE X (.Call (.Name x p) [] [] pos) (tCall sp [] E0 tNil) := by
  obtain ⟨f, fd, F, hm, hk, hb⟩ := C.ex
  exact pe_call0 F hr hg hm hk hb .nil pass0 hdb
end

/-! ### operators -/
section
variable {X : Cx}
def CPowW (i j : Int) : Prop := 0 ≤ j ∧ (Builtin.Int.intBits i : Int) * j ≤ 2 ^ 27
theorem op_powW : OpR X (binaryOp .Pow) (rI CPowW fun i j => .int (i ^ j.toNat)) := opI fun _ _ _ _ _ _ _ hc q => pow_int hc.1 hc.2 q
theorem call_reprB : CallR X (.builtin "repr") (fun xs H Q => ∃ b, xs = [.bl b] ∧ Q (.str (if b then "True" else "False")) H) := by
  intro pins s σ H xs us Q I r h
  obtain ⟨b, rfl, q⟩ := h
  obtain ⟨u, rfl, ru⟩ := vals1 r
  obtain rfl : u = Value.bool b := ru
  exact PySem.P.repr_of_bool ⟨.str _, H, I.tok _, ⟨_, rfl⟩, q⟩
end

/-! ### what is evaluated, by what is true of it, on heaps that grow -/
abbrev Ty := V → Hp → Prop
def Mono (Φ : Ty) : Prop := ∀ v H H', Gx H H' → Φ v H → Φ v H'
def EvG (te : TE) (σ : L2.St) (H : Hp) (Φ : Ty) : Prop := ∀ H1, Gx H H1 → ∀ Q : VK, (∀ v H2, Gx H1 H2 → Φ v H2 → Q v H2) → te σ H1 Q
def EvGs (ta : TA) (σ : L2.St) (H : Hp) (Ψ : List V → Hp → Prop) : Prop := ∀ H1, Gx H H1 → ∀ Q : List V → Hp → Prop, (∀ vs H2, Gx H1 H2 → Ψ vs H2 → Q vs H2) → ta σ H1 Q
section
variable {σ : L2.St} {H H' : Hp} {te ta tb : TE} {tr : TA} {Φ Φ' : Ty} {v : V} {Q : VK}
theorem EvG.use (h : EvG te σ H Φ) (k : ∀ v H2, Gx H H2 → Φ v H2 → Q v H2) : te σ H Q := h H (Gx.refl H) Q k
theorem EvGs.use {Ψ : List V → Hp → Prop} {Q : List V → Hp → Prop} (h : EvGs tr σ H Ψ) (k : ∀ vs H2, Gx H H2 → Ψ vs H2 → Q vs H2) : tr σ H Q := h H (Gx.refl H) Q k
theorem EvG.mono (e : Gx H H') (h : EvG te σ H Φ) : EvG te σ H' Φ := fun H1 a Q q => h H1 (e.trans a) Q q
theorem EvG.imp (h : EvG te σ H Φ) (i : ∀ v H2, Gx H H2 → Φ v H2 → Φ' v H2) : EvG te σ H Φ' := fun H1 a Q q => h H1 a Q fun v H2 e f => q v H2 e (i v H2 (a.trans e) f)
theorem evg_var {i : Nat} (h : σ[i]? = some (some v)) (m : ∀ H1, Gx H H1 → Φ v H1) : EvG (tVar i) σ H Φ := fun H1 e _ q => ⟨v, h, q v H1 (Gx.refl H1) (m H1 e)⟩
theorem evg_c (m : ∀ H1, Gx H H1 → Φ v H1) : EvG (tC v) σ H Φ := fun H1 e _ q => q v H1 (Gx.refl H1) (m H1 e)
theorem evgs_nil {Ψ : List V → Hp → Prop} (m : ∀ H1, Gx H H1 → Ψ [] H1) : EvGs tNil σ H Ψ := fun H1 e _ q => q [] H1 (Gx.refl H1) (m H1 e)
theorem evgs_cons {Ψ : List V → Hp → Prop} (h : EvG ta σ H Φ) (k : ∀ v H1, Gx H H1 → Φ v H1 → EvGs tr σ H1 (fun vs H2 => Ψ (v :: vs) H2)) : EvGs (tCons ta tr) σ H Ψ := fun H1 e _ q =>
  h H1 e _ fun v H2 e2 f => (k v H2 (e.trans e2) f) H2 (Gx.refl H2) _ fun vs H3 e3 g => q (v :: vs) H3 (e2.trans e3) g
/-- all of one kind -/
def AllT (Φ : Ty) (n : Nat) : List V → Hp → Prop := fun vs H => vs.length = n ∧ ∀ x ∈ vs, Φ x H
theorem AllT.mono {n : Nat} {vs : List V} (m : Mono Φ) (e : Gx H H') (h : AllT Φ n vs H) : AllT Φ n vs H' := ⟨h.1, fun x hx => m _ _ _ e (h.2 x hx)⟩
theorem evgs_none : EvGs tNil σ H (AllT Φ 0) := evgs_nil fun _ _ => ⟨rfl, fun x h => by cases h⟩
theorem evgs_more {n : Nat} (m : Mono Φ) (h : EvG ta σ H Φ) (k : ∀ H1, Gx H H1 → EvGs tr σ H1 (AllT Φ n)) : EvGs (tCons ta tr) σ H (AllT Φ (n + 1)) :=
  evgs_cons h fun v H1 e f => fun H2 e2 Q q => k H1 e H2 e2 Q fun vs H3 e3 g => q vs H3 e3 ⟨by rw [List.length_cons, g.1], fun x hx => by
    rcases List.mem_cons.mp hx with rfl | hx
    · exact m _ _ _ (e2.trans e3) f
    · exact g.2 x hx⟩
theorem evg_tup {Ψ : List V → Hp → Prop} (h : EvGs tr σ H Ψ) (hl : ∀ vs H1, Ψ vs H1 → vs.length ≤ 100000) (m : ∀ vs p H1 H2, Ψ vs H1 → Gx H1 H2 → H1 p = none → H2 p = some (.tup vs) → Φ (.ref p) H2) : EvG (tTup tr) σ H Φ := fun H1 e Q q =>
  h H1 e _ fun vs H2 e2 g => ⟨Evl.sz_of (hl vs H2 g), fun p hp => q _ _ (e2.trans (Gx.new hp)) (m vs p H2 _ g (Gx.new hp) hp upd_same)⟩
theorem evg_lst {Ψ : List V → Hp → Prop} (h : EvGs tr σ H Ψ) (hl : ∀ vs H1, Ψ vs H1 → vs.length ≤ 100000) (m : ∀ vs p H1 H2, Ψ vs H1 → Gx H1 H2 → H1 p = none → H2 p = some (.lst vs) → Φ (.ref p) H2) : EvG (tLst tr) σ H Φ := fun H1 e Q q =>
  h H1 e _ fun vs H2 e2 g => ⟨Evl.sz_of (hl vs H2 g), fun p hp => q _ _ (e2.trans (Gx.new hp)) (m vs p H2 _ g (Gx.new hp) hp upd_same)⟩
end
/-- heaps in which all stays but what lists hold -/
def Kx (H H' : Hp) : Prop := ∀ a o, H a = some o → H' a = some o ∨ ∃ xs ys, o = .lst xs ∧ H' a = some (.lst ys)
theorem Gx.k {H H' : Hp} (e : Gx H H') : Kx H H' := fun a o h => .inl (e a o h)
theorem Kx.refl (H : Hp) : Kx H H := fun _ _ h => .inl h
theorem Kx.trans {H H1 H2 : Hp} (a : Kx H H1) (b : Kx H1 H2) : Kx H H2 := fun x o h => by
  rcases a x o h with h1 | ⟨xs, ys, e, h1⟩
  · exact b x o h1
  · rcases b x _ h1 with h2 | ⟨xs2, ys2, _, h2⟩
    · exact .inr ⟨xs, ys, e, h2⟩
    · exact .inr ⟨xs, ys2, e, h2⟩
theorem Kx.put {H : Hp} {p : Addr} {xs ys : List V} (h : H p = some (.lst xs)) : Kx H (upd H p (.lst ys)) := fun a o e => by
  by_cases q : a = p
  · subst q
    rw [h] at e
    cases e
    exact .inr ⟨xs, ys, rfl, upd_same⟩
  · exact .inl (by rw [upd_ne q]; exact e)
theorem Kx.keep {H H' : Hp} (e : Kx H H') {a : Addr} {o : HO} (h : H a = some o) (n : ∀ xs, o ≠ .lst xs) : H' a = some o := by
  rcases e a o h with h1 | ⟨xs, _, z, _⟩
  · exact h1
  · exact absurd z (n xs)
theorem Kx.tup {H H' : Hp} (e : Kx H H') {a : Addr} {xs : List V} (h : H a = some (.tup xs)) : H' a = some (.tup xs) := e.keep h fun _ z => by cases z
theorem Kx.dice {H H' : Hp} (e : Kx H H') {a : Addr} (h : H a = some (diceO a)) : H' a = some (diceO a) := e.keep h fun _ z => by cases z
/-- true whatever lists hold -/
def Firm (Φ : Ty) : Prop := ∀ v H H', Kx H H' → Φ v H → Φ v H'
theorem Firm.mono {Φ : Ty} (h : Firm Φ) : Mono Φ := fun v H H' e f => h v H H' e.k f
inductive Kd | non | bl | int | str | lst | tup | dic | own
  deriving DecidableEq
/-- the answer of isinstance of such a value and a built-in type -/
def kdIs : Kd → String → Bool
  | .bl, n => n == "bool" || n == "int"
  | .int, n => n == "int"
  | .str, n => n == "str"
  | .lst, n => n == "list"
  | .tup, n => n == "tuple"
  | .dic, n => n == "dict"
  | _, _ => false
/-- the built-in types that are asked for -/
def asked : List String := ["int", "bool", "str", "list", "tuple", "dict"]
/-- a class of the text whose instances are none of these -/
structure Own (K : PySem.W.Frag) (C : Addr) : Prop where
  cl : Cls K C
  ha : PySem.W.findIn K (.ref C) "__class__" = some (some (.builtin "object.__class__"))
  hn : PySem.W.specialIn K (.builtin "object.__class__") "__get__" = some (some (.builtin "getset_descriptor.__get__"))
  htk : PySem.W.takesIn K (.builtin "object.__class__") = some true
  hm : PySem.W.mroIn K C (.type "object") = some true
  no : ∀ n ∈ asked, PySem.W.kitOne K (.ref C) (.type n) = some false
/-- a plain value of a built-in type, or an instance -/
inductive Pl (K : PySem.W.Frag) (H : Hp) : V → Kd → Prop
  | non : Pl K H .non .non
  | bl (b : Bool) : Pl K H (.bl b) .bl
  | int (i : Int) : Pl K H (.int i) .int
  | str (x : Str) : Pl K H (.str x) .str
  | lst {a : Addr} {xs : List V} (e : H a = some (.lst xs)) : Pl K H (.ref a) .lst
  | tup {a : Addr} {xs : List V} (e : H a = some (.tup xs)) : Pl K H (.ref a) .tup
  | dK {a : Addr} {kvs : List (Key × V)} (e : H a = some (.dK kvs)) : Pl K H (.ref a) .dic
  | own {a C dx : Addr} {fs : List (Str × V)} (e : H a = some (.ins C dx fs)) (o : Own K C) : Pl K H (.ref a) .own
theorem Pl.isi {K : PySem.W.Frag} {H : Hp} {v : V} {k : Kd} (h : Pl K H v k) {n : String} (hn : n ∈ asked) : ∃ t, TyX K H v t ∧ PySem.W.kitOne K t (.type n) = some (kdIs k n) := by
  have go : ∀ (t : String) (k : Kd), (∀ m ∈ asked, kitB t m = some (kdIs k m)) → PySem.W.kitOne K (.type t) (.type n) = some (kdIs k n) := fun t k q => kit_ty (q n hn)
  cases h with
  | non => exact ⟨_, .base .non, go _ _ (by decide +kernel)⟩
  | bl b => exact ⟨_, .base (.bl b), go _ _ (by decide +kernel)⟩
  | int i => exact ⟨_, .base (.int i), go _ _ (by decide +kernel)⟩
  | str x => exact ⟨_, .base (.str x), go _ _ (by decide +kernel)⟩
  | lst e => exact ⟨_, .base (.lst e), go _ _ (by decide +kernel)⟩
  | tup e => exact ⟨_, .base (.tup e), go _ _ (by decide +kernel)⟩
  | dK e => exact ⟨_, .base (.dK e), go _ _ (by decide +kernel)⟩
  | own e o => exact ⟨_, .base (.ins e o.cl o.ha o.hn o.htk o.hm), o.no n hn⟩
theorem Pl.firm {K : PySem.W.Frag} {k : Kd} : Firm (fun v H => Pl K H v k) := fun v H H' e h => by
  cases h with
  | non => exact .non
  | bl b => exact .bl b
  | int i => exact .int i
  | str x => exact .str x
  | lst h =>
    rcases e _ _ h with h1 | ⟨_, _, _, h1⟩
    · exact .lst h1
    · exact .lst h1
  | tup h => exact .tup (e.tup h)
  | dK h => exact .dK (e.keep h fun _ z => by cases z)
  | own h o => exact .own (e.keep h fun _ z => by cases z) o
theorem Pl.gx {K : PySem.W.Frag} {H H' : Hp} {v : V} {k : Kd} (e : Gx H H') (h : Pl K H v k) : Pl K H' v k := Pl.firm v H H' e.k h

section
variable {X : Cx} {x : Str} {pos : Pos}
theorem pe_ty (n : String) (hg : Gl X x) (hm : X.mg x = none) (hv : bootBuiltins x = some (.type n)) (hn : x ≠ "__name__" := by decide) (hd : (x == ("__debug__" : Str)) = false := by decide) : PE X (.Name x pos) (tC (.ty n)) := pe_bltn hg hm hv rfl hn hd
theorem pe_gint {i : Int} {t : Tok} (hg : Gl X x) (hm : X.mg x = some (.int i t)) (hd : (x == ("__debug__" : Str)) = false := by decide) : PE X (.Name x pos) (tC (.int i)) := pe_glob hg hm ⟨t, rfl⟩ hd
theorem pe_gstr {i : Str} {t : Tok} (hg : Gl X x) (hm : X.mg x = some (.str i t)) (hd : (x == ("__debug__" : Str)) = false := by decide) : PE X (.Name x pos) (tC (.str i)) := pe_glob hg hm ⟨t, rfl⟩ hd
theorem pe_gref {a : Addr} (hg : Gl X x) (hm : X.mg x = some (.ref a)) (hd : (x == ("__debug__" : Str)) = false := by decide) : PE X (.Name x pos) (tC (.ref a)) := pe_glob hg hm rfl hd
end

/-! ### ints, new lists, drawn items -/
def IntT (P : Int → Prop) : Ty := fun v _ => ∃ i, v = .int i ∧ P i
def BlT (P : Bool → Prop) : Ty := fun v _ => ∃ b, v = .bl b ∧ P b
def EvN (te : TE) (σ : L2.St) (H : Hp) (Φ : Addr → Hp → Prop) : Prop := ∀ H1, Gx H H1 → ∀ Q : VK, (∀ p H2, Gx H1 H2 → H1 p = none → Φ p H2 → Q (.ref p) H2) → te σ H1 Q
section
variable {K : PySem.W.Frag} {σ : L2.St} {H H' : Hp} {te ta tb : TE} {tr : TA} {Φ Φ' : Ty} {v : V} {Q : VK}
theorem EvN.use {Φ : Addr → Hp → Prop} (h : EvN te σ H Φ) (k : ∀ p H2, Gx H H2 → H p = none → Φ p H2 → Q (.ref p) H2) : te σ H Q := h H (Gx.refl H) Q k
theorem EvN.g {Φ : Addr → Hp → Prop} (h : EvN te σ H Φ) (k : ∀ p H1 H2, Gx H H1 → H1 p = none → Gx H1 H2 → Φ p H2 → Φ' (.ref p) H2) : EvG te σ H Φ' := fun H1 e Q q => h H1 e Q fun p H2 e2 n f => q _ H2 e2 (k p H1 H2 e n e2 f)
theorem evg_I {P R : Int → Prop} {C : Int → Int → Prop} {g : Int → Int → V} (ha : EvG ta σ H (IntT P)) (hb : EvG tb σ H (IntT R)) (hc : ∀ i j, P i → R j → C i j) (m : ∀ i j, P i → R j → ∀ H1, Gx H H1 → Φ (g i j) H1) : EvG (tOp (rI C g) ta tb) σ H Φ := fun H1 e Q q =>
  ha H1 e _ fun _ H2 e2 ⟨i, z, p⟩ => hb H2 (e.trans e2) _ fun _ H3 e3 ⟨j, z2, r⟩ => ⟨i, j, z, z2, hc i j p r, q _ H3 (e2.trans e3) (m i j p r H3 ((e.trans e2).trans e3))⟩
theorem evg_I0 {P R : Int → Prop} {g : Int → Int → V} (ha : EvG ta σ H (IntT P)) (hb : EvG tb σ H (IntT R)) (m : ∀ i j, P i → R j → ∀ H1, Gx H H1 → Φ (g i j) H1) : EvG (tOp (rI0 g) ta tb) σ H Φ := fun H1 e Q q =>
  ha H1 e _ fun _ H2 e2 ⟨i, z, p⟩ => hb H2 (e.trans e2) _ fun _ H3 e3 ⟨j, z2, r⟩ => ⟨i, j, z, z2, q _ H3 (e2.trans e3) (m i j p r H3 ((e.trans e2).trans e3))⟩
theorem evg_U {P : Int → Prop} {g : Int → V} (ha : EvG ta σ H (IntT P)) (m : ∀ i, P i → ∀ H1, Gx H H1 → Φ (g i) H1) : EvG (tUn (rU g) ta) σ H Φ := fun H1 e Q q =>
  ha H1 e _ fun _ H2 e2 ⟨i, z, p⟩ => ⟨i, z, q _ H2 e2 (m i p H2 (e.trans e2))⟩
theorem evg_i (i : Int) : EvG (tC (.int i)) σ H (IntT fun j => j = i) := evg_c fun _ _ => ⟨i, rfl, rfl⟩
theorem evg_vi {n : Nat} {i : Int} (h : σ[n]? = some (some (.int i))) : EvG (tVar n) σ H (IntT fun j => j = i) := evg_var h fun _ _ => ⟨i, rfl, rfl⟩
theorem evn_lst {Ψ : List V → Hp → Prop} {Φ : Addr → Hp → Prop} (h : EvGs tr σ H Ψ) (hl : ∀ vs H1, Ψ vs H1 → vs.length ≤ 100000) (m : ∀ vs p H1 H2, Gx H H1 → Ψ vs H1 → Gx H1 H2 → H1 p = none → H2 p = some (.lst vs) → Φ p H2) : EvN (tLst tr) σ H Φ := fun H1 e Q q =>
  h H1 e _ fun vs H2 e2 g => ⟨Evl.sz_of (hl vs H2 g), fun p hp => q _ _ (e2.trans (Gx.new hp)) (e2.free hp) (m vs p H2 _ (e.trans e2) g (Gx.new hp) hp upd_same)⟩
theorem evn_tup {Ψ : List V → Hp → Prop} {Φ : Addr → Hp → Prop} (h : EvGs tr σ H Ψ) (hl : ∀ vs H1, Ψ vs H1 → vs.length ≤ 100000) (m : ∀ vs p H1 H2, Gx H H1 → Ψ vs H1 → Gx H1 H2 → H1 p = none → H2 p = some (.tup vs) → Φ p H2) : EvN (tTup tr) σ H Φ := fun H1 e Q q =>
  h H1 e _ fun vs H2 e2 g => ⟨Evl.sz_of (hl vs H2 g), fun p hp => q _ _ (e2.trans (Gx.new hp)) (e2.free hp) (m vs p H2 _ (e.trans e2) g (Gx.new hp) hp upd_same)⟩
/-- a list of things of one kind, at a place -/
def Lof (Φ : Ty) (n : Nat) : Addr → Hp → Prop := fun p H => ∃ xs, H p = some (.lst xs) ∧ AllT Φ n xs H
def LofT (Φ : Ty) (n : Nat) : Ty := fun v H => ∃ p, v = .ref p ∧ Lof Φ n p H
theorem Lof.mono {n : Nat} {p : Addr} (m : Mono Φ) (e : Gx H H') (h : Lof Φ n p H) : Lof Φ n p H' := by
  obtain ⟨xs, h1, h2⟩ := h
  exact ⟨xs, e _ _ h1, h2.mono m e⟩
theorem LofT.mono {n : Nat} (m : Mono Φ) : Mono (LofT Φ n) := fun _ _ _ e ⟨p, h1, h2⟩ => ⟨p, h1, h2.mono m e⟩
theorem evn_all {n : Nat} (m : Mono Φ) (h : EvGs tr σ H (AllT Φ n)) (hn : n ≤ 100000) : EvN (tLst tr) σ H (Lof Φ n) :=
  evn_lst h (fun vs _ g => by rw [g.1]; exact hn) fun vs p _ _ _ g e2 _ hp => ⟨vs, hp, g.mono m e2⟩
theorem evg_all {n : Nat} (m : Mono Φ) (h : EvGs tr σ H (AllT Φ n)) (hn : n ≤ 100000) : EvG (tLst tr) σ H (LofT Φ n) := (evn_all m h hn).g fun p _ _ _ _ _ f => ⟨p, rfl, f⟩
theorem evn_cat {n k : Nat} (m : Mono Φ) (ha : EvG ta σ H (LofT Φ n)) (hb : EvG tb σ H (LofT Φ k)) (hn : n + k ≤ 100000) : EvN (tOp rCat ta tb) σ H (Lof Φ (n + k)) := fun H1 e Q q =>
  ha H1 e _ fun _ H2 e2 ⟨a, z, fa⟩ => hb H2 (e.trans e2) _ fun _ H3 e3 ⟨b, z2, ys, h1, h2⟩ => by
    obtain ⟨xs, h3, h4⟩ := fa.mono m e3
    refine ⟨a, b, xs, ys, z, z2, h3, h1, Evl.sz_of (by rw [h4.1, h2.1]; exact hn), fun p hp => q p _ ((e2.trans e3).trans (Gx.new hp)) ((e2.trans e3).free hp) ⟨_, upd_same, ?_⟩⟩
    refine ⟨by rw [List.length_append, h4.1, h2.1], fun x hx => m _ _ _ (Gx.new hp) ?_⟩
    rcases List.mem_append.mp hx with hx | hx
    · exact h4.2 x hx
    · exact h2.2 x hx
end

/-! ### the promises of the dice's defs -/
def spDice0 (K : PySem.W.Frag) : Sp := fun vs H Q _ => ∃ (a : Addr) (ns : List Int) (n : Nat), vs = [.ref a, .int n] ∧ SqL K H a (ns.map V.int) ∧
  ∀ p x y z, H p = none → Q (.ref p) (upd H p (three x y z))
def spDice (K : PySem.W.Frag) : Sp := fun vs H Q _ => ∃ (a : Addr) (ns : List Int) (n : Nat), vs = [.ref a, .int n] ∧ SqL K H a (ns.map V.int) ∧
  ∀ p, H p = none → Q (.ref p) (upd H p (diceO p))
def spRoll0 : Sp := fun vs H Q _ => ∃ (p : Addr) (t a b c : Int), vs = [.ref p, .int t] ∧ 0 < t ∧ t < 1073741824 ∧ H p = some (three a b c) ∧
  ∀ r a' b' c', 0 ≤ r → r < t → Q (.int r) (upd H p (three a' b' c'))
def spRoll : Sp := fun vs H Q _ => ∃ (p : Addr) (t : Int), vs = [.ref p, .int t] ∧ 0 < t ∧ t < 1073741824 ∧ H p = some (diceO p) ∧ ∀ r, 0 ≤ r → r < t → Q (.int r) H
def spPick (K : PySem.W.Frag) : Sp := fun vs H Q _ => ∃ (p l : Addr) (xs : List V), vs = [.ref p, .ref l] ∧ H p = some (diceO p) ∧ SqL K H l xs ∧ 0 < xs.length ∧ xs.length < 1073741824 ∧ ∀ (j : Nat) x, xs[j]? = some x → Q x H
section
variable {K : PySem.W.Frag} {σ : L2.St} {H H' : Hp} {td tl : TE} {Φ : Ty} {p : Addr}
def DiceT : Ty := fun v H => ∃ p, v = .ref p ∧ H p = some (diceO p)
theorem DiceT.mono : Mono DiceT := fun _ _ _ e ⟨p, h1, h2⟩ => ⟨p, h1, e _ _ h2⟩
theorem evg_dice {i : Nat} (h : σ[i]? = some (some (.ref p))) (hp : H p = some (diceO p)) : EvG (tVar i) σ H DiceT := evg_var h fun _ e => ⟨p, rfl, e _ _ hp⟩
theorem evg_pick {n : Nat} (hd : EvG td σ H DiceT) (hl : EvG tl σ H (LofT Φ n)) (hn : 0 < n ∧ n ≤ 100000) : EvG (tCall (spPick K) [] E0 (tCons td (tCons tl tNil))) σ H Φ := fun H1 e Q q =>
  hd H1 e _ fun _ H2 e2 ⟨p, z, hp⟩ => hl H2 (e.trans e2) _ fun _ H3 e3 ⟨l, z2, xs, h1, h2⟩ => by
    subst z
    subst z2
    exact ⟨p, l, xs, rfl, e3 _ _ hp, SqL.of h1, by rw [h2.1]; exact hn.1, by rw [h2.1]; omega, fun j x hx => q x H3 (e2.trans e3) (h2.2 x (List.mem_of_getElem? hx))⟩
theorem evg_roll {R : Int → Prop} {tt : TE} (hd : EvG td σ H DiceT) (ht : EvG tt σ H (IntT R)) (hR : ∀ i, R i → 0 < i ∧ i ≤ 100000) (m : ∀ r i, R i → 0 ≤ r → r < i → ∀ H1, Gx H H1 → Φ (.int r) H1) : EvG (tCall spRoll [] E0 (tCons td (tCons tt tNil))) σ H Φ := fun H1 e Q q =>
  hd H1 e _ fun _ H2 e2 ⟨p, z, hp⟩ => ht H2 (e.trans e2) _ fun _ H3 e3 ⟨i, z2, hi⟩ => by
    subst z
    subst z2
    have h := hR i hi
    exact ⟨p, i, rfl, h.1, by omega, e3 _ _ hp, fun r h1 h2 => q _ H3 (e2.trans e3) (m r i hi h1 h2 H3 ((e.trans e2).trans e3))⟩
end

/-! ### statements -/
section
variable {K : PySem.W.Frag} {σ : L2.St} {H : Hp} {te tl : TE} {ta : TA} {tz tu tw tb : TS} {tt : TT} {D : Ends} {Φ : Ty} {i j : Nat}
theorem g_asg (h : EvG te σ H Φ) (k : ∀ v H1, Gx H H1 → Φ v H1 → tz D (σ.set i (some v)) H1) : tSeq (tAsg te (gName i)) tz D σ H := h H (Gx.refl H) _ fun v H1 e f => k v H1 e f
theorem g_asgN {Φ : Addr → Hp → Prop} (h : EvN te σ H Φ) (k : ∀ p H1, Gx H H1 → H p = none → Φ p H1 → tz D (σ.set i (some (.ref p))) H1) : tSeq (tAsg te (gName i)) tz D σ H := h H (Gx.refl H) _ fun v H1 e n f => k v H1 e n f
theorem g_par {Ψ : List V → Hp → Prop} (h : EvGs ta σ H Ψ) (k : ∀ vs H1, Gx H H1 → Ψ vs H1 → ∃ v w, vs = [v, w] ∧ tz D ((σ.set i (some v)).set j (some w)) H1) : tSeq (tPar i j ta) tz D σ H := h H (Gx.refl H) _ fun vs H1 e f => k vs H1 e f
theorem g_ret (h : EvG te σ H Φ) (k : ∀ v H1, Gx H H1 → Φ v H1 → D.rt v H1) : tRet te D σ H := h H (Gx.refl H) _ fun v H1 e f => k v H1 e f
theorem g_drop (h : EvG te σ H Φ) (k : ∀ v H1, Gx H H1 → Φ v H1 → tz D σ H1) : tSeq (tDrop te) tz D σ H := h H (Gx.refl H) _ fun v H1 e f => k v H1 e f
/-- a test -/
def EvB (tt : TT) (σ : L2.St) (H : Hp) (R : Bool → Prop) : Prop := ∀ H1, Gx H H1 → ∀ Q : Bool → Hp → Prop, (∀ b H2, Gx H1 H2 → R b → Q b H2) → tt σ H1 Q
theorem g_if {R : Bool → Prop} (h : EvB tt σ H R) (k1 : R true → ∀ H1, Gx H H1 → tu { D with nx := tz D } σ H1) (k2 : R false → ∀ H1, Gx H H1 → tw { D with nx := tz D } σ H1) : tSeq (tIfS tt tu tw) tz D σ H := h H (Gx.refl H) _ fun b H1 e f => by
  cases b with
  | true => exact iteT (k1 f H1 e)
  | false => exact iteF (k2 f H1 e)
theorem g_when {R : Bool → Prop} (h : EvB tt σ H R) (k1 : R true → ∀ H1, Gx H H1 → tu { D with nx := tz D } σ H1) (k2 : R false → ∀ H1, Gx H H1 → tz D σ H1) : tSeq (tIfS tt tu tNext) tz D σ H := g_if h k1 k2
theorem g_when1 {R : Bool → Prop} (h : EvB tt σ H R) (k1 : R true → ∀ H1, Gx H H1 → tu D σ H1) (k2 : R false → ∀ H1, Gx H H1 → D.nx σ H1) : tIfS tt tu tNext D σ H := h H (Gx.refl H) _ fun b H1 e f => by
  cases b with
  | true => exact iteT (k1 f H1 e)
  | false => exact iteF (k2 f H1 e)
theorem evb_test {R : Bool → Prop} (h : EvG te σ H (BlT R)) : EvB (tTest te) σ H R := fun H1 e Q q => h H1 e _ fun v H2 e2 ⟨b, z, r⟩ => ⟨b, z, q b H2 e2 r⟩
theorem evb_B {R : Bool → Prop} (h : EvG te σ H (BlT R)) : EvB (tB te) σ H R := fun H1 e Q q => h H1 e _ fun v H2 e2 ⟨b, z, r⟩ => ⟨b, z, q b H2 e2 r⟩
/-- for x in a new list of things of one kind; Pv is kept from turn to turn -/
theorem g_forN {n : Nat} (h : EvN tl σ H (Lof Φ n)) (Pv : Addr → List V → Nat → L2.St → Hp → Prop)
    (h0 : ∀ p xs H1, Gx H H1 → H p = none → H1 p = some (.lst xs) → AllT Φ n xs H1 → Pv p xs 0 σ H1) (hl : ∀ p xs i σ' H', Pv p xs i σ' H' → SqL K H' p xs)
    (hs : ∀ p xs i x σ' H', xs[i]? = some x → Pv p xs i σ' H' → tb { D with nx := Pv p xs (i + 1), ct := Pv p xs (i + 1), bk := fun σ H => tz D σ H } (σ'.set j (some x)) H')
    (hd : ∀ p xs σ' H', Pv p xs n σ' H' → tz D σ' H') : tSeq (tFor (iList K tl) (gName j) tb) tz D σ H := h H (Gx.refl H) _ fun p H1 e nw ⟨xs, h1, h2⟩ => by
  refine ⟨p, rfl, ⟨xs, SqL.of h1⟩, for_list (K := K) (a := p) (xs := xs) (D := { D with nx := tz D }) (Pv p xs) (h0 p xs H1 e nw h1 h2) (fun i σ H _ q => hl p xs i σ H q) (fun i x σ' H' hx q => hs p xs i x σ' H' hx q) fun σ' H' q => hd p xs σ' H' ?_⟩
  rw [h2.1] at q
  exact q
theorem g_forL {n : Nat} (h : EvG tl σ H (LofT Φ n)) (Pv : Addr → List V → Nat → L2.St → Hp → Prop)
    (h0 : ∀ p xs H1, Gx H H1 → H1 p = some (.lst xs) → AllT Φ n xs H1 → Pv p xs 0 σ H1) (hl : ∀ p xs i σ' H', Pv p xs i σ' H' → SqL K H' p xs)
    (hs : ∀ p xs i x σ' H', xs[i]? = some x → Pv p xs i σ' H' → tb { D with nx := Pv p xs (i + 1), ct := Pv p xs (i + 1), bk := fun σ H => tz D σ H } (σ'.set j (some x)) H')
    (hd : ∀ p xs σ' H', Pv p xs n σ' H' → tz D σ' H') : tSeq (tFor (iList K tl) (gName j) tb) tz D σ H := h H (Gx.refl H) _ fun v H1 e ⟨p, z, xs, h1, h2⟩ => by
  refine ⟨p, z, ⟨xs, SqL.of h1⟩, for_list (K := K) (a := p) (xs := xs) (D := { D with nx := tz D }) (Pv p xs) (h0 p xs H1 e h1 h2) (fun i σ H _ q => hl p xs i σ H q) (fun i x σ' H' hx q => hs p xs i x σ' H' hx q) fun σ' H' q => hd p xs σ' H' ?_⟩
  rw [h2.1] at q
  exact q
/-- for x in range(..) -/
theorem g_forR {R : Int → Prop} (h : EvGs ta σ H (fun vs _ => ∃ k, vs = [.int k] ∧ R k)) (hR : ∀ k, R k → 0 ≤ k ∧ k ≤ 1000000) (Pv : Nat → L2.St → Hp → Prop)
    (h0 : ∀ H1, Gx H H1 → Pv 0 σ H1)
    (hs : ∀ (i : Nat) σ' H', (∃ k, R k ∧ (i : Int) < k) → Pv i σ' H' → tb { D with nx := Pv (i + 1), ct := Pv (i + 1), bk := fun σ H => tz D σ H } (σ'.set j (some (.int i))) H')
    (hd : ∀ (i : Nat) σ' H', R i → Pv i σ' H' → tz D σ' H') : tSeq (tFor (iRng1 ta) (gName j) tb) tz D σ H := h H (Gx.refl H) _ fun vs H1 e ⟨k, z, r⟩ => by
  have hk := hR k r
  refine ⟨k, z, by omega, by omega, for_range (D := { D with nx := tz D }) Pv (h0 H1 e) (fun i σ' H' hi q => ?_) fun σ' H' q => hd k.toNat σ' H' (by rw [show ((k.toNat : Nat) : Int) = k by omega]; exact r) q⟩
  have := hs i σ' H' ⟨k, r, by omega⟩ q
  rw [show (0 : Int) + (i : Int) = (i : Int) by omega]
  exact this
theorem g_forR1 {R : Int → Prop} (h : EvGs ta σ H (fun vs _ => ∃ k, vs = [.int k] ∧ R k)) (hR : ∀ k, R k → 0 ≤ k ∧ k ≤ 1000000) (Pv : Nat → L2.St → Hp → Prop)
    (h0 : ∀ H1, Gx H H1 → Pv 0 σ H1)
    (hs : ∀ (i : Nat) σ' H', (∃ k, R k ∧ (i : Int) < k) → Pv i σ' H' → tb { D with nx := Pv (i + 1), ct := Pv (i + 1), bk := D.nx } (σ'.set j (some (.int i))) H')
    (hd : ∀ (i : Nat) σ' H', R i → Pv i σ' H' → D.nx σ' H') : tFor (iRng1 ta) (gName j) tb D σ H := h H (Gx.refl H) _ fun vs H1 e ⟨k, z, r⟩ => by
  have hk := hR k r
  refine ⟨k, z, by omega, by omega, for_range (D := D) Pv (h0 H1 e) (fun i σ' H' hi q => ?_) fun σ' H' q => hd k.toNat σ' H' (by rw [show ((k.toNat : Nat) : Int) = k by omega]; exact r) q⟩
  have := hs i σ' H' ⟨k, r, by omega⟩ q
  rw [show (0 : Int) + (i : Int) = (i : Int) by omega]
  exact this
end
/-- isinstance(x, T) -/
theorem evg_isi {K : PySem.W.Frag} {σ : L2.St} {H : Hp} {te : TE} {n : String} {R : Bool → Prop} (h : EvG te σ H (fun v H => ∃ k, Pl K H v k ∧ R (kdIs k n))) (hn : n ∈ asked) : EvG (tCB (rIsi K) (tCons te (tCons (tC (.ty n)) tNil))) σ H (BlT R) := fun H1 e Q q =>
  h H1 e _ fun v H2 e2 ⟨k, p, r⟩ => by
    obtain ⟨t, ty, kt⟩ := p.isi hn
    exact ⟨v, .ty n, t, .type n, _, rfl, .ty n, ty, kt, q _ H2 e2 ⟨_, rfl, r⟩⟩

/-! ### what is walked, and comprehensions -/
/-- n turns; the item of turn i and the heap with it meet Y i -/
def EvW (wi : TI) (σ : L2.St) (H : Hp) (n : Nat) (Y : Nat → Ty) : Prop := ∀ H1, Gx H H1 → ∀ R : It → Hp → Prop, (∀ J H2 G Y', Gx H1 H2 → Walk J n G Y' → (∀ H3, Gx H2 H3 → G H3) →
  (∀ i H3 x H4, i < n → Gx H2 H3 → Y' i H3 x H4 → Gx H3 H4 ∧ Y i x H4) → R J H2) → wi σ H1 R
section
variable {K : PySem.W.Frag} {σ : L2.St} {H : Hp} {te tl : TE} {ta : TA} {Φ : Ty}
theorem evw_list {n : Nat} (m : Mono Φ) (h : EvG tl σ H (LofT Φ n)) : EvW (iList K tl) σ H n (fun _ => Φ) := fun H1 e R q =>
  h H1 e _ fun v H2 e2 ⟨p, z, xs, h1, h2⟩ => ⟨p, z, ⟨xs, SqL.of h1⟩, q (Itl K p) H2 (fun H => SqL K H p xs) (YAt xs) e2 (by rw [← h2.1]; exact walk_list (xs := xs)) (fun H3 e3 => SqL.of (e3 _ _ h1))
    (fun i H3 x H4 _ e3 ⟨z4, hx⟩ => by subst z4; exact ⟨Gx.refl _, m _ _ _ e3 (h2.2 x (List.mem_of_getElem? hx))⟩)⟩
/-- a known list, item by item -/
theorem evw_listAt {xs : List V} (h : EvG tl σ H (fun v H => ∃ p, v = .ref p ∧ SqL K H p xs)) : EvW (iList K tl) σ H xs.length (fun i x _ => xs[i]? = some x) := fun H1 e R q =>
  h H1 e _ fun v H2 e2 ⟨p, z, h1⟩ => ⟨p, z, ⟨xs, h1⟩, q _ H2 _ _ e2 (walk_list (xs := xs)) (fun H3 e3 => Gx.l e3 h1)
    (fun i H3 x H4 _ e3 ⟨z4, hx⟩ => by subst z4; exact ⟨Gx.refl _, hx⟩)⟩
theorem evw_tupAt {xs : List V} (h : EvG tl σ H (fun v H => ∃ p, v = .ref p ∧ SqT K H p xs)) : EvW (iTup K tl) σ H xs.length (fun i x _ => xs[i]? = some x) := fun H1 e R q =>
  h H1 e _ fun v H2 e2 ⟨p, z, h1⟩ => ⟨p, z, ⟨xs, h1⟩, q _ H2 _ _ e2 (walk_tup (xs := xs)) (fun H3 e3 => Gx.t e3 h1)
    (fun i H3 x H4 _ e3 ⟨z4, hx⟩ => by subst z4; exact ⟨Gx.refl _, hx⟩)⟩
theorem evw_str {z : Str} (h : EvG te σ H (fun v _ => v = .str z)) : EvW (iStr te) σ H z.cps.size (fun i x _ => ∃ c, z.cps[i]? = some c ∧ x = .str ⟨#[c]⟩) := fun H1 e R q =>
  h H1 e _ fun v H2 e2 hv => ⟨z, hv, q _ H2 _ _ e2 (walk_str (z := z)) (fun _ _ => trivial) (fun i H3 x H4 _ _ ⟨z4, c, h1, h2⟩ => by subst z4; exact ⟨Gx.refl _, c, h1, h2⟩)⟩
theorem evw_rng {k : Int} (h : EvGs ta σ H (fun vs _ => vs = [.int k])) (hk : k ≤ 100000 ∧ -100000 ≤ k) : EvW (iRng1 ta) σ H k.toNat (fun i x _ => x = .int i) := fun H1 e R q =>
  h H1 e _ fun vs H2 e2 hv => ⟨k, hv, by omega, by omega, q _ H2 _ _ e2 (walk_range (lo := 0) (n := k.toNat)) (fun _ _ => trivial) (fun i H3 x H4 _ _ ⟨z4, hx⟩ => by subst z4; exact ⟨Gx.refl _, hx.trans (by show V.int (0 + (i : Int)) = V.int i; rw [Int.zero_add])⟩)⟩
end
/-- what a comprehension gives: the items whose test holds, in order -/
inductive LcR (B : Nat → Bool → Prop) (R : Nat → Ty) (H : Hp) : Nat → List V → Prop
  | nil : LcR B R H 0 []
  | keep {n : Nat} {ys : List V} {y : V} : LcR B R H n ys → B n true → R n y H → LcR B R H (n + 1) (ys ++ [y])
  | skip {n : Nat} {ys : List V} : LcR B R H n ys → B n false → LcR B R H (n + 1) ys
theorem LcR.firm {B : Nat → Bool → Prop} {R : Nat → Ty} {H H' : Hp} (m : ∀ i, Firm (R i)) (e : Kx H H') {n : Nat} {ys : List V} (h : LcR B R H n ys) : LcR B R H' n ys := by
  induction h with
  | nil => exact .nil
  | keep _ b r ih => exact .keep ih b (m _ _ _ _ e r)
  | skip _ b ih => exact .skip ih b
theorem LcR.gx {B : Nat → Bool → Prop} {R : Nat → Ty} {H H' : Hp} (m : ∀ i, Mono (R i)) (e : Gx H H') {n : Nat} {ys : List V} (h : LcR B R H n ys) : LcR B R H' n ys := by
  induction h with
  | nil => exact .nil
  | keep _ b r ih => exact .keep ih b (m _ _ _ _ e r)
  | skip _ b ih => exact .skip ih b
theorem LcR.len {B : Nat → Bool → Prop} {R : Nat → Ty} {H : Hp} {n : Nat} {ys : List V} (h : LcR B R H n ys) : ys.length ≤ n := by
  induction h with
  | nil => exact Nat.le_refl 0
  | keep _ _ _ ih =>
    rw [List.length_append]
    show _ + 1 ≤ _
    omega
  | skip _ _ ih => omega
/-- without a test: item by item -/
theorem LcR.all {B : Nat → Bool → Prop} {R : Nat → Ty} {H : Hp} {n : Nat} {ys : List V} (h : LcR B R H n ys) (hB : ∀ i, ¬ B i false) : ys.length = n ∧ ∀ i y, ys[i]? = some y → R i y H := by
  induction h with
  | nil => exact ⟨rfl, fun i y e => by simp at e⟩
  | @keep n ys y _ _ r ih =>
    refine ⟨by rw [List.length_append, ih.1]; rfl, fun i z e => ?_⟩
    by_cases hi : i < ys.length
    · rw [List.getElem?_append_left hi] at e
      exact ih.2 i z e
    · rw [List.getElem?_append_right (by omega)] at e
      have h0 : i - ys.length = 0 := by
        cases q : i - ys.length with
        | zero => rfl
        | succ m => rw [q] at e; simp at e
      rw [h0] at e
      cases e
      have : i = n := by rw [← ih.1]; omega
      rw [this]
      exact r
  | skip _ b _ => exact absurd b (hB _)
section
variable {K : PySem.W.Frag} {σ : L2.St} {H : Hp} {te : TE} {wi : TI} {g : TG} {tt : TT} {vs : List Nat} {n : Nat}
theorem evn_lc {Y : Nat → Ty} {S : Nat → L2.St → Hp → Prop} {B : Nat → Bool → Prop} {R : Nat → Ty} (hw : EvW wi σ H n Y) (hn : n ≤ 100000)
    (hg : ∀ i x H1, i < n → Gx H H1 → Y i x H1 → ∀ Q : L2.St → Hp → Prop, (∀ σ2, wipe σ2 vs = wipe σ vs → S i σ2 H1 → Q σ2 H1) → g x (wipe σ vs) H1 Q)
    (ht : ∀ i σ2 H1, i < n → Gx H H1 → S i σ2 H1 → EvB tt σ2 H1 (B i)) (ms : ∀ i σ2 H1 H2, Gx H1 H2 → S i σ2 H1 → S i σ2 H2)
    (he : ∀ i σ2 H1, i < n → Gx H H1 → S i σ2 H1 → B i true → EvG te σ2 H1 (R i)) (m : ∀ i, Firm (R i)) :
    EvN (tLc wi g tt te vs) σ H (fun p H' => ∃ ys, H' p = some (.lst ys) ∧ LcR B R H' n ys) := by
  intro H1 e Q q
  refine hw H1 e _ fun J H2 G Y' e2 W hG hY => ?_
  intro D hD
  refine lc_it W (fun i H' => Gx H2 H' ∧ i ≤ n ∧ ∃ ys, H' D = some (.lst ys) ∧ LcR B R H' i ys) ⟨Gx.new hD, Nat.zero_le _, [], upd_same, .nil⟩ (fun i H' _ p => hG H' p.1) ?_ ?_
  · rintro i x H3 H4 hi ⟨e3, _, ys, hys, L⟩ y
    obtain ⟨e4, y⟩ := hY i H3 x H4 hi e3 y
    have e5 := ((e.trans e2).trans e3).trans e4
    refine hg i x H4 hi e5 y _ fun σ2 w s2 => ⟨w, ht i σ2 H4 hi e5 s2 H4 (Gx.refl _) _ fun b H5 e6 hb => ?_⟩
    cases b with
    | true =>
      refine iteT (he i σ2 H5 hi (e5.trans e6) (ms i σ2 H4 H5 e6 s2) hb H5 (Gx.refl _) _ fun y H6 e7 r => ?_)
      have e8 := (e4.trans e6).trans e7
      have hD6 := e8 _ _ hys
      refine ⟨ys, hD6, Evl.sz_lt (by have := L.len; omega), (e3.trans e8).mut hD, hi, ys ++ [y], upd_same, .keep (L.firm m (e8.k.trans (Kx.put hD6))) hb (m _ _ _ _ (Kx.put hD6) r)⟩
    | false =>
      have e8 := e4.trans e6
      exact iteF ⟨e3.trans e8, hi, ys, e8 _ _ hys, .skip (L.firm m e8.k) hb⟩
  · rintro H3 ⟨e3, _, ys, h, L⟩
    exact q D H3 (e2.trans e3) (e2.free hD) ⟨ys, h, L⟩
theorem wipe1 {j : Nat} {x : Option V} : wipe ((wipe σ [j]).set j x) [j] = wipe σ [j] := by
  show ((σ.set j none).set j x).set j none = σ.set j none
  rw [List.set_set, List.set_set]
/-- the target a name -/
theorem evn_lcN {j : Nat} {Y : Nat → Ty} {B : Nat → Bool → Prop} {R : Nat → Ty} (hw : EvW wi σ H n Y) (hn : n ≤ 100000) (my : ∀ i, Mono (Y i))
    (ht : ∀ i x H1, i < n → Gx H H1 → Y i x H1 → EvB tt ((wipe σ [j]).set j (some x)) H1 (B i))
    (he : ∀ i x H1, i < n → Gx H H1 → Y i x H1 → B i true → EvG te ((wipe σ [j]).set j (some x)) H1 (R i)) (m : ∀ i, Firm (R i)) :
    EvN (tLc wi (gName j) tt te [j]) σ H (fun p H' => ∃ ys, H' p = some (.lst ys) ∧ LcR B R H' n ys) :=
  evn_lc (S := fun i σ2 H => ∃ x, σ2 = (wipe σ [j]).set j (some x) ∧ Y i x H) hw hn (fun i x H1 _ _ y Q q => q _ wipe1 ⟨x, rfl, y⟩) (fun i σ2 H1 hi e ⟨x, z, y⟩ => by subst z; exact ht i x H1 hi e y)
    (fun i σ2 H1 H2 e ⟨x, z, y⟩ => ⟨x, z, my i _ _ _ e y⟩) (fun i σ2 H1 hi e ⟨x, z, y⟩ b => by subst z; exact he i x H1 hi e y b) m
theorem evb_yes {σ : L2.St} {H : Hp} : EvB tYes σ H (fun b => b = true) := fun H1 _ _ q => q true H1 (Gx.refl _) rfl
/-- .. and no test -/
theorem evn_lcA {j : Nat} {Y : Nat → Ty} {R : Nat → Ty} (hw : EvW wi σ H n Y) (hn : n ≤ 100000) (my : ∀ i, Mono (Y i))
    (he : ∀ i x H1, i < n → Gx H H1 → Y i x H1 → EvG te ((wipe σ [j]).set j (some x)) H1 (R i)) (m : ∀ i, Firm (R i)) :
    EvN (tLc wi (gName j) tYes te [j]) σ H (fun p H' => ∃ ys, H' p = some (.lst ys) ∧ ys.length = n ∧ ∀ i y, ys[i]? = some y → R i y H') := by
  intro H1 e Q q
  refine evn_lcN (B := fun _ b => b = true) hw hn my (fun i x H1 _ _ _ => evb_yes) (fun i x H1 hi e y _ => he i x H1 hi e y) m H1 e Q fun p H2 e2 n2 ⟨ys, h, L⟩ => ?_
  exact q p H2 e2 n2 ⟨ys, h, L.all fun _ z => by cases z⟩
end

/-! ### truth values -/
abbrev BlE (b : Bool) : Ty := BlT fun c => c = b
section
variable {K : PySem.W.Frag} {σ : L2.St} {H : Hp} {ta tb tc : TE} {a b : Bool} {t u : TT}
theorem evg_andV (h1 : EvG ta σ H (BlE a)) (h2 : a = true → ∀ H1, Gx H H1 → EvG tb σ H1 (BlE b)) : EvG (tAndV ta tb) σ H (BlE (a && b)) := fun H1 e Q q =>
  h1 H1 e _ fun v H2 e2 ⟨c, z, hc⟩ => ⟨c, z, by
    subst hc
    cases c with
    | true => exact iteT (h2 rfl H2 (e.trans e2) H2 (Gx.refl _) Q fun v H3 e3 f => q v H3 (e2.trans e3) f)
    | false => exact iteF (q _ H2 e2 ⟨false, rfl, rfl⟩)⟩
theorem evg_orV (h1 : EvG ta σ H (BlE a)) (h2 : a = false → ∀ H1, Gx H H1 → EvG tb σ H1 (BlE b)) : EvG (tOrV ta tb) σ H (BlE (a || b)) := fun H1 e Q q =>
  h1 H1 e _ fun v H2 e2 ⟨c, z, hc⟩ => ⟨c, z, by
    subst hc
    cases c with
    | true => exact iteT (q _ H2 e2 ⟨true, rfl, rfl⟩)
    | false => exact iteF (h2 rfl H2 (e.trans e2) H2 (Gx.refl _) Q fun v H3 e3 f => q v H3 (e2.trans e3) f)⟩
theorem evg_notV (h1 : EvG ta σ H (BlE a)) : EvG (tNotV ta) σ H (BlE (!a)) := fun H1 e Q q =>
  h1 H1 e _ fun v H2 e2 ⟨c, z, hc⟩ => ⟨c, z, q _ H2 e2 ⟨_, rfl, by rw [hc]⟩⟩
theorem evb_and (h1 : EvB t σ H (fun c => c = a)) (h2 : a = true → ∀ H1, Gx H H1 → EvB u σ H1 (fun c => c = b)) : EvB (tAnd t u) σ H (fun c => c = (a && b)) := fun H1 e Q q =>
  h1 H1 e _ fun c H2 e2 hc => by
    subst hc
    cases c with
    | true => exact iteT (h2 rfl H2 (e.trans e2) H2 (Gx.refl _) Q fun v H3 e3 f => q v H3 (e2.trans e3) f)
    | false => exact iteF (q _ H2 e2 rfl)
theorem evb_or (h1 : EvB t σ H (fun c => c = a)) (h2 : a = false → ∀ H1, Gx H H1 → EvB u σ H1 (fun c => c = b)) : EvB (tOr t u) σ H (fun c => c = (a || b)) := fun H1 e Q q =>
  h1 H1 e _ fun c H2 e2 hc => by
    subst hc
    cases c with
    | true => exact iteT (q _ H2 e2 rfl)
    | false => exact iteF (h2 rfl H2 (e.trans e2) H2 (Gx.refl _) Q fun v H3 e3 f => q v H3 (e2.trans e3) f)
theorem evb_not (h1 : EvB t σ H (fun c => c = a)) : EvB (tNot t) σ H (fun c => c = !a) := fun H1 e Q q =>
  h1 H1 e _ fun c H2 e2 hc => q _ H2 e2 (by rw [hc])
/-- a < b < c and its like, of ints -/
theorem evg_chain {f g : Int → Int → Bool} {i j k : Int} (ha : EvG ta σ H (IntT fun x => x = i)) (hb : EvG tb σ H (IntT fun x => x = j)) (hc : EvG tc σ H (IntT fun x => x = k)) :
    EvG (tChain (rI0 fun i j => .bl (f i j)) (rI0 fun i j => .bl (g i j)) ta tb tc) σ H (BlE (f i j && g j k)) := fun H1 e Q q =>
  ha H1 e _ fun v H2 e2 ⟨x, z, hx⟩ => hb H2 (e.trans e2) _ fun v2 H3 e3 ⟨y, z2, hy⟩ => ⟨x, y, z, z2, _, rfl, by
    subst hx
    subst hy
    cases q1 : f x y with
    | true =>
      refine iteT (hc H3 ((e.trans e2).trans e3) _ fun v3 H4 e4 ⟨w, z3, hw⟩ => ⟨y, w, z2, z3, ?_⟩)
      have hw : w = k := hw
      exact q _ H4 ((e2.trans e3).trans e4) ⟨_, rfl, by rw [q1, hw, Bool.true_and]⟩
    | false => exact iteF (q _ H3 (e2.trans e3) ⟨false, rfl, by rw [q1, Bool.false_and]⟩)⟩
theorem evg_is {a b : Bool} (h : EvG ta σ H (BlE a)) (e : a = b) : EvG ta σ H (BlE b) := by
  subst e
  exact h
end
theorem evg_rAll {K : PySem.W.Frag} {σ : L2.St} {H : Hp} {te : TE} {R : Bool → Prop} (h : EvN te σ H (fun p H' => ∃ bs : List Bool, H' p = some (.lst (bs.map V.bl)) ∧ R (bs.all id))) : EvG (tCB (rAll K) (tCons te tNil)) σ H (BlT R) := fun H1 e Q q =>
  h H1 e _ fun p H2 e2 _ ⟨bs, hp, r⟩ => ⟨p, bs, rfl, SqL.of hp, q _ H2 e2 ⟨_, rfl, r⟩⟩
theorem evg_rAny {K : PySem.W.Frag} {σ : L2.St} {H : Hp} {te : TE} {R : Bool → Prop} (h : EvN te σ H (fun p H' => ∃ bs : List Bool, H' p = some (.lst (bs.map V.bl)) ∧ R (bs.any id))) : EvG (tCB (rAny K) (tCons te tNil)) σ H (BlT R) := fun H1 e Q q =>
  h H1 e _ fun p H2 e2 _ ⟨bs, hp, r⟩ => ⟨p, bs, rfl, SqL.of hp, q _ H2 e2 ⟨_, rfl, r⟩⟩
theorem EvN.imp {σ : L2.St} {H : Hp} {te : TE} {Φ Φ' : Addr → Hp → Prop} (h : EvN te σ H Φ) (i : ∀ p H2, Gx H H2 → Φ p H2 → Φ' p H2) : EvN te σ H Φ' := fun H1 a Q q => h H1 a Q fun p H2 e n f => q p H2 e n (i p H2 (a.trans e) f)
/-- a list of truth values, told item by item -/
theorem bls_of {ys : List V} {n : Nat} {f : Nat → Bool} (hl : ys.length = n) (h : ∀ (i : Nat) (y : V), ys[i]? = some y → y = V.bl (f i)) : ys = ((List.range n).map f).map V.bl := by
  apply List.ext_getElem?
  intro i
  rw [List.map_map, List.getElem?_map]
  cases q : ys[i]? with
  | some y =>
    have hi : i < n := by rw [← hl]; exact (List.getElem?_eq_some_iff.mp q).1
    rw [h i y q, List.getElem?_range hi]
    rfl
  | none =>
    have : ys.length ≤ i := List.getElem?_eq_none_iff.mp q
    rw [List.getElem?_eq_none (by rw [List.length_range]; omega)]
    rfl
theorem of_cps {ys : List V} {a : Array Nat} {f : Nat → V} (hl : ys.length = a.size) (h : ∀ (i : Nat) (y : V), ys[i]? = some y → ∃ c, a[i]? = some c ∧ y = f c) : ys = a.toList.map f := by
  apply List.ext_getElem?
  intro i
  have e : a.toList[i]? = a[i]? := by simp
  rw [List.getElem?_map, e]
  cases q : ys[i]? with
  | some y =>
    obtain ⟨c, hc, rfl⟩ := h i y q
    rw [hc]
    rfl
  | none =>
    have : ys.length ≤ i := List.getElem?_eq_none_iff.mp q
    rw [Array.getElem?_eq_none (by omega)]
    rfl
/-! ### the words of the package, by values -/
def isI : V → Bool
  | .int i => decide (-(10 ^ 60) < i) && decide (i < 10 ^ 60)
  | _ => false
def wthn (x : V) (lo hi : Int) : Bool := match x with
  | .int i => isI x && (decide (lo ≤ i) && decide (i ≤ hi))
  | _ => false
def letters : List Nat := (("abcdefghijklmnopqrstuvwxyz" : Str)).cps.toList
def isW : V → Bool
  | .str z => (decide (1 ≤ (z.length : Int)) && decide ((z.length : Int) ≤ 8)) && z.cps.toList.all fun c => decide (c ∈ letters)
  | _ => false
def isNode2 (s n : V) : Bool := wthn n 0 3 && (isW s || (decide (s = .str "_" ∨ s = .str "#") && decide (n = .int 0)))
/-- no text too long -/
def Small (x : V) : Prop := ∀ z, x = .str z → z.length ≤ 100000
def spIsInt (K : PySem.W.Frag) : Sp := fun vs H Q _ => ∃ x k, vs = [x] ∧ Pl K H x k ∧ Q (.bl (isI x)) H
def spWithin (K : PySem.W.Frag) : Sp := fun vs H Q _ => ∃ x k lo hi, vs = [x, .int lo, .int hi] ∧ Pl K H x k ∧ Q (.bl (wthn x lo hi)) H
def spWord (K : PySem.W.Frag) : Sp := fun vs H Q _ => ∃ x k, vs = [x] ∧ Pl K H x k ∧ Small x ∧ ∀ H', Gx H H' → Q (.bl (isW x)) H'
/-- a value, and whether it is a node -/
inductive NodeIn (K : PySem.W.Frag) (H : Hp) : V → Bool → Prop
  | other {x : V} {k : Kd} : Pl K H x k → k ≠ .tup → NodeIn K H x false
  | size {a : Addr} {xs : List V} : H a = some (.tup xs) → xs.length ≠ 2 → NodeIn K H (.ref a) false
  | pair {a : Addr} {s n : V} {ks kn : Kd} : H a = some (.tup [s, n]) → Pl K H s ks → Pl K H n kn → Small s → NodeIn K H (.ref a) (isNode2 s n)
def spNode (K : PySem.W.Frag) : Sp := fun vs H Q _ => ∃ x b, vs = [x] ∧ NodeIn K H x b ∧ ∀ H', Gx H H' → Q (.bl b) H'

/-! ### things of told kinds, one by one -/
def AtT : List Ty → List V → Hp → Prop
  | [], [], _ => True
  | Φ :: Φs, v :: vs, H => Φ v H ∧ AtT Φs vs H
  | _, _, _ => False
theorem AtT.mono {H H' : Hp} (e : Gx H H') : ∀ {Φs : List Ty} {vs : List V}, (∀ Φ ∈ Φs, Mono Φ) → AtT Φs vs H → AtT Φs vs H'
  | [], [], _, h => h
  | Φ :: Φs, v :: vs, m, h => ⟨m Φ (List.mem_cons_self ..) _ _ _ e h.1, AtT.mono e (fun Φ hp => m Φ (List.mem_cons_of_mem _ hp)) h.2⟩
  | [], _ :: _, _, h => h.elim
  | _ :: _, [], _, h => h.elim
theorem AtT.len {H : Hp} : ∀ {Φs : List Ty} {vs : List V}, AtT Φs vs H → vs.length = Φs.length
  | [], [], _ => rfl
  | Φ :: Φs, v :: vs, h => by rw [List.length_cons, List.length_cons, AtT.len h.2]
  | [], _ :: _, h => h.elim
  | _ :: _, [], h => h.elim
theorem AtT.get {H : Hp} : ∀ {Φs : List Ty} {vs : List V} {i : Nat} {x : V}, AtT Φs vs H → vs[i]? = some x → ∃ Φ, Φs[i]? = some Φ ∧ Φ x H
  | [], [], _, _, _, e => by simp at e
  | Φ :: Φs, v :: vs, 0, x, h, e => by
    simp at e
    subst e
    exact ⟨Φ, rfl, h.1⟩
  | Φ :: Φs, v :: vs, i + 1, x, h, e => by
    obtain ⟨Ψ, h1, h2⟩ := AtT.get (i := i) (x := x) h.2 (by simpa using e)
    exact ⟨Ψ, by simpa using h1, h2⟩
  | [], _ :: _, _, _, h, _ => h.elim
  | _ :: _, [], _, _, h, _ => h.elim
section
variable {K : PySem.W.Frag} {σ : L2.St} {H : Hp} {ta : TE} {tr : TA} {Φ : Ty} {Φs : List Ty}
theorem ats_nil : EvGs tNil σ H (AtT []) := evgs_nil fun _ _ => trivial
theorem ats_cons (m : Mono Φ) (h : EvG ta σ H Φ) (k : ∀ H1, Gx H H1 → EvGs tr σ H1 (AtT Φs)) : EvGs (tCons ta tr) σ H (AtT (Φ :: Φs)) :=
  evgs_cons h fun v H1 e f => fun H2 e2 Q q => k H1 e H2 e2 Q fun vs H3 e3 g => q vs H3 e3 ⟨m _ _ _ (e2.trans e3) f, g⟩
def TupA (Φs : List Ty) : Addr → Hp → Prop := fun p H => ∃ xs, H p = some (.tup xs) ∧ AtT Φs xs H
def LstA (Φs : List Ty) : Addr → Hp → Prop := fun p H => ∃ xs, H p = some (.lst xs) ∧ AtT Φs xs H
def TupT (Φs : List Ty) : Ty := fun v H => ∃ p, v = .ref p ∧ TupA Φs p H
def LstT (Φs : List Ty) : Ty := fun v H => ∃ p, v = .ref p ∧ LstA Φs p H
theorem TupT.mono (m : ∀ Φ ∈ Φs, Mono Φ) : Mono (TupT Φs) := fun _ _ _ e ⟨p, z, xs, h1, h2⟩ => ⟨p, z, xs, e _ _ h1, h2.mono e m⟩
theorem LstT.mono (m : ∀ Φ ∈ Φs, Mono Φ) : Mono (LstT Φs) := fun _ _ _ e ⟨p, z, xs, h1, h2⟩ => ⟨p, z, xs, e _ _ h1, h2.mono e m⟩
theorem evn_tupA (m : ∀ Φ ∈ Φs, Mono Φ) (h : EvGs tr σ H (AtT Φs)) (hn : Φs.length ≤ 100000) : EvN (tTup tr) σ H (TupA Φs) :=
  evn_tup h (fun vs _ g => by rw [g.len]; exact hn) fun vs p _ _ _ g e2 _ hp => ⟨vs, hp, g.mono e2 m⟩
theorem evn_lstA (m : ∀ Φ ∈ Φs, Mono Φ) (h : EvGs tr σ H (AtT Φs)) (hn : Φs.length ≤ 100000) : EvN (tLst tr) σ H (LstA Φs) :=
  evn_lst h (fun vs _ g => by rw [g.len]; exact hn) fun vs p _ _ _ g e2 _ hp => ⟨vs, hp, g.mono e2 m⟩
theorem evg_tupA (m : ∀ Φ ∈ Φs, Mono Φ) (h : EvGs tr σ H (AtT Φs)) (hn : Φs.length ≤ 100000) : EvG (tTup tr) σ H (TupT Φs) := (evn_tupA m h hn).g fun p _ _ _ _ _ f => ⟨p, rfl, f⟩
theorem evg_lstA (m : ∀ Φ ∈ Φs, Mono Φ) (h : EvGs tr σ H (AtT Φs)) (hn : Φs.length ≤ 100000) : EvG (tLst tr) σ H (LstT Φs) := (evn_lstA m h hn).g fun p _ _ _ _ _ f => ⟨p, rfl, f⟩
end
theorem NodeIn.mono {K : PySem.W.Frag} {b : Bool} : Mono (fun v H => NodeIn K H v b) := fun v H H' e h => by
  cases h with
  | other p hk => exact .other (p.gx e) hk
  | size h hl => exact .size (e _ _ h) hl
  | pair h ps pn sm => exact .pair (e _ _ h) (ps.gx e) (pn.gx e) sm
/-- is this value that? -/
abbrev Eq1 (x : V) : Ty := fun v _ => v = x
theorem Eq1.mono {x : V} : Mono (Eq1 x) := fun _ _ _ _ h => h
theorem Eq1.firm {x : V} : Firm (Eq1 x) := fun _ _ _ _ h => h
theorem evg_e {σ : L2.St} {H : Hp} {x : V} : EvG (tC x) σ H (Eq1 x) := evg_c fun _ _ => rfl
theorem evg_ve {σ : L2.St} {H : Hp} {i : Nat} {x : V} (h : σ[i]? = some (some x)) : EvG (tVar i) σ H (Eq1 x) := evg_var h fun _ _ => rfl
/-! ### data -/
mutual
theorem Dp.gx {K : PySem.W.Frag} {H H' : Hp} (e : Gx H H') : ∀ {v : V} {d : PyData}, Dp K H v d → Dp K H' v d
  | _, _, .non => .non
  | _, _, .bl b => .bl b
  | _, _, .int i => .int i
  | _, _, .str x => .str x
  | _, _, .lst h hs => .lst (e.l h) (DpAll.gx e hs)
  | _, _, .tup h hs => .tup (e.t h) (DpAll.gx e hs)
theorem DpAll.gx {K : PySem.W.Frag} {H H' : Hp} (e : Gx H H') : ∀ {vs : List V} {ds : List PyData}, DpAll K H vs ds → DpAll K H' vs ds
  | _, _, .nil => .nil
  | _, _, .cons h hs => .cons (Dp.gx e h) (DpAll.gx e hs)
end

section
variable {K : PySem.W.Frag} {σ : L2.St} {H : Hp} {ta : TE} {tr : TA} {Φ : Ty} {Φs : List Ty} {n : Nat}
/-- the same, over one heap -/
theorem evgs_m (m : Mono Φ) (h : EvG ta σ H Φ) (k : EvGs tr σ H (AllT Φ n)) : EvGs (tCons ta tr) σ H (AllT Φ (n + 1)) := evgs_more m h fun _ e H2 e2 Q q => k H2 (e.trans e2) Q q
theorem ats_c (m : Mono Φ) (h : EvG ta σ H Φ) (k : EvGs tr σ H (AtT Φs)) : EvGs (tCons ta tr) σ H (AtT (Φ :: Φs)) := ats_cons m h fun _ e H2 e2 Q q => k H2 (e.trans e2) Q q
end

/-! ### data, evaluated -/
def DatT (K : PySem.W.Frag) (d : PyData) : Ty := fun v H => Dp K H v d
def DatsT (K : PySem.W.Frag) (ds : List PyData) : List V → Hp → Prop := fun vs H => DpAll K H vs ds
theorem DatT.mono {K : PySem.W.Frag} {d : PyData} : Mono (DatT K d) := fun _ _ _ e h => Dp.gx e h
theorem DpAll.len {K : PySem.W.Frag} {H : Hp} : ∀ {vs : List V} {ds : List PyData}, DpAll K H vs ds → vs.length = ds.length
  | _, _, .nil => rfl
  | _, _, .cons _ hs => by rw [List.length_cons, List.length_cons, DpAll.len hs]
section
variable {K : PySem.W.Frag} {σ : L2.St} {H : Hp} {ta tb : TE} {tr : TA} {d e : PyData} {ds : List PyData}
theorem dats_nil : EvGs tNil σ H (DatsT K []) := evgs_nil fun _ _ => .nil
theorem dats_c (h : EvG ta σ H (DatT K d)) (k : EvGs tr σ H (DatsT K ds)) : EvGs (tCons ta tr) σ H (DatsT K (d :: ds)) :=
  evgs_cons h fun _ _ e f => fun H2 e2 Q q => k H2 (e.trans e2) Q fun vs H3 e3 g => q vs H3 e3 (.cons (Dp.gx (e2.trans e3) f) g)
theorem evg_dlst (h : EvGs tr σ H (DatsT K ds)) (hn : ds.length ≤ 100000) : EvG (tLst tr) σ H (DatT K (.list ds)) :=
  evg_lst h (fun vs _ g => by rw [DpAll.len g]; exact hn) fun vs p H1 H2 g e2 _ hp => .lst (SqL.of hp) (DpAll.gx e2 g)
theorem evg_dtup (h : EvGs tr σ H (DatsT K ds)) (hn : ds.length ≤ 100000) : EvG (tTup tr) σ H (DatT K (.tuple ds)) :=
  evg_tup h (fun vs _ g => by rw [DpAll.len g]; exact hn) fun vs p H1 H2 g e2 _ hp => .tup (SqT.of hp) (DpAll.gx e2 g)
theorem dat_int {i : Int} : EvG (tC (.int i)) σ H (DatT K (.int i)) := evg_c fun _ _ => .int i
theorem dat_bl {i : Bool} : EvG (tC (.bl i)) σ H (DatT K (.bool i)) := evg_c fun _ _ => .bl i
theorem dat_str {i : Str} : EvG (tC (.str i)) σ H (DatT K (.str i)) := evg_c fun _ _ => .str i
theorem dat_non : EvG (tC .non) σ H (DatT K .none) := evg_c fun _ _ => .non
theorem dat_var {i : Nat} {v : V} (h : σ[i]? = some (some v)) (hd : Dp K H v d) : EvG (tVar i) σ H (DatT K d) := evg_var h fun _ e => Dp.gx e hd
theorem dat_of_bl {b : Bool} (h : EvG ta σ H (BlE b)) : EvG ta σ H (DatT K (.bool b)) := h.imp fun v _ _ ⟨c, z, hc⟩ => by
  have hc : c = b := hc
  rw [z, hc]
  exact .bl b
theorem evg_eqD (ha : EvG ta σ H (DatT K d)) (hb : EvG tb σ H (DatT K e)) (sd : SeqAt.shaped d = true) (se : SeqAt.shaped e = true) : EvG (tOp (rEqD K) ta tb) σ H (BlE (PyData.eqv d e)) := fun H1 e1 Q q =>
  ha H1 e1 _ fun v H2 e2 f => hb H2 (e1.trans e2) _ fun v2 H3 e3 g => ⟨d, e, Dp.gx e3 f, g, sd, se, q _ H3 (e2.trans e3) ⟨_, rfl, rfl⟩⟩
theorem evg_neD (ha : EvG ta σ H (DatT K d)) (hb : EvG tb σ H (DatT K e)) (sd : SeqAt.shaped d = true) (se : SeqAt.shaped e = true) : EvG (tOp (rNeD K) ta tb) σ H (BlE (!PyData.eqv d e)) := fun H1 e1 Q q =>
  ha H1 e1 _ fun v H2 e2 f => hb H2 (e1.trans e2) _ fun v2 H3 e3 g => ⟨d, e, Dp.gx e3 f, g, sd, se, q _ H3 (e2.trans e3) ⟨_, rfl, rfl⟩⟩
end
/-- a list of truth values as data -/
theorem dp_bls {K : PySem.W.Frag} {H : Hp} : ∀ bs : List Bool, DpAll K H (bs.map V.bl) (bs.map PyData.bool)
  | [] => .nil
  | b :: bs => .cons (.bl b) (dp_bls bs)
/-- [f(x) for x in ..] with known truth values -/
theorem bls_eq {ys : List V} {bs : List Bool} (hl : ys.length = bs.length) (h : ∀ (i : Nat) (y : V), ys[i]? = some y → ∃ b, bs[i]? = some b ∧ y = V.bl b) : ys = bs.map V.bl := by
  apply List.ext_getElem?
  intro i
  rw [List.getElem?_map]
  cases q : ys[i]? with
  | some y =>
    obtain ⟨b, hb, rfl⟩ := h i y q
    rw [hb]
    rfl
  | none =>
    have : ys.length ≤ i := List.getElem?_eq_none_iff.mp q
    rw [List.getElem?_eq_none (by omega)]
    rfl

/-! ### list(text) -/
theorem vals_of : ∀ {xs : List V} {us : List Value}, xs.length = us.length → (∀ (i : Nat) (x : V) (u : Value), xs[i]? = some x → us[i]? = some u → RelV x u) → Vals xs us
  | [], [], _, _ => .nil
  | x :: xs, u :: us, hl, h => .cons (h 0 x u rfl rfl) (vals_of (by simpa using hl) fun i y w h1 h2 => h (i + 1) y w (by simpa using h1) (by simpa using h2))
  | [], _ :: _, hl, _ => by simp at hl
  | _ :: _, [], hl, _ => by simp at hl
def signsV (z : Str) : List V := z.cps.toList.map fun c => V.str ⟨#[c]⟩
theorem call_listS {X : Cx} (hc : X.calm = true) : CallR X (.type "list") (fun xs H Q => ∃ z, xs = [.str z] ∧ z.length ≤ sizeLine ∧ ∀ l, H l = none → Q (.ref l) (upd H l (.lst (signsV z)))) := by
  intro pins s σ H xs us Q I r h
  obtain ⟨z, rfl, hz, q⟩ := h
  obtain ⟨u, rfl, rx⟩ := vals1 r
  obtain ⟨t, rfl⟩ := rx
  refine call_list_str (I.ok.hd hc) z t (hn := hz) fun h' tk acc' c' hk hS' hacc => ?_
  have hf : H s.heap.objs.size = none := I.hok.fresh (Nat.le_refl _)
  refine ⟨.ref s.heap.objs.size, _, I.laid (t' := tk) hk (Nat.le_refl _) (show ObjOk X.prog X.w _ h' _ (.lst (signsV z)) from ⟨by unfold signsV; rw [List.length_map, Array.length_toList]; exact hz, acc'.toList, c', vals_of ?_ ?_, by simpa using hS'⟩), rfl, q _ hf⟩
  · unfold signsV
    rw [List.length_map]
    have := hacc.1
    simp
    omega
  · intro i x u h1 h2
    obtain ⟨c, w, hc, rfl⟩ := hacc.2 i u (by simpa using h2)
    unfold signsV at h1
    rw [List.getElem?_map] at h1
    have e : z.cps.toList[i]? = z.cps[i]? := by simp
    rw [e, hc] at h1
    cases h1
    exact ⟨w, rfl⟩

/-! ### drawing some of a list -/
theorem erase_perm : ∀ {ls : List V} {k : Nat} {y : V}, ls[k]? = some y → (y :: ls.eraseIdx k).Perm ls
  | [], _, _, h => by simp at h
  | a :: ls, 0, y, h => by
    simp at h
    subst h
    exact List.Perm.refl _
  | a :: ls, k + 1, y, h => by
    have ih := erase_perm (ls := ls) (k := k) (y := y) (by simpa using h)
    exact (List.Perm.swap a y _).trans (ih.cons a)
def spSome (K : PySem.W.Frag) : Sp := fun vs H Q _ => ∃ (d l : Addr) (xs : List V) (n : Int), vs = [.ref d, .ref l, .int n] ∧ H d = some (diceO d) ∧ SqL K H l xs ∧ 0 ≤ n ∧ xs.length ≤ 1000 ∧
  ∀ p ys rest H', Gx H H' → H p = none → H' p = some (.lst ys) → (ys.length : Int) = (if (xs.length : Int) < n then (xs.length : Int) else n) → (ys ++ rest).Perm xs → Q (.ref p) H'

/-! ### the rules that speak of the written part, with that part told (for comprehensions) -/
section
variable {X : Cx} {K : PySem.W.Frag}
theorem kix_list (hK : X.K = K := by rfl) : IxR X (rIxL K) := by subst hK; exact ix_list
theorem kix_tup (hK : X.K = K := by rfl) : IxR X (rIxT K) := by subst hK; exact ix_tup
theorem kop_eqD (hu : X.A.units + 64 < cLine) (hK : X.K = K := by rfl) : OpR X (compareOp .Eq) (rEqD K) := by subst hK; exact op_eqD hu
theorem kop_neD (hu : X.A.units + 64 < cLine) (hK : X.K = K := by rfl) : OpR X (compareOp .NotEq) (rNeD K) := by subst hK; exact op_neD hu
theorem kop_in_seq (hK : X.K = K := by rfl) : OpR X (compareOp .In) (rIn K false) := by subst hK; exact op_in_seq
theorem kop_notIn_seq (hK : X.K = K := by rfl) : OpR X (compareOp .NotIn) (rIn K true) := by subst hK; exact op_notIn_seq
def rLenK (K : PySem.W.Frag) : List V → Hp → VK → Prop := fun xs H Q => ∃ p ys, xs = [.ref p] ∧ (SqL K H p ys ∨ SqT K H p ys) ∧ Q (.int ys.length) H
def rListK (K : PySem.W.Frag) : List V → Hp → VK → Prop := fun xs H Q => ∃ p ys, xs = [.ref p] ∧ (SqL K H p ys ∨ SqT K H p ys) ∧ ∀ l, H l = none → Q (.ref l) (upd H l (.lst ys))
def rTupK (K : PySem.W.Frag) : List V → Hp → VK → Prop := fun xs H Q => ∃ p ys, xs = [.ref p] ∧ ((SqL K H p ys ∧ ∀ l, H l = none → Q (.ref l) (upd H l (.tup ys))) ∨ (SqT K H p ys ∧ Q (.ref p) H))
theorem kcall_len (hK : X.K = K := by rfl) : CallR X (.builtin "len") (rLenK K) := by subst hK; exact call_len_seq
theorem kcall_list (hK : X.K = K := by rfl) : CallR X (.type "list") (rListK K) := by subst hK; exact call_list_of
theorem kcall_tuple (hK : X.K = K := by rfl) : CallR X (.type "tuple") (rTupK K) := by subst hK; exact call_tuple_of
theorem kcall_isi (hK : X.K = K := by rfl) : CallR X (.builtin "isinstance") (rIsi K) := by subst hK; exact call_isi
theorem kcr_all (hc : X.calm = true) (hK : X.K = K := by rfl) : CallR X (.builtin "all") (rAll K) := by subst hK; exact cr_all hc
theorem kcr_any (hc : X.calm = true) (hK : X.K = K := by rfl) : CallR X (.builtin "any") (rAny K) := by subst hK; exact cr_any hc
theorem ksl_list (hK : X.K = K := by rfl) : SlR X (rSlL K) := by subst hK; exact sl_list
variable {tg l : Expr} {tl : TE}
theorem kpi_list (hl : PE X l tl) (hK : X.K = K := by rfl) : PI X tg l (iList K tl) := by subst hK; exact pi_list hl
theorem kpi_tup (hl : PE X l tl) (hK : X.K = K := by rfl) : PI X tg l (iTup K tl) := by subst hK; exact pi_tup hl
theorem kpe_fld {e : Expr} {ta : TE} {f : Str} {pos : Pos} (he : PE X e ta) (hb : attributeBase e f X.env (eval e X.env) = eval e X.env) (hK : X.K = K := by rfl) : PE X (.Attribute e f pos) (tFld K ta f) := by subst hK; exact pe_fld he hb
section
variable {o e : Expr} {es : List Expr} {to te : TE} {t : TA} {name : Str} {apos cpos pos : Pos} {T id : String} {r : V → List V → Hp → VK → Prop}
theorem kpe_bm (pa : PlainAttrs T) (slot : Slot T name id) (hty : typeOf (.builtin id) = pure (.type "method_descriptor")) (hm : MtR X id r) (ho : PE X o to) (ha : PA X (e :: es) t) (hK : X.K = K := by rfl)
    (hbase : attributeBase o name X.env (eval o X.env) = eval o X.env := by rfl)
    (hfew : ((backTo cpos (starEach (e :: es) X.env)).all (fun x => !x.1) && (backToKw cpos (keywordEach [] X.env)).all (fun x => x.1.isSome)
      && decide ((e :: es).length + ([] : List Keyword).length + (if ([] : List Keyword).isEmpty then 0 else 1) < 30)) = true := by rfl)
    (hline : (apos.endLine == cpos.line) = true := by rfl) (hs : starEach (e :: es) X.env = (false, eval e X.env) :: starEach es X.env := by rfl) (hplain : (backTo cpos (starEach es X.env)).any (·.1) = false := by rfl) :
    PE X (.Call (.Attribute o name apos) (e :: es) [] cpos) (tBM K T r to t) := by
  subst hK
  exact pe_bm pa slot hty hm ho ha hbase hfew hline hs hplain
theorem kpe_bm0 (pa : PlainAttrs T) (slot : Slot T name id) (hty : typeOf (.builtin id) = pure (.type "method_descriptor")) (hm : MtR X id r) (ho : PE X o to) (hK : X.K = K := by rfl)
    (hbase : attributeBase o name X.env (eval o X.env) = eval o X.env := by rfl) (hline : (apos.endLine == cpos.line) = true := by rfl) : PE X (.Call (.Attribute o name apos) [] [] cpos) (tBM0 K T r to) := by
  subst hK
  exact pe_bm0 pa slot hty hm ho hbase hline
def rJoinK (K : PySem.W.Frag) : V → List V → Hp → VK → Prop := fun x xs H Q => ∃ a p, ∃ ys : List Str, x = .str a ∧ xs = [.ref p] ∧ (SqL K H p (ys.map V.str) ∨ SqT K H p (ys.map V.str)) ∧
      (ys.map (·.length)).sum + ys.length * a.length ≤ 16777216 ∧ Q (.str (Txt.join a ys)) H
theorem kpe_join (ho : PE X o to) (he : PE X e te) (hK : X.K = K := by rfl) (hs : starEach [e] X.env = [(false, eval e X.env)] := by rfl) (hbase : attributeBase o "join" X.env (eval o X.env) = eval o X.env := by rfl) (hline : (apos.endLine == pos.line) = true := by rfl) :
    PE X (.Call (.Attribute o "join" apos) [e] [] pos) (tM1 (rJoinK K) to te) := by
  subst hK
  exact pe_join ho he hs hbase hline
end
end
theorem yes_ite {σ : L2.St} {H : Hp} {A B : Hp → Prop} (h : A H) : tYes σ H (fun b H => if b = true then A H else B H) := by
  show if true = true then A H else B H
  rw [if_pos rfl]
  exact h

theorem LcR.nil_or {B : Nat → Bool → Prop} {R : Nat → Ty} {H : Hp} {n : Nat} {ys : List V} (h : LcR B R H n ys) : (ys = [] ∧ ∀ i, i < n → B i false) ∨ (ys ≠ [] ∧ ∃ i, i < n ∧ B i true) := by
  induction h with
  | nil => exact .inl ⟨rfl, fun i hi => by omega⟩
  | @keep n ys y _ b _ ih => exact .inr ⟨by simp, n, by omega, b⟩
  | @skip n ys _ b ih =>
    rcases ih with ⟨h1, h2⟩ | ⟨h1, i, h2, h3⟩
    · refine .inl ⟨h1, fun i hi => ?_⟩
      by_cases q : i = n
      · subst q
        exact b
      · exact h2 i (by omega)
    · exact .inr ⟨h1, i, by omega, h3⟩
theorem LcR.each {B : Nat → Bool → Prop} {R : Nat → Ty} {H : Hp} {n : Nat} {ys : List V} (h : LcR B R H n ys) {y : V} (hy : y ∈ ys) : ∃ i, i < n ∧ B i true ∧ R i y H := by
  induction h with
  | nil => cases hy
  | @keep n ys z _ b r ih =>
    rcases List.mem_append.mp hy with hy | hy
    · obtain ⟨i, h1, h2⟩ := ih hy
      exact ⟨i, by omega, h2⟩
    · obtain rfl := List.mem_singleton.mp hy
      exact ⟨n, by omega, b, r⟩
  | skip _ _ ih =>
    obtain ⟨i, h1, h2⟩ := ih hy
    exact ⟨i, by omega, h2⟩
/-- flat values as data -/
def flatD : V → PyData
  | .bl b => .bool b
  | .int i => .int i
  | .str z => .str z
  | _ => .none
def okV : V → Bool
  | .non => true
  | .bl _ => true
  | .int _ => true
  | .str z => PyData.strOk z
  | _ => false
theorem flat_dp {K : PySem.W.Frag} {H : Hp} : ∀ {ys : List V}, (∀ y ∈ ys, okV y = true) → DpAll K H ys (ys.map flatD)
  | [], _ => .nil
  | y :: ys, h => .cons (by
      have := h y (List.mem_cons_self ..)
      cases y with
      | non => exact .non
      | bl b => exact .bl b
      | int i => exact .int i
      | str z => exact .str z
      | _ => cases this) (flat_dp fun z hz => h z (List.mem_cons_of_mem _ hz))
theorem flat_lay : ∀ {ys : List V}, (∀ y ∈ ys, okV y = true) → PyData.canLayAll0 (ys.map flatD) = true ∧ PyData.depthAll (ys.map flatD) = 0
  | [], _ => ⟨by simp [PyData.canLayAll0], by simp [PyData.depthAll]⟩
  | y :: ys, h => by
    obtain ⟨h1, h2⟩ := flat_lay (ys := ys) fun z hz => h z (List.mem_cons_of_mem _ hz)
    have := h y (List.mem_cons_self ..)
    rw [List.map_cons]
    cases y with
    | non => exact ⟨by simp [flatD, PyData.canLayAll0, PyData.canLay0, h1], by simp [flatD, PyData.depthAll, PyData.depth, h2]⟩
    | bl b => exact ⟨by simp [flatD, PyData.canLayAll0, PyData.canLay0, h1], by simp [flatD, PyData.depthAll, PyData.depth, h2]⟩
    | int i => exact ⟨by simp [flatD, PyData.canLayAll0, PyData.canLay0, h1], by simp [flatD, PyData.depthAll, PyData.depth, h2]⟩
    | str z => exact ⟨by simp [flatD, PyData.canLayAll0, PyData.canLay0, h1]; exact this, by simp [flatD, PyData.depthAll, PyData.depth, h2]⟩
    | _ => cases this
theorem flat_shaped {ys : List V} (h : ∀ y ∈ ys, okV y = true) : SeqAt.shaped (.list (ys.map flatD)) = true ∧ SeqAt.shaped (.tuple (ys.map flatD)) = true := by
  obtain ⟨h1, h2⟩ := flat_lay h
  unfold SeqAt.shaped
  simp [PyData.canLay0, PyData.depth, h1, h2]

/-! ### texts; comprehensions over a drawn range; some of a list -/
def StrT (P : Str → Prop) : Ty := fun v _ => ∃ z, v = .str z ∧ P z
theorem StrT.firm {P : Str → Prop} : Firm (StrT P) := fun _ _ _ _ h => h
section
variable {K : PySem.W.Frag} {σ : L2.St} {H : Hp} {ta tb tc te : TE} {tr : TA} {Φ : Ty}
theorem evg_adds {P R : Str → Prop} (ha : EvG ta σ H (StrT P)) (hb : EvG tb σ H (StrT R)) (hl : ∀ x y, P x → R y → x.length + y.length ≤ 100000) (m : ∀ x y, P x → R y → ∀ H1, Gx H H1 → Φ (.str (x ++ y)) H1) :
    EvG (tOp (fun x y H Q => ∃ i j, x = .str i ∧ y = .str j ∧ i.length + j.length ≤ sizeLine ∧ Q (.str (i ++ j)) H) ta tb) σ H Φ := fun H1 e Q q =>
  ha H1 e _ fun _ H2 e2 ⟨i, z, p⟩ => hb H2 (e.trans e2) _ fun _ H3 e3 ⟨j, z2, r⟩ => ⟨i, j, z, z2, Evl.sz_of (hl i j p r), q _ H3 (e2.trans e3) (m i j p r H3 ((e.trans e2).trans e3))⟩
theorem evg_listS {z : Str} (h : EvG ta σ H (Eq1 (.str z))) (hz : z.length ≤ 100000) (m : ∀ c ∈ z.cps.toList, ∀ H1, Φ (.str ⟨#[c]⟩) H1) :
    EvG (tCB (fun xs H Q => ∃ z, xs = [.str z] ∧ z.length ≤ sizeLine ∧ ∀ l, H l = none → Q (.ref l) (upd H l (.lst (signsV z)))) (tCons ta tNil)) σ H (LofT Φ z.cps.size) := fun H1 e Q q =>
  h H1 e _ fun v H2 e2 hv => by
    have hv : v = .str z := hv
    subst hv
    refine ⟨z, rfl, Evl.sz_of hz, fun l hl => q _ _ (e2.trans (Gx.new hl)) ⟨l, rfl, _, upd_same, by unfold signsV; rw [List.length_map, Array.length_toList], fun x hx => ?_⟩⟩
    obtain ⟨c, hc, rfl⟩ := List.mem_map.mp hx
    exact m c hc _
theorem evn_lcR {j : Nat} {P : Nat → Prop} {R : Ty} (h : EvGs tr σ H (fun vs _ => ∃ n : Nat, vs = [.int n] ∧ P n)) (hP : ∀ n, P n → n ≤ 1000) (he : ∀ x H1, Gx H H1 → EvG te ((wipe σ [j]).set j (some x)) H1 R) (m : Firm R) :
    EvN (tLc (iRng1 tr) (gName j) tYes te [j]) σ H (fun p H' => ∃ ys, H' p = some (.lst ys) ∧ P ys.length ∧ ∀ y ∈ ys, R y H') := by
  intro H1 e Q q
  refine h H1 e _ fun vs H2 e2 ⟨n, z, pn⟩ => ⟨n, z, by omega, by have := hP n pn; omega, ?_⟩
  have hn : (n : Int).toNat = n := by omega
  rw [hn]
  show tLc (fun _ H R => R (Itr 0 n) H) (gName j) tYes te [j] σ H2 Q
  refine EvN.use (evn_lcA (n := n) (Y := fun i x _ => x = .int (0 + (i : Nat))) (R := fun _ => R) ?_ (by have := hP n pn; omega) (fun _ _ _ _ _ h => h) (fun i x H3 _ e3 _ => he x H3 ((e.trans e2).trans e3)) fun _ => m) ?_
  · intro H3 e3 R q
    exact q (Itr 0 n) H3 (fun _ => True) _ (Gx.refl _) walk_range (fun _ _ => trivial) fun i H4 x H5 _ _ ⟨z4, hx⟩ => by subst z4; exact ⟨Gx.refl _, hx⟩
  · rintro p H3 e3 n3 ⟨ys, hp, hl, hy⟩
    refine q p H3 (e2.trans e3) (e2.free n3) ⟨ys, hp, by rw [hl]; exact pn, fun y hy' => ?_⟩
    obtain ⟨i, hi⟩ := List.getElem?_of_mem hy'
    exact hy i y hi
theorem evg_some {n : Nat} {k : Int} (m : Mono Φ) (hd : EvG ta σ H DiceT) (hl : EvG tb σ H (LofT Φ n)) (hk : EvG tc σ H (IntT fun i => i = k)) (h0 : 0 ≤ k ∧ n ≤ 1000) :
    EvG (tCall (spSome K) [] E0 (tCons ta (tCons tb (tCons tc tNil)))) σ H (LofT Φ (if n < k.toNat then n else k.toNat)) := fun H1 e Q q =>
  hd H1 e _ fun _ H2 e2 ⟨d, z, hd⟩ => hl H2 (e.trans e2) _ fun _ H3 e3 ⟨l, z2, xs, h1, h2⟩ => hk H3 ((e.trans e2).trans e3) _ fun _ H4 e4 ⟨i, z3, hi⟩ => by
    have hi : i = k := hi
    subst z
    subst z2
    subst z3
    subst hi
    refine ⟨d, l, xs, i, rfl, (e3.trans e4) _ _ hd, SqL.of (e4 _ _ h1), h0.1, by rw [h2.1]; exact h0.2, fun p ys rest H5 e5 _ hp hyl pm => ?_⟩
    refine q _ H5 (((e2.trans e3).trans e4).trans e5) ⟨p, rfl, ys, hp, ?_, fun y hy => m _ _ _ (e4.trans e5) (h2.2 y (pm.mem_iff.mp (List.mem_append_left _ hy)))⟩
    rw [h2.1] at hyl
    split at hyl <;> split <;> omega
end

/-- some data -/
def DatP (K : PySem.W.Frag) (P : PyData → Prop) : Ty := fun v H => ∃ d, Dp K H v d ∧ SeqAt.shaped d = true ∧ P d
section
variable {K : PySem.W.Frag} {σ : L2.St} {H : Hp} {ta tb : TE} {P R : PyData → Prop}
theorem DatP.mono : Mono (DatP K P) := fun _ _ _ e ⟨d, h1, h2, h3⟩ => ⟨d, Dp.gx e h1, h2, h3⟩
theorem evg_eqP (ha : EvG ta σ H (DatP K P)) (hb : EvG tb σ H (DatP K R)) : EvG (tOp (rEqD K) ta tb) σ H (BlT fun b => ∃ d e, P d ∧ R e ∧ b = PyData.eqv d e) := fun H1 e1 Q q =>
  ha H1 e1 _ fun v H2 e2 ⟨d, f, sd, pd⟩ => hb H2 (e1.trans e2) _ fun v2 H3 e3 ⟨e, g, se, re⟩ => ⟨d, e, Dp.gx e3 f, g, sd, se, q _ H3 (e2.trans e3) ⟨_, rfl, d, e, pd, re, rfl⟩⟩
theorem evg_neP (ha : EvG ta σ H (DatP K P)) (hb : EvG tb σ H (DatP K R)) : EvG (tOp (rNeD K) ta tb) σ H (BlT fun b => ∃ d e, P d ∧ R e ∧ b = !PyData.eqv d e) := fun H1 e1 Q q =>
  ha H1 e1 _ fun v H2 e2 ⟨d, f, sd, pd⟩ => hb H2 (e1.trans e2) _ fun v2 H3 e3 ⟨e, g, se, re⟩ => ⟨d, e, Dp.gx e3 f, g, sd, se, q _ H3 (e2.trans e3) ⟨_, rfl, d, e, pd, re, rfl⟩⟩
theorem dat_p {d : PyData} (h : EvG ta σ H (DatT K d)) (hs : SeqAt.shaped d = true) : EvG ta σ H (DatP K fun e => e = d) := h.imp fun v H2 _ f => ⟨d, f, hs, rfl⟩
end

theorem strs_of {P : Str → Prop} {H : Hp} : ∀ {ys : List V}, (∀ y ∈ ys, StrT P y H) → ∃ zs : List Str, ys = zs.map V.str ∧ ∀ z ∈ zs, P z
  | [], _ => ⟨[], rfl, fun z h => by cases h⟩
  | y :: ys, h => by
    obtain ⟨zs, h1, h2⟩ := strs_of (ys := ys) fun z hz => h z (List.mem_cons_of_mem _ hz)
    obtain ⟨z, rfl, hz⟩ := h y (List.mem_cons_self ..)
    exact ⟨z :: zs, by rw [h1]; rfl, fun w hw => by
      rcases List.mem_cons.mp hw with rfl | hw
      · exact hz
      · exact h2 w hw⟩
theorem sum_le {n : Nat} : ∀ {zs : List Str}, (∀ z ∈ zs, z.length ≤ n) → (zs.map (·.length)).sum ≤ n * zs.length
  | [], _ => by simp
  | z :: zs, h => by
    have h1 := sum_le (zs := zs) fun w hw => h w (List.mem_cons_of_mem _ hw)
    have h2 := h z (List.mem_cons_self ..)
    rw [List.map_cons, List.sum_cons, List.length_cons, Nat.mul_add]
    omega
/-- sep.join(new list of texts) -/
theorem evg_join {K : PySem.W.Frag} {σ : L2.St} {H : Hp} {te : TE} {a : Str} {P : Str → Prop} {N : Nat → Prop} {Φ : Ty} {n m : Nat} (h : EvN te σ H (fun p H' => ∃ ys, H' p = some (.lst ys) ∧ N ys.length ∧ ∀ y ∈ ys, StrT P y H')) (hN : ∀ k, N k → k ≤ n) (hP : ∀ z, P z → z.length ≤ m) (hs : m * n + n * a.length ≤ 16777216)
    (k : ∀ zs : List Str, N zs.length → (∀ z ∈ zs, P z) → ∀ H1, Φ (.str (Txt.join a zs)) H1) : EvG (tM1 (rJoinK K) (tC (.str a)) te) σ H Φ := fun H1 e Q q =>
  ⟨⟨a, rfl⟩, h H1 e _ fun p H2 e2 _ ⟨ys, hp, hn, hy⟩ => by
    obtain ⟨zs, rfl, hz⟩ := strs_of hy
    rw [List.length_map] at hn
    have h1 := sum_le (n := m) (zs := zs) fun z hz' => hP z (hz z hz')
    have h2 := hN _ hn
    have h3 : m * zs.length ≤ m * n := Nat.mul_le_mul_left m h2
    have h4 : zs.length * a.length ≤ n * a.length := Nat.mul_le_mul_right _ h2
    exact ⟨a, p, zs, rfl, rfl, Or.inl (SqL.of hp), by omega, q _ H2 e2 (k zs hn hz H2)⟩⟩

/-! ### more rules with the written part told; slices, stars, stores -/
section
variable {X : Cx} {K : PySem.W.Frag}
theorem kpe_revL {e : Expr} {te : TE} {k : Nat} {p1 p2 p3 pos : Pos} (he : PE X e te) (hK : X.K = K := by rfl) : PE X (.Subscript e (.Slice none none (some (.UnaryOp .USub (.Constant (.int 1) k p1) p2)) p3) pos) (tRevL K te) := by
  subst hK
  exact pe_revL he
theorem kpa_star {e : Expr} {es : List Expr} {te : TE} {t : TA} {p : Pos} (he : PE X e te) (hr : PA X es t) (hK : X.K = K := by rfl) (hs : starEach (.Starred e p :: es) X.env = (true, eval e X.env) :: starEach es X.env := by rfl) : PA X (.Starred e p :: es) (StX.tStar K te t) := by
  subst hK
  exact StX.pa_star he hr hs
theorem ksl_tupA (hK : X.K = K := by rfl) : SlR X (rSlA K) := by subst hK; exact sl_tupA
end
theorem Dp.ints {K : PySem.W.Frag} {H : Hp} : ∀ (l : List Nat), DpAll K H (l.map fun (n : Nat) => V.int (n : Int)) (l.map fun (n : Nat) => PyData.int (n : Int))
  | [] => .nil
  | n :: l => .cons (.int _) (Dp.ints l)
abbrev intsV (l : List Nat) : List V := l.map fun (n : Nat) => V.int (n : Int)
section
variable {K : PySem.W.Frag} {σ : L2.St} {H : Hp} {ta tb tc te tl : TE} {tr : TA} {tz : TS} {D : Ends} {Φ : Ty}
theorem hsix {n k : Nat} (h : k ≤ n) (d : Nat) : HT.sIx n d (some (k : Int)) = k := by
  rw [HT.sIx_nat]
  omega
theorem cut_drop {xs : List V} {k : Nat} (h : k ≤ xs.length) : cutV xs (some (k : Int)) none = xs.drop k := by
  unfold cutV
  rw [hsix h, HT.sIx_none, List.take_of_length_le]
  rw [List.length_drop]
  omega
theorem cut_take {xs : List V} {k : Nat} (h : k ≤ xs.length) : cutV xs none (some (k : Int)) = xs.take k := by
  unfold cutV
  rw [hsix h, HT.sIx_none, Nat.sub_zero, List.drop_zero]
theorem cut_mid {xs : List V} {k m : Nat} (h : k ≤ xs.length) (h2 : m ≤ xs.length) : cutV xs (some (k : Int)) (some (m : Int)) = (xs.drop k).take (m - k) := by
  unfold cutV
  rw [hsix h, hsix h2]
/-- a list whose items are known -/
def LstK (K : PySem.W.Frag) (xs : List V) : Ty := fun v H => ∃ p, v = .ref p ∧ SqL K H p xs
def TupK (K : PySem.W.Frag) (xs : List V) : Ty := fun v H => ∃ p, v = .ref p ∧ SqT K H p xs
theorem LstK.mono {xs : List V} : Mono (LstK K xs) := fun _ _ _ e ⟨p, z, h⟩ => ⟨p, z, e.l h⟩
theorem TupK.mono {xs : List V} : Mono (TupK K xs) := fun _ _ _ e ⟨p, z, h⟩ => ⟨p, z, e.t h⟩
abbrev NewL (xs : List V) : Addr → Hp → Prop := fun p H => H p = some (.lst xs)
abbrev NewT (xs : List V) : Addr → Hp → Prop := fun p H => H p = some (.tup xs)
theorem newl_k {xs : List V} (h : EvN te σ H (NewL xs)) : EvG te σ H (LstK K xs) := h.g fun p _ _ _ _ _ f => ⟨p, rfl, SqL.of f⟩
theorem newt_k {xs : List V} (h : EvN te σ H (NewT xs)) : EvG te σ H (TupK K xs) := h.g fun p _ _ _ _ _ f => ⟨p, rfl, SqT.of f⟩
/-- xs[k:], xs[:k] of a list -/
theorem evn_drop {xs : List V} {k : Nat} (h : EvG tl σ H (LstK K xs)) (hk : EvG ta σ H (IntT fun i => i = (k : Int))) (hle : k ≤ xs.length) : EvN (tSl (rSlL K) tl (tPart ta) tNoPart) σ H (NewL (xs.drop k)) := fun H1 e Q q =>
  h H1 e _ fun v H2 e2 ⟨p, z, hp⟩ => hk H2 (e.trans e2) _ fun w H3 e3 ⟨i, z2, hi⟩ => ⟨i, z2, p, xs, z, e3.l hp, fun l hl => by
    have hi : i = (k : Int) := hi
    rw [hi, cut_drop hle]
    exact q l _ ((e2.trans e3).trans (Gx.new hl)) ((e2.trans e3).free hl) upd_same⟩
theorem evn_take {xs : List V} {k : Nat} (h : EvG tl σ H (LstK K xs)) (hk : EvG ta σ H (IntT fun i => i = (k : Int))) (hle : k ≤ xs.length) : EvN (tSl (rSlL K) tl tNoPart (tPart ta)) σ H (NewL (xs.take k)) := fun H1 e Q q =>
  h H1 e _ fun v H2 e2 ⟨p, z, hp⟩ => hk H2 (e.trans e2) _ fun w H3 e3 ⟨i, z2, hi⟩ => ⟨i, z2, p, xs, z, e3.l hp, fun l hl => by
    have hi : i = (k : Int) := hi
    rw [hi, cut_take hle]
    exact q l _ ((e2.trans e3).trans (Gx.new hl)) ((e2.trans e3).free hl) upd_same⟩
theorem evn_rev {xs : List V} (h : EvG tl σ H (LstK K xs)) : EvN (tRevL K tl) σ H (NewL xs.reverse) := fun H1 e Q q =>
  h H1 e _ fun v H2 e2 ⟨p, z, hp⟩ => ⟨p, xs, z, hp, fun l hl => q l _ (e2.trans (Gx.new hl)) (e2.free hl) upd_same⟩
theorem evn_tupleL {xs : List V} (h : EvG tl σ H (LstK K xs)) : EvN (tCB (rTupK K) (tCons tl tNil)) σ H (NewT xs) := fun H1 e Q q =>
  h H1 e _ fun v H2 e2 ⟨p, z, hp⟩ => ⟨p, xs, by rw [z], .inl ⟨hp, fun l hl => q l _ (e2.trans (Gx.new hl)) (e2.free hl) upd_same⟩⟩
theorem evg_len {xs : List V} (h : EvG tl σ H (fun v H => ∃ p, v = .ref p ∧ (SqL K H p xs ∨ SqT K H p xs))) : EvG (tCB (rLenK K) (tCons tl tNil)) σ H (IntT fun i => i = (xs.length : Int)) := fun H1 e Q q =>
  h H1 e _ fun v H2 e2 ⟨p, z, hp⟩ => ⟨p, xs, by rw [z], hp, q _ H2 e2 ⟨_, rfl, rfl⟩⟩
theorem evg_lenL {xs : List V} (h : EvG tl σ H (LstK K xs)) : EvG (tCB (rLenK K) (tCons tl tNil)) σ H (IntT fun i => i = (xs.length : Int)) := evg_len (h.imp fun v H _ ⟨p, z, hp⟩ => ⟨p, z, .inl hp⟩)
theorem evg_lenT {xs : List V} (h : EvG tl σ H (TupK K xs)) : EvG (tCB (rLenK K) (tCons tl tNil)) σ H (IntT fun i => i = (xs.length : Int)) := evg_len (h.imp fun v H _ ⟨p, z, hp⟩ => ⟨p, z, .inr hp⟩)
theorem evg_ixL {xs : List V} {k : Nat} {x : V} (h : EvG tl σ H (LstK K xs)) (hk : EvG ta σ H (IntT fun i => i = (k : Int))) (hx : xs[k]? = some x) : EvG (tOp (rIxL K) tl ta) σ H (Eq1 x) := fun H1 e Q q =>
  h H1 e _ fun v H2 e2 ⟨p, z, hp⟩ => hk H2 (e.trans e2) _ fun w H3 e3 ⟨i, z2, hi⟩ => ⟨p, xs, i, x, z, z2, e3.l hp, at_of hi hx, q _ H3 (e2.trans e3) rfl⟩
theorem evg_ixT {xs : List V} {k : Nat} {x : V} (h : EvG tl σ H (TupK K xs)) (hk : EvG ta σ H (IntT fun i => i = (k : Int))) (hx : xs[k]? = some x) : EvG (tOp (rIxT K) tl ta) σ H (Eq1 x) := fun H1 e Q q =>
  h H1 e _ fun v H2 e2 ⟨p, z, hp⟩ => hk H2 (e.trans e2) _ fun w H3 e3 ⟨i, z2, hi⟩ => ⟨p, xs, i, x, z, z2, e3.t hp, at_of hi hx, q _ H3 (e2.trans e3) rfl⟩
/-- a value that is known, as a tuple | a list -/
theorem eq_tup {xs : List V} {p : Addr} (h : EvG te σ H (Eq1 (.ref p))) (hp : SqT K H p xs) : EvG te σ H (TupK K xs) := h.imp fun v H2 e z => ⟨p, z, e.t hp⟩
theorem eq_lst {xs : List V} {p : Addr} (h : EvG te σ H (Eq1 (.ref p))) (hp : SqL K H p xs) : EvG te σ H (LstK K xs) := h.imp fun v H2 e z => ⟨p, z, e.l hp⟩
theorem evg_add1 {a b : Int} (ha : EvG ta σ H (IntT fun i => i = a)) (hb : EvG tb σ H (IntT fun i => i = b)) : EvG (tOp (rI0 fun i j => .int (i + j)) ta tb) σ H (IntT fun i => i = a + b) :=
  evg_I0 ha hb fun i j h1 h2 _ _ => ⟨_, rfl, by rw [h1, h2]⟩
theorem evg_sub1 {a b : Int} (ha : EvG ta σ H (IntT fun i => i = a)) (hb : EvG tb σ H (IntT fun i => i = b)) : EvG (tOp (rI0 fun i j => .int (i - j)) ta tb) σ H (IntT fun i => i = a - b) :=
  evg_I0 ha hb fun i j h1 h2 _ _ => ⟨_, rfl, by rw [h1, h2]⟩
theorem evg_neg1 {a : Int} (ha : EvG ta σ H (IntT fun i => i = a)) : EvG (tUn (rU fun i => .int (-i)) ta) σ H (IntT fun i => i = -a) :=
  evg_U ha fun i h1 _ _ => ⟨_, rfl, by rw [h1]⟩
theorem evg_cmp1 {f : Int → Int → Bool} {a b : Int} (ha : EvG ta σ H (IntT fun i => i = a)) (hb : EvG tb σ H (IntT fun i => i = b)) : EvG (tOp (rI0 fun i j => .bl (f i j)) ta tb) σ H (BlE (f a b)) :=
  evg_I0 ha hb fun i j h1 h2 _ _ => ⟨_, rfl, by rw [h1, h2]⟩
theorem int_e {i : Int} (h : EvG te σ H (Eq1 (.int i))) : EvG te σ H (IntT fun j => j = i) := h.imp fun _ _ _ z => ⟨i, z, rfl⟩
theorem e_int {i : Int} (h : EvG te σ H (IntT fun j => j = i)) : EvG te σ H (Eq1 (.int i)) := h.imp fun _ _ _ ⟨j, z, hj⟩ => by
  have hj : j = i := hj
  show _ = _
  rw [z, hj]
/-- xs[k] = v, a list of one's own -/
theorem g_put {l : Addr} {xs : List V} {k : Nat} {v : V} (h : EvG te σ H (Eq1 v)) (ho : EvG ta σ H (Eq1 (.ref l))) (hi : EvG tb σ H (IntT fun i => i = (k : Int))) (hl : H l = some (.lst xs)) (hk : k < xs.length)
    (z : ∀ H1, Gx H H1 → tz D σ (upd H1 l (.lst (xs.set k v)))) : tSeq (tAsg te (gSub ta tb rSetL)) tz D σ H :=
  h H (Gx.refl H) _ fun v1 H1 e1 z1 => ho H1 e1 _ fun v2 H2 e2 z2 => hi H2 (e1.trans e2) _ fun v3 H3 e3 ⟨i, z3, hi⟩ => by
    have z1 : v1 = v := z1
    have z2 : v2 = .ref l := z2
    have hi : i = (k : Int) := hi
    subst z1
    subst z2
    subst z3
    subst hi
    exact ⟨l, xs, _, k, rfl, rfl, ((e1.trans e2).trans e3) _ _ hl, Evl.ixN_nat hk, z H3 ((e1.trans e2).trans e3)⟩
end

section
variable {K : PySem.W.Frag} {σ : L2.St} {H : Hp} {ta tb tc te tl : TE} {tr : TA} {tz tu : TS} {D : Ends} {Φ : Ty} {tt : TT} {j : Nat}
/-- for x in range(n - 1, -1, -1) -/
theorem g_forD {n : Nat} (h : EvGs tr σ H (fun vs _ => vs = [.int ((n : Int) - 1), .int (-1), .int (-1)])) (hn : n ≤ 100000) (Pv : Nat → L2.St → Hp → Prop) (h0 : ∀ H1, Gx H H1 → Pv 0 σ H1)
    (hs : ∀ (i : Nat) σ' H', i < n → Pv i σ' H' → tu { D with nx := Pv (i + 1), ct := Pv (i + 1), bk := fun σ H => tz D σ H } (σ'.set j (some (.int ((n - 1 - i : Nat) : Int)))) H')
    (hd : ∀ σ' H', Pv n σ' H' → tz D σ' H') : tSeq (tFor (iRng3 tr) (gName j) tu) tz D σ H := h H (Gx.refl H) _ fun vs H1 e hv => by
  have hr : RgC ((n : Int) - 1) (-1) (-1) (((n : Int) - 1) - (-1)).toNat := RgC.neg (by omega) (by omega) (by omega) (by omega)
  have hn' : (((n : Int) - 1) - (-1)).toNat = n := by omega
  rw [hn'] at hr
  refine ⟨_, _, _, n, hv, hr, for_it walk_rangeC (D := { D with nx := tz D }) Pv (h0 H1 e) (fun _ _ _ _ _ => trivial) (fun i x σ' H2 H3 hi p y => ?_) hd⟩
  obtain ⟨rfl, rfl⟩ := y
  have := hs i σ' H3 hi p
  rw [show ((n - 1 - i : Nat) : Int) = (n : Int) - 1 + (i : Nat) * -1 by omega] at this
  exact this
theorem g_putN {l : Addr} {xs : List V} {k : Nat} {Φ : Addr → Hp → Prop} (h : EvN te σ H Φ) (ho : ∀ σ' : L2.St, σ' = σ → EvG ta σ H (Eq1 (.ref l))) (hi : EvG tb σ H (IntT fun i => i = (k : Int))) (hl : H l = some (.lst xs)) (hk : k < xs.length)
    (z : ∀ p H1 H2, Gx H H1 → H p = none → Φ p H1 → Gx H1 H2 → tz D σ (upd H2 l (.lst (xs.set k (.ref p))))) : tSeq (tAsg te (gSub ta tb rSetL)) tz D σ H :=
  h H (Gx.refl H) _ fun p H1 e1 n1 f => ho σ rfl H1 e1 _ fun v2 H2 e2 z2 => hi H2 (e1.trans e2) _ fun v3 H3 e3 ⟨i, z3, hi⟩ => by
    have z2 : v2 = .ref l := z2
    have hi : i = (k : Int) := hi
    subst z2
    subst z3
    subst hi
    exact ⟨l, xs, _, k, rfl, rfl, ((e1.trans e2).trans e3) _ _ hl, Evl.ixN_nat hk, z p H1 H3 e1 n1 f (e2.trans e3)⟩
theorem g_asg1 {i : Nat} (h : EvG te σ H Φ) (k : ∀ v H1, Gx H H1 → Φ v H1 → D.nx (σ.set i (some v)) H1) : tAsg te (gName i) D σ H := h H (Gx.refl H) _ fun v H1 e f => k v H1 e f
theorem g_asgN1 {i : Nat} {Φ : Addr → Hp → Prop} (h : EvN te σ H Φ) (k : ∀ p H1, Gx H H1 → H p = none → Φ p H1 → D.nx (σ.set i (some (.ref p))) H1) : tAsg te (gName i) D σ H := h H (Gx.refl H) _ fun v H1 e n f => k v H1 e n f
theorem evgs_star {xs : List V} {Ψ : List V → Hp → Prop} (h : EvG te σ H (LstK K xs)) (hr : ∀ H1, Gx H H1 → EvGs tr σ H1 (fun ys H2 => Ψ (xs ++ ys) H2)) : EvGs (StX.tStar K te tr) σ H Ψ := fun H1 e Q q =>
  h H1 e _ fun v H2 e2 ⟨p, z, hp⟩ => ⟨p, xs, z, .inr hp, hr H2 (e.trans e2) H2 (Gx.refl _) _ fun ys H3 e3 f => q _ H3 (e2.trans e3) f⟩
theorem evgs_starT {xs : List V} {Ψ : List V → Hp → Prop} (h : EvG te σ H (TupK K xs)) (hr : ∀ H1, Gx H H1 → EvGs tr σ H1 (fun ys H2 => Ψ (xs ++ ys) H2)) : EvGs (StX.tStar K te tr) σ H Ψ := fun H1 e Q q =>
  h H1 e _ fun v H2 e2 ⟨p, z, hp⟩ => ⟨p, xs, z, .inl hp, hr H2 (e.trans e2) H2 (Gx.refl _) _ fun ys H3 e3 f => q _ H3 (e2.trans e3) f⟩
/-- arguments that are known -/
theorem evgs_e1 {x : V} (h : EvG te σ H (Eq1 x)) : EvGs (tCons te tNil) σ H (fun vs _ => vs = [x]) := evgs_cons h fun v H1 _ z => evgs_nil fun _ _ => by
  have z : v = x := z
  show [v] = [x]
  rw [z]
theorem evgs_ec {x : V} {xs : List V} (h : EvG te σ H (Eq1 x)) (k : EvGs tr σ H (fun vs _ => vs = xs)) : EvGs (tCons te tr) σ H (fun vs _ => vs = x :: xs) := evgs_cons h fun v H1 e z => fun H2 e2 Q q => k H2 (e.trans e2) Q fun vs H3 e3 w => q vs H3 e3 (by
  have z : v = x := z
  have w : vs = xs := w
  show v :: vs = x :: xs
  rw [z, w])
theorem evgs_en : EvGs tNil σ H (fun vs _ => vs = []) := evgs_nil fun _ _ => rfl
theorem evg_ifE {b : Bool} (h : EvB tt σ H (fun c => c = b)) (h1 : b = true → ∀ H1, Gx H H1 → EvG ta σ H1 Φ) (h2 : b = false → ∀ H1, Gx H H1 → EvG tb σ H1 Φ) : EvG (tIf tt ta tb) σ H Φ := fun H1 e Q q =>
  h H1 e _ fun c H2 e2 hc => by
    subst hc
    cases c with
    | true => exact iteT (h1 rfl H2 (e.trans e2) H2 (Gx.refl _) Q fun v H3 e3 f => q v H3 (e2.trans e3) f)
    | false => exact iteF (h2 rfl H2 (e.trans e2) H2 (Gx.refl _) Q fun v H3 e3 f => q v H3 (e2.trans e3) f)
end
theorem Kx.rdT {H H' : Hp} {a : Addr} {xs : List V} (e : Kx H H') (h : Rd H a (.tup xs)) : Rd H' a (.tup xs) := by
  rcases h with h | ⟨o, h⟩
  · exact .inl (e.tup h)
  · exact .inr ⟨o, e.keep h fun _ z => by cases z⟩
theorem Kx.t {K : PySem.W.Frag} {H H' : Hp} {a : Addr} {xs : List V} (e : Kx H H') (h : SqT K H a xs) : SqT K H' a xs := by
  rcases h with h | h
  · exact .inl (e.rdT h)
  · exact .inr h
theorem intsV_eqv : ∀ (l m : List Nat), PyData.eqvAll (l.map fun (n : Nat) => PyData.int (n : Int)) (m.map fun (n : Nat) => PyData.int (n : Int)) = decide (l = m)
  | [], [] => by simp [PyData.eqvAll]
  | [], b :: m => by simp [PyData.eqvAll]
  | a :: l, [] => by simp [PyData.eqvAll]
  | a :: l, b :: m => by
    show (PyData.eqv (.int a) (.int b) && PyData.eqvAll _ _) = _
    rw [intsV_eqv l m]
    show (((a : Int) == (b : Int)) && decide (l = m)) = decide (a :: l = b :: m)
    by_cases h : a = b
    · subst h
      by_cases h2 : l = m
      · subst h2
        simp
      · simp [h2]
    · have h' : ¬ ((a : Int) = (b : Int)) := by omega
      simp [h, h']
theorem ints_lay : ∀ (l : List Nat), PyData.canLayAll0 (l.map fun (n : Nat) => PyData.int (n : Int)) = true ∧ PyData.depthAll (l.map fun (n : Nat) => PyData.int (n : Int)) = 0
  | [] => ⟨by simp [PyData.canLayAll0], by simp [PyData.depthAll]⟩
  | n :: l => by
    obtain ⟨h1, h2⟩ := ints_lay l
    exact ⟨by simp [PyData.canLayAll0, PyData.canLay0, h1], by simp [PyData.depthAll, PyData.depth, h2]⟩
theorem ints_shaped (l : List Nat) : SeqAt.shaped (.list (l.map fun (n : Nat) => PyData.int (n : Int))) = true ∧ SeqAt.shaped (.tuple (l.map fun (n : Nat) => PyData.int (n : Int))) = true := by
  obtain ⟨h1, h2⟩ := ints_lay l
  unfold SeqAt.shaped
  simp [PyData.canLay0, PyData.depth, h1, h2]

theorem ints_of {ys : List V} {n : Nat} {f : Nat → Nat} (hl : ys.length = n) (h : ∀ (i : Nat) (y : V), ys[i]? = some y → y = V.int ((f i : Nat) : Int)) : ys = intsV ((List.range n).map f) := by
  apply List.ext_getElem?
  intro i
  unfold intsV
  rw [List.map_map, List.getElem?_map]
  cases q : ys[i]? with
  | some y =>
    have hi : i < n := by rw [← hl]; exact (List.getElem?_eq_some_iff.mp q).1
    rw [h i y q, List.getElem?_range hi]
    rfl
  | none =>
    have : ys.length ≤ i := List.getElem?_eq_none_iff.mp q
    rw [List.getElem?_eq_none (by rw [List.length_range]; omega)]
    rfl
section
variable {K : PySem.W.Frag} {σ : L2.St} {H : Hp} {ta tb tc te tl : TE}
theorem evg_lastT {xs : List V} {x : V} (h : EvG tl σ H (TupK K xs)) (hk : EvG ta σ H (IntT fun i => i = -1)) (hx : xs.getLast? = some x) : EvG (tOp (rIxT K) tl ta) σ H (Eq1 x) := fun H1 e Q q =>
  h H1 e _ fun v H2 e2 ⟨p, z, hp⟩ => hk H2 (e.trans e2) _ fun w H3 e3 ⟨i, z2, hi⟩ => ⟨p, xs, i, x, z, z2, e3.t hp, by
    have hi : i = -1 := hi
    have hne : xs ≠ [] := fun z => by rw [z] at hx; cases hx
    rw [hi]
    unfold atI ixN
    have hl : 0 < xs.length := List.length_pos_iff.mpr hne
    rw [if_neg (by omega), if_pos (by omega)]
    show xs[(-1 + (xs.length : Int)).toNat]? = some x
    rw [show (-1 + (xs.length : Int)).toNat = xs.length - 1 by omega, ← List.getLast?_eq_getElem?]
    exact hx, q _ H3 (e2.trans e3) rfl⟩
end

theorem g_put1 {σ : L2.St} {H : Hp} {ta tb te : TE} {D : Ends} {l : Addr} {xs : List V} {k : Nat} {v : V} (h : EvG te σ H (Eq1 v)) (ho : EvG ta σ H (Eq1 (.ref l))) (hi : EvG tb σ H (IntT fun i => i = (k : Int))) (hl : H l = some (.lst xs)) (hk : k < xs.length)
    (z : ∀ H1, Gx H H1 → D.nx σ (upd H1 l (.lst (xs.set k v)))) : tAsg te (gSub ta tb rSetL) D σ H := g_put (tz := tNext) h ho hi hl hk z

/-! ### dicts: comprehensions, locks, pairs -/
theorem kpg_tup {X : Cx} {K : PySem.W.Frag} {es : List Expr} {k : Nat} {t : TGs} {n : Nat} {pos : Pos} (hc : X.calm = true) (h : PGs X es t) (hK : X.K = K := by rfl)
    (hn : (assignEach es X.env).length = n := by rfl) (hst : (assignEach es X.env).findIdx? (·.1) = none := by rfl) : PG X (.Tuple es k pos) (gTup K n t) := by
  subst hK
  exact pg_tup hc h hn hst
theorem kcr_sortedS {X : Cx} {K : PySem.W.Frag} (hK : X.K = K := by rfl) : CallR X (.builtin "sorted") (rSortedS K) := by subst hK; exact cr_sortedS
/-- the dict that a comprehension makes -/
def dcL (B : Nat → Bool) (k : Nat → Key) (v : Nat → V) : Nat → List (Key × V)
  | 0 => []
  | n + 1 => if B n = true then putK (dcL B k v n) (k n) (v n) else dcL B k v n
theorem putK_len {κ : Type} [DecidableEq κ] (kvs : List (κ × V)) (k : κ) (v : V) : (putK kvs k v).length ≤ kvs.length + 1 := by
  unfold putK
  split
  · rw [List.length_map]
    omega
  · rw [List.length_append]
    exact Nat.le_refl _
theorem dcL_len (B : Nat → Bool) (k : Nat → Key) (v : Nat → V) : ∀ n, (dcL B k v n).length ≤ n
  | 0 => Nat.le_refl _
  | n + 1 => by
    have h := dcL_len B k v n
    show (if B n = true then putK (dcL B k v n) (k n) (v n) else dcL B k v n).length ≤ n + 1
    split
    · have := putK_len (dcL B k v n) (k n) (v n)
      omega
    · omega
section
variable {K : PySem.W.Frag} {σ : L2.St} {H : Hp} {te td tk tv : TE} {wi : TI} {g : TG} {tt : TT} {vs : List Nat} {n : Nat} {d : Addr}
theorem evn_dc {Y : Nat → Ty} {S : Nat → L2.St → Hp → Prop} {B : Nat → Bool} {k : Nat → Key} {v : Nat → V} (hw : EvW wi σ H n Y) (hn : n ≤ 100000)
    (hg : ∀ i x H1, i < n → Gx H H1 → Y i x H1 → ∀ Q : L2.St → Hp → Prop, (∀ σ2, wipe σ2 vs = wipe σ vs → S i σ2 H1 → Q σ2 H1) → g x (wipe σ vs) H1 Q)
    (ht : ∀ i σ2 H1, i < n → Gx H H1 → S i σ2 H1 → EvB tt σ2 H1 (fun c => c = B i)) (ms : ∀ i σ2 H1 H2, Gx H1 H2 → S i σ2 H1 → S i σ2 H2)
    (hk : ∀ i σ2 H1, i < n → Gx H H1 → S i σ2 H1 → B i = true → EvG tk σ2 H1 (Eq1 (kV (k i)))) (hv : ∀ i σ2 H1, i < n → Gx H H1 → S i σ2 H1 → B i = true → EvG tv σ2 H1 (Eq1 (v i))) :
    EvN (tDc wi g tt tk tv vs) σ H (fun p H' => H' p = some (.dK (dcL B k v n))) := by
  intro H1 e Q q
  refine hw H1 e _ fun J H2 G Y' e2 W hG hY => ?_
  intro D hD
  refine ⟨fun i m H' => m = n - i ∧ i ≤ n ∧ Gx H2 H' ∧ H' D = some (.dK (dcL B k v i)), ⟨n, by omega, by omega, Gx.new hD, upd_same⟩, ?_⟩
  rintro i m H3 ⟨rfl, hi, e3, hys⟩
  by_cases hlt : i < n
  · refine .inr ⟨W.goes i H3 hlt (hG H3 e3), fun H' => Gx H2 H' ∧ H' D = some (.dK (dcL B k v (i + 1))), fun H' p' => ⟨n - (i + 1), by omega, rfl, hlt, p'.1, p'.2⟩, fun x H4 y => ?_⟩
    obtain ⟨e4, y⟩ := hY i H3 x H4 hlt e3 (W.yields i H3 x H4 hlt (hG H3 e3) y)
    have e5 := ((e.trans e2).trans e3).trans e4
    refine hg i x H4 hlt e5 y _ fun σ2 w s2 => ⟨w, ht i σ2 H4 hlt e5 s2 H4 (Gx.refl _) _ fun b H5 e6 hb => ?_⟩
    subst hb
    cases hB : B i with
    | true =>
      refine iteT (hk i σ2 H5 hlt (e5.trans e6) (ms i σ2 H4 H5 e6 s2) hB H5 (Gx.refl _) _ fun y1 H6 e7 z1 => hv i σ2 H6 hlt ((e5.trans e6).trans e7) (ms i σ2 H4 H6 (e6.trans e7) s2) hB H6 (Gx.refl _) _ fun y2 H7 e8 z2 => ?_)
      have z1 : y1 = kV (k i) := z1
      have z2 : y2 = v i := z2
      have e9 := ((e4.trans e6).trans e7).trans e8
      refine ⟨dcL B k v i, k i, z1, e9 _ _ hys, Evl.sz_lt (by have := dcL_len B k v i; omega), (e3.trans e9).mut hD, ?_⟩
      rw [upd_same, z2]
      show some (HO.dK _) = some (HO.dK (if B i = true then _ else _))
      rw [if_pos hB]
    | false =>
      have e9 := e4.trans e6
      refine iteF ⟨e3.trans e9, ?_⟩
      show _ = some (HO.dK (if B i = true then _ else _))
      rw [if_neg (by rw [hB]; decide)]
      exact e9 _ _ hys
  · have : i = n := by omega
    subst this
    exact .inl ⟨W.stops H3 (hG H3 e3), q D H3 (e2.trans e3) (e2.free hD) hys⟩
/-- a dict that is walked stands under a lock -/
theorem evn_lock {kvs : List (Key × V)} {Φ : Addr → Hp → Prop} (hd : H d = some (.dK kvs)) (h : ∀ od, EvN te σ (upd H d (.frz od (.dK kvs))) Φ) (m : ∀ p H2, Φ p H2 → p ≠ d → Φ p (upd H2 d (.dK kvs))) : EvN (tLockE te) σ H Φ := fun H1 e Q q =>
  ⟨d, .dK kvs, e _ _ hd, trivial, fun od => h od _ (fun a o ha => by
      by_cases z : a = d
      · subst z
        rw [upd_same] at ha ⊢
        exact ha
      · rw [upd_ne z] at ha ⊢
        exact e _ _ ha) _ fun p H2 e2 np f => by
    have hpd : p ≠ d := fun z => by
      subst z
      rw [upd_same] at np
      cases np
    refine ⟨e2 _ _ upd_same, q p _ (fun a o ha => ?_) (by rw [upd_ne hpd] at np; exact np) (m p H2 f hpd)⟩
    by_cases z : a = d
    · subst z
      rw [e _ _ hd] at ha
      cases ha
      exact upd_same
    · rw [upd_ne z]
      exact e2 _ _ (by rw [upd_ne z]; exact ha)⟩
theorem evw_items {kvs : List (Key × V)} {o : Obj} (h : EvG td σ H (Eq1 (.ref d))) (hd : H d = some (.frz o (.dK kvs))) : EvW (iItems td) σ H kvs.length (fun i x H => ∃ T k v, x = .ref T ∧ H T = some (.tup [kV k, v]) ∧ kvs[i]? = some (k, v)) := fun H1 e R q =>
  h H1 e _ fun v H2 e2 hv => ⟨d, o, kvs, hv, (e.trans e2) _ _ hd, q _ H2 _ _ e2 walk_items (fun H3 e3 => ((e.trans e2).trans e3) _ _ hd) fun i H3 x H4 hi _ ⟨T, x1, y1, hx, hT, h4, h5, h6⟩ => by
    subst h4
    have hk : kvs[i]? = some kvs[i] := List.getElem?_eq_getElem hi
    have h5 : kvs[i]?.map (fun kv => kV kv.1) = some x1 := h5
    have h6 : kvs[i]?.map Prod.snd = some y1 := h6
    rw [hk] at h5 h6
    cases h5
    cases h6
    exact ⟨Gx.new hT, T, (kvs[i]).1, (kvs[i]).2, hx, upd_same, hk⟩⟩
/-- a target of two names -/
theorem tg_pair {a b : Nat} {x : V} {T : Addr} {x1 x2 : V} {H1 : Hp} (hx : x = .ref T) (hT : SqT K H1 T [x1, x2]) {σ0 : L2.St} {Q : L2.St → Hp → Prop} (q : Q ((σ0.set a (some x1)).set b (some x2)) H1) : gTup K 2 (gCons (gName a) (gCons (gName b) gNil)) x σ0 H1 Q :=
  ⟨T, [x1, x2], hx, hT, rfl, x1, [x2], rfl, x2, [], rfl, rfl, q⟩
end

theorem range_getD {α : Type} (l : List α) (d : α) : (List.range l.length).map (fun i => l.getD i d) = l := by
  apply List.ext_getElem?
  intro i
  rw [List.getElem?_map]
  by_cases h : i < l.length
  · rw [List.getElem?_range h, List.getElem?_eq_getElem h]
    show some (l.getD i d) = _
    rw [List.getD_eq_getElem?_getD, List.getElem?_eq_getElem h]
    rfl
  · rw [List.getElem?_eq_none (by rw [List.length_range]; omega), List.getElem?_eq_none (by omega)]
    rfl
/-- keys that differ: the pairs in order -/
theorem dcL_of {α : Type} (P : α → Bool) (k : α → Key) (v : α → V) (d : α) (l : List α) (hn : (l.map k).Nodup) : ∀ n, n ≤ l.length → dcL (fun i => P (l.getD i d)) (fun i => k (l.getD i d)) (fun i => v (l.getD i d)) n = (((l.take n).filter P).map fun x => (k x, v x))
  | 0, _ => by simp [dcL]
  | n + 1, h => by
    have ih := dcL_of P k v d l hn n (by omega)
    have hx : l[n]? = some (l.getD n d) := by
      rw [List.getD_eq_getElem?_getD, List.getElem?_eq_getElem (by omega)]
      rfl
    have ht : l.take (n + 1) = l.take n ++ [l.getD n d] := by
      rw [List.take_add_one, hx]
      rfl
    show (if P (l.getD n d) = true then putK (dcL _ _ _ n) (k (l.getD n d)) (v (l.getD n d)) else dcL _ _ _ n) = _
    rw [ih, ht, List.filter_append, List.map_append]
    by_cases hp : P (l.getD n d) = true
    · rw [if_pos hp]
      have hv : valV (((l.take n).filter P).map fun x => (k x, v x)) (k (l.getD n d)) = none := by
        unfold valV
        rw [Option.map_eq_none_iff, List.find?_eq_none]
        intro x hx' hk
        obtain ⟨y, hy, rfl⟩ := List.mem_map.mp hx'
        have hk : k y = k (l.getD n d) := of_decide_eq_true hk
        have hy2 : y ∈ l.take n := (List.mem_filter.mp hy).1
        obtain ⟨i, hi⟩ := List.getElem?_of_mem hy2
        have hin : i < n := by
          have := (List.getElem?_eq_some_iff.mp hi).1
          rw [List.length_take] at this
          omega
        rw [List.getElem?_take_of_lt hin] at hi
        have := nd_ix hn (i := i) (j := n) (x := k y) (by rw [List.getElem?_map, hi]; rfl) (by rw [List.getElem?_map, hx, hk]; rfl)
        omega
      rw [putK_new _ hv, List.filter_cons_of_pos hp]
      rfl
    · rw [if_neg hp, List.filter_cons_of_neg hp]
      simp
section
variable {K : PySem.W.Frag} {σ : L2.St} {H : Hp} {tl : TE} {tz tb : TS} {D : Ends} {g : TG}
theorem g_forT {a : Addr} {xs : List V} (h : EvG tl σ H (Eq1 (.ref a))) (hx : SqT K H a xs) (Pv : Nat → L2.St → Hp → Prop) (h0 : ∀ H1, Gx H H1 → Pv 0 σ H1) (hG : ∀ i σ' H', Pv i σ' H' → SqT K H' a xs)
    (hs : ∀ (i : Nat) x σ' H', xs[i]? = some x → Pv i σ' H' → g x σ' H' fun σ2 H2 => tb { D with nx := Pv (i + 1), ct := Pv (i + 1), bk := fun σ H => tz D σ H } σ2 H2)
    (hd : ∀ σ' H', Pv xs.length σ' H' → tz D σ' H') : tSeq (tFor (iTup K tl) g tb) tz D σ H := h H (Gx.refl H) _ fun v H1 e z =>
  ⟨a, z, ⟨xs, e.t hx⟩, for_tup (K := K) (a := a) (xs := xs) (D := { D with nx := tz D }) Pv (h0 H1 e) (fun i σ' H' _ p => hG i σ' H' p) hs hd⟩
theorem evn_dnew : EvN tDNewK σ H (fun p H' => H' p = some (.dK [])) := fun H1 _ Q q d hd => q d _ (Gx.new hd) hd upd_same
end

theorem evb_is {σ : L2.St} {H : Hp} {tt : TT} {a b : Bool} (h : EvB tt σ H (fun c => c = a)) (e : a = b) : EvB tt σ H (fun c => c = b) := by
  subst e
  exact h

theorem list_of {α : Type} {ys : List V} {l : List α} {f : α → V} (hl : ys.length = l.length) (h : ∀ (i : Nat) (y : V), ys[i]? = some y → ∃ c, l[i]? = some c ∧ y = f c) : ys = l.map f := by
  apply List.ext_getElem?
  intro i
  rw [List.getElem?_map]
  cases q : ys[i]? with
  | some y =>
    obtain ⟨c, hc, rfl⟩ := h i y q
    rw [hc]
    rfl
  | none =>
    have : ys.length ≤ i := List.getElem?_eq_none_iff.mp q
    rw [List.getElem?_eq_none (by omega)]
    rfl
theorem evg_joinE {K : PySem.W.Frag} {σ : L2.St} {H : Hp} {te : TE} {a : Str} {zs : List Str} (h : EvN te σ H (NewL (zs.map V.str))) (hs : (zs.map (·.length)).sum + zs.length * a.length ≤ 16777216) : EvG (tM1 (rJoinK K) (tC (.str a)) te) σ H (Eq1 (.str (Txt.join a zs))) := fun H1 e Q q =>
  ⟨⟨a, rfl⟩, h H1 e _ fun p H2 e2 _ hp => ⟨a, p, zs, rfl, rfl, Or.inl (SqL.of hp), hs, q _ H2 e2 rfl⟩⟩
theorem evg_addsE {σ : L2.St} {H : Hp} {ta tb : TE} {x y : Str} (ha : EvG ta σ H (Eq1 (.str x))) (hb : EvG tb σ H (Eq1 (.str y))) (hl : x.length + y.length ≤ 100000) :
    EvG (tOp (fun x y H Q => ∃ i j, x = .str i ∧ y = .str j ∧ i.length + j.length ≤ sizeLine ∧ Q (.str (i ++ j)) H) ta tb) σ H (Eq1 (.str (x ++ y))) :=
  evg_adds (P := fun z => z = x) (R := fun z => z = y) (ha.imp fun _ _ _ z => ⟨x, z, rfl⟩) (hb.imp fun _ _ _ z => ⟨y, z, rfl⟩) (fun a b h1 h2 => by rw [h1, h2]; exact hl) fun a b h1 h2 _ _ => by rw [h1, h2]
theorem LcR.det {B : Nat → Bool → Prop} {R : Nat → Ty} {H : Hp} {n : Nat} {ys : List V} {f : Nat → Bool} {v : Nat → V} (h : LcR B R H n ys) (hB : ∀ i b, i < n → B i b → b = f i) (hR : ∀ i y, i < n → R i y H → y = v i) : ys = ((List.range n).filter f).map v := by
  induction h with
  | nil => rfl
  | @keep n ys y _ b r ih =>
    rw [List.range_succ, List.filter_append, List.map_append, ← ih (fun i b hi => hB i b (by omega)) fun i y hi => hR i y (by omega)]
    have h1 : f n = true := (hB n true (by omega) b).symm
    rw [List.filter_cons_of_pos h1, hR n y (by omega) r]
    rfl
  | @skip n ys _ b ih =>
    rw [List.range_succ, List.filter_append, List.map_append, ← ih (fun i b hi => hB i b (by omega)) fun i y hi => hR i y (by omega)]
    have h1 : ¬ f n = true := by rw [← hB n false (by omega) b]; decide
    rw [List.filter_cons_of_neg h1]
    simp
theorem evg_eqS {σ : L2.St} {H : Hp} {ta tb : TE} {x y : Str} (ha : EvG ta σ H (Eq1 (.str x))) (hb : EvG tb σ H (Eq1 (.str y))) : EvG (tOp rEq ta tb) σ H (BlE (decide (x = y))) := fun H1 e Q q =>
  ha H1 e _ fun v H2 e2 z => hb H2 (e.trans e2) _ fun v2 H3 e3 z2 => by
    have z : v = .str x := z
    have z2 : v2 = .str y := z2
    subst z
    subst z2
    refine ⟨rfl, q _ H3 (e2.trans e3) ⟨_, rfl, ?_⟩⟩
    by_cases h : x = y
    · subst h
      simp
    · simp [h]
end Ly

set_option Elab.async false
set_option maxRecDepth 100000
/-! Terms: what the functions on rows of nodes give, in plain Lean. -/
namespace TM
open PySem L2 Ly
abbrev Nd := Str × Nat
/-- the stack of the roots that wait for a word (the leftmost last), and the children of each place, from the right -/
def chF : List Nat → Nat → Option (List Nat × List (List Nat))
  | [], _ => some ([], [])
  | a :: as, off => match chF as (off + 1) with
    | none => none
    | some (w, f) => if w.length < a then none else some (w.take (w.length - a) ++ [off], (w.drop (w.length - a)).reverse :: f)
theorem chF_cons {a : Nat} {as : List Nat} {off : Nat} : chF (a :: as) off = match chF as (off + 1) with
    | none => none
    | some (w, f) => if w.length < a then none else some (w.take (w.length - a) ++ [off], (w.drop (w.length - a)).reverse :: f) := rfl
theorem chF_len : ∀ {as : List Nat} {off : Nat} {w : List Nat} {f : List (List Nat)}, chF as off = some (w, f) → f.length = as.length ∧ w.length ≤ as.length
  | [], _, _, _, h => by
    cases h
    exact ⟨rfl, Nat.le_refl _⟩
  | a :: as, off, w, f, h => by
    rw [chF_cons] at h
    cases q : chF as (off + 1) with
    | none => rw [q] at h; cases h
    | some p =>
      obtain ⟨w', f'⟩ := p
      rw [q] at h
      simp only at h
      split at h
      · cases h
      · cases h
        obtain ⟨h1, h2⟩ := chF_len q
        refine ⟨by rw [List.length_cons, List.length_cons, h1], ?_⟩
        rw [List.length_append, List.length_take]
        show min _ _ + 1 ≤ as.length + 1
        omega
/-- the children of all places, or none -/
def chOf (nds : List Nd) : Option (List (List Nat)) := match chF (nds.map (·.2)) 0 with
  | some (w, f) => if w = [0] then some f else none
  | none => none
/-- the places behind the parts -/
def enF : List (List Nat) → Nat → List Nat
  | [], _ => []
  | c :: cs, off => (match c.getLast? with
    | none => off + 1
    | some k => (enF cs (off + 1)).getD (k - (off + 1)) 0) :: enF cs (off + 1)
theorem enF_len : ∀ (cs : List (List Nat)) (off : Nat), (enF cs off).length = cs.length
  | [], _ => rfl
  | c :: cs, off => by
    show (enF cs (off + 1)).length + 1 = cs.length + 1
    rw [enF_len cs]
/-- words and arities in the order of their first places, or none if a word has two -/
def arF : List Nd → List Nd → Option (List Nd)
  | [], acc => some acc
  | (w, a) :: r, acc => match acc.lookup w with
    | none => arF r (acc ++ [(w, a)])
    | some b => if b = a then arF r acc else none
def plc (nds : List Nd) (w : Str) : List Nat := (List.range nds.length).filter fun i => (nds[i]?.map (·.1)) == some w
/-! ### data -/
def ndD (n : Nd) : PyData := .tuple [.str n.1, .int n.2]
def nodesD (nds : List Nd) : PyData := .tuple (nds.map ndD)
def intsD (l : List Nat) : PyData := .tuple (l.map fun (n : Nat) => PyData.int (n : Int))
def chD (cs : List (List Nat)) : List PyData := cs.map intsD

/-! ### rows of nodes in the heap -/
/-- a node -/
def NodeV (K : PySem.W.Frag) (n : Nd) : Ty := fun v H => ∃ p, v = .ref p ∧ SqT K H p [.str n.1, .int n.2]
/-- a tuple of nodes -/
def Nodes (K : PySem.W.Frag) (H : Hp) (nds : List Nd) (xs : List V) : Prop := xs.length = nds.length ∧ ∀ (i : Nat) (n : Nd), nds[i]? = some n → ∃ x, xs[i]? = some x ∧ NodeV K n x H
structure NodesAt (K : PySem.W.Frag) (H : Hp) (a : Addr) (nds : List Nd) : Prop where
  ex : ∃ xs, SqT K H a xs ∧ Nodes K H nds xs
theorem NodesAt.tup_of {K : PySem.W.Frag} {H : Hp} {a : Addr} {nds : List Nd} (h : NodesAt K H a nds) : ∃ xs, SqT K H a xs ∧ Nodes K H nds xs := h.ex
theorem NodeV.gx {K : PySem.W.Frag} {H H' : Hp} {n : Nd} {v : V} (e : Gx H H') (h : NodeV K n v H) : NodeV K n v H' := by
  obtain ⟨p, z, q⟩ := h
  exact ⟨p, z, e.t q⟩
theorem Nodes.gx {K : PySem.W.Frag} {H H' : Hp} {nds : List Nd} {xs : List V} (e : Gx H H') (h : Nodes K H nds xs) : Nodes K H' nds xs := ⟨h.1, fun i n q => by
  obtain ⟨x, h1, h2⟩ := h.2 i n q
  exact ⟨x, h1, h2.gx e⟩⟩
/-- a tuple of indices -/
def IntsT (K : PySem.W.Frag) (l : List Nat) : Ty := fun v H => ∃ p, v = .ref p ∧ SqT K H p (intsV l)
/-- the children of all places: a list of tuples -/
def ChL (K : PySem.W.Frag) (H : Hp) (cs : List (List Nat)) (ys : List V) : Prop := ys.length = cs.length ∧ ∀ (i : Nat) (c : List Nat), cs[i]? = some c → ∃ y, ys[i]? = some y ∧ IntsT K c y H
def spChildren (K : PySem.W.Frag) : Sp := fun vs H Q _ => ∃ (n : Addr) (nds : List Nd), vs = [.ref n] ∧ NodesAt K H n nds ∧ nds.length ≤ 1000 ∧
  (chOf nds = none → ∀ H', Gx H H' → Q .non H') ∧ ∀ cs, chOf nds = some cs → ∀ p ys H', Gx H H' → H p = none → H' p = some (.lst ys) → ChL K H' cs ys → Q (.ref p) H'
theorem IntsT.firm {K : PySem.W.Frag} {l : List Nat} : Firm (IntsT K l) := fun _ _ _ e ⟨p, z, h⟩ => ⟨p, z, e.t h⟩
theorem chF_none {k : Nat} : ∀ {as : List Nat} {off : Nat}, chF (as.drop k) (off + k) = none → chF as off = none := by
  induction k with
  | zero => exact fun h => h
  | succ k ih =>
    intro as off h
    cases as with
    | nil => cases h
    | cons a as =>
      have h1 : chF as (off + 1) = none := ih (by
        rw [show off + 1 + k = off + (k + 1) by omega]
        exact h)
      rw [chF_cons, h1]

/-- children stand behind their node, within the row -/
def ChOk (cs : List (List Nat)) : Prop := ∀ (i : Nat) (c : List Nat), cs[i]? = some c → ∀ k ∈ c, i < k ∧ k < cs.length
/-- the children of all places: a tuple of tuples -/
def ChT (K : PySem.W.Frag) (H : Hp) (a : Addr) (cs : List (List Nat)) : Prop := ∃ ys, SqT K H a ys ∧ ChL K H cs ys
theorem ChL.firm {K : PySem.W.Frag} {H H' : Hp} {cs : List (List Nat)} {ys : List V} (e : Kx H H') (h : ChL K H cs ys) : ChL K H' cs ys := ⟨h.1, fun i c q => by
  obtain ⟨y, h1, h2⟩ := h.2 i c q
  exact ⟨y, h1, IntsT.firm _ _ _ e h2⟩⟩
theorem ChT.firm {K : PySem.W.Frag} {H H' : Hp} {a : Addr} {cs : List (List Nat)} (e : Kx H H') (h : ChT K H a cs) : ChT K H' a cs := by
  obtain ⟨ys, h1, h2⟩ := h
  exact ⟨ys, e.t h1, h2.firm e⟩
def spEnds (K : PySem.W.Frag) : Sp := fun vs H Q _ => ∃ (a : Addr) (cs : List (List Nat)), vs = [.ref a] ∧ ChT K H a cs ∧ ChOk cs ∧ cs.length ≤ 1000 ∧ ∀ p H', Gx H H' → H p = none → H' p = some (.lst (intsV (enF cs 0))) → Q (.ref p) H'
/-- the list of ends while it is made: from place m on it is ready -/
def enL (cs : List (List Nat)) (m : Nat) : List Nat := ((List.range m).map (· + 1)) ++ enF (cs.drop m) m
theorem enL_len {cs : List (List Nat)} {m : Nat} (h : m ≤ cs.length) : (enL cs m).length = cs.length := by
  unfold enL
  rw [List.length_append, List.length_map, List.length_range, enF_len, List.length_drop]
  omega
theorem enL_nil {cs : List (List Nat)} {m : Nat} (h : cs[m]? = some []) : enL cs (m + 1) = enL cs m := by
  have hm : m < cs.length := (List.getElem?_eq_some_iff.mp h).1
  have hd : cs.drop m = [] :: cs.drop (m + 1) := by
    rw [List.drop_eq_getElem_cons hm]
    congr 1
    exact (List.getElem?_eq_some_iff.mp h).2
  unfold enL
  rw [hd, List.range_succ, List.map_append, List.append_assoc]
  rfl
theorem enL_set {cs : List (List Nat)} {m k : Nat} {c : List Nat} (h : cs[m]? = some c) (hk : c.getLast? = some k) (hmk : m < k) : (enL cs (m + 1)).set m ((enL cs (m + 1)).getD k 0) = enL cs m := by
  have hm : m < cs.length := (List.getElem?_eq_some_iff.mp h).1
  have hd : cs.drop m = c :: cs.drop (m + 1) := by
    rw [List.drop_eq_getElem_cons hm]
    congr 1
    exact (List.getElem?_eq_some_iff.mp h).2
  unfold enL
  rw [hd, List.range_succ, List.map_append, List.append_assoc]
  have hl : ((List.range m).map (· + 1)).length = m := by rw [List.length_map, List.length_range]
  rw [List.set_append_right _ _ (by omega), hl, Nat.sub_self]
  congr 1
  show (_ :: _ : List Nat) = _
  show _ = (match c.getLast? with
    | none => m + 1
    | some k => (enF (cs.drop (m + 1)) (m + 1)).getD (k - (m + 1)) 0) :: enF (cs.drop (m + 1)) (m + 1)
  rw [hk]
  congr 1
  show (((List.range m).map (· + 1)) ++ ([m + 1] ++ enF (cs.drop (m + 1)) (m + 1))).getD k 0 = (enF (cs.drop (m + 1)) (m + 1)).getD (k - (m + 1)) 0
  rw [List.getD_eq_getElem?_getD, List.getD_eq_getElem?_getD, List.getElem?_append_right (by omega), hl, List.getElem?_append_right (by show 1 ≤ _; omega)]
  show (enF (cs.drop (m + 1)) (m + 1))[k - m - 1]?.getD 0 = _
  rw [show k - m - 1 = k - (m + 1) by omega]

/-! ### words and their arities -/
def kvD (l : List Nd) : List (Key × V) := l.map fun n => ((Sum.inr n.1 : Key), V.int (n.2 : Int))
theorem kvD_val : ∀ (l : List Nd) (w : Str), valV (kvD l) (Sum.inr w) = (l.lookup w).map fun (n : Nat) => V.int (n : Int)
  | [], w => rfl
  | (x, a) :: l, w => by
    show valV ((Sum.inr x, V.int a) :: kvD l) (Sum.inr w) = _
    by_cases h : x = w
    · subst h
      rw [valV_pos rfl]
      simp [List.lookup]
    · rw [valV_neg (fun z => h (by injection z)), kvD_val l w]
      have : (w == x) = false := beq_eq_false_iff_ne.mpr fun z => h z.symm
      simp [List.lookup, this]
theorem kvD_app (l m : List Nd) : kvD (l ++ m) = kvD l ++ kvD m := List.map_append
theorem kvD_new {l : List Nd} {w : Str} {a : Nat} (h : l.lookup w = none) : putK (kvD l) (Sum.inr w) (V.int a) = kvD (l ++ [(w, a)]) := by
  rw [putK_new _ (by rw [kvD_val, h]; rfl), kvD_app]
  rfl
theorem kvD_same {l : List Nd} {w : Str} {a : Nat} (hn : (l.map (·.1)).Nodup) (h : l.lookup w = some a) : putK (kvD l) (Sum.inr w) (V.int a) = kvD l := by
  have hv : valV (kvD l) (Sum.inr w) = some (V.int a) := by rw [kvD_val, h]; rfl
  unfold putK
  rw [valV_any, hv, if_pos (show (some (V.int (a : Int))).isSome = true from rfl)]
  unfold kvD
  rw [List.map_map]
  apply List.map_congr_left
  rintro ⟨x, b⟩ hx
  show (if (Sum.inr x : Key) = Sum.inr w then ((Sum.inr x : Key), V.int a) else _) = _
  by_cases q : x = w
  · subst q
    rw [if_pos rfl]
    have hb : b = a := by
      clear hv
      induction l with
      | nil => cases hx
      | cons y l ih =>
        obtain ⟨z, c⟩ := y
        rw [List.map_cons, List.nodup_cons] at hn
        rcases List.mem_cons.mp hx with e | e
        · cases e
          simp [List.lookup] at h
          exact h
        · have hne : ¬ z = x := fun q => hn.1 (by
            show z ∈ _
            rw [q]
            exact List.mem_map.mpr ⟨(x, b), e, rfl⟩)
          have : (x == z) = false := beq_eq_false_iff_ne.mpr fun q => hne q.symm
          simp [List.lookup, this] at h
          exact ih hn.2 e h
    rw [hb]
  · rw [if_neg (fun z => q (by injection z))]
theorem lookup_mem : ∀ {l : List Nd} {w : Str} {a : Nat}, l.lookup w = some a → (w, a) ∈ l
  | [], _, _, h => by cases h
  | (x, b) :: l, w, a, h => by
    by_cases q : w = x
    · subst q
      simp [List.lookup] at h
      subst h
      exact List.mem_cons_self ..
    · have : (w == x) = false := beq_eq_false_iff_ne.mpr q
      simp [List.lookup, this] at h
      exact List.mem_cons_of_mem _ (lookup_mem h)
theorem lookup_of_mem : ∀ {l : List Nd} {w : Str} {a : Nat}, (l.map (·.1)).Nodup → (w, a) ∈ l → l.lookup w = some a
  | [], _, _, _, h => by cases h
  | (x, b) :: l, w, a, hn, h => by
    rw [List.map_cons, List.nodup_cons] at hn
    rcases List.mem_cons.mp h with e | e
    · cases e
      simp [List.lookup]
    · have hne : ¬ w = x := fun q => hn.1 (by
        show x ∈ _
        rw [← q]
        exact List.mem_map.mpr ⟨(w, a), e, rfl⟩)
      have : (w == x) = false := beq_eq_false_iff_ne.mpr hne
      simp [List.lookup, this]
      exact lookup_of_mem hn.2 e
/-- a dict of words, ascending -/
def Asc (l l' : List Nd) : Prop := l'.Perm l ∧ PyProof.Rows.sortedS (l'.map (·.1)) = true
def spAsc : Sp := fun vs H Q _ => ∃ (d : Addr) (l : List Nd), vs = [.ref d] ∧ H d = some (.dK (kvD l)) ∧ l.length < 64 ∧ (l.map (·.1)).Nodup ∧ ∀ p l' H', Gx H H' → H p = none → Asc l l' → H' p = some (.dK (kvD l')) → Q (.ref p) H'
def isLeaf (w : Str) : Bool := decide (w = "_" ∨ w = "#")
def spArities (K : PySem.W.Frag) : Sp := fun vs H Q _ => ∃ (n : Addr) (nds : List Nd), vs = [.ref n] ∧ NodesAt K H n nds ∧ nds.length < 64 ∧ (arF nds [] = none → ∀ H', Gx H H' → Q .non H') ∧
  ∀ l, arF nds [] = some l → ∀ p l' H', Gx H H' → H p = none → Asc (l.filter fun n => !isLeaf n.1) l' → H' p = some (.dK (kvD l')) → Q (.ref p) H'
theorem arF_nodup : ∀ {nds acc l : List Nd}, (acc.map (·.1)).Nodup → arF nds acc = some l → (l.map (·.1)).Nodup ∧ l.length ≤ acc.length + nds.length
  | [], acc, l, hn, h => by
    cases h
    exact ⟨hn, by simp⟩
  | (w, a) :: r, acc, l, hn, h => by
    have h : (match acc.lookup w with
      | none => arF r (acc ++ [(w, a)])
      | some b => if b = a then arF r acc else none) = some l := h
    cases q : acc.lookup w with
    | none =>
      rw [q] at h
      have hw : w ∉ acc.map (·.1) := fun hm => by
        obtain ⟨⟨x, b⟩, hx, rfl⟩ := List.mem_map.mp hm
        have := List.lookup_eq_none_iff.mp q _ hx
        simp at this
      obtain ⟨h1, h2⟩ := arF_nodup (nds := r) (acc := acc ++ [(w, a)]) (l := l) (by
        rw [List.map_append, List.nodup_append]
        refine ⟨hn, by simp, fun x hx y hy => ?_⟩
        simp at hy
        subst hy
        intro z
        subst z
        exact hw hx) h
      refine ⟨h1, ?_⟩
      rw [List.length_append] at h2
      simp at h2 ⊢
      omega
    | some b =>
      rw [q] at h
      simp only at h
      split at h
      · obtain ⟨h1, h2⟩ := arF_nodup hn h
        exact ⟨h1, by rw [List.length_cons]; omega⟩
      · cases h
theorem inV_leaf (z : Str) : inV (.str z) [.str "_", .str "#"] = isLeaf z := by
  show ((("_" : Str) == z) || ((("#" : Str) == z) || false)) = decide (z = "_" ∨ z = "#")
  rw [Bool.or_false]
  by_cases h1 : z = ("_" : Str)
  · subst h1
    simp
  · by_cases h2 : z = ("#" : Str)
    · subst h2
      simp
    · rw [decide_eq_false (fun q => q.elim h1 h2), beq_eq_false_iff_ne.mpr (fun q => h1 q.symm), beq_eq_false_iff_ne.mpr (fun q => h2 q.symm)]
      rfl

/-! ### rows -/
/-- a node as it must be -/
def GoodNd (n : Nd) : Prop := isNode2 (.str n.1) (.int (n.2 : Int)) = true ∧ n.1.length ≤ 1000
/-- a value, and whether it is a row of nodes of a term -/
inductive RowIn (K : PySem.W.Frag) (H : Hp) : V → Bool → Prop
  | other {x : V} {k : Kd} : Pl K H x k → k ≠ .tup → RowIn K H x false
  | size {a : Addr} {xs : List V} : H a = some (.tup xs) → xs.length < 1 ∨ 40 < xs.length → RowIn K H (.ref a) false
  | items {a : Addr} {xs : List V} {bs : List Bool} : H a = some (.tup xs) → (1 ≤ xs.length ∧ xs.length ≤ 40) → bs.length = xs.length ∧ (∀ (i : Nat) (x : V), xs[i]? = some x → ∃ b, bs[i]? = some b ∧ NodeIn K H x b) ∧ bs.all id = false → RowIn K H (.ref a) false
  | nodes {a : Addr} {nds : List Nd} : (∃ xs, H a = some (.tup xs) ∧ xs.length = nds.length ∧ ∀ (i : Nat) (n : Nd), nds[i]? = some n → ∃ p, xs[i]? = some (.ref p) ∧ H p = some (.tup [.str n.1, .int (n.2 : Int)])) → (1 ≤ nds.length ∧ nds.length ≤ 40) → (∀ n ∈ nds, GoodNd n) → RowIn K H (.ref a) ((chOf nds).isSome && (arF nds []).isSome)
def spRow (K : PySem.W.Frag) : Sp := fun vs H Q _ => ∃ x b, vs = [x] ∧ RowIn K H x b ∧ ∀ H', Gx H H' → Q (.bl b) H'
end TM

set_option Elab.async false
set_option maxRecDepth 100000
/-! Trees: rows of nodes are trees in preorder. -/
namespace TM
open PySem L2 Ly
inductive Tr where
  | nd (w : Str) (ts : List Tr)
mutual
def Tr.nodes : Tr → List Nd
  | .nd w ts => (w, ts.length) :: nodesL ts
def nodesL : List Tr → List Nd
  | [] => []
  | t :: ts => t.nodes ++ nodesL ts
end
def Tr.size (t : Tr) : Nat := t.nodes.length
/-- the places of the roots of a row of trees that begins at a place -/
def roots : List Tr → Nat → List Nat
  | [], _ => []
  | t :: ts, off => off :: roots ts (off + t.size)
mutual
def Tr.ch : Tr → Nat → List (List Nat)
  | .nd _ ts, off => roots ts (off + 1) :: chL ts (off + 1)
def chL : List Tr → Nat → List (List Nat)
  | [], _ => []
  | t :: ts, off => t.ch off ++ chL ts (off + t.size)
end
theorem roots_len : ∀ (ts : List Tr) (off : Nat), (roots ts off).length = ts.length
  | [], _ => rfl
  | t :: ts, off => by
    show (roots ts _).length + 1 = ts.length + 1
    rw [roots_len ts]
mutual
theorem Tr.chF_of (t : Tr) : ∀ (rest : List Nat) (off : Nat) (w : List Nat) (f : List (List Nat)), chF rest (off + t.size) = some (w, f) → chF (t.nodes.map (·.2) ++ rest) off = some (w ++ [off], t.ch off ++ f) := by
  cases t with
  | nd wd ts =>
    intro rest off w f h
    have ih := chF_ofL ts rest (off + 1) w f (by
      have e : off + Tr.size (.nd wd ts) = off + 1 + (nodesL ts).length := by
        show off + ((nodesL ts).length + 1) = _
        omega
      rw [← e]
      exact h)
    show chF (ts.length :: ((nodesL ts).map (·.2) ++ rest)) off = _
    rw [chF_cons, ih]
    have hl : (roots ts (off + 1)).reverse.length = ts.length := by rw [List.length_reverse, roots_len]
    have hn : ¬ (w ++ (roots ts (off + 1)).reverse).length < ts.length := by rw [List.length_append, hl]; omega
    simp only
    rw [if_neg hn]
    have h1 : (w ++ (roots ts (off + 1)).reverse).length - ts.length = w.length := by rw [List.length_append, hl]; omega
    rw [h1, List.take_left, List.drop_left, List.reverse_reverse]
    rfl
theorem chF_ofL (ts : List Tr) : ∀ (rest : List Nat) (off : Nat) (w : List Nat) (f : List (List Nat)), chF rest (off + (nodesL ts).length) = some (w, f) → chF ((nodesL ts).map (·.2) ++ rest) off = some (w ++ (roots ts off).reverse, chL ts off ++ f) := by
  cases ts with
  | nil =>
    intro rest off w f h
    show chF rest off = some (w ++ [], [] ++ f)
    rw [List.append_nil]
    exact h
  | cons t ts =>
    intro rest off w f h
    have h1 := chF_ofL ts rest (off + t.size) w f (by
      have e : off + (nodesL (t :: ts)).length = off + t.size + (nodesL ts).length := by
        show off + (t.nodes ++ nodesL ts).length = _
        rw [List.length_append]
        show off + (t.size + _) = _
        omega
      rw [← e]
      exact h)
    have h2 := Tr.chF_of t ((nodesL ts).map (·.2) ++ rest) off _ _ h1
    show chF ((t.nodes ++ nodesL ts).map (·.2) ++ rest) off = some (w ++ (off :: roots ts (off + t.size)).reverse, (t.ch off ++ chL ts (off + t.size)) ++ f)
    rw [List.map_append, List.append_assoc, h2, List.reverse_cons, List.append_assoc, List.append_assoc]
end
theorem roots_app : ∀ (ts us : List Tr) (off : Nat), roots (ts ++ us) off = roots ts off ++ roots us (off + (nodesL ts).length)
  | [], us, off => rfl
  | t :: ts, us, off => by
    show off :: roots (ts ++ us) (off + t.size) = off :: (roots ts (off + t.size) ++ _)
    rw [roots_app ts us]
    congr 3
    show off + t.size + (nodesL ts).length = off + (t.nodes ++ nodesL ts).length
    rw [List.length_append]
    show _ = off + (t.size + _)
    omega
theorem nodesL_app : ∀ (ts us : List Tr), nodesL (ts ++ us) = nodesL ts ++ nodesL us
  | [], us => rfl
  | t :: ts, us => by
    show t.nodes ++ nodesL (ts ++ us) = (t.nodes ++ nodesL ts) ++ nodesL us
    rw [nodesL_app ts us, List.append_assoc]
theorem chL_app : ∀ (ts us : List Tr) (off : Nat), chL (ts ++ us) off = chL ts off ++ chL us (off + (nodesL ts).length)
  | [], us, off => rfl
  | t :: ts, us, off => by
    show t.ch off ++ chL (ts ++ us) (off + t.size) = (t.ch off ++ chL ts (off + t.size)) ++ _
    rw [chL_app ts us, List.append_assoc]
    congr 3
    show off + t.size + (nodesL ts).length = off + (t.nodes ++ nodesL ts).length
    rw [List.length_append]
    show _ = off + (t.size + _)
    omega
/-- a row that is read is a row of trees -/
theorem chF_trees : ∀ {nds : List Nd} {off : Nat} {w : List Nat} {f : List (List Nat)}, chF (nds.map (·.2)) off = some (w, f) → ∃ ts, nds = nodesL ts ∧ w = (roots ts off).reverse ∧ f = chL ts off
  | [], off, w, f, h => by
    cases h
    exact ⟨[], rfl, rfl, rfl⟩
  | (wd, a) :: nds, off, w, f, h => by
    have h : chF (a :: nds.map (·.2)) off = some (w, f) := h
    rw [chF_cons] at h
    cases q : chF (nds.map (·.2)) (off + 1) with
    | none => rw [q] at h; cases h
    | some p =>
      obtain ⟨w', f'⟩ := p
      rw [q] at h
      simp only at h
      obtain ⟨ts, rfl, rfl, rfl⟩ := chF_trees q
      have hl : (roots ts (off + 1)).reverse.length = ts.length := by rw [List.length_reverse, roots_len]
      rw [hl] at h
      split at h
      · cases h
      · rename_i hge
        cases h
        have ht : ts = ts.take a ++ ts.drop a := (List.take_append_drop a ts).symm
        have hta : (ts.take a).length = a := by rw [List.length_take]; omega
        refine ⟨.nd wd (ts.take a) :: ts.drop a, ?_, ?_, ?_⟩
        · show (wd, a) :: nodesL ts = ((wd, (ts.take a).length) :: nodesL (ts.take a)) ++ nodesL (ts.drop a)
          rw [hta, List.cons_append, ← nodesL_app, ← ht]
        · show _ = (off :: roots (ts.drop a) (off + Tr.size (.nd wd (ts.take a)))).reverse
          rw [List.reverse_cons]
          congr 1
          have h1 : roots ts (off + 1) = roots (ts.take a) (off + 1) ++ roots (ts.drop a) (off + 1 + (nodesL (ts.take a)).length) := by
            rw [← roots_app, ← ht]
          have h2 : off + Tr.size (.nd wd (ts.take a)) = off + 1 + (nodesL (ts.take a)).length := by
            show off + ((nodesL (ts.take a)).length + 1) = _
            omega
          rw [h1, h2, List.reverse_append, List.take_left']
          rw [List.length_reverse, roots_len, List.length_drop]
        · show _ = (roots (ts.take a) (off + 1) :: chL (ts.take a) (off + 1)) ++ chL (ts.drop a) (off + Tr.size (.nd wd (ts.take a)))
          have h1 : roots ts (off + 1) = roots (ts.take a) (off + 1) ++ roots (ts.drop a) (off + 1 + (nodesL (ts.take a)).length) := by
            rw [← roots_app, ← ht]
          have h2 : off + Tr.size (.nd wd (ts.take a)) = off + 1 + (nodesL (ts.take a)).length := by
            show off + ((nodesL (ts.take a)).length + 1) = _
            omega
          rw [List.cons_append, h2, ← chL_app, ← ht]
          congr 1
          rw [h1, List.reverse_append, List.drop_left', List.reverse_reverse]
          rw [List.length_reverse, roots_len, List.length_drop]
theorem chOf_tree {nds : List Nd} {cs : List (List Nat)} (h : chOf nds = some cs) : ∃ t : Tr, nds = t.nodes ∧ cs = t.ch 0 := by
  unfold chOf at h
  cases q : chF (nds.map (·.2)) 0 with
  | none => rw [q] at h; cases h
  | some p =>
    obtain ⟨w, f⟩ := p
    rw [q] at h
    simp only at h
    split at h
    · rename_i hw
      cases h
      obtain ⟨ts, rfl, h1, rfl⟩ := chF_trees q
      have hl : ts.length = 1 := by
        have := congrArg List.length h1
        rw [hw, List.length_reverse, roots_len] at this
        exact this.symm
      match ts, hl with
      | [t], _ => exact ⟨t, by show t.nodes ++ [] = _; rw [List.append_nil], by show t.ch 0 ++ [] = _; rw [List.append_nil]⟩
    · cases h
theorem Tr.chOf (t : Tr) : TM.chOf t.nodes = some (t.ch 0) := by
  unfold TM.chOf
  have := Tr.chF_of t [] 0 [] [] rfl
  rw [List.append_nil, List.append_nil] at this
  rw [this]
  rfl

/-! ### texts, heights, ends -/
mutual
def Tr.text : Tr → Str
  | .nd w [] => w
  | .nd w (t :: ts) => w ++ "(" ++ Txt.join ", " (t.text :: textsL ts) ++ ")"
def textsL : List Tr → List Str
  | [] => []
  | t :: ts => t.text :: textsL ts
end
mutual
def Tr.ht : Tr → Nat
  | .nd _ ts => htL ts
def htL : List Tr → Nat
  | [] => 0
  | t :: ts => max (t.ht + 1) (htL ts)
end
mutual
def Tr.ends : Tr → Nat → List Nat
  | .nd _ ts, off => (off + 1 + (nodesL ts).length) :: endsL ts (off + 1)
def endsL : List Tr → Nat → List Nat
  | [], _ => []
  | t :: ts, off => t.ends off ++ endsL ts (off + t.size)
end
mutual
def Tr.All (P : Str → Prop) : Tr → Prop
  | .nd w ts => P w ∧ AllL P ts
def AllL (P : Str → Prop) : List Tr → Prop
  | [] => True
  | t :: ts => t.All P ∧ AllL P ts
end
theorem textsL_map : ∀ ts : List Tr, textsL ts = ts.map Tr.text
  | [] => rfl
  | t :: ts => by
    show t.text :: textsL ts = _
    rw [textsL_map ts]
    rfl
theorem text_nd {w : Str} {ts : List Tr} (h : ts ≠ []) : Tr.text (.nd w ts) = w ++ "(" ++ Txt.join ", " (ts.map Tr.text) ++ ")" := by
  cases ts with
  | nil => exact absurd rfl h
  | cons t ts =>
    show w ++ "(" ++ Txt.join ", " (t.text :: textsL ts) ++ ")" = _
    rw [textsL_map]
    rfl
theorem htL_lt : ∀ {ts : List Tr} {t : Tr}, t ∈ ts → t.ht < htL ts
  | u :: ts, t, h => by
    show t.ht < max (u.ht + 1) (htL ts)
    rcases List.mem_cons.mp h with rfl | h
    · omega
    · have := htL_lt h
      omega
theorem AllL_mem {P : Str → Prop} : ∀ {ts : List Tr}, AllL P ts → ∀ t ∈ ts, t.All P
  | u :: ts, h, t, ht => by
    rcases List.mem_cons.mp ht with rfl | ht
    · exact h.1
    · exact AllL_mem h.2 t ht
/-- the tree s stands at the place p of a row -/
def Sub (nds : List Nd) (cs : List (List Nat)) (p : Nat) (s : Tr) : Prop := s.nodes <+: nds.drop p ∧ s.ch p <+: cs.drop p
theorem Sub.root (t : Tr) : Sub t.nodes (t.ch 0) 0 t := ⟨by rw [List.drop_zero]; exact List.prefix_refl _, by rw [List.drop_zero]; exact List.prefix_refl _⟩
theorem get_of_prefix {α : Type} {x : α} {r l : List α} {p : Nat} (h : x :: r <+: l.drop p) : l[p]? = some x := by
  obtain ⟨q, hq⟩ := h
  have : (l.drop p)[0]? = some x := by rw [← hq]; rfl
  rw [List.getElem?_drop] at this
  simpa using this
theorem Sub.at {nds : List Nd} {cs : List (List Nat)} {p : Nat} {w : Str} {ts : List Tr} (h : Sub nds cs p (.nd w ts)) : nds[p]? = some (w, ts.length) ∧ cs[p]? = some (roots ts (p + 1)) := ⟨get_of_prefix h.1, get_of_prefix h.2⟩
theorem drop_of_prefix {α : Type} {x r l : List α} {p : Nat} (h : x ++ r <+: l.drop p) : x <+: l.drop p ∧ r <+: l.drop (p + x.length) := by
  obtain ⟨q, hq⟩ := h
  refine ⟨⟨r ++ q, by rw [← hq, List.append_assoc]⟩, ⟨q, ?_⟩⟩
  rw [← List.drop_drop, ← hq, List.append_assoc, List.drop_left]
mutual
theorem Tr.ch_len (t : Tr) : ∀ off, (t.ch off).length = t.size := by
  cases t with
  | nd w ts =>
    intro off
    show (chL ts (off + 1)).length + 1 = (nodesL ts).length + 1
    rw [chL_len ts]
theorem chL_len (ts : List Tr) : ∀ off, (chL ts off).length = (nodesL ts).length := by
  cases ts with
  | nil =>
    intro off
    rfl
  | cons t ts =>
    intro off
    show (t.ch off ++ chL ts (off + t.size)).length = (t.nodes ++ nodesL ts).length
    rw [List.length_append, List.length_append, Tr.ch_len t, chL_len ts]
    rfl
end
theorem subL {nds : List Nd} {cs : List (List Nat)} : ∀ {ts : List Tr} {off : Nat}, nodesL ts <+: nds.drop off → chL ts off <+: cs.drop off → ∀ (i p : Nat), (roots ts off)[i]? = some p → ∃ c, ts[i]? = some c ∧ Sub nds cs p c
  | [], off, _, _, i, p, h => by cases h
  | t :: ts, off, h1, h2, i, p, h => by
    have h1 : t.nodes ++ nodesL ts <+: nds.drop off := h1
    have h2 : t.ch off ++ chL ts (off + t.size) <+: cs.drop off := h2
    obtain ⟨a1, a2⟩ := drop_of_prefix h1
    obtain ⟨b1, b2⟩ := drop_of_prefix h2
    rw [Tr.ch_len] at b2
    cases i with
    | zero =>
      have h : some off = some p := h
      cases h
      exact ⟨t, rfl, a1, b1⟩
    | succ i =>
      have h : (roots ts (off + t.size))[i]? = some p := h
      obtain ⟨c, h3, h4⟩ := subL a2 b2 i p h
      exact ⟨c, h3, h4⟩
theorem Sub.child {nds : List Nd} {cs : List (List Nat)} {p : Nat} {w : Str} {ts : List Tr} (h : Sub nds cs p (.nd w ts)) (i q : Nat) (hq : (roots ts (p + 1))[i]? = some q) : ∃ c, ts[i]? = some c ∧ Sub nds cs q c := by
  have h1 : [(w, ts.length)] ++ nodesL ts <+: nds.drop p := h.1
  have h2 : [roots ts (p + 1)] ++ chL ts (p + 1) <+: cs.drop p := h.2
  exact subL (drop_of_prefix h1).2 (drop_of_prefix h2).2 i q hq
/-- how long a text can be -/
theorem join_len : ∀ (zs : List Str), (Str.join ", " zs).length ≤ (zs.map (·.length)).sum + 2 * zs.length
  | [] => Nat.le_refl _
  | [z] => by
    show z.length ≤ z.length + 0 + 2 * 1
    omega
  | z :: y :: r => by
    have ih := join_len (y :: r)
    have e : (Str.join ", " (z :: y :: r)).length = z.length + 2 + (Str.join ", " (y :: r)).length := by
      show ((z.cps ++ (", " : Str).cps) ++ (Str.join ", " (y :: r)).cps).size = _
      rw [Array.size_append, Array.size_append]
      rfl
    rw [e, List.map_cons, List.sum_cons, List.length_cons]
    omega
mutual
theorem Tr.text_len {m : Nat} (t : Tr) : t.All (fun w => w.length ≤ m) → t.text.length + 2 ≤ (m + 4) * t.size := by
  cases t with
  | nd w ts =>
    intro h
    have h1 : w.length ≤ m := h.1
    have h2 := texts_len ts h.2
    have hs : Tr.size (.nd w ts) = (nodesL ts).length + 1 := rfl
    cases ts with
    | nil =>
      show w.length + 2 ≤ _
      rw [hs, Nat.mul_add (m + 4)]
      omega
    | cons t ts =>
      rw [text_nd (by simp), TL.join_eq, hs, Nat.mul_add (m + 4)]
      have h3 := join_len ((t :: ts).map Tr.text)
      rw [textsL_map] at h2
      have e : (w ++ "(" ++ Str.join ", " ((t :: ts).map Tr.text) ++ ")").length = w.length + 1 + (Str.join ", " ((t :: ts).map Tr.text)).length + 1 := by
        show (((w.cps ++ ("(" : Str).cps) ++ (Str.join ", " ((t :: ts).map Tr.text)).cps) ++ (")" : Str).cps).size = _
        rw [Array.size_append, Array.size_append, Array.size_append]
        rfl
      rw [e]
      rw [List.length_map] at h3
      omega
theorem texts_len {m : Nat} (ts : List Tr) : AllL (fun w => w.length ≤ m) ts → ((textsL ts).map (·.length)).sum + 2 * ts.length ≤ (m + 4) * (nodesL ts).length := by
  cases ts with
  | nil =>
    intro _
    exact Nat.zero_le _
  | cons t ts =>
    intro h
    have h1 := Tr.text_len t h.1
    have h2 := texts_len ts h.2
    show (t.text.length + ((textsL ts).map (·.length)).sum) + 2 * (ts.length + 1) ≤ (m + 4) * (t.nodes ++ nodesL ts).length
    rw [List.length_append, Nat.mul_add (m + 4)]
    have : (m + 4) * t.size = (m + 4) * t.nodes.length := rfl
    omega
end

theorem Tr.size_pos (t : Tr) : 1 ≤ t.size := by
  cases t with
  | nd w ts =>
    show 1 ≤ (nodesL ts).length + 1
    omega
theorem lenL : ∀ ts : List Tr, ts.length ≤ (nodesL ts).length
  | [] => Nat.le_refl _
  | t :: ts => by
    show ts.length + 1 ≤ (t.nodes ++ nodesL ts).length
    rw [List.length_append]
    have := lenL ts
    have h : 1 ≤ t.nodes.length := t.size_pos
    omega
theorem sizeL_mem : ∀ {ts : List Tr} {t : Tr}, t ∈ ts → t.size ≤ (nodesL ts).length
  | u :: ts, t, h => by
    show t.size ≤ (u.nodes ++ nodesL ts).length
    rw [List.length_append]
    rcases List.mem_cons.mp h with rfl | h
    · show t.nodes.length ≤ _
      omega
    · have := sizeL_mem h
      omega
def spText (K : PySem.W.Frag) (h : Nat) : Sp := fun vs H Q _ => ∃ (n c : Addr) (p : Nat) (nds : List Nd) (cs : List (List Nat)) (s : Tr), vs = [.ref n, .ref c, .int (p : Int)] ∧ NodesAt K H n nds ∧ ChT K H c cs ∧ Sub nds cs p s ∧ s.ht < h ∧ s.All (fun w => w.length ≤ 100) ∧ s.size ≤ 100 ∧ ∀ H', Gx H H' → Q (.str s.text) H'
def spPlaces (K : PySem.W.Frag) : Sp := fun vs H Q _ => ∃ (n : Addr) (nds : List Nd) (w : Str), vs = [.ref n, .str w] ∧ NodesAt K H n nds ∧ nds.length ≤ 1000 ∧ ∀ p H', Gx H H' → H p = none → H' p = some (.tup (intsV (plc nds w))) → Q (.ref p) H'
theorem ChT.gx {K : PySem.W.Frag} {H H' : Hp} {a : Addr} {cs : List (List Nat)} (e : Gx H H') (h : ChT K H a cs) : ChT K H' a cs := h.firm e.k
theorem NodesAt.gx {K : PySem.W.Frag} {H H' : Hp} {a : Addr} {nds : List Nd} (e : Gx H H') (h : NodesAt K H a nds) : NodesAt K H' a nds := by
  obtain ⟨xs, h1, h2⟩ := h.ex
  exact ⟨⟨xs, e.t h1, h2.gx e⟩⟩
end TM

set_option Elab.async false
set_option maxRecDepth 100000
set_option maxHeartbeats 2000000
/-! enumerate(a tuple) -/
namespace Ly
open PySem PySem.Spec PyProof.Rows L2
open AutoSeq1 (wpAny_loadPart')
theorem enumT_new (tp : Addr) (vals : Array Value) (ob : Obj) (hcl : ob.cls = .type "tuple") (hda : ∃ nn, ob.data = .seq vals nn) :
    Meets (Builtin.«enumerate.__new__» ⟨[.type "enumerate", .ref tp], []⟩) (fun _ R st => st.heap.get? tp = some ob ∧
      R (.ok (.ret (.ref (st.heap.push { cls := .type "tuple_iterator", data := .fields #[.ref tp, .int 0 0] }).objs.size)))
        { st with heap := (st.heap.push { cls := .type "tuple_iterator", data := .fields #[.ref tp, .int 0 0] }).push { cls := .type "enumerate", data := .fields #[.none, .bool false, .ref st.heap.objs.size, rawInt 0, .none, .none] } }) :=
  .of_wp fun prog w A R st hh => by
    obtain ⟨hp, gs, dr, tk, os⟩ := st
    obtain ⟨hob, hh⟩ := hh
    obtain ⟨oc, od, dt, sl⟩ := ob
    obtain ⟨nn, hda⟩ := hda
    simp only at hcl hda
    subst hcl hda
    have ss := sub_enumerate
    have it : Heap.IsTuple (Shared.heap ⟨hp, gs, dr, tk, os⟩) tp vals := ⟨_, hob, rfl, nn, rfl⟩
    wp_walk using wpAny_loadPart' hob
    refine wpAny_stack_any fun _ => wpAny_pure ?_
    split
    · rename_i cc _ _ _ _ _
      cases (cc == Value.type "enumerate")
      all_goals
        wp_walk using wpAny_loadPart' hob, wpAny_pyIter_tuple it
        exact ⟨_, rfl, hh⟩
    · wp_walk using wpAny_loadPart' hob, wpAny_pyIter_tuple it
      exact ⟨_, rfl, hh⟩

theorem enumT_call {prog : Program} {w : World} {A : Around} {E : Value → Shared → Prop} {s : Shared} {tp : Addr} {vals : Array Value} {Q : Value → Shared → Prop} (ht : s.heap.IsTuple tp vals)
    (k : ∀ h', IsEnum h' (s.heap.objs.size + 1) s.heap.objs.size 0 .none → h'.IsTupleIter s.heap.objs.size tp 0 → (∀ b ob, s.heap.get? b = some ob → h'.get? b = some ob) → Q (.ref (s.heap.objs.size + 1)) { s with heap := h' }) :
    wpAny (model prog w) A (call (.type "enumerate") [.ref tp]) Q E s := by
  obtain ⟨ob, hob, hcl, nn, hda⟩ := ht
  have sz : (s.heap.push { cls := .type "tuple_iterator", data := .fields #[.ref tp, .int 0 0] }).objs.size = s.heap.objs.size + 1 := Heap.size_push ..
  refine callType_new F.called_enumerate (by decide) (F.typeCall_enumerate_1 _) (F.newCall_enumerate_1 _) (fun o => F.args_object_init_2 o _) F.entry_enumerate_new (enumT_new tp vals ob hcl ⟨nn, hda⟩) ⟨hob, ?_⟩
  show _ ∧ _
  rw [sz]
  have en : IsEnum ((s.heap.push { cls := .type "tuple_iterator", data := .fields #[.ref tp, .int 0 0] }).push { cls := .type "enumerate", data := .fields #[.none, .bool false, .ref s.heap.objs.size, rawInt 0, .none, .none] }) (s.heap.objs.size + 1) s.heap.objs.size 0 .none := by
    have q := Heap.get?_push_size (s.heap.push { cls := .type "tuple_iterator", data := .fields #[.ref tp, .int 0 0] }) (o := { cls := .type "enumerate", data := .fields #[.none, .bool false, .ref s.heap.objs.size, rawInt 0, .none, .none] }) rfl
    rw [sz] at q
    exact q
  exact ⟨⟨_, en, rfl⟩, k _ en ⟨_, Heap.get?_push_of_some _ (Heap.get?_push_size _ rfl), rfl, rfl⟩ fun b o x => Heap.get?_push_of_some _ (Heap.get?_push_of_some _ x)⟩
/-- the tuple at a, its items in new pairs with their places -/
def Ityt (K : PySem.W.Frag) (a : Addr) : It :=
  ⟨fun i H => ∃ xs x, SqT K H a xs ∧ xs[i]? = some x, fun i H v H' => ∃ T x, v = .ref T ∧ H T = none ∧ H' = upd H T (.tup [.int (i : Nat), x]) ∧ ∀ xs, SqT K H a xs → xs[i]? = some x, fun i H => ∃ xs, SqT K H a xs ∧ xs.length = i⟩
theorem turn_enumT {P : Program} {w : World} {K : PySem.W.Frag} {elts : List Expr} {kk : Nat} {tpos : Pos} (a e it : Addr) :
    Turn P w K (.Tuple elts kk tpos) (Ityt K a) [e, it] e (fun i h => (∃ old, IsEnum h e it ((i : Nat) : Int) old) ∧ h.IsTupleIter it a i ∧ e ≠ it ∧ a ≠ it ∧ a ≠ e) where
  mem := by simp
  obj := fun i h st b hb => by
    obtain ⟨⟨old, he⟩, ⟨o, ho, hc, hd⟩, _⟩ := st
    rcases (by simpa using hb : b = e ∨ b = it) with rfl | rfl
    · exact ⟨_, he, fun v q => nomatch q⟩
    · exact ⟨o, ho, fun v q => by rw [hd] at q; cases q⟩
  keep := fun i h h' st k => by
    obtain ⟨⟨old, he⟩, hi, r⟩ := st
    exact ⟨⟨old, k e (by simp) _ he⟩, hi.at fun o q => k it (by simp) o q, r⟩
  item := by
    intro X hP hw hK hc i pins s σ H E I hf st hg
    subst hP hw hK
    obtain ⟨⟨old, he⟩, hit, hne, hat, hae⟩ := st
    obtain ⟨xs, x, hq, hx⟩ := hg
    obtain ⟨its, rv, p, hz⟩ := I.tuple hq
    obtain ⟨u, hu, ru⟩ := rv.get hx
    have hel : e < s.heap.objs.size := Heap.lt_size he
    have hil : it < s.heap.objs.size := by
      obtain ⟨_, q, _⟩ := hit
      exact Heap.lt_size q
    have hin : i < its.toArray.size := by
      have := (List.getElem?_eq_some_iff.mp hu).1
      simpa using this
    have hh : X.A.handled = none := I.ok.hd hc
    refine wpAny_pyNext_enum_itemD (Draws.tuple (A := X.A.in1) hh it a hat its.toArray) he ⟨hit, p⟩ hin hne (by simp [hne, Ne.symm hae]) fun y h' tk hy ho hst hT hsz hk => ?_
    have hyu : y = u := by
      have hy : its.toArray[i]? = some y := hy
      rw [show its.toArray[i]? = its[i]? by simp, hu] at hy
      exact (Option.some.inj hy).symm
    subst hyu
    refine ⟨_, rfl, wpAny_letOwnedTupleGo_enum (s := { s with heap := h', toks := tk + 1 }) ho fun h'' he' sb => ?_⟩
    have hT2 : h''.get? s.heap.objs.size = some { cls := .type "tuple", data := .seq #[.int i tk, y] } := (sb.2 _ (Nat.ne_of_gt hel)).trans hT
    have fresh : ObjOk X.prog X.w (upd H s.heap.objs.size (.tup [.int (i : Nat), x])) h'' s.heap.objs.size (.tup [.int (i : Nat), x]) :=
      ⟨by show 2 ≤ sizeLine; decide, [.int i tk, y], .cons ⟨_, rfl⟩ (.cons ru .nil), ⟨_, hT2, rfl, _, rfl⟩⟩
    have J : Inv X pins σ (upd H s.heap.objs.size (.tup [.int (i : Nat), x])) { s with heap := h'', toks := tk + 1 } :=
      I.turnedNew (ch := [e, it]) (fun b o hb q => (sb.2 b (fun z => hb (by simp [z]))).trans (hk b o (fun z => hb (by simp [z])) (fun z => hb (by simp [z])) q)) hf (Nat.le_refl _) fresh
    refine ⟨.ref s.heap.objs.size, _, J, rfl, ⟨_, x, rfl, I.hok.fresh (Nat.le_refl _), rfl, fun ys hy => by rw [I.tuple_inj hy hq]; exact hx⟩, ⟨⟨y, ?_⟩, hst.1.at fun o q => (sb.2 it (Ne.symm hne)).trans q, hne, hat, hae⟩, fun b hb => ?_⟩
    · rw [show ((i + 1 : Nat) : Int) = (i : Int) + 1 by omega]
      exact he'
    · have lt : b < s.heap.objs.size := by
        rcases (by simpa using hb : b = e ∨ b = it) with rfl | rfl
        · exact hel
        · exact hil
      rw [upd_ne (Nat.ne_of_lt lt)]
      exact (hf b hb).1
  done := by
    intro X hP hw hK hc i pins s σ H E I hf st hg
    subst hP hw hK
    obtain ⟨⟨old, he⟩, hit, hne, hat, hae⟩ := st
    obtain ⟨xs, hq, hx⟩ := hg
    obtain ⟨its, rv, p, hz⟩ := I.tuple hq
    obtain ⟨f0, f1, f2, f3, f4, f5⟩ := hf it (by simp)
    have hl := rv.length
    have hh : X.A.handled = none := I.ok.hd hc
    have hi : i = its.toArray.size := by
      rw [← hx, hl]
      simp
    rw [hi] at he hit
    exact wpAny_pyNext_enum_endD (Draws.tuple (A := X.A.in1) hh it a hat its.toArray) he ⟨hit, p⟩ fun h' eb => ⟨rfl, I.turned (t' := s.toks) (fun b o hb q => eb b o hb q) f0 f1 f3 f4 f5⟩
  self := fun A i s Q E st h => by
    obtain ⟨⟨_, he⟩, _⟩ := st
    exact wpAny_pyIter_enum he h

def iEnumT (K : PySem.W.Frag) (ta : TA) : TI := fun σ H R => ta σ H fun vs H1 => ∃ a xs, vs = [.ref a] ∧ SqT K H1 a xs ∧ R (Ityt K a) H1
theorem pi_enumT {X : Cx} {e : Expr} {ta : TA} {p pos tpos : Pos} {elts : List Expr} {kk : Nat} (hg : Gl X "enumerate") (hm : X.mg "enumerate" = none) (ha : PA X [e] ta) (hs : starEach [e] X.env = [(false, eval e X.env)] := by rfl) :
    PI X (.Tuple elts kk tpos) (.Call (.Name "enumerate" p) [e] [] pos) (iEnumT X.K ta) := by
  refine ⟨fun pins s σ H R I h => ?_⟩
  refine Call_ (ld_blt I hg hm boot_enumerate (PyProof.Rows.callWith_type1 (thn (ha.run pos pins s σ H _ I h) fun us s1 ⟨vs, H1, I1, r1, a, xs, ex, hq, q⟩ => ?_) hs rfl))
  subst ex
  obtain ⟨u, rfl, ru⟩ := vals1 r1
  obtain rfl : u = Value.ref a := ru
  obtain ⟨its, rv, tup, hz⟩ := I1.tuple hq
  have hal : a < s1.heap.objs.size := tup.lt
  refine enumT_call tup fun h' he hit hk => wpAny_pyIter_enum he ?_
  have J : Inv X pins σ H1 { s1 with heap := h' } := I1.kept (t' := s1.toks) hk
  refine ⟨s1.heap.objs.size + 1, [s1.heap.objs.size + 1, s1.heap.objs.size], _, _, H1, rfl, J, turn_enumT a (s1.heap.objs.size + 1) s1.heap.objs.size, ⟨⟨.none, he⟩, hit, Nat.succ_ne_self _, Nat.ne_of_lt hal, Nat.ne_of_lt (Nat.lt_succ_of_lt hal)⟩, fun b hb => ?_, q⟩
  have le : s1.heap.objs.size ≤ b := by
    rcases (by simpa using hb : b = s1.heap.objs.size + 1 ∨ b = s1.heap.objs.size) with rfl | rfl
    · exact Nat.le_succ _
    · exact Nat.le_refl _
  exact I1.fpOk le (I1.hok.fresh le)
theorem kpi_enumT {X : Cx} {K : PySem.W.Frag} {e : Expr} {ta : TA} {p pos tpos : Pos} {elts : List Expr} {kk : Nat} (hg : Gl X "enumerate") (hm : X.mg "enumerate" = none) (ha : PA X [e] ta) (hK : X.K = K := by rfl) (hs : starEach [e] X.env = [(false, eval e X.env)] := by rfl) :
    PI X (.Tuple elts kk tpos) (.Call (.Name "enumerate" p) [e] [] pos) (iEnumT K ta) := by
  subst hK
  exact pi_enumT hg hm ha hs
theorem walk_enumT {K : PySem.W.Frag} {a : Addr} {xs : List V} : Walk (Ityt K a) xs.length (fun H => SqT K H a xs) (YPair (fun i => some (.int (i : Nat))) (fun i => xs[i]?)) :=
  ⟨fun i _ hi q => ⟨xs, xs[i], q, by simp [hi]⟩, fun _ q => ⟨xs, q, rfl⟩, fun i H v H' _ q ⟨T, x, h1, h2, h3, h4⟩ => ⟨T, .int (i : Nat), x, h1, h2, h3, rfl, h4 xs q⟩⟩
theorem evw_enumT {K : PySem.W.Frag} {σ : L2.St} {H : Hp} {tl : TE} {xs : List V} (h : EvG tl σ H (TupK K xs)) : EvW (iEnumT K (tCons tl tNil)) σ H xs.length (fun i x H => ∃ T y, x = .ref T ∧ H T = some (.tup [.int (i : Nat), y]) ∧ xs[i]? = some y) := fun H1 e R q =>
  h H1 e _ fun v H2 e2 ⟨p, z, hp⟩ => ⟨p, xs, by rw [z], hp, q _ H2 _ _ e2 walk_enumT (fun H3 e3 => e3.t hp) fun i H3 x H4 hi _ ⟨T, x1, y1, hx, hT, h4, h5, h6⟩ => by
    subst h4
    have h5 : some (V.int (i : Nat)) = some x1 := h5
    cases h5
    exact ⟨Gx.new hT, T, y1, hx, upd_same, h6⟩⟩
end Ly

set_option Elab.async false
set_option maxRecDepth 100000
set_option maxHeartbeats 1000000
/-! Terms as objects. -/
namespace TM
open PySem L2 Ly
/-- heaps in which all stays but lists and instances -/
def Sx (H H' : Hp) : Prop := ∀ a o, H a = some o → (∀ xs, o ≠ .lst xs) → (∀ C dx fs, o ≠ .ins C dx fs) → H' a = some o
theorem Sx.refl (H : Hp) : Sx H H := fun _ _ h _ _ => h
theorem Sx.trans {H H1 H2 : Hp} (a : Sx H H1) (b : Sx H1 H2) : Sx H H2 := fun x o h h1 h2 => b x o (a x o h h1 h2) h1 h2
theorem sx_of {H H' : Hp} (e : Gx H H') : Sx H H' := fun a o h _ _ => e a o h
theorem sx_put {H : Hp} {a C dx : Addr} {fs : List (Str × V)} {o : HO} (h : H a = some (.ins C dx fs)) : Sx H (upd H a o) := fun b u hb _ h2 => by
  by_cases z : b = a
  · subst z
    rw [h] at hb
    cases hb
    exact absurd rfl (h2 C dx fs)
  · rw [upd_ne z]
    exact hb
theorem Sx.t {K : PySem.W.Frag} {H H' : Hp} {a : Addr} {xs : List V} (e : Sx H H') (h : SqT K H a xs) : SqT K H' a xs := by
  rcases h with (h | ⟨o, h⟩) | h
  · exact .inl (.inl (e _ _ h (fun _ z => by cases z) fun _ _ _ z => by cases z))
  · exact .inl (.inr ⟨o, e _ _ h (fun _ z => by cases z) fun _ _ _ z => by cases z⟩)
  · exact .inr h
theorem Sx.d {H H' : Hp} {a : Addr} {kvs : List (Key × V)} (e : Sx H H') (h : H a = some (.dK kvs)) : H' a = some (.dK kvs) := e _ _ h (fun _ z => by cases z) fun _ _ _ z => by cases z
theorem NodesAt.sx {K : PySem.W.Frag} {H H' : Hp} {a : Addr} {nds : List Nd} (e : Sx H H') (h : NodesAt K H a nds) : NodesAt K H' a nds := by
  obtain ⟨xs, h1, h2, h3⟩ := h.ex
  refine ⟨⟨xs, e.t h1, h2, fun i n q => ?_⟩⟩
  obtain ⟨x, h4, p, z, h5⟩ := h3 i n q
  exact ⟨x, h4, p, z, e.t h5⟩
theorem ChT.sx {K : PySem.W.Frag} {H H' : Hp} {a : Addr} {cs : List (List Nat)} (e : Sx H H') (h : ChT K H a cs) : ChT K H' a cs := by
  obtain ⟨ys, h1, h2, h3⟩ := h
  refine ⟨ys, e.t h1, h2, fun i c q => ?_⟩
  obtain ⟨y, h4, p, z, h5⟩ := h3 i c q
  exact ⟨y, h4, p, z, e.t h5⟩
/-- a row of nodes told: the tuple and its nodes, tracked -/
def RowAt (H : Hp) (a : Addr) (nds : List Nd) : Prop := ∃ xs, H a = some (.tup xs) ∧ xs.length = nds.length ∧ ∀ (i : Nat) (n : Nd), nds[i]? = some n → ∃ p, xs[i]? = some (.ref p) ∧ H p = some (.tup [.str n.1, .int (n.2 : Int)])
theorem RowAt.nodes {K : PySem.W.Frag} {H : Hp} {a : Addr} {nds : List Nd} (h : RowAt H a nds) : NodesAt K H a nds := by
  obtain ⟨xs, h1, h2, h3⟩ := h
  refine ⟨⟨xs, SqT.of h1, h2, fun i n q => ?_⟩⟩
  obtain ⟨p, h4, h5⟩ := h3 i n q
  exact ⟨_, h4, p, rfl, SqT.of h5⟩
theorem RowAt.sx {H H' : Hp} {a : Addr} {nds : List Nd} (e : Sx H H') (h : RowAt H a nds) : RowAt H' a nds := by
  obtain ⟨xs, h1, h2, h3⟩ := h
  refine ⟨xs, e _ _ h1 (fun _ z => by cases z) (fun _ _ _ z => by cases z), h2, fun i n q => ?_⟩
  obtain ⟨p, h4, h5⟩ := h3 i n q
  exact ⟨p, h4, e _ _ h5 (fun _ z => by cases z) (fun _ _ _ z => by cases z)⟩
theorem RowAt.firm {H H' : Hp} {a : Addr} {nds : List Nd} (e : Kx H H') (h : RowAt H a nds) : RowAt H' a nds := by
  obtain ⟨xs, h1, h2, h3⟩ := h
  refine ⟨xs, e.tup h1, h2, fun i n q => ?_⟩
  obtain ⟨p, h4, h5⟩ := h3 i n q
  exact ⟨p, h4, e.tup h5⟩
theorem RowAt.gx {H H' : Hp} {a : Addr} {nds : List Nd} (e : Gx H H') (h : RowAt H a nds) : RowAt H' a nds := h.firm e.k
/-- the attributes of a term -/
def tfs (n c e s u l : Addr) : List (Str × V) := [("own_nodes", .ref n), ("own_children", .ref c), ("own_ends", .ref e), ("own_symbols", .ref s), ("own_unknown", .ref u), ("own_lost", .ref l)]
/-- what a tree needs to be a term -/
structure Good (t : Tr) : Prop where
  nodes : ∀ n ∈ t.nodes, GoodNd n
  size : t.size ≤ 40
  ar : ∃ l, arF t.nodes [] = some l
/-- the parts of a term -/
structure TermB (K : PySem.W.Frag) (H : Hp) (n c e s u l : Addr) (t : Tr) : Prop where
  nd : RowAt H n t.nodes
  ch : ChT K H c (t.ch 0)
  en : SqT K H e (intsV (t.ends 0))
  sy : ∃ r r', arF t.nodes [] = some r ∧ Asc (r.filter fun n => !isLeaf n.1) r' ∧ H s = some (.dK (kvD r'))
  un : SqT K H u (intsV (plc t.nodes "_"))
  lo : SqT K H l (intsV (plc t.nodes "#"))
structure TermAt (K : PySem.W.Frag) (C : Addr) (H : Hp) (a : Addr) (t : Tr) : Prop where
  ex : ∃ dx n c e s u l, H a = some (.ins C dx (tfs n c e s u l)) ∧ TermB K H n c e s u l t
  good : Good t
theorem TermB.sx {K : PySem.W.Frag} {H H' : Hp} {n c e s u l : Addr} {t : Tr} (x : Sx H H') (h : TermB K H n c e s u l t) : TermB K H' n c e s u l t := by
  obtain ⟨h1, h2, h3, ⟨r, r', h4, h5, h6⟩, h7, h8⟩ := h
  exact ⟨h1.sx x, h2.sx x, x.t h3, ⟨r, r', h4, h5, x.d h6⟩, x.t h7, x.t h8⟩
theorem TermAt.firm {K : PySem.W.Frag} {C : Addr} {H H' : Hp} {a : Addr} {t : Tr} (x : Kx H H') (h : TermAt K C H a t) : TermAt K C H' a t := by
  obtain ⟨⟨dx, n, c, e, s, u, l, h1, h2⟩, g⟩ := h
  refine ⟨⟨dx, n, c, e, s, u, l, x.keep h1 (fun _ z => by cases z), ?_⟩, g⟩
  obtain ⟨h1, h2, h3, ⟨r, r', h4, h5, h6⟩, h7, h8⟩ := h2
  exact ⟨h1.firm x, h2.firm x, x.t h3, ⟨r, r', h4, h5, x.keep h6 (fun _ z => by cases z)⟩, x.t h7, x.t h8⟩
theorem TermAt.gx {K : PySem.W.Frag} {C : Addr} {H H' : Hp} {a : Addr} {t : Tr} (x : Gx H H') (h : TermAt K C H a t) : TermAt K C H' a t := h.firm x.k
def TermT (K : PySem.W.Frag) (C : Addr) (t : Tr) : Ty := fun v H => ∃ a, v = .ref a ∧ TermAt K C H a t
theorem TermT.firm {K : PySem.W.Frag} {C : Addr} {t : Tr} : Firm (TermT K C t) := fun _ _ _ e ⟨a, z, h⟩ => ⟨a, z, h.firm e⟩
mutual
theorem Tr.ends_len (t : Tr) : ∀ off, (t.ends off).length = t.size := by
  cases t with
  | nd w ts =>
    intro off
    show (endsL ts (off + 1)).length + 1 = (nodesL ts).length + 1
    rw [endsL_len ts]
theorem endsL_len (ts : List Tr) : ∀ off, (endsL ts off).length = (nodesL ts).length := by
  cases ts with
  | nil =>
    intro off
    rfl
  | cons t ts =>
    intro off
    show (t.ends off ++ endsL ts (off + t.size)).length = (t.nodes ++ nodesL ts).length
    rw [List.length_append, List.length_append, Tr.ends_len t, endsL_len ts]
    rfl
end
theorem roots_ge : ∀ {ts : List Tr} {off k : Nat}, k ∈ roots ts off → off ≤ k
  | t :: ts, off, k, h => by
    rcases List.mem_cons.mp h with rfl | h
    · exact Nat.le_refl _
    · have := roots_ge h
      omega
theorem last_end : ∀ (ts : List Tr) (off k : Nat) (r : List Nat), (roots ts off).getLast? = some k → (endsL ts off ++ r).getD (k - off) 0 = off + (nodesL ts).length
  | [], _, _, _, h => by cases h
  | [t], off, k, r, h => by
    have h : some off = some k := h
    cases h
    cases t with
    | nd w us =>
      rw [Nat.sub_self]
      show off + 1 + (nodesL us).length = off + (((w, us.length) :: nodesL us) ++ []).length
      rw [List.append_nil, List.length_cons]
      omega
  | t :: u :: ts, off, k, r, h => by
    have h : (roots (u :: ts) (off + t.size)).getLast? = some k := by
      have h : (off :: roots (u :: ts) (off + t.size)).getLast? = some k := h
      rw [List.getLast?_cons] at h
      cases q : (roots (u :: ts) (off + t.size)).getLast? with
      | none =>
        have := congrArg List.length (List.getLast?_eq_none_iff.mp q)
        rw [roots_len] at this
        cases this
      | some x =>
        rw [q] at h
        exact h
    have hge := roots_ge (List.mem_of_getLast? h)
    have ih := last_end (u :: ts) (off + t.size) k r h
    show ((t.ends off ++ endsL (u :: ts) (off + t.size)) ++ r).getD (k - off) 0 = off + (t.nodes ++ nodesL (u :: ts)).length
    rw [List.append_assoc, List.getD_eq_getElem?_getD, List.getElem?_append_right (by rw [Tr.ends_len]; omega), Tr.ends_len, show k - off - t.size = k - (off + t.size) by omega, ← List.getD_eq_getElem?_getD, ih, List.length_append]
    show off + t.nodes.length + _ = _
    omega
mutual
theorem Tr.enF_of (t : Tr) : ∀ (f : List (List Nat)) (off : Nat), enF (t.ch off ++ f) off = t.ends off ++ enF f (off + t.size) := by
  cases t with
  | nd w ts =>
    intro f off
    have ih := enF_ofL ts f (off + 1)
    have hs : off + Tr.size (.nd w ts) = off + 1 + (nodesL ts).length := by
      show off + ((nodesL ts).length + 1) = _
      omega
    show ((match (roots ts (off + 1)).getLast? with
      | none => off + 1
      | some k => (enF (chL ts (off + 1) ++ f) (off + 1)).getD (k - (off + 1)) 0) :: enF (chL ts (off + 1) ++ f) (off + 1)) = ((off + 1 + (nodesL ts).length) :: endsL ts (off + 1)) ++ enF f (off + Tr.size (.nd w ts))
    rw [ih, hs, List.cons_append]
    congr 1
    cases hq : (roots ts (off + 1)).getLast? with
    | none =>
      have h0 : roots ts (off + 1) = [] := List.getLast?_eq_none_iff.mp hq
      have hl := congrArg List.length h0
      rw [roots_len] at hl
      have : ts = [] := List.eq_nil_of_length_eq_zero hl
      subst this
      rfl
    | some k => exact last_end ts (off + 1) k _ hq
theorem enF_ofL (ts : List Tr) : ∀ (f : List (List Nat)) (off : Nat), enF (chL ts off ++ f) off = endsL ts off ++ enF f (off + (nodesL ts).length) := by
  cases ts with
  | nil =>
    intro f off
    rfl
  | cons t ts =>
    intro f off
    have h1 := Tr.enF_of t (chL ts (off + t.size) ++ f) off
    have h2 := enF_ofL ts f (off + t.size)
    show enF ((t.ch off ++ chL ts (off + t.size)) ++ f) off = (t.ends off ++ endsL ts (off + t.size)) ++ enF f (off + (t.nodes ++ nodesL ts).length)
    rw [List.append_assoc, h1, h2, List.append_assoc, List.length_append]
    congr 3
    show off + t.nodes.length + _ = _
    omega
end
theorem Tr.enF (t : Tr) : TM.enF (t.ch 0) 0 = t.ends 0 := by
  have h := Tr.enF_of t [] 0
  rw [List.append_nil] at h
  rw [h]
  show t.ends 0 ++ [] = _
  rw [List.append_nil]
/-! children stand behind their node -/
theorem roots_lt : ∀ {ts : List Tr} {off k : Nat}, k ∈ roots ts off → k < off + (nodesL ts).length
  | t :: ts, off, k, h => by
    show k < off + (t.nodes ++ nodesL ts).length
    rw [List.length_append]
    have h1 : 1 ≤ t.nodes.length := t.size_pos
    rcases List.mem_cons.mp h with rfl | h
    · omega
    · have := roots_lt h
      have e : t.size = t.nodes.length := rfl
      omega
mutual
theorem Tr.ch_ok (t : Tr) : ∀ (off i : Nat) (c : List Nat), (t.ch off)[i]? = some c → ∀ k ∈ c, off + i < k ∧ k < off + t.size := by
  cases t with
  | nd w ts =>
    intro off i c h k hk
    have hs : off + Tr.size (.nd w ts) = off + 1 + (nodesL ts).length := by
      show off + ((nodesL ts).length + 1) = _
      omega
    cases i with
    | zero =>
      have h : some (roots ts (off + 1)) = some c := h
      cases h
      have h1 := roots_ge hk
      have h2 := roots_lt hk
      omega
    | succ i =>
      have h : (chL ts (off + 1))[i]? = some c := h
      have := chL_ok ts (off + 1) i c h k hk
      omega
theorem chL_ok (ts : List Tr) : ∀ (off i : Nat) (c : List Nat), (chL ts off)[i]? = some c → ∀ k ∈ c, off + i < k ∧ k < off + (nodesL ts).length := by
  cases ts with
  | nil =>
    intro off i c h
    cases h
  | cons t ts =>
    intro off i c h k hk
    have h : (t.ch off ++ chL ts (off + t.size))[i]? = some c := h
    have e : (nodesL (t :: ts)).length = t.size + (nodesL ts).length := by
      show (t.nodes ++ nodesL ts).length = _
      rw [List.length_append]
      rfl
    by_cases hi : i < t.size
    · rw [List.getElem?_append_left (by rw [Tr.ch_len]; exact hi)] at h
      have := Tr.ch_ok t off i c h k hk
      omega
    · rw [List.getElem?_append_right (by rw [Tr.ch_len]; omega), Tr.ch_len] at h
      have := chL_ok ts (off + t.size) (i - t.size) c h k hk
      omega
end
theorem Tr.chOk (t : Tr) : ChOk (t.ch 0) := fun i c h k hk => by
  have := Tr.ch_ok t 0 i c h k hk
  rw [Tr.ch_len]
  omega
end TM
namespace Ly
open PySem PySem.Spec PyProof.Rows L2
/-! ### classes of the text -/
/-- a class, for those who make instances -/
structure CalC (P : Program) (w : World) (K : PySem.W.Frag) (mg : Str → Option Value) (base : Heap) (CX : CXT) (x : Str) (C : Addr) (k : Nat) (ps : List Str) (sp : Sp) : Prop where
  ex : ∃ (f : Addr) (fd : FuncData), Mk K C f ∧ FnOk P w K mg base CX k f fd ps sp ∧ mg x = some (.ref C) ∧ Binds K fd ps []
/-- a class of errors over ValueError without __init__ -/
structure ExC (K : PySem.W.Frag) (mg : Str → Option Value) (nm : Str) (C : Addr) : Prop where
  x : PySem.W.excIn K C [.type "ValueError", .type "Exception", .type "BaseException", .type "object"] "ValueError.__new__" = true
  g : mg nm = some (.ref C)
  k : PySem.W.keepIn K (.ref C) = true
  b : PySem.W.subIn K (.ref C) (.type "BaseException") = some true
  t : PySem.W.typeIn K (.ref C) = some (.type "type")
section
variable {X : Cx} {CX : CXT} {k : Nat} {ps : List Str} {sp : Sp} {x : Str} {C : Addr} {p pos : Pos} {e : Expr} {es : List Expr} {t : TA} {E : XK}
theorem pe_mkc (M : CalC X.prog X.w X.K X.mg X.base CX x C k ps sp) (hr : Room (k + 1) X.A) (hg : Gl X x) (hx : Passes CX X E) (ha : PA X (e :: es) t) (hdb : (x == ("__debug__" : Str)) = false := by decide)
    (he : starEach (e :: es) X.env = (false, eval e X.env) :: starEach es X.env := by rfl) (hpl : (backTo pos (starEach es X.env)).any (·.1) = false := by rfl) :
    PE X (.Call (.Name x p) (e :: es) [] pos) (tMake C sp [] E t) := by
  obtain ⟨f, fd, M, F, hm, hb⟩ := M.ex
  exact pe_make M F hr hg hm hb .nil hx ha hdb he hpl
end
section
variable {K : PySem.W.Frag} {σ : L2.St} {H : Hp} {tv : TE} {tz : TS} {D : Ends} {Φ : Ty} {i : Nat} {a C dx : Addr} {fs : List (Str × V)} {f : Str}
theorem g_fld (h : EvG tv σ H Φ) (hs : σ[i]? = some (some (.ref a))) (ha : H a = some (.ins C dx fs)) (cl : Cls K C) (na : NoAttr K C f) (hl : fs.length < 1000) (k : ∀ y H1, Gx H H1 → Φ y H1 → tz D σ (upd H1 a (.ins C dx (putF f y fs)))) :
    tSeq (sFld K (tVar i) tv f) tz D σ H := h H (Gx.refl H) _ fun y H1 e g => ⟨_, hs, a, C, dx, fs, rfl, e _ _ ha, cl, na, hl, k y H1 e g⟩
theorem g_fld1 (h : EvG tv σ H Φ) (hs : σ[i]? = some (some (.ref a))) (ha : H a = some (.ins C dx fs)) (cl : Cls K C) (na : NoAttr K C f) (hl : fs.length < 1000) (k : ∀ y H1, Gx H H1 → Φ y H1 → D.nx σ (upd H1 a (.ins C dx (putF f y fs)))) :
    sFld K (tVar i) tv f D σ H := h H (Gx.refl H) _ fun y H1 e g => ⟨_, hs, a, C, dx, fs, rfl, e _ _ ha, cl, na, hl, k y H1 e g⟩
theorem evg_fld {v : V} {ta : TE} (h : EvG ta σ H (Eq1 (.ref a))) (ha : H a = some (.ins C dx fs)) (cl : Cls K C) (na : NoAttr K C f) (hl : fs.lookup f = some v) : EvG (tFld K ta f) σ H (Eq1 v) := fun H1 e Q q =>
  h H1 e _ fun u H2 e2 z => ⟨a, C, dx, fs, v, z, (e.trans e2) _ _ ha, cl, na, hl, q _ H2 e2 rfl⟩
end
theorem kps_fld {X : Cx} {K : PySem.W.Frag} {o value : Expr} {ta tv : TE} {f : Str} {pos pos' : Pos} (ha : PE X o ta) (hv : PE X value tv) (hs : swapsWith value (some (.Attribute o f pos')) pos.line X.env = pure false) (hK : X.K = K := by rfl) : PS X (.Assign [.Attribute o f pos'] value pos) (sFld K ta tv f) := by
  subst hK
  exact ps_fld ha hv hs
end Ly
namespace TM
open PySem L2 Ly
/-- what the text has of the class Term -/
structure TermC (K : PySem.W.Frag) (mg : Str → Option Value) (C CN CI : Addr) : Prop where
  cl : Cls K C
  n1 : NoAttr K C "own_nodes"
  n2 : NoAttr K C "own_children"
  n3 : NoAttr K C "own_ends"
  n4 : NoAttr K C "own_symbols"
  n5 : NoAttr K C "own_unknown"
  n6 : NoAttr K C "own_lost"
  gT : mg "Term" = some (.ref C)
  own : Own K C
  isT : PySem.W.kitOne K (.ref C) (.ref C) = some true
  clN : Cls K CN
  nN : NoAttr K CN "told_nodes"
  gN : mg "Nodes" = some (.ref CN)
  ownN : Own K CN
  isN : PySem.W.kitOne K (.ref CN) (.ref CN) = some true
  noTN : PySem.W.kitOne K (.ref C) (.ref CN) = some false
  noN : ∀ n ∈ ["NoneType", "bool", "int", "str", "list", "tuple", "dict"], PySem.W.kitOne K (.type n) (.ref CN) = some false
  noT : ∀ n ∈ ["NoneType", "bool", "int", "str", "list", "tuple", "dict"], PySem.W.kitOne K (.type n) (.ref C) = some false
  inv : ExC K mg "InvalidTerm" CI
def kdTy : Kd → String
  | .non => "NoneType"
  | .bl => "bool"
  | .int => "int"
  | .str => "str"
  | .lst => "list"
  | .tup => "tuple"
  | .dic => "dict"
  | .own => "object"
theorem kd_ty {K : PySem.W.Frag} {H : Hp} {v : V} {k : Kd} (h : Pl K H v k) (hk : k ≠ .own) : TyX K H v (.type (kdTy k)) ∧ kdTy k ∈ ["NoneType", "bool", "int", "str", "list", "tuple", "dict"] := by
  cases h with
  | non => exact ⟨.base .non, by decide⟩
  | bl b => exact ⟨.base (.bl b), by decide⟩
  | int i => exact ⟨.base (.int i), by decide⟩
  | str x => exact ⟨.base (.str x), by decide⟩
  | lst e => exact ⟨.base (.lst e), by decide⟩
  | tup e => exact ⟨.base (.tup e), by decide⟩
  | dK e => exact ⟨.base (.dK e), by decide⟩
  | own e o => exact absurd rfl hk
/-- all but one thing stays -/
def Gxa (a : Addr) (H H' : Hp) : Prop := ∀ b o, b ≠ a → H b = some o → H' b = some o
def spNodesInit (CN : Addr) : Sp := fun vs H Q _ => ∃ (a dx : Addr) (v : V), vs = [.ref a, v] ∧ H a = some (.ins CN dx []) ∧ ∀ H', Gxa a H H' → H' a = some (.ins CN dx [("told_nodes", v)]) → Q .non H'
/-- what Term(..) is given: a row that is told, or any value -/
inductive TermIn (K : PySem.W.Frag) (CN : Addr) (H : Hp) : V → Option Tr → Prop
  | told {a dx n : Addr} {t : Tr} : H a = some (.ins CN dx [("told_nodes", .ref n)]) → RowAt H n t.nodes → Good t → TermIn K CN H (.ref a) (some t)
  | row {n : Addr} {t : Tr} : RowAt H n t.nodes → Good t → TermIn K CN H (.ref n) (some t)
  | none {x : V} {kd : Kd} : RowIn K H x false → Pl K H x kd → kd ≠ .own → TermIn K CN H x none
def spInit (K : PySem.W.Frag) (C CN CI : Addr) : Sp := fun vs H Q E => ∃ (a dx : Addr) (x : V) (o : Option Tr), vs = [.ref a, x] ∧ H a = some (.ins C dx []) ∧ TermIn K CN H x o ∧
  (∀ t, o = some t → ∀ H', Gxa a H H' → TermAt K C H' a t → Q .non H') ∧ (o = none → ∀ H', Gxa a H H' → E (.ref CI) none H')
end TM
namespace TM
open PySem L2 Ly
theorem Gxa.refl (a : Addr) (H : Hp) : Gxa a H H := fun _ _ _ h => h
theorem Gxa.gx {a : Addr} {H H1 H2 : Hp} (e : Gxa a H H1) (g : Gx H1 H2) : Gxa a H H2 := fun b o n h => g _ _ (e b o n h)
theorem Gxa.put {a : Addr} {H H1 : Hp} {o : HO} (e : Gxa a H H1) : Gxa a H (upd H1 a o) := fun b u n h => by
  rw [upd_ne n]
  exact e b u n h
/-- from the place where an instance is made -/
theorem Gxa.made {x dx C : Addr} {H H' : Hp} (hx : H x = none) (hd : H dx = none) (e : Gxa x (upd (upd H dx (.own x)) x (.ins C dx [])) H') : Gx H H' := fun b o h => by
  have n1 : b ≠ x := fun z => by rw [z, hx] at h; cases h
  have n2 : b ≠ dx := fun z => by rw [z, hd] at h; cases h
  exact e b o n1 (by rw [upd_ne n1, upd_ne n2]; exact h)
theorem gx_made {x dx C : Addr} {H : Hp} (hx : H x = none) (hd : H dx = none) : Gx H (upd (upd H dx (.own x)) x (.ins C dx [])) := Gxa.made hx hd (Gxa.refl _ _)
/-- isinstance with a class of the text -/
theorem evg_isc {K : PySem.W.Frag} {σ : L2.St} {H : Hp} {te : TE} {C : Addr} {b : Bool} (h : EvG te σ H (fun v H => ∃ t, TyX K H v t ∧ PySem.W.kitOne K t (.ref C) = some b)) : EvG (tCB (rIsi K) (tCons te (tCons (tC (.ref C)) tNil))) σ H (BlE b) := fun H1 e Q q =>
  h H1 e _ fun v H2 e2 ⟨t, ty, kt⟩ => ⟨v, .ref C, t, .ref C, b, rfl, .own C, ty, kt, q _ H2 e2 ⟨_, rfl, rfl⟩⟩
/-- tuple(list) with what is known of the items -/
theorem evg_tupleP {K : PySem.W.Frag} {σ : L2.St} {H : Hp} {tl : TE} {Ψ : List V → Hp → Prop} (m : ∀ ys H1 H2, Gx H1 H2 → Ψ ys H1 → Ψ ys H2) (h : EvG tl σ H (fun v H => ∃ p ys, v = .ref p ∧ SqL K H p ys ∧ Ψ ys H)) :
    EvG (tCB (rTupK K) (tCons tl tNil)) σ H (fun v H => ∃ p ys, v = .ref p ∧ H p = some (.tup ys) ∧ Ψ ys H) := fun H1 e Q q =>
  h H1 e _ fun v H2 e2 ⟨p, ys, z, hp, f⟩ => ⟨p, ys, by rw [z], .inl ⟨hp, fun l hl => q _ _ (e2.trans (Gx.new hl)) ⟨l, ys, rfl, upd_same, m _ _ _ (Gx.new hl) f⟩⟩⟩
end TM
namespace TM
open PySem L2 Ly
section
variable {K : PySem.W.Frag} {σ : L2.St} {H : Hp} {ta tb : TE} {sp : Sp} {E : XK} {v w : V} {Φ : Ty}
theorem evg_call1 (h : EvG ta σ H (Eq1 v)) (k : ∀ H1, Gx H H1 → ∀ Q : VK, (∀ y H2, Gx H1 H2 → Φ y H2 → Q y H2) → sp [v] H1 Q E) : EvG (tCall sp [] E (tCons ta tNil)) σ H Φ := fun H1 e Q q =>
  h H1 e _ fun u H2 e2 z => by
    have z : u = v := z
    rw [z]
    exact k H2 (e.trans e2) Q fun y H3 e3 f => q y H3 (e2.trans e3) f
theorem evg_call2 (h : EvG ta σ H (Eq1 v)) (h2 : EvG tb σ H (Eq1 w)) (k : ∀ H1, Gx H H1 → ∀ Q : VK, (∀ y H2, Gx H1 H2 → Φ y H2 → Q y H2) → sp [v, w] H1 Q E) : EvG (tCall sp [] E (tCons ta (tCons tb tNil))) σ H Φ := fun H1 e Q q =>
  h H1 e _ fun u H2 e2 z => h2 H2 (e.trans e2) _ fun u2 H3 e3 z2 => by
    have z : u = v := z
    have z2 : u2 = w := z2
    rw [z, z2]
    exact k H3 ((e.trans e2).trans e3) Q fun y H4 e4 f => q y H4 ((e2.trans e3).trans e4) f
end
section
variable {n c e s u l : V}
abbrev fs1 (n : V) : List (Str × V) := [("own_nodes", n)]
abbrev fs2 (n c : V) : List (Str × V) := [("own_nodes", n), ("own_children", c)]
abbrev fs3 (n c e : V) : List (Str × V) := [("own_nodes", n), ("own_children", c), ("own_ends", e)]
abbrev fs4 (n c e s : V) : List (Str × V) := [("own_nodes", n), ("own_children", c), ("own_ends", e), ("own_symbols", s)]
abbrev fs5 (n c e s u : V) : List (Str × V) := [("own_nodes", n), ("own_children", c), ("own_ends", e), ("own_symbols", s), ("own_unknown", u)]
abbrev fs6 (n c e s u l : V) : List (Str × V) := [("own_nodes", n), ("own_children", c), ("own_ends", e), ("own_symbols", s), ("own_unknown", u), ("own_lost", l)]
theorem putF1 : putF "own_nodes" n [] = fs1 n := rfl
theorem putF2 : putF "own_children" c (fs1 n) = fs2 n c := rfl
theorem putF3 : putF "own_ends" e (fs2 n c) = fs3 n c e := rfl
theorem putF4 : putF "own_symbols" s (fs3 n c e) = fs4 n c e s := rfl
theorem putF5 : putF "own_unknown" u (fs4 n c e s) = fs5 n c e s u := rfl
theorem putF6 : putF "own_lost" l (fs5 n c e s u) = fs6 n c e s u l := rfl
end
/-- an instance grown and changed -/
theorem sx_step {H H1 : Hp} {a C dx : Addr} {fs fs' : List (Str × V)} (e : Gx H H1) (h : H a = some (.ins C dx fs)) : Sx H (upd H1 a (.ins C dx fs')) := (sx_of e).trans (sx_put (e _ _ h))
end TM
namespace TM
open PySem L2 Ly
theorem g_if1 {σ : L2.St} {H : Hp} {tt : TT} {tu tw : TS} {D : Ends} {R : Bool → Prop} (h : EvB tt σ H R) (k1 : R true → ∀ H1, Gx H H1 → tu D σ H1) (k2 : R false → ∀ H1, Gx H H1 → tw D σ H1) : tIfS tt tu tw D σ H := h H (Gx.refl H) _ fun b H1 e f => by
  cases b with
  | true => exact k1 f H1 e
  | false => exact k2 f H1 e
theorem RowIn.gx {K : PySem.W.Frag} {H H' : Hp} {x : V} {b : Bool} (e : Gx H H') (h : RowIn K H x b) : RowIn K H' x b := by
  cases h with
  | other p q => exact .other (p.gx e) q
  | size p q => exact .size (e _ _ p) q
  | items p q r => exact .items (e _ _ p) q ⟨r.1, fun i x hx => by
      obtain ⟨b, h1, h2⟩ := r.2.1 i x hx
      exact ⟨b, h1, NodeIn.mono _ _ _ e h2⟩, r.2.2⟩
  | nodes p q r =>
    obtain ⟨xs, h1, h2, h3⟩ := p
    refine .nodes ⟨xs, e _ _ h1, h2, fun i n hn => ?_⟩ q r
    obtain ⟨p, h4, h5⟩ := h3 i n hn
    exact ⟨p, h4, e _ _ h5⟩
end TM

set_option Elab.async false
set_option maxRecDepth 100000
set_option maxHeartbeats 1000000
/-! Operators of own classes, by their methods. -/
namespace Ly
open PySem PySem.Spec PyProof.Rows L2
/-- a method of a class of the text -/
structure CalM (P : Program) (w : World) (K : PySem.W.Frag) (mg : Str → Option Value) (base : Heap) (CX : CXT) (C : Addr) (m : Str) (k : Nat) (ps : List Str) (sp : Sp) : Prop where
  ex : ∃ (f : Addr) (fd : FuncData), Meth K C m f ∧ PySem.W.fnIn K f = true ∧ FnOk P w K mg base CX k f fd ps sp ∧ Binds K fd ps []
section
variable {X : Cx} {CX : CXT} {k : Nat} {C f : Addr} {fd : FuncData} {ps : List Str} {sp : Sp} {E : XK} {m : Str} {pins : List (Addr × Obj)} {σ : L2.St} {H : Hp} {s : Shared} {Q : VK}
/-- the callee runs, deeper in -/
theorem run_at {A : Around} {us : List Value} {vs : List V} (hfr : A.frames = X.A.frames) (F : FnOk X.prog X.w X.K X.mg X.base CX k f fd ps sp) (hr : Room k A) (hb : Binds X.K fd ps []) (hx : Passes CX X E)
    (I : Inv X pins σ H s) (r : Vals vs us) (h : sp vs H Q E) : wpAny (model X.prog X.w) A (call (.ref f) us) (EP X pins σ Q) X.xe s := by
  have hl : us.length = ps.length := by rw [← r.length]; exact F.len _ _ _ _ h
  have e0 : Env0 X.prog X.w X.K X.mg X.base A X.stack s H := by
    have e := I.env0
    exact ⟨by rw [hfr]; exact e.frames, e.mod, e.bs, e.bsz, e.funs, e.frf, e.hok, e.bare⟩
  have hbs := hb s us I.kIn (by rw [List.append_nil]; exact hl)
  rw [List.append_nil] at hbs
  refine wpAny_call (codeAny_mono (F.run A X.stack s H ⟨us, []⟩ us vs Q E hr e0 hbs r h) fun r s' hq => ?_)
  cases r with
  | error e => exact hx pins σ H s e s' I hq
  | ok fl =>
    cases fl with
    | ret u => exact I.after hq
    | next => exact False.elim hq
    | brk => exact False.elim hq
    | cont => exact False.elim hq
/-- len(x) by __len__ -/
def rLenO (C : Addr) (sp : Sp) (E : XK) : List V → Hp → VK → Prop := fun xs H Q => ∃ a dx fs, xs = [.ref a] ∧ H a = some (.ins C dx fs) ∧ sp [.ref a] H (fun v H' => ∃ n : Int, v = .int n ∧ 0 ≤ n ∧ n < 2 ^ 63 ∧ Q (.int n) H') E
theorem call_lenO (M : CalM X.prog X.w X.K X.mg X.base CX C "__len__" k ps sp) (hr : Room (k + 1) X.A) (hx : Passes CX X E) : CallR X (.builtin "len") (rLenO C sp E) := by
  intro pins s σ H xs us Q I r h
  obtain ⟨a, dx, fs, rfl, ha, q⟩ := h
  obtain ⟨u, rfl, ru⟩ := vals1 r
  obtain rfl : u = Value.ref a := ru
  obtain ⟨f, fd, hm, hf, F, hb⟩ := M.ex
  obtain ⟨mA, J, _⟩ := ins_get I.hok ha
  obtain ⟨od, J, _⟩ := J.look
  obtain ⟨m, hF⟩ := I.fr
  refine PySem.W.len_K hF I.ok.mod.kin J hm.at_ hm.fn ?_
  refine thn (run_at (vs := [.ref a]) rfl F hr.in1 hb hx I (.cons rfl .nil) q) fun v s' ⟨y, H', I', ry, n, z, h0, h1, q'⟩ => ?_
  subst z
  obtain ⟨t, rfl⟩ : ∃ t, v = Value.int n t := ry
  exact ⟨⟨h0, h1⟩, ⟨.int n, H', I'.tok _, ⟨_, rfl⟩, q'⟩⟩
end
end Ly
namespace Ly
open PySem PySem.Spec PyProof.Rows L2
section
variable {X : Cx} {CX : CXT} {k i : Nat} {C : Addr} {ps : List Str} {sp : Sp} {E : XK} {x nm : Str} {p pos : Pos} {e : Expr} {es : List Expr} {t : TA}
/-- c(..), the slot holds the class -/
def tMakeL (i : Nat) (C : Addr) (sp : Sp) (E : XK) (t : TA) : TE := fun σ H Q => σ[i]? = some (some (.ref C)) ∧ tMake C sp [] E t σ H Q
theorem pe_mkL (M : CalC X.prog X.w X.K X.mg X.base CX nm C k ps sp) (hr : Room (k + 1) X.A) (hN : X.N[i]? = some x) (hv : Vis X.env.scope x) (hx : Passes CX X E) (ha : PA X (e :: es) t)
    (hdb : (x == ("__debug__" : Str)) = false := by decide) (hcd : (x == ("__classdict__" : Str)) = false := by decide)
    (he : starEach (e :: es) X.env = (false, eval e X.env) :: starEach es X.env := by rfl) (hpl : (backTo pos (starEach es X.env)).any (·.1) = false := by rfl) : PE X (.Call (.Name x p) (e :: es) [] pos) (tMakeL i C sp E t) := by
  refine ⟨fun pins s σ H Q I h => ?_⟩
  obtain ⟨hs, ht⟩ := h
  obtain ⟨f, fd, M, F, hm, hb⟩ := M.ex
  refine wpAny_Call_Name_kw (thn ((pe_var (pos := p) hN hv hdb hcd).run pins s σ H (fun v H1 => v = .ref C ∧ H1 = H) I ⟨.ref C, hs, rfl, rfl⟩) fun u s1 ⟨v, H1, I1, r1, q1⟩ => ?_)
  obtain ⟨rfl, rfl⟩ := q1
  cases r1
  refine PySem.W.callWith_K (h₀ := X.base) I.ok.mod.kin M.kp (thn (ha.run pos pins s1 σ _ _ I1 ht) fun us s2 ⟨vs, H2, I2, r, q⟩ => ⟨I2.kIn, ?_⟩) he hpl
  exact run_make M F hr hb .nil hx I2 r q
end
/-- [y for x in .. for y in t], t a tuple that is known -/
theorem evn_lc2 {K : PySem.W.Frag} {σ : L2.St} {H : Hp} {wi : TI} {ti : TE} {n j j1 : Nat} {vs : List Nat} {Y : Nat → Ty} (L : Nat → List V) (hw : EvW wi σ H n Y) (hwp : ∀ x, wipe ((wipe σ vs).set j (some x)) vs = wipe σ vs) (hj1 : j1 < σ.length)
    (hi : ∀ i x H1, i < n → Gx H H1 → Y i x H1 → EvG ti ((wipe σ vs).set j (some x)) H1 (TupK K (L i))) (hs : ((List.range n).flatMap L).length ≤ 100000) :
    EvN (tLc2 wi (gName j) tYes (iTup K ti) (gName j1) tYes (tVar j1) vs [j1]) σ H (NewL ((List.range n).flatMap L)) := by
  intro H1 e Q q
  refine hw H1 e _ fun J H2 G Y' e2 Wk hG hY => ?_
  intro D hD
  have pre : ∀ i, i < n → ((List.range (i + 1)).flatMap L).length ≤ 100000 := fun i hi => by
    refine Nat.le_trans (List.Sublist.length_le ?_) hs
    obtain ⟨k, rfl⟩ : ∃ k, n = i + 1 + k := ⟨n - (i + 1), by omega⟩
    rw [List.range_add (n := i + 1), List.flatMap_append]
    exact List.sublist_append_left _ _
  refine ⟨fun i m H' => m + i = n ∧ Gx H2 H' ∧ H' D = some (.lst ((List.range i).flatMap L)), ⟨n, rfl, Gx.new hD, upd_same⟩, ?_⟩
  rintro i m H3 ⟨hm, e3, hD3⟩
  by_cases hin : i = n
  · subst hin
    exact .inl ⟨Wk.stops H3 (hG H3 e3), q D H3 (e2.trans e3) (e2.free hD) hD3⟩
  · have hlt : i < n := by omega
    have hp := pre i hlt
    rw [List.range_succ, List.flatMap_append, List.length_append] at hp
    have hl1 : ([i].flatMap L) = L i := by simp
    rw [hl1] at hp
    refine .inr ⟨Wk.goes i H3 hlt (hG H3 e3), fun H' => Gx H2 H' ∧ H' D = some (.lst ((List.range (i + 1)).flatMap L)), fun H' ⟨h1, h2⟩ => ⟨m - 1, by omega, by omega, h1, h2⟩, fun x H4 y => ?_⟩
    obtain ⟨e4, y⟩ := hY i H3 x H4 hlt e3 (Wk.yields i H3 x H4 hlt (hG H3 e3) y)
    have e5 := ((e.trans e2).trans e3).trans e4
    refine ⟨hwp x, ?_⟩
    simp only [tYes, if_true]
    refine hi i x H4 hlt e5 y H4 (Gx.refl _) _ fun v H5 e6 ⟨a, z, ha⟩ => ⟨a, z, ⟨_, ha⟩, ?_⟩
    refine ⟨fun c m' H' => m' + c = (L i).length ∧ Gx H2 H' ∧ Kx H5 H' ∧ H' D = some (.lst ((List.range i).flatMap L ++ (L i).take c)), ⟨(L i).length, rfl, (e3.trans e4).trans e6, Kx.refl _, by
      rw [List.take_zero, List.append_nil]
      exact (e4.trans e6) _ _ hD3⟩, ?_⟩
    rintro c m' H6 ⟨hm', e7, k7, hD6⟩
    by_cases hc : c = (L i).length
    · refine .inl ⟨(walk_tup (xs := L i)).stops H6 (k7.t ha) |> fun z => by rw [hc]; exact z, e7, ?_⟩
      rw [hc, List.take_length] at hD6
      rw [List.range_succ, List.flatMap_append, hl1]
      exact hD6
    · have hc : c < (L i).length := by omega
      refine .inr ⟨(walk_tup (xs := L i)).goes c H6 hc (k7.t ha), fun H' => Gx H2 H' ∧ Kx H5 H' ∧ H' D = some (.lst ((List.range i).flatMap L ++ (L i).take (c + 1))), fun H' ⟨h1, h2, h3⟩ => ⟨m' - 1, by omega, by omega, h1, h2, h3⟩, fun y H7 yy => ?_⟩
      obtain ⟨z7, hy⟩ := (walk_tup (xs := L i)).yields c H6 y H7 hc (k7.t ha) yy
      subst z7
      refine ⟨wipe1, ?_⟩
      refine ⟨y, ?_, _, hD6, Evl.sz_lt (by rw [List.length_append, List.length_take]; omega), e7.mut hD, k7.trans (Kx.put hD6), ?_⟩
      · rw [List.getElem?_set_self]
        rw [wipe_length, List.length_set, wipe_length]
        exact hj1
      · rw [upd_same, List.append_assoc]
        congr 3
        rw [List.take_add_one, hy]
        rfl
end Ly
namespace TM
open PySem L2 Ly
/-- items that are nodes -/
def RowL (H : Hp) (xs : List V) (nds : List Nd) : Prop := xs.length = nds.length ∧ ∀ (i : Nat) (n : Nd), nds[i]? = some n → ∃ p, xs[i]? = some (.ref p) ∧ H p = some (.tup [.str n.1, .int (n.2 : Int)])
theorem rowAt_iff {H : Hp} {a : Addr} {nds : List Nd} : RowAt H a nds ↔ ∃ xs, H a = some (.tup xs) ∧ RowL H xs nds := Iff.rfl
theorem RowL.nil {H : Hp} : RowL H [] [] := ⟨rfl, fun i n h => by cases h⟩
theorem RowL.gx {H H' : Hp} {xs : List V} {nds : List Nd} (e : Gx H H') (h : RowL H xs nds) : RowL H' xs nds := ⟨h.1, fun i n q => by
  obtain ⟨p, h1, h2⟩ := h.2 i n q
  exact ⟨p, h1, e _ _ h2⟩⟩
theorem RowL.app {H : Hp} {xs ys : List V} {nds mds : List Nd} (h : RowL H xs nds) (k : RowL H ys mds) : RowL H (xs ++ ys) (nds ++ mds) := by
  refine ⟨by rw [List.length_append, List.length_append, h.1, k.1], fun i n q => ?_⟩
  by_cases hi : i < nds.length
  · rw [List.getElem?_append_left hi] at q
    rw [List.getElem?_append_left (by rw [h.1]; exact hi)]
    exact h.2 i n q
  · rw [List.getElem?_append_right (by omega)] at q
    rw [List.getElem?_append_right (by rw [h.1]; omega), h.1]
    exact k.2 _ n q
theorem RowL.one {H : Hp} {p : Addr} {n : Nd} (h : H p = some (.tup [.str n.1, .int (n.2 : Int)])) : RowL H [.ref p] [n] := ⟨rfl, fun i m q => by
  cases i with
  | zero => cases q; exact ⟨p, rfl, h⟩
  | succ i => cases q⟩
theorem RowL.flat {H : Hp} {L : Nat → List V} : ∀ (ts : List Tr) (o : Nat), (∀ (i : Nat) (t : Tr), ts[i]? = some t → RowL H (L (o + i)) t.nodes) → RowL H ((List.range' o ts.length).flatMap L) (nodesL ts)
  | [], _, _ => .nil
  | t :: ts, o, h => by
    show RowL H (L o ++ (List.range' (o + 1) ts.length).flatMap L) (t.nodes ++ nodesL ts)
    refine (h 0 t rfl).app (RowL.flat ts (o + 1) fun i u q => ?_)
    have := h (i + 1) u q
    rw [show o + 1 + i = o + (i + 1) by omega]
    exact this
def spTermOf (K : PySem.W.Frag) (C : Addr) : Sp := fun vs H Q _ => ∃ (n : Addr) (t : Tr), vs = [.ref n] ∧ RowAt H n t.nodes ∧ Good t ∧ ∀ p H', Gx H H' → H p = none → TermAt K C H' p t → Q (.ref p) H'
def spLen (K : PySem.W.Frag) (C : Addr) : Sp := fun vs H Q _ => ∃ (a : Addr) (t : Tr), vs = [.ref a] ∧ TermAt K C H a t ∧ ∀ H', Gx H H' → Q (.int (t.size : Int)) H'
/-- a value that is a term, or surely none -/
inductive IsTerm (K : PySem.W.Frag) (C : Addr) (H : Hp) : V → Option Tr → Prop
  | term {a : Addr} {t : Tr} : TermAt K C H a t → IsTerm K C H (.ref a) (some t)
  | none {x : V} {kd : Kd} : Pl K H x kd → kd ≠ .own → IsTerm K C H x none
theorem IsTerm.gx {K : PySem.W.Frag} {C : Addr} {H H' : Hp} {x : V} {o : Option Tr} (e : Gx H H') (h : IsTerm K C H x o) : IsTerm K C H' x o := by
  cases h with
  | term h => exact .term (h.gx e)
  | none p k => exact .none (p.gx e) k
theorem IsTerm.ty {K : PySem.W.Frag} {mg : Str → Option Value} {C CN CI : Addr} (TC : TermC K mg C CN CI) {H : Hp} {x : V} {o : Option Tr} (h : IsTerm K C H x o) : ∃ t, TyX K H x t ∧ PySem.W.kitOne K t (.ref C) = some o.isSome := by
  cases h with
  | term h =>
    obtain ⟨⟨dx, n, c, e, s, u, l, h1, _⟩, _⟩ := h
    exact ⟨_, .base (.ins h1 TC.cl TC.own.ha TC.own.hn TC.own.htk TC.own.hm), TC.isT⟩
  | none p k => exact ⟨_, (kd_ty p k).1, TC.noT _ (kd_ty p k).2⟩
/-- what build is given: the word, the arguments; the term, or none -/
inductive BuildIn (K : PySem.W.Frag) (C : Addr) (H : Hp) : V → List V → Option Tr → Prop
  | word {x : V} {kd : Kd} {xs : List V} : Pl K H x kd → Small x → isNode2 x (.int (xs.length : Int)) = false → BuildIn K C H x xs none
  | arg {x : V} {kd : Kd} {xs : List V} {os : List (Option Tr)} : Pl K H x kd → Small x → isNode2 x (.int (xs.length : Int)) = true → os.length = xs.length → (∀ (i : Nat) (y : V), xs[i]? = some y → ∃ o, os[i]? = some o ∧ IsTerm K C H y o) → os.all Option.isSome = false → BuildIn K C H x xs none
  | made {w : Str} {xs : List V} {ts : List Tr} : w.length ≤ 1000 → isNode2 (.str w) (.int (ts.length : Int)) = true → xs.length = ts.length → (∀ (i : Nat) (t : Tr), ts[i]? = some t → ∃ a, xs[i]? = some (.ref a) ∧ TermAt K C H a t) → Good (.nd w ts) → BuildIn K C H (.str w) xs (some (.nd w ts))
  | bad {w : Str} {xs : List V} {ts : List Tr} : w.length ≤ 1000 → isNode2 (.str w) (.int (ts.length : Int)) = true → xs.length = ts.length → (∀ (i : Nat) (t : Tr), ts[i]? = some t → ∃ a, xs[i]? = some (.ref a) ∧ TermAt K C H a t) → 40 < Tr.size (.nd w ts) ∨ arF (Tr.nodes (.nd w ts)) [] = none → BuildIn K C H (.str w) xs none
def spBuild1 (K : PySem.W.Frag) (C CI : Addr) : Sp := fun vs H Q E => ∃ (x : V) (p : Addr) (xs : List V) (o : Option Tr), vs = [.ref C, x, .ref p] ∧ xs.length ≤ 1000 ∧ H p = some (.tup xs) ∧ BuildIn K C H x xs o ∧
  (∀ t, o = some t → ∀ q H', Gx H H' → H q = none → TermAt K C H' q t → Q (.ref q) H') ∧ (o = none → ∀ H', Gx H H' → E (.ref CI) none H')
end TM
namespace TM
open PySem L2 Ly
theorem evg_callP {σ : L2.St} {H : Hp} {ta : TE} {sp : Sp} {E : XK} {Ψ Φ : Ty} (h : EvG ta σ H Ψ) (k : ∀ v H1, Gx H H1 → Ψ v H1 → ∀ Q : VK, (∀ y H2, Gx H1 H2 → Φ y H2 → Q y H2) → sp [v] H1 Q E) : EvG (tCall sp [] E (tCons ta tNil)) σ H Φ := fun H1 e Q q =>
  h H1 e _ fun u H2 e2 z => k u H2 (e.trans e2) z Q fun y H3 e3 f => q y H3 (e2.trans e3) f
theorem size_nd {ts : List Tr} (h : ∀ t ∈ ts, t.size ≤ 40) : (nodesL ts).length ≤ 40 * ts.length := by
  induction ts with
  | nil => exact Nat.le_refl _
  | cons t ts ih =>
    show (t.nodes ++ nodesL ts).length ≤ 40 * (ts.length + 1)
    rw [List.length_append]
    have h1 := h t (List.mem_cons_self ..)
    have h2 := ih fun u hu => h u (List.mem_cons_of_mem _ hu)
    have e : t.size = t.nodes.length := rfl
    omega
theorem good_nodesL {ts : List Tr} (h : ∀ t ∈ ts, Good t) : ∀ n ∈ nodesL ts, GoodNd n := by
  induction ts with
  | nil => exact fun n hn => by cases hn
  | cons t ts ih =>
    intro n hn
    rcases List.mem_append.mp (show n ∈ t.nodes ++ nodesL ts from hn) with q | q
    · exact (h t (List.mem_cons_self ..)).nodes n q
    · exact ih (fun u hu => h u (List.mem_cons_of_mem _ hu)) n q
/-- a row that is no term's -/
theorem row_bad {K : PySem.W.Frag} {H : Hp} {a : Addr} {t : Tr} (h : RowAt H a t.nodes) (hg : ∀ n ∈ t.nodes, GoodNd n) (hb : 40 < t.size ∨ arF t.nodes [] = none) : RowIn K H (.ref a) false := by
  obtain ⟨xs, h1, h2, h3⟩ := h
  by_cases hs : 40 < t.size
  · exact .size h1 (.inr (by rw [h2]; exact hs))
  · have hb := hb.resolve_left hs
    have := RowIn.nodes (K := K) ⟨xs, h1, h2, h3⟩ ⟨t.size_pos, by show t.size ≤ 40; omega⟩ hg
    rw [hb] at this
    simpa using this
end TM
namespace TM
open PySem L2 Ly
theorem mk_use {σ : L2.St} {H : Hp} {ta : TE} {sp : Sp} {E : XK} {C : Addr} {Ψ : Ty} {Q : VK} (h : EvG ta σ H Ψ) (k : ∀ v H1, Gx H H1 → Ψ v H1 → ∀ x dx, H1 x = none → H1 dx = none → dx ≠ x → sp [.ref x, v] (upd (upd H1 dx (.own x)) x (.ins C dx [])) (fun v H2 => v = .non ∧ Q (.ref x) H2) E) :
    tMake C sp [] E (tCons ta tNil) σ H Q := h H (Gx.refl _) _ fun v H1 e f x dx hx hd hn => k v H1 e f x dx hx hd hn
theorem mkL_use {i : Nat} {σ : L2.St} {H : Hp} {ta : TE} {sp : Sp} {E : XK} {C : Addr} {Ψ : Ty} {Q : VK} (hs : σ[i]? = some (some (.ref C))) (h : EvG ta σ H Ψ) (k : ∀ v H1, Gx H H1 → Ψ v H1 → ∀ x dx, H1 x = none → H1 dx = none → dx ≠ x → sp [.ref x, v] (upd (upd H1 dx (.own x)) x (.ins C dx [])) (fun v H2 => v = .non ∧ Q (.ref x) H2) E) :
    tMakeL i C sp E (tCons ta tNil) σ H Q := ⟨hs, mk_use h k⟩
end TM
namespace Ly
open PySem PySem.Spec PyProof.Rows L2
/-- a classmethod of a class of the text -/
structure CalK (P : Program) (w : World) (K : PySem.W.Frag) (mg : Str → Option Value) (base : Heap) (CX : CXT) (C : Addr) (m : Str) (k : Nat) (sp : Sp) : Prop where
  ex : ∃ (mc : Value) (p g : Addr), ClX.CRead K C mc ∧ ClX.CMet K C mc m p g ∧ FnR P w K mg base CX k g sp
theorem pe_cmt {X : Cx} {CX : CXT} {k : Nat} {C : Addr} {m : Str} {sp : Sp} {E : XK} {o e : Expr} {es : List Expr} {ta : TE} {t : TA} {pos apos : Pos} {pl : Sem Bool} (he : PE X o ta) (M : CalK X.prog X.w X.K X.mg X.base CX C m k sp) (hr : Room k X.A) (hx : Passes CX X E) (ha : PA X (e :: es) t)
    (hst : starEach (e :: es) X.env = (false, eval e X.env) :: starEach es X.env := by rfl) (hpl : (backTo pos (starEach es X.env)).any (·.1) = false := by rfl)
    (ht : eval (.Call (.Attribute o m apos) (e :: es) [] pos) X.env = (do
      let ov ← eval o X.env
      standAt apos.atName
      let (f, first) ← holding [ov] (getMethod ov m pl)
      callWith pos f first (backTo pos (starEach (e :: es) X.env)) (backToKw pos (keywordEach [] X.env))) := by rfl) :
    PE X (.Call (.Attribute o m apos) (e :: es) [] pos) (ClX.tCMeth C sp E ta t) := by
  obtain ⟨mc, p, g, r, c, F⟩ := M.ex
  exact ClX.pe_cmeth (pl := pl) he r c F hr hx ha hst hpl ht
end Ly
namespace TM
open PySem L2 Ly
theorem BuildIn.gx {K : PySem.W.Frag} {C : Addr} {H H' : Hp} {x : V} {xs : List V} {o : Option Tr} (e : Gx H H') (h : BuildIn K C H x xs o) : BuildIn K C H' x xs o := by
  cases h with
  | word p s b => exact .word (p.gx e) s b
  | arg p s b l k a => exact .arg (p.gx e) s b l (fun i y hy => by
      obtain ⟨o, h1, h2⟩ := k i y hy
      exact ⟨o, h1, h2.gx e⟩) a
  | made w b l k g => exact .made w b l (fun i t ht => by
      obtain ⟨a, h1, h2⟩ := k i t ht
      exact ⟨a, h1, h2.gx e⟩) g
  | bad w b l k g => exact .bad w b l (fun i t ht => by
      obtain ⟨a, h1, h2⟩ := k i t ht
      exact ⟨a, h1, h2.gx e⟩) g
def spBuild (K : PySem.W.Frag) (C CI : Addr) : Sp := fun vs H Q E => ∃ (x : V) (xs : List V) (o : Option Tr), vs = .ref C :: x :: xs ∧ xs.length ≤ 1000 ∧ BuildIn K C H x xs o ∧
  (∀ t, o = some t → ∀ q H', Gx H H' → H q = none → TermAt K C H' q t → Q (.ref q) H') ∧ (o = none → ∀ H', Gx H H' → E (.ref CI) none H')
theorem build_of {P : Program} {w : World} {K : PySem.W.Frag} {mg : Str → Option Value} {base : Heap} {CX : CXT} {k : Nat} {f C CI : Addr} (F : FnR P w K mg base CX k f (fun vs H Q E => ∃ ws rest, vs = ws ++ rest ∧ ws.length = ["cls", "word"].length ∧ rest.length ≤ sizeLine ∧ ∀ p, H p = none → spBuild1 K C CI (ws ++ [V.ref p]) (upd H p (.tup rest)) Q E)) :
    FnR P w K mg base CX k f (spBuild K C CI) := F.imp fun vs H Q E ⟨x, xs, o, hv, hl, hb, k1, k2⟩ => ⟨[.ref C, x], xs, hv, rfl, Evl.sz_of (by omega), fun p hp => ⟨x, p, xs, o, rfl, hl, upd_same, hb.gx (Gx.new hp), fun t z q H' e hq ht => k1 t z q H' ((Gx.new hp).trans e) ((Gx.new hp).free hq) ht, fun z H' e => k2 z H' ((Gx.new hp).trans e)⟩⟩
end TM

set_option Elab.async false
set_option maxRecDepth 100000
set_option maxHeartbeats 1000000
/-! Plain terms: tuples of a word and a tuple of plain terms. -/
namespace TM
open PySem L2 Ly
mutual
def PT (H : Hp) : Tr → V → Prop
  | .nd w ts, v => ∃ p q vs, v = .ref p ∧ H p = some (.tup [.str w, .ref q]) ∧ H q = some (.tup vs) ∧ PTL H ts vs
def PTL (H : Hp) : List Tr → List V → Prop
  | [], vs => vs = []
  | t :: ts, vs => ∃ v r, vs = v :: r ∧ PT H t v ∧ PTL H ts r
end
mutual
theorem PT.firm {H H' : Hp} (e : Kx H H') (t : Tr) : ∀ v, PT H t v → PT H' t v := by
  cases t with
  | nd w ts =>
    intro v h
    unfold PT at h ⊢
    obtain ⟨p, q, vs, z, h1, h2, h3⟩ := h
    exact ⟨p, q, vs, z, e.tup h1, e.tup h2, PTL.firm e ts vs h3⟩
theorem PTL.firm {H H' : Hp} (e : Kx H H') (ts : List Tr) : ∀ vs, PTL H ts vs → PTL H' ts vs := by
  cases ts with
  | nil =>
    intro vs h
    unfold PTL at h ⊢
    exact h
  | cons t ts =>
    intro vs h
    unfold PTL at h ⊢
    obtain ⟨v, r, z, h1, h2⟩ := h
    exact ⟨v, r, z, PT.firm e t v h1, PTL.firm e ts r h2⟩
end
theorem PT.gx {H H' : Hp} (e : Gx H H') {t : Tr} {v : V} (h : PT H t v) : PT H' t v := PT.firm e.k t v h
theorem PTL.gx {H H' : Hp} (e : Gx H H') {ts : List Tr} {vs : List V} (h : PTL H ts vs) : PTL H' ts vs := PTL.firm e.k ts vs h
theorem PT.ex {H : Hp} {w : Str} {ts : List Tr} {v : V} (h : PT H (.nd w ts) v) : ∃ p q vs, v = .ref p ∧ H p = some (.tup [.str w, .ref q]) ∧ H q = some (.tup vs) ∧ PTL H ts vs := by
  unfold PT at h
  exact h
theorem PT.mk {H : Hp} {w : Str} {ts : List Tr} {p q : Addr} {vs : List V} (h1 : H p = some (.tup [.str w, .ref q])) (h2 : H q = some (.tup vs)) (h3 : PTL H ts vs) : PT H (.nd w ts) (.ref p) := by
  unfold PT
  exact ⟨p, q, vs, rfl, h1, h2, h3⟩
theorem PTL.nil {H : Hp} : PTL H [] [] := by
  unfold PTL
  rfl
theorem PTL.cons {H : Hp} {t : Tr} {ts : List Tr} {v : V} {vs : List V} (h : PT H t v) (k : PTL H ts vs) : PTL H (t :: ts) (v :: vs) := by
  unfold PTL
  exact ⟨v, vs, rfl, h, k⟩
theorem PTL.len {H : Hp} : ∀ {ts : List Tr} {vs : List V}, PTL H ts vs → vs.length = ts.length
  | [], vs, h => by
    unfold PTL at h
    rw [h]
    rfl
  | t :: ts, vs, h => by
    unfold PTL at h
    obtain ⟨v, r, rfl, _, h⟩ := h
    rw [List.length_cons, List.length_cons, PTL.len h]
theorem PTL.get {H : Hp} : ∀ {ts : List Tr} {vs : List V}, PTL H ts vs → ∀ {i : Nat} {v : V}, vs[i]? = some v → ∃ t, ts[i]? = some t ∧ PT H t v
  | [], vs, h, i, v, q => by
    unfold PTL at h
    subst h
    cases q
  | t :: ts, vs, h, i, v, q => by
    unfold PTL at h
    obtain ⟨x, r, rfl, h1, h2⟩ := h
    cases i with
    | zero => cases q; exact ⟨t, rfl, h1⟩
    | succ i => exact PTL.get h2 (i := i) q
theorem PTL.of {H : Hp} {P : Tr → Prop} : ∀ {vs : List V}, (∀ v ∈ vs, ∃ t, PT H t v ∧ P t) → ∃ ts, PTL H ts vs ∧ ∀ t ∈ ts, P t
  | [], _ => ⟨[], PTL.nil, fun t h => by cases h⟩
  | v :: vs, h => by
    obtain ⟨t, h1, h2⟩ := h v (List.mem_cons_self ..)
    obtain ⟨ts, h3, h4⟩ := PTL.of fun u hu => h u (List.mem_cons_of_mem _ hu)
    refine ⟨t :: ts, h3.cons h1, fun u hu => ?_⟩
    rcases List.mem_cons.mp hu with rfl | hu
    · exact h2
    · exact h4 u hu
/-- words of a table, or leaves -/
def Fit (D : List Nd) (ls : List Str) (t : Tr) : Prop := ∀ n ∈ t.nodes, n ∈ D ∨ (n.1 ∈ ls ∧ n.2 = 0)
theorem mem_nodesL {n : Nd} : ∀ {ts : List Tr}, n ∈ nodesL ts → ∃ t ∈ ts, n ∈ t.nodes
  | t :: ts, h => by
    rcases List.mem_append.mp (show n ∈ t.nodes ++ nodesL ts from h) with q | q
    · exact ⟨t, List.mem_cons_self .., q⟩
    · obtain ⟨u, h1, h2⟩ := mem_nodesL q
      exact ⟨u, List.mem_cons_of_mem _ h1, h2⟩
theorem Fit.nd {D : List Nd} {ls : List Str} {w : Str} {ts : List Tr} (h : (w, ts.length) ∈ D ∨ (w ∈ ls ∧ ts.length = 0)) (k : ∀ t ∈ ts, Fit D ls t) : Fit D ls (.nd w ts) := fun n hn => by
  rcases List.mem_cons.mp (show n ∈ (w, ts.length) :: nodesL ts from hn) with rfl | q
  · exact h
  · obtain ⟨t, h1, h2⟩ := mem_nodesL q
    exact k t h1 n h2
theorem sizeL_le {m : Nat} : ∀ {ts : List Tr}, (∀ t ∈ ts, t.size ≤ m) → (nodesL ts).length ≤ m * ts.length
  | [], _ => Nat.zero_le _
  | t :: ts, h => by
    show (t.nodes ++ nodesL ts).length ≤ m * (ts.length + 1)
    rw [List.length_append, Nat.mul_add, Nat.mul_one]
    have h1 : t.nodes.length ≤ m := h t (List.mem_cons_self ..)
    have h2 := sizeL_le fun u hu => h u (List.mem_cons_of_mem _ hu)
    omega
theorem htL_le {m : Nat} : ∀ {ts : List Tr}, (∀ t ∈ ts, t.ht ≤ m) → htL ts ≤ m + 1
  | [], _ => Nat.zero_le _
  | t :: ts, h => by
    show max (t.ht + 1) (htL ts) ≤ m + 1
    have h1 := h t (List.mem_cons_self ..)
    have h2 := htL_le fun u hu => h u (List.mem_cons_of_mem _ hu)
    omega
/-! specs of the law's own defs -/
def spNodesOf (h : Nat) : Sp := fun vs H Q _ => ∃ (v : V) (t : Tr), vs = [v] ∧ PT H t v ∧ t.ht < h ∧ t.size ≤ 2000 ∧ ∀ p xs H', Gx H H' → H p = none → H' p = some (.lst xs) → RowL H' xs t.nodes → Q (.ref p) H'
structure Sym (D : List Nd) (ls : List Str) : Prop where
  nodup : (D.map (·.1)).Nodup
  len : D.length < 64
  ar : ∀ n ∈ D, n.2 ≤ 3
  con : ∃ w, (w, 0) ∈ D
  ll : ls.length ≤ 100
  lok : ∀ x ∈ ls, PyData.strOk x = true
def spDraw (h : Nat) : Sp := fun vs H Q _ => ∃ (c d l : Addr) (deep : Nat) (D : List Nd) (ls : List Str), vs = [.ref c, .ref d, .ref l, .int (deep : Int)] ∧ H c = some (diceO c) ∧ H d = some (.dK (kvD D)) ∧ H l = some (.lst (ls.map V.str)) ∧ Sym D ls ∧ deep < h ∧ deep ≤ 5 ∧
  ∀ v t H', Gx H H' → PT H' t v → Fit D ls t → t.size ≤ 4 ^ (deep + 1) → t.ht ≤ deep → Q v H'
def spSmall : Sp := fun vs H Q _ => ∃ (c d l : Addr) (deep most : Nat) (D : List Nd) (ls : List Str), vs = [.ref c, .ref d, .ref l, .int (deep : Int), .int (most : Int)] ∧ H c = some (diceO c) ∧ H d = some (.dK (kvD D)) ∧ H l = some (.lst (ls.map V.str)) ∧ Sym D ls ∧ (ls = [] → (("a", 0) : Nd) ∈ D) ∧ deep ≤ 4 ∧ 1 ≤ most ∧
  ∀ v t H', Gx H H' → PT H' t v → Fit D ls t → t.size ≤ most → t.ht ≤ 5 → Q v H'
end TM
namespace TM
open PySem L2 Ly
def LstE (xs : List V) : Ty := fun v H => ∃ p, v = .ref p ∧ H p = some (.lst xs)
theorem LstE.mono {xs : List V} : Mono (LstE xs) := fun _ _ _ e ⟨p, z, h⟩ => ⟨p, z, e _ _ h⟩
def rSortedDk : List V → Hp → VK → Prop := fun xs H Q => ∃ (a : Addr) (kvs : List (Key × V)) (ks : List Str), xs = [.ref a] ∧ Rd H a (.dK kvs) ∧ kvs.map (·.1) = ks.map Sum.inr ∧ ks.length < 64 ∧ ∀ ys p, ys.Perm ks → PyProof.Rows.sortedS ys = true → H p = none → Q (.ref p) (upd H p (.lst (ys.map V.str)))
theorem kcall_sortedD {X : Cx} (hc : X.calm = true) : CallR X (.builtin "sorted") rSortedDk := call_sortedD hc
section
variable {K : PySem.W.Frag} {σ : L2.St} {H : Hp} {ta tb td tl te : TE} {tr : TA} {xs ys : List V} {D : List Nd} {d : Addr}
theorem newl_e (h : EvN te σ H (NewL xs)) : EvG te σ H (LstE xs) := h.g fun p _ _ _ _ _ f => ⟨p, rfl, f⟩
theorem evg_le {l : Addr} (h : EvG te σ H (Eq1 (.ref l))) (hl : H l = some (.lst xs)) : EvG te σ H (LstE xs) := h.imp fun v H2 e z => ⟨l, z, e _ _ hl⟩
theorem evn_catE (ha : EvG ta σ H (LstE xs)) (hb : EvG tb σ H (LstE ys)) (hn : xs.length + ys.length ≤ 100000) : EvN (tOp rCat ta tb) σ H (NewL (xs ++ ys)) := fun H1 e Q q =>
  ha H1 e _ fun _ H2 e2 ⟨a, z, fa⟩ => hb H2 (e.trans e2) _ fun _ H3 e3 ⟨b, z2, fb⟩ => ⟨a, b, xs, ys, z, z2, e3 _ _ fa, fb, Evl.sz_of hn, fun p hp => q p _ ((e2.trans e3).trans (Gx.new hp)) ((e2.trans e3).free hp) upd_same⟩
theorem evn_lstE (h : EvGs tr σ H (fun vs _ => vs = xs)) (hn : xs.length ≤ 100000) : EvN (tLst tr) σ H (NewL xs) :=
  evn_lst h (fun vs _ z => by rw [z]; exact hn) fun vs p _ _ _ z _ _ hp => by
    rw [z] at hp
    exact hp
theorem evg_pickE (hd : EvG td σ H DiceT) (hl : EvG tl σ H (LstE xs)) (hn : 0 < xs.length ∧ xs.length ≤ 100000) : EvG (tCall (spPick K) [] E0 (tCons td (tCons tl tNil))) σ H (fun v _ => v ∈ xs) := fun H1 e Q q =>
  hd H1 e _ fun _ H2 e2 ⟨c, z, hc⟩ => hl H2 (e.trans e2) _ fun _ H3 e3 ⟨l, z2, h⟩ => ⟨c, l, xs, by rw [z, z2]; rfl, e3 _ _ hc, SqL.of h, hn.1, by omega, fun j x hj => q x H3 (e2.trans e3) (List.mem_of_getElem? hj)⟩
theorem evn_sortedD (h : EvG td σ H (Eq1 (.ref d))) (hd : H d = some (.dK (kvD D))) (hl : D.length < 64) : EvN (tCB rSortedDk (tCons td tNil)) σ H (fun p H' => ∃ zs : List Str, zs.Perm (D.map (·.1)) ∧ PyProof.Rows.sortedS zs = true ∧ H' p = some (.lst (zs.map V.str))) := fun H1 e Q q =>
  h H1 e _ fun v H2 e2 z => ⟨d, kvD D, D.map (·.1), by rw [show v = .ref d from z], .inl ((e.trans e2) _ _ hd), by unfold kvD; rw [List.map_map, List.map_map]; rfl, by rw [List.length_map]; exact hl, fun zs p h1 h2 hp => q p _ (e2.trans (Gx.new hp)) (e2.free hp) ⟨zs, h1, h2, upd_same⟩⟩
theorem evg_dgetS {w : Str} {a : Nat} (h : EvG td σ H (Eq1 (.ref d))) (hk : EvG ta σ H (Eq1 (.str w))) (hd : H d = some (.dK (kvD D))) (hw : D.lookup w = some a) : EvG (tDGet td ta) σ H (IntT fun i => i = (a : Int)) := fun H1 e Q q =>
  h H1 e _ fun v H2 e2 z => hk H2 (e.trans e2) _ fun u H3 e3 z2 => ⟨d, .int (a : Int), z, .inl ⟨kvD D, Sum.inr w, .inl (((e.trans e2).trans e3) _ _ hd), (by rw [show u = .str w from z2]; rfl), by rw [kvD_val, hw]; rfl⟩, q _ H3 (e2.trans e3) ⟨_, rfl, rfl⟩⟩
/-- [w for w in .. if ..], texts -/
theorem evn_lcS {wi : TI} {tt : TT} {j : Nat} {zs : List Str} {P : Str → Bool} (hw : EvW wi σ H zs.length (fun i x _ => (zs.map V.str)[i]? = some x)) (hn : zs.length ≤ 100000) (hj : j < σ.length)
    (ht : ∀ w ∈ zs, ∀ H1, Gx H H1 → EvB tt ((wipe σ [j]).set j (some (.str w))) H1 (fun b => b = P w)) : EvN (tLc wi (gName j) tt (tVar j) [j]) σ H (NewL ((zs.filter P).map V.str)) := by
  have hx : ∀ {i : Nat} {x : V}, (zs.map V.str)[i]? = some x → x = .str (zs.getD i "") ∧ zs.getD i "" ∈ zs := fun {i x} h => by
    rw [List.getElem?_map] at h
    cases q : zs[i]? with
    | none => rw [q] at h; cases h
    | some z =>
      rw [q] at h
      cases h
      rw [List.getD_eq_getElem?_getD, q]
      exact ⟨rfl, List.mem_of_getElem? q⟩
  intro H1 e Q q
  refine evn_lcN (B := fun i b => b = P (zs.getD i "")) (R := fun i => Eq1 (.str (zs.getD i ""))) hw hn (fun _ _ _ _ _ h => h) (fun i x H1 hi e1 hh => ?_) (fun i x H1 hi e1 hh _ => ?_) (fun _ => Eq1.firm) H1 e Q fun p H2 e2 n2 ⟨ys, h, L⟩ => ?_
  · obtain ⟨h1, h2⟩ := hx hh
    rw [h1]
    exact ht _ h2 H1 e1
  · rw [(hx hh).1]
    exact evg_ve (by
      rw [List.getElem?_set_self]
      rw [wipe_length]
      exact hj)
  · have := L.det (f := fun i => P (zs.getD i "")) (v := fun i => .str (zs.getD i "")) (fun i b _ h => h) fun i y _ h => h
    refine q p H2 e2 n2 ?_
    show H2 p = some (.lst ((zs.filter P).map V.str))
    rw [h, this]
    congr 2
    have e3 : zs = (List.range zs.length).map (fun i => zs.getD i "") := (range_getD zs "").symm
    conv => rhs; rw [e3]
    rw [List.filter_map, List.map_map]
    rfl
end
end TM
namespace TM
open PySem L2 Ly
section
variable {K : PySem.W.Frag} {σ : L2.St} {H : Hp} {ta tb td tl te : TE} {tt tu : TT} {g : TG} {vs : List Nat} {D : List Nd} {d : Addr}
theorem evn_lcX {Ψ Φ : Addr → Hp → Prop} (h : EvN tl σ H Ψ) (k : ∀ p H1, Gx H H1 → Ψ p H1 → (∃ xs, SqL K H1 p xs) ∧ EvN (tLc (fun _ H R => R (Itl K p) H) g tt te vs) σ H1 Φ) : EvN (tLc (iList K tl) g tt te vs) σ H Φ := by
  intro H1 e Q q
  refine h H1 e _ fun p H2 e2 n2 f => ?_
  obtain ⟨hx, kk⟩ := k p H2 (e.trans e2) f
  exact ⟨p, rfl, hx, kk H2 (Gx.refl _) Q fun r H3 e3 n3 f => q r H3 (e2.trans e3) (e2.free n3) f⟩
theorem evw_itl {p : Addr} {xs : List V} (h : SqL K H p xs) : EvW (fun _ H R => R (Itl K p) H) σ H xs.length (fun i x _ => xs[i]? = some x) := fun H1 e R q =>
  q (Itl K p) H1 _ _ (Gx.refl _) (walk_list (xs := xs)) (fun H3 e3 => e3.l (e.l h)) fun i H3 x H4 _ _ ⟨z, hx⟩ => by
    subst z
    exact ⟨Gx.refl _, hx⟩
/-- [w for w in sorted(d) if ..] -/
theorem evn_lcSD {j : Nat} {P : Str → Bool} (h : EvG td σ H (Eq1 (.ref d))) (hd : H d = some (.dK (kvD D))) (hl : D.length < 64) (hj : j < σ.length) (ht : ∀ w ∈ D.map (·.1), ∀ H1, Gx H H1 → EvB tt ((wipe σ [j]).set j (some (.str w))) H1 (fun b => b = P w)) :
    EvN (tLc (iList K (tCB rSortedDk (tCons td tNil))) (gName j) tt (tVar j) [j]) σ H (fun p H' => ∃ zs : List Str, zs.Perm (D.map (·.1)) ∧ H' p = some (.lst ((zs.filter P).map V.str))) :=
  evn_lcX (evn_sortedD h hd hl) fun p H1 e1 ⟨zs, h1, _, h3⟩ => ⟨⟨_, SqL.of h3⟩, by
    have hw := evw_itl (σ := σ) (SqL.of (K := K) h3)
    rw [List.length_map] at hw
    exact fun H2 e2 Q q => evn_lcS (P := P) hw (by rw [h1.length_eq, List.length_map]; omega) hj (fun w hw H3 e3 => ht w (h1.mem_iff.mp hw) H3 (e1.trans e3)) H2 e2 Q fun r H3 e3 n3 f => q r H3 e3 n3 ⟨zs, h1, f⟩⟩
theorem evb_orR {R1 R2 R : Bool → Prop} (h1 : EvB tt σ H R1) (h2 : R1 false → ∀ H1, Gx H H1 → EvB tu σ H1 R2) (m1 : R1 true → R true) (m2 : R1 false → ∀ b, R2 b → R b) : EvB (tOr tt tu) σ H R := fun H1 e Q q =>
  h1 H1 e _ fun b H2 e2 f => by
    cases b with
    | true => exact iteT (q true H2 e2 (m1 f))
    | false => exact iteF (h2 f H2 (e.trans e2) H2 (Gx.refl _) _ fun c H3 e3 r => q c H3 (e2.trans e3) (m2 f c r))
theorem evg_eqI {a b : Int} (ha : EvG ta σ H (IntT fun i => i = a)) (hb : EvG tb σ H (IntT fun i => i = b)) : EvG (tOp rEq ta tb) σ H (BlE (decide (a = b))) := fun H1 e Q q =>
  ha H1 e _ fun v H2 e2 ⟨i, z, hi⟩ => hb H2 (e.trans e2) _ fun u H3 e3 ⟨j, z2, hj⟩ => by
    subst z z2
    refine ⟨rfl, q _ H3 (e2.trans e3) ⟨_, rfl, ?_⟩⟩
    rw [hi, hj]
    by_cases h : a = b
    · rw [h, decide_eq_true rfl, decide_eq_true rfl]
    · rw [decide_eq_false h, decide_eq_false fun z => h (by injection z)]
theorem evg_eqIx {R : Bool → Prop} {P1 : Int → Prop} {b : Int} (ha : EvG ta σ H (IntT P1)) (hb : EvG tb σ H (IntT fun i => i = b)) (m : ∀ c, R c) : EvG (tOp rEq ta tb) σ H (BlT R) := fun H1 e Q q =>
  ha H1 e _ fun v H2 e2 ⟨i, z, hi⟩ => hb H2 (e.trans e2) _ fun u H3 e3 ⟨j, z2, hj⟩ => by
    subst z z2
    exact ⟨rfl, q _ H3 (e2.trans e3) ⟨_, rfl, m _⟩⟩
end
end TM
namespace Ly
open PySem L2
theorem Dp.strs {K : PySem.W.Frag} {H : Hp} : ∀ (l : List Str), DpAll K H (l.map V.str) (l.map PyData.str)
  | [] => .nil
  | n :: l => .cons (.str _) (Dp.strs l)
theorem strs_lay : ∀ (l : List Str), (∀ x ∈ l, PyData.strOk x = true) → PyData.canLayAll0 (l.map PyData.str) = true ∧ PyData.depthAll (l.map PyData.str) = 0
  | [], _ => ⟨by simp [PyData.canLayAll0], by simp [PyData.depthAll]⟩
  | n :: l, h => by
    obtain ⟨h1, h2⟩ := strs_lay l fun x hx => h x (List.mem_cons_of_mem _ hx)
    have h3 := h n (List.mem_cons_self ..)
    exact ⟨by simp [PyData.canLayAll0, PyData.canLay0, h1, h3], by simp [PyData.depthAll, PyData.depth, h2]⟩
theorem strs_shaped (l : List Str) (h : ∀ x ∈ l, PyData.strOk x = true) : SeqAt.shaped (.list (l.map PyData.str)) = true := by
  obtain ⟨h1, h2⟩ := strs_lay l h
  unfold SeqAt.shaped
  simp [PyData.canLay0, PyData.depth, h1, h2]
end Ly

set_option Elab.async false
set_option maxRecDepth 100000
/-! Rows of nodes counted from the left. -/
namespace TM
open PySem L2 Ly
def wantF : List Nd → Nat → Bool
  | [], k => decide (k = 0)
  | (_, a) :: r, k => decide (1 ≤ k) && wantF r (k + a - 1)
theorem nodesL_cons (w : Str) (us ts : List Tr) : nodesL (.nd w us :: ts) = (w, us.length) :: nodesL (us ++ ts) := by
  rw [nodesL_app]
  show ((w, us.length) :: nodesL us) ++ nodesL ts = _
  rw [List.cons_append]
theorem wantF_iff : ∀ (nds : List Nd) (k : Nat), wantF nds k = true ↔ ∃ ts : List Tr, ts.length = k ∧ nds = nodesL ts
  | [], k => by
    constructor
    · intro h
      have h : k = 0 := of_decide_eq_true h
      exact ⟨[], h.symm, rfl⟩
    · rintro ⟨ts, rfl, h⟩
      cases ts with
      | nil => rfl
      | cons t ts =>
        cases t with
        | nd w us =>
          rw [nodesL_cons] at h
          cases h
  | (w, a) :: r, k => by
    show (decide (1 ≤ k) && wantF r (k + a - 1)) = true ↔ _
    rw [Bool.and_eq_true, wantF_iff r (k + a - 1)]
    constructor
    · rintro ⟨h1, us, h2, rfl⟩
      have h1 : 1 ≤ k := of_decide_eq_true h1
      refine ⟨.nd w (us.take a) :: us.drop a, by rw [List.length_cons, List.length_drop]; omega, ?_⟩
      rw [nodesL_cons, List.take_append_drop, List.length_take, Nat.min_eq_left (by omega)]
    · rintro ⟨ts, rfl, h⟩
      cases ts with
      | nil => cases h
      | cons t ts =>
        cases t with
        | nd v us =>
          rw [nodesL_cons] at h
          injection h with h1 h2
          injection h1 with h3 h4
          refine ⟨decide_eq_true (by rw [List.length_cons]; omega), us ++ ts, ?_, h2⟩
          rw [List.length_append, List.length_cons]
          omega
theorem wantF_chOf (nds : List Nd) : (chOf nds).isSome = wantF nds 1 := by
  rw [Bool.eq_iff_iff]
  rw [wantF_iff]
  constructor
  · intro h
    obtain ⟨cs, h⟩ := Option.isSome_iff_exists.mp h
    obtain ⟨t, h1, _⟩ := chOf_tree h
    refine ⟨[t], rfl, ?_⟩
    rw [h1]
    show _ = t.nodes ++ []
    rw [List.append_nil]
  · rintro ⟨ts, h1, h2⟩
    match ts, h1 with
    | [t], _ =>
      rw [h2]
      show (chOf (t.nodes ++ [])).isSome = true
      rw [List.append_nil, t.chOf]
      rfl
/-- as the law looks at a row -/
def lawF : List Nd → Int → List Nd → Bool
  | [], k, _ => decide (k = 0)
  | (w, a) :: r, k, acc => if k < 1 ∨ (acc.lookup w).getD a ≠ a then false else lawF r (k + a - 1) (if (acc.lookup w).isSome then acc else acc ++ [(w, a)])
theorem lawF_eq : ∀ (nds : List Nd) (k : Nat) (acc : List Nd), lawF nds (k : Int) acc = (wantF nds k && (arF nds acc).isSome)
  | [], k, acc => by
    show decide ((k : Int) = 0) = (decide (k = 0) && true)
    rw [Bool.and_true]
    by_cases h : k = 0
    · rw [decide_eq_true h, decide_eq_true (by omega)]
    · rw [decide_eq_false h, decide_eq_false (by omega)]
  | (w, a) :: r, k, acc => by
    show (if (k : Int) < 1 ∨ (acc.lookup w).getD a ≠ a then false else lawF r ((k : Int) + a - 1) (if (acc.lookup w).isSome then acc else acc ++ [(w, a)])) = ((decide (1 ≤ k) && wantF r (k + a - 1)) && (match acc.lookup w with
      | none => arF r (acc ++ [(w, a)])
      | some b => if b = a then arF r acc else none).isSome)
    by_cases hk : 1 ≤ k
    · have hkk : ¬ (k : Int) < 1 := by omega
      have e : (k : Int) + a - 1 = ((k + a - 1 : Nat) : Int) := by omega
      rw [decide_eq_true hk, Bool.true_and, e]
      cases q : acc.lookup w with
      | none =>
        rw [if_neg (by simp [hkk])]
        simp only [Option.isSome_none, Bool.false_eq_true, if_false]
        exact lawF_eq r _ _
      | some b =>
        by_cases hb : b = a
        · subst hb
          rw [if_neg (by simp [hkk])]
          simp only [Option.isSome_some, if_true]
          exact lawF_eq r _ _
        · rw [if_pos (.inr (by simpa using hb))]
          simp [hb]
    · rw [if_pos (.inl (by omega)), decide_eq_false hk]
      rfl
theorem lawF_row (nds : List Nd) : lawF nds 1 [] = ((chOf nds).isSome && (arF nds []).isSome) := by
  have := lawF_eq nds 1 []
  rw [wantF_chOf]
  exact this
/-- words of a table with one arity each -/
theorem arF_fit {T : List Nd} (hf : ∀ w a b, (w, a) ∈ T → (w, b) ∈ T → a = b) : ∀ (nds acc : List Nd), (∀ n ∈ nds, n ∈ T) → (∀ n ∈ acc, n ∈ T) → ∃ l, arF nds acc = some l
  | [], acc, _, _ => ⟨acc, rfl⟩
  | (w, a) :: r, acc, h1, h2 => by
    have hr : ∀ n ∈ r, n ∈ T := fun n hn => h1 n (List.mem_cons_of_mem _ hn)
    have hw := h1 (w, a) (List.mem_cons_self ..)
    show ∃ l, (match acc.lookup w with
      | none => arF r (acc ++ [(w, a)])
      | some b => if b = a then arF r acc else none) = some l
    cases q : acc.lookup w with
    | none =>
      refine arF_fit hf r _ hr fun n hn => ?_
      rcases List.mem_append.mp hn with z | z
      · exact h2 n z
      · have : n = (w, a) := by simpa using z
        rw [this]
        exact hw
    | some b =>
      have := hf w b a (h2 _ (lookup_mem q)) hw
      rw [this]
      simp only [if_true]
      exact arF_fit hf r acc hr h2
end TM
namespace TM
open PySem L2 Ly
/-- the words that the laws draw -/
def D0 : List Nd := [("a", 0), ("bb", 0), ("f", 2), ("k", 1), ("cons", 3)]
def L0 : List Str := ["_", "#"]
def T0 : List Nd := [("a", 0), ("bb", 0), ("f", 2), ("k", 1), ("cons", 3), ("_", 0), ("#", 0)]
theorem sym0 : Sym D0 L0 := ⟨by decide +kernel, by decide, by decide, ⟨"a", by decide⟩, by decide, by decide +kernel⟩
theorem fit0 {t : Tr} (h : Fit D0 L0 t) : ∀ n ∈ t.nodes, n ∈ T0 := fun n hn => by
  rcases h n hn with h | ⟨h1, h2⟩
  · have : ∀ n ∈ D0, n ∈ T0 := by decide +kernel
    exact this n h
  · obtain ⟨w, a⟩ := n
    have h2 : a = 0 := h2
    subst h2
    have h1 : w ∈ (["_", "#"] : List Str) := h1
    simp only [List.mem_cons, List.not_mem_nil, or_false] at h1
    rcases h1 with rfl | rfl
    · exact (by decide +kernel : (("_", 0) : Nd) ∈ T0)
    · exact (by decide +kernel : (("#", 0) : Nd) ∈ T0)
theorem fun0 : ∀ w a b, ((w, a) : Nd) ∈ T0 → ((w, b) : Nd) ∈ T0 → a = b := fun w a b h1 h2 => by
  have : ∀ x ∈ T0, ∀ y ∈ T0, x.1 = y.1 → x.2 = y.2 := by decide +kernel
  exact this _ h1 _ h2 rfl
theorem good0 : ∀ n ∈ T0, GoodNd n := by
  unfold GoodNd
  decide +kernel
theorem Good.fit {t : Tr} (h : Fit D0 L0 t) (hs : t.size ≤ 40) : Good t := ⟨fun n hn => good0 n (fit0 h n hn), hs, arF_fit fun0 _ _ (fit0 h) fun n hn => by cases hn⟩
def spDrawn : Sp := fun vs H Q _ => ∃ (c : Addr) (deep : Nat), vs = [.ref c, .int (deep : Int)] ∧ H c = some (diceO c) ∧ deep ≤ 4 ∧ ∀ v t H', Gx H H' → PT H' t v → Fit D0 L0 t → t.size ≤ 40 → t.ht ≤ 5 → Q v H'
def spMade (K : PySem.W.Frag) (C : Addr) : Sp := fun vs H Q _ => ∃ (v : V) (t : Tr), vs = [v] ∧ PT H t v ∧ t.ht ≤ 5 ∧ Good t ∧ ∀ p H', Gx H H' → H p = none → TermAt K C H' p t → Q (.ref p) H'
end TM

set_option Elab.async false
set_option maxRecDepth 100000
set_option maxHeartbeats 1000000
/-! Items of rows that may be no nodes (law k07). -/
namespace TM
open PySem L2 Ly
section
variable {K : PySem.W.Frag} {σ : L2.St} {H : Hp} {ta tb te : TE} {d : PyData} {ds : List PyData}
def memD (d : PyData) (ds : List PyData) : Bool := ds.any fun z => PyData.eqv z d
theorem evg_inD (ha : EvG ta σ H (DatT K d)) (hb : EvG tb σ H (DatT K (.list ds))) (sd : SeqAt.shaped d = true) (se : SeqAt.shaped (.list ds) = true) : EvG (tOp (rInD K) ta tb) σ H (BlE (memD d ds)) := fun H1 e1 Q q =>
  ha H1 e1 _ fun v H2 e2 h2 => hb H2 (e1.trans e2) _ fun u H3 e3 h3 => ⟨d, ds, Dp.gx e3 h2, h3, sd, se, q _ H3 (e2.trans e3) ⟨_, rfl, rfl⟩⟩
theorem evg_notInD (ha : EvG ta σ H (DatT K d)) (hb : EvG tb σ H (DatT K (.list ds))) (sd : SeqAt.shaped d = true) (se : SeqAt.shaped (.list ds) = true) : EvG (tOp (rNotInD K) ta tb) σ H (BlE (!memD d ds)) := fun H1 e1 Q q =>
  ha H1 e1 _ fun v H2 e2 h2 => hb H2 (e1.trans e2) _ fun u H3 e3 h3 => ⟨d, ds, Dp.gx e3 h2, h3, sd, se, q _ H3 (e2.trans e3) ⟨_, rfl, rfl⟩⟩
theorem evg_neI {a b : Int} (ha : EvG ta σ H (IntT fun i => i = a)) (hb : EvG tb σ H (IntT fun i => i = b)) : EvG (tOp rNe ta tb) σ H (BlE (!decide (a = b))) := fun H1 e Q q =>
  ha H1 e _ fun v H2 e2 ⟨i, z, hi⟩ => hb H2 (e.trans e2) _ fun u H3 e3 ⟨j, z2, hj⟩ => by
    subst z z2
    refine ⟨rfl, q _ H3 (e2.trans e3) ⟨_, rfl, ?_⟩⟩
    rw [hi, hj]
    by_cases h : a = b
    · rw [h, decide_eq_true rfl, decide_eq_true rfl]
    · rw [decide_eq_false h, decide_eq_false fun z => h (by injection z)]
theorem eq_dat {x : V} (h : EvG te σ H (Eq1 x)) (hd : ∀ H1, Gx H H1 → Dp K H1 x d) : EvG te σ H (DatT K d) := fun H1 e Q q => h H1 e Q fun v H2 e2 z => q v H2 e2 (by
  rw [show v = x from z]
  exact hd H2 (e.trans e2))
end
/-- words as drawn -/
def wordsV : List V := [.str "a", .str "bb", .str "f", .str "k", .str "cons", .str "g", .str "_", .str "#", .str "A", .str "", .non, .int 0]
def xD : V → PyData
  | .str z => .str z
  | .int i => .int i
  | _ => .none
def xK : V → Kd
  | .str _ => .str
  | .int _ => .int
  | _ => .non
def six : List PyData := [.str "a", .str "bb", .str "f", .str "k", .str "cons", .str "g"]
def two : List PyData := [.str "_", .str "#"]
def four : List PyData := [.int 0, .int 1, .int 2, .int 3]
def leafV (x : V) (n : Nat) : Bool := kdIs (xK x) "str" && memD (.int (n : Int)) four && (memD (xD x) six || (memD (xD x) two && decide ((n : Int) = 0)))
theorem words_is {x : V} (h : x ∈ wordsV) : (∀ (K : PySem.W.Frag) (H : Hp), Dp K H x (xD x) ∧ Pl K H x (xK x)) ∧ Small x ∧ SeqAt.shaped (xD x) = true ∧ PyData.canLay0 (xD x) = true ∧ PyData.depth (xD x) = 0 := by
  have hs : ∀ x ∈ wordsV, SeqAt.shaped (xD x) = true ∧ PyData.canLay0 (xD x) = true ∧ PyData.depth (xD x) = 0 := by decide +kernel
  have hk : ∀ x ∈ wordsV, (match x with
    | .str z => decide (z.length ≤ 8)
    | .int _ => true
    | .non => true
    | _ => false) = true := by decide +kernel
  refine ⟨fun K H => ?_, fun z e => ?_, hs x h⟩
  · have := hk x h
    cases x with
    | str z => exact ⟨.str z, .str z⟩
    | int i => exact ⟨.int i, .int i⟩
    | non => exact ⟨.non, .non⟩
    | _ => cases this
  · subst e
    have := of_decide_eq_true (hk _ h)
    omega
theorem node_leaf {x : V} {n : Nat} (h : x ∈ wordsV) (hn : n ≤ 4) : isNode2 x (.int (n : Int)) = leafV x n := by
  have : ∀ x ∈ wordsV, ∀ n ∈ List.range 5, isNode2 x (.int (n : Int)) = leafV x n := by decide +kernel
  exact this x h n (List.mem_range.mpr (by omega))
theorem leaf_str {x : V} {n : Nat} (h : x ∈ wordsV) (hl : leafV x n = true) : ∃ w, x = .str w := by
  unfold leafV at hl
  cases x with
  | str z => exact ⟨z, rfl⟩
  | _ => cases hl
/-- an item, with the node that it is -/
inductive Item (H : Hp) : V → Option Nd → Prop
  | node {p : Addr} {w : Str} {n : Nat} : H p = some (.tup [.str w, .int (n : Int)]) → .str w ∈ wordsV → n ≤ 4 → leafV (.str w) n = true → Item H (.ref p) (some (w, n))
  | bad {p : Addr} {x : V} {n : Nat} : H p = some (.tup [x, .int (n : Int)]) → x ∈ wordsV → n ≤ 4 → leafV x n = false → Item H (.ref p) none
  | lst {p : Addr} : H p = some (.lst [.str "a", .int 0]) → Item H (.ref p) none
  | one {p : Addr} : H p = some (.tup [.str "a"]) → Item H (.ref p) none
  | non : Item H .non none
theorem Item.gx {H H' : Hp} {v : V} {o : Option Nd} (e : Gx H H') (h : Item H v o) : Item H' v o := by
  cases h with
  | node h a b c => exact .node (e _ _ h) a b c
  | bad h a b c => exact .bad (e _ _ h) a b c
  | lst h => exact .lst (e _ _ h)
  | one h => exact .one (e _ _ h)
  | non => exact .non
/-- all but one list stays -/
theorem Item.gxa {H H' : Hp} {l : Addr} {v : V} {o : Option Nd} (e : Gxa l H H') (hl : ∀ p, v = .ref p → p ≠ l) (h : Item H v o) : Item H' v o := by
  cases h with
  | node h a b c => exact .node (e _ _ (hl _ rfl) h) a b c
  | bad h a b c => exact .bad (e _ _ (hl _ rfl) h) a b c
  | lst h => exact .lst (e _ _ (hl _ rfl) h)
  | one h => exact .one (e _ _ (hl _ rfl) h)
  | non => exact .non
theorem Item.nodeIn {K : PySem.W.Frag} {H : Hp} {v : V} {o : Option Nd} (h : Item H v o) : NodeIn K H v o.isSome := by
  cases h with
  | @node p w n h a b c =>
    have := NodeIn.pair (K := K) h ((words_is a).1 K H).2 (.int _) (words_is a).2.1
    rw [node_leaf a b, c] at this
    exact this
  | @bad p x n h a b c =>
    have := NodeIn.pair (K := K) h ((words_is a).1 K H).2 (.int _) (words_is a).2.1
    rw [node_leaf a b, c] at this
    exact this
  | lst h => exact .other (.lst h) (by decide)
  | one h => exact .size h (by decide)
  | non => exact .other .non (by decide)
theorem Item.dat {K : PySem.W.Frag} {H : Hp} {v : V} {o : Option Nd} (h : Item H v o) : ∃ d, Dp K H v d ∧ PyData.canLay0 d = true ∧ PyData.depth d ≤ 1 := by
  have pr : ∀ {p : Addr} {x : V} {n : Nat}, H p = some (.tup [x, .int (n : Int)]) → x ∈ wordsV → ∃ d, Dp K H (.ref p) d ∧ PyData.canLay0 d = true ∧ PyData.depth d ≤ 1 := fun {p x n} h hx => by
    obtain ⟨h1, _, _, h2, h3⟩ := words_is hx
    refine ⟨.tuple [xD x, .int (n : Int)], .tup (SqT.of h) (.cons (h1 K H).1 (.cons (.int _) .nil)), ?_, ?_⟩
    · simp [PyData.canLay0, PyData.canLayAll0, h2]
    · simp [PyData.depth, PyData.depthAll, h3]
  cases h with
  | node h a _ _ => exact pr h a
  | bad h a _ _ => exact pr h a
  | lst h => exact ⟨.list [.str "a", .int 0], .lst (SqL.of h) (.cons (.str _) (.cons (.int _) .nil)), by decide +kernel, by decide +kernel⟩
  | one h => exact ⟨.tuple [.str "a"], .tup (SqT.of h) (.cons (.str _) .nil), by decide +kernel, by decide +kernel⟩
  | non => exact ⟨.none, .non, by decide +kernel, by decide +kernel⟩
theorem items_dat {K : PySem.W.Frag} {H : Hp} : ∀ {ys : List V}, (∀ y ∈ ys, ∃ o, Item H y o) → ∃ ds, DpAll K H ys ds ∧ ds.length = ys.length ∧ PyData.canLayAll0 ds = true ∧ PyData.depthAll ds ≤ 1
  | [], _ => ⟨[], .nil, rfl, by simp [PyData.canLayAll0], by simp [PyData.depthAll]⟩
  | y :: ys, h => by
    obtain ⟨o, ho⟩ := h y (List.mem_cons_self ..)
    obtain ⟨d, h1, h2, h3⟩ := ho.dat (K := K)
    obtain ⟨ds, h4, h5, h6, h7⟩ := items_dat (K := K) fun z hz => h z (List.mem_cons_of_mem _ hz)
    exact ⟨d :: ds, .cons h1 h4, by rw [List.length_cons, List.length_cons, h5], by simp [PyData.canLayAll0, h2, h6], by simp only [PyData.depthAll]; omega⟩
theorem list_shaped {ds : List PyData} (h1 : PyData.canLayAll0 ds = true) (h2 : PyData.depthAll ds ≤ 1) : SeqAt.shaped (.list ds) = true := by
  unfold SeqAt.shaped
  simp only [PyData.canLay0, PyData.depth, h1, Bool.true_and]
  exact decide_eq_true (by omega)
theorem eqv_nil (ds : List PyData) : PyData.eqv (.list ds) (.list []) = ds.isEmpty := by
  cases ds with
  | nil => rfl
  | cons d ds => rfl
end TM
namespace TM
open PySem L2 Ly
def rowJ (os : List (Option Nd)) : Bool := decide (1 ≤ os.length ∧ os.length ≤ 40) && (os.all Option.isSome && lawF (os.filterMap id) 1 [])
/-- a value, and whether it is a row of a term's nodes -/
inductive ValJ (K : PySem.W.Frag) (H : Hp) : V → Bool → Prop
  | other {v : V} {kd : Kd} : Pl K H v kd → kd ≠ .tup → kd ≠ .own → ValJ K H v false
  | row {a : Addr} {xs : List V} {os : List (Option Nd)} : H a = some (.tup xs) → xs.length ≤ 1000 → os.length = xs.length → (∀ (i : Nat) (y : V), xs[i]? = some y → ∃ o, os[i]? = some o ∧ Item H y o) → ValJ K H (.ref a) (rowJ os)
theorem ValJ.gx {K : PySem.W.Frag} {H H' : Hp} {v : V} {b : Bool} (e : Gx H H') (h : ValJ K H v b) : ValJ K H' v b := by
  cases h with
  | other p h1 h2 => exact .other (p.gx e) h1 h2
  | row h h1 h2 h3 =>
    refine .row (e _ _ h) h1 h2 fun i y hy => ?_
    obtain ⟨o, h4, h5⟩ := h3 i y hy
    exact ⟨o, h4, h5.gx e⟩
def spTree (K : PySem.W.Frag) : Sp := fun vs H Q _ => ∃ v b, vs = [v] ∧ ValJ K H v b ∧ ∀ H', Gx H H' → Q (.bl b) H'
theorem all_some {α : Type} : ∀ {os : List (Option α)}, os.all Option.isSome = true → ∃ ns : List α, os = ns.map some
  | [], _ => ⟨[], rfl⟩
  | none :: os, h => by cases h
  | some n :: os, h => by
    obtain ⟨ns, rfl⟩ := all_some (os := os) (by simpa using h)
    exact ⟨n :: ns, rfl⟩
theorem filterMap_some {α : Type} (ns : List α) : (ns.map some).filterMap id = ns := by
  induction ns with
  | nil => rfl
  | cons n ns ih =>
    show n :: ((ns.map some).filterMap id) = _
    rw [ih]
section
variable {K : PySem.W.Frag} {σ : L2.St} {H : Hp} {td tk tx tv : TE} {tz : TS} {D : Ends} {d : Addr} {acc : List Nd} {w : Str} {a : Nat}
theorem evg_dget2 (h : EvG td σ H (Eq1 (.ref d))) (hk : EvG tk σ H (Eq1 (.str w))) (hx : EvG tx σ H (Eq1 (.int (a : Int)))) (hd : H d = some (.dK (kvD acc))) : EvG (tDGet2 td tk tx) σ H (IntT fun i => i = (((acc.lookup w).getD a : Nat) : Int)) := fun H1 e Q q =>
  h H1 e _ fun v H2 e2 z => ⟨d, z, .inl ⟨_, Rd.of ((e.trans e2) _ _ hd)⟩, hk H2 (e.trans e2) _ fun u H3 e3 z3 => hx H3 ((e.trans e2).trans e3) _ fun y H4 e4 z4 => ⟨valV (kvD acc) (Sum.inr w), by
    rw [show u = .str w from z3]
    exact DGet.k (k := Sum.inr w) ((((e.trans e2).trans e3).trans e4) _ _ hd), q _ H4 ((e2.trans e3).trans e4) (by
    rw [kvD_val, show y = .int (a : Int) from z4]
    cases acc.lookup w with
    | none => exact ⟨_, rfl, rfl⟩
    | some b => exact ⟨_, rfl, rfl⟩)⟩⟩
theorem g_dputS (hv : EvG tv σ H (Eq1 (.int (a : Int)))) (h : EvG td σ H (Eq1 (.ref d))) (hk : EvG tk σ H (Eq1 (.str w))) (hd : H d = some (.dK (kvD acc))) (hl : acc.length ≤ 1000) (k : ∀ H1, Gx H H1 → tz D σ (upd H1 d (.dK (putK (kvD acc) (Sum.inr w) (.int (a : Int)))))) :
    tSeq (sDPut td tk tv) tz D σ H := hv H (Gx.refl _) _ fun v H1 e1 z1 => h H1 e1 _ fun x H2 e2 z2 => hk H2 (e1.trans e2) _ fun y H3 e3 z3 => ⟨d, upd H3 d (.dK (putK (kvD acc) (Sum.inr w) (.int (a : Int)))), z2, by
      rw [show y = .str w from z3, show v = .int (a : Int) from z1]
      exact DPut.k (k := Sum.inr w) (((e1.trans e2).trans e3) _ _ hd) (Evl.sz_lt (by unfold kvD; rw [List.length_map]; omega)), k H3 ((e1.trans e2).trans e3)⟩
end
/-- the dict of the words behind a step -/
theorem put_step {acc : List Nd} {w : Str} {a : Nat} (hn : (acc.map (·.1)).Nodup) (h : (acc.lookup w).getD a = a) : putK (kvD acc) (Sum.inr w) (.int (a : Int)) = kvD (if (acc.lookup w).isSome then acc else acc ++ [(w, a)]) ∧ ((if (acc.lookup w).isSome then acc else acc ++ [(w, a)]).map (·.1)).Nodup := by
  cases q : acc.lookup w with
  | none =>
    refine ⟨kvD_new q, ?_⟩
    show ((acc ++ [(w, a)]).map (·.1)).Nodup
    rw [List.map_append, List.nodup_append]
    refine ⟨hn, by simp, fun x hx y hy => ?_⟩
    simp at hy
    subst hy
    intro z
    subst z
    obtain ⟨⟨x, b⟩, hx', rfl⟩ := List.mem_map.mp hx
    have := List.lookup_eq_none_iff.mp q _ hx'
    simp at this
  | some b =>
    rw [q] at h
    have h : b = a := h
    subst h
    exact ⟨kvD_same hn q, hn⟩
end TM
namespace TM
open PySem L2 Ly
theorem word_len {w : Str} (h : V.str w ∈ wordsV) : w.length ≤ 8 := by
  have : ∀ x ∈ wordsV, (match x with
    | .str z => decide (z.length ≤ 8)
    | _ => true) = true := by decide +kernel
  exact of_decide_eq_true (this _ h)
theorem items_row {H : Hp} {xs : List V} {ns : List Nd} (hol : ns.length = xs.length) (ho : ∀ (i : Nat) (y : V), xs[i]? = some y → ∃ o, (ns.map some)[i]? = some o ∧ Item H y o) :
    RowL H xs ns ∧ ∀ n ∈ ns, GoodNd n := by
  have step : ∀ (i : Nat) (n : Nd), ns[i]? = some n → ∃ p, xs[i]? = some (.ref p) ∧ H p = some (.tup [.str n.1, .int (n.2 : Int)]) ∧ GoodNd n := fun i n hn => by
    have hin : i < ns.length := (List.getElem?_eq_some_iff.mp hn).1
    obtain ⟨o, h1, h2⟩ := ho i xs[i] (List.getElem?_eq_getElem (by omega))
    rw [List.getElem?_map, hn] at h1
    cases h1
    rw [List.getElem?_eq_getElem (by omega)]
    cases hxi : xs[i] with
    | ref p =>
      rw [hxi] at h2
      cases h2 with
      | node h h1 h2 h3 =>
        refine ⟨p, rfl, h, ?_, Nat.le_trans (word_len h1) (by decide)⟩
        rw [node_leaf h1 h2]
        exact h3
    | _ => rw [hxi] at h2; cases h2
  refine ⟨⟨hol.symm, fun i n hn => ?_⟩, fun n hn => ?_⟩
  · obtain ⟨p, h1, h2, _⟩ := step i n hn
    exact ⟨p, h1, h2⟩
  · obtain ⟨i, hi⟩ := List.getElem?_of_mem hn
    obtain ⟨_, _, _, h⟩ := step i n hi
    exact h
theorem ValJ.good {K : PySem.W.Frag} {H : Hp} {v : V} {b : Bool} (hb : b = true) (h : ValJ K H v b) : ∃ a t, v = .ref a ∧ RowAt H a t.nodes ∧ Good t := by
  cases h with
  | other => cases hb
  | @row a xs os ha hl hol ho =>
    unfold rowJ at hb
    rw [Bool.and_eq_true, Bool.and_eq_true] at hb
    obtain ⟨h1, h2, h3⟩ := hb
    have h1 := of_decide_eq_true h1
    obtain ⟨ns, rfl⟩ := all_some h2
    rw [List.length_map] at hol h1
    rw [filterMap_some, lawF_row, Bool.and_eq_true] at h3
    obtain ⟨cs, hcs⟩ := Option.isSome_iff_exists.mp h3.1
    obtain ⟨t, rfl, _⟩ := chOf_tree hcs
    obtain ⟨h4, h5⟩ := items_row hol ho
    exact ⟨a, t, rfl, ⟨xs, ha, h4⟩, h5, h1.2, Option.isSome_iff_exists.mp h3.2⟩
theorem ValJ.none {K : PySem.W.Frag} {H : Hp} {v : V} {b : Bool} (hb : b = false) (h : ValJ K H v b) : RowIn K H v false ∧ ∃ kd, Pl K H v kd ∧ kd ≠ .own := by
  cases h with
  | other p h1 h2 => exact ⟨.other p h1, _, p, h2⟩
  | @row a xs os ha hl hol ho =>
    refine ⟨?_, _, .tup ha, by decide⟩
    by_cases hs : 1 ≤ xs.length ∧ xs.length ≤ 40
    · cases q : os.all Option.isSome with
      | false =>
        refine .items (bs := os.map Option.isSome) ha hs ⟨by rw [List.length_map, hol], fun i x hx => ?_, by rw [List.all_map]; exact q⟩
        obtain ⟨o, h1, h2⟩ := ho i x hx
        exact ⟨o.isSome, by rw [List.getElem?_map, h1]; rfl, h2.nodeIn⟩
      | true =>
        obtain ⟨ns, rfl⟩ := all_some q
        unfold rowJ at hb
        rw [q, filterMap_some, lawF_row, decide_eq_true (by rw [hol]; exact hs), Bool.true_and, Bool.true_and] at hb
        rw [List.length_map] at hol
        obtain ⟨h4, h5⟩ := items_row hol ho
        have := RowIn.nodes (K := K) (a := a) ⟨xs, ha, h4⟩ (by omega) h5
        rw [hb] at this
        exact this
    · exact .size ha (by omega)
end TM
namespace TM
open PySem L2 Ly
theorem evn_listL {K : PySem.W.Frag} {σ : L2.St} {H : Hp} {tl : TE} {xs : List V} (h : EvG tl σ H (LstK K xs)) : EvN (tCB (rListK K) (tCons tl tNil)) σ H (NewL xs) := fun H1 e Q q =>
  h H1 e _ fun v H2 e2 ⟨p, z, hp⟩ => ⟨p, xs, by rw [z], .inl hp, fun l hl => q l _ (e2.trans (Gx.new hl)) (e2.free hl) upd_same⟩
end TM
namespace TM
open PySem L2 Ly
theorem evb_and2 {σ : L2.St} {H : Hp} {tt tu : TT} {a b : Bool} (h1 : EvB tt σ H (fun c => c = a)) (h2 : ∀ H1, Gx H H1 → EvB tu σ H1 (fun c => c = !b)) : EvB (tAnd tt tu) σ H (fun c => c = true → b = false) := fun H1 e Q q =>
  evb_and h1 (fun _ H2 e2 => h2 H2 e2) H1 e Q fun c H2 e2 hc => q c H2 e2 fun ht => by
    rw [ht] at hc
    cases b with
    | false => rfl
    | true => cases a <;> cases hc
end TM

set_option Elab.async false
set_option maxRecDepth 100000
set_option maxHeartbeats 1000000
namespace K07
open PySem L2 Ly TM
def top (i : Nat) : Stmt := PySem.Challenge.pw_firstneed_k07_tuples_of_nodes_judged.main.body.getD i (.Pass ⟨0, 0, 0, 0⟩)
structure Txt (K : PySem.W.Frag) (mg : Str → Option Value) : Prop where
  z_len : mg "len" = none
  z_int : mg "int" = none
  z_bool : mg "bool" = none
  z_str : mg "str" = none
  z_list : mg "list" = none
  z_tuple : mg "tuple" = none
  z_dict : mg "dict" = none
  z_abs : mg "abs" = none
  z_max : mg "max" = none
  z_min : mg "min" = none
  z_range : mg "range" = none
  z_repr : mg "repr" = none
  z_isinstance : mg "isinstance" = none
  z_all : mg "all" = none
  z_sorted : mg "sorted" = none
  z_enumerate : mg "enumerate" = none
  z_iter : mg "iter" = none
section
variable {P : Program} {w : World} {K : PySem.W.Frag} {mg : Str → Option Value} {base : Heap}
abbrev s_children_of : Stmt := top 22
abbrev nm_children_of : List Str := ["nodes", "found", "node", "waiting", "at", "cut"]
abbrev ps_children_of : List Str := ["nodes"]
theorem sc_children_of : FnScope nm_children_of ps_children_of (defScope s_children_of) := ⟨rfl, rfl, rfl, by decide +kernel, rfl, by decide +kernel, by decide +kernel⟩
theorem ok_children_of {f : Addr} {fd : FuncData} (F : Fun K "children_of" "children_of" s_children_of f fd) (T : Txt K mg) : FnOk P w K mg base CX0 1 f fd ps_children_of (spChildren K) := by
  have nd := sc_children_of.nd
  refine F.ok sc_children_of (fun vs H Q E h => ?_) (fun cdv A outer s H vs Q E hr h => ?_)
  · obtain ⟨_, _, rfl, _⟩ := h
    rfl
  · obtain ⟨n, nds, rfl, hn, hl, k⟩ := h
    obtain ⟨xs, hs, hx⟩ := hn.tup_of
    refine ⟨_, (pss_cons (ps_setLc (i := 1) (own := [("node", 2)]) (g := (gName 2)) (by rfl) nd rfl rfl (sw_true rfl rfl rfl (by decide +kernel)) (kpi_tup (K := K) (pv 0)) (blkOk_by (own := [("node", 2)]) (N := nm_children_of) (sc := defScope s_children_of) (by decide +kernel)) (fun _ _ _ _ _ => (pg_name (i := 2) nd rfl (Or.inl rfl))) (fun _ _ _ _ _ => pts_nil) (fun _ _ _ _ _ => (pe_tup pa_nil)))
      (pss_cons (ps_set (i := 3) nd rfl (Or.inl rfl) (pe_lst pa_nil))
      (pss_cons (ps_for PassesOwn.never rfl (pi_range3 rfl T.z_range (pa_cons (pe_op op_sub (pe_callB (kcall_len (K := K)) (by rfl) T.z_len (by decide +kernel) (pa_cons (pv 0) pa_nil)) pe_int) (pa_cons (pe_un un_neg pe_int) (pa_cons (pe_un un_neg pe_int) pa_nil)))) (pg_name (i := 4) nd rfl (Or.inl rfl)) (pss_cons (ps_set (i := 5) nd rfl (Or.inl rfl) (pe_op op_sub (pe_callB (kcall_len (K := K)) (by rfl) T.z_len (by decide +kernel) (pa_cons (pv 3) pa_nil)) (pe_ix (kix_tup (K := K)) (pe_ix (kix_tup (K := K)) (pv 0) (pv 4) (fun _ _ => rfl)) pe_int (fun _ _ => rfl))))
      (pss_cons (ps_if (pt_cmpR op_lt (pv 5) pe_int (nomark _)) (pss_one (ps_ret pe_non)) pss_nil)
      (pss_cons (ps_asg (pe_callTy (kcall_tuple (K := K)) (by rfl) T.z_tuple (by decide +kernel) (pa_cons (kpe_revL (K := K) (pe_slice (ksl_list (K := K)) (pv 3) (po_some (pv 5)) po_none)) pa_nil)) (pg_sub (pv 1) (pv 4) set_list))
      (pss_one (ps_set (i := 3) nd rfl (Or.inl rfl) (pe_lst (kpa_star (K := K) (pe_slice (ksl_list (K := K)) (pv 3) po_none (po_some (pv 5))) (pa_cons (pv 4) pa_nil)))))))))
      (pss_one (ps_ret (pe_ifExp (pt_cmpR (kop_eqD (K := K) hr.units) (pv 3) (pe_lst (pa_cons pe_int pa_nil)) (nomark _)) (pv 1) pe_non)))))), ?_⟩
    have hxl : xs.length = nds.length := hx.1
    -- found
    refine g_asgN (evn_lcA (n := xs.length) (j := 2) (Y := fun i x _ => xs[i]? = some x) (R := fun _ => IntsT K []) (evw_tupAt (evg_var rfl fun _ e => ⟨n, rfl, e.t hs⟩)) (by omega) (fun _ _ _ _ _ h => h) (fun i x H1 _ _ _ =>
      (evn_tup (Ψ := fun vs _ => vs = []) evgs_en (fun vs _ h => by rw [h]; decide) fun vs p _ _ _ h _ _ hp => by rw [h] at hp; exact hp).g fun p _ _ _ _ _ (hp : NewT [] _ _) => ⟨p, rfl, SqT.of hp⟩) fun _ => IntsT.firm) ?_
    rintro fa H1 e1 nfa ⟨ys0, hfa, hy0, hy1⟩
    -- waiting
    refine g_asgN (Φ := NewL (intsV [])) (evn_lst (Ψ := fun vs _ => vs = []) evgs_en (fun vs _ h => by rw [h]; decide) fun vs p _ _ _ h _ _ hp => by rw [h] at hp; exact hp) ?_
    rintro wa H2 e2 nwa hwa
    have hwf : wa ≠ fa := fun z => by rw [z, hfa] at nwa; cases nwa
    have hlenv : ∀ {σ : L2.St} {H3 : Hp}, Gx H H3 → σ[0]? = some (some (.ref n)) → EvG (tVar 0) σ H3 (TupK K xs) := fun e3 q => eq_tup (evg_ve q) (e3.t hs)
    refine g_forD (n := nds.length) (evgs_ec (e_int (by rw [← hxl]; exact evg_sub1 (evg_lenT (hlenv (e1.trans e2) rfl)) (evg_i 1))) (evgs_ec (e_int (evg_neg1 (evg_i 1))) (evgs_ec (e_int (evg_neg1 (evg_i 1))) evgs_en))) (by omega)
      (fun i σ' H' => ∃ w f ys wa o2 o4 o5, chF ((nds.map (·.2)).drop (nds.length - i)) (nds.length - i) = some (w, f) ∧ σ' = [some (.ref n), some (.ref fa), o2, some (.ref wa), o4, o5] ∧ Gx H H' ∧ H' fa = some (.lst ys) ∧ ys.length = nds.length ∧
        (∀ (j : Nat) (c : List Nat), f[j]? = some c → ∃ y, ys[nds.length - i + j]? = some y ∧ IntsT K c y H') ∧ H' wa = some (.lst (intsV w)) ∧ wa ≠ fa) ?_ ?_ ?_
    · intro H3 e3
      refine ⟨[], [], ys0, wa, _, _, _, ?_, rfl, (e1.trans e2).trans e3, (e2.trans e3) _ _ hfa, by rw [hy0, hxl], fun j c h => by simp at h, e3 _ _ hwa, hwf⟩
      rw [Nat.sub_zero, List.drop_of_length_le (by rw [List.length_map]; exact Nat.le_refl _)]
      rfl
    · rintro i σ' H3 hi ⟨w, f, ys, wa, o2, o4, o5, hch, rfl, e3, hfa, hyl, hf, hwa, hwf⟩
      obtain ⟨⟨wd, a⟩, hnd⟩ : ∃ q, nds[nds.length - 1 - i]? = some q := ⟨nds[nds.length - 1 - i]'(by omega), by simp⟩
      obtain ⟨x, hxi, p, rfl, hp⟩ := hx.2 _ _ hnd
      -- cut
      refine g_asg (evg_sub1 (evg_lenL (eq_lst (evg_ve rfl) (SqL.of hwa))) (int_e (evg_ixT (k := 1) (eq_tup (evg_ixT (hlenv e3 rfl) (evg_vi rfl) hxi) (e3.t hp)) (evg_i 1) rfl))) ?_
      rintro _ H4 e4 ⟨cut, rfl, hcut⟩
      have hcut : cut = ((w.length : Int) - (a : Int)) := by
        have hcut : cut = (((intsV w).length : Int) - (a : Int)) := hcut
        rw [List.length_map] at hcut
        exact hcut
      have step : chF ((nds.map (·.2)).drop (nds.length - 1 - i)) (nds.length - 1 - i) = if w.length < a then none else some (w.take (w.length - a) ++ [nds.length - 1 - i], (w.drop (w.length - a)).reverse :: f) := by
        have hd : (nds.map (·.2)).drop (nds.length - 1 - i) = a :: (nds.map (·.2)).drop (nds.length - i) := by
          rw [List.drop_eq_getElem_cons (by rw [List.length_map]; omega)]
          congr 1
          · have : nds[nds.length - 1 - i]'(by omega) = (wd, a) := by
              have := List.getElem?_eq_some_iff.mp hnd
              exact this.2
            rw [List.getElem_map, this]
          · congr 1
            omega
        rw [hd, chF_cons, show nds.length - 1 - i + 1 = nds.length - i by omega, hch]
      refine g_when (R := fun b => b = decide (cut < 0)) (evb_test (evg_cmp1 (evg_vi rfl) (evg_i 0))) ?_ ?_
      · intro hb H5 e5
        have hlt : w.length < a := by
          have := of_decide_eq_true hb.symm
          omega
        refine (k.1 ?_) H5 ((e3.trans e4).trans e5)
        unfold chOf
        rw [if_pos hlt] at step
        rw [chF_none (k := nds.length - 1 - i) (as := nds.map (·.2)) (off := 0) (by rw [Nat.zero_add]; exact step)]
      · intro hb H5 e5
        have hge : ¬ w.length < a := by
          have : ¬ cut < 0 := of_decide_eq_false hb.symm
          omega
        rw [if_neg hge] at step
        have hcut' : cut = ((w.length - a : Nat) : Int) := by omega
        have e45 := e4.trans e5
        have hle : w.length - a ≤ (intsV w).length := by rw [List.length_map]; omega
        have hw5 : EvG (tVar 3) [some (V.ref n), some (.ref fa), o2, some (.ref wa), some (.int ((nds.length - 1 - i : Nat) : Int)), some (.int cut)] H5 (LstK K (intsV w)) := eq_lst (evg_ve rfl) (SqL.of (e45 _ _ hwa))
        have hc5 : ∀ {H6 : Hp}, EvG (tVar 5) [some (V.ref n), some (.ref fa), o2, some (.ref wa), some (.int ((nds.length - 1 - i : Nat) : Int)), some (.int cut)] H6 (IntT fun i => i = ((w.length - a : Nat) : Int)) := by
          rw [← hcut']
          exact evg_vi rfl
        refine g_putN (k := nds.length - 1 - i) (evn_tupleL (newl_k (evn_rev (newl_k (evn_drop hw5 hc5 hle))))) (fun _ _ => evg_ve rfl) (evg_vi rfl) (e45 _ _ hfa) (by rw [hyl]; omega) ?_
        rintro tp H6 H7 e6 ntp htp e7
        have e67 := e6.trans e7
        have hfa7 := e67 _ _ (e45 _ _ hfa)
        refine g_asgN1 (Φ := NewL (intsV (w.take (w.length - a) ++ [nds.length - 1 - i]))) (evn_lst (Ψ := fun vs _ => vs = intsV (w.take (w.length - a) ++ [nds.length - 1 - i])) (evgs_star (newl_k (evn_take (k := w.length - a) (eq_lst (evg_ve rfl) (SqL.of (by rw [upd_ne hwf]; exact e67 _ _ (e45 _ _ hwa)))) hc5 hle)) fun H8 e8 =>
          evgs_cons (evg_ve rfl) fun v H9 _ z => evgs_nil fun _ _ => ?_) (fun vs _ h => by rw [h, List.length_map]; have := (chF_len step).2; rw [List.length_drop, List.length_map] at this; omega) fun vs p _ _ _ h _ _ hp => by rw [h] at hp; exact hp) ?_
        · have z : v = .int ((nds.length - 1 - i : Nat) : Int) := z
          show (intsV w).take (w.length - a) ++ [v] = _
          rw [z, ← List.map_take]
          show intsV _ ++ intsV [_] = intsV _
          rw [← List.map_append]
        · rintro wa2 H8 e8 nwa2 hwa2
          have k8 : Kx H3 H8 := ((e45.trans e67).k.trans (Kx.put hfa7)).trans e8.k
          have hg : Gx H H8 := ((((e3.trans e4).trans e5).trans e67).mut nfa).trans e8
          refine ⟨_, _, ys.set (nds.length - 1 - i) (.ref tp), wa2, _, _, _, by rw [show nds.length - (i + 1) = nds.length - 1 - i by omega]; exact step, rfl, hg, e8 _ _ upd_same, by rw [List.length_set]; exact hyl, ?_, hwa2, fun z => by
            rw [z, upd_same] at nwa2
            cases nwa2⟩
          intro j c hj
          rw [show nds.length - (i + 1) = nds.length - 1 - i by omega]
          cases j with
          | zero =>
            cases hj
            refine ⟨.ref tp, by rw [Nat.add_zero, List.getElem?_set_self (by rw [hyl]; omega)], tp, rfl, ?_⟩
            have h7 : H7 tp = some (.tup ((intsV w).drop (w.length - a)).reverse) := e7 _ _ htp
            have h8 := k8
            have h9 : H8 tp = some (.tup ((intsV w).drop (w.length - a)).reverse) := e8 _ _ (by rw [upd_ne (fun z => by rw [z, hfa7] at h7; cases h7)]; exact h7)
            rw [← List.map_drop, ← List.map_reverse] at h9
            exact SqT.of h9
          | succ j =>
            obtain ⟨y, h1, h2⟩ := hf j c hj
            refine ⟨y, ?_, IntsT.firm _ _ _ k8 h2⟩
            rw [List.getElem?_set_ne (by omega), show nds.length - 1 - i + (j + 1) = nds.length - i + j by omega]
            exact h1
    · rintro σ' H3 ⟨w, f, ys, wa, o2, o4, o5, hch, rfl, e3, hfa, hyl, hf, hwa, hwf⟩
      rw [Nat.sub_self, List.drop_zero] at hch
      have hco : chOf nds = if w = [0] then some f else none := by
        unfold chOf
        rw [hch]
      refine g_ret (Φ := fun v H' => (w = [0] → v = .ref fa ∧ Gx H3 H') ∧ (¬ w = [0] → v = .non ∧ Gx H3 H')) (evg_ifE (b := decide (w = [0])) (evb_test (evg_is (evg_eqD (d := .list (w.map fun (n : Nat) => PyData.int (n : Int))) (e := .list ([0].map fun (n : Nat) => PyData.int (n : Int))) (evg_var rfl fun _ e => .lst (SqL.of (e _ _ hwa)) (Dp.ints w))
        (evg_dlst (dats_c dat_int dats_nil) (by decide)) (ints_shaped w).1 (ints_shaped [0]).1) (intsV_eqv w [0]))) ?_ ?_) ?_
      · intro hb H4 e4
        exact evg_var rfl fun H5 e5 => ⟨fun _ => ⟨rfl, e4.trans e5⟩, fun h => absurd (of_decide_eq_true hb) h⟩
      · intro hb H4 e4
        exact evg_c fun H5 e5 => ⟨fun h => absurd h (of_decide_eq_false hb), fun _ => ⟨rfl, e4.trans e5⟩⟩
      · rintro v H4 e4 ⟨h1, h2⟩
        by_cases hw : w = [0]
        · obtain ⟨rfl, _⟩ := h1 hw
          rw [if_pos hw] at hco
          refine k.2 f hco fa ys H4 (e3.trans e4) nfa (e4 _ _ hfa) ⟨by rw [hyl, (chF_len hch).1, List.length_map], fun j c hj => ?_⟩
          obtain ⟨y, h3, h4⟩ := hf j c hj
          rw [Nat.sub_self, Nat.zero_add] at h3
          exact ⟨y, h3, IntsT.firm _ _ _ e4.k h4⟩
        · obtain ⟨rfl, _⟩ := h2 hw
          rw [if_neg hw] at hco
          exact k.1 hco H4 (e3.trans e4)
end
section
variable {P : Program} {w : World} {K : PySem.W.Frag} {mg : Str → Option Value} {base : Heap}
abbrev s_ends_of : Stmt := top 23
abbrev nm_ends_of : List Str := ["children", "found", "at"]
abbrev ps_ends_of : List Str := ["children"]
theorem sc_ends_of : FnScope nm_ends_of ps_ends_of (defScope s_ends_of) := ⟨rfl, rfl, rfl, by decide +kernel, rfl, by decide +kernel, by decide +kernel⟩
theorem ok_ends_of {f : Addr} {fd : FuncData} (F : Fun K "ends_of" "ends_of" s_ends_of f fd) (T : Txt K mg) : FnOk P w K mg base CX0 1 f fd ps_ends_of (spEnds K) := by
  have nd := sc_ends_of.nd
  refine F.ok sc_ends_of (fun vs H Q E h => ?_) (fun cdv A outer s H vs Q E hr h => ?_)
  · obtain ⟨_, _, rfl, _⟩ := h
    rfl
  · obtain ⟨a, cs, rfl, ⟨xs, hs, hx⟩, hok, hl, k⟩ := h
    refine ⟨_, (pss_cons (ps_setLc (i := 1) (own := [("at", 2)]) (g := (gName 2)) (by rfl) nd rfl rfl (sw_true rfl rfl rfl (by decide +kernel)) (pi_range1 rfl T.z_range (pa_cons (pe_callB (kcall_len (K := K)) (by rfl) T.z_len (by decide +kernel) (pa_cons (pv 0) pa_nil)) pa_nil)) (blkOk_by (own := [("at", 2)]) (N := nm_ends_of) (sc := defScope s_ends_of) (by decide +kernel)) (fun _ _ _ _ _ => (pg_name (i := 2) nd rfl (Or.inl rfl))) (fun _ _ _ _ _ => pts_nil) (fun _ _ _ _ _ => (pe_op op_add (pv 2) pe_int)))
      (pss_cons (ps_for PassesOwn.never rfl (pi_range3 rfl T.z_range (pa_cons (pe_op op_sub (pe_callB (kcall_len (K := K)) (by rfl) T.z_len (by decide +kernel) (pa_cons (pv 0) pa_nil)) pe_int) (pa_cons (pe_un un_neg pe_int) (pa_cons (pe_un un_neg pe_int) pa_nil)))) (pg_name (i := 2) nd rfl (Or.inl rfl)) (pss_one (ps_if (pt_cmpR (kop_neD (K := K) hr.units) (pe_ix (kix_tup (K := K)) (pv 0) (pv 2) (fun _ _ => rfl)) (pe_tup pa_nil) (nomark _)) (pss_one (ps_asg (pe_ix (kix_list (K := K)) (pv 1) (pe_ix (kix_tup (K := K)) (pe_ix (kix_tup (K := K)) (pv 0) (pv 2) (fun _ _ => rfl)) (pe_un un_neg pe_int) (fun _ _ => rfl)) (fun _ _ => rfl)) (pg_sub (pv 1) (pv 2) set_list))) pss_nil)))
      (pss_one (ps_ret (pv 1))))), ?_⟩
    have hxl : xs.length = cs.length := hx.1
    have hlenv : ∀ {σ : L2.St} {H3 : Hp}, Gx H H3 → σ[0]? = some (some (.ref a)) → EvG (tVar 0) σ H3 (TupK K xs) := fun e3 q => eq_tup (evg_ve q) (e3.t hs)
    refine g_asgN (evn_lcA (n := cs.length) (j := 2) (R := fun i y _ => y = .int ((i + 1 : Nat) : Int)) (by
      have := evw_rng (k := (cs.length : Int)) (σ := L2.start nm_ends_of [.ref a]) (H := H) (evgs_e1 (e_int (by rw [← hxl]; exact evg_lenT (hlenv (Gx.refl _) rfl)))) (by omega)
      rw [Int.toNat_natCast] at this
      exact this) (by omega) (fun _ _ _ _ _ h => h) (fun i x H1 _ _ hx => ?_) fun _ => Eq1.firm) ?_
    · subst hx
      exact e_int (by
        have := evg_add1 (σ := (wipe (L2.start nm_ends_of [.ref a]) [2]).set 2 (some (.int (i : Int)))) (H := H1) (ta := tVar 2) (evg_vi rfl) (evg_i 1)
        rw [show ((i + 1 : Nat) : Int) = (i : Int) + 1 by omega]
        exact this)
    rintro fa H1 e1 nfa ⟨ys, hfa, hyl, hy⟩
    obtain rfl := ints_of (f := fun i => i + 1) hyl hy
    refine g_forD (n := cs.length) (evgs_ec (e_int (by rw [← hxl]; exact evg_sub1 (evg_lenT (hlenv e1 rfl)) (evg_i 1))) (evgs_ec (e_int (evg_neg1 (evg_i 1))) (evgs_ec (e_int (evg_neg1 (evg_i 1))) evgs_en))) (by omega)
      (fun i σ' H' => ∃ o2, σ' = [some (.ref a), some (.ref fa), o2] ∧ Gx H H' ∧ H' fa = some (.lst (intsV (enL cs (cs.length - i))))) ?_ ?_ ?_
    · intro H2 e2
      refine ⟨_, rfl, e1.trans e2, ?_⟩
      rw [Nat.sub_zero]
      unfold enL
      rw [List.drop_of_length_le (Nat.le_refl _)]
      show H2 fa = some (.lst (intsV (_ ++ [])))
      rw [List.append_nil]
      exact e2 _ _ hfa
    · rintro i σ' H2 hi ⟨o2, rfl, e2, hfa⟩
      obtain ⟨c, hc⟩ : ∃ q, cs[cs.length - 1 - i]? = some q := ⟨cs[cs.length - 1 - i]'(by omega), by simp⟩
      obtain ⟨y, hyi, p, rfl, hp⟩ := hx.2 _ _ hc
      have hm : cs.length - i = cs.length - 1 - i + 1 := by omega
      rw [hm] at hfa
      have hat : ∀ {H3 : Hp}, Gx H2 H3 → EvG (tOp (rIxT K) (tVar 0) (tVar 2)) [some (V.ref a), some (.ref fa), some (.int ((cs.length - 1 - i : Nat) : Int))] H3 (TupK K (intsV c)) := fun e3 => eq_tup (evg_ixT (hlenv (e2.trans e3) rfl) (evg_vi rfl) hyi) ((e2.trans e3).t hp)
      refine g_when1 (R := fun b => b = !decide (c = [])) (evb_test (evg_is (evg_neD (d := .tuple (c.map fun (n : Nat) => PyData.int (n : Int))) (e := .tuple ([].map fun (n : Nat) => PyData.int (n : Int))) ((hat (Gx.refl _)).imp fun v H3 _ ⟨q, z, hq⟩ => by
        rw [z]
        exact .tup hq (Dp.ints c)) (evg_dtup dats_nil (by decide)) (ints_shaped c).2 (ints_shaped []).2) (by rw [← intsV_eqv c []]; rfl))) ?_ ?_
      · intro hb H3 e3
        have hne : c ≠ [] := fun z => by rw [z] at hb; cases hb
        obtain ⟨kk, hkk⟩ : ∃ kk, c.getLast? = some kk := ⟨c.getLast hne, List.getLast?_eq_some_getLast hne⟩
        obtain ⟨h1, h2⟩ := hok _ _ hc kk (List.mem_of_getLast? hkk)
        have hfa3 := e3 _ _ hfa
        have hel : (enL cs (cs.length - 1 - i + 1)).length = cs.length := enL_len (by omega)
        have hget : (intsV (enL cs (cs.length - 1 - i + 1)))[kk]? = some (.int (((enL cs (cs.length - 1 - i + 1)).getD kk 0 : Nat) : Int)) := by
          rw [List.getElem?_map, List.getD_eq_getElem?_getD, List.getElem?_eq_getElem (by omega)]
          rfl
        refine g_put1 (k := cs.length - 1 - i) (evg_ixL (eq_lst (evg_ve rfl) (SqL.of hfa3)) (int_e (evg_lastT (hat e3) (evg_neg1 (evg_i 1)) (by rw [List.getLast?_map, hkk]; rfl))) hget) (evg_ve rfl) (evg_vi rfl) hfa3 (by rw [List.length_map, hel]; omega) ?_
        intro H4 e4
        refine ⟨_, rfl, (((e2.trans e3).trans e4).mut nfa), ?_⟩
        rw [upd_same, show cs.length - (i + 1) = cs.length - 1 - i by omega, ← enL_set hc hkk h1]
        simp [List.map_set]
      · intro hb H3 e3
        have hc0 : c = [] := by
          have := hb
          by_cases q : c = []
          · exact q
          · rw [decide_eq_false q] at this
            cases this
        subst hc0
        refine ⟨_, rfl, e2.trans e3, ?_⟩
        rw [show cs.length - (i + 1) = cs.length - 1 - i by omega, ← enL_nil hc]
        exact e3 _ _ hfa
    · rintro σ' H2 ⟨o2, rfl, e2, hfa⟩
      rw [Nat.sub_self] at hfa
      refine g_ret (Φ := Eq1 (.ref fa)) (evg_ve rfl) ?_
      rintro v H3 e3 rfl
      exact k fa H3 (e2.trans e3) nfa (e3 _ _ hfa)
end
end K07

set_option Elab.async false
set_option maxRecDepth 100000
set_option maxHeartbeats 1000000
namespace K07
open PySem L2 Ly TM
section
variable {P : Program} {w : World} {K : PySem.W.Frag} {mg : Str → Option Value} {base : Heap}
abbrev s_ascending_rows : Stmt := top 12
abbrev nm_ascending_rows : List Str := ["rows", "word"]
abbrev ps_ascending_rows : List Str := ["rows"]
theorem sc_ascending_rows : FnScope nm_ascending_rows ps_ascending_rows (defScope s_ascending_rows) := ⟨rfl, rfl, rfl, by decide +kernel, rfl, by decide +kernel, by decide +kernel⟩
theorem ok_ascending_rows {f : Addr} {fd : FuncData} (F : Fun K "ascending_rows" "ascending_rows" s_ascending_rows f fd) (T : Txt K mg) : FnOk P w K mg base CX0 1 f fd ps_ascending_rows spAsc := by
  have nd := sc_ascending_rows.nd
  refine F.ok sc_ascending_rows (fun vs H Q E h => ?_) (fun cdv A outer s H vs Q E hr h => ?_)
  · obtain ⟨_, _, rfl, _⟩ := h
    rfl
  · obtain ⟨d, l, rfl, hd, hl, hn, k⟩ := h
    have hu := hu_of hr
    refine ⟨_, (pss_one (ps_ret (pe_dc (own := [("word", 1)]) (g := (gName 1)) (by rfl) nd (kpi_list (K := K) (pe_callB (kcr_sortedS (K := K)) (by rfl) T.z_sorted (by decide +kernel) (pa_cons (pe_callTy (call_list_dK rfl) (by rfl) T.z_list (by decide +kernel) (pa_cons (pv 0) pa_nil)) pa_nil))) (blkOk_by (own := [("word", 1)]) (N := nm_ascending_rows) (sc := defScope s_ascending_rows) (by decide +kernel)) (fun _ _ _ _ _ => (pg_name (i := 1) nd rfl (Or.inl rfl))) (fun _ _ _ _ _ => pts_nil) (fun _ _ _ _ _ => (pv 1)) (fun _ _ _ _ _ => (pe_dget hu (pv 0) (pv 1) (fun _ _ => rfl)))))), ?_⟩
    have hk : (kvD l).map (fun kv => kV kv.1) = (l.map (·.1)).map V.str := by
      unfold kvD
      rw [List.map_map, List.map_map]
      rfl
    refine ⟨_, rfl, d, _, rfl, hd, fun q nq => ⟨q, l.map (·.1), rfl, SqL.of (by rw [← hk]; exact upd_same), by rw [List.length_map]; exact hl, fun ys p pm so np => ⟨p, rfl, ⟨_, SqL.of upd_same⟩, ?_⟩⟩⟩
    have e1 : Gx H (upd H q (.lst ((kvD l).map fun kv => kV kv.1))) := Gx.new nq
    have e2 := e1.trans (Gx.new (o := .lst (ys.map V.str)) np)
    have hyn : ys.Nodup := pm.nodup_iff.mpr hn
    have hyl : ys.length = l.length := by rw [pm.length_eq, List.length_map]
    have hmem : ∀ w ∈ ys, ∃ a, l.lookup w = some a ∧ (w, a) ∈ l := fun w hw => by
      obtain ⟨⟨x, a⟩, hx, rfl⟩ := List.mem_map.mp (pm.mem_iff.mp hw)
      cases q : l.lookup x with
      | none =>
        have := List.lookup_eq_none_iff.mp q _ hx
        simp at this
      | some b =>
        exact ⟨b, rfl, lookup_mem q⟩
    show tDc (fun _ H R => R (Itl K p) H) (gName 1) tYes (tVar 1) (tDGet (tVar 0) (tVar 1)) [1] (L2.start nm_ascending_rows [.ref d]) _ Q
    refine EvN.use (evn_dc (n := ys.length) (Y := fun i x _ => (ys.map V.str)[i]? = some x) (S := fun i σ2 _ => ∃ x, σ2 = [some (.ref d), some x] ∧ (ys.map V.str)[i]? = some x) (B := fun i => true) (k := fun i => Sum.inr (ys.getD i "")) (v := fun i => .int (((l.lookup (ys.getD i "")).getD 0 : Nat) : Int)) ?_ (by omega) ?_ ?_ ?_ ?_ ?_) ?_
    · intro H3 e3 R q3
      refine q3 (Itl K p) H3 (fun H => SqL K H p (ys.map V.str)) (YAt (ys.map V.str)) (Gx.refl _) (by have := walk_list (K := K) (a := p) (xs := ys.map V.str); rw [List.length_map] at this; exact this) (fun H4 e4 => e4.l (e3.l (SqL.of upd_same))) fun i H4 x H5 _ _ ⟨z, hx⟩ => ?_
      subst z
      exact ⟨Gx.refl _, hx⟩
    · intro i x H3 _ _ hx Q3 q3
      exact q3 _ rfl ⟨x, rfl, hx⟩
    · intro i σ2 H3 _ _ _
      exact evb_yes
    · intro i σ2 H3 H4 _ h
      exact h
    · rintro i σ2 H3 hi _ ⟨x, rfl, hx⟩ _
      refine (evg_ve rfl).imp fun v _ _ z => ?_
      have z : v = x := z
      show v = .str (ys.getD i "")
      rw [List.getElem?_map] at hx
      rw [z, List.getD_eq_getElem?_getD]
      cases q5 : ys[i]? with
      | none => rw [q5] at hx; cases hx
      | some y => rw [q5] at hx; cases hx; rfl
    · rintro i σ2 H3 hi e3 ⟨x, rfl, hx⟩ _ H4 e4 Q4 q4
      rw [List.getElem?_map] at hx
      cases q5 : ys[i]? with
      | none => rw [q5] at hx; cases hx
      | some y =>
        rw [q5] at hx
        cases hx
        obtain ⟨a, ha, _⟩ := hmem y (List.mem_of_getElem? q5)
        have hd4 := (e3.trans e4) _ _ (e2 _ _ hd)
        refine ⟨_, rfl, _, rfl, d, .int (a : Int), rfl, .inl ⟨kvD l, Sum.inr y, .inl hd4, rfl, by rw [kvD_val, ha]; rfl⟩, q4 _ H4 (Gx.refl _) ?_⟩
        show _ = V.int _
        rw [List.getD_eq_getElem?_getD, q5]
        show _ = V.int (((l.lookup y).getD 0 : Nat) : Int)
        rw [ha]
        rfl
    · rintro r H3 e3 nr hr3
      have hdc := dcL_of (fun _ : Str => true) (fun w => (Sum.inr w : Key)) (fun w => V.int (((l.lookup w).getD 0 : Nat) : Int)) "" ys (by
        exact List.pairwise_map.mpr (hyn.imp fun h z => h (by injection z))) ys.length (Nat.le_refl _)
      rw [hdc, List.take_length, List.filter_eq_self.mpr (fun _ _ => rfl)] at hr3
      refine k r (ys.map fun w => (w, (l.lookup w).getD 0)) H3 (e2.trans e3) (e2.free nr) ⟨?_, ?_⟩ ?_
      · have h1 : (ys.map fun w => (w, (l.lookup w).getD 0)).Perm ((l.map (·.1)).map fun w => (w, (l.lookup w).getD 0)) := pm.map _
        have h2 : (l.map (·.1)).map (fun w => (w, (l.lookup w).getD 0)) = l := by
          rw [List.map_map]
          conv => rhs; rw [← List.map_id l]
          apply List.map_congr_left
          rintro ⟨x, a⟩ hx
          show (x, (l.lookup x).getD 0) = (x, a)
          rw [lookup_of_mem hn hx]
          rfl
        rw [h2] at h1
        exact h1
      · rw [List.map_map]
        show PyProof.Rows.sortedS (ys.map id) = true
        rw [List.map_id]
        exact so
      · rw [hr3]
        unfold kvD
        rw [List.map_map]
        rfl
abbrev s_arities_in : Stmt := top 24
abbrev nm_arities_in : List Str := ["nodes", "found", "word", "arity"]
abbrev ps_arities_in : List Str := ["nodes"]
theorem sc_arities_in : FnScope nm_arities_in ps_arities_in (defScope s_arities_in) := ⟨rfl, rfl, rfl, by decide +kernel, rfl, by decide +kernel, by decide +kernel⟩
theorem ok_arities_in {f : Addr} {fd : FuncData} (F : Fun K "arities_in" "arities_in" s_arities_in f fd) (T : Txt K mg) {t2 t3 : Tok} (g_ANY : mg "ANY" = some (.str "_" t2)) (g_LOST : mg "LOST" = some (.str "#" t3))
    (C_ascending_rows : Cal P w K mg base "ascending_rows" 1 ps_ascending_rows spAsc) : FnOk P w K mg base CX0 2 f fd ps_arities_in (spArities K) := by
  have nd := sc_arities_in.nd
  refine F.ok sc_arities_in (fun vs H Q E h => ?_) (fun cdv A outer s H vs Q E hr h => ?_)
  · obtain ⟨_, _, rfl, _⟩ := h
    rfl
  · obtain ⟨n, nds, rfl, ⟨xs, hs, hx⟩, hl, k⟩ := h
    have hu := hu_of hr
    refine ⟨_, (pss_cons (ps_set (i := 1) nd rfl (Or.inl rfl) pe_dnewK)
      (pss_cons (ps_for PassesOwn.never rfl (kpi_tup (K := K) (pv 0)) (kpg_tup (K := K) (n := 2) rfl (pgs_cons (pg_name (i := 2) nd rfl (Or.inl rfl)) (pgs_cons (pg_name (i := 3) nd rfl (Or.inl rfl)) pgs_nil))) (pss_cons (ps_if (pt_cmpR op_ne (pe_dget2 hu (pv 1) (pv 2) (pv 3) ⟨rfl, rfl, rfl, rfl⟩) (pv 3) (nomark _)) (pss_one (ps_ret pe_non)) pss_nil)
      (pss_one (ps_dput hu (pv 1) (pv 2) (pv 3) rfl))))
      (pss_one (ps_ret (pe_cal C_ascending_rows (hr.mono (by first | decide | omega)) rfl (pa_cons (pe_lock (pe_dc (own := [("word", 2), ("arity", 3)]) (g := (gTup K 2 (gCons (gName 2) (gCons (gName 3) gNil)))) (by rfl) nd (pi_items (pv 1)) (blkOk_by (own := [("word", 2), ("arity", 3)]) (N := nm_arities_in) (sc := defScope s_arities_in) (by decide +kernel)) (fun _ _ _ _ _ => (kpg_tup (K := K) (n := 2) rfl (pgs_cons (pg_name (i := 2) nd rfl (Or.inl rfl)) (pgs_cons (pg_name (i := 3) nd rfl (Or.inl rfl)) pgs_nil)))) (fun _ _ _ _ _ => (pts_one (pt_cmpR (kop_notIn_seq (K := K)) (pv 2) (pe_tup (pa_cons (pe_gstr rfl g_ANY) (pa_cons (pe_gstr rfl g_LOST) pa_nil))) rfl))) (fun _ _ _ _ _ => (pv 2)) (fun _ _ _ _ _ => (pv 3)))) pa_nil)))))), ?_⟩
    refine g_asgN evn_dnew ?_
    rintro d H1 e1 nd1 hd1
    have hxl : xs.length = nds.length := hx.1
    refine g_forT (a := n) (xs := xs) (evg_ve rfl) (e1.t hs) (fun i σ' H' => ∃ acc o2 o3, arF nds [] = arF (nds.drop i) acc ∧ (acc.map (·.1)).Nodup ∧ acc.length ≤ i ∧ σ' = [some (.ref n), some (.ref d), o2, o3] ∧ Gx H H' ∧ H' d = some (.dK (kvD acc))) ?_ ?_ ?_ ?_
    · intro H2 e2
      exact ⟨[], _, _, rfl, List.nodup_nil, Nat.le_refl _, rfl, e1.trans e2, e2 _ _ hd1⟩
    · rintro i σ' H2 ⟨_, _, _, _, _, _, _, e2, _⟩
      exact e2.t hs
    · rintro i x σ' H2 hxi ⟨acc, o2, o3, har, hnd, hal, rfl, e2, hd2⟩
      have hi : i < nds.length := by
        rw [← hxl]
        exact (List.getElem?_eq_some_iff.mp hxi).1
      obtain ⟨⟨wd, a⟩, hq⟩ : ∃ q, nds[i]? = some q := ⟨nds[i], List.getElem?_eq_getElem hi⟩
      obtain ⟨x', hxi', p, rfl, hp⟩ := hx.2 _ _ hq
      rw [hxi] at hxi'
      cases hxi'
      have hdrop : nds.drop i = (wd, a) :: nds.drop (i + 1) := by
        rw [List.drop_eq_getElem_cons hi]
        congr 1
        exact (List.getElem?_eq_some_iff.mp hq).2
      refine tg_pair rfl (e2.t hp) ?_
      have hstep : arF nds [] = match acc.lookup wd with
        | none => arF (nds.drop (i + 1)) (acc ++ [(wd, a)])
        | some b => if b = a then arF (nds.drop (i + 1)) acc else none := by
        rw [har, hdrop]
        rfl
      refine ⟨_, rfl, d, rfl, .inl ⟨_, Rd.of hd2⟩, _, rfl, _, rfl, _, DGet.k (k := Sum.inr wd) hd2, _, rfl, ?_⟩
      rw [kvD_val]
      cases hlk : acc.lookup wd with
      | none =>
        rw [hlk] at hstep
        refine ⟨rfl, _, rfl, ?_⟩
        refine iteNS rfl ?_
        refine ⟨_, rfl, _, rfl, _, rfl, d, _, rfl, DPut.k (k := Sum.inr wd) hd2 (Evl.sz_lt (by unfold kvD; rw [List.length_map]; omega)), ?_⟩
        rw [kvD_new hlk]
        refine ⟨acc ++ [(wd, a)], _, _, hstep, ?_, by rw [List.length_append]; show _ + 1 ≤ _; omega, rfl, e2.mut nd1, upd_same⟩
        rw [List.map_append, List.nodup_append]
        refine ⟨hnd, by simp, fun x hx y hy => ?_⟩
        simp at hy
        subst hy
        intro z
        subst z
        obtain ⟨⟨x, b⟩, hx', rfl⟩ := List.mem_map.mp hx
        have := List.lookup_eq_none_iff.mp hlk _ hx'
        simp at this
      | some b =>
        rw [hlk] at hstep
        refine ⟨rfl, _, rfl, ?_⟩
        by_cases hba : b = a
        · subst hba
          simp only [if_pos rfl] at hstep
          refine iteNS rfl ?_
          refine ⟨_, rfl, _, rfl, _, rfl, d, _, rfl, DPut.k (k := Sum.inr wd) hd2 (Evl.sz_lt (by unfold kvD; rw [List.length_map]; omega)), ?_⟩
          rw [kvD_same hnd hlk]
          exact ⟨acc, _, _, hstep, hnd, by omega, rfl, e2.mut nd1, upd_same⟩
        · simp only [if_neg hba] at hstep
          have hne : ¬ (V.int (b : Int) = V.int (a : Int)) := fun z => hba (by injection z with z; omega)
          show if (!decide (V.int (b : Int) = V.int (a : Int))) = true then _ else _
          rw [decide_eq_false hne]
          exact iteT (k.1 hstep H2 e2)
    · rintro σ' H2 ⟨acc, o2, o3, har, hnd, hal, rfl, e2, hd2⟩
      rw [hxl, List.drop_length] at har
      have har : arF nds [] = some acc := har
      let dn : Nd := ("", 0)
      have hkn : (acc.map fun x => (Sum.inr x.1 : Key)).Nodup := by
        have h1 : acc.map (fun x => (Sum.inr x.1 : Key)) = (acc.map (·.1)).map fun w => (Sum.inr w : Key) := by
          rw [List.map_map]
          rfl
        rw [h1]
        exact List.pairwise_map.mpr (hnd.imp fun h z => h (by injection z))
      have hkl : (kvD acc).length = acc.length := by unfold kvD; rw [List.length_map]
      refine EvN.use (te := tLockE _) (σ := [some (.ref n), some (.ref d), o2, o3]) (evn_lock (Φ := fun p H' => H' p = some (.dK (kvD (acc.filter fun n => !isLeaf n.1)))) hd2 (fun od => (evn_dc (n := (kvD acc).length) (vs := [2, 3]) (S := fun i σ2 _ => ∃ q, acc[i]? = some q ∧ σ2 = [some (.ref n), some (.ref d), some (.str q.1), some (.int (q.2 : Int))])
        (B := fun i => !isLeaf (acc.getD i dn).1) (k := fun i => Sum.inr (acc.getD i dn).1) (v := fun i => .int ((acc.getD i dn).2 : Int)) (evw_items (evg_ve rfl) upd_same) (by omega) ?_ ?_ ?_ ?_ ?_).imp ?_) ?_) ?_
      · rintro i x H3 hi _ ⟨Tp, kk, vv, hx', hT, hkv⟩ Q3 q3
        unfold kvD at hkv
        rw [List.getElem?_map] at hkv
        cases hq : acc[i]? with
        | none => rw [hq] at hkv; cases hkv
        | some q =>
          rw [hq] at hkv
          cases hkv
          exact tg_pair hx' (SqT.of hT) (q3 _ rfl ⟨q, hq, rfl⟩)
      · rintro i σ2 H3 hi _ ⟨q, hq, rfl⟩
        refine evb_test fun H4 e4 Q4 q4 => ?_
        refine ⟨_, rfl, Evl.sz_of (by show 2 ≤ _; decide), fun tp ht => ⟨tp, _, rfl, .inr (SqT.of upd_same), rfl, rfl, q4 _ _ (Gx.new ht) ⟨_, rfl, ?_⟩⟩⟩
        show (!inV (.str q.1) [.str "_", .str "#"]) = !isLeaf (acc.getD i dn).1
        rw [List.getD_eq_getElem?_getD, hq]
        show (!inV (.str q.1) [.str "_", .str "#"]) = !isLeaf q.1
        rw [inV_leaf]
      · intro i σ2 H3 H4 _ h
        exact h
      · rintro i σ2 H3 hi _ ⟨q, hq, rfl⟩ _
        refine (evg_ve rfl).imp fun v _ _ z => ?_
        have z : v = .str q.1 := z
        show v = .str (acc.getD i dn).1
        rw [z, List.getD_eq_getElem?_getD, hq]
        rfl
      · rintro i σ2 H3 hi _ ⟨q, hq, rfl⟩ _
        refine (evg_ve rfl).imp fun v _ _ z => ?_
        have z : v = .int (q.2 : Int) := z
        show v = .int ((acc.getD i dn).2 : Int)
        rw [z, List.getD_eq_getElem?_getD, hq]
        rfl
      · intro p H3 _ hp
        have hdc := dcL_of (fun n : Nd => !isLeaf n.1) (fun n => (Sum.inr n.1 : Key)) (fun n => V.int (n.2 : Int)) dn acc hkn acc.length (Nat.le_refl _)
        rw [hkl, hdc, List.take_length] at hp
        exact hp
      · intro p H3 hp hpd
        rw [upd_ne hpd]
        exact hp
      · rintro p H3 e3 np hp
        refine ⟨p, _, rfl, hp, ?_, ?_, fun r l' H4 e4 nr asc hr => ?_⟩
        · have := List.length_filter_le (fun n : Nd => !isLeaf n.1) acc
          omega
        · exact hnd.sublist (List.Sublist.map _ List.filter_sublist)
        · exact k.2 acc har r l' H4 (e2.trans (e3.trans e4)) ((e2.trans e3).free nr) asc hr
end
end K07

set_option Elab.async false
set_option maxRecDepth 100000
set_option maxHeartbeats 1000000
namespace K07
open PySem L2 Ly TM
section
variable {P : Program} {w : World} {K : PySem.W.Frag} {mg : Str → Option Value} {base : Heap}
abbrev s_is_integer : Stmt := top 8
abbrev nm_is_integer : List Str := ["value"]
abbrev ps_is_integer : List Str := ["value"]
theorem sc_is_integer : FnScope nm_is_integer ps_is_integer (defScope s_is_integer) := ⟨rfl, rfl, rfl, by decide +kernel, rfl, by decide +kernel, by decide +kernel⟩
theorem ok_is_integer {f : Addr} {fd : FuncData} (F : Fun K "is_integer" "is_integer" s_is_integer f fd) (T : Txt K mg) {tL : Tok} (g_LONGEST : mg "LONGEST" = some (.int (10 ^ 60) tL)) : FnOk P w K mg base CX0 1 f fd ["value"] (spIsInt K) := by
  have nd := sc_is_integer.nd
  refine F.ok sc_is_integer (fun vs H Q E h => ?_) (fun cdv A outer s H vs Q E hr h => ?_)
  · obtain ⟨_, _, rfl, _⟩ := h
    rfl
  · obtain ⟨x, kd, rfl, hx, k⟩ := h
    refine ⟨_, (pss_one (ps_ret (pe_and (pe_callB (kcall_isi (K := K)) (by rfl) T.z_isinstance (by decide +kernel) (pa_cons (pv 0) (pa_cons (pe_ty "int" (by rfl) T.z_int (by decide +kernel)) pa_nil))) (pe_and (pe_not (pe_callB (kcall_isi (K := K)) (by rfl) T.z_isinstance (by decide +kernel) (pa_cons (pv 0) (pa_cons (pe_ty "bool" (by rfl) T.z_bool (by decide +kernel)) pa_nil)))) (pe_one (pe_chain op_lt op_lt (pe_un un_neg (pe_gint rfl g_LONGEST)) (pv 0) (pe_gint rfl g_LONGEST))))))), ?_⟩
    obtain ⟨t1, ty1, kt1⟩ := hx.isi (n := "int") (by decide)
    obtain ⟨t2, ty2, kt2⟩ := hx.isi (n := "bool") (by decide)
    refine ⟨_, rfl, _, _, _, _, _, rfl, ClsV.ty _, ty1, kt1, _, rfl, ?_⟩
    cases hx with
    | int i =>
      refine iteT ⟨_, rfl, _, _, _, _, _, rfl, ClsV.ty _, ty2, kt2, _, rfl, _, rfl, iteT ?_⟩
      refine ⟨_, rfl, _, rfl, _, _, rfl, rfl, _, rfl, ?_⟩
      have k : Q (.bl (decide (-(10 ^ 60) < i) && decide (i < 10 ^ 60))) H := k
      by_cases h1 : -(10 ^ 60) < i
      · rw [decide_eq_true h1] at k ⊢
        refine iteT ⟨_, _, rfl, rfl, ?_⟩
        exact k
      · rw [decide_eq_false h1] at k ⊢
        exact iteF k
    | bl b => exact iteT ⟨_, rfl, _, _, _, _, _, rfl, ClsV.ty _, ty2, kt2, _, rfl, _, rfl, iteF k⟩
    | non => exact iteF k
    | str x => exact iteF k
    | lst e => exact iteF k
    | tup e => exact iteF k
    | dK e => exact iteF k
    | own e o => exact iteF k
end
section
variable {P : Program} {w : World} {K : PySem.W.Frag} {mg : Str → Option Value} {base : Heap}
abbrev s_is_within : Stmt := top 9
abbrev nm_is_within : List Str := ["value", "least", "most"]
abbrev ps_is_within : List Str := ["value", "least", "most"]
theorem sc_is_within : FnScope nm_is_within ps_is_within (defScope s_is_within) := ⟨rfl, rfl, rfl, by decide +kernel, rfl, by decide +kernel, by decide +kernel⟩
theorem ok_is_within {f : Addr} {fd : FuncData} (F : Fun K "is_within" "is_within" s_is_within f fd) (C_is_integer : Cal P w K mg base "is_integer" 1 ["value"] (spIsInt K)) : FnOk P w K mg base CX0 2 f fd ["value", "least", "most"] (spWithin K) := by
  have nd := sc_is_within.nd
  refine F.ok sc_is_within (fun vs H Q E h => ?_) (fun cdv A outer s H vs Q E hr h => ?_)
  · obtain ⟨_, _, _, _, rfl, _⟩ := h
    rfl
  · obtain ⟨x, kd, lo, hi, rfl, hx, k⟩ := h
    refine ⟨_, (pss_one (ps_ret (pe_and (pe_cal C_is_integer (hr.mono (by first | decide | omega)) rfl (pa_cons (pv 0) pa_nil)) (pe_one (pe_chain op_le op_le (pv 1) (pv 0) (pv 2)))))), ?_⟩
    refine ⟨_, rfl, x, kd, rfl, hx, _, rfl, ?_⟩
    cases x with
    | int i =>
      cases q1 : isI (.int i) with
      | false =>
        refine iteF ?_
        have k : Q (.bl (isI (.int i) && (decide (lo ≤ i) && decide (i ≤ hi)))) H := k
        rw [q1] at k
        exact k
      | true =>
        have k : Q (.bl (isI (.int i) && (decide (lo ≤ i) && decide (i ≤ hi)))) H := k
        rw [q1, Bool.true_and] at k
        refine iteT ⟨_, rfl, _, rfl, _, _, rfl, rfl, _, rfl, ?_⟩
        by_cases h1 : lo ≤ i
        · rw [decide_eq_true h1] at k ⊢
          refine iteT ⟨_, rfl, _, _, rfl, rfl, ?_⟩
          exact k
        · rw [decide_eq_false h1] at k ⊢
          exact iteF k
    | _ => exact iteF k
end
section
variable {P : Program} {w : World} {K : PySem.W.Frag} {mg : Str → Option Value} {base : Heap}
abbrev s_is_word : Stmt := top 10
abbrev nm_is_word : List Str := ["value", "sign"]
abbrev ps_is_word : List Str := ["value"]
theorem sc_is_word : FnScope nm_is_word ps_is_word (defScope s_is_word) := ⟨rfl, rfl, rfl, by decide +kernel, rfl, by decide +kernel, by decide +kernel⟩
theorem ok_is_word {f : Addr} {fd : FuncData} (F : Fun K "is_word" "is_word" s_is_word f fd) (T : Txt K mg) {t1 t2 : Tok} (g_MAX_LETTERS : mg "MAX_LETTERS" = some (.int 8 t1)) (g_LETTERS : mg "LETTERS" = some (.str "abcdefghijklmnopqrstuvwxyz" t2)) : FnOk P w K mg base CX0 1 f fd ["value"] (spWord K) := by
  have nd := sc_is_word.nd
  refine F.ok sc_is_word (fun vs H Q E h => ?_) (fun cdv A outer s H vs Q E hr h => ?_)
  · obtain ⟨_, _, rfl, _⟩ := h
    rfl
  · obtain ⟨x, kd, rfl, hx, sm, k⟩ := h
    refine ⟨_, (pss_one (ps_ret (pe_and (pe_callB (kcall_isi (K := K)) (by rfl) T.z_isinstance (by decide +kernel) (pa_cons (pv 0) (pa_cons (pe_ty "str" (by rfl) T.z_str (by decide +kernel)) pa_nil))) (pe_and (pe_chain op_le op_le pe_int (pe_callB call_len_str (by rfl) T.z_len (by decide +kernel) (pa_cons (pv 0) pa_nil)) (pe_gint rfl g_MAX_LETTERS)) (pe_one (pe_callB (kcr_all (K := K) rfl) (by rfl) T.z_all (by decide +kernel) (pa_cons (pe_lc (own := [("sign", 1)]) (g := (gName 1)) (by rfl) nd (pi_str (pv 0)) (blkOk_by (own := [("sign", 1)]) (N := nm_is_word) (sc := defScope s_is_word) (by decide +kernel)) (fun _ _ _ _ _ => (pg_name (i := 1) nd rfl (Or.inl rfl))) (fun _ _ _ _ _ => pts_nil) (fun _ _ _ _ _ => (pe_cmpR op_in_sign (pv 1) (pe_gstr rfl g_LETTERS) rfl))) pa_nil))))))), ?_⟩
    obtain ⟨t1, ty1, kt1⟩ := hx.isi (n := "str") (by decide)
    refine ⟨_, rfl, _, _, _, _, _, rfl, ClsV.ty _, ty1, kt1, _, rfl, ?_⟩
    cases hx with
    | str z =>
      have hz := sm z rfl
      refine iteT ?_
      have k : ∀ H', Gx H H' → Q (.bl ((decide (1 ≤ (z.length : Int)) && decide ((z.length : Int) ≤ 8)) && z.cps.toList.all fun c => decide (c ∈ letters))) H' := k
      have h1 : EvG (tCB (fun xs H Q => ∃ z, xs = [.str z] ∧ z.length ≤ sizeLine ∧ Q (.int z.length) H) (tCons (tVar 0) tNil)) [some (.str z), none] H (IntT fun i => i = (z.length : Int)) := fun H1 _ Q q => ⟨_, rfl, z, rfl, Evl.sz_of hz, q _ H1 (Gx.refl _) ⟨_, rfl, rfl⟩⟩
      refine EvG.use (te := tAndV _ _) (evg_andV (evg_chain (f := fun i j => decide (i ≤ j)) (g := fun i j => decide (i ≤ j)) (evg_i 1) h1 (evg_i 8)) (b := z.cps.toList.all fun c => decide (c ∈ letters)) fun hle H1 e1 => ?_) fun v H1 e1 ⟨b, z1, hb⟩ => by rw [z1, hb]; exact k H1 e1
      have hl : z.cps.size ≤ 8 := by
        rw [Bool.and_eq_true] at hle
        have := of_decide_eq_true hle.2
        show z.length ≤ 8
        omega
      refine evg_rAll ((evn_lcA (R := fun i y _ => ∃ c, z.cps[i]? = some c ∧ y = .bl (decide (c ∈ letters))) (evw_str (z := z) (evg_var rfl fun _ _ => rfl)) (by omega) (fun _ _ _ _ _ h => h) ?_ fun _ _ _ _ _ h => h).imp ?_)
      · rintro i x H3 _ e3 ⟨c, hc, rfl⟩ H4 e4 Q q
        exact ⟨_, rfl, c, _, rfl, rfl, q _ H4 (Gx.refl _) ⟨c, hc, rfl⟩⟩
      · rintro p H3 e3 ⟨ys, hp, hlen, hall⟩
        have hys : ys = (z.cps.toList.map fun c => decide (c ∈ letters)).map V.bl := by
          rw [List.map_map]
          exact of_cps hlen hall
        refine ⟨z.cps.toList.map fun c => decide (c ∈ letters), by rw [← hys]; exact hp, ?_⟩
        rw [List.all_map]
        rfl
    | bl b => exact iteF (k H (Gx.refl _))
    | non => exact iteF (k H (Gx.refl _))
    | int x => exact iteF (k H (Gx.refl _))
    | lst e => exact iteF (k H (Gx.refl _))
    | tup e => exact iteF (k H (Gx.refl _))
    | dK e => exact iteF (k H (Gx.refl _))
    | own e o => exact iteF (k H (Gx.refl _))
end
section
variable {P : Program} {w : World} {K : PySem.W.Frag} {mg : Str → Option Value} {base : Heap}
abbrev s_is_node : Stmt := top 11
abbrev nm_is_node : List Str := ["value"]
abbrev ps_is_node : List Str := ["value"]
theorem sc_is_node : FnScope nm_is_node ps_is_node (defScope s_is_node) := ⟨rfl, rfl, rfl, by decide +kernel, rfl, by decide +kernel, by decide +kernel⟩
theorem ok_is_node {f : Addr} {fd : FuncData} (F : Fun K "is_node" "is_node" s_is_node f fd) (T : Txt K mg) {t1 t2 t3 : Tok} (g_MAX_ARITY : mg "MAX_ARITY" = some (.int 3 t1)) (g_ANY : mg "ANY" = some (.str "_" t2)) (g_LOST : mg "LOST" = some (.str "#" t3))
    (C_is_within : Cal P w K mg base "is_within" 2 ["value", "least", "most"] (spWithin K)) (C_is_word : Cal P w K mg base "is_word" 1 ["value"] (spWord K)) : FnOk P w K mg base CX0 3 f fd ["value"] (spNode K) := by
  have nd := sc_is_node.nd
  refine F.ok sc_is_node (fun vs H Q E h => ?_) (fun cdv A outer s H vs Q E hr h => ?_)
  · obtain ⟨_, _, rfl, _⟩ := h
    rfl
  · obtain ⟨x, b, rfl, hx, k⟩ := h
    refine ⟨_, (pss_cons (ps_if (PW.pt (pw_or (pt_not (pt_val (pe_callB (kcall_isi (K := K)) (by rfl) T.z_isinstance (by decide +kernel) (pa_cons (pv 0) (pa_cons (pe_ty "tuple" (by rfl) T.z_tuple (by decide +kernel)) pa_nil))))) (pw_or (pt_cmpR op_ne (pe_callB (kcall_len (K := K)) (by rfl) T.z_len (by decide +kernel) (pa_cons (pv 0) pa_nil)) pe_int (nomark _)) (pw_or1 (pt_not (pt_val (pe_cal C_is_within (hr.mono (by first | decide | omega)) rfl (pa_cons (pe_ix (kix_tup (K := K)) (pv 0) pe_int (fun _ _ => rfl)) (pa_cons pe_int (pa_cons (pe_gint rfl g_MAX_ARITY) pa_nil)))))))))) (pss_one (ps_ret pe_bl)) pss_nil)
      (pss_one (ps_ret (pe_or (pe_cal C_is_word (hr.mono (by first | decide | omega)) rfl (pa_cons (pe_ix (kix_tup (K := K)) (pv 0) pe_int (fun _ _ => rfl)) pa_nil)) (pe_one (pe_and (pe_callB (kcall_isi (K := K)) (by rfl) T.z_isinstance (by decide +kernel) (pa_cons (pe_ix (kix_tup (K := K)) (pv 0) pe_int (fun _ _ => rfl)) (pa_cons (pe_ty "str" (by rfl) T.z_str (by decide +kernel)) pa_nil))) (pe_and (pe_cmpR (kop_in_seq (K := K)) (pe_ix (kix_tup (K := K)) (pv 0) pe_int (fun _ _ => rfl)) (pe_tup (pa_cons (pe_gstr rfl g_ANY) (pa_cons (pe_gstr rfl g_LOST) pa_nil))) rfl) (pe_one (pe_cmpR op_eq (pe_ix (kix_tup (K := K)) (pv 0) pe_int (fun _ _ => rfl)) pe_int (nomark _)))))))))), ?_⟩
    cases hx with
    | @other _ kk p hk =>
      obtain ⟨t1, ty1, kt1⟩ := p.isi (n := "tuple") (by decide)
      have e : kdIs kk "tuple" = false := (by cases kk <;> first | rfl | exact absurd rfl hk)
      rw [e] at kt1
      refine ⟨_, rfl, _, _, _, _, _, rfl, ClsV.ty _, ty1, kt1, _, rfl, ?_⟩
      exact iteT (iteT (k H (Gx.refl _)))
    | @size a xs h hl =>
      obtain ⟨t1, ty1, kt1⟩ := (Pl.tup h : Pl K H _ _).isi (n := "tuple") (by decide)
      refine ⟨_, rfl, _, _, _, _, _, rfl, ClsV.ty _, ty1, kt1, _, rfl, ?_⟩
      refine iteF ⟨_, rfl, a, xs, rfl, Or.inr (SqT.of h), rfl, _, rfl, ?_⟩
      rw [decide_eq_false (fun z => hl (by injection z with z; omega))]
      exact iteT (iteT (k H (Gx.refl _)))
    | @pair a s n ks kn h ps pn sm =>
      obtain ⟨t1, ty1, kt1⟩ := (Pl.tup h : Pl K H _ _).isi (n := "tuple") (by decide)
      refine ⟨_, rfl, _, _, _, _, _, rfl, ClsV.ty _, ty1, kt1, _, rfl, ?_⟩
      refine iteF ⟨_, rfl, a, _, rfl, Or.inr (SqT.of h), rfl, _, rfl, ?_⟩
      refine iteF ⟨_, rfl, a, _, _, _, rfl, rfl, SqT.of h, rfl, n, kn, 0, 3, rfl, pn, _, rfl, ?_⟩
      have k : ∀ H', Gx H H' → Q (.bl (wthn n 0 3 && (isW s || (decide (s = .str "_" ∨ s = .str "#") && decide (n = .int 0))))) H' := k
      cases q1 : wthn n 0 3 with
      | false =>
        refine iteT ?_
        rw [q1] at k
        exact k H (Gx.refl _)
      | true =>
        refine iteF ?_
        rw [q1, Bool.true_and] at k
        refine ⟨_, rfl, a, _, _, _, rfl, rfl, SqT.of h, rfl, s, ks, rfl, ps, sm, fun H1 e1 => ⟨_, rfl, ?_⟩⟩
        cases q2 : isW s with
        | true =>
          rw [q2] at k
          exact iteT (k H1 e1)
        | false =>
          rw [q2, Bool.false_or] at k
          refine iteF ⟨_, rfl, a, _, _, _, rfl, rfl, SqT.of (e1 _ _ h), rfl, ?_⟩
          have ps1 := ps.gx e1
          obtain ⟨t2, ty2, kt2⟩ := ps1.isi (n := "str") (by decide)
          refine ⟨_, _, _, _, _, rfl, ClsV.ty _, ty2, kt2, _, rfl, ?_⟩
          have no : ∀ {x : V}, (∀ z, x ≠ .str z) → (decide (x = V.str "_" ∨ x = V.str "#") && decide (n = V.int 0)) = false := fun {x} hx => by
            rw [decide_eq_false (fun z => z.elim (hx _) (hx _))]
            rfl
          cases ps with
          | str z =>
            refine iteT ⟨_, rfl, a, _, _, _, rfl, rfl, SqT.of (e1 _ _ h), rfl, Evl.sz_of (by show 2 ≤ _; decide), fun p hp => ?_⟩
            refine ⟨p, _, rfl, Or.inr (SqT.of upd_same), rfl, rfl, _, rfl, ?_⟩
            have e2 : Gx H (upd H1 p (.tup [.str "_", .str "#"])) := e1.trans (Gx.new hp)
            have e3 : inV (.str z) [.str "_", .str "#"] = decide (V.str z = .str "_" ∨ V.str z = .str "#") := by
              show ((("_" : Str) == z) || ((("#" : Str) == z) || false)) = _
              rw [Bool.or_false]
              by_cases h1 : z = ("_" : Str)
              · subst h1
                simp
              · by_cases h2 : z = ("#" : Str)
                · subst h2
                  simp
                · rw [decide_eq_false (fun q => q.elim (fun q => h1 (by injection q)) (fun q => h2 (by injection q))), beq_eq_false_iff_ne.mpr (fun q => h1 q.symm), beq_eq_false_iff_ne.mpr (fun q => h2 q.symm)]
                  rfl
            have e4 : (if false = true then !inV (V.str z) [.str "_", .str "#"] else inV (V.str z) [.str "_", .str "#"]) = decide (V.str z = .str "_" ∨ V.str z = .str "#") := e3
            rw [e4]
            cases q3 : decide (V.str z = V.str "_" ∨ V.str z = V.str "#") with
            | false =>
              rw [q3] at k
              exact iteF (k _ e2)
            | true =>
              rw [q3, Bool.true_and] at k
              refine iteT ⟨_, rfl, a, _, _, _, rfl, rfl, SqT.of (e2 _ _ h), rfl, ?_⟩
              cases n with
              | int i => exact ⟨rfl, k _ e2⟩
              | _ => cases q1
          | non =>
            rw [no (fun z q => by cases q)] at k
            exact iteF (k _ e1)
          | bl b =>
            rw [no (fun z q => by cases q)] at k
            exact iteF (k _ e1)
          | int b =>
            rw [no (fun z q => by cases q)] at k
            exact iteF (k _ e1)
          | lst e =>
            rw [no (fun z q => by cases q)] at k
            exact iteF (k _ e1)
          | tup e =>
            rw [no (fun z q => by cases q)] at k
            exact iteF (k _ e1)
          | dK e =>
            rw [no (fun z q => by cases q)] at k
            exact iteF (k _ e1)
          | own e o =>
            rw [no (fun z q => by cases q)] at k
            exact iteF (k _ e1)
end
section
variable {P : Program} {w : World} {K : PySem.W.Frag} {mg : Str → Option Value} {base : Heap}
abbrev s_is_term_row : Stmt := top 25
abbrev nm_is_term_row : List Str := ["value", "node"]
abbrev ps_is_term_row : List Str := ["value"]
theorem sc_is_term_row : FnScope nm_is_term_row ps_is_term_row (defScope s_is_term_row) := ⟨rfl, rfl, rfl, by decide +kernel, rfl, by decide +kernel, by decide +kernel⟩
theorem ok_is_term_row {f : Addr} {fd : FuncData} (F : Fun K "is_term_row" "is_term_row" s_is_term_row f fd) (T : Txt K mg) {t1 : Tok} (g_MAX_NODES : mg "MAX_NODES" = some (.int 40 t1)) (C_is_node : Cal P w K mg base "is_node" 3 ["value"] (spNode K))
    (C_children_of : Cal P w K mg base "children_of" 1 ps_children_of (spChildren K)) (C_arities_in : Cal P w K mg base "arities_in" 2 ps_arities_in (spArities K)) : FnOk P w K mg base CX0 4 f fd ps_is_term_row (spRow K) := by
  have nd := sc_is_term_row.nd
  refine F.ok sc_is_term_row (fun vs H Q E h => ?_) (fun cdv A outer s H vs Q E hr h => ?_)
  · obtain ⟨_, _, rfl, _⟩ := h
    rfl
  · obtain ⟨x, b, rfl, hx, k⟩ := h
    refine ⟨_, (pss_cons (ps_if (PW.pt (pw_or (pt_not (pt_val (pe_callB (kcall_isi (K := K)) (by rfl) T.z_isinstance (by decide +kernel) (pa_cons (pv 0) (pa_cons (pe_ty "tuple" (by rfl) T.z_tuple (by decide +kernel)) pa_nil))))) (pw_or (pt_not (pt_chain op_le op_le pe_int (pe_callB (kcall_len (K := K)) (by rfl) T.z_len (by decide +kernel) (pa_cons (pv 0) pa_nil)) (pe_gint rfl g_MAX_NODES))) (pw_or1 (pt_not (pt_val (pe_callB (kcr_all (K := K) rfl) (by rfl) T.z_all (by decide +kernel) (pa_cons (pe_lc (own := [("node", 1)]) (g := (gName 1)) (by rfl) nd (kpi_tup (K := K) (pv 0)) (blkOk_by (own := [("node", 1)]) (N := nm_is_term_row) (sc := defScope s_is_term_row) (by decide +kernel)) (fun _ _ _ _ _ => (pg_name (i := 1) nd rfl (Or.inl rfl))) (fun _ _ _ _ _ => pts_nil) (fun _ _ _ _ _ => (pe_cal C_is_node (hr.mono (by first | decide | omega)) rfl (pa_cons (pv 1) pa_nil)))) pa_nil)))))))) (pss_one (ps_ret pe_bl)) pss_nil)
      (pss_one (ps_ret (pe_and (pe_cmpR op_notN (pe_cal C_children_of (hr.mono (by first | decide | omega)) rfl (pa_cons (pv 0) pa_nil)) pe_non (nomark _)) (pe_one (pe_cmpR op_notN (pe_cal C_arities_in (hr.mono (by first | decide | omega)) rfl (pa_cons (pv 0) pa_nil)) pe_non (nomark _))))))), ?_⟩
    have len : ∀ {a : Addr} {xs : List V} {H1 : Hp}, H1 a = some (.tup xs) → EvG (tCB (rLenK K) (tCons (tVar 0) tNil)) (L2.start nm_is_term_row [.ref a]) H1 (IntT fun i => i = (xs.length : Int)) := fun h => evg_lenT (eq_tup (evg_ve rfl) (SqT.of h))
    have allN : ∀ {a : Addr} {xs : List V} {bs : List Bool} {H1 : Hp}, H a = some (.tup xs) → bs.length = xs.length → (∀ (i : Nat) (x : V), xs[i]? = some x → ∃ b, bs[i]? = some b ∧ NodeIn K H x b) → xs.length ≤ 40 → Gx H H1 →
        EvG (tCB (rAll K) (tCons (tLc (iTup K (tVar 0)) (gName 1) tYes (tCall (spNode K) [] E0 (tCons (tVar 1) tNil)) [1]) tNil)) (L2.start nm_is_term_row [.ref a]) H1 (BlE (bs.all id)) := fun {a xs bs H1} h hbl hb hl e1 => by
      refine evg_rAll ((evn_lcA (n := xs.length) (j := 1) (R := fun i y _ => ∃ b, bs[i]? = some b ∧ y = .bl b) (evw_tupAt (eq_tup (evg_ve rfl) (SqT.of (e1 _ _ h)))) (by omega) (fun _ _ _ _ _ h => h) (fun i x H2 _ e2 hx => ?_) fun _ _ _ _ _ h => h).imp ?_)
      · obtain ⟨b, h1, h2⟩ := hb i x hx
        intro H3 e3 Q q
        exact ⟨_, rfl, x, b, rfl, NodeIn.mono _ _ _ ((e1.trans e2).trans e3) h2, fun H4 e4 => q _ H4 e4 ⟨b, h1, rfl⟩⟩
      · rintro p H2 e2 ⟨ys, hp, hyl, hy⟩
        obtain rfl := bls_eq (by rw [hyl, hbl]) hy
        exact ⟨bs, hp, rfl⟩
    cases hx with
    | @other _ kk p hk =>
      refine g_when (R := fun c => c = true) (evb_is (evb_or (a := true) (b := true) (evb_not (evb_B (evg_isi (R := fun c => c = false) (evg_var rfl fun H1 e => ⟨kk, p.gx e, by cases kk <;> first | rfl | exact absurd rfl hk⟩) (by decide)))) (fun h => by cases h)) rfl) (fun _ H1 e => k H1 e) (fun h => by cases h)
    | @size a xs h hl =>
      refine g_when (R := fun c => c = true) (evb_is (evb_or (a := false) (b := true) (evb_not (evb_B (evg_isi (R := fun c => c = true) (evg_var rfl fun H1 e => ⟨.tup, .tup (e _ _ h), rfl⟩) (by decide)))) (fun _ H1 e1 => evb_is (evb_or (a := true) (b := true) (evb_is (evb_not (evb_test (evg_chain (f := fun i j => decide (i ≤ j)) (g := fun i j => decide (i ≤ j)) (evg_i 1) (len (e1 _ _ h)) (evg_i 40)))) ?_) (fun h => by cases h)) rfl)) rfl) (fun _ H1 e => k H1 e) (fun h => by cases h)
      show (!(decide ((1 : Int) ≤ (xs.length : Int)) && decide ((xs.length : Int) ≤ 40))) = true
      rcases hl with hl | hl
      · rw [decide_eq_false (show ¬ (1 : Int) ≤ (xs.length : Int) by omega)]
        rfl
      · rw [decide_eq_false (show ¬ (xs.length : Int) ≤ 40 by omega), Bool.and_false]
        rfl
    | @items a xs bs h hl hb =>
      refine g_when (R := fun c => c = true) (evb_is (evb_or (a := false) (b := true) (evb_not (evb_B (evg_isi (R := fun c => c = true) (evg_var rfl fun H1 e => ⟨.tup, .tup (e _ _ h), rfl⟩) (by decide)))) (fun _ H1 e1 => evb_is (evb_or (a := false) (b := true) (evb_is (evb_not (evb_test (evg_chain (f := fun i j => decide (i ≤ j)) (g := fun i j => decide (i ≤ j)) (evg_i 1) (len (e1 _ _ h)) (evg_i 40)))) ?_)
        (fun _ H2 e2 => evb_is (evb_not (evb_B (allN h hb.1 hb.2.1 hl.2 (e1.trans e2)))) (by rw [hb.2.2]; rfl))) rfl)) rfl) (fun _ H1 e => k H1 e) (fun h => by cases h)
      show (!(decide ((1 : Int) ≤ (xs.length : Int)) && decide ((xs.length : Int) ≤ 40))) = false
      rw [decide_eq_true (show (1 : Int) ≤ (xs.length : Int) by omega), decide_eq_true (show (xs.length : Int) ≤ 40 by omega)]
      rfl
    | @nodes a nds h hl hg =>
      obtain ⟨xs, h, hxl, hx⟩ := h
      have hbs : ∀ (i : Nat) (x : V), xs[i]? = some x → ∃ b, (List.replicate xs.length true)[i]? = some b ∧ NodeIn K H x b := fun i x hi => by
        have hin : i < xs.length := (List.getElem?_eq_some_iff.mp hi).1
        obtain ⟨n, hn⟩ : ∃ n, nds[i]? = some n := ⟨nds[i]'(by omega), List.getElem?_eq_getElem _⟩
        obtain ⟨p, h1, h2⟩ := hx i n hn
        rw [hi] at h1
        cases h1
        obtain ⟨g1, g2⟩ := hg n (List.mem_of_getElem? hn)
        refine ⟨true, by rw [List.getElem?_replicate, if_pos hin], ?_⟩
        rw [← g1]
        exact .pair h2 (.str _) (.int _) fun z e => by cases e; omega
      have hnat : ∀ {H1 : Hp}, Gx H H1 → NodesAt K H1 a nds := fun e => ⟨⟨xs, SqT.of (e _ _ h), hxl, fun i n hn => by
        obtain ⟨p, h1, h2⟩ := hx i n hn
        exact ⟨.ref p, h1, p, rfl, SqT.of (e _ _ h2)⟩⟩⟩
      refine g_when (R := fun c => c = false) (evb_is (evb_or (a := false) (b := false) (evb_not (evb_B (evg_isi (R := fun c => c = true) (evg_var rfl fun H1 e => ⟨.tup, .tup (e _ _ h), rfl⟩) (by decide)))) (fun _ H1 e1 => evb_is (evb_or (a := false) (b := false) (evb_is (evb_not (evb_test (evg_chain (f := fun i j => decide (i ≤ j)) (g := fun i j => decide (i ≤ j)) (evg_i 1) (len (e1 _ _ h)) (evg_i 40)))) ?_)
        (fun _ H2 e2 => evb_is (evb_not (evb_B (allN h (List.length_replicate ..) hbs (by omega) (e1.trans e2)))) ?_)) rfl)) rfl) (fun h => by cases h) ?_
      · show (!(decide ((1 : Int) ≤ (xs.length : Int)) && decide ((xs.length : Int) ≤ 40))) = false
        rw [decide_eq_true (show (1 : Int) ≤ (xs.length : Int) by omega), decide_eq_true (show (xs.length : Int) ≤ 40 by omega)]
        rfl
      · rw [List.all_replicate]
        simp
      intro _ H1 e1
      refine g_ret (Φ := BlE ((chOf nds).isSome && (arF nds []).isSome)) (evg_andV (a := (chOf nds).isSome) ?_ fun hc H2 e2 => ?_) fun v H2 e2 ⟨c, z, hc⟩ => by rw [z, hc]; exact k H2 (e1.trans e2)
      · intro H2 e2 Q2 q2
        refine ⟨_, rfl, a, nds, rfl, hnat (e1.trans e2), by omega, fun hn H3 e3 => ⟨rfl, q2 _ H3 e3 ⟨_, rfl, by rw [hn]; rfl⟩⟩, fun cs hcs p ys H3 e3 _ _ _ => ⟨rfl, q2 _ H3 e3 ⟨_, rfl, by rw [hcs]; rfl⟩⟩⟩
      · intro H3 e3 Q3 q3
        refine ⟨_, rfl, a, nds, rfl, hnat ((e1.trans e2).trans e3), by omega, fun hn H4 e4 => ⟨rfl, q3 _ H4 e4 ⟨_, rfl, by rw [hn]; rfl⟩⟩, fun l hl p l' H4 e4 _ _ _ => ⟨rfl, q3 _ H4 e4 ⟨_, rfl, by rw [hl]; rfl⟩⟩⟩
end
end K07

set_option Elab.async false
set_option maxRecDepth 100000
set_option maxHeartbeats 1000000
namespace K07
open PySem L2 Ly TM
section
variable {P : Program} {w : World} {K : PySem.W.Frag} {mg : Str → Option Value} {base : Heap}
abbrev s_text_of : Stmt := top 26
abbrev nm_text_of : List Str := ["nodes", "children", "at", "child"]
abbrev ps_text_of : List Str := ["nodes", "children", "at"]
theorem sc_text_of : FnScope nm_text_of ps_text_of (defScope s_text_of) := ⟨rfl, rfl, rfl, by decide +kernel, rfl, by decide +kernel, by decide +kernel⟩
theorem ok_text_step {f : Addr} {fd : FuncData} {h : Nat} (F : Fun K "text_of" "text_of" s_text_of f fd) (C_text_of : Cal P w K mg base "text_of" h ps_text_of (spText K h)) : FnOk P w K mg base CX0 (h + 1) f fd ps_text_of (spText K (h + 1)) := by
  have nd := sc_text_of.nd
  refine F.ok sc_text_of (fun vs H Q E h => ?_) (fun cdv A outer s H vs Q E hr hh => ?_)
  · obtain ⟨_, _, _, _, _, _, rfl, _⟩ := h
    rfl
  · obtain ⟨n, c, p, nds, cs, ⟨w, ts⟩, rfl, hn, hc, sub, hht, hall, hsz, k⟩ := hh
    refine ⟨_, (pss_cons (ps_if (pt_cmpR (kop_eqD (K := K) hr.units) (pe_ix (kix_tup (K := K)) (pv 1) (pv 2) (fun _ _ => rfl)) (pe_tup pa_nil) (nomark _)) (pss_one (ps_ret (pe_ix (kix_tup (K := K)) (pe_ix (kix_tup (K := K)) (pv 0) (pv 2) (fun _ _ => rfl)) pe_int (fun _ _ => rfl)))) pss_nil)
      (pss_one (ps_ret (pe_op op_add_str (pe_op op_add_str (pe_op op_add_str (pe_ix (kix_tup (K := K)) (pe_ix (kix_tup (K := K)) (pv 0) (pv 2) (fun _ _ => rfl)) pe_int (fun _ _ => rfl)) pe_str) (kpe_join (K := K) pe_str (pe_lc (own := [("child", 3)]) (g := (gName 3)) (by rfl) nd (kpi_tup (K := K) (pe_ix (kix_tup (K := K)) (pv 1) (pv 2) (fun _ _ => rfl))) (blkOk_by (own := [("child", 3)]) (N := nm_text_of) (sc := defScope s_text_of) (by decide +kernel)) (fun _ _ _ _ _ => (pg_name (i := 3) nd rfl (Or.inl rfl))) (fun _ _ _ _ _ => pts_nil) (fun _ _ _ _ _ => (pe_cal C_text_of (hr.mono (by first | decide | omega)) rfl (pa_cons (pv 0) (pa_cons (pv 1) (pa_cons (pv 3) pa_nil)))))))) pe_str)))), ?_⟩
    obtain ⟨hn1, hc1⟩ := sub.at
    obtain ⟨xs, hs, hx⟩ := hn.ex
    obtain ⟨ys, hcs, hy⟩ := id hc
    obtain ⟨x, hx1, nq, rfl, hnq⟩ := hx.2 _ _ hn1
    obtain ⟨y, hy1, cq, rfl, hcq⟩ := hy.2 _ _ hc1
    have hrow : ∀ {H1 : Hp}, Gx H H1 → EvG (tOp (rIxT K) (tVar 1) (tVar 2)) (L2.start nm_text_of [.ref n, .ref c, .int (p : Int)]) H1 (TupK K (intsV (roots ts (p + 1)))) := fun e => eq_tup (evg_ixT (eq_tup (evg_ve rfl) (e.t hcs)) (evg_vi rfl) hy1) (e.t hcq)
    have hword : ∀ {H1 : Hp}, Gx H H1 → EvG (tOp (rIxT K) (tOp (rIxT K) (tVar 0) (tVar 2)) (tC (.int 0))) (L2.start nm_text_of [.ref n, .ref c, .int (p : Int)]) H1 (Eq1 (.str w)) := fun e => evg_ixT (k := 0) (eq_tup (evg_ixT (eq_tup (evg_ve rfl) (e.t hs)) (evg_vi rfl) hx1) (e.t hnq)) (evg_i 0) rfl
    have hrt : roots ts (p + 1) = [] ↔ ts = [] := by
      constructor
      · intro z
        have := congrArg List.length z
        rw [roots_len] at this
        exact List.eq_nil_of_length_eq_zero this
      · intro z
        rw [z]
        rfl
    refine g_when (R := fun b => b = decide (roots ts (p + 1) = [])) (evb_test (evg_is (evg_eqD (d := .tuple ((roots ts (p + 1)).map fun (n : Nat) => PyData.int (n : Int))) (e := .tuple ([].map fun (n : Nat) => PyData.int (n : Int))) ((hrow (Gx.refl _)).imp fun v H3 _ ⟨q, z, hq⟩ => by
      rw [z]
      exact .tup hq (Dp.ints _)) (evg_dtup dats_nil (by decide)) (ints_shaped _).2 (ints_shaped []).2) (by rw [← intsV_eqv _ []]; rfl))) ?_ ?_
    · intro hb H1 e1
      have hts : ts = [] := hrt.mp (of_decide_eq_true hb.symm)
      subst hts
      refine g_ret (hword e1) fun v H2 e2 z => ?_
      have z : v = .str w := z
      rw [z]
      exact k H2 (e1.trans e2)
    · intro hb H1 e1
      have hts : ts ≠ [] := fun z => of_decide_eq_false hb.symm (hrt.mpr z)
      have hw : w.length ≤ 100 := hall.1
      have hsz2 : (nodesL ts).length + 1 ≤ 100 := hsz
      have hjl := texts_len (m := 100) ts hall.2
      rw [textsL_map] at hjl
      have hjl2 := join_len (ts.map Tr.text)
      rw [List.length_map] at hjl2
      have hadd : ∀ (a b : Str), (a ++ b).length = a.length + b.length := fun a b => by
        show (a.cps ++ b.cps).size = _
        rw [Array.size_append]
        rfl
      have l1 : (("(" : Str)).length = 1 := rfl
      have l2 : ((")" : Str)).length = 1 := rfl
      have l3 : ((", " : Str)).length = 2 := rfl
      refine g_ret (Φ := Eq1 (.str (w ++ "(" ++ Txt.join ", " (ts.map Tr.text) ++ ")"))) (evg_addsE (evg_addsE (evg_addsE (hword e1) evg_e (by rw [l1]; omega)) (evg_joinE (zs := ts.map Tr.text) ((evn_lcA (n := (intsV (roots ts (p + 1))).length) (j := 3) (R := fun i y _ => ∃ c, ts[i]? = some c ∧ y = .str c.text)
        (evw_tupAt (hrow e1)) (by rw [List.length_map, roots_len]; have : ts.length ≤ (nodesL ts).length := lenL ts; omega) (fun _ _ _ _ _ h => h) (fun i x H2 _ e2 hxi => ?_) fun _ _ _ _ _ h => h).imp ?_) ?_) ?_) evg_e ?_) fun v H2 e2 z => ?_
      · rw [List.getElem?_map] at hxi
        cases hq : (roots ts (p + 1))[i]? with
        | none => rw [hq] at hxi; cases hxi
        | some q =>
          rw [hq] at hxi
          cases hxi
          obtain ⟨ct, hct, hsub⟩ := sub.child i q hq
          have hmem := List.mem_of_getElem? hct
          intro H3 e3 Q3 q3
          have e13 := (e1.trans e2).trans e3
          have hcs : ct.size ≤ (nodesL ts).length := sizeL_mem hmem
          refine ⟨_, rfl, _, rfl, _, rfl, n, c, q, nds, cs, ct, rfl, hn.gx e13, hc.gx e13, hsub, ?_, AllL_mem hall.2 ct hmem, by omega, fun H4 e4 => q3 _ H4 e4 ⟨ct, hct, rfl⟩⟩
          have h1 : htL ts < h + 1 := hht
          have := htL_lt hmem
          omega
      · rintro r H2 _ ⟨zs, hr2, hzl, hz⟩
        rw [list_of (l := ts) (f := fun c => .str c.text) (by rw [hzl, List.length_map, roots_len]) hz] at hr2
        show H2 r = some (.lst ((ts.map Tr.text).map V.str))
        rw [List.map_map]
        exact hr2
      · rw [List.length_map, l3]
        omega
      · rw [hadd, TL.join_eq, l1]
        omega
      · rw [hadd, hadd, TL.join_eq, l1, l2]
        omega
      · have z : v = .str (w ++ "(" ++ Txt.join ", " (ts.map Tr.text) ++ ")") := z
        rw [z, ← text_nd hts]
        exact k H2 (e1.trans e2)
theorem ok_text_of {f : Addr} {fd : FuncData} (F : Fun K "text_of" "text_of" s_text_of f fd) (hm : mg "text_of" = some (.ref f)) (hk : PySem.W.keepIn K (.ref f) = true) (hb : Binds K fd ps_text_of []) : ∀ h, FnOk P w K mg base CX0 h f fd ps_text_of (spText K h)
  | 0 => ⟨fun vs H Q E ⟨_, _, _, _, _, _, _, _, _, _, z, _⟩ => by omega, fun _ _ _ _ _ _ _ _ _ _ _ _ _ ⟨_, _, _, _, _, _, _, _, _, _, z, _⟩ => by omega⟩
  | h + 1 => ok_text_step F ⟨⟨_, _, ok_text_of F hm hk hb h, hm, hk, hb⟩⟩
abbrev s_places_with : Stmt := top 34
abbrev nm_places_with : List Str := ["nodes", "word", "at", "node"]
abbrev ps_places_with : List Str := ["nodes", "word"]
theorem sc_places_with : FnScope nm_places_with ps_places_with (defScope s_places_with) := ⟨rfl, rfl, rfl, by decide +kernel, rfl, by decide +kernel, by decide +kernel⟩
theorem ok_places_with {f : Addr} {fd : FuncData} (F : Fun K "places_with" "places_with" s_places_with f fd) (T : Txt K mg) : FnOk P w K mg base CX0 1 f fd ps_places_with (spPlaces K) := by
  have nd := sc_places_with.nd
  refine F.ok sc_places_with (fun vs H Q E h => ?_) (fun cdv A outer s H vs Q E hr h => ?_)
  · obtain ⟨_, _, _, rfl, _⟩ := h
    rfl
  · obtain ⟨n, nds, wd, rfl, hn, hl, k⟩ := h
    obtain ⟨xs, hs, hx⟩ := hn.ex
    have hxl : xs.length = nds.length := hx.1
    refine ⟨_, (pss_one (ps_ret (pe_callTy (kcall_tuple (K := K)) (by rfl) T.z_tuple (by decide +kernel) (pa_cons (pe_lc (own := [("at", 2), ("node", 3)]) (g := (gTup K 2 (gCons (gName 2) (gCons (gName 3) gNil)))) (by rfl) nd (kpi_enumT (K := K) rfl T.z_enumerate (pa_cons (pv 0) pa_nil)) (blkOk_by (own := [("at", 2), ("node", 3)]) (N := nm_places_with) (sc := defScope s_places_with) (by decide +kernel)) (fun _ _ _ _ _ => (kpg_tup (K := K) (n := 2) rfl (pgs_cons (pg_name (i := 2) nd rfl (Or.inl rfl)) (pgs_cons (pg_name (i := 3) nd rfl (Or.inl rfl)) pgs_nil)))) (fun _ _ _ _ _ => (pts_one (pt_cmpR op_eq (pe_ix (kix_tup (K := K)) (pv 3) pe_int (fun _ _ => rfl)) (pv 1) (nomark _)))) (fun _ _ _ _ _ => (pv 2))) pa_nil)))), ?_⟩
    refine EvN.use (te := tCB _ _) (σ := L2.start nm_places_with [.ref n, .str wd]) (evn_tupleL (xs := intsV (plc nds wd)) (newl_k ((evn_lc (n := xs.length) (vs := [2, 3]) (S := fun i σ2 _ => ∃ y, xs[i]? = some y ∧ σ2 = [some (.ref n), some (.str wd), some (.int (i : Int)), some y])
      (B := fun i b => b = ((nds[i]?.map (·.1)) == some wd)) (R := fun i => Eq1 (.int (i : Int))) (evw_enumT (eq_tup (evg_ve rfl) hs)) (by omega) ?_ ?_ ?_ ?_ fun _ => Eq1.firm).imp ?_))) ?_
    · rintro i x H1 _ _ ⟨Tp, y, hx1, hT, hy⟩ Q1 q1
      exact tg_pair hx1 (SqT.of hT) (q1 _ rfl ⟨y, hy, rfl⟩)
    · rintro i σ2 H1 hi e1 ⟨y, hy, rfl⟩
      obtain ⟨⟨w1, a1⟩, hnd⟩ : ∃ q, nds[i]? = some q := ⟨nds[i]'(by omega), List.getElem?_eq_getElem _⟩
      obtain ⟨y', hy', q, rfl, hq⟩ := hx.2 _ _ hnd
      rw [hy] at hy'
      cases hy'
      refine evb_test ((evg_eqS (evg_ixT (k := 0) (eq_tup (evg_ve rfl) (e1.t hq)) (evg_i 0) rfl) (evg_ve rfl)).imp ?_)
      rintro _ _ _ ⟨b, rfl, hb⟩
      refine ⟨b, rfl, ?_⟩
      have hb : b = decide (w1 = wd) := hb
      rw [hb, hnd]
      show decide (w1 = wd) = (some w1 == some wd)
      by_cases z : w1 = wd
      · subst z
        simp
      · rw [decide_eq_false z]
        symm
        rw [beq_eq_false_iff_ne]
        intro q
        exact z (Option.some.inj q)
    · rintro i σ2 H1 H2 _ h
      exact h
    · rintro i σ2 H1 hi e1 ⟨y, hy, rfl⟩ _
      exact evg_ve rfl
    · rintro r H1 _ ⟨ys, hr1, L⟩
      rw [L.det (f := fun i => (nds[i]?.map (·.1)) == some wd) (v := fun i => .int (i : Int)) (fun i b _ h => h) (fun i y _ h => h), hxl] at hr1
      exact hr1
    · intro p H1 e1 np hp
      exact k p H1 e1 np hp
end
end K07

set_option Elab.async false
set_option maxRecDepth 100000
set_option maxHeartbeats 1000000
namespace K07
open PySem L2 Ly TM
section
variable {P : Program} {w : World} {K : PySem.W.Frag} {mg : Str → Option Value} {base : Heap} {C CN CI : Addr}
abbrev s_Nodes_init : Stmt := inClass (top 31) 0
abbrev nm_Nodes_init : List Str := ["self", "nodes"]
abbrev ps_Nodes_init : List Str := ["self", "nodes"]
theorem sc_Nodes_init : FnScope nm_Nodes_init ps_Nodes_init (defScope s_Nodes_init) := ⟨rfl, rfl, rfl, by decide +kernel, rfl, by decide +kernel, by decide +kernel⟩
theorem ok_Nodes_init {f : Addr} {fd : FuncData} (F : Fun K "__init__" "Nodes.__init__" s_Nodes_init f fd) (TC : TermC K mg C CN CI) : FnOk P w K mg base CX0 1 f fd ps_Nodes_init (spNodesInit CN) := by
  refine F.ok sc_Nodes_init (fun vs H Q E h => ?_) (fun cdv A outer s H vs Q E hr h => ?_)
  · obtain ⟨_, _, _, rfl, _⟩ := h
    rfl
  · obtain ⟨a, dx, v, rfl, ha, k⟩ := h
    refine ⟨_, (pss_one (kps_fld (K := K) (pv 0) (pv 1) rfl)), ?_⟩
    refine g_fld1 (i := 0) (evg_ve (i := 1) rfl) rfl ha TC.clN TC.nN (by simp) fun y H1 e z => ?_
    have z : y = v := z
    rw [z]
    exact k _ ((Gxa.refl a H).gx e).put upd_same
abbrev s_Term_init : Stmt := inClass (top 33) 0
abbrev nm_Term_init : List Str := ["self", "nodes"]
abbrev ps_Term_init : List Str := ["self", "nodes"]
theorem sc_Term_init : FnScope nm_Term_init ps_Term_init (defScope s_Term_init) := ⟨rfl, rfl, rfl, by decide +kernel, rfl, by decide +kernel, by decide +kernel⟩
theorem ok_Term_init {f : Addr} {fd : FuncData} (F : Fun K "__init__" "Term.__init__" s_Term_init f fd) (T : Txt K mg) (TC : TermC K mg C CN CI) {t1 t2 : Tok} (g_ANY : mg "ANY" = some (.str "_" t1)) (g_LOST : mg "LOST" = some (.str "#" t2))
    (C_is_term_row : Cal P w K mg base "is_term_row" 4 ps_is_term_row (spRow K)) (C_children_of : Cal P w K mg base "children_of" 1 ps_children_of (spChildren K)) (C_ends_of : Cal P w K mg base "ends_of" 1 ps_ends_of (spEnds K))
    (C_arities_in : Cal P w K mg base "arities_in" 2 ps_arities_in (spArities K)) (C_places_with : Cal P w K mg base "places_with" 1 ps_places_with (spPlaces K)) : FnOk P w K mg base (L2.CX P w) 5 f fd ps_Term_init (spInit K C CN CI) := by
  have nd := sc_Term_init.nd
  have E_InvalidTerm := TC.inv
  refine F.okX sc_Term_init (fun vs H Q E h => ?_) (fun cdv A outer s H vs Q E hr h => ?_)
  · obtain ⟨_, _, _, _, rfl, _⟩ := h
    rfl
  · obtain ⟨a, dx, x, o, rfl, ha, hx, k1, k2⟩ := h
    refine ⟨_, (Evl.pss_cut (ps_if (pt_val (pe_callB (kcall_isi (K := K)) (by rfl) T.z_isinstance (by decide +kernel) (pa_cons (pv 1) (pa_cons (pe_gref rfl TC.gN) pa_nil)))) (pss_one (kps_fld (K := K) (pv 0) (kpe_fld (K := K) (pv 1) rfl) rfl)) (pss_one (ps_if (pt_not (pt_val (pe_cal C_is_term_row (hr.mono (by first | decide | omega)) rfl (pa_cons (pv 1) pa_nil)))) (pss_one (ps_raise rfl (takes_of rfl rfl rfl rfl) (pmk_own PySem.F.excBase_ValueError E_InvalidTerm.x E_InvalidTerm.g E_InvalidTerm.k (raises_own E_InvalidTerm.b E_InvalidTerm.t) rfl))) (pss_one (kps_fld (K := K) (pv 0) (pv 1) rfl)))))
      (pss_cons (kps_fld (K := K) (pv 0) (pe_callTy (kcall_tuple (K := K)) (by rfl) T.z_tuple (by decide +kernel) (pa_cons (pe_cal C_children_of (hr.mono (by first | decide | omega)) rfl (pa_cons (kpe_fld (K := K) (pv 0) rfl) pa_nil)) pa_nil)) rfl)
      (pss_cons (kps_fld (K := K) (pv 0) (pe_callTy (kcall_tuple (K := K)) (by rfl) T.z_tuple (by decide +kernel) (pa_cons (pe_cal C_ends_of (hr.mono (by first | decide | omega)) rfl (pa_cons (kpe_fld (K := K) (pv 0) rfl) pa_nil)) pa_nil)) rfl)
      (pss_cons (kps_fld (K := K) (pv 0) (pe_cal C_arities_in (hr.mono (by first | decide | omega)) rfl (pa_cons (kpe_fld (K := K) (pv 0) rfl) pa_nil)) rfl)
      (pss_cons (kps_fld (K := K) (pv 0) (pe_cal C_places_with (hr.mono (by first | decide | omega)) rfl (pa_cons (kpe_fld (K := K) (pv 0) rfl) (pa_cons (pe_gstr rfl g_ANY) pa_nil))) rfl)
      (pss_one (kps_fld (K := K) (pv 0) (pe_cal C_places_with (hr.mono (by first | decide | omega)) rfl (pa_cons (kpe_fld (K := K) (pv 0) rfl) (pa_cons (pe_gstr rfl g_LOST) pa_nil))) rfl))))))), ?_⟩
    have wh : ∀ {H1 : Hp} {fs : List (Str × V)} {f : Str} {v : V}, H1 a = some (.ins C dx fs) → NoAttr K C f → fs.lookup f = some v → EvG (tFld K (tVar 0) f) (L2.start nm_Term_init [.ref a, x]) H1 (Eq1 v) := fun h na hl => evg_fld (evg_ve rfl) h TC.cl na hl
    refine ⟨fun σ' H' => σ' = L2.start nm_Term_init [.ref a, x] ∧ ∃ n t, o = some t ∧ Good t ∧ Gxa a H H' ∧ H' a = some (.ins C dx (fs1 (.ref n))) ∧ RowAt H' n t.nodes, ?_, ?_⟩
    · cases hx with
      | @told b dx' n t hb hn hg =>
        have nab : a ≠ b := fun z => by
          rw [z, hb] at ha
          injection ha with z
          injection z with _ _ z
          cases z
        refine g_if1 (R := fun c => c = true) (evb_test (evg_isc (b := true) (evg_var (i := 1) rfl fun H1 e => ⟨_, .base (.ins (e _ _ hb) TC.clN TC.ownN.ha TC.ownN.hn TC.ownN.htk TC.ownN.hm), TC.isN⟩))) (fun _ H1 e1 => ?_) fun z => by cases z
        refine g_fld1 (i := 0) (evg_fld (evg_ve (i := 1) rfl) (e1 _ _ hb) TC.clN TC.nN rfl) rfl (e1 _ _ ha) TC.cl TC.n1 (by simp) fun y H2 e2 z => ?_
        have z : y = .ref n := z
        rw [z]
        exact ⟨rfl, n, t, rfl, hg, (((Gxa.refl a H).gx e1).gx e2).put, upd_same, hn.sx (sx_step (e1.trans e2) ha)⟩
      | @row n t hn hg =>
        have hp : Pl K H (.ref n) .tup := .tup hn.choose_spec.1
        refine g_if1 (R := fun c => c = false) (evb_test (evg_isc (b := false) (evg_var (i := 1) rfl fun H1 e => ⟨_, (kd_ty (hp.gx e) (by decide)).1, TC.noN _ (kd_ty (hp.gx e) (by decide)).2⟩))) (fun z => by cases z) fun _ H1 e1 => ?_
        obtain ⟨l, hl⟩ := hg.ar
        have hb : ((chOf t.nodes).isSome && (arF t.nodes []).isSome) = true := by rw [t.chOf, hl]; rfl
        refine g_if1 (R := fun c => c = false) (evb_not (a := true) (evb_B (evg_call1 (Φ := BlE true) (evg_ve (i := 1) rfl) fun H2 e2 Q2 q2 => ⟨_, true, rfl, ?_, fun H3 e3 => q2 _ H3 e3 ⟨_, rfl, rfl⟩⟩))) (fun z => by cases z) fun _ H2 e2 => ?_
        · rw [← hb]
          obtain ⟨xs, h1, h2, h3⟩ := hn
          refine .nodes ⟨xs, (e1.trans e2) _ _ h1, h2, fun i m q => ?_⟩ ⟨t.size_pos, hg.size⟩ hg.nodes
          obtain ⟨p, h4, h5⟩ := h3 i m q
          exact ⟨p, h4, (e1.trans e2) _ _ h5⟩
        refine g_fld1 (i := 0) (evg_ve (i := 1) rfl) rfl ((e1.trans e2) _ _ ha) TC.cl TC.n1 (by simp) fun y H3 e3 z => ?_
        have z : y = .ref n := z
        rw [z]
        exact ⟨rfl, n, t, rfl, hg, (((Gxa.refl a H).gx (e1.trans e2)).gx e3).put, upd_same, hn.sx (sx_step ((e1.trans e2).trans e3) ha)⟩
      | @none _ kd hw hp hk =>
        refine g_if1 (R := fun c => c = false) (evb_test (evg_isc (b := false) (evg_var (i := 1) rfl fun H1 e => ⟨_, (kd_ty (hp.gx e) hk).1, TC.noN _ (kd_ty (hp.gx e) hk).2⟩))) (fun z => by cases z) fun _ H1 e1 => ?_
        refine g_if1 (R := fun c => c = true) (evb_not (a := false) (evb_B (evg_call1 (Φ := BlE false) (evg_ve (i := 1) rfl) fun H2 e2 Q2 q2 => ⟨_, false, rfl, hw.gx (e1.trans e2), fun H3 e3 => q2 _ H3 e3 ⟨_, rfl, rfl⟩⟩))) (fun _ H2 e2 => ?_) fun z => by cases z
        exact k2 rfl H2 ((Gxa.refl a H).gx (e1.trans e2))
    · rintro σ' H0 ⟨rfl, n, t, rfl, hg, e0, h0, hn⟩
      have hsz : t.nodes.length ≤ 40 := hg.size
      refine g_fld (i := 0) (Φ := fun v H => ∃ p ys, v = .ref p ∧ H p = some (.tup ys) ∧ ChL K H (t.ch 0) ys) (evg_tupleP (fun ys _ _ e h => ChL.firm e.k h) (evg_call1 (wh h0 TC.n1 rfl) fun H1 e1 Q1 q1 => ⟨n, t.nodes, rfl, (hn.gx e1).nodes, by omega, fun z => (by rw [t.chOf] at z; cases z), fun cs hcs p ys H2 e2 _ hp hc => q1 _ H2 e2 ⟨p, ys, rfl, SqL.of hp, by rw [t.chOf] at hcs; cases hcs; exact hc⟩⟩)) rfl h0 TC.cl TC.n2 (by simp) fun y H1 e1 ⟨p, ys, z, hp, hc⟩ => ?_
      subst z
      rw [putF2]
      have x1 := sx_step (fs' := fs2 (.ref n) (.ref p)) e1 h0
      have hc1 : ChT K H1 p (t.ch 0) := ⟨ys, SqT.of hp, hc⟩
      have hc1 := hc1.sx (sx_put (o := .ins C dx (fs2 (.ref n) (.ref p))) (e1 _ _ h0))
      have h1 : upd H1 a (.ins C dx (fs2 (.ref n) (.ref p))) a = some (.ins C dx (fs2 (.ref n) (.ref p))) := upd_same
      have e0 := (e0.gx e1).put (o := .ins C dx (fs2 (.ref n) (.ref p)))
      have hn := hn.sx x1
      generalize upd H1 a (.ins C dx (fs2 (.ref n) (.ref p))) = G1 at h1 e0 hn hc1 ⊢
      clear x1 hc hp e1 h0 ys
      refine g_fld (i := 0) (Φ := fun v H => ∃ p ys, v = .ref p ∧ H p = some (.tup ys) ∧ ys = intsV (t.ends 0)) (evg_tupleP (fun ys _ _ e h => h) (evg_call1 (wh h1 TC.n2 rfl) fun H1 e1 Q1 q1 => ⟨p, t.ch 0, rfl, hc1.gx e1, t.chOk, by rw [t.ch_len]; exact Nat.le_trans hsz (by decide), fun q H2 e2 _ hq => q1 _ H2 e2 ⟨q, _, rfl, SqL.of hq, by rw [t.enF]⟩⟩)) rfl h1 TC.cl TC.n3 (by simp) fun y H2 e2 ⟨q, ys, z, hq, hz⟩ => ?_
      subst z hz
      rw [putF3]
      have x2 := sx_step (fs' := fs3 (.ref n) (.ref p) (.ref q)) e2 h1
      have hq1 := (sx_put (o := .ins C dx (fs3 (.ref n) (.ref p) (.ref q))) (e2 _ _ h1)).t (SqT.of (K := K) hq)
      have h2 : upd H2 a (.ins C dx (fs3 (.ref n) (.ref p) (.ref q))) a = some (.ins C dx (fs3 (.ref n) (.ref p) (.ref q))) := upd_same
      have e0 := (e0.gx e2).put (o := .ins C dx (fs3 (.ref n) (.ref p) (.ref q)))
      have hn := hn.sx x2
      have hc1 := hc1.sx x2
      generalize upd H2 a (.ins C dx (fs3 (.ref n) (.ref p) (.ref q))) = G2 at h2 e0 hn hc1 hq1 ⊢
      clear x2 hq e2 h1
      obtain ⟨r, hr⟩ := hg.ar
      refine g_fld (i := 0) (Φ := fun v H => ∃ s r', v = .ref s ∧ Asc (r.filter fun n => !isLeaf n.1) r' ∧ H s = some (.dK (kvD r'))) (evg_call1 (wh h2 TC.n1 rfl) fun H1 e1 Q1 q1 => ⟨n, t.nodes, rfl, (hn.gx e1).nodes, by omega, fun z => (by rw [hr] at z; cases z), fun l hl s l' H2 e2 _ ha hs => q1 _ H2 e2 ⟨s, l', rfl, by rw [hr] at hl; cases hl; exact ha, hs⟩⟩) rfl h2 TC.cl TC.n4 (by simp) fun y H3 e3 ⟨s, r', z, has, hs⟩ => ?_
      subst z
      rw [putF4]
      have x3 := sx_step (fs' := fs4 (.ref n) (.ref p) (.ref q) (.ref s)) e3 h2
      have hs1 := (sx_put (o := .ins C dx (fs4 (.ref n) (.ref p) (.ref q) (.ref s))) (e3 _ _ h2)).d hs
      have h3 : upd H3 a (.ins C dx (fs4 (.ref n) (.ref p) (.ref q) (.ref s))) a = some (.ins C dx (fs4 (.ref n) (.ref p) (.ref q) (.ref s))) := upd_same
      have e0 := (e0.gx e3).put (o := .ins C dx (fs4 (.ref n) (.ref p) (.ref q) (.ref s)))
      have hn := hn.sx x3
      have hc1 := hc1.sx x3
      have hq1 := x3.t hq1
      generalize upd H3 a (.ins C dx (fs4 (.ref n) (.ref p) (.ref q) (.ref s))) = G3 at h3 e0 hn hc1 hq1 hs1 ⊢
      clear x3 hs e3 h2
      refine g_fld (i := 0) (Φ := TupK K (intsV (plc t.nodes "_"))) (evg_call2 (wh h3 TC.n1 rfl) (evg_c fun _ _ => rfl) fun H1 e1 Q1 q1 => ⟨n, t.nodes, "_", rfl, (hn.gx e1).nodes, by omega, fun u H2 e2 _ hu => q1 _ H2 e2 ⟨u, rfl, SqT.of hu⟩⟩) rfl h3 TC.cl TC.n5 (by simp) fun y H4 e4 ⟨u, z, hu⟩ => ?_
      subst z
      rw [putF5]
      have x4 := sx_step (fs' := fs5 (.ref n) (.ref p) (.ref q) (.ref s) (.ref u)) e4 h3
      have hu1 := (sx_put (o := .ins C dx (fs5 (.ref n) (.ref p) (.ref q) (.ref s) (.ref u))) (e4 _ _ h3)).t hu
      have h4 : upd H4 a (.ins C dx (fs5 (.ref n) (.ref p) (.ref q) (.ref s) (.ref u))) a = some (.ins C dx (fs5 (.ref n) (.ref p) (.ref q) (.ref s) (.ref u))) := upd_same
      have e0 := (e0.gx e4).put (o := .ins C dx (fs5 (.ref n) (.ref p) (.ref q) (.ref s) (.ref u)))
      have hn := hn.sx x4
      have hc1 := hc1.sx x4
      have hq1 := x4.t hq1
      have hs1 := x4.d hs1
      generalize upd H4 a (.ins C dx (fs5 (.ref n) (.ref p) (.ref q) (.ref s) (.ref u))) = G4 at h4 e0 hn hc1 hq1 hs1 hu1 ⊢
      clear x4 hu e4 h3
      refine g_fld1 (i := 0) (Φ := TupK K (intsV (plc t.nodes "#"))) (evg_call2 (wh h4 TC.n1 rfl) (evg_c fun _ _ => rfl) fun H1 e1 Q1 q1 => ⟨n, t.nodes, "#", rfl, (hn.gx e1).nodes, by omega, fun u H2 e2 _ hu => q1 _ H2 e2 ⟨u, rfl, SqT.of hu⟩⟩) rfl h4 TC.cl TC.n6 (by simp) fun y H5 e5 ⟨l, z, hl⟩ => ?_
      subst z
      rw [putF6]
      have x5 := sx_step (fs' := fs6 (.ref n) (.ref p) (.ref q) (.ref s) (.ref u) (.ref l)) e5 h4
      exact k1 t rfl _ ((e0.gx e5).put) ⟨⟨dx, n, p, q, s, u, l, upd_same, ⟨hn.sx x5, hc1.sx x5, x5.t hq1, ⟨r, r', hr, has, x5.d hs1⟩, x5.t hu1, (sx_put (e5 _ _ h4)).t hl⟩⟩, hg⟩
end
end K07

set_option Elab.async false
set_option maxRecDepth 100000
set_option maxHeartbeats 1000000
namespace K07
open PySem L2 Ly TM
section
variable {P : Program} {w : World} {K : PySem.W.Frag} {mg : Str → Option Value} {base : Heap} {C CN CI : Addr}
abbrev s_term_in : Stmt := top 32
abbrev nm_term_in : List Str := ["nodes"]
abbrev ps_term_in : List Str := ["nodes"]
theorem sc_term_in : FnScope nm_term_in ps_term_in (defScope s_term_in) := ⟨rfl, rfl, rfl, by decide +kernel, rfl, by decide +kernel, by decide +kernel⟩
theorem ok_term_in {f : Addr} {fd : FuncData} (F : Fun K "term_in" "term_in" s_term_in f fd) (TC : TermC K mg C CN CI) (M_Nodes : CalC P w K mg base CX0 "Nodes" CN 1 ps_Nodes_init (spNodesInit CN)) (M_Term : CalC P w K mg base (L2.CX P w) "Term" C 5 ps_Term_init (spInit K C CN CI)) : FnOk P w K mg base CX0 7 f fd ps_term_in (spTermOf K C) := by
  refine F.ok sc_term_in (fun vs H Q E h => ?_) (fun cdv A outer s H vs Q E hr h => ?_)
  · obtain ⟨_, _, rfl, _⟩ := h
    rfl
  · obtain ⟨n, t, rfl, hn, hg, k⟩ := h
    refine ⟨_, (pss_one (ps_ret (pe_mkc M_Term (hr.mono (by first | decide | omega)) rfl passL (pa_cons (pe_mkc M_Nodes (hr.mono (by first | decide | omega)) rfl pass0 (pa_cons (pv 0) pa_nil)) pa_nil)))), ?_⟩
    refine g_ret (Φ := fun v H1 => ∃ p, v = .ref p ∧ H p = none ∧ TermAt K C H1 p t) ?_ fun v H1 e ⟨p, z, hp, ht⟩ => by rw [z]; exact k p H1 e hp ht
    intro H1 e1 Q1 q1
    refine ⟨.ref n, rfl, fun x dx hx hd hne => ⟨x, dx, .ref n, rfl, upd_same, fun H2 e2 h2 => ⟨rfl, fun y dy hy hdy hney => ⟨y, dy, .ref x, some t, rfl, upd_same, .told (n := n) (dx := dx) ?_ ?_ hg, fun u z H3 e3 ht => ⟨rfl, ?_⟩, fun z => by cases z⟩⟩⟩⟩
    · exact gx_made hy hdy _ _ h2
    · exact hn.gx ((e1.trans (Gxa.made hx hd e2)).trans (gx_made hy hdy))
    · cases z
      have e4 := (Gxa.made hx hd e2).trans (Gxa.made hy hdy e3)
      exact q1 _ H3 e4 ⟨y, rfl, (e1.trans (Gxa.made hx hd e2)).free hy, ht⟩
abbrev s_Term_len : Stmt := inClass (top 33) 22
abbrev nm_Term_len : List Str := ["self"]
abbrev ps_Term_len : List Str := ["self"]
theorem sc_Term_len : FnScope nm_Term_len ps_Term_len (defScope s_Term_len) := ⟨rfl, rfl, rfl, by decide +kernel, rfl, by decide +kernel, by decide +kernel⟩
theorem ok_Term_len {f : Addr} {fd : FuncData} (F : Fun K "__len__" "Term.__len__" s_Term_len f fd) (T : Txt K mg) (TC : TermC K mg C CN CI) : FnOk P w K mg base CX0 1 f fd ps_Term_len (spLen K C) := by
  refine F.ok sc_Term_len (fun vs H Q E h => ?_) (fun cdv A outer s H vs Q E hr h => ?_)
  · obtain ⟨_, _, rfl, _⟩ := h
    rfl
  · obtain ⟨a, t, rfl, ht, k⟩ := h
    refine ⟨_, (pss_one (ps_ret (pe_callB (kcall_len (K := K)) (by rfl) T.z_len (by decide +kernel) (pa_cons (kpe_fld (K := K) (pv 0) rfl) pa_nil)))), ?_⟩
    obtain ⟨⟨dx, n, c, e, s, u, l, h1, hb⟩, _⟩ := ht
    obtain ⟨xs, h2, h3, _⟩ := hb.nd
    refine g_ret (evg_lenT (xs := xs) (eq_tup (evg_fld (evg_ve (i := 0) rfl) h1 TC.cl TC.n1 rfl) (SqT.of h2))) fun v H1 e ⟨i, z, hi⟩ => ?_
    rw [z, hi, h3]
    exact k H1 e
abbrev s_Term_build : Stmt := inClass (top 33) 1
abbrev nm_Term_build : List Str := ["cls", "word", "terms", "term", "node"]
abbrev ps_Term_build : List Str := ["cls", "word", "terms"]
theorem sc_Term_build : FnScope nm_Term_build ps_Term_build (defScope s_Term_build) := ⟨rfl, rfl, rfl, by decide +kernel, rfl, by decide +kernel, by decide +kernel⟩
theorem ok_Term_build {f : Addr} {fd : FuncData} (F : Fun K "build" "Term.build" s_Term_build f fd) (T : Txt K mg) (TC : TermC K mg C CN CI) (M_Term : CalC P w K mg base (L2.CX P w) "Term" C 5 ps_Term_init (spInit K C CN CI)) (C_is_node : Cal P w K mg base "is_node" 3 ["value"] (spNode K)) :
    FnR P w K mg base (L2.CX P w) 7 f (fun vs H Q E => ∃ ws rest, vs = ws ++ rest ∧ ws.length = ["cls", "word"].length ∧ rest.length ≤ sizeLine ∧ ∀ p, H p = none → spBuild1 K C CI (ws ++ [V.ref p]) (upd H p (.tup rest)) Q E) := by
  have nd := sc_Term_build.nd
  have E_InvalidTerm := TC.inv
  obtain ⟨oc, od, kV, doc, pm, an, cdv, ct, osl, rfl, lk, hcd⟩ := F.ex
  refine StX.fn_star (N := nm_Term_build) (ps := ["cls", "word"]) (pv := "terms") lk hcd sc_Term_build StX.cxUp (StX.bind_star2 (B := fun us => bindArgs (PySem.W.fnOf "build" "Term.build" (defArgs s_Term_build) (defBody s_Term_build) (defScope s_Term_build) .none kV doc pm an cdv ct) ⟨us, []⟩) (p1 := "cls") (p2 := "word") (pv := "terms") (fun _ _ => by rfl) (fun _ _ _ _ => by rfl)) (fun A outer s H vs Q E hr h => ?_)
  obtain ⟨x, p, xs, o, rfl, hl, hp, hx, k1, k2⟩ := h
  refine ⟨_, (pss_cons (ps_if (PW.pt (pw_or (pt_not (pt_val (pe_cal C_is_node (hr.mono (by first | decide | omega)) rfl (pa_cons (pe_tup (pa_cons (pv 1) (pa_cons (pe_callB (kcall_len (K := K)) (by rfl) T.z_len (by decide +kernel) (pa_cons (pv 2) pa_nil)) pa_nil))) pa_nil)))) (pw_or1 (pt_not (pt_val (pe_callB (kcr_all (K := K) rfl) (by rfl) T.z_all (by decide +kernel) (pa_cons (pe_lc (own := [("term", 3)]) (g := (gName 3)) (by rfl) nd (kpi_tup (K := K) (pv 2)) (blkOk_by (own := [("term", 3)]) (N := nm_Term_build) (sc := defScope s_Term_build) (by decide +kernel)) (fun _ _ _ _ _ => (pg_name (i := 3) nd rfl (Or.inl rfl))) (fun _ _ _ _ _ => pts_nil) (fun _ _ _ _ _ => (pe_callB (kcall_isi (K := K)) (by rfl) T.z_isinstance (by decide +kernel) (pa_cons (pv 3) (pa_cons (pe_gref rfl TC.gT) pa_nil))))) pa_nil))))))) (pss_one (ps_raise rfl (takes_of rfl rfl rfl rfl) (pmk_own PySem.F.excBase_ValueError E_InvalidTerm.x E_InvalidTerm.g E_InvalidTerm.k (raises_own E_InvalidTerm.b E_InvalidTerm.t) rfl))) pss_nil)
      (pss_one (ps_ret (pe_mkL (i := 0) M_Term (hr.mono (by first | decide | omega)) rfl (Or.inl rfl) (passes_call (takes_of rfl rfl rfl rfl) fun _ _ _ _ h => h) (pa_cons (pe_tup (pa_cons (pe_tup (pa_cons (pv 1) (pa_cons (pe_callB (kcall_len (K := K)) (by rfl) T.z_len (by decide +kernel) (pa_cons (pv 2) pa_nil)) pa_nil))) (kpa_star (K := K) (pe_lc2 (own := [("term", 3), ("node", 4)]) (vs1 := [4]) (g := (gName 3)) (g1 := (gName 4)) (by rfl) nd (kpi_tup (K := K) (pv 2)) (blkOk_by (own := [("term", 3), ("node", 4)]) (N := nm_Term_build) (sc := defScope s_Term_build) (by decide +kernel)) (by decide) (fun _ _ _ _ _ => (pg_name (i := 3) nd rfl (Or.inl rfl))) (fun _ _ _ _ _ => pts_nil) (fun _ _ _ _ _ => (kpi_tup (K := K) (kpe_fld (K := K) (pv 3) rfl))) (fun _ _ _ _ _ => (pg_name (i := 4) nd rfl (Or.inl rfl))) (fun _ _ _ _ _ => pts_nil) (fun _ _ _ _ _ => (pv 4))) pa_nil))) pa_nil))))), ?_⟩
  have pr : ∀ {H1 : Hp}, Gx H H1 → EvG (tTup (tCons (tVar 1) (tCons (tCB (rLenK K) (tCons (tVar 2) tNil)) tNil))) (L2.start nm_Term_build [.ref C, x, .ref p]) H1 (fun v H2 => ∃ q, v = .ref q ∧ H2 q = some (.tup [x, .int (xs.length : Int)])) := fun {H1} e1 =>
    evg_tup (Ψ := fun vs _ => vs = [x, .int (xs.length : Int)]) (evgs_ec (evg_ve rfl) (evgs_ec (e_int (evg_lenT (eq_tup (evg_ve rfl) (SqT.of (e1 _ _ hp))))) evgs_en)) (fun vs _ z => by rw [z]; show 2 ≤ 100000; decide) fun vs q _ H2 z _ _ hq => ⟨q, rfl, by rw [z] at hq; exact hq⟩
  have isn : ∀ {H1 : Hp} {kd : Kd}, Gx H H1 → Pl K H x kd → Small x → EvG (tCall (spNode K) [] E0 (tCons (tTup (tCons (tVar 1) (tCons (tCB (rLenK K) (tCons (tVar 2) tNil)) tNil))) tNil)) (L2.start nm_Term_build [.ref C, x, .ref p]) H1 (BlE (isNode2 x (.int (xs.length : Int)))) := fun {H1 kd} e1 hk hs =>
    evg_callP (pr e1) fun v H2 e2 ⟨q, z, hq⟩ Q2 q2 => ⟨v, _, rfl, by rw [z]; exact .pair hq (hk.gx (e1.trans e2)) (.int _) hs, fun H3 e3 => q2 _ H3 e3 ⟨_, rfl, rfl⟩⟩
  have allT : ∀ {H1 : Hp} {os : List (Option Tr)}, Gx H H1 → os.length = xs.length → (∀ (i : Nat) (y : V), xs[i]? = some y → ∃ o, os[i]? = some o ∧ IsTerm K C H y o) →
      EvG (tCB (rAll K) (tCons (tLc (iTup K (tVar 2)) (gName 3) tYes (tCB (rIsi K) (tCons (tVar 3) (tCons (tC (.ref C)) tNil))) [3]) tNil)) (L2.start nm_Term_build [.ref C, x, .ref p]) H1 (BlE ((os.map Option.isSome).all id)) := fun {H1 os} e1 hol ho => by
    refine evg_rAll ((evn_lcA (n := xs.length) (j := 3) (R := fun i y _ => ∃ b, (os.map Option.isSome)[i]? = some b ∧ y = .bl b) (evw_tupAt (eq_tup (evg_ve rfl) (SqT.of (e1 _ _ hp)))) (by omega) (fun _ _ _ _ _ h => h) (fun i y H2 _ e2 hy => ?_) fun _ _ _ _ _ h => h).imp ?_)
    · obtain ⟨o, h1, h2⟩ := ho i y hy
      refine (evg_isc (b := o.isSome) (evg_var rfl fun H3 e3 => (h2.gx ((e1.trans e2).trans e3)).ty TC)).imp fun v H3 _ ⟨b, z, hb⟩ => ⟨o.isSome, by rw [List.getElem?_map, h1]; rfl, by rw [z, hb]⟩
    · rintro q H2 e2 ⟨ys, hq, hyl, hy⟩
      obtain rfl := bls_eq (by rw [hyl, List.length_map, hol]) hy
      exact ⟨_, hq, rfl⟩
  have row : ∀ {w : Str} {ts : List Tr}, x = .str w → xs.length = ts.length → (∀ (i : Nat) (t : Tr), ts[i]? = some t → ∃ a, xs[i]? = some (.ref a) ∧ TermAt K C H a t) → ∀ {H1 : Hp}, Gx H H1 →
      EvG (tTup (tCons (tTup (tCons (tVar 1) (tCons (tCB (rLenK K) (tCons (tVar 2) tNil)) tNil))) (StX.tStar K (tLc2 (iTup K (tVar 2)) (gName 3) tYes (iTup K (tFld K (tVar 3) "own_nodes")) (gName 4) tYes (tVar 4) [3, 4] [4]) tNil))) (L2.start nm_Term_build [.ref C, x, .ref p]) H1 (fun v H2 => ∃ q, v = .ref q ∧ RowAt H2 q (Tr.nodes (.nd w ts))) := fun {w ts} hw hl2 hts {H1} e1 => by
    have hex : ∀ i : Nat, ∃ l : List V, ∀ t : Tr, ts[i]? = some t → ∃ a dx n c e s u g, xs[i]? = some (.ref a) ∧ H a = some (.ins C dx (tfs n c e s u g)) ∧ H n = some (.tup l) ∧ RowL H l t.nodes := fun i => by
      cases ht : ts[i]? with
      | none => exact ⟨[], fun t z => by cases z⟩
      | some t =>
        obtain ⟨a, h1, ⟨dx, n, c, e, s, u, g, h2, hb⟩, _⟩ := hts i t ht
        obtain ⟨l, h3, h4⟩ := hb.nd
        exact ⟨l, fun t' z => by cases z; exact ⟨a, dx, n, c, e, s, u, g, h1, h2, h3, h4⟩⟩
    obtain ⟨L, hL⟩ := Classical.axiomOfChoice hex
    have hg : ∀ t ∈ ts, t.size ≤ 40 := fun t ht => by
      obtain ⟨i, hi⟩ := List.getElem?_of_mem ht
      obtain ⟨a, _, h⟩ := hts i t hi
      exact h.good.size
    have hf : ∀ {H2 : Hp}, Gx H H2 → RowL H2 ((List.range xs.length).flatMap L) (nodesL ts) := fun e => by
      rw [List.range_eq_range', hl2]
      refine RowL.gx e (RowL.flat ts 0 fun i t hi => ?_)
      obtain ⟨_, _, _, _, _, _, _, _, _, _, _, h⟩ := hL i t hi
      rw [Nat.zero_add]
      exact h
    have hfl : ((List.range xs.length).flatMap L).length ≤ 100000 := by
      rw [(hf (Gx.refl H)).1]
      have := size_nd hg
      omega
    refine evg_tup (Ψ := fun vs H2 => RowL H2 vs ((w, ts.length) :: nodesL ts)) (evgs_cons (pr e1) fun v H2 e2 ⟨q, z, hq⟩ => evgs_star (newl_k (evn_lc2 (n := xs.length) L (evw_tupAt (eq_tup (evg_ve rfl) (SqT.of ((e1.trans e2) _ _ hp)))) (fun _ => rfl) (show 4 < 5 by decide) (fun i y H3 hi e3 hy => ?_) hfl)) fun H3 e3 => evgs_nil fun H4 e4 => ?_) (fun vs H2 h => by rw [h.1, List.length_cons]; have := size_nd hg; omega) fun vs q H2 H3 h e3 _ hq => ⟨q, rfl, vs, hq, h.gx e3⟩
    · obtain ⟨t, ht⟩ : ∃ t, ts[i]? = some t := ⟨ts[i]'(by omega), List.getElem?_eq_getElem _⟩
      obtain ⟨a, dx, n, c, e, s, u, g, h1, h2, h3, h4⟩ := hL i t ht
      have hy : xs[i]? = some y := hy
      rw [h1] at hy
      cases hy
      have e4 := (e1.trans e2).trans e3
      exact eq_tup (evg_fld (evg_ve rfl) (e4 _ _ h2) TC.cl TC.n1 rfl) (SqT.of (e4 _ _ h3))
    · rw [List.append_nil, z]
      refine RowL.app (xs := [.ref q]) (nds := [(w, ts.length)]) (.one ?_) (hf (((e1.trans e2).trans e3).trans e4))
      have := (e3.trans e4) _ _ hq
      rw [hw, hl2] at this
      exact this
  have trms : ∀ {ts : List Tr}, xs.length = ts.length → (∀ (i : Nat) (t : Tr), ts[i]? = some t → ∃ a, xs[i]? = some (.ref a) ∧ TermAt K C H a t) → (∀ (i : Nat) (y : V), xs[i]? = some y → ∃ o, (ts.map some)[i]? = some o ∧ IsTerm K C H y o) := fun {ts} hl2 hts i y hy => by
    have hi : i < xs.length := (List.getElem?_eq_some_iff.mp hy).1
    obtain ⟨t, ht⟩ : ∃ t, ts[i]? = some t := ⟨ts[i]'(by omega), List.getElem?_eq_getElem _⟩
    obtain ⟨a, h1, h2⟩ := hts i t ht
    rw [hy] at h1
    cases h1
    exact ⟨some t, by rw [List.getElem?_map, ht]; rfl, .term h2⟩
  have allS : ∀ ts : List Tr, ((ts.map some).map Option.isSome).all id = true := fun ts => by simp
  cases hx with
  | @word _ kd _ hk hs hb =>
    refine g_when (R := fun c => c = true) (evb_is (evb_or (a := true) (b := true) (evb_is (evb_not (evb_B (isn (Gx.refl H) hk hs))) (by rw [hb]; rfl)) (fun h => by cases h)) rfl) (fun _ H1 e => k2 rfl H1 e) (fun h => by cases h)
  | @arg _ kd _ os hk hs hb hol ho hal =>
    refine g_when (R := fun c => c = true) (evb_is (evb_or (a := false) (b := true) (evb_is (evb_not (evb_B (isn (Gx.refl H) hk hs))) (by rw [hb]; rfl)) (fun _ H1 e1 => evb_is (evb_not (evb_B (allT e1 hol ho))) ?_)) rfl) (fun _ H1 e => k2 rfl H1 e) (fun h => by cases h)
    rw [List.all_map]
    show (!os.all Option.isSome) = true
    rw [hal]
    rfl
  | @made w _ ts hw hb hl2 hts hg =>
    rw [← hl2] at hb
    refine g_when (R := fun c => c = false) (evb_is (evb_or (a := false) (b := false) (evb_is (evb_not (evb_B (isn (Gx.refl H) (.str w) fun z e => (by cases e; omega)))) (by rw [hb]; rfl)) (fun _ H1 e1 => evb_is (evb_not (evb_B (allT e1 (by rw [List.length_map, hl2]) (trms hl2 hts)))) (by rw [allS]; rfl))) rfl) (fun h => by cases h) (fun _ H1 e1 => ?_)
    refine g_ret (te := tMakeL 0 C (spInit K C CN CI) E _) (Φ := fun v H2 => ∃ q, v = .ref q ∧ H q = none ∧ TermAt K C H2 q (.nd w ts)) (fun H2 e2 Q2 q2 => mkL_use rfl (row rfl hl2 hts (e1.trans e2)) ?_) fun v H2 e2 ⟨q, z, hq, ht⟩ => by rw [z]; exact k1 _ rfl q H2 (e1.trans e2) hq ht
    rintro v H3 e3 ⟨q, z, hq⟩ y dy hy hdy hne
    rw [z]
    refine ⟨y, dy, .ref q, some (.nd w ts), rfl, upd_same, .row (hq.gx (gx_made hy hdy)) hg, fun t z H4 e4 ht => ⟨rfl, ?_⟩, fun z => by cases z⟩
    cases z
    exact q2 _ H4 (e3.trans (Gxa.made hy hdy e4)) ⟨y, rfl, ((e1.trans e2).trans e3).free hy, ht⟩
  | @bad w _ ts hw hb hl2 hts hbad =>
    have hroot : GoodNd (w, ts.length) := ⟨hb, hw⟩
    rw [← hl2] at hb
    refine g_when (R := fun c => c = false) (evb_is (evb_or (a := false) (b := false) (evb_is (evb_not (evb_B (isn (Gx.refl H) (.str w) fun z e => (by cases e; omega)))) (by rw [hb]; rfl)) (fun _ H1 e1 => evb_is (evb_not (evb_B (allT e1 (by rw [List.length_map, hl2]) (trms hl2 hts)))) (by rw [allS]; rfl))) rfl) (fun h => by cases h) (fun _ H1 e1 => ?_)
    refine g_ret (te := tMakeL 0 C (spInit K C CN CI) E _) (Φ := fun v H2 => False) (fun H2 e2 Q2 q2 => mkL_use rfl (row rfl hl2 hts (e1.trans e2)) ?_) fun v H2 e2 z => z.elim
    rintro v H3 e3 ⟨q, z, hq⟩ y dy hy hdy hne
    rw [z]
    have e5 := gx_made (C := C) hy hdy
    refine ⟨y, dy, .ref q, none, rfl, upd_same, .none (row_bad (hq.gx e5) ?_ hbad) (.tup (hq.gx e5).choose_spec.1) (by decide), (fun t z => by cases z), fun _ H4 e4 => k2 rfl H4 (((e1.trans e2).trans e3).trans (Gxa.made hy hdy e4))⟩
    intro n hn
    rcases List.mem_cons.mp (show n ∈ (w, ts.length) :: nodesL ts from hn) with z | z
    · rw [z]; exact hroot
    · refine good_nodesL (fun t ht => ?_) n z
      obtain ⟨i, hi⟩ := List.getElem?_of_mem ht
      obtain ⟨a, _, h⟩ := hts i t hi
      exact h.good
end
end K07

set_option Elab.async false
set_option maxRecDepth 100000
set_option maxHeartbeats 1000000
namespace K07
open PySem L2 Ly TM
section
variable {P : Program} {w : World} {K : PySem.W.Frag} {mg : Str → Option Value} {base : Heap}
abbrev s_nodes' : Stmt := top 44
abbrev nm_nodes' : List Str := ["_law_term_here", "_law_found", "_law_one"]
abbrev ps_nodes' : List Str := ["_law_term_here"]
theorem sc_nodes' : FnScope nm_nodes' ps_nodes' (defScope s_nodes') := ⟨rfl, rfl, rfl, by decide +kernel, rfl, by decide +kernel, by decide +kernel⟩
theorem ok_nodes_step {f : Addr} {fd : FuncData} {h : Nat} (F : Fun K "_law_nodes" "_law_nodes" s_nodes' f fd) (T : Txt K mg) (C_nodes' : Cal P w K mg base "_law_nodes" h ps_nodes' (spNodesOf h)) : FnOk P w K mg base CX0 (h + 1) f fd ps_nodes' (spNodesOf (h + 1)) := by
  have nd := sc_nodes'.nd
  refine F.ok sc_nodes' (fun vs H Q E h => ?_) (fun cdv A outer s H vs Q E hr hh => ?_)
  · obtain ⟨_, _, rfl, _⟩ := h
    rfl
  · obtain ⟨v, ⟨w, ts⟩, rfl, ht, hht, hsz, k⟩ := hh
    refine ⟨_, (pss_cons (ps_set (i := 1) nd rfl (Or.inl rfl) (pe_lst (pa_cons (pe_tup (pa_cons (pe_ix (kix_tup (K := K)) (pv 0) pe_int (fun _ _ => rfl)) (pa_cons (pe_callB (kcall_len (K := K)) (by rfl) T.z_len (by decide +kernel) (pa_cons (pe_ix (kix_tup (K := K)) (pv 0) pe_int (fun _ _ => rfl)) pa_nil)) pa_nil))) pa_nil)))
      (pss_cons (ps_for PassesOwn.never rfl (kpi_tup (K := K) (pe_ix (kix_tup (K := K)) (pv 0) pe_int (fun _ _ => rfl))) (pg_name (i := 2) nd rfl (Or.inl rfl)) (pss_one (ps_set (i := 1) nd rfl (Or.inl rfl) (pe_op op_cat (pv 1) (pe_cal C_nodes' (hr.mono (by first | decide | omega)) rfl (pa_cons (pv 2) pa_nil))))))
      (pss_one (ps_ret (pv 1))))), ?_⟩
    obtain ⟨p, q, us, rfl, h1, h2, h3⟩ := ht.ex
    have hsz2 : (nodesL ts).length + 1 ≤ 2000 := hsz
    have hl3 := h3.len
    have hargs : ∀ {σ : L2.St} {H1 : Hp}, σ[0]? = some (some (.ref p)) → Gx H H1 → EvG (tOp (rIxT K) (tVar 0) (tC (.int 1))) σ H1 (Eq1 (.ref q)) := fun hs e => evg_ixT (k := 1) (eq_tup (evg_ve hs) (SqT.of (e _ _ h1))) (evg_i 1) rfl
    refine g_asgN (Φ := fun l H1 => ∃ xs, H1 l = some (.lst xs) ∧ RowL H1 xs [(w, ts.length)]) (evn_lst (Ψ := fun vs H1 => RowL H1 vs [(w, ts.length)]) (evgs_cons (evg_tup (Φ := fun v H1 => ∃ r, v = .ref r ∧ H1 r = some (.tup [.str w, .int (ts.length : Int)])) (Ψ := fun vs _ => vs = [.str w, .int (ts.length : Int)]) (evgs_ec (evg_ixT (k := 0) (eq_tup (evg_ve rfl) (SqT.of h1)) (evg_i 0) rfl) (evgs_ec (e_int ?_) evgs_en)) (fun vs _ z => by rw [z]; show 2 ≤ 100000; decide) fun vs r _ H2 z _ _ hr => ⟨r, rfl, by rw [z] at hr; exact hr⟩) fun v H1 e1 ⟨r, z, hr⟩ => evgs_nil fun H2 e2 => by
      rw [z]
      exact .one (e2 _ _ hr)) (fun vs _ h => by rw [h.1]; show 1 ≤ 100000; decide) fun vs p H1 H2 _ h e _ hp => ⟨vs, hp, h.gx e⟩) fun l H1 e1 nl ⟨xs, hl, hrow⟩ => ?_
    · have := evg_lenT (K := K) (eq_tup (hargs (σ := L2.start nm_nodes' [.ref p]) (H1 := H) rfl (Gx.refl H)) (SqT.of h2))
      rw [hl3] at this
      exact this
    refine g_forT (a := q) (xs := us) (hargs rfl e1) (SqT.of (e1 _ _ h2)) (fun i σ' H' => ∃ l xs o, σ' = [some (.ref p), some (.ref l), o] ∧ H l = none ∧ Gx H H' ∧ H' l = some (.lst xs) ∧ RowL H' xs ((w, ts.length) :: nodesL (ts.take i))) (fun H2 e2 => ⟨l, xs, _, rfl, nl, e1.trans e2, e2 _ _ hl, by rw [List.take_zero]; exact hrow.gx e2⟩) (fun i σ' H' ⟨_, _, _, _, _, e, _⟩ => SqT.of (e _ _ h2)) ?_ ?_
    · rintro i x σ' H2 hx ⟨l, xs, o, rfl, nl, e2, hl, hrow⟩
      obtain ⟨t, ht, hpt⟩ := h3.get hx
      have hmem := List.mem_of_getElem? ht
      have hlt := htL_lt hmem
      have hsl := sizeL_mem hmem
      have hht : htL ts < h + 1 := hht
      have hlen : xs.length ≤ 2000 := by
        rw [hrow.1, List.length_cons]
        have : (nodesL (ts.take i)).length ≤ (nodesL ts).length := by
          conv => rhs; rw [← List.take_append_drop i ts]
          rw [nodesL_app, List.length_append]
          omega
        omega
      refine g_asgN1 (i := 1) (Φ := fun l H3 => ∃ ys, H3 l = some (.lst ys) ∧ RowL H3 ys ((w, ts.length) :: nodesL (ts.take (i + 1)))) ?_ fun l' H3 e3 nl' ⟨ys, hl', hrow'⟩ => ⟨l', ys, _, rfl, e2.free nl', e2.trans e3, hl', hrow'⟩
      intro H3 e3 Q3 q3
      refine ⟨_, rfl, x, rfl, x, t, rfl, hpt.gx (e2.trans e3), by omega, Nat.le_trans hsl (by omega), fun r zs H4 e4 nr hr4 hz => ?_⟩
      have hz1 : zs.length ≤ 2000 := by rw [hz.1]; show t.size ≤ 2000; omega
      refine ⟨l, r, xs, zs, rfl, rfl, (e3.trans e4) _ _ hl, hr4, Evl.sz_of (by omega), fun r2 hr2 => q3 r2 _ (e4.trans (Gx.new hr2)) (e4.free hr2) ⟨_, upd_same, ?_⟩⟩
      have : (w, ts.length) :: nodesL (ts.take (i + 1)) = ((w, ts.length) :: nodesL (ts.take i)) ++ t.nodes := by
        rw [List.take_add_one, ht, nodesL_app]
        show _ :: (_ ++ (t.nodes ++ [])) = _
        rw [List.append_nil]
        rfl
      rw [this]
      exact RowL.app (hrow.gx ((e3.trans e4).trans (Gx.new hr2))) (hz.gx (Gx.new hr2))
    · rintro σ' H2 ⟨l, xs, o, rfl, nl, e2, hl, hrow⟩
      refine g_ret (Φ := Eq1 (.ref l)) (evg_ve rfl) fun v H3 e3 z => ?_
      rw [show v = .ref l from z]
      rw [hl3, List.take_length] at hrow
      exact k l xs H3 (e2.trans e3) nl (e3 _ _ hl) (hrow.gx e3)
end
end K07

set_option Elab.async false
set_option maxRecDepth 100000
set_option maxHeartbeats 1000000
namespace K07
open PySem L2 Ly TM
section
variable {P : Program} {w : World} {K : PySem.W.Frag} {mg : Str → Option Value} {base : Heap}
abbrev s_dice : Stmt := top 41
abbrev nm_dice : List Str := ["_law_script", "_law_spot", "_law_cell", "_law_great", "_law_blend"]
abbrev ps_dice : List Str := ["_law_script", "_law_spot"]
theorem sc_dice : FnScope nm_dice ps_dice (defScope s_dice) := ⟨rfl, rfl, rfl, by decide +kernel, rfl, by decide +kernel, by decide +kernel⟩
theorem ok_dice0 {f : Addr} {fd : FuncData} (F : Fun K "_law_dice" "_law_dice" s_dice f fd) (T : Txt K mg) : FnOk P w K mg base CX0 1 f fd ["_law_script", "_law_spot"] (spDice0 K) := by
  have nd := sc_dice.nd
  refine F.ok sc_dice (fun vs H Q E h => ?_) (fun cdv A outer s H vs Q E hr h => ?_)
  · obtain ⟨_, _, _, rfl, _⟩ := h
    rfl
  · obtain ⟨a, ns, n, rfl, hS, k⟩ := h
    refine ⟨_, (pss_cons (ps_set (i := 2) nd rfl (Or.inl rfl) (pe_op op_add (pe_op op_mul pe_int (pv 1)) pe_int))
      (Evl.pss_cut (ps_if (pt_cmpR op_lt (pv 1) (pe_callB (kcall_len (K := K)) (by rfl) T.z_len (by decide +kernel) (pa_cons (pv 0) pa_nil)) (nomark _)) (pss_one (ps_set (i := 2) nd rfl (Or.inl rfl) (pe_ix (kix_list (K := K)) (pv 0) (pv 1) (fun _ _ => rfl)))) pss_nil)
      (pss_cons (ps_set (i := 3) nd rfl (Or.inl rfl) (pe_op op_mod (pe_callTy call_int1 (by rfl) T.z_int (by decide +kernel) (pa_cons (pe_callB call_abs (by rfl) T.z_abs (by decide +kernel) (pa_cons (pv 2) pa_nil)) pa_nil)) (pe_op op_powW (pe_op op_powW pe_int pe_int) pe_int)))
      (pss_cons (ps_set (i := 4) nd rfl (Or.inl rfl) (pe_op op_add (pe_op op_add (pe_op op_add (pe_op op_mul (pe_op op_mod (pe_callTy call_int1 (by rfl) T.z_int (by decide +kernel) (pa_cons (pv 3) pa_nil)) pe_int) pe_int) (pe_op op_mul pe_int (pv 1))) (pe_op op_mul pe_int (pe_callTy call_int1 (by rfl) T.z_int (by decide +kernel) (pa_cons (pe_cmpR op_lt (pv 2) pe_int (nomark _)) pa_nil)))) pe_int))
      (pss_one (ps_ret (pe_lst (pa_cons (pe_callB (call_max2 rfl) (by rfl) T.z_max (by decide +kernel) (pa_cons pe_int (pa_cons (pe_op op_sub (pv 3) (pe_op op_powW pe_int pe_int)) pa_nil))) (pa_cons (pe_op op_mod (pe_callTy call_int1 (by rfl) T.z_int (by decide +kernel) (pa_cons (pv 4) pa_nil)) pe_int) (pa_cons pe_int pa_nil)))))))))), ?_⟩
    -- cell = 53 * spot + 29
    refine ⟨_, rfl, _, _, rfl, rfl, Or.inl ⟨by decide, by decide⟩, _, _, rfl, rfl, ?_⟩
    -- if spot < len(script)
    refine ⟨fun σ H' => ∃ cell : Int, σ = [some (.ref a), some (.int n), some (.int cell), none, none] ∧ H' = H, ?_, ?_⟩
    · refine ⟨_, rfl, _, rfl, a, _, rfl, Or.inl hS, _, _, rfl, rfl, _, rfl, ite2 (fun hc => ?_) (fun hc => ?_)⟩
      · have hc : (n : Int) < ((ns.map V.int).length : Int) := of_decide_eq_true hc
        have hl : n < ns.length := by
          rw [List.length_map] at hc
          omega
        exact ⟨_, rfl, _, rfl, a, _, _, _, rfl, rfl, hS, atI_nat (v := .int ns[n]) (by simp [hl]), ns[n], rfl, rfl⟩
      · exact ⟨_, rfl, rfl⟩
    · rintro σ H' ⟨cell, rfl, rfl⟩
      -- great
      refine ⟨_, rfl, _, rfl, Or.inl ⟨_, rfl, _, _, rfl, rfl, ⟨by decide, by decide +kernel⟩, _, _, rfl, rfl, ⟨by decide, by decide +kernel⟩, _, _, rfl, rfl, by show (0 : Int) < _; decide +kernel, ?_⟩⟩
      -- blend
      refine ⟨_, rfl, Or.inl ⟨_, rfl, _, _, rfl, rfl, by show (0 : Int) < 2305843009213693723; decide, _, _, rfl, rfl, Or.inr ⟨by decide, by decide⟩, _, rfl, _, _, rfl, rfl, Or.inl ⟨by decide, by decide⟩, _, _, rfl, rfl, _, rfl, _, _, rfl, rfl, Or.inr ⟨_, rfl, _, _, rfl, rfl, Or.inl ⟨by decide, by decide⟩, _, _, rfl, rfl, _, _, rfl, rfl, ?_⟩⟩⟩
      -- return
      refine ⟨_, rfl, _, _, rfl, rfl, ⟨by decide, by decide +kernel⟩, _, _, rfl, rfl, _, _, rfl, _, rfl, Or.inl ⟨_, rfl, _, _, rfl, rfl, by show (0 : Int) < 2305843009213693723; decide, by show 3 ≤ sizeLine; decide, fun p hp => ?_⟩⟩
      exact k p _ _ _ hp
theorem ok_dice {f : Addr} {fd : FuncData} (F : Fun K "_law_dice" "_law_dice" s_dice f fd) (T : Txt K mg) : FnOk P w K mg base CX0 1 f fd ["_law_script", "_law_spot"] (spDice K) := by
  refine (fn_mkdice (ok_dice0 F T)).imp fun vs H Q E h => ?_
  obtain ⟨a, ns, n, rfl, hS, k⟩ := h
  refine ⟨a, ns, n, rfl, hS, fun p x y z hp => ⟨p, x, y, z, rfl, upd_same, ?_⟩⟩
  rw [upd_upd]
  exact k p hp

abbrev s_roll : Stmt := top 42
abbrev nm_roll : List Str := ["_law_dice_here", "_law_total", "_law_found", "_law_one", "_law_two"]
abbrev ps_roll : List Str := ["_law_dice_here", "_law_total"]
theorem sc_roll : FnScope nm_roll ps_roll (defScope s_roll) := ⟨rfl, rfl, rfl, by decide +kernel, rfl, by decide +kernel, by decide +kernel⟩
theorem ok_roll0 {f : Addr} {fd : FuncData} (F : Fun K "_law_roll" "_law_roll" s_roll f fd) (T : Txt K mg) : FnOk P w K mg base CX0 1 f fd ["_law_dice_here", "_law_total"] spRoll0 := by
  have nd := sc_roll.nd
  refine F.ok sc_roll (fun vs H Q E h => ?_) (fun cdv A outer s H vs Q E hr h => ?_)
  · obtain ⟨_, _, _, _, _, rfl, _⟩ := h
    rfl
  · obtain ⟨p, t, a, b, c, rfl, ht, ht2, hp, k⟩ := h
    refine ⟨_, (pss_cons (ps_if (pt_cmpR op_gt (pe_ix (kix_list (K := K)) (pv 0) pe_int (fun _ _ => rfl)) pe_int (nomark _)) (pss_cons (ps_set (i := 2) nd rfl (Or.inl rfl) (pe_op op_mod (pe_callTy call_int1 (by rfl) T.z_int (by decide +kernel) (pa_cons (pe_ix (kix_list (K := K)) (pv 0) pe_int (fun _ _ => rfl)) pa_nil)) (pv 1)))
      (pss_cons (ps_asg (pe_op op_fdiv (pe_ix (kix_list (K := K)) (pv 0) pe_int (fun _ _ => rfl)) (pv 1)) (pg_sub (pv 0) pe_int set_list))
      (pss_one (ps_ret (pv 2))))) pss_nil)
      (pss_cons (ps_asg (pe_op op_add (pe_ix (kix_list (K := K)) (pv 0) pe_int (fun _ _ => rfl)) pe_int) (pg_sub (pv 0) pe_int set_list))
      (pss_cons (ps_set (i := 3) nd rfl (Or.inl rfl) (pe_op op_mod (pe_callTy call_int1 (by rfl) T.z_int (by decide +kernel) (pa_cons (pe_op op_add (pe_ix (kix_list (K := K)) (pv 0) pe_int (fun _ _ => rfl)) (pe_op op_mul pe_int (pe_ix (kix_list (K := K)) (pv 0) pe_int (fun _ _ => rfl)))) pa_nil)) pe_int))
      (pss_cons (ps_set (i := 4) nd rfl (Or.inl rfl) (pe_op op_add (pe_op op_mul (pe_op op_mod (pe_callTy call_int1 (by rfl) T.z_int (by decide +kernel) (pa_cons (pe_op op_mul (pv 3) (pv 3)) pa_nil)) pe_int) (pv 3)) (pe_op op_mul pe_int (pe_ix (kix_list (K := K)) (pv 0) pe_int (fun _ _ => rfl)))))
      (pss_cons (ps_set (i := 4) nd rfl (Or.inl rfl) (pe_op op_mod (pe_callTy call_int1 (by rfl) T.z_int (by decide +kernel) (pa_cons (pv 4) pa_nil)) pe_int))
      (pss_one (ps_ret (pe_op op_mod (pe_callTy call_int1 (by rfl) T.z_int (by decide +kernel) (pa_cons (pe_op op_fdiv (pv 4) pe_int) pa_nil)) (pv 1))))))))), ?_⟩
    have hL : SqL K H p [.int a, .int b, .int c] := SqL.of hp
    have h0 : (0 : Int) < 2305843009213693951 := by decide
    have h1 : (0 : Int) < 2305843009213693921 := by decide
    have h2 : (0 : Int) < 2305843009213693723 := by decide
    have hnn : ∀ x : Int, 0 ≤ x % t := fun x => Int.emod_nonneg _ (by omega)
    have hlt : ∀ x : Int, x % t < t := fun x => Int.emod_lt_of_pos _ ht
    refine ⟨_, rfl, p, _, _, _, rfl, rfl, hL, rfl, _, _, rfl, rfl, _, rfl, ite2 (fun _ => ?_) (fun _ => ?_)⟩
    · refine ⟨_, rfl, p, _, _, _, rfl, rfl, hL, rfl, Or.inl ⟨_, rfl, _, rfl, _, _, rfl, rfl, ht, ?_⟩⟩
      refine ⟨_, rfl, p, _, _, _, rfl, rfl, hL, rfl, _, rfl, _, _, rfl, rfl, ⟨ht, ht2⟩, _, rfl, p, _, _, _, rfl, rfl, hp, rfl, ?_⟩
      exact ⟨_, rfl, k _ _ _ _ (hnn _) (hlt _)⟩
    · refine ⟨_, rfl, p, _, _, _, rfl, rfl, hL, rfl, _, _, rfl, rfl, _, rfl, p, _, _, _, rfl, rfl, hp, rfl, ?_⟩
      have hL2 : SqL K (upd H p (.lst ([.int a, .int b, .int c].set 2 (.int (c + 1))))) p [.int a, .int b, .int (c + 1)] := SqL.of upd_same
      refine ⟨_, rfl, p, _, _, _, rfl, rfl, hL2, rfl, _, rfl, p, _, _, _, rfl, rfl, hL2, rfl, _, _, rfl, rfl, Or.inl ⟨by decide, by decide⟩, _, _, rfl, rfl, Or.inl ⟨_, rfl, _, _, rfl, rfl, h0, ?_⟩⟩
      have hone : ∀ x : Int, -(2 ^ 64) < x % 2305843009213693951 ∧ x % 2305843009213693951 < 2 ^ 64 := fun x => ⟨by have := Int.emod_nonneg x (b := 2305843009213693951) (by decide); omega, by have := Int.emod_lt_of_pos x h0; omega⟩
      refine ⟨_, rfl, _, rfl, _, _, rfl, rfl, Or.inl (hone _), Or.inl ⟨_, rfl, _, _, rfl, rfl, h1, _, rfl, _, _, rfl, rfl, Or.inr (hone _), _, rfl, p, _, _, _, rfl, rfl, hL2, rfl, _, _, rfl, rfl, Or.inl ⟨by decide, by decide⟩, _, _, rfl, rfl, ?_⟩⟩
      refine ⟨_, rfl, Or.inl ⟨_, rfl, _, _, rfl, rfl, h2, ?_⟩⟩
      refine ⟨_, rfl, _, _, rfl, rfl, ⟨by decide, by decide⟩, Or.inl ⟨_, rfl, _, rfl, _, _, rfl, rfl, ht, ?_⟩⟩
      exact k _ _ _ _ (hnn _) (hlt _)
theorem ok_roll {f : Addr} {fd : FuncData} (F : Fun K "_law_roll" "_law_roll" s_roll f fd) (T : Txt K mg) : FnOk P w K mg base CX0 1 f fd ["_law_dice_here", "_law_total"] spRoll := by
  refine (fn_dice (ok_roll0 F T)).imp fun vs H Q E h => ?_
  obtain ⟨p, t, rfl, h1, h2, hp, k⟩ := h
  refine ⟨rfl, p, hp, fun a b c => ⟨p, t, a, b, c, rfl, h1, h2, upd_same, fun r a' b' c' h3 h4 => ⟨⟨a', b', c', upd_same⟩, ?_⟩⟩⟩
  rw [upd_upd, upd_upd, upd_id hp]
  exact k r h3 h4

abbrev s_pick : Stmt := top 43
abbrev nm_pick : List Str := ["_law_dice_here", "_law_items"]
abbrev ps_pick : List Str := ["_law_dice_here", "_law_items"]
theorem sc_pick : FnScope nm_pick ps_pick (defScope s_pick) := ⟨rfl, rfl, rfl, by decide +kernel, rfl, by decide +kernel, by decide +kernel⟩
theorem ok_pick {f : Addr} {fd : FuncData} (F : Fun K "_law_pick" "_law_pick" s_pick f fd) (T : Txt K mg) (C_roll : Cal P w K mg base "_law_roll" 1 ["_law_dice_here", "_law_total"] spRoll) : FnOk P w K mg base CX0 2 f fd ["_law_dice_here", "_law_items"] (spPick K) := by
  refine F.ok sc_pick (fun vs H Q E h => ?_) (fun cdv A outer s H vs Q E hr h => ?_)
  · obtain ⟨_, _, _, rfl, _⟩ := h
    rfl
  · obtain ⟨p, l, xs, rfl, hp, hl, h1, h2, k⟩ := h
    refine ⟨_, (pss_one (ps_ret (pe_ix (kix_list (K := K)) (pv 1) (pe_cal C_roll (hr.mono (by first | decide | omega)) rfl (pa_cons (pv 0) (pa_cons (pe_callB (kcall_len (K := K)) (by rfl) T.z_len (by decide +kernel) (pa_cons (pv 1) pa_nil)) pa_nil))) (fun _ _ => rfl)))), ?_⟩
    refine ⟨_, rfl, _, rfl, _, rfl, l, _, rfl, Or.inl hl, p, _, rfl, by omega, by omega, hp, fun r h3 h4 => ?_⟩
    have e : r = (r.toNat : Int) := by omega
    have hx : xs[r.toNat]? = some (xs[r.toNat]'(by omega)) := by simp
    exact ⟨l, _, _, _, rfl, rfl, hl, at_of e hx, k _ _ hx⟩
end
section
variable {P : Program} {w : World} {K : PySem.W.Frag} {mg : Str → Option Value} {base : Heap}
abbrev s_term' : Stmt := top 46
abbrev nm_term' : List Str := ["_law_dice_here", "_law_symbols", "_law_leaves", "_law_deep", "_law_bare", "_law_word", "_law_one", "_law_at"]
abbrev ps_term' : List Str := ["_law_dice_here", "_law_symbols", "_law_leaves", "_law_deep"]
theorem sc_term' : FnScope nm_term' ps_term' (defScope s_term') := ⟨rfl, rfl, rfl, by decide +kernel, rfl, by decide +kernel, by decide +kernel⟩
theorem ok_term_step {f : Addr} {fd : FuncData} {h : Nat} (F : Fun K "_law_term" "_law_term" s_term' f fd) (T : Txt K mg) (C_roll : Cal P w K mg base "_law_roll" 1 ps_roll spRoll) (C_pick : Cal P w K mg base "_law_pick" 2 ps_pick (spPick K)) (C_term' : Cal P w K mg base "_law_term" (h + 2) ps_term' (spDraw h)) : FnOk P w K mg base CX0 (h + 3) f fd ps_term' (spDraw (h + 1)) := by
  have nd := sc_term'.nd
  refine F.ok sc_term' (fun vs H Q E h => ?_) (fun cdv A outer s H vs Q E hr hh => ?_)
  · obtain ⟨_, _, _, _, _, _, rfl, _⟩ := h
    rfl
  · obtain ⟨c, d, l, deep, D, ls, rfl, hc, hd, hl, hs, hdp, hd5, k⟩ := hh
    have hu := hu_of hr
    refine ⟨_, (pss_cons (ps_setLc (i := 4) (own := [("_law_word", 5)]) (g := (gName 5)) (by rfl) nd rfl rfl (sw_true rfl rfl rfl (by decide +kernel)) (kpi_list (K := K) (pe_callB (kcall_sortedD rfl) (by rfl) T.z_sorted (by decide +kernel) (pa_cons (pv 1) pa_nil))) (blkOk_by (own := [("_law_word", 5)]) (N := nm_term') (sc := defScope s_term') (by decide +kernel)) (fun _ _ _ _ _ => (pg_name (i := 5) nd rfl (Or.inl rfl))) (fun _ _ _ _ _ => (pts_one (pt_cmpR op_eq (pe_dget hu (pv 1) (pv 5) (fun _ _ => rfl)) pe_int (nomark _)))) (fun _ _ _ _ _ => (pv 5)))
      (pss_cons (ps_if (PW.pt (pw_or (pt_cmpR op_eq (pv 3) pe_int (nomark _)) (pw_or1 (pt_cmpR op_eq (pe_cal C_roll (hr.mono (by first | decide | omega)) rfl (pa_cons (pv 0) (pa_cons pe_int pa_nil))) pe_int (nomark _))))) (pss_one (ps_ret (pe_tup (pa_cons (pe_cal C_pick (hr.mono (by first | decide | omega)) rfl (pa_cons (pv 0) (pa_cons (pe_op op_cat (pe_op op_cat (pv 4) (pv 2)) (pv 2)) pa_nil))) (pa_cons (pe_tup pa_nil) pa_nil))))) pss_nil)
      (pss_cons (ps_set (i := 5) nd rfl (Or.inl rfl) (pe_cal C_pick (hr.mono (by first | decide | omega)) rfl (pa_cons (pv 0) (pa_cons (pe_op op_cat (pe_callB (kcall_sortedD rfl) (by rfl) T.z_sorted (by decide +kernel) (pa_cons (pv 1) pa_nil)) (pe_lc (own := [("_law_one", 6)]) (g := (gName 6)) (by rfl) nd (kpi_list (K := K) (pe_callB (kcall_sortedD rfl) (by rfl) T.z_sorted (by decide +kernel) (pa_cons (pv 1) pa_nil))) (blkOk_by (own := [("_law_one", 6)]) (N := nm_term') (sc := defScope s_term') (by decide +kernel)) (fun _ _ _ _ _ => (pg_name (i := 6) nd rfl (Or.inl rfl))) (fun _ _ _ _ _ => (pts_one (pt_cmpR op_gt (pe_dget hu (pv 1) (pv 6) (fun _ _ => rfl)) pe_int (nomark _)))) (fun _ _ _ _ _ => (pv 6)))) pa_nil))))
      (pss_one (ps_ret (pe_tup (pa_cons (pv 5) (pa_cons (pe_callTy (kcall_tuple (K := K)) (by rfl) T.z_tuple (by decide +kernel) (pa_cons (pe_lc (own := [("_law_at", 7)]) (g := (gName 7)) (by rfl) nd (pi_range1 rfl T.z_range (pa_cons (pe_dget hu (pv 1) (pv 5) (fun _ _ => rfl)) pa_nil)) (blkOk_by (own := [("_law_at", 7)]) (N := nm_term') (sc := defScope s_term') (by decide +kernel)) (fun _ _ _ _ _ => (pg_name (i := 7) nd rfl (Or.inl rfl))) (fun _ _ _ _ _ => pts_nil) (fun _ _ _ _ _ => (pe_cal C_term' (hr.mono (by first | decide | omega)) rfl (pa_cons (pv 0) (pa_cons (pv 1) (pa_cons (pv 2) (pa_cons (pe_op op_sub (pv 3) pe_int) pa_nil))))))) pa_nil)) pa_nil)))))))), ?_⟩
    have hlk : ∀ w ∈ D.map (·.1), ∃ a, D.lookup w = some a ∧ (w, a) ∈ D := fun w hw => by
      obtain ⟨⟨x, a⟩, hx, rfl⟩ := List.mem_map.mp hw
      exact ⟨a, lookup_of_mem hs.nodup hx, hx⟩
    obtain ⟨wc, hwc⟩ := hs.con
    have hlc : D.lookup wc = some 0 := lookup_of_mem hs.nodup hwc
    have hin : wc ∈ D.map (·.1) := List.mem_map.mpr ⟨_, hwc, rfl⟩
    refine g_asgN (evn_lcSD (P := fun w => decide (((D.lookup w).getD 0 : Int) = 0)) (evg_ve rfl) hd hs.len (show 5 < 8 by decide) fun w hw H1 e1 => ?_) fun lb H1 e1 _ ⟨zs, hz, hb⟩ => ?_
    · obtain ⟨a, ha, _⟩ := hlk w hw
      refine evb_test (evg_is (evg_eqI (evg_dgetS (evg_ve rfl) (evg_ve rfl) (e1 _ _ hd) ha) (evg_i 0)) ?_)
      rw [ha]
      rfl
    have hzl : zs.length = D.length := by rw [hz.length_eq, List.length_map]
    refine g_when (R := fun b => b = false → 1 ≤ deep) (evb_orR (R1 := fun b => b = decide ((deep : Int) = 0)) (R2 := fun _ => True) (evb_test (evg_eqI (evg_vi rfl) (evg_i 0))) (fun _ H2 e2 => evb_test (evg_eqIx (P1 := fun _ => True) (evg_roll (evg_dice rfl ((e1.trans e2) _ _ hc)) (evg_i 4) (fun i h => by rw [h]; decide) fun r _ _ _ _ _ _ => ⟨r, rfl, trivial⟩) (evg_i 0) fun _ => trivial)) (fun _ z => by cases z) (fun h b _ _ => ?_)) (fun _ H2 e2 => ?_) (fun hdeep H2 e2 => ?_)
    · have := of_decide_eq_false h.symm
      omega
    · have hlist : EvN (tOp rCat (tOp rCat (tVar 4) (tVar 2)) (tVar 2)) ((L2.start nm_term' [.ref c, .ref d, .ref l, .int (deep : Int)]).set 4 (some (.ref lb))) H2 (NewL (((zs.filter fun w => decide (((D.lookup w).getD 0 : Int) = 0)).map V.str ++ ls.map V.str) ++ ls.map V.str)) := by
        have hfl : (zs.filter fun w => decide (((D.lookup w).getD 0 : Int) = 0)).length ≤ 64 := Nat.le_trans (List.length_filter_le _ _) (by rw [hzl]; exact Nat.le_of_lt hs.len)
        have hll := hs.ll
        exact evn_catE (newl_e (evn_catE (evg_le (evg_ve rfl) (e2 _ _ hb)) (evg_le (evg_ve rfl) ((e1.trans e2) _ _ hl)) (by rw [List.length_map, List.length_map]; omega))) (evg_le (evg_ve rfl) ((e1.trans e2) _ _ hl)) (by rw [List.length_append, List.length_map, List.length_map]; omega)
      have hpos : 0 < (((zs.filter fun w => decide (((D.lookup w).getD 0 : Int) = 0)).map V.str ++ ls.map V.str) ++ ls.map V.str).length := by
        rw [List.append_assoc, List.length_append, List.length_map]
        have : wc ∈ zs.filter fun w => decide (((D.lookup w).getD 0 : Int) = 0) := List.mem_filter.mpr ⟨hz.mem_iff.mpr hin, by rw [hlc]; rfl⟩
        have := List.length_pos_of_mem this
        omega
      have hmax : (((zs.filter fun w => decide (((D.lookup w).getD 0 : Int) = 0)).map V.str ++ ls.map V.str) ++ ls.map V.str).length ≤ 100000 := by
        rw [List.length_append, List.length_append, List.length_map, List.length_map]
        have h1 : (zs.filter fun w => decide (((D.lookup w).getD 0 : Int) = 0)).length ≤ zs.length := List.length_filter_le _ _
        have h2 := hs.ll
        have h3 := hs.len
        omega
      refine g_ret (Φ := fun v H3 => ∃ w, PT H3 (.nd w []) v ∧ ((w, 0) ∈ D ∨ w ∈ ls)) (evg_tup (Ψ := fun vs H3 => ∃ w q, vs = [.str w, .ref q] ∧ H3 q = some (.tup []) ∧ ((w, 0) ∈ D ∨ w ∈ ls)) (evgs_cons (evg_pickE (evg_dice rfl ((e1.trans e2) _ _ hc)) (newl_e hlist) ⟨hpos, hmax⟩) fun v H3 e3 hv => evgs_cons (evg_tup (Φ := fun v H3 => ∃ q, v = .ref q ∧ H3 q = some (.tup [])) (Ψ := fun vs _ => vs = []) (evgs_nil fun _ _ => rfl) (fun vs _ z => by rw [z]; exact Nat.zero_le _) fun vs q _ H4 z _ _ hq => ⟨q, rfl, by rw [z] at hq; exact hq⟩) fun v2 H4 e4 ⟨q, z, hq⟩ => evgs_nil fun H5 e5 => ?_) (fun vs _ ⟨w, q, z, _⟩ => by rw [z]; show 2 ≤ 100000; decide) fun vs p H3 H4 ⟨w, q, z, hq, hw⟩ e4 _ hp => ⟨w, PT.mk (by rw [z] at hp; exact hp) (e4 _ _ hq) PTL.nil, hw⟩) fun v H3 e3 ⟨w, hpt, hw⟩ => k v _ H3 ((e1.trans e2).trans e3) hpt (Fit.nd (by
          rcases hw with h | h
          · exact .inl h
          · exact .inr ⟨h, rfl⟩) fun t h => by cases h) (Nat.one_le_pow _ _ (by decide)) (Nat.zero_le _)
      have hv : v ∈ ((zs.filter fun w => decide (((D.lookup w).getD 0 : Int) = 0)).map V.str ++ ls.map V.str) ++ ls.map V.str := hv
      have hls : v ∈ ls.map V.str → ∃ w, v = .str w ∧ ((w, 0) ∈ D ∨ w ∈ ls) := fun h => by
        obtain ⟨w, hw, rfl⟩ := List.mem_map.mp h
        exact ⟨w, rfl, .inr hw⟩
      have : ∃ w, v = .str w ∧ ((w, 0) ∈ D ∨ w ∈ ls) := by
        rcases List.mem_append.mp hv with hv | hv
        · rcases List.mem_append.mp hv with hv | hv
          · obtain ⟨w, hw, rfl⟩ := List.mem_map.mp hv
            obtain ⟨h1, h2⟩ := List.mem_filter.mp hw
            obtain ⟨a, ha, hm⟩ := hlk w (hz.mem_iff.mp h1)
            rw [ha] at h2
            have h2 : ((a : Nat) : Int) = 0 := of_decide_eq_true h2
            have : a = 0 := by omega
            subst this
            exact ⟨w, rfl, .inl hm⟩
          · exact hls hv
        · exact hls hv
      obtain ⟨w, rfl, hw⟩ := this
      exact ⟨w, q, by rw [z], e5 _ _ hq, hw⟩
    · have hdeep := hdeep rfl
      have e12 := e1.trans e2
      have mD : Mono (fun v (_ : Hp) => ∃ w ∈ D.map (·.1), v = V.str w) := fun _ _ _ _ h => h
      have mem2 : ∀ {H3 : Hp} {p : Addr} {ys : List Str}, (∀ y ∈ ys, y ∈ D.map (·.1)) → H3 p = some (.lst (ys.map V.str)) → LofT (fun v _ => ∃ w ∈ D.map (·.1), v = V.str w) ys.length (.ref p) H3 := fun {H3 p ys} hy hp => ⟨p, rfl, _, hp, by rw [List.length_map], fun x hx => by
        obtain ⟨w, hw, rfl⟩ := List.mem_map.mp hx
        exact ⟨w, hy w hw, rfl⟩⟩
      refine g_asg (Φ := fun v _ => ∃ w ∈ D.map (·.1), v = V.str w) (evg_pick (n := D.length + ((D.map (·.1)).filter fun w => decide (((D.lookup w).getD 0 : Int) > 0)).length) (evg_dice rfl (e12 _ _ hc)) ((evn_cat mD ((evn_sortedD (evg_ve rfl) (e12 _ _ hd) hs.len).g fun p _ H4 _ _ _ ⟨ys, hy, _, hp⟩ => ?_) ((evn_lcSD (P := fun w => decide (((D.lookup w).getD 0 : Int) > 0)) (evg_ve rfl) (e12 _ _ hd) hs.len (show 6 < 8 by decide) fun w hw H3 e3 => ?_).g fun p _ H4 _ _ _ ⟨ys, hy, hp⟩ => ?_) ?_).g fun p _ _ _ _ _ f => ⟨p, rfl, f⟩) ?_) ?_
      · have := mem2 (fun y h => hy.mem_iff.mp h) hp
        rw [hy.length_eq, List.length_map] at this
        exact this
      · obtain ⟨a, ha, _⟩ := hlk w hw
        refine evb_test (evg_is (evg_cmp1 (f := fun i j => decide (i > j)) (evg_dgetS (evg_ve rfl) (evg_ve rfl) ((e12.trans e3) _ _ hd) ha) (evg_i 0)) ?_)
        rw [ha]
        rfl
      · have := mem2 (fun y h => hy.mem_iff.mp (List.mem_filter.mp h).1) hp
        rw [(hy.filter _).length_eq] at this
        exact this
      · have h1 : ((D.map (·.1)).filter fun w => decide (((D.lookup w).getD 0 : Int) > 0)).length ≤ (D.map (·.1)).length := List.length_filter_le _ _
        rw [List.length_map] at h1
        have := hs.len
        omega
      · have h1 : ((D.map (·.1)).filter fun w => decide (((D.lookup w).getD 0 : Int) > 0)).length ≤ (D.map (·.1)).length := List.length_filter_le _ _
        rw [List.length_map] at h1
        have := hs.len
        have := List.length_pos_of_mem hwc
        omega
      · rintro _ H3 e3 ⟨w, hw, rfl⟩
        obtain ⟨a, ha, hm⟩ := hlk w hw
        have ha3 : a ≤ 3 := hs.ar _ hm
        have e13 := e12.trans e3
        refine g_ret (Φ := fun v H4 => ∃ ts, PT H4 (.nd w ts) v ∧ ts.length = a ∧ ∀ t ∈ ts, Fit D ls t ∧ t.size ≤ 4 ^ deep ∧ t.ht ≤ deep - 1) (evg_tup (Ψ := fun vs H4 => ∃ q ys, vs = [.str w, .ref q] ∧ H4 q = some (.tup ys) ∧ ys.length = a ∧ ∀ y ∈ ys, ∃ t, PT H4 t y ∧ Fit D ls t ∧ t.size ≤ 4 ^ deep ∧ t.ht ≤ deep - 1) (evgs_cons (evg_ve rfl) fun v H4 e4 z => evgs_cons (evg_tupleP (K := K) (Ψ := fun ys H5 => ys.length = a ∧ ∀ y ∈ ys, ∃ t, PT H5 t y ∧ Fit D ls t ∧ t.size ≤ 4 ^ deep ∧ t.ht ≤ deep - 1) (fun ys _ _ e ⟨h1, h2⟩ => ⟨h1, fun y hy => ?_⟩) ((evn_lcR (P := fun n => n = a) (R := fun y H5 => ∃ t, PT H5 t y ∧ Fit D ls t ∧ t.size ≤ 4 ^ deep ∧ t.ht ≤ deep - 1) (evgs_cons (evg_dgetS (evg_ve rfl) (evg_ve rfl) ((e13.trans e4) _ _ hd) ha) fun v H5 _ ⟨i, z, hi⟩ => evgs_nil fun _ _ => ⟨a, by rw [z, hi], rfl⟩) (fun n h => by omega) (fun x H5 e5 => ?_) (fun v _ _ e ⟨t, h1, h2⟩ => ⟨t, PT.firm e t v h1, h2⟩)).g fun p _ H5 _ _ _ ⟨ys, hp, hl, hy⟩ => ⟨p, ys, rfl, SqL.of hp, hl, hy⟩)) fun v2 H5 e5 ⟨q, ys, z2, hq, hl, hy⟩ => evgs_nil fun H6 e6 => ⟨q, ys, by rw [show v = .str w from z, z2], e6 _ _ hq, hl, fun y h => ?_⟩) (fun vs _ ⟨q, ys, z, _⟩ => by rw [z]; show 2 ≤ 100000; decide) fun vs p H4 H5 ⟨q, ys, z, hq, hl, hy⟩ e5 _ hp => ?_) fun v H4 e4 ⟨ts, hpt, hl, hts⟩ => ?_
        · obtain ⟨t, h3, h4⟩ := h2 y hy
          exact ⟨t, h3.gx e, h4⟩
        · intro H6 e6 Q6 q6
          have e7 := ((e13.trans e4).trans e5).trans e6
          refine ⟨_, rfl, _, rfl, _, rfl, _, rfl, _, _, rfl, rfl, c, d, l, deep - 1, D, ls, ?_, e7 _ _ hc, e7 _ _ hd, e7 _ _ hl, hs, by omega, by omega, fun v t H7 e8 h1 h2 h3 h4 => q6 v H7 e8 ⟨t, h1, h2, by rw [Nat.sub_add_cancel hdeep] at h3; exact h3, h4⟩⟩
          rw [show ((deep - 1 : Nat) : Int) = (deep : Int) - 1 by omega]
          rfl
        · obtain ⟨t, h3, h4⟩ := hy y h
          exact ⟨t, h3.gx e6, h4⟩
        · obtain ⟨ts, h1, h2⟩ := PTL.of hy
          exact ⟨ts, PT.mk (by rw [z] at hp; exact hp) (e5 _ _ hq) (h1.gx e5), by rw [← h1.len]; exact hl, h2⟩
        · refine k v _ H4 (e13.trans e4) hpt (Fit.nd (.inl (by rw [hl]; exact hm)) fun t ht => (hts t ht).1) ?_ ?_
          · have := sizeL_le (m := 4 ^ deep) fun t ht => (hts t ht).2.1
            show (nodesL ts).length + 1 ≤ 4 ^ (deep + 1)
            have h1 : 1 ≤ 4 ^ deep := Nat.one_le_pow _ _ (by decide)
            have h2 : 4 ^ deep * ts.length ≤ 4 ^ deep * 3 := Nat.mul_le_mul_left _ (by omega)
            rw [Nat.pow_succ]
            omega
          · have := htL_le (m := deep - 1) fun t ht => (hts t ht).2.2
            show htL ts ≤ deep
            omega
abbrev s_small_term : Stmt := top 47
abbrev nm_small_term : List Str := ["_law_dice_here", "_law_symbols", "_law_leaves", "_law_deep", "_law_most", "_law_found"]
abbrev ps_small_term : List Str := ["_law_dice_here", "_law_symbols", "_law_leaves", "_law_deep", "_law_most"]
theorem sc_small_term : FnScope nm_small_term ps_small_term (defScope s_small_term) := ⟨rfl, rfl, rfl, by decide +kernel, rfl, by decide +kernel, by decide +kernel⟩
theorem ok_small_term {f : Addr} {fd : FuncData} (F : Fun K "_law_small_term" "_law_small_term" s_small_term f fd) (T : Txt K mg) (C_pick : Cal P w K mg base "_law_pick" 2 ps_pick (spPick K)) (C_term' : Cal P w K mg base "_law_term" 8 ps_term' (spDraw 6)) (C_nodes' : Cal P w K mg base "_law_nodes" 7 ps_nodes' (spNodesOf 7)) :
    FnOk P w K mg base CX0 9 f fd ps_small_term spSmall := by
  have nd := sc_small_term.nd
  refine F.ok sc_small_term (fun vs H Q E h => ?_) (fun cdv A outer s H vs Q E hr hh => ?_)
  · obtain ⟨_, _, _, _, _, _, _, rfl, _⟩ := h
    rfl
  · obtain ⟨c, d, l, deep, most, D, ls, rfl, hc, hd, hl, hs, ha, hd4, hm, k⟩ := hh
    refine ⟨_, (pss_cons (ps_set (i := 5) nd rfl (Or.inl rfl) (pe_cal C_term' (hr.mono (by first | decide | omega)) rfl (pa_cons (pv 0) (pa_cons (pv 1) (pa_cons (pv 2) (pa_cons (pv 3) pa_nil))))))
      (pss_cons (ps_if (pt_cmpR op_le (pe_callB (kcall_len (K := K)) (by rfl) T.z_len (by decide +kernel) (pa_cons (pe_cal C_nodes' (hr.mono (by first | decide | omega)) rfl (pa_cons (pv 5) pa_nil)) pa_nil)) (pv 4) (nomark _)) (pss_one (ps_ret (pv 5))) pss_nil)
      (pss_cons (ps_set (i := 5) nd rfl (Or.inl rfl) (pe_cal C_term' (hr.mono (by first | decide | omega)) rfl (pa_cons (pv 0) (pa_cons (pv 1) (pa_cons (pv 2) (pa_cons pe_int pa_nil))))))
      (pss_cons (ps_if (pt_cmpR op_le (pe_callB (kcall_len (K := K)) (by rfl) T.z_len (by decide +kernel) (pa_cons (pe_cal C_nodes' (hr.mono (by first | decide | omega)) rfl (pa_cons (pv 5) pa_nil)) pa_nil)) (pv 4) (nomark _)) (pss_one (ps_ret (pv 5))) pss_nil)
      (pss_one (ps_ret (pe_tup (pa_cons (pe_cal C_pick (hr.mono (by first | decide | omega)) rfl (pa_cons (pv 0) (pa_cons (pe_ifExp (pt_cmpR (kop_neD (K := K) hr.units) (pv 2) (pe_lst pa_nil) (nomark _)) (pv 2) (pe_lst (pa_cons pe_str pa_nil))) pa_nil))) (pa_cons (pe_tup pa_nil) pa_nil))))))))), ?_⟩
    have len : ∀ {v : V} {t : Tr} {H1 : Hp} {σ : L2.St}, σ[5]? = some (some v) → PT H1 t v → t.ht < 7 → t.size ≤ 2000 → EvG (tCB (rLenK K) (tCons (tCall (spNodesOf 7) [] E0 (tCons (tVar 5) tNil)) tNil)) σ H1 (IntT fun i => i = (t.size : Int)) := fun {v t H1 σ} hσ h1 h2 h3 => by
      intro H2 e2 Q2 q2
      refine ⟨v, hσ, v, t, rfl, h1.gx e2, h2, h3, fun p xs H3 e3 _ hp hx => ⟨p, xs, rfl, .inl (SqL.of hp), q2 _ H3 e3 ⟨_, rfl, ?_⟩⟩⟩
      rw [hx.1]
      rfl
    have pw : ∀ n, n ≤ 4 → 4 ^ (n + 1) ≤ 1024 := fun n h => Nat.le_trans (Nat.pow_le_pow_right (by decide) (show n + 1 ≤ 5 by omega)) (by decide)
    refine g_asg (Φ := fun v H1 => ∃ t, PT H1 t v ∧ Fit D ls t ∧ t.size ≤ 4 ^ (deep + 1) ∧ t.ht ≤ deep) (fun H1 e1 Q1 q1 => ⟨_, rfl, _, rfl, _, rfl, _, rfl, c, d, l, deep, D, ls, rfl, e1 _ _ hc, e1 _ _ hd, e1 _ _ hl, hs, by omega, by omega, fun v t H2 e2 h1 h2 h3 h4 => q1 v H2 e2 ⟨t, h1, h2, h3, h4⟩⟩) fun v H1 e1 ⟨t, h1, h2, h3, h4⟩ => ?_
    have h5 := pw deep hd4
    refine g_when (R := fun b => b = decide ((t.size : Int) ≤ (most : Int))) (evb_test (evg_cmp1 (f := fun i j => decide (i ≤ j)) (len rfl h1 (by omega) (by omega)) (evg_vi rfl))) (fun hb H2 e2 => ?_) (fun _ H2 e2 => ?_)
    · have hb := of_decide_eq_true hb.symm
      refine g_ret (Φ := Eq1 v) (evg_ve rfl) fun u H3 e3 z => ?_
      rw [show u = v from z]
      exact k v t H3 ((e1.trans e2).trans e3) ((h1.gx e2).gx e3) h2 (by omega) (by omega)
    have e12 := e1.trans e2
    refine g_asg (Φ := fun v H1 => ∃ t, PT H1 t v ∧ Fit D ls t ∧ t.size ≤ 4 ^ (1 + 1) ∧ t.ht ≤ 1) (fun H3 e3 Q1 q1 => ⟨_, rfl, _, rfl, _, rfl, c, d, l, 1, D, ls, rfl, (e12.trans e3) _ _ hc, (e12.trans e3) _ _ hd, (e12.trans e3) _ _ hl, hs, by omega, by omega, fun v t H2 e2 h1 h2 h3 h4 => q1 v H2 e2 ⟨t, h1, h2, h3, h4⟩⟩) fun v2 H3 e3 ⟨t2, g1, g2, g3, g4⟩ => ?_
    have g5 : 4 ^ (1 + 1) = 16 := rfl
    refine g_when (R := fun b => b = decide ((t2.size : Int) ≤ (most : Int))) (evb_test (evg_cmp1 (f := fun i j => decide (i ≤ j)) (len rfl g1 (by omega) (by omega)) (evg_vi rfl))) (fun hb H4 e4 => ?_) (fun _ H4 e4 => ?_)
    · have hb := of_decide_eq_true hb.symm
      refine g_ret (Φ := Eq1 v2) (evg_ve rfl) fun u H5 e5 z => ?_
      rw [show u = v2 from z]
      exact k v2 t2 H5 (((e12.trans e3).trans e4).trans e5) ((g1.gx e4).gx e5) g2 (by omega) (by omega)
    have e14 := (e12.trans e3).trans e4
    have hdat : DpAll K H4 (ls.map V.str) (ls.map PyData.str) := Dp.strs ls
    have hsh := strs_shaped ls hs.lok
    have eqe : PyData.eqv (.list (ls.map PyData.str)) (.list []) = decide (ls = []) := by
      cases ls with
      | nil => rfl
      | cons x xs => rfl
    have hne : EvB (tTest (tOp (rNeD K) (tVar 2) (tLst tNil))) ((((L2.start nm_small_term [.ref c, .ref d, .ref l, .int (deep : Int), .int (most : Int)]).set 5 (some v))).set 5 (some v2)) H4 (fun b => b = !decide (ls = [])) := evb_test (evg_is (evg_neD (d := .list (ls.map PyData.str)) (e := .list []) ((evg_ve rfl).imp fun u H5 e5 z => by
      rw [show u = .ref l from z]
      exact .lst (SqL.of ((e14.trans e5) _ _ hl)) (Dp.strs ls)) (evg_dlst dats_nil (by decide)) hsh (by decide)) (by rw [eqe]))
    refine g_ret (Φ := fun v H5 => ∃ w, PT H5 (.nd w []) v ∧ ((w, 0) ∈ D ∨ w ∈ ls)) (evg_tup (Ψ := fun vs H3 => ∃ w q, vs = [.str w, .ref q] ∧ H3 q = some (.tup []) ∧ ((w, 0) ∈ D ∨ w ∈ ls)) (evgs_cons (evg_pickE (xs := if ls = [] then [.str "a"] else ls.map V.str) (evg_dice rfl (e14 _ _ hc)) (evg_ifE hne (fun hb H5 e5 => ?_) (fun hb H5 e5 => ?_)) ?_) fun v H5 e5 hv => evgs_cons (evg_tup (Φ := fun v H3 => ∃ q, v = .ref q ∧ H3 q = some (.tup [])) (Ψ := fun vs _ => vs = []) (evgs_nil fun _ _ => rfl) (fun vs _ z => by rw [z]; exact Nat.zero_le _) fun vs q _ H4 z _ _ hq => ⟨q, rfl, by rw [z] at hq; exact hq⟩) fun v2 H6 e6 ⟨q, z, hq⟩ => evgs_nil fun H7 e7 => ?_) (fun vs _ ⟨w, q, z, _⟩ => by rw [z]; show 2 ≤ 100000; decide) fun vs p H3 H4 ⟨w, q, z, hq, hw⟩ e4 _ hp => ⟨w, PT.mk (by rw [z] at hp; exact hp) (e4 _ _ hq) PTL.nil, hw⟩) fun v H5 e5 ⟨w, hpt, hw⟩ => k v _ H5 (e14.trans e5) hpt (Fit.nd (by
          rcases hw with h | h
          · exact .inl h
          · exact .inr ⟨h, rfl⟩) fun t h => by cases h) hm (Nat.zero_le _)
    · have hz : ls ≠ [] := fun z => by
        rw [z] at hb
        cases hb
      rw [if_neg hz]
      exact evg_le (evg_ve rfl) ((e14.trans e5) _ _ hl)
    · have hz : ls = [] := by
        by_cases z : ls = []
        · exact z
        · rw [decide_eq_false z] at hb
          cases hb
      rw [if_pos hz]
      exact newl_e (evn_lstE (evgs_e1 evg_e) (by decide))
    · by_cases z : ls = []
      · rw [if_pos z]
        exact ⟨by decide, by decide⟩
      · rw [if_neg z, List.length_map]
        exact ⟨List.length_pos_iff.mpr z, Nat.le_trans hs.ll (by decide)⟩
    · have hv : v ∈ (if ls = [] then [.str "a"] else ls.map V.str) := hv
      have : ∃ w, v = .str w ∧ ((w, 0) ∈ D ∨ w ∈ ls) := by
        by_cases z : ls = []
        · rw [if_pos z] at hv
          have : v = .str "a" := by simpa using hv
          exact ⟨"a", this, .inl (ha z)⟩
        · rw [if_neg z] at hv
          obtain ⟨w, hw, rfl⟩ := List.mem_map.mp hv
          exact ⟨w, rfl, .inr hw⟩
      obtain ⟨w, rfl, hw⟩ := this
      exact ⟨w, q, by rw [z], e7 _ _ hq, hw⟩
end
end K07

set_option Elab.async false
set_option maxRecDepth 100000
set_option maxHeartbeats 1000000
namespace K07
open PySem L2 Ly TM
section
variable {P : Program} {w : World} {K : PySem.W.Frag} {mg : Str → Option Value} {base : Heap} {C CN CI : Addr}
abbrev s_drawn_term : Stmt := top 48
abbrev nm_drawn_term : List Str := ["_law_dice_here", "_law_deep", "_law_symbols"]
abbrev ps_drawn_term : List Str := ["_law_dice_here", "_law_deep"]
theorem sc_drawn_term : FnScope nm_drawn_term ps_drawn_term (defScope s_drawn_term) := ⟨rfl, rfl, rfl, by decide +kernel, rfl, by decide +kernel, by decide +kernel⟩
theorem ok_drawn_term {f : Addr} {fd : FuncData} (F : Fun K "_law_drawn_term" "_law_drawn_term" s_drawn_term f fd) (C_small_term : Cal P w K mg base "_law_small_term" 9 ps_small_term spSmall) : FnOk P w K mg base CX0 10 f fd ps_drawn_term spDrawn := by
  have nd := sc_drawn_term.nd
  refine F.ok sc_drawn_term (fun vs H Q E h => ?_) (fun cdv A outer s H vs Q E hr hh => ?_)
  · obtain ⟨_, _, rfl, _⟩ := h
    rfl
  · obtain ⟨c, deep, rfl, hc, hd, k⟩ := hh
    refine ⟨_, (pss_cons (ps_set (i := 2) nd rfl (Or.inl rfl) (pe_disp (pps_cons pe_str pe_int (pps_cons pe_str pe_int (pps_cons pe_str pe_int (pps_cons pe_str pe_int (pps_cons pe_str pe_int pps_nil))))) (by rfl) (by rfl) (fun z => by cases z) (by decide)))
      (pss_one (ps_ret (pe_cal C_small_term (hr.mono (by first | decide | omega)) rfl (pa_cons (pv 0) (pa_cons (pv 2) (pa_cons (pe_lst (pa_cons pe_str (pa_cons pe_str pa_nil))) (pa_cons (pv 1) (pa_cons pe_int pa_nil))))))))), ?_⟩
    refine g_asgN (Φ := fun p H' => H' p = some (.dK (kvD D0))) (fun H1 e1 Q1 q1 p hp => ⟨upd_same, kvD D0, rfl, by decide, ?_⟩) fun d H1 e1 nd hd1 => ?_
    · rw [upd_upd]
      exact q1 p _ (Gx.new hp) hp upd_same
    refine g_ret (Φ := fun v H2 => ∃ t, PT H2 t v ∧ Fit D0 L0 t ∧ t.size ≤ 40 ∧ t.ht ≤ 5) (fun H2 e2 Q2 q2 => ?_) fun v H2 e2 ⟨t, h1, h2, h3, h4⟩ => k v t H2 (e1.trans e2) h1 h2 h3 h4
    refine ⟨_, rfl, _, rfl, by decide, fun l hl => ⟨_, rfl, c, d, l, deep, 40, D0, L0, rfl, (Gx.new hl) _ _ ((e1.trans e2) _ _ hc), (Gx.new hl) _ _ (e2 _ _ hd1), upd_same, sym0, (fun z => by cases z), hd, by decide, fun v t H3 e3 h1 h2 h3 h4 => q2 v H3 ((Gx.new hl).trans e3) ⟨t, h1, h2, h3, h4⟩⟩⟩
abbrev s_made_term : Stmt := top 45
abbrev nm_made_term : List Str := ["_law_term_here"]
abbrev ps_made_term : List Str := ["_law_term_here"]
theorem sc_made_term : FnScope nm_made_term ps_made_term (defScope s_made_term) := ⟨rfl, rfl, rfl, by decide +kernel, rfl, by decide +kernel, by decide +kernel⟩
theorem ok_made_term {f : Addr} {fd : FuncData} (F : Fun K "_law_made_term" "_law_made_term" s_made_term f fd) (T : Txt K mg) (TC : TermC K mg C CN CI) (M_Term : CalC P w K mg base (L2.CX P w) "Term" C 5 ps_Term_init (spInit K C CN CI)) (C_nodes' : Cal P w K mg base "_law_nodes" 7 ps_nodes' (spNodesOf 7)) : FnOk P w K mg base CX0 8 f fd ps_made_term (spMade K C) := by
  have nd := sc_made_term.nd
  refine F.ok sc_made_term (fun vs H Q E h => ?_) (fun cdv A outer s H vs Q E hr hh => ?_)
  · obtain ⟨_, _, rfl, _⟩ := h
    rfl
  · obtain ⟨v, t, rfl, hv, ht, hg, k⟩ := hh
    refine ⟨_, (pss_one (ps_ret (pe_mkc M_Term (hr.mono (by first | decide | omega)) rfl passL (pa_cons (pe_callTy (kcall_tuple (K := K)) (by rfl) T.z_tuple (by decide +kernel) (pa_cons (pe_cal C_nodes' (hr.mono (by first | decide | omega)) rfl (pa_cons (pv 0) pa_nil)) pa_nil)) pa_nil)))), ?_⟩
    have hs := hg.size
    refine g_ret (te := tMake C (spInit K C CN CI) [] E0 _) (Φ := fun v H1 => ∃ p, v = .ref p ∧ H p = none ∧ TermAt K C H1 p t) (fun H1 e1 Q1 q1 => mk_use (Ψ := fun v H2 => ∃ q, v = .ref q ∧ RowAt H2 q t.nodes) ?_ ?_) fun v H1 e ⟨p, z, hp, ht⟩ => by rw [z]; exact k p H1 e hp ht
    · refine (evg_tupleP (Ψ := fun ys H2 => RowL H2 ys t.nodes) (fun _ _ _ e h => h.gx e) (evg_call1 (evg_ve rfl) fun H2 e2 Q2 q2 => ⟨v, t, rfl, hv.gx (e1.trans e2), by omega, by omega, fun p xs H3 e3 _ hp hx => q2 _ H3 e3 ⟨p, xs, rfl, SqL.of hp, hx⟩⟩)).imp fun u H2 e2 ⟨p, ys, z, hp, hy⟩ => ⟨p, z, ys, hp, hy⟩
    · rintro _ H2 e2 ⟨q, rfl, hq⟩ y dy hy hdy hne
      refine ⟨y, dy, .ref q, some t, rfl, upd_same, .row (hq.gx (gx_made hy hdy)) hg, fun u z H4 e4 ht => ⟨rfl, ?_⟩, fun z => by cases z⟩
      cases z
      exact q1 _ H4 (e2.trans (Gxa.made hy hdy e4)) ⟨y, rfl, (e1.trans e2).free hy, ht⟩
end
end K07

set_option Elab.async false
set_option maxRecDepth 100000
set_option maxHeartbeats 1000000
namespace K07
open PySem L2 Ly TM
section
variable {P : Program} {w : World} {K : PySem.W.Frag} {mg : Str → Option Value} {base : Heap} {C CN CI : Addr}
abbrev s_is_leaf : Stmt := top 49
abbrev nm_is_leaf : List Str := ["_law_value"]
abbrev ps_is_leaf : List Str := ["_law_value"]
theorem sc_is_leaf : FnScope nm_is_leaf ps_is_leaf (defScope s_is_leaf) := ⟨rfl, rfl, rfl, by decide +kernel, rfl, by decide +kernel, by decide +kernel⟩
def spLeafJ : Sp := fun vs H Q _ => ∃ v o, vs = [v] ∧ Item H v o ∧ ∀ H', Gx H H' → Q (.bl o.isSome) H'
theorem ok_is_leaf {f : Addr} {fd : FuncData} (F : Fun K "_law_is_leaf" "_law_is_leaf" s_is_leaf f fd) (T : Txt K mg) : FnOk P w K mg base CX0 1 f fd ps_is_leaf spLeafJ := by
  have nd := sc_is_leaf.nd
  refine F.ok sc_is_leaf (fun vs H Q E h => ?_) (fun cdv A outer s H vs Q E hr h => ?_)
  · obtain ⟨_, _, rfl, _⟩ := h
    rfl
  · obtain ⟨v, o, rfl, hv, k⟩ := h
    have hu : (A.deeper (PyProof.Rows.envOfC "_law_is_leaf" (defScope s_is_leaf) s.heap.objs.size f cdv)).units + 65 < cLine := by have := hr.un; omega
    refine ⟨_, (pss_cons (ps_if (PW.pt (pw_or (pt_not (pt_val (pe_callB (kcall_isi (K := K)) (by rfl) T.z_isinstance (by decide +kernel) (pa_cons (pv 0) (pa_cons (pe_ty "tuple" (by rfl) T.z_tuple (by decide +kernel)) pa_nil))))) (pw_or (pt_cmpR op_ne (pe_callB (kcall_len (K := K)) (by rfl) T.z_len (by decide +kernel) (pa_cons (pv 0) pa_nil)) pe_int (nomark _)) (pw_or1 (pt_val (pe_callB (kcall_isi (K := K)) (by rfl) T.z_isinstance (by decide +kernel) (pa_cons (pe_ix (kix_tup (K := K)) (pv 0) pe_int (fun _ _ => rfl)) (pa_cons (pe_ty "bool" (by rfl) T.z_bool (by decide +kernel)) pa_nil)))))))) (pss_one (ps_ret pe_bl)) pss_nil)
      (pss_cons (ps_if (PW.pt (pw_or (pt_not (pt_val (pe_callB (kcall_isi (K := K)) (by rfl) T.z_isinstance (by decide +kernel) (pa_cons (pe_ix (kix_tup (K := K)) (pv 0) pe_int (fun _ _ => rfl)) (pa_cons (pe_ty "str" (by rfl) T.z_str (by decide +kernel)) pa_nil))))) (pw_or1 (pt_cmpR (op_notInD hu) (pe_ix (kix_tup (K := K)) (pv 0) pe_int (fun _ _ => rfl)) (pe_lst (pa_cons pe_int (pa_cons pe_int (pa_cons pe_int (pa_cons pe_int pa_nil))))) rfl)))) (pss_one (ps_ret pe_bl)) pss_nil)
      (pss_one (ps_ret (pe_or (pe_cmpR (op_inD hu) (pe_ix (kix_tup (K := K)) (pv 0) pe_int (fun _ _ => rfl)) (pe_lst (pa_cons pe_str (pa_cons pe_str (pa_cons pe_str (pa_cons pe_str (pa_cons pe_str (pa_cons pe_str pa_nil))))))) rfl) (pe_one (pe_and (pe_cmpR (op_inD hu) (pe_ix (kix_tup (K := K)) (pv 0) pe_int (fun _ _ => rfl)) (pe_lst (pa_cons pe_str (pa_cons pe_str pa_nil))) rfl) (pe_one (pe_cmpR op_eq (pe_ix (kix_tup (K := K)) (pv 0) pe_int (fun _ _ => rfl)) pe_int (nomark _)))))))))), ?_⟩
    have three : (∃ p x n, v = .ref p ∧ H p = some (.tup [x, .int ((n : Nat) : Int)]) ∧ x ∈ wordsV ∧ o.isSome = leafV x n) ∨ (o.isSome = false ∧ ((∃ kd, Pl K H v kd ∧ kd ≠ .tup) ∨ ∃ p, v = .ref p ∧ H p = some (.tup [.str "a"]))) := by
      cases hv with
      | @node p w n h a b c => exact .inl ⟨p, _, n, rfl, h, a, c.symm⟩
      | @bad p x n h a b c => exact .inl ⟨p, x, n, rfl, h, a, c.symm⟩
      | lst h => exact .inr ⟨rfl, .inl ⟨_, .lst h, by decide⟩⟩
      | @one p h => exact .inr ⟨rfl, .inr ⟨p, rfl, h⟩⟩
      | non => exact .inr ⟨rfl, .inl ⟨_, .non, by decide⟩⟩
    rcases three with ⟨p, x, n, rfl, hp, hx, ho⟩ | ⟨ho, ⟨kd, hk, hkd⟩ | ⟨p, rfl, hp⟩⟩
    · rw [ho] at k
      obtain ⟨hx1, hx2, hx3, _⟩ := words_is hx
      have hx0 : ∀ {H1 : Hp}, Gx H H1 → EvG (tOp (rIxT K) (tVar 0) (tC (.int 0))) (L2.start nm_is_leaf [.ref p]) H1 (Eq1 x) := fun e => evg_ixT (k := 0) (eq_tup (evg_ve rfl) (SqT.of (e _ _ hp))) (evg_i 0) rfl
      have hn0 : ∀ {H1 : Hp}, Gx H H1 → EvG (tOp (rIxT K) (tVar 0) (tC (.int 1))) (L2.start nm_is_leaf [.ref p]) H1 (Eq1 (.int (n : Int))) := fun e => evg_ixT (k := 1) (eq_tup (evg_ve rfl) (SqT.of (e _ _ hp))) (evg_i 1) rfl
      refine g_when (R := fun c => c = false) (evb_or (a := false) (b := false) (evb_not (a := true) (evb_B (evg_isi (R := fun c => c = true) (evg_var rfl fun H1 e => ⟨.tup, .tup (e _ _ hp), rfl⟩) (by decide)))) (fun _ H1 e1 => evb_or (a := false) (b := false) (evb_test (evg_is (evg_neI (evg_lenT (eq_tup (evg_ve rfl) (SqT.of (e1 _ _ hp)))) (evg_i 2)) rfl)) (fun _ H2 e2 => evb_test (evg_isi (R := fun c => c = false) ((hn0 (e1.trans e2)).imp fun u H3 _ z => ⟨.int, by rw [show u = .int (n : Int) from z]; exact .int _, rfl⟩) (by decide))))) (fun h => by cases h) (fun _ H1 e1 => ?_)
      have hmem : ∀ {H1 : Hp}, EvG (tLst (tCons (tC (.int 0)) (tCons (tC (.int 1)) (tCons (tC (.int 2)) (tCons (tC (.int 3)) tNil))))) (L2.start nm_is_leaf [.ref p]) H1 (DatT K (.list four)) := evg_dlst (dats_c dat_int <| dats_c dat_int <| dats_c dat_int <| dats_c dat_int <| dats_nil) (by decide)
      refine g_when (R := fun c => c = (!(kdIs (xK x) "str") || !memD (.int (n : Int)) four)) (evb_or (evb_not (evb_B (evg_isi (R := fun c => c = kdIs (xK x) "str") ((hx0 e1).imp fun u H3 _ z => ⟨xK x, by rw [show u = x from z]; exact (hx1 K H3).2, rfl⟩) (by decide)))) (fun _ H2 e2 => evb_test (evg_notInD (eq_dat (hn0 (e1.trans e2)) fun _ _ => .int _) hmem (by simp [SeqAt.shaped, PyData.canLay0, PyData.depth]) (by decide +kernel)))) (fun h H2 e2 => ?_) (fun h H2 e2 => ?_)
      · refine g_ret (Φ := BlE false) (evg_c fun _ _ => ⟨_, rfl, rfl⟩) fun v H3 e3 ⟨b, z, hb⟩ => ?_
        rw [z, hb]
        have : leafV x n = false := by
          unfold leafV
          cases h1 : kdIs (xK x) "str" <;> cases h2 : memD (.int (n : Int)) four <;> rw [h1, h2] at h <;> first | rfl | cases h
        rw [this] at k
        exact k H3 ((e1.trans e2).trans e3)
      · have : leafV x n = (memD (xD x) six || (memD (xD x) two && decide ((n : Int) = 0))) := by
          unfold leafV
          cases h1 : kdIs (xK x) "str" <;> cases h2 : memD (.int (n : Int)) four <;> rw [h1, h2] at h <;> first | rfl | cases h
        rw [this] at k
        have e12 := e1.trans e2
        refine g_ret (Φ := BlE (memD (xD x) six || (memD (xD x) two && decide ((n : Int) = 0)))) (evg_orV (evg_inD (eq_dat (hx0 e12) fun H3 _ => (hx1 K H3).1) (evg_dlst (ds := six) (dats_c dat_str <| dats_c dat_str <| dats_c dat_str <| dats_c dat_str <| dats_c dat_str <| dats_c dat_str <| dats_nil) (by decide)) hx3 (by decide +kernel)) (fun _ H3 e3 => evg_andV (evg_inD (eq_dat (hx0 (e12.trans e3)) fun H3 _ => (hx1 K H3).1) (evg_dlst (ds := two) (dats_c dat_str <| dats_c dat_str <| dats_nil) (by decide)) hx3 (by decide +kernel)) (fun _ H4 e4 => evg_eqI (int_e (hn0 ((e12.trans e3).trans e4))) (evg_i 0)))) fun v H3 e3 ⟨b, z, hb⟩ => ?_
        rw [z, hb]
        exact k H3 (e12.trans e3)
    · rw [ho] at k
      refine g_when (R := fun c => c = true) (evb_is (evb_or (a := true) (b := true) (evb_not (evb_B (evg_isi (R := fun c => c = false) (evg_var rfl fun H1 e => ⟨kd, hk.gx e, by cases kd <;> first | rfl | exact absurd rfl hkd⟩) (by decide)))) (fun h => by cases h)) rfl) (fun _ H1 e => k H1 e) (fun h => by cases h)
    · rw [ho] at k
      refine g_when (R := fun c => c = true) (evb_is (evb_or (a := false) (b := true) (evb_not (a := true) (evb_B (evg_isi (R := fun c => c = true) (evg_var rfl fun H1 e => ⟨.tup, .tup (e _ _ hp), rfl⟩) (by decide)))) (fun _ H1 e1 => evb_is (evb_or (a := true) (b := true) (evb_test (evg_is (evg_neI (evg_lenT (eq_tup (evg_ve rfl) (SqT.of (e1 _ _ hp)))) (evg_i 2)) rfl)) (fun h => by cases h)) rfl)) rfl) (fun _ H1 e => k H1 e) (fun h => by cases h)
end
end K07

set_option Elab.async false
set_option maxRecDepth 100000
set_option maxHeartbeats 1000000
namespace K07
open PySem L2 Ly TM
section
variable {P : Program} {w : World} {K : PySem.W.Frag} {mg : Str → Option Value} {base : Heap} {C CN CI : Addr}
abbrev s_is_tree : Stmt := top 50
abbrev nm_is_tree : List Str := ["_law_value", "_law_one", "_law_wanted", "_law_words", "_law_at"]
abbrev ps_is_tree : List Str := ["_law_value"]
theorem sc_is_tree : FnScope nm_is_tree ps_is_tree (defScope s_is_tree) := ⟨rfl, rfl, rfl, by decide +kernel, rfl, by decide +kernel, by decide +kernel⟩
theorem ok_is_tree {f : Addr} {fd : FuncData} (F : Fun K "_law_is_tree" "_law_is_tree" s_is_tree f fd) (T : Txt K mg) (C_is_leaf : Cal P w K mg base "_law_is_leaf" 1 ps_is_leaf spLeafJ) : FnOk P w K mg base CX0 2 f fd ps_is_tree (spTree K) := by
  have nd := sc_is_tree.nd
  refine F.ok sc_is_tree (fun vs H Q E h => ?_) (fun cdv A outer s H vs Q E hr h => ?_)
  · obtain ⟨_, _, rfl, _⟩ := h
    rfl
  · obtain ⟨v, b, rfl, hv, k⟩ := h
    have hu := hu_of hr
    refine ⟨_, (pss_cons (ps_if (PW.pt (pw_or (pt_not (pt_val (pe_callB (kcall_isi (K := K)) (by rfl) T.z_isinstance (by decide +kernel) (pa_cons (pv 0) (pa_cons (pe_ty "tuple" (by rfl) T.z_tuple (by decide +kernel)) pa_nil))))) (pw_or1 (pt_not (pt_chain op_le op_le pe_int (pe_callB (kcall_len (K := K)) (by rfl) T.z_len (by decide +kernel) (pa_cons (pv 0) pa_nil)) pe_int))))) (pss_one (ps_ret pe_bl)) pss_nil)
      (pss_cons (ps_if (pt_cmpR (kop_neD (K := K) hr.units) (pe_lc (own := [("_law_one", 1)]) (g := (gName 1)) (by rfl) nd (kpi_tup (K := K) (pv 0)) (blkOk_by (own := [("_law_one", 1)]) (N := nm_is_tree) (sc := defScope s_is_tree) (by decide +kernel)) (fun _ _ _ _ _ => (pg_name (i := 1) nd rfl (Or.inl rfl))) (fun _ _ _ _ _ => (pts_one (pt_not (pt_val (pe_cal C_is_leaf (hr.mono (by first | decide | omega)) rfl (pa_cons (pv 1) pa_nil)))))) (fun _ _ _ _ _ => (pv 1))) (pe_lst pa_nil) (nomark _)) (pss_one (ps_ret pe_bl)) pss_nil)
      (pss_cons (ps_par (i := 2) (j := 3) (by rfl) nd rfl rfl (by decide) rfl rfl (pa_cons pe_int (pa_cons pe_dnewK pa_nil)) (by rfl))
      (pss_cons (ps_for PassesOwn.never rfl (pi_range1 rfl T.z_range (pa_cons (pe_callB (kcall_len (K := K)) (by rfl) T.z_len (by decide +kernel) (pa_cons (pv 0) pa_nil)) pa_nil)) (pg_name (i := 4) nd rfl (Or.inl rfl)) (pss_cons (ps_if (PW.pt (pw_or (pt_cmpR op_lt (pv 2) pe_int (nomark _)) (pw_or1 (pt_cmpR op_ne (pe_dget2 hu (pv 3) (pe_ix (kix_tup (K := K)) (pe_ix (kix_tup (K := K)) (pv 0) (pv 4) (fun _ _ => rfl)) pe_int (fun _ _ => rfl)) (pe_ix (kix_tup (K := K)) (pe_ix (kix_tup (K := K)) (pv 0) (pv 4) (fun _ _ => rfl)) pe_int (fun _ _ => rfl)) ⟨rfl, rfl, rfl, rfl⟩) (pe_ix (kix_tup (K := K)) (pe_ix (kix_tup (K := K)) (pv 0) (pv 4) (fun _ _ => rfl)) pe_int (fun _ _ => rfl)) (nomark _))))) (pss_one (ps_ret pe_bl)) pss_nil)
      (pss_cons (ps_dput hu (pv 3) (pe_ix (kix_tup (K := K)) (pe_ix (kix_tup (K := K)) (pv 0) (pv 4) (fun _ _ => rfl)) pe_int (fun _ _ => rfl)) (pe_ix (kix_tup (K := K)) (pe_ix (kix_tup (K := K)) (pv 0) (pv 4) (fun _ _ => rfl)) pe_int (fun _ _ => rfl)) rfl)
      (pss_one (ps_set (i := 2) nd rfl (Or.inl rfl) (pe_op op_sub (pe_op op_add (pv 2) (pe_ix (kix_tup (K := K)) (pe_ix (kix_tup (K := K)) (pv 0) (pv 4) (fun _ _ => rfl)) pe_int (fun _ _ => rfl))) pe_int))))))
      (pss_one (ps_ret (pe_cmpR op_eq (pv 2) pe_int (nomark _)))))))), ?_⟩
    cases hv with
    | @other _ kd hk hkd _ =>
      refine g_when (R := fun c => c = true) (evb_is (evb_or (a := true) (b := true) (evb_not (evb_B (evg_isi (R := fun c => c = false) (evg_var rfl fun H1 e => ⟨kd, hk.gx e, by cases kd <;> first | rfl | exact absurd rfl hkd⟩) (by decide)))) (fun h => by cases h)) rfl) (fun _ H1 e => k H1 e) (fun h => by cases h)
    | @row a xs os ha hl hol ho =>
      refine g_when (R := fun c => c = !(decide ((1 : Int) ≤ (xs.length : Int)) && decide ((xs.length : Int) ≤ 40))) (evb_is (evb_or (a := false) (b := !(decide ((1 : Int) ≤ (xs.length : Int)) && decide ((xs.length : Int) ≤ 40))) (evb_not (a := true) (evb_B (evg_isi (R := fun c => c = true) (evg_var rfl fun H1 e => ⟨.tup, .tup (e _ _ ha), rfl⟩) (by decide)))) (fun _ H1 e1 => evb_not (evb_test (evg_chain (f := fun i j => decide (i ≤ j)) (g := fun i j => decide (i ≤ j)) (evg_i 1) (evg_lenT (eq_tup (evg_ve rfl) (SqT.of (e1 _ _ ha)))) (evg_i 40))))) rfl) (fun h H1 e1 => ?_) (fun h H1 e1 => ?_)
      · have : rowJ os = false := by
          have hno : ¬ (1 ≤ os.length ∧ os.length ≤ 40) := by
            rintro ⟨h1, h2⟩
            rw [hol] at h1 h2
            rw [decide_eq_true (by omega), decide_eq_true (by omega)] at h
            cases h
          unfold rowJ
          rw [decide_eq_false hno]
          rfl
        rw [this] at k
        exact k H1 e1
      · have hsz : 1 ≤ xs.length ∧ xs.length ≤ 40 := by
          have h : (decide ((1 : Int) ≤ (xs.length : Int)) && decide ((xs.length : Int) ≤ 40)) = true := by
            cases q : (decide ((1 : Int) ≤ (xs.length : Int)) && decide ((xs.length : Int) ≤ 40)) with
            | true => rfl
            | false => rw [q] at h; cases h
          rw [Bool.and_eq_true] at h
          have h1 := of_decide_eq_true h.1
          have h2 := of_decide_eq_true h.2
          omega
        let bad : Nat → Bool := fun i => !(os.getD i none).isSome
        have hval : ∀ (i : Nat) (y : V), xs[i]? = some y → Item H y (os.getD i none) ∧ y = xs.getD i .non := fun i y hy => by
          obtain ⟨o, h1, h2⟩ := ho i y hy
          rw [List.getD_eq_getElem?_getD, List.getD_eq_getElem?_getD, h1, hy]
          exact ⟨h2, rfl⟩
        have hlist : EvN (tLc (iTup K (tVar 0)) (gName 1) (tNot (tB (tCall spLeafJ [] E0 (tCons (tVar 1) tNil)))) (tVar 1) [1]) (L2.start nm_is_tree [.ref a]) H1 (NewL (((List.range xs.length).filter bad).map fun i => xs.getD i .non)) := by
          intro H2 e2 Q2 q2
          refine evn_lcN (n := xs.length) (B := fun i b => b = bad i) (R := fun i => Eq1 (xs.getD i .non)) (evw_tupAt (eq_tup (evg_ve rfl) (SqT.of (e1 _ _ ha)))) (by omega) (fun _ _ _ _ _ h => h) (fun i x H3 hi e3 hx => evb_not (evb_B (evg_call1 (Φ := BlE (os.getD i none).isSome) (evg_ve rfl) fun H4 e4 Q4 q4 => ⟨x, _, rfl, (hval i x hx).1.gx ((e1.trans e3).trans e4), fun H5 e5 => q4 _ H5 e5 ⟨_, rfl, rfl⟩⟩))) (fun i x H3 hi e3 hx _ => ?_) (fun _ => Eq1.firm) H2 e2 Q2 fun p H3 e3 n3 ⟨ys, h, L⟩ => ?_
          · rw [← (hval i x hx).2]
            exact evg_ve rfl
          · have := L.det (f := bad) (v := fun i => xs.getD i .non) (fun i b _ h => h) fun i y _ h => h
            rw [this] at h
            exact q2 p H3 e3 n3 h
        have hmem : ∀ {H2 : Hp}, Gx H H2 → ∀ y ∈ ((List.range xs.length).filter bad).map (fun i => xs.getD i .non), ∃ o, Item H2 y o := fun {H2} e y hy => by
          obtain ⟨i, hi, rfl⟩ := List.mem_map.mp hy
          have hi := List.mem_range.mp (List.mem_filter.mp hi).1
          have := (hval i xs[i] (List.getElem?_eq_getElem hi))
          rw [← this.2]
          exact ⟨_, this.1.gx e⟩
        refine g_when (R := fun c => c = !((List.range xs.length).filter bad).isEmpty) (evb_test (fun H2 e2 Q2 q2 => ?_)) (fun h H2 e2 => ?_) (fun h H2 e2 => ?_)
        · refine hlist H2 e2 _ fun p H3 e3 n3 hp => ?_
          obtain ⟨ds, h1, h2, h3, h4⟩ := items_dat (K := K) (hmem ((e1.trans e2).trans e3))
          refine ⟨by decide, fun q hq => ⟨.list ds, .list [], .lst (SqL.of ((Gx.new hq) _ _ hp)) (DpAll.gx (Gx.new hq) h1), .lst (SqL.of upd_same) .nil, list_shaped h3 h4, by decide, q2 _ _ (e3.trans (Gx.new hq)) ⟨_, rfl, ?_⟩⟩⟩
          rw [eqv_nil]
          congr 1
          rw [List.length_map] at h2
          cases q5 : (List.range xs.length).filter bad with
          | nil =>
            rw [q5] at h2
            rw [List.eq_nil_of_length_eq_zero h2]
            rfl
          | cons z zs =>
            rw [q5] at h2
            cases ds with
            | nil => cases h2
            | cons d ds => rfl
        · have : rowJ os = false := by
            unfold rowJ
            have hall : os.all Option.isSome = false := by
              cases q : os.all Option.isSome with
              | false => rfl
              | true =>
                have : (List.range xs.length).filter bad = [] := by
                  rw [List.filter_eq_nil_iff]
                  intro i hi
                  have hi := List.mem_range.mp hi
                  have hio : i < os.length := by omega
                  show ¬ (!(os.getD i none).isSome) = true
                  rw [List.getD_eq_getElem?_getD, List.getElem?_eq_getElem hio]
                  have := List.all_eq_true.mp q os[i] (List.getElem_mem hio)
                  show ¬ (!(os[i]).isSome) = true
                  rw [this]
                  decide
                rw [this] at h
                cases h
            rw [hall, Bool.false_and, Bool.and_false]
          rw [this] at k
          exact k H2 (e1.trans e2)
        · have hall : os.all Option.isSome = true := by
            rw [List.all_eq_true]
            intro o hmo
            obtain ⟨i, hi⟩ := List.getElem?_of_mem hmo
            have hil : i < os.length := (List.getElem?_eq_some_iff.mp hi).1
            cases q : o.isSome with
            | true => rfl
            | false =>
              have : i ∈ (List.range xs.length).filter bad := by
                refine List.mem_filter.mpr ⟨List.mem_range.mpr (by omega), ?_⟩
                show (!(os.getD i none).isSome) = true
                rw [List.getD_eq_getElem?_getD, hi]
                show (!o.isSome) = true
                rw [q]
                rfl
              cases q2 : (List.range xs.length).filter bad with
              | nil => rw [q2] at this; cases this
              | cons z zs => rw [q2] at h; cases h
          obtain ⟨ns, rfl⟩ := all_some hall
          rw [List.length_map] at hol
          have hnode : ∀ (i : Nat) (n : Nd), ns[i]? = some n → ∃ p, xs[i]? = some (.ref p) ∧ H p = some (.tup [.str n.1, .int (n.2 : Int)]) := fun i n hn => by
            have hin : i < ns.length := (List.getElem?_eq_some_iff.mp hn).1
            obtain ⟨o, h1, h2⟩ := ho i xs[i] (List.getElem?_eq_getElem (by omega))
            rw [List.getElem?_map, hn] at h1
            cases h1
            rw [List.getElem?_eq_getElem (by omega)]
            cases hxi : xs[i] with
            | ref p =>
              rw [hxi] at h2
              cases h2 with
              | node h _ _ _ => exact ⟨p, rfl, h⟩
            | _ => rw [hxi] at h2; cases h2
          have hJ : rowJ (ns.map some) = lawF ns 1 [] := by
            unfold rowJ
            rw [hall, filterMap_some, List.length_map, decide_eq_true (by omega), Bool.true_and, Bool.true_and]
          rw [hJ] at k
          have e12 := e1.trans e2
          refine g_par (Ψ := fun vs H3 => ∃ d, vs = [.int 1, .ref d] ∧ H d = none ∧ H3 d = some (.dK [])) (evgs_cons (evg_i 1) fun v H3 e3 ⟨i, z, hi⟩ => fun H4 e4 Q4 q4 => evn_dnew H4 (Gx.refl _) _ fun d H5 e5 nd5 hd5 => q4 _ H5 e5 ⟨d, by rw [z, hi], ((e12.trans e3).trans e4).free nd5, hd5⟩) fun vs H3 e3 ⟨d, z, nd3, hd3⟩ => ⟨_, _, z, ?_⟩
          refine g_forR (R := fun k => k = (xs.length : Int)) (evgs_cons (evg_lenT (eq_tup (evg_ve rfl) (SqT.of ((e12.trans e3) _ _ ha)))) fun v H4 _ ⟨j, z, hj⟩ => evgs_nil fun _ _ => ⟨j, by rw [z], hj⟩) (fun k h => by omega)
            (fun i σ' H' => ∃ acc wn o1 o4, lawF ns 1 [] = lawF (ns.drop i) wn acc ∧ (acc.map (·.1)).Nodup ∧ acc.length ≤ i ∧ σ' = [some (.ref a), o1, some (.int wn), some (.ref d), o4] ∧ Gx H H' ∧ H' d = some (.dK (kvD acc))) (fun H4 e4 => ⟨[], 1, _, _, rfl, List.nodup_nil, Nat.le_refl _, rfl, (e12.trans e3).trans e4, e4 _ _ hd3⟩) ?_ ?_
          · rintro i σ' H4 ⟨kk, hkk, hi⟩ ⟨acc, wn, o1, o4, hlaw, hnd, hal, rfl, e4, hd4⟩
            have hin : i < ns.length := by omega
            obtain ⟨⟨wd, ar⟩, hq⟩ : ∃ q, ns[i]? = some q := ⟨ns[i], List.getElem?_eq_getElem hin⟩
            obtain ⟨p, hxp, hp⟩ := hnode i _ hq
            have hdrop : ns.drop i = (wd, ar) :: ns.drop (i + 1) := by
              rw [List.drop_eq_getElem_cons hin]
              congr 1
              exact (List.getElem?_eq_some_iff.mp hq).2
            rw [hdrop] at hlaw
            have hw0 : ∀ {σ : L2.St} {H5 : Hp}, σ[0]? = some (some (.ref a)) → σ[4]? = some (some (.int (i : Int))) → Gx H4 H5 → EvG (tOp (rIxT K) (tOp (rIxT K) (tVar 0) (tVar 4)) (tC (.int 0))) σ H5 (Eq1 (.str wd)) := fun h1 h2 e => evg_ixT (k := 0) (eq_tup (evg_ixT (eq_tup (evg_ve h1) (SqT.of ((e4.trans e) _ _ ha))) (evg_vi h2) hxp) (SqT.of ((e4.trans e) _ _ hp))) (evg_i 0) rfl
            have hw1 : ∀ {σ : L2.St} {H5 : Hp}, σ[0]? = some (some (.ref a)) → σ[4]? = some (some (.int (i : Int))) → Gx H4 H5 → EvG (tOp (rIxT K) (tOp (rIxT K) (tVar 0) (tVar 4)) (tC (.int 1))) σ H5 (Eq1 (.int (ar : Int))) := fun h1 h2 e => evg_ixT (k := 1) (eq_tup (evg_ixT (eq_tup (evg_ve h1) (SqT.of ((e4.trans e) _ _ ha))) (evg_vi h2) hxp) (SqT.of ((e4.trans e) _ _ hp))) (evg_i 1) rfl
            refine g_when (R := fun c => c = (decide (wn < 1) || !decide ((((acc.lookup wd).getD ar : Nat) : Int) = (ar : Int)))) (evb_or (evb_test (evg_cmp1 (f := fun i j => decide (i < j)) (evg_vi rfl) (evg_i 1))) (fun _ H5 e5 => evb_test (evg_neI (evg_dget2 (evg_ve rfl) (hw0 rfl rfl e5) (hw1 rfl rfl e5) (e5 _ _ hd4)) (int_e (hw1 rfl rfl e5))))) (fun h H5 e5 => ?_) (fun h H5 e5 => ?_)
            · have : lawF ns 1 [] = false := by
                rw [hlaw]
                show (if _ then _ else _) = false
                rw [if_pos]
                by_cases hc : wn < 1
                · exact .inl hc
                · refine .inr fun z => ?_
                  rw [decide_eq_false hc, z, decide_eq_true rfl] at h
                  cases h
              rw [this] at k
              exact k H5 (e4.trans e5)
            · have hc : ¬ wn < 1 := fun z => by
                rw [decide_eq_true z] at h
                cases h
              have hg : (acc.lookup wd).getD ar = ar := by
                by_cases z : ((acc.lookup wd).getD ar : Int) = (ar : Int)
                · omega
                · rw [decide_eq_false hc, decide_eq_false z] at h
                  cases h
              have hlaw2 : lawF ns 1 [] = lawF (ns.drop (i + 1)) (wn + ar - 1) (if (acc.lookup wd).isSome then acc else acc ++ [(wd, ar)]) := by
                rw [hlaw]
                show (if _ then _ else _) = _
                rw [if_neg]
                rintro (z | z)
                · exact hc z
                · exact z hg
              obtain ⟨hput, hnd2⟩ := put_step hnd hg
              have hal2 : (if (acc.lookup wd).isSome then acc else acc ++ [(wd, ar)]).length ≤ i + 1 := by
                split
                · omega
                · rw [List.length_append]
                  show _ + 1 ≤ _
                  omega
              refine g_dputS (hw1 rfl rfl e5) (evg_ve rfl) (hw0 rfl rfl e5) (e5 _ _ hd4) (by omega) fun H6 e6 => ?_
              rw [hput]
              have hpd : p ≠ d := fun z => by rw [z, nd3] at hp; cases hp
              have had : a ≠ d := fun z => by rw [z, nd3] at ha; cases ha
              have e7 : Gx H (upd H6 d (.dK (kvD (if (acc.lookup wd).isSome then acc else acc ++ [(wd, ar)])))) := ((e4.trans e5).trans e6).mut nd3
              refine g_asg1 (i := 2) (Φ := Eq1 (.int (wn + ar - 1))) (e_int (evg_sub1 (evg_add1 (evg_vi rfl) (int_e (evg_ixT (k := 1) (eq_tup (evg_ixT (eq_tup (evg_ve rfl) (SqT.of (e7 _ _ ha))) (evg_vi rfl) hxp) (SqT.of (e7 _ _ hp))) (evg_i 1) rfl))) (evg_i 1))) fun v H7 e8 z => ?_
              rw [show v = _ from z]
              exact ⟨_, _, _, _, hlaw2, hnd2, hal2, rfl, e7.trans e8, e8 _ _ upd_same⟩
          · rintro i σ' H4 hi ⟨acc, wn, o1, o4, hlaw, hnd, hal, rfl, e4, hd4⟩
            have hi : i = ns.length := by omega
            rw [hi, List.drop_length] at hlaw
            have hlaw : lawF ns 1 [] = decide (wn = 0) := hlaw
            rw [hlaw] at k
            refine g_ret (Φ := BlE (decide (wn = 0))) (evg_eqI (evg_vi rfl) (evg_i 0)) fun v H5 e5 ⟨c, z, hc⟩ => ?_
            rw [z, hc]
            exact k H5 (e4.trans e5)
end
end K07

set_option Elab.async false
set_option maxRecDepth 100000
set_option maxHeartbeats 1000000
namespace K07
open PySem L2 Ly TM
section
variable {P : Program} {w : World} {K : PySem.W.Frag} {mg : Str → Option Value} {base : Heap} {C CN CI : Addr}
abbrev s_is_made : Stmt := top 52
abbrev nm_is_made : List Str := ["_law_value"]
abbrev ps_is_made : List Str := ["_law_value"]
theorem sc_is_made : FnScope nm_is_made ps_is_made (defScope s_is_made) := ⟨rfl, rfl, rfl, by decide +kernel, rfl, by decide +kernel, by decide +kernel⟩
theorem ok_is_made {f : Addr} {fd : FuncData} (F : Fun K "_law_is_made" "_law_is_made" s_is_made f fd) (T : Txt K mg) (TC : TermC K mg C CN CI) (x_inv : PySem.W.exmOne K (.ref CI) (.ref CI) = some true) (M_Term : CalC P w K mg base (L2.CX P w) "Term" C 5 ps_Term_init (spInit K C CN CI)) (M_len : CalM P w K mg base CX0 C "__len__" 1 ps_Term_len (spLen K C)) :
    FnOk P w K mg base CX0 7 f fd ps_is_made (spTree K) := by
  have nd := sc_is_made.nd
  refine F.ok sc_is_made (fun vs H Q E h => ?_) (fun cdv A outer s H vs Q E hr h => ?_)
  · obtain ⟨_, _, rfl, _⟩ := h
    rfl
  · obtain ⟨v, b, rfl, hv, k⟩ := h
    refine ⟨_, (pss_one (ps_try_only rfl rfl ⟨rfl, rfl, Or.inl TC.inv.g⟩ takes0 (fun W pn xe tk po => (pss_one (ps_ret (pe_cmpR op_eq (pe_callB (call_lenO M_len (hr.mono (by decide)) pass0) (by rfl) T.z_len (by decide +kernel) (pa_cons (pe_mkc M_Term (hr.mono (by first | decide | omega)) rfl (passes_call (E := fun cls d H => ∀ σ, W cls d σ H) tk fun _ _ σ _ h => h σ) (pa_cons (pv 0) pa_nil)) pa_nil)) (pe_callB (kcall_len (K := K)) (by rfl) T.z_len (by decide +kernel) (pa_cons (pv 0) pa_nil)) (nomark _))))) (fun a oe cls d pn _ _ => (pss_one (ps_ret pe_bl))))), ?_⟩
    cases b with
    | true =>
      obtain ⟨a, t, rfl, hrow, hg⟩ := hv.good rfl
      obtain ⟨xs, hx, hxl, _⟩ := id hrow
      have hsz : t.size ≤ 40 := hg.size
      refine g_ret (Φ := BlE true) (evg_is (evg_eqI (a := (t.size : Int)) (b := (xs.length : Int)) (fun H1 e1 Q1 q1 => ?_) (evg_lenT (eq_tup (evg_ve rfl) (SqT.of hx)))) ?_) fun v H1 e ⟨c, z, hc⟩ => by rw [z, hc]; exact k H1 e
      · show tMake C (spInit K C CN CI) [] _ (tCons (tVar 0) tNil) _ H1 (fun v H => rLenO C (spLen K C) E0 [v] H Q1)
        refine mk_use (Ψ := Eq1 (.ref a)) (evg_ve rfl) ?_
        rintro u H2 e2 z y dy hy hdy hne
        rw [show u = .ref a from z]
        refine ⟨y, dy, .ref a, some t, rfl, upd_same, .row (hrow.gx ((e1.trans e2).trans (gx_made hy hdy))) hg, fun u z H4 e4 ht => ⟨rfl, ?_⟩, fun z => by cases z⟩
        cases z
        obtain ⟨⟨dx, n, c, e, s, u, l, h1, _⟩, _⟩ := id ht
        refine ⟨y, dx, _, rfl, h1, y, t, rfl, ht, fun H5 e5 => ⟨_, rfl, by omega, by omega, q1 _ H5 ((e2.trans (Gxa.made hy hdy e4)).trans e5) ⟨_, rfl, rfl⟩⟩⟩
      · rw [hxl]
        exact decide_eq_true rfl
    | false =>
      obtain ⟨hr1, kd, hk, hkd⟩ := hv.none rfl
      refine g_ret (Φ := fun _ _ => False) (fun H1 e1 Q1 q1 => ?_) fun v H1 e z => z.elim
      show tMake C (spInit K C CN CI) [] _ (tCons (tVar 0) tNil) _ H1 (fun u H => rLenO C (spLen K C) E0 [u] H fun x H2 => tCB (rLenK K) (tCons (tVar 0) tNil) (L2.start nm_is_made [v]) H2 fun y H3 => rEq x y H3 Q1)
      refine mk_use (Ψ := Eq1 v) (evg_ve rfl) ?_
      rintro u H2 e2 z y dy hy hdy hne
      rw [show u = v from z]
      have e3 := (e1.trans e2).trans (gx_made (C := C) hy hdy)
      refine ⟨y, dy, v, none, rfl, upd_same, .none (hr1.gx e3) (hk.gx e3) hkd, (fun t z => by cases z), fun _ H4 e4 σ => ⟨true, x_inv, fun _ a ha => ?_, fun z => by cases z⟩⟩
      exact k H4 ((e1.trans e2).trans (Gxa.made hy hdy e4))
end
end K07

set_option Elab.async false
set_option maxRecDepth 100000
set_option maxHeartbeats 1000000
namespace K07
open PySem L2 Ly TM
section
variable {P : Program} {w : World} {K : PySem.W.Frag} {mg : Str → Option Value} {base : Heap} {C CN CI : Addr}
abbrev s_is_built : Stmt := top 53
abbrev nm_is_built : List Str := ["_law_word", "_law_args", "_law_rows"]
abbrev ps_is_built : List Str := ["_law_word", "_law_args"]
theorem sc_is_built : FnScope nm_is_built ps_is_built (defScope s_is_built) := ⟨rfl, rfl, rfl, by decide +kernel, rfl, by decide +kernel, by decide +kernel⟩
def spBuilt (K : PySem.W.Frag) (C : Addr) : Sp := fun vs H Q _ => ∃ (x : V) (l : Addr) (xs : List V) (o : Option Tr), vs = [x, .ref l] ∧ H l = some (.lst xs) ∧ xs.length ≤ 4 ∧ BuildIn K C H x xs o ∧ ∀ H', Gx H H' → Q (.bl o.isSome) H'
theorem ok_is_built {f : Addr} {fd : FuncData} (F : Fun K "_law_is_built" "_law_is_built" s_is_built f fd) (T : Txt K mg) (TC : TermC K mg C CN CI) (x_inv : PySem.W.exmOne K (.ref CI) (.ref CI) = some true) (K_Term_build : CalK P w K mg base (L2.CX P w) C "build" 7 (spBuild K C CI)) :
    FnOk P w K mg base CX0 8 f fd ps_is_built (spBuilt K C) := by
  have nd := sc_is_built.nd
  refine F.ok sc_is_built (fun vs H Q E h => ?_) (fun cdv A outer s H vs Q E hr h => ?_)
  · obtain ⟨_, _, _, _, rfl, _⟩ := h
    rfl
  · obtain ⟨x, l, xs, o, rfl, hl, hx4, hb, k⟩ := h
    refine ⟨_, (pss_cons (ps_set (i := 2) nd rfl (Or.inl rfl) (pe_op op_cat (pe_callTy (kcall_list (K := K)) (by rfl) T.z_list (by decide +kernel) (pa_cons (pv 1) pa_nil)) (pe_lst (pa_cons pe_non (pa_cons pe_non (pa_cons pe_non (pa_cons pe_non pa_nil)))))))
      (pss_one (ps_try_only rfl rfl ⟨rfl, rfl, Or.inl TC.inv.g⟩ takes0 (fun W pn xe tk po => (pss_cons (ps_if (pt_cmpR op_eq (pe_callB (kcall_len (K := K)) (by rfl) T.z_len (by decide +kernel) (pa_cons (pv 1) pa_nil)) pe_int (nomark _)) (pss_one (ps_ret (pe_cmpR op_notN (pe_cmt (pe_gref rfl TC.gT) K_Term_build (hr.mono (by first | decide | omega)) (passes_call (E := fun cls d H => ∀ σ, W cls d σ H) tk fun _ _ σ _ h => h σ) (pa_cons (pv 0) pa_nil)) pe_non (nomark _)))) pss_nil)
      (pss_cons (ps_if (pt_cmpR op_eq (pe_callB (kcall_len (K := K)) (by rfl) T.z_len (by decide +kernel) (pa_cons (pv 1) pa_nil)) pe_int (nomark _)) (pss_one (ps_ret (pe_cmpR op_notN (pe_cmt (pe_gref rfl TC.gT) K_Term_build (hr.mono (by first | decide | omega)) (passes_call (E := fun cls d H => ∀ σ, W cls d σ H) tk fun _ _ σ _ h => h σ) (pa_cons (pv 0) (pa_cons (pe_ix (kix_list (K := K)) (pv 2) pe_int (fun _ _ => rfl)) pa_nil))) pe_non (nomark _)))) pss_nil)
      (pss_cons (ps_if (pt_cmpR op_eq (pe_callB (kcall_len (K := K)) (by rfl) T.z_len (by decide +kernel) (pa_cons (pv 1) pa_nil)) pe_int (nomark _)) (pss_one (ps_ret (pe_cmpR op_notN (pe_cmt (pe_gref rfl TC.gT) K_Term_build (hr.mono (by first | decide | omega)) (passes_call (E := fun cls d H => ∀ σ, W cls d σ H) tk fun _ _ σ _ h => h σ) (pa_cons (pv 0) (pa_cons (pe_ix (kix_list (K := K)) (pv 2) pe_int (fun _ _ => rfl)) (pa_cons (pe_ix (kix_list (K := K)) (pv 2) pe_int (fun _ _ => rfl)) pa_nil)))) pe_non (nomark _)))) pss_nil)
      (pss_cons (ps_if (pt_cmpR op_eq (pe_callB (kcall_len (K := K)) (by rfl) T.z_len (by decide +kernel) (pa_cons (pv 1) pa_nil)) pe_int (nomark _)) (pss_one (ps_ret (pe_cmpR op_notN (pe_cmt (pe_gref rfl TC.gT) K_Term_build (hr.mono (by first | decide | omega)) (passes_call (E := fun cls d H => ∀ σ, W cls d σ H) tk fun _ _ σ _ h => h σ) (pa_cons (pv 0) (pa_cons (pe_ix (kix_list (K := K)) (pv 2) pe_int (fun _ _ => rfl)) (pa_cons (pe_ix (kix_list (K := K)) (pv 2) pe_int (fun _ _ => rfl)) (pa_cons (pe_ix (kix_list (K := K)) (pv 2) pe_int (fun _ _ => rfl)) pa_nil))))) pe_non (nomark _)))) pss_nil)
      (pss_one (ps_ret (pe_cmpR op_notN (pe_cmt (pe_gref rfl TC.gT) K_Term_build (hr.mono (by first | decide | omega)) (passes_call (E := fun cls d H => ∀ σ, W cls d σ H) tk fun _ _ σ _ h => h σ) (pa_cons (pv 0) (pa_cons (pe_ix (kix_list (K := K)) (pv 2) pe_int (fun _ _ => rfl)) (pa_cons (pe_ix (kix_list (K := K)) (pv 2) pe_int (fun _ _ => rfl)) (pa_cons (pe_ix (kix_list (K := K)) (pv 2) pe_int (fun _ _ => rfl)) (pa_cons (pe_ix (kix_list (K := K)) (pv 2) pe_int (fun _ _ => rfl)) pa_nil)))))) pe_non (nomark _))))))))) (fun a oe cls d pn _ _ => (pss_one (ps_ret pe_bl)))))), ?_⟩
    have fin : ∀ {t : TA} {E' : XK} {σ : L2.St} {H1 : Hp} {D : Ends}, Gx H H1 → EvGs t σ H1 (fun vs _ => vs = x :: xs) → (∀ H', Gx H H' → o = none → E' (.ref CI) none H') → D.rt = Q → tRet (tOp (fun x y H Q => y = .non ∧ Q (.bl (!decide (x = .non))) H) (ClX.tCMeth C (spBuild K C CI) E' (tC (.ref C)) t) (tC .non)) D σ H1 := fun {t E' σ H1 D} e1 ht he hD => by
      refine ⟨rfl, ht H1 (Gx.refl _) _ fun vs H2 e2 z => ?_⟩
      rw [show vs = x :: xs from z]
      refine ⟨x, xs, o, rfl, by omega, hb.gx (e1.trans e2), fun t ht q H' e hq hterm => ⟨rfl, ?_⟩, fun ho H' e => he H' ((e1.trans e2).trans e) ho⟩
      rw [ht] at k
      rw [hD]
      have : (!decide (V.ref q = V.non)) = true := by simp
      rw [this]
      exact k H' ((e1.trans e2).trans e)
    refine g_asgN (evn_catE (newl_e (evn_listL (K := K) (eq_lst (evg_ve rfl) (SqL.of hl)))) (newl_e (evn_lstE (xs := [.non, .non, .non, .non]) (evgs_ec evg_e (evgs_ec evg_e (evgs_ec evg_e (evgs_ec evg_e evgs_en)))) (by decide))) (by show xs.length + 4 ≤ 100000; omega)) fun r H1 e1 nr hr2 => ?_
    rcases xs with _ | ⟨a0, _ | ⟨a1, _ | ⟨a2, _ | ⟨a3, _ | ⟨a4, r5⟩⟩⟩⟩⟩
    · have e2 := Gx.refl H1
      refine g_when (R := fun c => c = true) (evb_test (evg_is (evg_eqI (evg_lenL (eq_lst (evg_ve rfl) (SqL.of ((e1.trans e2) _ _ hl)))) (evg_i 0)) rfl)) (fun _ H2 f2 => ?_) (fun h => by cases h)
      have e2 := e2.trans f2
      exact fin (e1.trans e2) (evgs_ec (evg_ve rfl) evgs_en) (fun H' e ho σ => ⟨true, x_inv, fun _ _ _ => by rw [ho] at k; exact k H' e, fun z => by cases z⟩) rfl
    · have e2 := Gx.refl H1
      refine g_when (R := fun c => c = false) (evb_test (evg_is (evg_eqI (evg_lenL (eq_lst (evg_ve rfl) (SqL.of ((e1.trans e2) _ _ hl)))) (evg_i 0)) rfl)) (fun h => by cases h) (fun _ H2 f2 => ?_)
      have e2 := e2.trans f2
      clear f2
      refine g_when (R := fun c => c = true) (evb_test (evg_is (evg_eqI (evg_lenL (eq_lst (evg_ve rfl) (SqL.of ((e1.trans e2) _ _ hl)))) (evg_i 1)) rfl)) (fun _ H2 f2 => ?_) (fun h => by cases h)
      have e2 := e2.trans f2
      exact fin (e1.trans e2) (evgs_ec (evg_ve rfl) (evgs_ec (evg_ixL (k := 0) (eq_lst (evg_ve rfl) (SqL.of (e2 _ _ hr2))) (evg_i 0) rfl) evgs_en)) (fun H' e ho σ => ⟨true, x_inv, fun _ _ _ => by rw [ho] at k; exact k H' e, fun z => by cases z⟩) rfl
    · have e2 := Gx.refl H1
      refine g_when (R := fun c => c = false) (evb_test (evg_is (evg_eqI (evg_lenL (eq_lst (evg_ve rfl) (SqL.of ((e1.trans e2) _ _ hl)))) (evg_i 0)) rfl)) (fun h => by cases h) (fun _ H2 f2 => ?_)
      have e2 := e2.trans f2
      clear f2
      refine g_when (R := fun c => c = false) (evb_test (evg_is (evg_eqI (evg_lenL (eq_lst (evg_ve rfl) (SqL.of ((e1.trans e2) _ _ hl)))) (evg_i 1)) rfl)) (fun h => by cases h) (fun _ H2 f2 => ?_)
      have e2 := e2.trans f2
      clear f2
      refine g_when (R := fun c => c = true) (evb_test (evg_is (evg_eqI (evg_lenL (eq_lst (evg_ve rfl) (SqL.of ((e1.trans e2) _ _ hl)))) (evg_i 2)) rfl)) (fun _ H2 f2 => ?_) (fun h => by cases h)
      have e2 := e2.trans f2
      exact fin (e1.trans e2) (evgs_ec (evg_ve rfl) (evgs_ec (evg_ixL (k := 0) (eq_lst (evg_ve rfl) (SqL.of (e2 _ _ hr2))) (evg_i 0) rfl) (evgs_ec (evg_ixL (k := 1) (eq_lst (evg_ve rfl) (SqL.of (e2 _ _ hr2))) (evg_i 1) rfl) evgs_en))) (fun H' e ho σ => ⟨true, x_inv, fun _ _ _ => by rw [ho] at k; exact k H' e, fun z => by cases z⟩) rfl
    · have e2 := Gx.refl H1
      refine g_when (R := fun c => c = false) (evb_test (evg_is (evg_eqI (evg_lenL (eq_lst (evg_ve rfl) (SqL.of ((e1.trans e2) _ _ hl)))) (evg_i 0)) rfl)) (fun h => by cases h) (fun _ H2 f2 => ?_)
      have e2 := e2.trans f2
      clear f2
      refine g_when (R := fun c => c = false) (evb_test (evg_is (evg_eqI (evg_lenL (eq_lst (evg_ve rfl) (SqL.of ((e1.trans e2) _ _ hl)))) (evg_i 1)) rfl)) (fun h => by cases h) (fun _ H2 f2 => ?_)
      have e2 := e2.trans f2
      clear f2
      refine g_when (R := fun c => c = false) (evb_test (evg_is (evg_eqI (evg_lenL (eq_lst (evg_ve rfl) (SqL.of ((e1.trans e2) _ _ hl)))) (evg_i 2)) rfl)) (fun h => by cases h) (fun _ H2 f2 => ?_)
      have e2 := e2.trans f2
      clear f2
      refine g_when (R := fun c => c = true) (evb_test (evg_is (evg_eqI (evg_lenL (eq_lst (evg_ve rfl) (SqL.of ((e1.trans e2) _ _ hl)))) (evg_i 3)) rfl)) (fun _ H2 f2 => ?_) (fun h => by cases h)
      have e2 := e2.trans f2
      exact fin (e1.trans e2) (evgs_ec (evg_ve rfl) (evgs_ec (evg_ixL (k := 0) (eq_lst (evg_ve rfl) (SqL.of (e2 _ _ hr2))) (evg_i 0) rfl) (evgs_ec (evg_ixL (k := 1) (eq_lst (evg_ve rfl) (SqL.of (e2 _ _ hr2))) (evg_i 1) rfl) (evgs_ec (evg_ixL (k := 2) (eq_lst (evg_ve rfl) (SqL.of (e2 _ _ hr2))) (evg_i 2) rfl) evgs_en)))) (fun H' e ho σ => ⟨true, x_inv, fun _ _ _ => by rw [ho] at k; exact k H' e, fun z => by cases z⟩) rfl
    · have e2 := Gx.refl H1
      refine g_when (R := fun c => c = false) (evb_test (evg_is (evg_eqI (evg_lenL (eq_lst (evg_ve rfl) (SqL.of ((e1.trans e2) _ _ hl)))) (evg_i 0)) rfl)) (fun h => by cases h) (fun _ H2 f2 => ?_)
      have e2 := e2.trans f2
      clear f2
      refine g_when (R := fun c => c = false) (evb_test (evg_is (evg_eqI (evg_lenL (eq_lst (evg_ve rfl) (SqL.of ((e1.trans e2) _ _ hl)))) (evg_i 1)) rfl)) (fun h => by cases h) (fun _ H2 f2 => ?_)
      have e2 := e2.trans f2
      clear f2
      refine g_when (R := fun c => c = false) (evb_test (evg_is (evg_eqI (evg_lenL (eq_lst (evg_ve rfl) (SqL.of ((e1.trans e2) _ _ hl)))) (evg_i 2)) rfl)) (fun h => by cases h) (fun _ H2 f2 => ?_)
      have e2 := e2.trans f2
      clear f2
      refine g_when (R := fun c => c = false) (evb_test (evg_is (evg_eqI (evg_lenL (eq_lst (evg_ve rfl) (SqL.of ((e1.trans e2) _ _ hl)))) (evg_i 3)) rfl)) (fun h => by cases h) (fun _ H2 f2 => ?_)
      have e2 := e2.trans f2
      clear f2
      exact fin (e1.trans e2) (evgs_ec (evg_ve rfl) (evgs_ec (evg_ixL (k := 0) (eq_lst (evg_ve rfl) (SqL.of (e2 _ _ hr2))) (evg_i 0) rfl) (evgs_ec (evg_ixL (k := 1) (eq_lst (evg_ve rfl) (SqL.of (e2 _ _ hr2))) (evg_i 1) rfl) (evgs_ec (evg_ixL (k := 2) (eq_lst (evg_ve rfl) (SqL.of (e2 _ _ hr2))) (evg_i 2) rfl) (evgs_ec (evg_ixL (k := 3) (eq_lst (evg_ve rfl) (SqL.of (e2 _ _ hr2))) (evg_i 3) rfl) evgs_en))))) (fun H' e ho σ => ⟨true, x_inv, fun _ _ _ => by rw [ho] at k; exact k H' e, fun z => by cases z⟩) rfl
    · exact absurd hx4 (by simp)
end
end K07

set_option Elab.async false
set_option maxRecDepth 100000
set_option maxHeartbeats 1000000
namespace K07
open PySem L2 Ly TM
section
variable {P : Program} {w : World} {K : PySem.W.Frag} {mg : Str → Option Value} {base : Heap} {C CN CI : Addr}
abbrev s_bent : Stmt := top 51
abbrev nm_bent : List Str := ["_law_dice_here", "_law_nodes_here", "_law_found", "_law_at", "_law_odd", "_law_one", "_law_way"]
abbrev ps_bent : List Str := ["_law_dice_here", "_law_nodes_here"]
theorem sc_bent : FnScope nm_bent ps_bent (defScope s_bent) := ⟨rfl, rfl, rfl, by decide +kernel, rfl, by decide +kernel, by decide +kernel⟩
def spBent : Sp := fun vs H Q _ => ∃ (c l : Addr) (xs : List V), vs = [.ref c, .ref l] ∧ H c = some (diceO c) ∧ H l = some (.lst xs) ∧ xs.length ≤ 500 ∧ (∀ x ∈ xs, ∃ o, Item H x o) ∧
  ∀ r ys H', Gx H H' → H r = none → H' r = some (.lst ys) → ys.length ≤ 2 * xs.length + 1 → (∀ y ∈ ys, ∃ o, Item H' y o) → Q (.ref r) H'
/-- an item that is new, seen from H0 -/
def NewI (H0 : Hp) : Ty := fun v H => ∃ o, Item H v o ∧ ∀ p, v = .ref p → H0 p = none
theorem NewI.mono {H0 : Hp} : Mono (NewI H0) := fun _ _ _ e ⟨o, h1, h2⟩ => ⟨o, h1.gx e, h2⟩
theorem item_ref {H : Hp} {p : Addr} {o : Option Nd} (h : Item H (.ref p) o) : H p ≠ none := by
  cases h with
  | node h _ _ _ => rw [h]; simp
  | bad h _ _ _ => rw [h]; simp
  | lst h => rw [h]; simp
  | one h => rw [h]; simp
theorem new_pair {σ : L2.St} {H0 H : Hp} {w : Str} {n : Nat} (e : Gx H0 H) (hw : V.str w ∈ wordsV) (hn : n ≤ 4) : EvG (tTup (tCons (tC (.str w)) (tCons (tC (.int (n : Int))) tNil))) σ H (NewI H0) :=
  EvN.g (Φ := fun p H1 => H1 p = some (.tup [.str w, .int (n : Int)])) (evn_tup (Ψ := fun vs _ => vs = [.str w, .int (n : Int)]) (evgs_ec evg_e (evgs_ec evg_e evgs_en)) (fun vs _ z => by rw [z]; show 2 ≤ 100000; decide) fun vs p _ H2 _ z _ _ hp => by rw [z] at hp; exact hp) fun p H1 H2 e1 n1 _ h => ⟨_, (by
    cases q : leafV (.str w) n with
    | true => exact Item.node h hw hn q
    | false => exact .bad h hw hn q : Item H2 (.ref p) (if leafV (.str w) n = true then some (w, n) else none)) |> fun z => z, fun q hq => by cases hq; exact (e.trans e1).free n1⟩
theorem ok_bent {f : Addr} {fd : FuncData} (F : Fun K "_law_bent" "_law_bent" s_bent f fd) (T : Txt K mg) (C_roll : Cal P w K mg base "_law_roll" 1 ps_roll spRoll) (C_pick : Cal P w K mg base "_law_pick" 2 ps_pick (spPick K)) :
    FnOk P w K mg base CX0 3 f fd ps_bent spBent := by
  have nd := sc_bent.nd
  refine F.ok sc_bent (fun vs H Q E h => ?_) (fun cdv A outer s H vs Q E hr h => ?_)
  · obtain ⟨_, _, _, rfl, _⟩ := h
    rfl
  obtain ⟨c, l, xs, rfl, hc, hl, hxl, hx, k⟩ := h
  refine ⟨_, (pss_cons (ps_par (i := 2) (j := 3) (by rfl) nd rfl rfl (by decide) rfl rfl (pa_cons (pe_callTy (kcall_list (K := K)) (by rfl) T.z_list (by decide +kernel) (pa_cons (pv 1) pa_nil)) (pa_cons (pe_cal C_roll (hr.mono (by first | decide | omega)) rfl (pa_cons (pv 0) (pa_cons (pe_op op_add (pe_callB (kcall_len (K := K)) (by rfl) T.z_len (by decide +kernel) (pa_cons (pv 1) pa_nil)) pe_int) pa_nil))) pa_nil)) (by rfl))
      (pss_cons (ps_set (i := 4) nd rfl (Or.inl rfl) (pe_lst (pa_cons (pe_tup (pa_cons pe_str (pa_cons pe_int pa_nil))) (pa_cons (pe_tup (pa_cons pe_str (pa_cons pe_int pa_nil))) (pa_cons (pe_tup (pa_cons pe_str (pa_cons pe_int pa_nil))) (pa_cons (pe_tup (pa_cons pe_str (pa_cons pe_int pa_nil))) (pa_cons (pe_tup (pa_cons pe_str (pa_cons pe_int pa_nil))) (pa_cons (pe_tup (pa_cons pe_str (pa_cons pe_int pa_nil))) (pa_cons (pe_tup (pa_cons pe_str (pa_cons pe_int pa_nil))) (pa_cons (pe_tup (pa_cons pe_str (pa_cons pe_int pa_nil))) (pa_cons (pe_tup (pa_cons pe_str (pa_cons pe_int pa_nil))) (pa_cons (pe_lst (pa_cons pe_str (pa_cons pe_int pa_nil))) (pa_cons pe_non (pa_cons (pe_tup (pa_cons pe_str pa_nil)) pa_nil))))))))))))))
      (pss_cons (ps_par (i := 5) (j := 6) (by rfl) nd rfl rfl (by decide) rfl rfl (pa_cons (pe_cal C_pick (hr.mono (by first | decide | omega)) rfl (pa_cons (pv 0) (pa_cons (pv 4) pa_nil))) (pa_cons (pe_cal C_roll (hr.mono (by first | decide | omega)) rfl (pa_cons (pv 0) (pa_cons pe_int pa_nil))) pa_nil)) (by rfl))
      (Evl.pss_cut (ps_if (pt_cmpR op_eq (pv 6) pe_int (nomark _)) (pss_one (ps_expr (kpe_bm (K := K) PySem.F.plainAttrs_list PySem.F.slot_list_insert PySem.F.type_list_insert mt_insert (pv 2) (pa_cons (pv 3) (pa_cons (pv 5) pa_nil))))) (pss_one (ps_if (PW.pt (pw_and (pt_cmpR op_eq (pv 6) pe_int (nomark _)) (pw_and1 (pt_cmpR (kop_neD (K := K) hr.units) (pv 2) (pe_lst pa_nil) (nomark _))))) (pss_one (ps_expr (kpe_bm (K := K) PySem.F.plainAttrs_list PySem.F.slot_list_pop PySem.F.type_list_pop mt_popAt (pv 2) (pa_cons (pe_op op_mod (pv 3) (pe_callB (kcall_len (K := K)) (by rfl) T.z_len (by decide +kernel) (pa_cons (pv 2) pa_nil))) pa_nil)))) (pss_one (ps_if (PW.pt (pw_and (pt_cmpR op_eq (pv 6) pe_int (nomark _)) (pw_and1 (pt_cmpR (kop_neD (K := K) hr.units) (pv 2) (pe_lst pa_nil) (nomark _))))) (pss_one (ps_asg (pv 5) (pg_sub (pv 2) (pe_op op_mod (pv 3) (pe_callB (kcall_len (K := K)) (by rfl) T.z_len (by decide +kernel) (pa_cons (pv 2) pa_nil))) set_list))) (pss_one (ps_set (i := 2) nd rfl (Or.inl rfl) (pe_op op_cat (pv 2) (pe_slice (ksl_list (K := K)) (pv 2) (po_some (pv 3)) po_none)))))))))
      (pss_one (ps_ret (pv 2))))))), ?_⟩
  refine g_par (Ψ := fun vs H1 => ∃ r at_, vs = [.ref r, .int ((at_ : Nat) : Int)] ∧ H r = none ∧ H1 r = some (.lst xs) ∧ at_ ≤ xs.length) (fun H1 e1 Q1 q1 => evn_listL (K := K) (eq_lst (evg_ve rfl) (SqL.of hl)) H1 e1 _ fun r H2 e2 nr hr2 => ?_) fun vs H1 e1 ⟨r, at_, z, nr, hr1, hat⟩ => ⟨_, _, z, ?_⟩
  · refine evg_roll (Φ := fun v _ => ∃ j : Nat, v = .int (j : Int) ∧ j ≤ xs.length) (evg_dice rfl ((e1.trans e2) _ _ hc)) (evg_add1 (evg_lenL (eq_lst (evg_ve rfl) (SqL.of ((e1.trans e2) _ _ hl)))) (evg_i 1)) (fun i h => by omega) (fun j i hi h0 h1 _ _ => ⟨j.toNat, by rw [show ((j.toNat : Nat) : Int) = j by omega], by omega⟩) H2 (Gx.refl _) _ fun v H3 e3 ⟨j, z, hj⟩ => q1 _ H3 (e2.trans e3) ⟨r, j, by rw [z], e1.free nr, e3 _ _ hr2, hj⟩
  refine g_asg (Φ := LofT (NewI H1) 12) (evg_all NewI.mono (evgs_more NewI.mono (new_pair (Gx.refl H1) (by decide +kernel) (by decide)) fun G0 g0 => (evgs_more NewI.mono (new_pair ((Gx.refl H1).trans g0) (by decide +kernel) (by decide)) fun G1 g1 => (evgs_more NewI.mono (new_pair (((Gx.refl H1).trans g0).trans g1) (by decide +kernel) (by decide)) fun G2 g2 => (evgs_more NewI.mono (new_pair ((((Gx.refl H1).trans g0).trans g1).trans g2) (by decide +kernel) (by decide)) fun G3 g3 => (evgs_more NewI.mono (new_pair (((((Gx.refl H1).trans g0).trans g1).trans g2).trans g3) (by decide +kernel) (by decide)) fun G4 g4 => (evgs_more NewI.mono (new_pair ((((((Gx.refl H1).trans g0).trans g1).trans g2).trans g3).trans g4) (by decide +kernel) (by decide)) fun G5 g5 => (evgs_more NewI.mono (new_pair (((((((Gx.refl H1).trans g0).trans g1).trans g2).trans g3).trans g4).trans g5) (by decide +kernel) (by decide)) fun G6 g6 => (evgs_more NewI.mono (new_pair ((((((((Gx.refl H1).trans g0).trans g1).trans g2).trans g3).trans g4).trans g5).trans g6) (by decide +kernel) (by decide)) fun G7 g7 => (evgs_more NewI.mono (new_pair (((((((((Gx.refl H1).trans g0).trans g1).trans g2).trans g3).trans g4).trans g5).trans g6).trans g7) (by decide +kernel) (by decide)) fun G8 g8 => (evgs_more NewI.mono (EvN.g (Φ := fun p H1 => H1 p = some (.lst [.str "a", .int 0])) (evn_lst (Ψ := fun vs _ => vs = [.str "a", .int 0]) (evgs_ec evg_e (evgs_ec evg_e evgs_en)) (fun vs _ z => by rw [z]; decide) fun vs p _ H2 _ z _ _ hp => by rw [z] at hp; exact hp) fun p B1 B2 d1 m1 _ h => ⟨none, .lst h, fun q hq => by cases hq; exact (((((((((((Gx.refl H1).trans g0).trans g1).trans g2).trans g3).trans g4).trans g5).trans g6).trans g7).trans g8).trans d1).free m1⟩) fun G9 g9 => (evgs_more NewI.mono (evg_c fun _ _ => ⟨none, .non, fun p z => by cases z⟩) fun G10 g10 => (evgs_more NewI.mono (EvN.g (Φ := fun p H1 => H1 p = some (.tup [.str "a"])) (evn_tup (Ψ := fun vs _ => vs = [.str "a"]) (evgs_ec evg_e evgs_en) (fun vs _ z => by rw [z]; decide) fun vs p _ H2 _ z _ _ hp => by rw [z] at hp; exact hp) fun p B1 B2 d1 m1 _ h => ⟨none, .one h, fun q hq => by cases hq; exact (((((((((((((Gx.refl H1).trans g0).trans g1).trans g2).trans g3).trans g4).trans g5).trans g6).trans g7).trans g8).trans g9).trans g10).trans d1).free m1⟩) fun G11 g11 => evgs_none)))))))))))) (by decide)) ?_
  rintro _ H2 e2 ⟨q, rfl, hq⟩
  refine g_par (Ψ := fun vs H3 => ∃ y wy, vs = [y, .int wy] ∧ NewI H1 y H3) (evgs_cons (evg_pick (n := 12) (evg_dice rfl ((e1.trans e2) _ _ hc)) (evg_var rfl fun H3 e3 => ⟨q, rfl, hq.mono NewI.mono e3⟩) (by decide)) fun y H3 e3 hy => evgs_cons (evg_roll (Φ := IntT fun _ => True) (evg_dice rfl (((e1.trans e2).trans e3) _ _ hc)) (evg_i 4) (fun i h => by rw [h]; decide) fun j _ _ _ _ _ _ => ⟨j, rfl, trivial⟩) fun u H4 e4 ⟨wy, z, _⟩ => evgs_nil fun H5 e5 => ⟨y, wy, by rw [z], NewI.mono _ _ _ (e4.trans e5) hy⟩) fun vs H3 e3 ⟨y, wy, z, hy⟩ => ⟨_, _, z, ?_⟩
  have e13 := e2.trans e3
  have e03 := e1.trans e13
  have hr3 : H3 r = some (.lst xs) := e13 _ _ hr1
  have old : ∀ {H4 : Hp}, Gxa r H3 H4 → ∀ x ∈ xs, ∃ o, Item H4 x o := fun {H4} g x hxm => by
    obtain ⟨o, ho⟩ := hx x hxm
    refine ⟨o, (ho.gx e03).gxa g fun p hp z => ?_⟩
    subst hp z
    exact item_ref ho nr
  have new : ∀ {H4 : Hp}, Gxa r H3 H4 → ∃ o, Item H4 y o := fun {H4} g => by
    obtain ⟨o, ho, hn⟩ := hy
    refine ⟨o, ho.gxa g fun p hp z => ?_⟩
    subst z
    rw [hn p hp] at hr1
    cases hr1
  have hnn : ∀ {σ : L2.St} {H4 : Hp}, σ[2]? = some (some (.ref r)) → Gx H3 H4 → EvB (tTest (tOp (rNeD K) (tVar 2) (tLst tNil))) σ H4 (fun b => b = !xs.isEmpty) := fun {σ H4} hσ e4 => evb_test (fun H5 e5 Q5 q5 => by
    obtain ⟨ds, h1, h2, h3, h4⟩ := items_dat (K := K) (H := H5) (ys := xs) (old fun b o _ h => (e4.trans e5) _ _ h)
    refine ⟨_, hσ, by decide, fun q hq => ⟨.list ds, .list [], .lst (SqL.of ((Gx.new hq) _ _ ((e4.trans e5) _ _ hr3))) (DpAll.gx (Gx.new hq) h1), .lst (SqL.of upd_same) .nil, list_shaped h3 h4, by decide, q5 _ _ (Gx.new hq) ⟨_, rfl, ?_⟩⟩⟩
    rw [eqv_nil]
    congr 1
    cases xs with
    | nil => rw [List.eq_nil_of_length_eq_zero h2]; rfl
    | cons x xs =>
      cases ds with
      | nil => cases h2
      | cons d ds => rfl)
  refine ⟨fun σ' H' => ∃ r ys o3 o4 o5 o6, σ' = [some (.ref c), some (.ref l), some (.ref r), o3, o4, o5, o6] ∧ H r = none ∧ Gx H H' ∧ H' r = some (.lst ys) ∧ ys.length ≤ 2 * xs.length + 1 ∧ ∀ y ∈ ys, ∃ o, Item H' y o, ?_, ?_⟩
  · refine g_if1 (R := fun b => b = decide (wy = 0)) (evb_test (evg_eqI (evg_vi rfl) (evg_i 0))) (fun _ H4 e4 => ?_) (fun _ H4 e4 => ?_)
    · have hr4 := e4 _ _ hr3
      refine ⟨_, rfl, .inl ⟨rfl, _, SqL.of hr4⟩, _, rfl, _, rfl, r, xs, _, y, rfl, rfl, hr4, Evl.sz_lt (by omega), by omega, by omega, ?_⟩
      have g : Gxa r H3 (upd H4 r (.lst (xs.take (at_ : Int).toNat ++ [y] ++ xs.drop (at_ : Int).toNat))) := fun b o n h => by rw [upd_ne n]; exact e4 _ _ h
      refine ⟨r, _, _, _, _, _, rfl, nr, (e03.trans e4).mut nr, upd_same, ?_, fun x hxm => ?_⟩
      · rw [List.length_append, List.length_append, List.length_take, List.length_drop]
        show _ + 1 + _ ≤ _
        omega
      · rcases List.mem_append.mp hxm with hxm | hxm
        · rcases List.mem_append.mp hxm with hxm | hxm
          · exact old g x (List.mem_of_mem_take hxm)
          · have : x = y := by simpa using hxm
            rw [this]
            exact new g
        · exact old g x (List.mem_of_mem_drop hxm)
    have hmod : ∀ {σ : L2.St} {H5 : Hp}, σ[2]? = some (some (.ref r)) → σ[3]? = some (some (.int (at_ : Int))) → Gx H3 H5 → xs.isEmpty = false → ∃ j : Nat, j < xs.length ∧ EvG (tOp (rI (fun _ j => 0 < j) fun i j => .int (i % j)) (tVar 3) (tCB (rLenK K) (tCons (tVar 2) tNil))) σ H5 (IntT fun i => i = (j : Int)) := fun {σ H5} h2 h3 e5 hne => by
      have hpos : 0 < xs.length := by
        cases xs with
        | nil => cases hne
        | cons x xs => simp
      refine ⟨at_ % xs.length, Nat.mod_lt _ hpos, evg_I (P := fun i => i = (at_ : Int)) (R := fun i => i = (xs.length : Int)) (evg_vi h3) (evg_lenL (eq_lst (evg_ve h2) (SqL.of (e5 _ _ hr3)))) (fun i j _ hj => by omega) fun i j hi hj _ _ => ⟨_, rfl, ?_⟩⟩
      rw [hi, hj]
      rfl
    refine g_if1 (R := fun b => b = true → xs.isEmpty = false) (evb_and2 (evb_test (evg_eqI (evg_vi rfl) (evg_i 1))) (fun H5 e5 => hnn rfl (e4.trans e5))) (fun hb H5 e5 => ?_) (fun _ H5 e5 => ?_)
    · have e35 := e4.trans e5
      have hr5 := e35 _ _ hr3
      obtain ⟨j, hj, hev⟩ := hmod (σ := [some (.ref c), some (.ref l), some (.ref r), some (.int (at_ : Int)), some (.ref q), some y, some (.int wy)]) rfl rfl e35 (hb rfl)
      refine ⟨_, rfl, .inl ⟨rfl, _, SqL.of hr5⟩, hev H5 (Gx.refl _) _ fun u H6 e6 ⟨i, z, hi⟩ => ?_⟩
      have hr6 := e6 _ _ hr5
      refine ⟨r, xs, i, j, xs[j], rfl, by rw [z], hr6, by omega, by omega, ?_, List.getElem?_eq_getElem hj, ?_⟩
      · have := PySem.seqIndex_of (k := i) (n := xs.length) (by omega) (by omega)
        rw [show i.toNat = j by omega] at this
        exact this
      have g : Gxa r H3 (upd H6 r (.lst (xs.eraseIdx j))) := fun b o n h => by rw [upd_ne n]; exact e6 _ _ (e35 _ _ h)
      refine ⟨r, _, _, _, _, _, rfl, nr, ((e03.trans e35).trans e6).mut nr, upd_same, ?_, fun x hxm => old g x (List.mem_of_mem_eraseIdx hxm)⟩
      have := List.length_eraseIdx_le xs j
      omega
    refine g_if1 (R := fun b => b = true → xs.isEmpty = false) (evb_and2 (evb_test (evg_eqI (evg_vi rfl) (evg_i 2))) (fun H6 e6 => hnn rfl ((e4.trans e5).trans e6))) (fun hb H6 e6 => ?_) (fun _ H6 e6 => ?_)
    · have e36 := (e4.trans e5).trans e6
      obtain ⟨j, hj, hev⟩ := hmod (σ := [some (.ref c), some (.ref l), some (.ref r), some (.int (at_ : Int)), some (.ref q), some y, some (.int wy)]) rfl rfl e36 (hb rfl)
      refine g_put1 (l := r) (xs := xs) (k := j) (v := y) (evg_ve rfl) (evg_ve rfl) hev (e36 _ _ hr3) hj fun H7 e7 => ?_
      have g : Gxa r H3 (upd H7 r (.lst (xs.set j y))) := fun b o n h => by rw [upd_ne n]; exact e7 _ _ (e36 _ _ h)
      refine ⟨r, _, _, _, _, _, rfl, nr, ((e03.trans e36).trans e7).mut nr, upd_same, by rw [List.length_set]; omega, fun x hxm => ?_⟩
      rcases List.mem_or_eq_of_mem_set hxm with h | h
      · exact old g x h
      · rw [h]
        exact new g
    · have e36 := (e4.trans e5).trans e6
      have hr6 := e36 _ _ hr3
      refine g_asgN1 (i := 2) (Φ := NewL (xs ++ xs.drop at_)) (evn_catE (evg_le (evg_ve rfl) hr6) (newl_e (evn_drop (eq_lst (evg_ve rfl) (SqL.of hr6)) (evg_vi rfl) hat)) (by rw [List.length_drop]; omega)) fun r2 H7 e7 n7 h7 => ⟨r2, _, _, _, _, _, rfl, (e03.trans e36).free n7, (e03.trans e36).trans e7, h7, by rw [List.length_append, List.length_drop]; omega, fun x hxm => ?_⟩
      have g : Gxa r H3 H7 := fun b o _ h => (e36.trans e7) _ _ h
      rcases List.mem_append.mp hxm with h | h
      · exact old g x h
      · exact old g x (List.mem_of_mem_drop h)
  · rintro σ' H4 ⟨r, ys, o3, o4, o5, o6, rfl, nr, e4, hr4, hyl, hyi⟩
    refine g_ret (Φ := Eq1 (.ref r)) (evg_ve rfl) fun v H5 e5 z => ?_
    rw [show v = .ref r from z]
    exact k r ys H5 (e4.trans e5) nr (e5 _ _ hr4) hyl fun y hy => by
      obtain ⟨o, ho⟩ := hyi y hy
      exact ⟨o, ho.gx e5⟩
end
end K07

set_option Elab.async false
set_option maxRecDepth 100000
set_option maxHeartbeats 1000000
namespace K07
open PySem L2 Ly TM
/-- a word and arguments that are drawn -/
theorem t0_item : ∀ n ∈ T0, V.str n.1 ∈ wordsV ∧ n.2 ≤ 4 ∧ leafV (.str n.1) n.2 = true := by decide +kernel
theorem row_items {H : Hp} {xs : List V} {nds : List Nd} (h : RowL H xs nds) (hT : ∀ n ∈ nds, n ∈ T0) : ∀ (i : Nat) (y : V), xs[i]? = some y → ∃ o, (nds.map some)[i]? = some o ∧ Item H y o := fun i y hy => by
  have hi : i < xs.length := (List.getElem?_eq_some_iff.mp hy).1
  obtain ⟨n, hn⟩ : ∃ n, nds[i]? = some n := ⟨nds[i]'(by rw [← h.1]; exact hi), List.getElem?_eq_getElem _⟩
  obtain ⟨p, h1, h2⟩ := h.2 i n hn
  rw [hy] at h1
  cases h1
  obtain ⟨h3, h4, h5⟩ := t0_item n (hT n (List.mem_of_getElem? hn))
  exact ⟨some n, by rw [List.getElem?_map, hn]; rfl, .node h2 h3 h4 h5⟩
theorem nodesL_T0 {ts : List Tr} (h : ∀ t ∈ ts, Fit D0 L0 t) : ∀ n ∈ nodesL ts, n ∈ T0 := fun n hn => by
  obtain ⟨t, ht, h2⟩ := mem_nodesL hn
  exact fit0 (h t ht) n h2
def headO (x : V) (n : Nat) : Option Nd := if leafV x n = true then (match x with
  | .str w => some (w, n)
  | _ => none) else none
theorem head_item {H : Hp} {p : Addr} {x : V} {n : Nat} (h : H p = some (.tup [x, .int (n : Int)])) (hx : x ∈ wordsV) (hn : n ≤ 4) : Item H (.ref p) (headO x n) := by
  unfold headO
  cases q : leafV x n with
  | false => exact .bad h hx hn q
  | true =>
    obtain ⟨w, rfl⟩ := leaf_str hx q
    exact .node h hx hn q
theorem rowJ_some (nds : List Nd) : rowJ (nds.map some) = (decide (1 ≤ nds.length ∧ nds.length ≤ 40) && ((chOf nds).isSome && (arF nds []).isSome)) := by
  unfold rowJ
  rw [filterMap_some, lawF_row, List.length_map]
  have : (nds.map some).all Option.isSome = true := by simp
  rw [this, Bool.true_and]
theorem rowJ_tree (t : Tr) : rowJ (t.nodes.map some) = (decide (t.size ≤ 40) && (arF t.nodes []).isSome) := by
  rw [rowJ_some, t.chOf]
  have hp : 1 ≤ t.nodes.length := t.size_pos
  unfold Tr.size
  generalize t.nodes.length = m at hp
  rw [Option.isSome_some, Bool.true_and]
  congr 1
  by_cases h : m ≤ 40
  · rw [decide_eq_true h, decide_eq_true ⟨hp, h⟩]
  · rw [decide_eq_false h, decide_eq_false fun z => h z.2]
theorem built_row {K : PySem.W.Frag} {C : Addr} {H : Hp} {x : V} {xs : List V} {ts : List Tr} (hx : x ∈ wordsV) (h4 : ts.length ≤ 4) (hf : ∀ t ∈ ts, Fit D0 L0 t) (hl : xs.length = ts.length) (ht : ∀ (i : Nat) (t : Tr), ts[i]? = some t → ∃ a, xs[i]? = some (.ref a) ∧ TermAt K C H a t) :
    ∃ o, BuildIn K C H x xs o ∧ o.isSome = rowJ (headO x ts.length :: (nodesL ts).map some) := by
  have hw := words_is hx
  cases q : leafV x ts.length with
  | false =>
    refine ⟨none, .word (hw.1 K H).2 hw.2.1 (by rw [hl, node_leaf hx h4]; exact q), ?_⟩
    unfold rowJ headO
    rw [q]
    simp
  | true =>
    obtain ⟨w, rfl⟩ := leaf_str hx q
    have hn : isNode2 (.str w) (.int (ts.length : Int)) = true := by rw [node_leaf hx h4]; exact q
    have hwl : w.length ≤ 1000 := Nat.le_trans (word_len hx) (by decide)
    have e1 : headO (.str w) ts.length :: (nodesL ts).map some = (Tr.nodes (.nd w ts)).map some := by
      unfold headO
      rw [q]
      rfl
    have e2 : rowJ (headO (.str w) ts.length :: (nodesL ts).map some) = (decide (Tr.size (.nd w ts) ≤ 40) && (arF (Tr.nodes (.nd w ts)) []).isSome) := by
      rw [e1]
      exact rowJ_tree (.nd w ts)
    rw [e2]
    by_cases hs : Tr.size (.nd w ts) ≤ 40
    · cases ha : arF (Tr.nodes (.nd w ts)) [] with
      | none => exact ⟨none, .bad hwl hn hl ht (.inr ha), by simp⟩
      | some l =>
        refine ⟨some (.nd w ts), .made hwl hn hl ht ⟨fun n hn' => ?_, hs, l, ha⟩, by rw [decide_eq_true hs]; rfl⟩
        rcases List.mem_cons.mp (show n ∈ (w, ts.length) :: nodesL ts from hn') with rfl | h
        · exact ⟨hn, hwl⟩
        · exact good0 n (nodesL_T0 hf n h)
    · exact ⟨none, .bad hwl hn hl ht (.inl (by omega)), by rw [decide_eq_false hs]; rfl⟩
section
variable {K : PySem.W.Frag} {σ : L2.St} {H : Hp} {tl : TE} {tb tz : TS} {D : Ends} {j : Nat}
/-- over a list that stays -/
theorem g_forLA {a : Addr} {xs : List V} (h : EvG tl σ H (Eq1 (.ref a))) (hx : SqL K H a xs) (Pv : Nat → L2.St → Hp → Prop) (h0 : ∀ H1, Gx H H1 → Pv 0 σ H1) (hG : ∀ i σ' H', Pv i σ' H' → SqL K H' a xs)
    (hs : ∀ (i : Nat) x σ' H', xs[i]? = some x → Pv i σ' H' → tb { D with nx := Pv (i + 1), ct := Pv (i + 1), bk := fun σ H => tz D σ H } (σ'.set j (some x)) H')
    (hd : ∀ σ' H', Pv xs.length σ' H' → tz D σ' H') : tSeq (tFor (iList K tl) (gName j) tb) tz D σ H := h H (Gx.refl H) _ fun v H1 e z =>
  ⟨a, z, ⟨xs, e.l hx⟩, for_list (K := K) (a := a) (xs := xs) (D := { D with nx := tz D }) Pv (h0 H1 e) (fun i σ' H' _ p => hG i σ' H' p) hs hd⟩
theorem evn_take2 {zs : List V} (h : EvG tl σ H (LstK K zs)) : EvN (tSl (rSlL K) tl tNoPart (tPart (tC (.int 2)))) σ H (NewL (zs.take (min 2 zs.length))) := fun H1 e Q q =>
  h H1 e _ fun v H2 e2 ⟨p, z, hp⟩ => ⟨2, rfl, p, zs, z, hp, fun l hl => by
    have : cutV zs none (some (2 : Int)) = zs.take (min 2 zs.length) := by
      unfold cutV
      rw [HT.sIx_none, List.drop_zero, Nat.sub_zero]
      exact congrArg (fun k => zs.take k) (HT.sIx_nat zs.length zs.length 2)
    rw [this]
    exact q l _ (e2.trans (Gx.new hl)) (e2.free hl) upd_same⟩
end
section
variable {P : Program} {w : World} {K : PySem.W.Frag} {mg : Str → Option Value} {base : Heap} {C CN CI : Addr}
abbrev s_built_right : Stmt := top 54
abbrev nm_built_right : List Str := ["_law_dice_here", "_law_args", "_law_turn", "_law_word", "_law_nodes_here", "_law_one", "_law_made", "_law_odd"]
abbrev ps_built_right : List Str := ["_law_dice_here"]
theorem sc_built_right : FnScope nm_built_right ps_built_right (defScope s_built_right) := ⟨rfl, rfl, rfl, by decide +kernel, rfl, by decide +kernel, by decide +kernel⟩
def spRight : Sp := fun vs H Q _ => ∃ c, vs = [.ref c] ∧ H c = some (diceO c) ∧ ∀ H', Gx H H' → Q (.bl true) H'
/-- a value that is no term -/
def NoT (K : PySem.W.Frag) : Ty := fun v H => ∃ kd, Pl K H v kd ∧ kd ≠ .own
theorem NoT.mono : Mono (NoT K) := fun _ _ _ e ⟨kd, h1, h2⟩ => ⟨kd, h1.gx e, h2⟩
theorem ok_built_right {f : Addr} {fd : FuncData} (F : Fun K "_law_built_right" "_law_built_right" s_built_right f fd) (T : Txt K mg) (C_roll : Cal P w K mg base "_law_roll" 1 ps_roll spRoll) (C_pick : Cal P w K mg base "_law_pick" 2 ps_pick (spPick K))
    (C_drawn_term : Cal P w K mg base "_law_drawn_term" 10 ps_drawn_term spDrawn) (C_nodes' : Cal P w K mg base "_law_nodes" 7 ps_nodes' (spNodesOf 7)) (C_made_term : Cal P w K mg base "_law_made_term" 8 ps_made_term (spMade K C))
    (C_is_built : Cal P w K mg base "_law_is_built" 8 ps_is_built (spBuilt K C)) (C_is_tree : Cal P w K mg base "_law_is_tree" 2 ps_is_tree (spTree K)) :
    FnOk P w K mg base CX0 11 f fd ps_built_right spRight := by
  have nd := sc_built_right.nd
  refine F.ok sc_built_right (fun vs H Q E h => ?_) (fun cdv A outer s H vs Q E hr h => ?_)
  · obtain ⟨_, rfl, _⟩ := h
    rfl
  obtain ⟨c, rfl, hc, k⟩ := h
  refine ⟨_, (pss_cons (ps_setLc (i := 1) (own := [("_law_turn", 2)]) (g := (gName 2)) (by rfl) nd rfl rfl (sw_true rfl rfl rfl (by decide +kernel)) (pi_range1 rfl T.z_range (pa_cons (pe_cal C_roll (hr.mono (by first | decide | omega)) rfl (pa_cons (pv 0) (pa_cons pe_int pa_nil))) pa_nil)) (blkOk_by (own := [("_law_turn", 2)]) (N := nm_built_right) (sc := defScope s_built_right) (by decide +kernel)) (fun _ _ _ _ _ => (pg_name (i := 2) nd rfl (Or.inl rfl))) (fun _ _ _ _ _ => pts_nil) (fun _ _ _ _ _ => (pe_cal C_drawn_term (hr.mono (by first | decide | omega)) rfl (pa_cons (pv 0) (pa_cons pe_int pa_nil)))))
      (pss_cons (ps_set (i := 3) nd rfl (Or.inl rfl) (pe_cal C_pick (hr.mono (by first | decide | omega)) rfl (pa_cons (pv 0) (pa_cons (pe_lst (pa_cons pe_str (pa_cons pe_str (pa_cons pe_str (pa_cons pe_str (pa_cons pe_str (pa_cons pe_str (pa_cons pe_str (pa_cons pe_str (pa_cons pe_str (pa_cons pe_non (pa_cons pe_int pa_nil)))))))))))) pa_nil))))
      (pss_cons (ps_set (i := 4) nd rfl (Or.inl rfl) (pe_lst (pa_cons (pe_tup (pa_cons (pv 3) (pa_cons (pe_callB (kcall_len (K := K)) (by rfl) T.z_len (by decide +kernel) (pa_cons (pv 1) pa_nil)) pa_nil))) pa_nil)))
      (pss_cons (ps_for PassesOwn.never rfl (kpi_list (K := K) (pv 1)) (pg_name (i := 5) nd rfl (Or.inl rfl)) (pss_one (ps_set (i := 4) nd rfl (Or.inl rfl) (pe_op op_cat (pv 4) (pe_cal C_nodes' (hr.mono (by first | decide | omega)) rfl (pa_cons (pv 5) pa_nil))))))
      (pss_cons (ps_setLc (i := 6) (own := [("_law_one", 5)]) (g := (gName 5)) (by rfl) nd rfl rfl (sw_true rfl rfl rfl (by decide +kernel)) (kpi_list (K := K) (pv 1)) (blkOk_by (own := [("_law_one", 5)]) (N := nm_built_right) (sc := defScope s_built_right) (by decide +kernel)) (fun _ _ _ _ _ => (pg_name (i := 5) nd rfl (Or.inl rfl))) (fun _ _ _ _ _ => pts_nil) (fun _ _ _ _ _ => (pe_cal C_made_term (hr.mono (by first | decide | omega)) rfl (pa_cons (pv 5) pa_nil))))
      (pss_cons (ps_if (pt_cmpR op_ne (pe_cal C_is_built (hr.mono (by first | decide | omega)) rfl (pa_cons (pv 3) (pa_cons (pv 6) pa_nil))) (pe_cal C_is_tree (hr.mono (by first | decide | omega)) rfl (pa_cons (pe_callTy (kcall_tuple (K := K)) (by rfl) T.z_tuple (by decide +kernel) (pa_cons (pv 4) pa_nil)) pa_nil)) (nomark _)) (pss_one (ps_ret pe_bl)) pss_nil)
      (pss_cons (ps_set (i := 7) nd rfl (Or.inl rfl) (pe_cal C_pick (hr.mono (by first | decide | omega)) rfl (pa_cons (pv 0) (pa_cons (pe_lst (pa_cons pe_non (pa_cons pe_int (pa_cons pe_str (pa_cons (pe_tup (pa_cons pe_str (pa_cons pe_int pa_nil))) (pa_cons (pe_tup (pa_cons (pe_tup (pa_cons pe_str (pa_cons pe_int pa_nil))) pa_nil)) (pa_cons (pe_lst pa_nil) (pa_cons pe_dnewK pa_nil)))))))) pa_nil))))
      (pss_one (ps_ret (pe_not (pe_cal C_is_built (hr.mono (by first | decide | omega)) rfl (pa_cons pe_str (pa_cons (pe_op op_cat (pe_slice (ksl_list (K := K)) (pv 6) po_none (po_some pe_int)) (pe_lst (pa_cons (pv 7) pa_nil))) pa_nil))))))))))))), ?_⟩
  refine g_asgN (evn_lcR (P := fun n => n ≤ 4) (R := fun v H => ∃ t, PT H t v ∧ Fit D0 L0 t ∧ t.size ≤ 40 ∧ t.ht ≤ 5) (evgs_cons (evg_roll (Φ := fun v _ => ∃ n : Nat, v = .int (n : Int) ∧ n ≤ 4) (evg_dice rfl hc) (evg_i 5) (fun i h => by rw [h]; decide) fun r i hi h0 h1 _ _ => ⟨r.toNat, by rw [show ((r.toNat : Nat) : Int) = r by omega], by omega⟩) fun v H1 e1 ⟨n, z, hn⟩ => evgs_nil fun _ _ => ⟨n, by rw [z], hn⟩) (fun n h => by omega)
    (fun x H1 e1 H2 e2 Q2 q2 => ⟨_, rfl, c, 2, rfl, (e1.trans e2) _ _ hc, by decide, fun v t H3 e3 h1 h2 h3 h4 => q2 v H3 e3 ⟨t, h1, h2, h3, h4⟩⟩) (fun v H1 H2 e ⟨t, h1, h2⟩ => ⟨t, h1.firm e, h2⟩)) fun la H1 e1 nla ⟨us, hla, hul, hus⟩ => ?_
  obtain ⟨ts, hts, htp⟩ := PTL.of hus
  have htl := hts.len
  have hfit : ∀ t ∈ ts, Fit D0 L0 t := fun t h => (htp t h).1
  have hsz : ∀ t ∈ ts, t.size ≤ 40 := fun t h => (htp t h).2.1
  have hnl : (nodesL ts).length ≤ 160 := Nat.le_trans (sizeL_le hsz) (by omega)
  refine g_asg (evg_pickE (xs := [.str "a", .str "f", .str "k", .str "cons", .str "g", .str "_", .str "#", .str "A", .str "", .non, .int 0]) (evg_dice rfl (e1 _ _ hc)) (newl_e (evn_lstE (evgs_ec evg_e (evgs_ec evg_e (evgs_ec evg_e (evgs_ec evg_e (evgs_ec evg_e (evgs_ec evg_e (evgs_ec evg_e (evgs_ec evg_e (evgs_ec evg_e (evgs_ec evg_e (evgs_ec evg_e evgs_en))))))))))) (by decide))) (by decide)) fun x H2 e2 hx => ?_
  have hx : x ∈ wordsV := (by decide +kernel : ∀ x ∈ [V.str "a", .str "f", .str "k", .str "cons", .str "g", .str "_", .str "#", .str "A", .str "", .non, .int 0], x ∈ wordsV) x hx
  have e02 := e1.trans e2
  have hla2 := e2 _ _ hla
  have hlen : ∀ {σ : L2.St} {H3 : Hp}, σ[1]? = some (some (.ref la)) → Gx H2 H3 → EvG (tCB (rLenK K) (tCons (tVar 1) tNil)) σ H3 (IntT fun i => i = (ts.length : Int)) := fun hs e => by
    have := evg_lenL (K := K) (eq_lst (evg_ve hs) (SqL.of (e _ _ hla2)))
    rw [htl] at this
    exact this
  refine g_asgN (Φ := fun l H3 => ∃ p, H3 l = some (.lst [.ref p]) ∧ H3 p = some (.tup [x, .int (ts.length : Int)])) (evn_lst (Ψ := fun vs H3 => ∃ p, vs = [.ref p] ∧ H3 p = some (.tup [x, .int (ts.length : Int)])) (evgs_cons (evg_tup (Φ := fun v H3 => ∃ r, v = .ref r ∧ H3 r = some (.tup [x, .int (ts.length : Int)])) (Ψ := fun vs _ => vs = [x, .int (ts.length : Int)]) (evgs_ec (evg_ve rfl) (evgs_ec (e_int (hlen rfl (Gx.refl _))) evgs_en)) (fun vs _ z => by rw [z]; show 2 ≤ 100000; decide) fun vs r _ H2 z _ _ hr => ⟨r, rfl, by rw [z] at hr; exact hr⟩) fun v H1 e1 ⟨r, z, hr⟩ => evgs_nil fun H2 e2 => ⟨r, by rw [z], e2 _ _ hr⟩) (fun vs _ ⟨_, z, _⟩ => by rw [z]; show 1 ≤ 100000; decide) fun vs p H1 H2 _ ⟨r, z, h⟩ e _ hp => ⟨r, by rw [z] at hp; exact hp, e _ _ h⟩) fun l H3 e3 nl ⟨p, hl, hp⟩ => ?_
  have e03 := e02.trans e3
  have htsg : ∀ (i : Nat) (v : V), us[i]? = some v → ∃ t, ts[i]? = some t ∧ PT H1 t v := fun i v hv => hts.get hv
  refine g_forLA (K := K) (j := 5) (a := la) (xs := us) (evg_ve rfl) (SqL.of (e3 _ _ hla2)) (fun i σ' H' => ∃ l ys o, σ' = [some (.ref c), some (.ref la), none, some x, some (.ref l), o, none, none] ∧ Gx H3 H' ∧ H' l = some (.lst (.ref p :: ys)) ∧ RowL H' ys (nodesL (ts.take i))) (fun H4 e4 => ⟨l, [], _, rfl, e4, e4 _ _ hl, by rw [List.take_zero]; exact RowL.nil⟩) (fun i σ' H' ⟨_, _, _, _, e, _⟩ => SqL.of (e _ _ (e3 _ _ hla2))) ?_ ?_
  · rintro i y σ' H4 hy ⟨l, ys, o, rfl, e4, hl4, hrow⟩
    obtain ⟨t, ht, hpt⟩ := htsg i y hy
    have hmem := List.mem_of_getElem? ht
    have hlen2 : ys.length ≤ 160 := by
      rw [hrow.1]
      have : (nodesL (ts.take i)).length ≤ (nodesL ts).length := by
        conv => rhs; rw [← List.take_append_drop i ts]
        rw [nodesL_app, List.length_append]
        omega
      omega
    refine g_asgN1 (i := 4) (Φ := fun l H5 => ∃ zs, H5 l = some (.lst (.ref p :: zs)) ∧ RowL H5 zs (nodesL (ts.take (i + 1)))) ?_ fun l' H5 e5 nl' ⟨zs, hl', hrow'⟩ => ⟨l', zs, _, rfl, e4.trans e5, hl', hrow'⟩
    intro H5 e5 Q5 q5
    refine ⟨_, rfl, y, rfl, y, t, rfl, hpt.gx ((e2.trans (e3.trans e4)).trans e5), ?_, Nat.le_trans (hsz t hmem) (by decide), fun r zs H6 e6 nr hr6 hz => ?_⟩
    · have := (htp t hmem).2.2
      omega
    have hz1 : zs.length ≤ 40 := by rw [hz.1]; exact hsz t hmem
    refine ⟨l, r, .ref p :: ys, zs, rfl, rfl, (e5.trans e6) _ _ hl4, hr6, Evl.sz_of (by rw [List.length_cons]; omega), fun r2 hr2 => q5 r2 _ (e6.trans (Gx.new hr2)) (e6.free hr2) ⟨ys ++ zs, by rw [upd_same]; rfl, ?_⟩⟩
    have : nodesL (ts.take (i + 1)) = nodesL (ts.take i) ++ t.nodes := by
      rw [List.take_add_one, ht, nodesL_app]
      show _ ++ (t.nodes ++ []) = _
      rw [List.append_nil]
    rw [this]
    exact RowL.app (hrow.gx ((e5.trans e6).trans (Gx.new hr2))) (hz.gx (Gx.new hr2))
  rintro σ' H4 ⟨l, ys, o, rfl, e4, hl4, hrow⟩
  rw [htl, List.take_length] at hrow
  have e24 := e3.trans e4
  have hp4 := e4 _ _ hp
  refine g_asgN (Φ := fun l H5 => ∃ zs, H5 l = some (.lst zs) ∧ zs.length = ts.length ∧ ∀ (i : Nat) (t : Tr), ts[i]? = some t → ∃ a, zs[i]? = some (.ref a) ∧ TermAt K C H5 a t) ((evn_lcA (n := us.length) (R := fun i v H5 => ∃ t a, ts[i]? = some t ∧ v = .ref a ∧ TermAt K C H5 a t) (evw_listAt (eq_lst (evg_ve rfl) (SqL.of (e24 _ _ hla2)))) (by omega) (fun _ _ _ _ _ h => h) (fun i y H5 hi e5 hy => ?_) (fun i v Ha Hb e ⟨t, a, h1, h2, h3⟩ => ⟨t, a, h1, h2, h3.firm e⟩)).imp fun l H5 e5 ⟨zs, h1, h2, h3⟩ => ⟨zs, h1, by rw [h2, htl], fun i t ht => ?_⟩) fun lm H5 e5 nlm ⟨zs, hlm, hzl, hz⟩ => ?_
  · obtain ⟨t, ht, hpt⟩ := htsg i y hy
    have hmem := List.mem_of_getElem? ht
    exact evg_call1 (evg_ve rfl) fun H6 e6 Q6 q6 => ⟨y, t, rfl, hpt.gx ((e2.trans (e24.trans e5)).trans e6), (htp t hmem).2.2, Good.fit (hfit t hmem) (hsz t hmem), fun a H7 e7 _ hta => q6 _ H7 e7 ⟨t, a, ht, rfl, hta⟩⟩
  · have hil : i < ts.length := (List.getElem?_eq_some_iff.mp ht).1
    obtain ⟨t', a, h4, h5, h6⟩ := h3 i (zs[i]'(by omega)) (List.getElem?_eq_getElem _)
    rw [ht] at h4
    cases h4
    exact ⟨a, by rw [List.getElem?_eq_getElem (by omega), h5], h6⟩
  have e25 := e24.trans e5
  obtain ⟨o', hbi, hbo⟩ := built_row (K := K) (C := C) (H := H5) (xs := zs) hx (by omega) hfit hzl hz
  have hits : ∀ {H8 : Hp}, Gx H4 H8 → ∀ (i : Nat) (y : V), (V.ref p :: ys)[i]? = some y → ∃ o, (headO x ts.length :: (nodesL ts).map some)[i]? = some o ∧ Item H8 y o := fun {H8} e48 i y hy => by
    cases i with
    | zero =>
      cases hy
      exact ⟨_, rfl, head_item (e48 _ _ hp4) hx (by omega)⟩
    | succ i => exact row_items (hrow.gx e48) (nodesL_T0 hfit) i y hy
  refine g_when (R := fun b => b = false) (evb_test (fun H6 e6 Q6 q6 => ?_)) (fun h => by cases h) (fun _ H6 e6 => ?_)
  · refine ⟨_, rfl, _, rfl, x, lm, zs, o', rfl, e6 _ _ hlm, by omega, hbi.gx e6, fun H7 e7 => ?_⟩
    refine evg_callP (Φ := BlE o'.isSome) (Ψ := fun v H8 => ∃ q, v = .ref q ∧ H8 q = some (.tup (.ref p :: ys))) ((evn_tupleL (eq_lst (evg_ve rfl) (SqL.of ((e5.trans (e6.trans e7)) _ _ hl4)))).g fun q _ _ _ _ _ h => ⟨q, rfl, h⟩) (fun v H8 e8 ⟨q, z, hq⟩ Q8 q8 => ⟨v, _, rfl, by rw [z]; exact .row (os := headO x ts.length :: (nodesL ts).map some) hq (by rw [List.length_cons, hrow.1]; omega) (by rw [List.length_cons, List.length_cons, List.length_map, hrow.1]) (hits ((e5.trans (e6.trans e7)).trans e8)), fun H9 e9 => q8 _ H9 e9 ⟨_, rfl, hbo.symm⟩⟩) H7 (Gx.refl _) _ fun v H8 e8 ⟨b, z, hb⟩ => ⟨by rw [z]; rfl, q6 _ H8 (e7.trans e8) ⟨_, rfl, ?_⟩⟩
    rw [z, hb, decide_eq_true rfl]
    rfl
  have e26 := e25.trans e6
  refine g_asg (Φ := NoT K) (evg_pick (n := 7) (evg_dice rfl ((e02.trans e26) _ _ hc)) (evg_all NoT.mono (evgs_m NoT.mono (evg_c fun _ _ => ⟨_, .non, by decide⟩) <| evgs_m NoT.mono (evg_c fun _ _ => ⟨_, .int _, by decide⟩) <| evgs_m NoT.mono (evg_c fun _ _ => ⟨_, .str _, by decide⟩) <|
    evgs_m NoT.mono (evg_tup (Ψ := fun vs _ => vs = [.str "a", .int 0]) (evgs_ec evg_e (evgs_ec evg_e evgs_en)) (fun vs _ z => by rw [z]; show 2 ≤ 100000; decide) fun vs q _ _ _ _ _ h => ⟨_, .tup h, by decide⟩) <|
    evgs_m NoT.mono (evg_tup (Ψ := fun vs _ => vs.length = 1) (evgs_cons (evg_tup (Φ := fun _ _ => True) (Ψ := fun vs _ => vs = [.str "a", .int 0]) (evgs_ec evg_e (evgs_ec evg_e evgs_en)) (fun vs _ z => by rw [z]; show 2 ≤ 100000; decide) fun vs q _ _ _ _ _ h => trivial) fun v _ _ _ => evgs_nil fun _ _ => rfl) (fun vs _ z => by rw [z]; decide) fun vs q _ _ _ _ _ h => ⟨_, .tup h, by decide⟩) <|
    evgs_m NoT.mono (evg_lst (Ψ := fun vs _ => vs = []) (evgs_nil fun _ _ => rfl) (fun vs _ z => by rw [z]; exact Nat.zero_le _) fun vs q _ _ _ _ _ h => ⟨_, .lst h, by decide⟩) <|
    evgs_m NoT.mono (evn_dnew.g fun q _ _ _ _ _ h => ⟨_, .dK h, by decide⟩) evgs_none) (by decide)) (by decide)) fun y H7 e7 ⟨kd, hy, hkd⟩ => ?_
  have e57 := e6.trans e7
  refine g_ret (Φ := BlE true) (evg_notV (a := false) ?_) fun v H8 e8 ⟨b, z, hb⟩ => by rw [z, hb]; exact k H8 (((e02.trans e26).trans e7).trans e8)
  intro H8 e8 Q8 q8
  have hmin : (zs.take 2).length ≤ 2 := by rw [List.length_take]; omega
  refine evn_catE (xs := zs.take (min 2 zs.length)) (ys := [y]) (newl_e (evn_take2 (eq_lst (evg_ve rfl) (SqL.of ((e57.trans e8) _ _ hlm))))) (newl_e (evn_lstE (evgs_ec (evg_ve rfl) evgs_en) (by show 1 ≤ 100000; decide))) (by rw [List.length_take]; show _ + 1 ≤ 100000; omega) H8 (Gx.refl _) _ fun lr H9 e9 n9 h9 => ?_
  have hl3 : (zs.take (min 2 zs.length) ++ [y]).length ≤ 3 := by
    rw [List.length_append, List.length_take]
    show _ + 1 ≤ 3
    omega
  have hl1 : 1 ≤ (zs.take (min 2 zs.length) ++ [y]).length := by
    rw [List.length_append]
    show 1 ≤ _ + 1
    omega
  refine ⟨.str "g", lr, _, none, rfl, h9, by omega, .arg (os := (ts.take (min 2 zs.length)).map some ++ [none]) (.str "g") (fun z h => by cases h; decide) ?_ ?_ ?_ ?_, fun H10 e10 => q8 _ H10 (e9.trans e10) ⟨_, rfl, rfl⟩⟩
  · generalize (zs.take (min 2 zs.length) ++ [y]).length = m at hl1 hl3
    have : ∀ m ∈ [1, 2, 3], isNode2 (.str "g") (.int ((m : Nat) : Int)) = true := by decide +kernel
    exact this m (by simp; omega)
  · rw [List.length_append, List.length_append, List.length_map, List.length_take, List.length_take, hzl]
    rfl
  · intro i v hv
    have e59 := (e57.trans e8).trans e9
    by_cases hi : i < (zs.take (min 2 zs.length)).length
    · rw [List.getElem?_append_left hi, List.getElem?_take] at hv
      have hi2 := hi
      rw [List.length_take] at hi2
      rw [if_pos (by omega)] at hv
      have hit : i < ts.length := by omega
      obtain ⟨a, h1, h2⟩ := hz i ts[i] (List.getElem?_eq_getElem hit)
      rw [hv] at h1
      cases h1
      refine ⟨some ts[i], ?_, .term (h2.gx e59)⟩
      rw [List.getElem?_append_left (by rw [List.length_map, List.length_take]; omega), List.getElem?_map, List.getElem?_take, if_pos (by omega), List.getElem?_eq_getElem hit]
      rfl
    · have hlen3 : (zs.take (min 2 zs.length)).length = ((ts.take (min 2 zs.length)).map some).length := by rw [List.length_map, List.length_take, List.length_take, hzl]
      rw [List.getElem?_append_right (by omega)] at hv
      rw [List.getElem?_append_right (by omega), ← hlen3]
      cases hj : i - (zs.take (min 2 zs.length)).length with
      | zero =>
        rw [hj] at hv
        cases hv
        exact ⟨none, rfl, .none (hy.gx (e8.trans e9)) hkd⟩
      | succ j =>
        rw [hj] at hv
        cases hv
  · rw [List.all_append]
    simp
end
end K07

set_option Elab.async false
set_option maxRecDepth 100000
set_option maxHeartbeats 1000000
namespace K07
open PySem L2 Ly TM
/-- items, one by one -/
def ItL (H : Hp) (xs : List V) (os : List (Option Nd)) : Prop := os.length = xs.length ∧ ∀ (i : Nat) (y : V), xs[i]? = some y → ∃ o, os[i]? = some o ∧ Item H y o
theorem ItL.nil {H : Hp} : ItL H [] [] := ⟨rfl, fun i y h => by cases h⟩
theorem ItL.cons {H : Hp} {x : V} {xs : List V} {o : Option Nd} {os : List (Option Nd)} (h : Item H x o) (k : ItL H xs os) : ItL H (x :: xs) (o :: os) := ⟨by rw [List.length_cons, List.length_cons, k.1], fun i y hy => by
  cases i with
  | zero => cases hy; exact ⟨o, rfl, h⟩
  | succ i => exact k.2 i y hy⟩
theorem ItL.app {H : Hp} : ∀ {xs ys : List V} {os us : List (Option Nd)}, ItL H xs os → ItL H ys us → ItL H (xs ++ ys) (os ++ us)
  | [], ys, [], us, _, k => k
  | x :: xs, ys, o :: os, us, h, k => by
    have h0 := h.2 0 x rfl
    obtain ⟨o', h1, h2⟩ := h0
    cases h1
    refine .cons h2 (ItL.app (xs := xs) (os := os) ⟨by have := h.1; simp at this; exact this, fun i y hy => h.2 (i + 1) y hy⟩ k)
  | [], ys, o :: os, us, h, _ => by cases h.1
  | x :: xs, ys, [], us, h, _ => by cases h.1
theorem ItL.rep {H : Hp} {xs : List V} {os : List (Option Nd)} (h : ItL H xs os) : ∀ n, ItL H (List.replicate n xs).flatten (List.replicate n os).flatten
  | 0 => .nil
  | n + 1 => by
    rw [List.replicate_succ, List.replicate_succ, List.flatten_cons, List.flatten_cons]
    exact h.app (h.rep n)
theorem ItL.of {H : Hp} : ∀ {xs : List V}, (∀ y ∈ xs, ∃ o, Item H y o) → ∃ os, ItL H xs os
  | [], _ => ⟨[], .nil⟩
  | x :: xs, h => by
    obtain ⟨o, ho⟩ := h x (List.mem_cons_self ..)
    obtain ⟨os, hos⟩ := ItL.of fun y hy => h y (List.mem_cons_of_mem _ hy)
    exact ⟨o :: os, .cons ho hos⟩
theorem ItL.gx {H H' : Hp} {xs : List V} {os : List (Option Nd)} (e : Gx H H') (h : ItL H xs os) : ItL H' xs os := ⟨h.1, fun i y hy => by
  obtain ⟨o, h1, h2⟩ := h.2 i y hy
  exact ⟨o, h1, h2.gx e⟩⟩
def ValT (K : PySem.W.Frag) : Ty := fun v H => ∃ b, ValJ K H v b
theorem ValT.mono {K : PySem.W.Frag} : Mono (ValT K) := fun _ _ _ e ⟨b, h⟩ => ⟨b, h.gx e⟩
section
variable {K : PySem.W.Frag} {σ : L2.St} {H : Hp} {ta tb : TE} {Φ : Ty}
theorem evg_rep {n : Nat} (k : Nat) (m : Mono Φ) (h : EvG ta σ H (LofT Φ n)) (hn : n * k ≤ 100000) (hk : k ≤ 1000) : EvG (tOp rRep ta (tC (.int (k : Int)))) σ H (LofT Φ (n * k)) := fun H1 e Q q =>
  h H1 e _ fun v H2 e2 ⟨p, z, xs, h1, h2⟩ => ⟨p, (k : Int), xs, z, rfl, h1, by omega, by omega, Evl.sz_of (by rw [h2.1, Int.toNat_natCast]; exact hn), fun l hl => q _ _ (e2.trans (Gx.new hl)) ⟨l, rfl, _, upd_same, by
    rw [Int.toNat_natCast]
    refine ⟨by simp [h2.1, Nat.mul_comm], fun x hx => ?_⟩
    obtain ⟨ys, hy, hx⟩ := List.mem_flatten.mp hx
    rw [(List.mem_replicate.mp hy).2] at hx
    exact m _ _ _ (Gx.new hl) (h2.2 x hx)⟩⟩
theorem op_use {r : R2} {Q : VK} (h : EvG ta σ H Φ) (k : ∀ v H1, Gx H H1 → Φ v H1 → tb σ H1 fun y H2 => r v y H2 Q) : tOp r ta tb σ H Q := h H (Gx.refl _) _ fun v H1 e f => k v H1 e f
/-- the wide row -/
theorem evg_pair {w : Str} {n : Nat} (hw : V.str w ∈ wordsV) (hn : n ≤ 4) (hl : leafV (.str w) n = true) : EvG (tTup (tCons (tC (.str w)) (tCons (tC (.int (n : Int))) tNil))) σ H (fun v H => Item H v (some (w, n))) :=
  evg_tup (Ψ := fun vs _ => vs = [.str w, .int (n : Int)]) (evgs_ec evg_e (evgs_ec evg_e evgs_en)) (fun vs _ z => by rw [z]; show 2 ≤ 100000; decide) fun vs p _ H2 z _ _ hp => by
    rw [z] at hp
    exact .node hp hw hn hl
def wideO (k : Nat) : List (Option Nd) := (List.replicate k [some (("f", 2) : Nd), some (("a", 0) : Nd)]).flatten ++ [some (("a", 0) : Nd)]
theorem evg_wide (k : Nat) (hk : 2 ≤ k ∧ k ≤ 100) : EvG (tOp (rCatA K) (tOp (rRepT K) (tTup (tCons (tTup (tCons (tC (.str "f")) (tCons (tC (.int 2)) tNil))) (tCons (tTup (tCons (tC (.str "a")) (tCons (tC (.int 0)) tNil))) tNil))) (tC (.int (k : Int)))) (tTup (tCons (tTup (tCons (tC (.str "a")) (tCons (tC (.int 0)) tNil))) tNil))) σ H (fun v H => ValJ K H v (rowJ (wideO k))) := fun H1 e Q q => by
  have m1 : ∀ {w : Str} {n : Nat}, Mono (fun v H => Item H v (some (w, n))) := fun _ _ _ e h => h.gx e
  have t1 : EvG (tTup (tCons (tTup (tCons (tC (.str "f")) (tCons (tC (.int 2)) tNil))) (tCons (tTup (tCons (tC (.str "a")) (tCons (tC (.int 0)) tNil))) tNil))) σ H1 (TupT [fun v H => Item H v (some ("f", 2)), fun v H => Item H v (some ("a", 0))]) := evg_tupA (Φs := [fun v H => Item H v (some ("f", 2)), fun v H => Item H v (some ("a", 0))]) (fun Φ h => by simp at h; rcases h with rfl | rfl <;> exact m1) (ats_c m1 (evg_pair (n := 2) (by decide +kernel) (by decide) (by decide +kernel)) <| ats_c m1 (evg_pair (n := 0) (by decide +kernel) (by decide) (by decide +kernel)) <| ats_nil) (by decide)
  show tOp (rRepT K) _ (tC (.int (k : Int))) σ H1 (fun x H2 => tTup _ σ H2 fun y H3 => rCatA K x y H3 Q)
  refine op_use t1 fun v H2 e2 ⟨p, z, xs, h1, h2⟩ => ?_
  match xs, h2 with
  | [x, y], h2 =>
    obtain ⟨hx, hy, _⟩ := h2
    refine ⟨p, (k : Int), [x, y], z, rfl, SqT.of h1, by simp, by omega, by omega, (by show 2 ≤ 1000; decide), fun r hr => ?_⟩
    have e3 := Gx.new (o := .tup (List.replicate (k : Int).toNat [x, y]).flatten) hr
    have t2 : ∀ {H5 : Hp}, EvG (tTup (tCons (tTup (tCons (tC (.str "a")) (tCons (tC (.int 0)) tNil))) tNil)) σ H5 (TupT [fun v H => Item H v (some ("a", 0))]) := evg_tupA (Φs := [fun v H => Item H v (some ("a", 0))]) (fun Φ h => by simp at h; rcases h with rfl; exact m1) (ats_c m1 (evg_pair (n := 0) (by decide +kernel) (by decide) (by decide +kernel)) <| ats_nil) (by decide)
    refine t2 _ (Gx.refl _) _ fun v H4 e4 ⟨p2, z2, xs2, h3, h4⟩ => ?_
    match xs2, h4 with
    | [x2], h4 =>
      obtain ⟨hx2, _⟩ := h4
      have hlen : (List.replicate (k : Int).toNat [x, y]).flatten.length = 2 * k := by simp [Nat.mul_comm]
      refine ⟨r, p2, _, [x2], rfl, z2, SqT.of (e4 _ _ upd_same), SqT.of h3, Evl.sz_of (by rw [hlen]; show 2 * k + 1 ≤ 100000; omega), (fun h => by rw [h] at hlen; simp at hlen; omega), (fun _ h => by cases h), fun _ _ s hs => q _ _ (((e2.trans e3).trans e4).trans (Gx.new hs)) ?_⟩
      have e5 := Gx.new (o := .tup ((List.replicate (k : Int).toNat [x, y]).flatten ++ [x2])) hs
      have it : ItL (upd H4 s (.tup ((List.replicate (k : Int).toNat [x, y]).flatten ++ [x2]))) ((List.replicate (k : Int).toNat [x, y]).flatten ++ [x2]) (wideO k) := by
        rw [Int.toNat_natCast]
        exact ItL.app (ItL.rep (.cons (hx.gx ((e3.trans e4).trans e5)) (.cons (hy.gx ((e3.trans e4).trans e5)) .nil)) k) (.cons (hx2.gx e5) .nil)
      exact .row upd_same (by rw [List.length_append, hlen]; show 2 * k + 1 ≤ 1000; omega) it.1 it.2
end
section
variable {P : Program} {w : World} {K : PySem.W.Frag} {mg : Str → Option Value} {base : Heap} {C CN CI : Addr}
abbrev s_law : Stmt := top 55
abbrev nm_law : List Str := ["_law_script", "_law_spot", "_law_dice_here", "_law_turn", "_law_near", "_law_change", "_law_value", "_law_wide"]
abbrev ps_law : List Str := ["_law_script"]
theorem sc_law : FnScope nm_law ps_law (defScope s_law) := ⟨rfl, rfl, rfl, by decide +kernel, rfl, by decide +kernel, by decide +kernel⟩
def spLaw (K : PySem.W.Frag) : Sp := fun vs H Q _ => ∃ (a : Addr) (ns : List Int), vs = [.ref a] ∧ SqL K H a (ns.map V.int) ∧ ns.length ≤ 63 ∧ ∀ H', Q (.bl true) H'
theorem ok_law {f : Addr} {fd : FuncData} (F : Fun K "law" "law" s_law f fd) (T : Txt K mg) (C_dice : Cal P w K mg base "_law_dice" 1 ps_dice (spDice K)) (C_roll : Cal P w K mg base "_law_roll" 1 ps_roll spRoll) (C_pick : Cal P w K mg base "_law_pick" 2 ps_pick (spPick K))
    (C_drawn_term : Cal P w K mg base "_law_drawn_term" 10 ps_drawn_term spDrawn) (C_nodes' : Cal P w K mg base "_law_nodes" 7 ps_nodes' (spNodesOf 7)) (C_bent : Cal P w K mg base "_law_bent" 3 ps_bent spBent) (C_is_made : Cal P w K mg base "_law_is_made" 7 ps_is_made (spTree K))
    (C_is_tree : Cal P w K mg base "_law_is_tree" 2 ps_is_tree (spTree K)) (C_built_right : Cal P w K mg base "_law_built_right" 11 ps_built_right spRight) :
    FnOk P w K mg base CX0 12 f fd ps_law (spLaw K) := by
  have nd := sc_law.nd
  refine F.ok sc_law (fun vs H Q E h => ?_) (fun cdv A outer s H vs Q E hr h => ?_)
  · obtain ⟨_, _, rfl, _⟩ := h
    rfl
  obtain ⟨a, ns, rfl, hS, hlen, k⟩ := h
  refine ⟨_, (pss_cons (ps_for PassesOwn.never rfl (pi_range1 rfl T.z_range (pa_cons (pe_callB (call_max2 rfl) (by rfl) T.z_max (by decide +kernel) (pa_cons pe_int (pa_cons (pe_callB (call_min2 rfl) (by rfl) T.z_min (by decide +kernel) (pa_cons pe_int (pa_cons (pe_callB (kcall_len (K := K)) (by rfl) T.z_len (by decide +kernel) (pa_cons (pv 0) pa_nil)) pa_nil))) pa_nil))) pa_nil)) (pg_name (i := 1) nd rfl (Or.inl rfl)) (pss_cons (ps_set (i := 2) nd rfl (Or.inl rfl) (pe_cal C_dice (hr.mono (by first | decide | omega)) rfl (pa_cons (pv 0) (pa_cons (pv 1) pa_nil))))
      (pss_one (ps_for PassesOwn.never rfl (pi_range1 rfl T.z_range (pa_cons pe_int pa_nil)) (pg_name (i := 3) nd rfl (Or.inl rfl)) (pss_cons (ps_set (i := 4) nd rfl (Or.inl rfl) (pe_cal C_nodes' (hr.mono (by first | decide | omega)) rfl (pa_cons (pe_cal C_drawn_term (hr.mono (by first | decide | omega)) rfl (pa_cons (pv 2) (pa_cons pe_int pa_nil))) pa_nil)))
      (pss_cons (ps_for PassesOwn.never rfl (pi_range1 rfl T.z_range (pa_cons (pe_cal C_roll (hr.mono (by first | decide | omega)) rfl (pa_cons (pv 2) (pa_cons pe_int pa_nil))) pa_nil)) (pg_name (i := 5) nd rfl (Or.inl rfl)) (pss_one (ps_set (i := 4) nd rfl (Or.inl rfl) (pe_cal C_bent (hr.mono (by first | decide | omega)) rfl (pa_cons (pv 2) (pa_cons (pv 4) pa_nil))))))
      (pss_cons (ps_set (i := 6) nd rfl (Or.inl rfl) (pe_cal C_pick (hr.mono (by first | decide | omega)) rfl (pa_cons (pv 2) (pa_cons (pe_op op_cat (pe_op op_rep (pe_lst (pa_cons (pe_callTy (kcall_tuple (K := K)) (by rfl) T.z_tuple (by decide +kernel) (pa_cons (pv 4) pa_nil)) pa_nil)) pe_int) (pe_lst (pa_cons (pv 4) (pa_cons (pe_tup pa_nil) (pa_cons pe_non (pa_cons pe_dnewK (pa_cons pe_str (pa_cons pe_int pa_nil)))))))) pa_nil))))
      (pss_one (ps_if (PW.pt (pw_or (pt_cmpR op_ne (pe_cal C_is_made (hr.mono (by first | decide | omega)) rfl (pa_cons (pv 6) pa_nil)) (pe_cal C_is_tree (hr.mono (by first | decide | omega)) rfl (pa_cons (pv 6) pa_nil)) (nomark _)) (pw_or1 (pt_not (pt_val (pe_cal C_built_right (hr.mono (by first | decide | omega)) rfl (pa_cons (pv 2) pa_nil))))))) (pss_one (ps_ret pe_bl)) pss_nil)))))))))
      (pss_cons (ps_set (i := 7) nd rfl (Or.inl rfl) (pe_op op_catA (pe_op op_repT (pe_tup (pa_cons (pe_tup (pa_cons pe_str (pa_cons pe_int pa_nil))) (pa_cons (pe_tup (pa_cons pe_str (pa_cons pe_int pa_nil))) pa_nil))) pe_int) (pe_tup (pa_cons (pe_tup (pa_cons pe_str (pa_cons pe_int pa_nil))) pa_nil))))
      (pss_one (ps_ret (pe_and (pe_cal C_is_made (hr.mono (by first | decide | omega)) rfl (pa_cons (pv 7) pa_nil)) (pe_one (pe_not (pe_cal C_is_made (hr.mono (by first | decide | omega)) rfl (pa_cons (pe_op op_catA (pe_op op_repT (pe_tup (pa_cons (pe_tup (pa_cons pe_str (pa_cons pe_int pa_nil))) (pa_cons (pe_tup (pa_cons pe_str (pa_cons pe_int pa_nil))) pa_nil))) pe_int) (pe_tup (pa_cons (pe_tup (pa_cons pe_str (pa_cons pe_int pa_nil))) pa_nil))) pa_nil))))))))), ?_⟩
  refine g_forR (R := fun k => 1 ≤ k ∧ k ≤ 8) ?_ (fun k h => by omega) (fun i σ' H' => ∃ o1 o2 o3 o4 o5 o6 o7, σ' = [some (.ref a), o1, o2, o3, o4, o5, o6, o7] ∧ Gx H H') (fun H1 e => ⟨_, _, _, _, _, _, _, rfl, e⟩) ?_ ?_
  · intro H1 e Q q
    refine ⟨_, rfl, a, _, rfl, Or.inl (e.l hS), _, _, rfl, _, _, rfl, ?_⟩
    refine q _ H1 (Gx.refl _) ⟨_, rfl, ?_⟩
    rw [List.length_map]
    split <;> split <;> omega
  · rintro i σ' H1 ⟨kk, hkk, hi⟩ ⟨o1, o2, o3, o4, o5, o6, o7, rfl, e1⟩
    refine ⟨_, rfl, _, rfl, a, ns, i, rfl, e1.l hS, fun d hd => ?_⟩
    have e2 : Gx H (upd H1 d (diceO d)) := e1.trans (Gx.new hd)
    refine g_forR1 (R := fun k => k = 8) (evgs_cons (evg_i 8) fun v H2 _ ⟨j, z, hj⟩ => evgs_nil fun _ _ => ⟨j, by rw [z], hj⟩) (fun k h => by omega)
      (fun i σ' H' => ∃ o1 o3 o4 o5 o6 o7, σ' = [some (.ref a), o1, some (.ref d), o3, o4, o5, o6, o7] ∧ Gx H H' ∧ H' d = some (diceO d)) (fun H2 e => ⟨_, _, _, _, _, _, rfl, e2.trans e, e _ _ upd_same⟩) ?_ ?_
    · rintro j σ' H2 _ ⟨o1, o3, o4, o5, o6, o7, rfl, e3, hd2⟩
      refine g_asgN (Φ := fun l H3 => ∃ xs, H3 l = some (.lst xs) ∧ xs.length ≤ 40 ∧ ∀ y ∈ xs, ∃ o, Item H3 y o) (fun H3 e4 Q3 q3 => ⟨_, rfl, d, 3, rfl, e4 _ _ hd2, by decide, fun v t H4 e5 h1 h2 h3 h4 => ⟨v, t, rfl, h1, by omega, by omega, fun l xs H5 e6 nl hl hrow => q3 l H5 (e5.trans e6) (e5.free nl) ⟨xs, hl, ?_, fun y hy => ?_⟩⟩⟩) fun l H3 e4 nl ⟨xs, hl, hxl, hxi⟩ => ?_
      · rw [hrow.1]
        exact h3
      · obtain ⟨i, hi⟩ := List.getElem?_of_mem hy
        obtain ⟨o, _, h⟩ := row_items hrow (fit0 h2) i y hi
        exact ⟨o, h⟩
      refine g_forR (R := fun k => 0 ≤ k ∧ k ≤ 3) (evgs_cons (evg_roll (Φ := IntT fun i => 0 ≤ i ∧ i ≤ 3) (evg_dice rfl (e4 _ _ hd2)) (evg_i 4) (fun i h => by rw [h]; decide) fun r i hi h0 h1 _ _ => ⟨r, rfl, h0, by omega⟩) fun v H4 _ ⟨i, z, hi⟩ => evgs_nil fun _ _ => ⟨i, by rw [z], hi⟩) (fun k h => by omega)
        (fun i σ' H' => ∃ l xs o5, σ' = [some (.ref a), o1, some (.ref d), some (.int (j : Int)), some (.ref l), o5, o6, o7] ∧ Gx H2 H' ∧ H' l = some (.lst xs) ∧ xs.length + 1 ≤ 41 * 2 ^ i ∧ ∀ y ∈ xs, ∃ o, Item H' y o) (fun H4 e5 => ⟨l, xs, _, rfl, e4.trans e5, e5 _ _ hl, by omega, fun y hy => by
          obtain ⟨o, h⟩ := hxi y hy
          exact ⟨o, h.gx e5⟩⟩) ?_ ?_
      · rintro i2 σ' H4 ⟨kk2, hkk2, hi2⟩ ⟨l, xs, o5, rfl, e5, hl, hxl, hxi⟩
        have hp8 : 2 ^ i2 ≤ 2 ^ 2 := Nat.pow_le_pow_right (by decide) (by omega)
        have hp9 : 2 ^ (i2 + 1) = 2 * 2 ^ i2 := by rw [Nat.pow_succ, Nat.mul_comm]
        exact ⟨_, rfl, _, rfl, d, l, xs, rfl, e5 _ _ hd2, hl, by omega, hxi, fun r ys H5 e6 nr hr hyl hyi => ⟨r, ys, _, rfl, e5.trans e6, hr, by omega, hyi⟩⟩
      · rintro i2 σ' H4 hi2 ⟨l, xs, o5, rfl, e5, hl, hxl, hxi⟩
        have hp8 : 2 ^ i2 ≤ 2 ^ 3 := Nat.pow_le_pow_right (by decide) (by omega)
        have hxl : xs.length ≤ 400 := by omega
        have hval : ∀ {H5 : Hp} {p : Addr}, Gx H4 H5 → H5 p = some (.tup xs) → ValT K (.ref p) H5 := fun e hp => by
          obtain ⟨os, hos⟩ := ItL.of hxi
          exact ⟨_, .row hp (by omega) (hos.gx e).1 (hos.gx e).2⟩
        refine g_asg (Φ := ValT K) (evg_pick (n := 1 * 6 + 6) (evg_dice rfl (e5 _ _ hd2)) ((evn_cat ValT.mono (evg_rep 6 ValT.mono (evg_all ValT.mono (evgs_m ValT.mono ((evn_tupleL (eq_lst (evg_ve rfl) (SqL.of hl))).g fun p Ha Hb e _ e' h => hval (e.trans e') h) evgs_none) (by decide)) (by decide) (by decide)) (evg_all ValT.mono
          (evgs_m ValT.mono (evg_var rfl fun H5 e => ⟨_, .other (.lst (e _ _ hl)) (by decide) (by decide)⟩) <|
           evgs_m ValT.mono (evg_tup (Ψ := fun vs _ => vs = []) (evgs_nil fun _ _ => rfl) (fun vs _ z => by rw [z]; exact Nat.zero_le _) fun vs q _ _ z _ _ h => ⟨_, .row (os := []) h (by rw [z]; exact Nat.zero_le _) (by rw [z]; rfl) fun i y hy => by rw [z] at hy; cases hy⟩) <|
           evgs_m ValT.mono (evg_c fun _ _ => ⟨_, .other .non (by decide) (by decide)⟩) <|
           evgs_m ValT.mono (evn_dnew.g fun q _ _ _ _ _ h => ⟨_, .other (.dK h) (by decide) (by decide)⟩) <|
           evgs_m ValT.mono (evg_c fun _ _ => ⟨_, .other (.str _) (by decide) (by decide)⟩) <|
           evgs_m ValT.mono (evg_c fun _ _ => ⟨_, .other (.int _) (by decide) (by decide)⟩) <| evgs_none) (by decide)) (by decide)).g fun p _ _ _ _ _ h => ⟨p, rfl, h⟩) (by decide)) fun v H5 e6 ⟨b, hv⟩ => ?_
        have hd5 := (e5.trans e6) _ _ hd2
        refine g_when1 (R := fun b => b = false) (evb_is (evb_or (a := false) (b := false) (evb_test (fun H6 e7 Q6 q6 => ?_)) (fun _ H6 e7 => evb_not (a := true) (evb_test (evg_call1 (evg_ve rfl) fun H7 e8 Q7 q7 => ⟨d, rfl, (e7.trans e8) _ _ hd5, fun H8 e9 => q7 _ H8 e9 ⟨_, rfl, rfl⟩⟩)))) rfl) (fun h => by cases h) (fun _ H6 e7 => ⟨_, _, _, _, _, _, rfl, ((e3.trans e5).trans e6).trans e7, e7 _ _ hd5⟩)
        exact ⟨_, rfl, v, b, rfl, hv.gx e7, fun H7 e8 => ⟨_, rfl, v, b, rfl, hv.gx (e7.trans e8), fun H8 e9 => ⟨rfl, q6 _ H8 (e8.trans e9) ⟨_, rfl, by rw [decide_eq_true rfl]; rfl⟩⟩⟩⟩
    · rintro j σ' H2 _ ⟨o1, o3, o4, o5, o6, o7, rfl, e3, _⟩
      exact ⟨_, _, _, _, _, _, _, rfl, e3⟩
  · rintro i σ' H1 _ ⟨o1, o2, o3, o4, o5, o6, o7, rfl, e1⟩
    refine g_asg (evg_wide (K := K) 19 (by decide)) fun v H2 e2 hv => ?_
    refine g_ret (Φ := BlE true) (evg_is (evg_andV (a := rowJ (wideO 19)) (evg_call1 (evg_ve rfl) fun H3 e3 Q3 q3 => ⟨v, _, rfl, hv.gx e3, fun H4 e4 => q3 _ H4 e4 ⟨_, rfl, rfl⟩⟩) (fun _ H3 e3 => evg_notV (a := rowJ (wideO 20)) (evg_callP (evg_wide (K := K) 20 (by decide)) fun u H4 e4 hu Q4 q4 => ⟨u, _, rfl, hu, fun H5 e5 => q4 _ H5 e5 ⟨_, rfl, rfl⟩⟩))) (by decide +kernel)) fun v H3 _ ⟨b, z, hb⟩ => by rw [z, hb]; exact k H3
end
end K07

set_option Elab.async false
set_option maxRecDepth 100000
set_option maxHeartbeats 1000000
namespace K07
open PySem L2 Ly TM
section
variable {P : Program} {w : World} {K : PySem.W.Frag} {mg : Str → Option Value} {base : Heap}
theorem exm_self {S : Addr} (h1 : PySem.W.subIn K (.ref S) (.type "BaseException") = some true) (h2 : PySem.W.isClsIn K S = true) (h3 : PySem.W.typeIn K (.ref S) = some (.type "type")) (h4 : PySem.W.subIn K (.ref S) (.ref S) = some true) : PySem.W.exmOne K (.ref S) (.ref S) = some true := by
  have e1 : (PySem.W.subIn K (.ref S) (.type "BaseException") == some true) = true := by rw [h1] <;> rfl
  have e2 : ((PySem.W.clsIn K S).isSome && PySem.W.typeIn K (.ref S) == some (.type "type")) = true := by
    rw [show (PySem.W.clsIn K S).isSome = true from h2, h3] <;> rfl
  unfold PySem.W.exmOne PySem.W.kitCls
  rw [if_pos e1]
  simp only [e2, if_true, h4]
theorem ok_nodes' {f : Addr} {fd : FuncData} (F : Fun K "_law_nodes" "_law_nodes" s_nodes' f fd) (T : Txt K mg) (hm : mg "_law_nodes" = some (.ref f)) (hk : PySem.W.keepIn K (.ref f) = true) (hb : Binds K fd ps_nodes' []) : ∀ h, FnOk P w K mg base CX0 h f fd ps_nodes' (spNodesOf h)
  | 0 => ⟨fun vs H Q E ⟨_, _, _, _, z, _⟩ => by omega, fun _ _ _ _ _ _ _ _ _ _ _ _ _ ⟨_, _, _, _, z, _⟩ => by omega⟩
  | h + 1 => ok_nodes_step F T ⟨⟨_, _, ok_nodes' F T hm hk hb h, hm, hk, hb⟩⟩
theorem ok_term' {f : Addr} {fd : FuncData} (F : Fun K "_law_term" "_law_term" s_term' f fd) (T : Txt K mg) (C_roll : Cal P w K mg base "_law_roll" 1 ps_roll spRoll) (C_pick : Cal P w K mg base "_law_pick" 2 ps_pick (spPick K)) (hm : mg "_law_term" = some (.ref f)) (hk : PySem.W.keepIn K (.ref f) = true) (hb : Binds K fd ps_term' []) : ∀ h, FnOk P w K mg base CX0 (h + 2) f fd ps_term' (spDraw h)
  | 0 => ⟨fun vs H Q E ⟨_, _, _, _, _, _, _, _, _, _, _, z, _⟩ => by omega, fun _ _ _ _ _ _ _ _ _ _ _ _ _ ⟨_, _, _, _, _, _, _, _, _, _, _, z, _⟩ => by omega⟩
  | h + 1 => ok_term_step F T C_roll C_pick ⟨⟨_, _, ok_term' F T C_roll C_pick hm hk hb h, hm, hk, hb⟩⟩
end
theorem all_mk {l : PySem.W.OpenLaw} {w : World} {K : PySem.W.Frag} {h : Heap} {mg : Str → Option Value} {fa C CN CI f_Term_init f_Term_len f_Nodes_init f_Term_build p_Term_build f_is_integer f_is_within f_is_word f_is_node f_ascending_rows f_children_of f_ends_of f_arities_in f_is_term_row f_places_with f_dice f_roll f_pick f_nodes' f_made_term f_term' f_small_term f_drawn_term f_is_leaf f_is_tree f_bent f_is_made f_is_built f_built_right f_law : Addr} (X : K.In h) (G : h.Ns mainGlobals mg) (hfa : mg "law" = some (.ref fa))
    {od_Term_init an_Term_init : Option Addr} {sl_Term_init : Array (Option Value)} {oc_Term_init kV_Term_init dc_Term_init pm_Term_init cd_Term_init ct_Term_init : Value}
    {od_Term_len an_Term_len : Option Addr} {sl_Term_len : Array (Option Value)} {oc_Term_len kV_Term_len dc_Term_len pm_Term_len cd_Term_len ct_Term_len : Value}
    {od_Nodes_init an_Nodes_init : Option Addr} {sl_Nodes_init : Array (Option Value)} {oc_Nodes_init kV_Nodes_init dc_Nodes_init pm_Nodes_init cd_Nodes_init ct_Nodes_init : Value}
    {rest_Term_build : List Value}
    {od_Term_build an_Term_build : Option Addr} {sl_Term_build : Array (Option Value)} {oc_Term_build kV_Term_build dc_Term_build pm_Term_build cd_Term_build ct_Term_build : Value}
    {od_is_integer an_is_integer : Option Addr} {sl_is_integer : Array (Option Value)} {oc_is_integer kV_is_integer dc_is_integer pm_is_integer cd_is_integer ct_is_integer : Value}
    {od_is_within an_is_within : Option Addr} {sl_is_within : Array (Option Value)} {oc_is_within kV_is_within dc_is_within pm_is_within cd_is_within ct_is_within : Value}
    {od_is_word an_is_word : Option Addr} {sl_is_word : Array (Option Value)} {oc_is_word kV_is_word dc_is_word pm_is_word cd_is_word ct_is_word : Value}
    {od_is_node an_is_node : Option Addr} {sl_is_node : Array (Option Value)} {oc_is_node kV_is_node dc_is_node pm_is_node cd_is_node ct_is_node : Value}
    {od_ascending_rows an_ascending_rows : Option Addr} {sl_ascending_rows : Array (Option Value)} {oc_ascending_rows kV_ascending_rows dc_ascending_rows pm_ascending_rows cd_ascending_rows ct_ascending_rows : Value}
    {od_children_of an_children_of : Option Addr} {sl_children_of : Array (Option Value)} {oc_children_of kV_children_of dc_children_of pm_children_of cd_children_of ct_children_of : Value}
    {od_ends_of an_ends_of : Option Addr} {sl_ends_of : Array (Option Value)} {oc_ends_of kV_ends_of dc_ends_of pm_ends_of cd_ends_of ct_ends_of : Value}
    {od_arities_in an_arities_in : Option Addr} {sl_arities_in : Array (Option Value)} {oc_arities_in kV_arities_in dc_arities_in pm_arities_in cd_arities_in ct_arities_in : Value}
    {od_is_term_row an_is_term_row : Option Addr} {sl_is_term_row : Array (Option Value)} {oc_is_term_row kV_is_term_row dc_is_term_row pm_is_term_row cd_is_term_row ct_is_term_row : Value}
    {od_places_with an_places_with : Option Addr} {sl_places_with : Array (Option Value)} {oc_places_with kV_places_with dc_places_with pm_places_with cd_places_with ct_places_with : Value}
    {od_dice an_dice : Option Addr} {sl_dice : Array (Option Value)} {oc_dice kV_dice dc_dice pm_dice cd_dice ct_dice : Value}
    {od_roll an_roll : Option Addr} {sl_roll : Array (Option Value)} {oc_roll kV_roll dc_roll pm_roll cd_roll ct_roll : Value}
    {od_pick an_pick : Option Addr} {sl_pick : Array (Option Value)} {oc_pick kV_pick dc_pick pm_pick cd_pick ct_pick : Value}
    {od_nodes' an_nodes' : Option Addr} {sl_nodes' : Array (Option Value)} {oc_nodes' kV_nodes' dc_nodes' pm_nodes' cd_nodes' ct_nodes' : Value}
    {od_made_term an_made_term : Option Addr} {sl_made_term : Array (Option Value)} {oc_made_term kV_made_term dc_made_term pm_made_term cd_made_term ct_made_term : Value}
    {od_term' an_term' : Option Addr} {sl_term' : Array (Option Value)} {oc_term' kV_term' dc_term' pm_term' cd_term' ct_term' : Value}
    {od_small_term an_small_term : Option Addr} {sl_small_term : Array (Option Value)} {oc_small_term kV_small_term dc_small_term pm_small_term cd_small_term ct_small_term : Value}
    {od_drawn_term an_drawn_term : Option Addr} {sl_drawn_term : Array (Option Value)} {oc_drawn_term kV_drawn_term dc_drawn_term pm_drawn_term cd_drawn_term ct_drawn_term : Value}
    {od_is_leaf an_is_leaf : Option Addr} {sl_is_leaf : Array (Option Value)} {oc_is_leaf kV_is_leaf dc_is_leaf pm_is_leaf cd_is_leaf ct_is_leaf : Value}
    {od_is_tree an_is_tree : Option Addr} {sl_is_tree : Array (Option Value)} {oc_is_tree kV_is_tree dc_is_tree pm_is_tree cd_is_tree ct_is_tree : Value}
    {od_bent an_bent : Option Addr} {sl_bent : Array (Option Value)} {oc_bent kV_bent dc_bent pm_bent cd_bent ct_bent : Value}
    {od_is_made an_is_made : Option Addr} {sl_is_made : Array (Option Value)} {oc_is_made kV_is_made dc_is_made pm_is_made cd_is_made ct_is_made : Value}
    {od_is_built an_is_built : Option Addr} {sl_is_built : Array (Option Value)} {oc_is_built kV_is_built dc_is_built pm_is_built cd_is_built ct_is_built : Value}
    {od_built_right an_built_right : Option Addr} {sl_built_right : Array (Option Value)} {oc_built_right kV_built_right dc_built_right pm_built_right cd_built_right ct_built_right : Value}
    {od_law an_law : Option Addr} {sl_law : Array (Option Value)} {oc_law kV_law dc_law pm_law cd_law ct_law : Value}
    {t_LONGEST : Tok}
    {t_MAX_LETTERS : Tok}
    {t_MAX_ARITY : Tok}
    {t_MAX_NODES : Tok}
    {t_ANY : Tok}
    {t_LOST : Tok}
    {t_LETTERS : Tok}
    (a_C : PySem.W.nsIn K mainGlobals "Term" = some (some (.ref C)))
    (a_CN : PySem.W.nsIn K mainGlobals "Nodes" = some (some (.ref CN)))
    (a_CI : PySem.W.nsIn K mainGlobals "InvalidTerm" = some (some (.ref CI)))
    (a_Term_init : PySem.W.findIn K (.ref C) "__init__" = some (some (.ref f_Term_init)))
    (i_Term_init : PySem.W.isFn K (.ref f_Term_init) = true)
    (l_Term_init : K.lookup f_Term_init = some ⟨oc_Term_init, od_Term_init, .func (PySem.W.fnOf "__init__" "Term.__init__" (defArgs s_Term_init) (defBody s_Term_init) (defScope s_Term_init) .none kV_Term_init dc_Term_init pm_Term_init an_Term_init cd_Term_init ct_Term_init), sl_Term_init⟩)
    (c_Term_init : PySem.W.codeIn K cd_Term_init "Term.__init__" = true)
    (k_Term_init : PySem.W.keepIn K (.ref f_Term_init) = true)
    (x_Term_init : PySem.W.fnIn K f_Term_init = true)
    (a_Term_len : PySem.W.findIn K (.ref C) "__len__" = some (some (.ref f_Term_len)))
    (i_Term_len : PySem.W.isFn K (.ref f_Term_len) = true)
    (l_Term_len : K.lookup f_Term_len = some ⟨oc_Term_len, od_Term_len, .func (PySem.W.fnOf "__len__" "Term.__len__" (defArgs s_Term_len) (defBody s_Term_len) (defScope s_Term_len) .none kV_Term_len dc_Term_len pm_Term_len an_Term_len cd_Term_len ct_Term_len), sl_Term_len⟩)
    (c_Term_len : PySem.W.codeIn K cd_Term_len "Term.__len__" = true)
    (k_Term_len : PySem.W.keepIn K (.ref f_Term_len) = true)
    (x_Term_len : PySem.W.fnIn K f_Term_len = true)
    (a_Nodes_init : PySem.W.findIn K (.ref CN) "__init__" = some (some (.ref f_Nodes_init)))
    (i_Nodes_init : PySem.W.isFn K (.ref f_Nodes_init) = true)
    (l_Nodes_init : K.lookup f_Nodes_init = some ⟨oc_Nodes_init, od_Nodes_init, .func (PySem.W.fnOf "__init__" "Nodes.__init__" (defArgs s_Nodes_init) (defBody s_Nodes_init) (defScope s_Nodes_init) .none kV_Nodes_init dc_Nodes_init pm_Nodes_init an_Nodes_init cd_Nodes_init ct_Nodes_init), sl_Nodes_init⟩)
    (c_Nodes_init : PySem.W.codeIn K cd_Nodes_init "Nodes.__init__" = true)
    (k_Nodes_init : PySem.W.keepIn K (.ref f_Nodes_init) = true)
    (x_Nodes_init : PySem.W.fnIn K f_Nodes_init = true)
    (a_Term_build : PySem.W.findCls K (.ref C) (.type "type") "build" = some (.get (.builtin "classmethod.__get__") (.ref p_Term_build) .none (.ref C)))
    (r_Term_build : PySem.W.recIn K p_Term_build "classmethod" = some (.ref f_Term_build :: rest_Term_build))
    (l_Term_build : K.lookup f_Term_build = some ⟨oc_Term_build, od_Term_build, .func (PySem.W.fnOf "build" "Term.build" (defArgs s_Term_build) (defBody s_Term_build) (defScope s_Term_build) .none kV_Term_build dc_Term_build pm_Term_build an_Term_build cd_Term_build ct_Term_build), sl_Term_build⟩)
    (c_Term_build : PySem.W.codeIn K cd_Term_build "Term.build" = true)
    (k_Term_build : PySem.W.keepIn K (.ref f_Term_build) = true)
    (x_Term_build : PySem.W.fnIn K f_Term_build = true)
    (pg_C : PySem.W.plainGet K C Str.empty = true)
    (hd_C : PySem.W.hasDictIn K C = true)
    (po_C : PySem.W.plainOver K C = true)
    (sa_C : PySem.W.findIn K (.ref C) "__setattr__" = some (some (.builtin "object.__setattr__")))
    (ha_C : PySem.W.findIn K (.ref C) "__class__" = some (some (.builtin "object.__class__")))
    (hn_C : PySem.W.specialIn K (.builtin "object.__class__") "__get__" = some (some (.builtin "getset_descriptor.__get__")))
    (ht_C : PySem.W.takesIn K (.builtin "object.__class__") = some true)
    (hm_C : PySem.W.mroIn K C (.type "object") = some true)
    (mk_C : PySem.W.makesIn K C = true)
    (kc_C : PySem.W.keepIn K (.ref C) = true)
    (is_C : PySem.W.kitOne K (.ref C) (.ref C) = some true)
    (no_C_int : PySem.W.kitOne K (.ref C) (.type "int") = some false)
    (no_C_bool : PySem.W.kitOne K (.ref C) (.type "bool") = some false)
    (no_C_str : PySem.W.kitOne K (.ref C) (.type "str") = some false)
    (no_C_list : PySem.W.kitOne K (.ref C) (.type "list") = some false)
    (no_C_tuple : PySem.W.kitOne K (.ref C) (.type "tuple") = some false)
    (no_C_dict : PySem.W.kitOne K (.ref C) (.type "dict") = some false)
    (nt_C_NoneType : PySem.W.kitOne K (.type "NoneType") (.ref C) = some false)
    (nt_C_bool : PySem.W.kitOne K (.type "bool") (.ref C) = some false)
    (nt_C_int : PySem.W.kitOne K (.type "int") (.ref C) = some false)
    (nt_C_str : PySem.W.kitOne K (.type "str") (.ref C) = some false)
    (nt_C_list : PySem.W.kitOne K (.type "list") (.ref C) = some false)
    (nt_C_tuple : PySem.W.kitOne K (.type "tuple") (.ref C) = some false)
    (nt_C_dict : PySem.W.kitOne K (.type "dict") (.ref C) = some false)
    (pg_CN : PySem.W.plainGet K CN Str.empty = true)
    (hd_CN : PySem.W.hasDictIn K CN = true)
    (po_CN : PySem.W.plainOver K CN = true)
    (sa_CN : PySem.W.findIn K (.ref CN) "__setattr__" = some (some (.builtin "object.__setattr__")))
    (ha_CN : PySem.W.findIn K (.ref CN) "__class__" = some (some (.builtin "object.__class__")))
    (hn_CN : PySem.W.specialIn K (.builtin "object.__class__") "__get__" = some (some (.builtin "getset_descriptor.__get__")))
    (ht_CN : PySem.W.takesIn K (.builtin "object.__class__") = some true)
    (hm_CN : PySem.W.mroIn K CN (.type "object") = some true)
    (mk_CN : PySem.W.makesIn K CN = true)
    (kc_CN : PySem.W.keepIn K (.ref CN) = true)
    (is_CN : PySem.W.kitOne K (.ref CN) (.ref CN) = some true)
    (no_CN_int : PySem.W.kitOne K (.ref CN) (.type "int") = some false)
    (no_CN_bool : PySem.W.kitOne K (.ref CN) (.type "bool") = some false)
    (no_CN_str : PySem.W.kitOne K (.ref CN) (.type "str") = some false)
    (no_CN_list : PySem.W.kitOne K (.ref CN) (.type "list") = some false)
    (no_CN_tuple : PySem.W.kitOne K (.ref CN) (.type "tuple") = some false)
    (no_CN_dict : PySem.W.kitOne K (.ref CN) (.type "dict") = some false)
    (nt_CN_NoneType : PySem.W.kitOne K (.type "NoneType") (.ref CN) = some false)
    (nt_CN_bool : PySem.W.kitOne K (.type "bool") (.ref CN) = some false)
    (nt_CN_int : PySem.W.kitOne K (.type "int") (.ref CN) = some false)
    (nt_CN_str : PySem.W.kitOne K (.type "str") (.ref CN) = some false)
    (nt_CN_list : PySem.W.kitOne K (.type "list") (.ref CN) = some false)
    (nt_CN_tuple : PySem.W.kitOne K (.type "tuple") (.ref CN) = some false)
    (nt_CN_dict : PySem.W.kitOne K (.type "dict") (.ref CN) = some false)
    (xx_CI : PySem.W.excIn K CI [.type "ValueError", .type "Exception", .type "BaseException", .type "object"] "ValueError.__new__" = true)
    (xk_CI : PySem.W.keepIn K (.ref CI) = true)
    (xb_CI : PySem.W.subIn K (.ref CI) (.type "BaseException") = some true)
    (xt_CI : PySem.W.typeIn K (.ref CI) = some (.type "type"))
    (xi_CI : PySem.W.isClsIn K CI = true)
    (xs_CI : PySem.W.subIn K (.ref CI) (.ref CI) = some true)
    (n1 : PySem.W.findIn K (.ref C) "own_nodes" = some none)
    (n2 : PySem.W.findIn K (.ref C) "own_children" = some none)
    (n3 : PySem.W.findIn K (.ref C) "own_ends" = some none)
    (n4 : PySem.W.findIn K (.ref C) "own_symbols" = some none)
    (n5 : PySem.W.findIn K (.ref C) "own_unknown" = some none)
    (n6 : PySem.W.findIn K (.ref C) "own_lost" = some none)
    (nN : PySem.W.findIn K (.ref CN) "told_nodes" = some none)
    (nTN : PySem.W.kitOne K (.ref C) (.ref CN) = some false)
    (rdC : PySem.W.readsIn K C (.type "type") = true)
    (gaC : PySem.W.specialIn K (.ref C) "__getattribute__" = some (some (.builtin "type.__getattribute__")))
    (a_is_integer : PySem.W.nsIn K mainGlobals "is_integer" = some (some (.ref f_is_integer)))
    (l_is_integer : K.lookup f_is_integer = some ⟨oc_is_integer, od_is_integer, .func (PySem.W.fnOf "is_integer" "is_integer" (defArgs s_is_integer) (defBody s_is_integer) (defScope s_is_integer) .none kV_is_integer dc_is_integer pm_is_integer an_is_integer cd_is_integer ct_is_integer), sl_is_integer⟩)
    (c_is_integer : PySem.W.codeIn K cd_is_integer "is_integer" = true)
    (k_is_integer : PySem.W.keepIn K (.ref f_is_integer) = true)
    (a_is_within : PySem.W.nsIn K mainGlobals "is_within" = some (some (.ref f_is_within)))
    (l_is_within : K.lookup f_is_within = some ⟨oc_is_within, od_is_within, .func (PySem.W.fnOf "is_within" "is_within" (defArgs s_is_within) (defBody s_is_within) (defScope s_is_within) .none kV_is_within dc_is_within pm_is_within an_is_within cd_is_within ct_is_within), sl_is_within⟩)
    (c_is_within : PySem.W.codeIn K cd_is_within "is_within" = true)
    (k_is_within : PySem.W.keepIn K (.ref f_is_within) = true)
    (a_is_word : PySem.W.nsIn K mainGlobals "is_word" = some (some (.ref f_is_word)))
    (l_is_word : K.lookup f_is_word = some ⟨oc_is_word, od_is_word, .func (PySem.W.fnOf "is_word" "is_word" (defArgs s_is_word) (defBody s_is_word) (defScope s_is_word) .none kV_is_word dc_is_word pm_is_word an_is_word cd_is_word ct_is_word), sl_is_word⟩)
    (c_is_word : PySem.W.codeIn K cd_is_word "is_word" = true)
    (k_is_word : PySem.W.keepIn K (.ref f_is_word) = true)
    (a_is_node : PySem.W.nsIn K mainGlobals "is_node" = some (some (.ref f_is_node)))
    (l_is_node : K.lookup f_is_node = some ⟨oc_is_node, od_is_node, .func (PySem.W.fnOf "is_node" "is_node" (defArgs s_is_node) (defBody s_is_node) (defScope s_is_node) .none kV_is_node dc_is_node pm_is_node an_is_node cd_is_node ct_is_node), sl_is_node⟩)
    (c_is_node : PySem.W.codeIn K cd_is_node "is_node" = true)
    (k_is_node : PySem.W.keepIn K (.ref f_is_node) = true)
    (a_ascending_rows : PySem.W.nsIn K mainGlobals "ascending_rows" = some (some (.ref f_ascending_rows)))
    (l_ascending_rows : K.lookup f_ascending_rows = some ⟨oc_ascending_rows, od_ascending_rows, .func (PySem.W.fnOf "ascending_rows" "ascending_rows" (defArgs s_ascending_rows) (defBody s_ascending_rows) (defScope s_ascending_rows) .none kV_ascending_rows dc_ascending_rows pm_ascending_rows an_ascending_rows cd_ascending_rows ct_ascending_rows), sl_ascending_rows⟩)
    (c_ascending_rows : PySem.W.codeIn K cd_ascending_rows "ascending_rows" = true)
    (k_ascending_rows : PySem.W.keepIn K (.ref f_ascending_rows) = true)
    (a_children_of : PySem.W.nsIn K mainGlobals "children_of" = some (some (.ref f_children_of)))
    (l_children_of : K.lookup f_children_of = some ⟨oc_children_of, od_children_of, .func (PySem.W.fnOf "children_of" "children_of" (defArgs s_children_of) (defBody s_children_of) (defScope s_children_of) .none kV_children_of dc_children_of pm_children_of an_children_of cd_children_of ct_children_of), sl_children_of⟩)
    (c_children_of : PySem.W.codeIn K cd_children_of "children_of" = true)
    (k_children_of : PySem.W.keepIn K (.ref f_children_of) = true)
    (a_ends_of : PySem.W.nsIn K mainGlobals "ends_of" = some (some (.ref f_ends_of)))
    (l_ends_of : K.lookup f_ends_of = some ⟨oc_ends_of, od_ends_of, .func (PySem.W.fnOf "ends_of" "ends_of" (defArgs s_ends_of) (defBody s_ends_of) (defScope s_ends_of) .none kV_ends_of dc_ends_of pm_ends_of an_ends_of cd_ends_of ct_ends_of), sl_ends_of⟩)
    (c_ends_of : PySem.W.codeIn K cd_ends_of "ends_of" = true)
    (k_ends_of : PySem.W.keepIn K (.ref f_ends_of) = true)
    (a_arities_in : PySem.W.nsIn K mainGlobals "arities_in" = some (some (.ref f_arities_in)))
    (l_arities_in : K.lookup f_arities_in = some ⟨oc_arities_in, od_arities_in, .func (PySem.W.fnOf "arities_in" "arities_in" (defArgs s_arities_in) (defBody s_arities_in) (defScope s_arities_in) .none kV_arities_in dc_arities_in pm_arities_in an_arities_in cd_arities_in ct_arities_in), sl_arities_in⟩)
    (c_arities_in : PySem.W.codeIn K cd_arities_in "arities_in" = true)
    (k_arities_in : PySem.W.keepIn K (.ref f_arities_in) = true)
    (a_is_term_row : PySem.W.nsIn K mainGlobals "is_term_row" = some (some (.ref f_is_term_row)))
    (l_is_term_row : K.lookup f_is_term_row = some ⟨oc_is_term_row, od_is_term_row, .func (PySem.W.fnOf "is_term_row" "is_term_row" (defArgs s_is_term_row) (defBody s_is_term_row) (defScope s_is_term_row) .none kV_is_term_row dc_is_term_row pm_is_term_row an_is_term_row cd_is_term_row ct_is_term_row), sl_is_term_row⟩)
    (c_is_term_row : PySem.W.codeIn K cd_is_term_row "is_term_row" = true)
    (k_is_term_row : PySem.W.keepIn K (.ref f_is_term_row) = true)
    (a_places_with : PySem.W.nsIn K mainGlobals "places_with" = some (some (.ref f_places_with)))
    (l_places_with : K.lookup f_places_with = some ⟨oc_places_with, od_places_with, .func (PySem.W.fnOf "places_with" "places_with" (defArgs s_places_with) (defBody s_places_with) (defScope s_places_with) .none kV_places_with dc_places_with pm_places_with an_places_with cd_places_with ct_places_with), sl_places_with⟩)
    (c_places_with : PySem.W.codeIn K cd_places_with "places_with" = true)
    (k_places_with : PySem.W.keepIn K (.ref f_places_with) = true)
    (a_dice : PySem.W.nsIn K mainGlobals "_law_dice" = some (some (.ref f_dice)))
    (l_dice : K.lookup f_dice = some ⟨oc_dice, od_dice, .func (PySem.W.fnOf "_law_dice" "_law_dice" (defArgs s_dice) (defBody s_dice) (defScope s_dice) .none kV_dice dc_dice pm_dice an_dice cd_dice ct_dice), sl_dice⟩)
    (c_dice : PySem.W.codeIn K cd_dice "_law_dice" = true)
    (k_dice : PySem.W.keepIn K (.ref f_dice) = true)
    (a_roll : PySem.W.nsIn K mainGlobals "_law_roll" = some (some (.ref f_roll)))
    (l_roll : K.lookup f_roll = some ⟨oc_roll, od_roll, .func (PySem.W.fnOf "_law_roll" "_law_roll" (defArgs s_roll) (defBody s_roll) (defScope s_roll) .none kV_roll dc_roll pm_roll an_roll cd_roll ct_roll), sl_roll⟩)
    (c_roll : PySem.W.codeIn K cd_roll "_law_roll" = true)
    (k_roll : PySem.W.keepIn K (.ref f_roll) = true)
    (a_pick : PySem.W.nsIn K mainGlobals "_law_pick" = some (some (.ref f_pick)))
    (l_pick : K.lookup f_pick = some ⟨oc_pick, od_pick, .func (PySem.W.fnOf "_law_pick" "_law_pick" (defArgs s_pick) (defBody s_pick) (defScope s_pick) .none kV_pick dc_pick pm_pick an_pick cd_pick ct_pick), sl_pick⟩)
    (c_pick : PySem.W.codeIn K cd_pick "_law_pick" = true)
    (k_pick : PySem.W.keepIn K (.ref f_pick) = true)
    (a_nodes' : PySem.W.nsIn K mainGlobals "_law_nodes" = some (some (.ref f_nodes')))
    (l_nodes' : K.lookup f_nodes' = some ⟨oc_nodes', od_nodes', .func (PySem.W.fnOf "_law_nodes" "_law_nodes" (defArgs s_nodes') (defBody s_nodes') (defScope s_nodes') .none kV_nodes' dc_nodes' pm_nodes' an_nodes' cd_nodes' ct_nodes'), sl_nodes'⟩)
    (c_nodes' : PySem.W.codeIn K cd_nodes' "_law_nodes" = true)
    (k_nodes' : PySem.W.keepIn K (.ref f_nodes') = true)
    (a_made_term : PySem.W.nsIn K mainGlobals "_law_made_term" = some (some (.ref f_made_term)))
    (l_made_term : K.lookup f_made_term = some ⟨oc_made_term, od_made_term, .func (PySem.W.fnOf "_law_made_term" "_law_made_term" (defArgs s_made_term) (defBody s_made_term) (defScope s_made_term) .none kV_made_term dc_made_term pm_made_term an_made_term cd_made_term ct_made_term), sl_made_term⟩)
    (c_made_term : PySem.W.codeIn K cd_made_term "_law_made_term" = true)
    (k_made_term : PySem.W.keepIn K (.ref f_made_term) = true)
    (a_term' : PySem.W.nsIn K mainGlobals "_law_term" = some (some (.ref f_term')))
    (l_term' : K.lookup f_term' = some ⟨oc_term', od_term', .func (PySem.W.fnOf "_law_term" "_law_term" (defArgs s_term') (defBody s_term') (defScope s_term') .none kV_term' dc_term' pm_term' an_term' cd_term' ct_term'), sl_term'⟩)
    (c_term' : PySem.W.codeIn K cd_term' "_law_term" = true)
    (k_term' : PySem.W.keepIn K (.ref f_term') = true)
    (a_small_term : PySem.W.nsIn K mainGlobals "_law_small_term" = some (some (.ref f_small_term)))
    (l_small_term : K.lookup f_small_term = some ⟨oc_small_term, od_small_term, .func (PySem.W.fnOf "_law_small_term" "_law_small_term" (defArgs s_small_term) (defBody s_small_term) (defScope s_small_term) .none kV_small_term dc_small_term pm_small_term an_small_term cd_small_term ct_small_term), sl_small_term⟩)
    (c_small_term : PySem.W.codeIn K cd_small_term "_law_small_term" = true)
    (k_small_term : PySem.W.keepIn K (.ref f_small_term) = true)
    (a_drawn_term : PySem.W.nsIn K mainGlobals "_law_drawn_term" = some (some (.ref f_drawn_term)))
    (l_drawn_term : K.lookup f_drawn_term = some ⟨oc_drawn_term, od_drawn_term, .func (PySem.W.fnOf "_law_drawn_term" "_law_drawn_term" (defArgs s_drawn_term) (defBody s_drawn_term) (defScope s_drawn_term) .none kV_drawn_term dc_drawn_term pm_drawn_term an_drawn_term cd_drawn_term ct_drawn_term), sl_drawn_term⟩)
    (c_drawn_term : PySem.W.codeIn K cd_drawn_term "_law_drawn_term" = true)
    (k_drawn_term : PySem.W.keepIn K (.ref f_drawn_term) = true)
    (a_is_leaf : PySem.W.nsIn K mainGlobals "_law_is_leaf" = some (some (.ref f_is_leaf)))
    (l_is_leaf : K.lookup f_is_leaf = some ⟨oc_is_leaf, od_is_leaf, .func (PySem.W.fnOf "_law_is_leaf" "_law_is_leaf" (defArgs s_is_leaf) (defBody s_is_leaf) (defScope s_is_leaf) .none kV_is_leaf dc_is_leaf pm_is_leaf an_is_leaf cd_is_leaf ct_is_leaf), sl_is_leaf⟩)
    (c_is_leaf : PySem.W.codeIn K cd_is_leaf "_law_is_leaf" = true)
    (k_is_leaf : PySem.W.keepIn K (.ref f_is_leaf) = true)
    (a_is_tree : PySem.W.nsIn K mainGlobals "_law_is_tree" = some (some (.ref f_is_tree)))
    (l_is_tree : K.lookup f_is_tree = some ⟨oc_is_tree, od_is_tree, .func (PySem.W.fnOf "_law_is_tree" "_law_is_tree" (defArgs s_is_tree) (defBody s_is_tree) (defScope s_is_tree) .none kV_is_tree dc_is_tree pm_is_tree an_is_tree cd_is_tree ct_is_tree), sl_is_tree⟩)
    (c_is_tree : PySem.W.codeIn K cd_is_tree "_law_is_tree" = true)
    (k_is_tree : PySem.W.keepIn K (.ref f_is_tree) = true)
    (a_bent : PySem.W.nsIn K mainGlobals "_law_bent" = some (some (.ref f_bent)))
    (l_bent : K.lookup f_bent = some ⟨oc_bent, od_bent, .func (PySem.W.fnOf "_law_bent" "_law_bent" (defArgs s_bent) (defBody s_bent) (defScope s_bent) .none kV_bent dc_bent pm_bent an_bent cd_bent ct_bent), sl_bent⟩)
    (c_bent : PySem.W.codeIn K cd_bent "_law_bent" = true)
    (k_bent : PySem.W.keepIn K (.ref f_bent) = true)
    (a_is_made : PySem.W.nsIn K mainGlobals "_law_is_made" = some (some (.ref f_is_made)))
    (l_is_made : K.lookup f_is_made = some ⟨oc_is_made, od_is_made, .func (PySem.W.fnOf "_law_is_made" "_law_is_made" (defArgs s_is_made) (defBody s_is_made) (defScope s_is_made) .none kV_is_made dc_is_made pm_is_made an_is_made cd_is_made ct_is_made), sl_is_made⟩)
    (c_is_made : PySem.W.codeIn K cd_is_made "_law_is_made" = true)
    (k_is_made : PySem.W.keepIn K (.ref f_is_made) = true)
    (a_is_built : PySem.W.nsIn K mainGlobals "_law_is_built" = some (some (.ref f_is_built)))
    (l_is_built : K.lookup f_is_built = some ⟨oc_is_built, od_is_built, .func (PySem.W.fnOf "_law_is_built" "_law_is_built" (defArgs s_is_built) (defBody s_is_built) (defScope s_is_built) .none kV_is_built dc_is_built pm_is_built an_is_built cd_is_built ct_is_built), sl_is_built⟩)
    (c_is_built : PySem.W.codeIn K cd_is_built "_law_is_built" = true)
    (k_is_built : PySem.W.keepIn K (.ref f_is_built) = true)
    (a_built_right : PySem.W.nsIn K mainGlobals "_law_built_right" = some (some (.ref f_built_right)))
    (l_built_right : K.lookup f_built_right = some ⟨oc_built_right, od_built_right, .func (PySem.W.fnOf "_law_built_right" "_law_built_right" (defArgs s_built_right) (defBody s_built_right) (defScope s_built_right) .none kV_built_right dc_built_right pm_built_right an_built_right cd_built_right ct_built_right), sl_built_right⟩)
    (c_built_right : PySem.W.codeIn K cd_built_right "_law_built_right" = true)
    (k_built_right : PySem.W.keepIn K (.ref f_built_right) = true)
    (a_law : PySem.W.nsIn K mainGlobals "law" = some (some (.ref f_law)))
    (l_law : K.lookup f_law = some ⟨oc_law, od_law, .func (PySem.W.fnOf "law" "law" (defArgs s_law) (defBody s_law) (defScope s_law) .none kV_law dc_law pm_law an_law cd_law ct_law), sl_law⟩)
    (c_law : PySem.W.codeIn K cd_law "law" = true)
    (k_law : PySem.W.keepIn K (.ref f_law) = true)
    (z_len : PySem.W.nsIn K mainGlobals "len" = some none)
    (z_int : PySem.W.nsIn K mainGlobals "int" = some none)
    (z_bool : PySem.W.nsIn K mainGlobals "bool" = some none)
    (z_str : PySem.W.nsIn K mainGlobals "str" = some none)
    (z_list : PySem.W.nsIn K mainGlobals "list" = some none)
    (z_tuple : PySem.W.nsIn K mainGlobals "tuple" = some none)
    (z_dict : PySem.W.nsIn K mainGlobals "dict" = some none)
    (z_abs : PySem.W.nsIn K mainGlobals "abs" = some none)
    (z_max : PySem.W.nsIn K mainGlobals "max" = some none)
    (z_min : PySem.W.nsIn K mainGlobals "min" = some none)
    (z_range : PySem.W.nsIn K mainGlobals "range" = some none)
    (z_repr : PySem.W.nsIn K mainGlobals "repr" = some none)
    (z_isinstance : PySem.W.nsIn K mainGlobals "isinstance" = some none)
    (z_all : PySem.W.nsIn K mainGlobals "all" = some none)
    (z_sorted : PySem.W.nsIn K mainGlobals "sorted" = some none)
    (z_enumerate : PySem.W.nsIn K mainGlobals "enumerate" = some none)
    (z_iter : PySem.W.nsIn K mainGlobals "iter" = some none)
    (i_LONGEST : PySem.W.nsIn K mainGlobals "LONGEST" = some (some (.int (10 ^ 60) t_LONGEST)))
    (i_MAX_LETTERS : PySem.W.nsIn K mainGlobals "MAX_LETTERS" = some (some (.int (8) t_MAX_LETTERS)))
    (i_MAX_ARITY : PySem.W.nsIn K mainGlobals "MAX_ARITY" = some (some (.int (3) t_MAX_ARITY)))
    (i_MAX_NODES : PySem.W.nsIn K mainGlobals "MAX_NODES" = some (some (.int (40) t_MAX_NODES)))
    (i_ANY : PySem.W.nsIn K mainGlobals "ANY" = some (some (.str "_" t_ANY)))
    (i_LOST : PySem.W.nsIn K mainGlobals "LOST" = some (some (.str "#" t_LOST)))
    (i_LETTERS : PySem.W.nsIn K mainGlobals "LETTERS" = some (some (.str "abcdefghijklmnopqrstuvwxyz" t_LETTERS))) :
    ∃ fd : FuncData, (∀ (s : Shared) (v : Value), BindsTo s fd ⟨[v], []⟩ [("_law_script", v)]) ∧ ∀ base : Heap, K.In base → base.Ns mainGlobals mg → FnOk l.prog w K mg base CX0 12 fa fd ["_law_script"] (spLaw K) := by
  have e := hfa.symm.trans (PySem.W.mg_of X G a_law)
  cases e
  have T : Txt K mg := ⟨PySem.W.mg_none_of X G z_len, PySem.W.mg_none_of X G z_int, PySem.W.mg_none_of X G z_bool, PySem.W.mg_none_of X G z_str, PySem.W.mg_none_of X G z_list, PySem.W.mg_none_of X G z_tuple, PySem.W.mg_none_of X G z_dict, PySem.W.mg_none_of X G z_abs, PySem.W.mg_none_of X G z_max, PySem.W.mg_none_of X G z_min, PySem.W.mg_none_of X G z_range, PySem.W.mg_none_of X G z_repr, PySem.W.mg_none_of X G z_isinstance, PySem.W.mg_none_of X G z_all, PySem.W.mg_none_of X G z_sorted, PySem.W.mg_none_of X G z_enumerate, PySem.W.mg_none_of X G z_iter⟩
  have F_is_integer := fun_mk (st := s_is_integer) l_is_integer c_is_integer k_is_integer
  have m_is_integer := PySem.W.mg_of X G a_is_integer
  have b_is_integer := F_is_integer.binds (ps := ps_is_integer) fun _ _ _ _ _ _ us hl => match us, hl with | [_], _ => rfl
  have F_is_within := fun_mk (st := s_is_within) l_is_within c_is_within k_is_within
  have m_is_within := PySem.W.mg_of X G a_is_within
  have b_is_within := F_is_within.binds (ps := ps_is_within) fun _ _ _ _ _ _ us hl => match us, hl with | [_, _, _], _ => rfl
  have F_is_word := fun_mk (st := s_is_word) l_is_word c_is_word k_is_word
  have m_is_word := PySem.W.mg_of X G a_is_word
  have b_is_word := F_is_word.binds (ps := ps_is_word) fun _ _ _ _ _ _ us hl => match us, hl with | [_], _ => rfl
  have F_is_node := fun_mk (st := s_is_node) l_is_node c_is_node k_is_node
  have m_is_node := PySem.W.mg_of X G a_is_node
  have b_is_node := F_is_node.binds (ps := ps_is_node) fun _ _ _ _ _ _ us hl => match us, hl with | [_], _ => rfl
  have F_ascending_rows := fun_mk (st := s_ascending_rows) l_ascending_rows c_ascending_rows k_ascending_rows
  have m_ascending_rows := PySem.W.mg_of X G a_ascending_rows
  have b_ascending_rows := F_ascending_rows.binds (ps := ps_ascending_rows) fun _ _ _ _ _ _ us hl => match us, hl with | [_], _ => rfl
  have F_children_of := fun_mk (st := s_children_of) l_children_of c_children_of k_children_of
  have m_children_of := PySem.W.mg_of X G a_children_of
  have b_children_of := F_children_of.binds (ps := ps_children_of) fun _ _ _ _ _ _ us hl => match us, hl with | [_], _ => rfl
  have F_ends_of := fun_mk (st := s_ends_of) l_ends_of c_ends_of k_ends_of
  have m_ends_of := PySem.W.mg_of X G a_ends_of
  have b_ends_of := F_ends_of.binds (ps := ps_ends_of) fun _ _ _ _ _ _ us hl => match us, hl with | [_], _ => rfl
  have F_arities_in := fun_mk (st := s_arities_in) l_arities_in c_arities_in k_arities_in
  have m_arities_in := PySem.W.mg_of X G a_arities_in
  have b_arities_in := F_arities_in.binds (ps := ps_arities_in) fun _ _ _ _ _ _ us hl => match us, hl with | [_], _ => rfl
  have F_is_term_row := fun_mk (st := s_is_term_row) l_is_term_row c_is_term_row k_is_term_row
  have m_is_term_row := PySem.W.mg_of X G a_is_term_row
  have b_is_term_row := F_is_term_row.binds (ps := ps_is_term_row) fun _ _ _ _ _ _ us hl => match us, hl with | [_], _ => rfl
  have F_places_with := fun_mk (st := s_places_with) l_places_with c_places_with k_places_with
  have m_places_with := PySem.W.mg_of X G a_places_with
  have b_places_with := F_places_with.binds (ps := ps_places_with) fun _ _ _ _ _ _ us hl => match us, hl with | [_, _], _ => rfl
  have F_dice := fun_mk (st := s_dice) l_dice c_dice k_dice
  have m_dice := PySem.W.mg_of X G a_dice
  have b_dice := F_dice.binds (ps := ps_dice) fun _ _ _ _ _ _ us hl => match us, hl with | [_, _], _ => rfl
  have F_roll := fun_mk (st := s_roll) l_roll c_roll k_roll
  have m_roll := PySem.W.mg_of X G a_roll
  have b_roll := F_roll.binds (ps := ps_roll) fun _ _ _ _ _ _ us hl => match us, hl with | [_, _], _ => rfl
  have F_pick := fun_mk (st := s_pick) l_pick c_pick k_pick
  have m_pick := PySem.W.mg_of X G a_pick
  have b_pick := F_pick.binds (ps := ps_pick) fun _ _ _ _ _ _ us hl => match us, hl with | [_, _], _ => rfl
  have F_nodes' := fun_mk (st := s_nodes') l_nodes' c_nodes' k_nodes'
  have m_nodes' := PySem.W.mg_of X G a_nodes'
  have b_nodes' := F_nodes'.binds (ps := ps_nodes') fun _ _ _ _ _ _ us hl => match us, hl with | [_], _ => rfl
  have F_made_term := fun_mk (st := s_made_term) l_made_term c_made_term k_made_term
  have m_made_term := PySem.W.mg_of X G a_made_term
  have b_made_term := F_made_term.binds (ps := ps_made_term) fun _ _ _ _ _ _ us hl => match us, hl with | [_], _ => rfl
  have F_term' := fun_mk (st := s_term') l_term' c_term' k_term'
  have m_term' := PySem.W.mg_of X G a_term'
  have b_term' := F_term'.binds (ps := ps_term') fun _ _ _ _ _ _ us hl => match us, hl with | [_, _, _, _], _ => rfl
  have F_small_term := fun_mk (st := s_small_term) l_small_term c_small_term k_small_term
  have m_small_term := PySem.W.mg_of X G a_small_term
  have b_small_term := F_small_term.binds (ps := ps_small_term) fun _ _ _ _ _ _ us hl => match us, hl with | [_, _, _, _, _], _ => rfl
  have F_drawn_term := fun_mk (st := s_drawn_term) l_drawn_term c_drawn_term k_drawn_term
  have m_drawn_term := PySem.W.mg_of X G a_drawn_term
  have b_drawn_term := F_drawn_term.binds (ps := ps_drawn_term) fun _ _ _ _ _ _ us hl => match us, hl with | [_, _], _ => rfl
  have F_is_leaf := fun_mk (st := s_is_leaf) l_is_leaf c_is_leaf k_is_leaf
  have m_is_leaf := PySem.W.mg_of X G a_is_leaf
  have b_is_leaf := F_is_leaf.binds (ps := ps_is_leaf) fun _ _ _ _ _ _ us hl => match us, hl with | [_], _ => rfl
  have F_is_tree := fun_mk (st := s_is_tree) l_is_tree c_is_tree k_is_tree
  have m_is_tree := PySem.W.mg_of X G a_is_tree
  have b_is_tree := F_is_tree.binds (ps := ps_is_tree) fun _ _ _ _ _ _ us hl => match us, hl with | [_], _ => rfl
  have F_bent := fun_mk (st := s_bent) l_bent c_bent k_bent
  have m_bent := PySem.W.mg_of X G a_bent
  have b_bent := F_bent.binds (ps := ps_bent) fun _ _ _ _ _ _ us hl => match us, hl with | [_, _], _ => rfl
  have F_is_made := fun_mk (st := s_is_made) l_is_made c_is_made k_is_made
  have m_is_made := PySem.W.mg_of X G a_is_made
  have b_is_made := F_is_made.binds (ps := ps_is_made) fun _ _ _ _ _ _ us hl => match us, hl with | [_], _ => rfl
  have F_is_built := fun_mk (st := s_is_built) l_is_built c_is_built k_is_built
  have m_is_built := PySem.W.mg_of X G a_is_built
  have b_is_built := F_is_built.binds (ps := ps_is_built) fun _ _ _ _ _ _ us hl => match us, hl with | [_, _], _ => rfl
  have F_built_right := fun_mk (st := s_built_right) l_built_right c_built_right k_built_right
  have m_built_right := PySem.W.mg_of X G a_built_right
  have b_built_right := F_built_right.binds (ps := ps_built_right) fun _ _ _ _ _ _ us hl => match us, hl with | [_], _ => rfl
  have F_law := fun_mk (st := s_law) l_law c_law k_law
  have m_law := PySem.W.mg_of X G a_law
  have b_law := F_law.binds (ps := ps_law) fun _ _ _ _ _ _ us hl => match us, hl with | [_], _ => rfl
  have F_Term_init := fun_mk (st := s_Term_init) l_Term_init c_Term_init k_Term_init
  have b_Term_init := F_Term_init.binds (ps := ps_Term_init) fun _ _ _ _ _ _ us hl => match us, hl with | [_, _], _ => rfl
  have F_Term_len := fun_mk (st := s_Term_len) l_Term_len c_Term_len k_Term_len
  have b_Term_len := F_Term_len.binds (ps := ps_Term_len) fun _ _ _ _ _ _ us hl => match us, hl with | [_], _ => rfl
  have F_Nodes_init := fun_mk (st := s_Nodes_init) l_Nodes_init c_Nodes_init k_Nodes_init
  have b_Nodes_init := F_Nodes_init.binds (ps := ps_Nodes_init) fun _ _ _ _ _ _ us hl => match us, hl with | [_, _], _ => rfl
  have F_Term_build := fun_mk (st := s_Term_build) l_Term_build c_Term_build k_Term_build
  have m_C := PySem.W.mg_of X G a_C
  have m_CN := PySem.W.mg_of X G a_CN
  have m_CI := PySem.W.mg_of X G a_CI
  have g_LONGEST := PySem.W.mg_of X G i_LONGEST
  have g_MAX_LETTERS := PySem.W.mg_of X G i_MAX_LETTERS
  have g_MAX_ARITY := PySem.W.mg_of X G i_MAX_ARITY
  have g_MAX_NODES := PySem.W.mg_of X G i_MAX_NODES
  have g_ANY := PySem.W.mg_of X G i_ANY
  have g_LOST := PySem.W.mg_of X G i_LOST
  have g_LETTERS := PySem.W.mg_of X G i_LETTERS
  refine ⟨PySem.W.fnOf "law" "law" (defArgs s_law) (defBody s_law) (defScope s_law) .none kV_law dc_law pm_law an_law cd_law ct_law, fun s v => .of_eq rfl, fun base _ _ => ?_⟩
  have cl_C : Cls K C := ⟨pg_C, hd_C, po_C, sa_C⟩
  have no_C : ∀ n ∈ asked, PySem.W.kitOne K (.ref C) (.type n) = some false := fun n h => by
    simp only [asked, List.mem_cons, List.not_mem_nil, or_false] at h
    rcases h with rfl | rfl | rfl | rfl | rfl | rfl
    · exact no_C_int
    · exact no_C_bool
    · exact no_C_str
    · exact no_C_list
    · exact no_C_tuple
    · exact no_C_dict
  have nt_C : ∀ n ∈ ["NoneType", "bool", "int", "str", "list", "tuple", "dict"], PySem.W.kitOne K (.type n) (.ref C) = some false := fun n h => by
    simp only [List.mem_cons, List.not_mem_nil, or_false] at h
    rcases h with rfl | rfl | rfl | rfl | rfl | rfl | rfl
    · exact nt_C_NoneType
    · exact nt_C_bool
    · exact nt_C_int
    · exact nt_C_str
    · exact nt_C_list
    · exact nt_C_tuple
    · exact nt_C_dict
  have ow_C : Own K C := ⟨cl_C, ha_C, hn_C, ht_C, hm_C, no_C⟩
  have cl_CN : Cls K CN := ⟨pg_CN, hd_CN, po_CN, sa_CN⟩
  have no_CN : ∀ n ∈ asked, PySem.W.kitOne K (.ref CN) (.type n) = some false := fun n h => by
    simp only [asked, List.mem_cons, List.not_mem_nil, or_false] at h
    rcases h with rfl | rfl | rfl | rfl | rfl | rfl
    · exact no_CN_int
    · exact no_CN_bool
    · exact no_CN_str
    · exact no_CN_list
    · exact no_CN_tuple
    · exact no_CN_dict
  have nt_CN : ∀ n ∈ ["NoneType", "bool", "int", "str", "list", "tuple", "dict"], PySem.W.kitOne K (.type n) (.ref CN) = some false := fun n h => by
    simp only [List.mem_cons, List.not_mem_nil, or_false] at h
    rcases h with rfl | rfl | rfl | rfl | rfl | rfl | rfl
    · exact nt_CN_NoneType
    · exact nt_CN_bool
    · exact nt_CN_int
    · exact nt_CN_str
    · exact nt_CN_list
    · exact nt_CN_tuple
    · exact nt_CN_dict
  have ow_CN : Own K CN := ⟨cl_CN, ha_CN, hn_CN, ht_CN, hm_CN, no_CN⟩
  have TC : TermC K mg C CN CI := ⟨cl_C, n1, n2, n3, n4, n5, n6, m_C, ow_C, is_C, cl_CN, nN, m_CN, ow_CN, is_CN, nTN, nt_CN, nt_C, ⟨xx_CI, m_CI, xk_CI, xb_CI, xt_CI⟩⟩
  have x_inv := exm_self xb_CI xi_CI xt_CI xs_CI
  have C_roll : Cal l.prog w K mg base "_law_roll" 1 ps_roll spRoll := ⟨⟨_, _, ok_roll F_roll T, m_roll, k_roll, b_roll⟩⟩
  have C_pick : Cal l.prog w K mg base "_law_pick" 2 ps_pick (spPick K) := ⟨⟨_, _, ok_pick F_pick T C_roll, m_pick, k_pick, b_pick⟩⟩
  have C_dice : Cal l.prog w K mg base "_law_dice" 1 ps_dice (spDice K) := ⟨⟨_, _, ok_dice F_dice T, m_dice, k_dice, b_dice⟩⟩
  have C_is_integer : Cal l.prog w K mg base "is_integer" 1 ps_is_integer (spIsInt K) := ⟨⟨_, _, ok_is_integer F_is_integer T g_LONGEST, m_is_integer, k_is_integer, b_is_integer⟩⟩
  have C_is_within : Cal l.prog w K mg base "is_within" 2 ps_is_within (spWithin K) := ⟨⟨_, _, ok_is_within F_is_within C_is_integer, m_is_within, k_is_within, b_is_within⟩⟩
  have C_is_word : Cal l.prog w K mg base "is_word" 1 ps_is_word (spWord K) := ⟨⟨_, _, ok_is_word F_is_word T g_MAX_LETTERS g_LETTERS, m_is_word, k_is_word, b_is_word⟩⟩
  have C_is_node : Cal l.prog w K mg base "is_node" 3 ps_is_node (spNode K) := ⟨⟨_, _, ok_is_node F_is_node T g_MAX_ARITY g_ANY g_LOST C_is_within C_is_word, m_is_node, k_is_node, b_is_node⟩⟩
  have C_ascending_rows : Cal l.prog w K mg base "ascending_rows" 1 ps_ascending_rows spAsc := ⟨⟨_, _, ok_ascending_rows F_ascending_rows T, m_ascending_rows, k_ascending_rows, b_ascending_rows⟩⟩
  have C_children_of : Cal l.prog w K mg base "children_of" 1 ps_children_of (spChildren K) := ⟨⟨_, _, ok_children_of F_children_of T, m_children_of, k_children_of, b_children_of⟩⟩
  have C_ends_of : Cal l.prog w K mg base "ends_of" 1 ps_ends_of (spEnds K) := ⟨⟨_, _, ok_ends_of F_ends_of T, m_ends_of, k_ends_of, b_ends_of⟩⟩
  have C_arities_in : Cal l.prog w K mg base "arities_in" 2 ps_arities_in (spArities K) := ⟨⟨_, _, ok_arities_in F_arities_in T g_ANY g_LOST C_ascending_rows, m_arities_in, k_arities_in, b_arities_in⟩⟩
  have C_is_term_row : Cal l.prog w K mg base "is_term_row" 4 ps_is_term_row (spRow K) := ⟨⟨_, _, ok_is_term_row F_is_term_row T g_MAX_NODES C_is_node C_children_of C_arities_in, m_is_term_row, k_is_term_row, b_is_term_row⟩⟩
  have C_places_with : Cal l.prog w K mg base "places_with" 1 ps_places_with (spPlaces K) := ⟨⟨_, _, ok_places_with F_places_with T, m_places_with, k_places_with, b_places_with⟩⟩
  have M_Term : CalC l.prog w K mg base (L2.CX l.prog w) "Term" C 5 ps_Term_init (spInit K C CN CI) := ⟨⟨_, _, ⟨mk_C, a_Term_init, i_Term_init, kc_C⟩, ok_Term_init F_Term_init T TC g_ANY g_LOST C_is_term_row C_children_of C_ends_of C_arities_in C_places_with, m_C, b_Term_init⟩⟩
  have M_len : CalM l.prog w K mg base CX0 C "__len__" 1 ps_Term_len (spLen K C) := ⟨⟨_, _, ⟨a_Term_len, i_Term_len, k_Term_len⟩, x_Term_len, ok_Term_len F_Term_len T TC, b_Term_len⟩⟩
  have K_Term_build : CalK l.prog w K mg base (L2.CX l.prog w) C "build" 7 (spBuild K C CI) := ⟨⟨.type "type", p_Term_build, f_Term_build, ⟨rdC, gaC⟩, ⟨a_Term_build, ⟨_, r_Term_build⟩, x_Term_build⟩, build_of (ok_Term_build F_Term_build T TC M_Term C_is_node)⟩⟩
  have C_nodes' : Cal l.prog w K mg base "_law_nodes" 7 ps_nodes' (spNodesOf 7) := ⟨⟨_, _, ok_nodes' F_nodes' T m_nodes' k_nodes' b_nodes' 7, m_nodes', k_nodes', b_nodes'⟩⟩
  have C_term' : Cal l.prog w K mg base "_law_term" 8 ps_term' (spDraw 6) := ⟨⟨_, _, ok_term' F_term' T C_roll C_pick m_term' k_term' b_term' 6, m_term', k_term', b_term'⟩⟩
  have C_small_term : Cal l.prog w K mg base "_law_small_term" 9 ps_small_term spSmall := ⟨⟨_, _, ok_small_term F_small_term T C_pick C_term' C_nodes', m_small_term, k_small_term, b_small_term⟩⟩
  have C_drawn_term : Cal l.prog w K mg base "_law_drawn_term" 10 ps_drawn_term spDrawn := ⟨⟨_, _, ok_drawn_term F_drawn_term C_small_term, m_drawn_term, k_drawn_term, b_drawn_term⟩⟩
  have C_made_term : Cal l.prog w K mg base "_law_made_term" 8 ps_made_term (spMade K C) := ⟨⟨_, _, ok_made_term F_made_term T TC M_Term C_nodes', m_made_term, k_made_term, b_made_term⟩⟩
  have C_is_leaf : Cal l.prog w K mg base "_law_is_leaf" 1 ps_is_leaf spLeafJ := ⟨⟨_, _, ok_is_leaf F_is_leaf T, m_is_leaf, k_is_leaf, b_is_leaf⟩⟩
  have C_is_tree : Cal l.prog w K mg base "_law_is_tree" 2 ps_is_tree (spTree K) := ⟨⟨_, _, ok_is_tree F_is_tree T C_is_leaf, m_is_tree, k_is_tree, b_is_tree⟩⟩
  have C_bent : Cal l.prog w K mg base "_law_bent" 3 ps_bent spBent := ⟨⟨_, _, ok_bent F_bent T C_roll C_pick, m_bent, k_bent, b_bent⟩⟩
  have C_is_made : Cal l.prog w K mg base "_law_is_made" 7 ps_is_made (spTree K) := ⟨⟨_, _, ok_is_made F_is_made T TC x_inv M_Term M_len, m_is_made, k_is_made, b_is_made⟩⟩
  have C_is_built : Cal l.prog w K mg base "_law_is_built" 8 ps_is_built (spBuilt K C) := ⟨⟨_, _, ok_is_built F_is_built T TC x_inv K_Term_build, m_is_built, k_is_built, b_is_built⟩⟩
  have C_built_right : Cal l.prog w K mg base "_law_built_right" 11 ps_built_right spRight := ⟨⟨_, _, ok_built_right F_built_right T C_roll C_pick C_drawn_term C_nodes' C_made_term C_is_built C_is_tree, m_built_right, k_built_right, b_built_right⟩⟩
  exact ok_law F_law T C_dice C_roll C_pick C_drawn_term C_nodes' C_bent C_is_made C_is_tree C_built_right
theorem walk {l : PySem.W.OpenLaw} {q : Program} {loose : List Str} {XP : (Str → Option Value) → Heap → Prop} {YP : World → Heap → Prop} {d : DefRec} {K : Params → PySem.W.Frag} (hn : l.most = some 63) (hdf : d.params.defaults = [])
    (hY : ∀ (w : World) (h : Heap), YP w h → (K w.params).In h)
    (F : ∀ (w : World) (mg : Str → Option Value) (fa : Addr) (h : Heap), (K w.params).In h → h.Ns mainGlobals mg → mg d.name = some (.ref fa) →
      ∃ fd : FuncData, (∀ (s : Shared) (u : Value), BindsTo s fd ⟨[u], []⟩ [("_law_script", u)]) ∧ ∀ base : Heap, (K w.params).In base → base.Ns mainGlobals mg → FnOk l.prog w (K w.params) mg base CX0 12 fa fd ["_law_script"] (spLaw (K w.params))) :
    PySem.W.WalkO q loose XP YP l.row.toRowW d [] (fun f vs => PySem.call f vs) :=
  L2.walk_of (n := 63) (k := 12) (x := "_law_script") (CX := fun _ => CX0) (sp := fun w => spLaw (K w.params)) hn (by decide) hdf ⟨rfl, by decide, by decide⟩ hY F (fun _ _ a ns hl _ hS => ⟨a, ns, rfl, hS, hl, fun _ => rfl⟩) fun _ _ _ _ _ z => z
end K07
open PySem PySem.W PyProof.Rows
set_option maxRecDepth 100000 in
set_option maxHeartbeats 0 in
theorem PySem.Challenge.cw_firstneed_k07_tuples_of_nodes_judged_holds : PySem.Challenge.rw_firstneed_k07_tuples_of_nodes_judged.Holds := by
  w_on; o_law; k_head; (case hw => w_witness2)
  k_fill
  refine K07.walk (l := PySem.Challenge.rw_firstneed_k07_tuples_of_nodes_judged) rfl rfl (fun w h Y => PySem.W.kIn_of Y) ?F
  case F =>
    intro w mg fa h KX G hmg
    refine' K07.all_mk KX G hmg ?a_C ?a_CN ?a_CI ?a_Term_init ?i_Term_init ?l_Term_init ?c_Term_init ?k_Term_init ?x_Term_init ?a_Term_len ?i_Term_len ?l_Term_len ?c_Term_len ?k_Term_len ?x_Term_len ?a_Nodes_init ?i_Nodes_init ?l_Nodes_init ?c_Nodes_init ?k_Nodes_init ?x_Nodes_init ?a_Term_build ?r_Term_build ?l_Term_build ?c_Term_build ?k_Term_build ?x_Term_build ?pg_C ?hd_C ?po_C ?sa_C ?ha_C ?hn_C ?ht_C ?hm_C ?mk_C ?kc_C ?is_C ?no_C_int ?no_C_bool ?no_C_str ?no_C_list ?no_C_tuple ?no_C_dict ?nt_C_NoneType ?nt_C_bool ?nt_C_int ?nt_C_str ?nt_C_list ?nt_C_tuple ?nt_C_dict ?pg_CN ?hd_CN ?po_CN ?sa_CN ?ha_CN ?hn_CN ?ht_CN ?hm_CN ?mk_CN ?kc_CN ?is_CN ?no_CN_int ?no_CN_bool ?no_CN_str ?no_CN_list ?no_CN_tuple ?no_CN_dict ?nt_CN_NoneType ?nt_CN_bool ?nt_CN_int ?nt_CN_str ?nt_CN_list ?nt_CN_tuple ?nt_CN_dict ?xx_CI ?xk_CI ?xb_CI ?xt_CI ?xi_CI ?xs_CI ?n1 ?n2 ?n3 ?n4 ?n5 ?n6 ?nN ?nTN ?rdC ?gaC ?a_is_integer ?l_is_integer ?c_is_integer ?k_is_integer ?a_is_within ?l_is_within ?c_is_within ?k_is_within ?a_is_word ?l_is_word ?c_is_word ?k_is_word ?a_is_node ?l_is_node ?c_is_node ?k_is_node ?a_ascending_rows ?l_ascending_rows ?c_ascending_rows ?k_ascending_rows ?a_children_of ?l_children_of ?c_children_of ?k_children_of ?a_ends_of ?l_ends_of ?c_ends_of ?k_ends_of ?a_arities_in ?l_arities_in ?c_arities_in ?k_arities_in ?a_is_term_row ?l_is_term_row ?c_is_term_row ?k_is_term_row ?a_places_with ?l_places_with ?c_places_with ?k_places_with ?a_dice ?l_dice ?c_dice ?k_dice ?a_roll ?l_roll ?c_roll ?k_roll ?a_pick ?l_pick ?c_pick ?k_pick ?a_nodes' ?l_nodes' ?c_nodes' ?k_nodes' ?a_made_term ?l_made_term ?c_made_term ?k_made_term ?a_term' ?l_term' ?c_term' ?k_term' ?a_small_term ?l_small_term ?c_small_term ?k_small_term ?a_drawn_term ?l_drawn_term ?c_drawn_term ?k_drawn_term ?a_is_leaf ?l_is_leaf ?c_is_leaf ?k_is_leaf ?a_is_tree ?l_is_tree ?c_is_tree ?k_is_tree ?a_bent ?l_bent ?c_bent ?k_bent ?a_is_made ?l_is_made ?c_is_made ?k_is_made ?a_is_built ?l_is_built ?c_is_built ?k_is_built ?a_built_right ?l_built_right ?c_built_right ?k_built_right ?a_law ?l_law ?c_law ?k_law ?z_len ?z_int ?z_bool ?z_str ?z_list ?z_tuple ?z_dict ?z_abs ?z_max ?z_min ?z_range ?z_repr ?z_isinstance ?z_all ?z_sorted ?z_enumerate ?z_iter ?i_LONGEST ?i_MAX_LETTERS ?i_MAX_ARITY ?i_MAX_NODES ?i_ANY ?i_LOST ?i_LETTERS
    (case a_C => k_is)
    (case a_CN => k_is)
    (case a_CI => k_is)
    (case a_Term_init => k_is)
    (case i_Term_init => k_is)
    (case l_Term_init => k_is)
    (case c_Term_init => k_is)
    (case k_Term_init => k_is)
    (case x_Term_init => k_is)
    (case a_Term_len => k_is)
    (case i_Term_len => k_is)
    (case l_Term_len => k_is)
    (case c_Term_len => k_is)
    (case k_Term_len => k_is)
    (case x_Term_len => k_is)
    (case a_Nodes_init => k_is)
    (case i_Nodes_init => k_is)
    (case l_Nodes_init => k_is)
    (case c_Nodes_init => k_is)
    (case k_Nodes_init => k_is)
    (case x_Nodes_init => k_is)
    (case a_Term_build => k_is)
    (case r_Term_build => k_is)
    (case l_Term_build => k_is)
    (case c_Term_build => k_is)
    (case k_Term_build => k_is)
    (case x_Term_build => k_is)
    (case pg_C => k_is)
    (case hd_C => k_is)
    (case po_C => k_is)
    (case sa_C => k_is)
    (case ha_C => k_is)
    (case hn_C => k_is)
    (case ht_C => k_is)
    (case hm_C => k_is)
    (case mk_C => k_is)
    (case kc_C => k_is)
    (case is_C => kit_is)
    (case no_C_int => kit_is)
    (case no_C_bool => kit_is)
    (case no_C_str => kit_is)
    (case no_C_list => kit_is)
    (case no_C_tuple => kit_is)
    (case no_C_dict => kit_is)
    (case nt_C_NoneType => kit_is)
    (case nt_C_bool => kit_is)
    (case nt_C_int => kit_is)
    (case nt_C_str => kit_is)
    (case nt_C_list => kit_is)
    (case nt_C_tuple => kit_is)
    (case nt_C_dict => kit_is)
    (case pg_CN => k_is)
    (case hd_CN => k_is)
    (case po_CN => k_is)
    (case sa_CN => k_is)
    (case ha_CN => k_is)
    (case hn_CN => k_is)
    (case ht_CN => k_is)
    (case hm_CN => k_is)
    (case mk_CN => k_is)
    (case kc_CN => k_is)
    (case is_CN => kit_is)
    (case no_CN_int => kit_is)
    (case no_CN_bool => kit_is)
    (case no_CN_str => kit_is)
    (case no_CN_list => kit_is)
    (case no_CN_tuple => kit_is)
    (case no_CN_dict => kit_is)
    (case nt_CN_NoneType => kit_is)
    (case nt_CN_bool => kit_is)
    (case nt_CN_int => kit_is)
    (case nt_CN_str => kit_is)
    (case nt_CN_list => kit_is)
    (case nt_CN_tuple => kit_is)
    (case nt_CN_dict => kit_is)
    (case xx_CI => k_exc)
    (case xk_CI => k_is)
    (case xb_CI => k_is)
    (case xt_CI => k_is)
    (case xi_CI => k_is)
    (case xs_CI => first | rfl | k_is)
    (case n1 => k_is)
    (case n2 => k_is)
    (case n3 => k_is)
    (case n4 => k_is)
    (case n5 => k_is)
    (case n6 => k_is)
    (case nN => k_is)
    (case nTN => kit_is)
    (case rdC => k_is)
    (case gaC => k_is)
    (case a_is_integer => k_is)
    (case l_is_integer => k_is)
    (case c_is_integer => k_is)
    (case k_is_integer => k_is)
    (case a_is_within => k_is)
    (case l_is_within => k_is)
    (case c_is_within => k_is)
    (case k_is_within => k_is)
    (case a_is_word => k_is)
    (case l_is_word => k_is)
    (case c_is_word => k_is)
    (case k_is_word => k_is)
    (case a_is_node => k_is)
    (case l_is_node => k_is)
    (case c_is_node => k_is)
    (case k_is_node => k_is)
    (case a_ascending_rows => k_is)
    (case l_ascending_rows => k_is)
    (case c_ascending_rows => k_is)
    (case k_ascending_rows => k_is)
    (case a_children_of => k_is)
    (case l_children_of => k_is)
    (case c_children_of => k_is)
    (case k_children_of => k_is)
    (case a_ends_of => k_is)
    (case l_ends_of => k_is)
    (case c_ends_of => k_is)
    (case k_ends_of => k_is)
    (case a_arities_in => k_is)
    (case l_arities_in => k_is)
    (case c_arities_in => k_is)
    (case k_arities_in => k_is)
    (case a_is_term_row => k_is)
    (case l_is_term_row => k_is)
    (case c_is_term_row => k_is)
    (case k_is_term_row => k_is)
    (case a_places_with => k_is)
    (case l_places_with => k_is)
    (case c_places_with => k_is)
    (case k_places_with => k_is)
    (case a_dice => k_is)
    (case l_dice => k_is)
    (case c_dice => k_is)
    (case k_dice => k_is)
    (case a_roll => k_is)
    (case l_roll => k_is)
    (case c_roll => k_is)
    (case k_roll => k_is)
    (case a_pick => k_is)
    (case l_pick => k_is)
    (case c_pick => k_is)
    (case k_pick => k_is)
    (case a_nodes' => k_is)
    (case l_nodes' => k_is)
    (case c_nodes' => k_is)
    (case k_nodes' => k_is)
    (case a_made_term => k_is)
    (case l_made_term => k_is)
    (case c_made_term => k_is)
    (case k_made_term => k_is)
    (case a_term' => k_is)
    (case l_term' => k_is)
    (case c_term' => k_is)
    (case k_term' => k_is)
    (case a_small_term => k_is)
    (case l_small_term => k_is)
    (case c_small_term => k_is)
    (case k_small_term => k_is)
    (case a_drawn_term => k_is)
    (case l_drawn_term => k_is)
    (case c_drawn_term => k_is)
    (case k_drawn_term => k_is)
    (case a_is_leaf => k_is)
    (case l_is_leaf => k_is)
    (case c_is_leaf => k_is)
    (case k_is_leaf => k_is)
    (case a_is_tree => k_is)
    (case l_is_tree => k_is)
    (case c_is_tree => k_is)
    (case k_is_tree => k_is)
    (case a_bent => k_is)
    (case l_bent => k_is)
    (case c_bent => k_is)
    (case k_bent => k_is)
    (case a_is_made => k_is)
    (case l_is_made => k_is)
    (case c_is_made => k_is)
    (case k_is_made => k_is)
    (case a_is_built => k_is)
    (case l_is_built => k_is)
    (case c_is_built => k_is)
    (case k_is_built => k_is)
    (case a_built_right => k_is)
    (case l_built_right => k_is)
    (case c_built_right => k_is)
    (case k_built_right => k_is)
    (case a_law => k_is)
    (case l_law => k_is)
    (case c_law => k_is)
    (case k_law => k_is)
    (case z_len => k_is)
    (case z_int => k_is)
    (case z_bool => k_is)
    (case z_str => k_is)
    (case z_list => k_is)
    (case z_tuple => k_is)
    (case z_dict => k_is)
    (case z_abs => k_is)
    (case z_max => k_is)
    (case z_min => k_is)
    (case z_range => k_is)
    (case z_repr => k_is)
    (case z_isinstance => k_is)
    (case z_all => k_is)
    (case z_sorted => k_is)
    (case z_enumerate => k_is)
    (case z_iter => k_is)
    (case i_LONGEST => k_is)
    (case i_MAX_LETTERS => k_is)
    (case i_MAX_ARITY => k_is)
    (case i_MAX_NODES => k_is)
    (case i_ANY => k_is)
    (case i_LOST => k_is)
    (case i_LETTERS => k_is)

