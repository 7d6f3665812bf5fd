import PyProof.Rows.All
import Wide.All
import OpenK.AllK
import Wide.FinOn
import HandS.ForMost
import HandS.IsInst
import HandS.Evl
import HandS.Walk
import HandS.Star
import HandS.Style
import HandS.TupAny
import HandS.DictComp
import KE.KeyNested
import KE.KDictList
import PyProof.DictWalks
import HandS.Deep
import PySem.Challenge.RW_firstneed_k04_symbols_judged
set_option Elab.async false
set_option maxRecDepth 100000
/-! Own layer: dice that hide their numbers, heaps that only grow, repr of plain values. -/
namespace Ly
open PySem PySem.Spec PyProof.Rows L2

/-! ### heaps that only grow -/
def Gx (H H' : Hp) : Prop := ∀ a o, H a = some o → H' a = some o
theorem Gx.refl (H : Hp) : Gx H H := fun _ _ h => h
theorem Gx.trans {H H1 H2 : Hp} (a : Gx H H1) (b : Gx H1 H2) : Gx H H2 := fun x o h => b x o (a x o h)
theorem Gx.new {H : Hp} {p : Addr} {o : HO} (h : H p = none) : Gx H (upd H p o) := fun a u e => by
  rw [upd_ne (ne_of_none e h)]
  exact e
theorem Gx.mut {H H' : Hp} {p : Addr} {o : HO} (e : Gx H H') (h : H p = none) : Gx H (upd H' p o) := fun a u ha => by
  rw [upd_ne (ne_of_none ha h)]
  exact e a u ha
theorem Gx.free {H H' : Hp} {p : Addr} (e : Gx H H') (h : H' p = none) : H p = none := by
  cases q : H p with
  | none => rfl
  | some o =>
    rw [e p o q] at h
    cases h
theorem Gx.rd {H H' : Hp} {a : Addr} {u : HO} (e : Gx H H') (h : Rd H a u) : Rd H' a u := by
  rcases h with h | ⟨o, h⟩
  · exact Or.inl (e a _ h)
  · exact Or.inr ⟨o, e a _ h⟩
theorem Gx.l {K : PySem.W.Frag} {H H' : Hp} {a : Addr} {xs : List V} (e : Gx H H') (h : SqL K H a xs) : SqL K H' a xs := by
  rcases h with h | h
  · exact Or.inl (e.rd h)
  · exact Or.inr h
theorem Gx.t {K : PySem.W.Frag} {H H' : Hp} {a : Addr} {xs : List V} (e : Gx H H') (h : SqT K H a xs) : SqT K H' a xs := by
  rcases h with h | h
  · exact Or.inl (e.rd h)
  · exact Or.inr h

/-! ### dice: a list of three ints whose numbers nobody asks for -/
def diceP (p : Addr) : Heap → Prop := fun h => ∃ (a b c : Int) (t u v : Tok) (n : Nat), h.get? p = some { cls := .type "list", data := .seq #[.int a t, .int b u, .int c v] n }
def diceO (p : Addr) : HO := .ext (diceP p)
abbrev three (a b c : Int) : HO := .lst [.int a, .int b, .int c]
section
variable {P : Program} {w : World} {H H1 : Hp} {h h1 : Heap} {p : Addr} {fs ex : List Addr}
theorem hok_hide {a b c : Int} (x : HOk P w H h) (e : H p = some (three a b c)) : HOk P w (upd H p (diceO p)) h := by
  intro q o eq
  by_cases hq : q = p
  · subst hq
    rw [upd_same] at eq
    cases eq
    obtain ⟨_, its, n, r, g⟩ := x q _ e
    cases r with
    | cons ra r =>
      cases r with
      | cons rb r =>
        cases r with
        | cons rc r =>
          cases r
          obtain ⟨t, rfl⟩ := ra
          obtain ⟨u, rfl⟩ := rb
          obtain ⟨v, rfl⟩ := rc
          refine ⟨⟨a, b, c, t, u, v, n, g⟩, ⟨_, g⟩, ?_⟩
          rintro h1 h2 ⟨a, b, c, t, u, v, n, g⟩ k
          exact ⟨a, b, c, t, u, v, n, k _ g⟩
  · rw [upd_ne hq] at eq
    refine (x q o eq).stay (fun _ _ _ z => z) (fun b z => ?_) fun b xs z => ?_
    · rw [upd_ne]
      · exact z
      · intro z2
        subst z2
        rw [e] at z
        cases z
    · rw [upd_ne]
      · exact z
      · intro z2
        subst z2
        rw [e] at z
        cases z
theorem hok_show (x : HOk P w H h) (e : H p = some (diceO p)) : ∃ a b c, HOk P w (upd H p (three a b c)) h := by
  obtain ⟨⟨a, b, c, t, u, v, n, g⟩, _, _⟩ := x p _ e
  refine ⟨a, b, c, fun q o eq => ?_⟩
  by_cases hq : q = p
  · subst hq
    rw [upd_same] at eq
    cases eq
    refine ⟨by show 3 ≤ sizeLine; decide, [.int a t, .int b u, .int c v], n, .cons ⟨t, rfl⟩ (.cons ⟨u, rfl⟩ (.cons ⟨v, rfl⟩ .nil)), g⟩
  · rw [upd_ne hq] at eq
    refine (x q o eq).stay (fun _ _ _ z => z) (fun b z => ?_) fun b xs z => ?_
    · rw [upd_ne]
      · exact z
      · intro z2
        subst z2
        rw [e] at z
        cases z
    · rw [upd_ne]
      · exact z
      · intro z2
        subst z2
        rw [e] at z
        cases z
theorem un_hide {xs : List V} (u : Un fs ex H H1 h h1) (e : H1 p = some (.lst xs)) : Un fs ex H (upd H1 p (diceO p)) h h1 where
  keep := u.keep
  slot := u.slot
  free := fun b o g n hx => by
    have z := u.free b o g n hx
    rw [upd_ne (fun q => by subst q; rw [e] at z; cases z)]
    exact z
  there := u.there
  tups := fun b ys g => by
    have z := u.tups b ys g
    rw [upd_ne (fun q => by subst q; rw [e] at z; cases z)]
    exact z
  frzs := fun b o v g => by
    have z := u.frzs b o v g
    rw [upd_ne (fun q => by subst q; rw [e] at z; cases z)]
    exact z
  tbls := fun b ps g => by
    obtain ⟨m, z⟩ := u.tbls b ps g
    refine ⟨m, ?_⟩
    rw [upd_ne (fun q => by subst q; rw [e] at z; cases z)]
    exact z
theorem un_show {o : HO} (u : Un fs ex (upd H p o) H1 h h1) (e : H p = some (diceO p)) : Un fs ex H H1 h h1 where
  keep := fun b o g n => u.keep b o g (by rw [upd_ne (fun q => by subst q; rw [e] at n; cases n)]; exact n)
  slot := fun b o g n => u.slot b o g (by rw [upd_ne (fun q => by subst q; rw [e] at n; cases n)]; exact n)
  free := fun b o g n => u.free b o g (by rw [upd_ne (fun q => by subst q; rw [e] at n; cases n)]; exact n)
  there := u.there
  tups := fun b ys g => u.tups b ys (by rw [upd_ne (fun q => by subst q; rw [e] at g; cases g)]; exact g)
  frzs := fun b o v g => u.frzs b o v (by rw [upd_ne (fun q => by subst q; rw [e] at g; cases g)]; exact g)
  tbls := fun b ps g => u.tbls b ps (by rw [upd_ne (fun q => by subst q; rw [e] at g; cases g)]; exact g)
end
section
variable {P : Program} {w : World} {K : PySem.W.Frag} {mg : Str → Option Value} {base : Heap} {k : Nat} {f : Addr} {fd : FuncData} {ps : List Str} {sp : Sp} {CX : CXT}
/-- a def that reads and writes dice, seen from without -/
theorem fn_dice (F : FnOk P w K mg base CX0 k f fd ps sp) : FnOk P w K mg base CX0 k f fd ps (fun vs H Q E => vs.length = ps.length ∧ ∃ p, H p = some (diceO p) ∧
    ∀ a b c, sp vs (upd H p (three a b c)) (fun v H' => (∃ a' b' c', H' p = some (three a' b' c')) ∧ Q v (upd H' p (diceO p))) E) := by
  refine ⟨fun vs H Q E h => h.1, fun A outer s H args us vs Q E hr he hb hv hs => ?_⟩
  obtain ⟨_, p, hp, hs⟩ := hs
  obtain ⟨a, b, c, hok⟩ := hok_show he.hok hp
  have he' : Env0 P w K mg base A outer s (upd H p (three a b c)) := ⟨he.frames, he.mod, fun q o g => by
    obtain ⟨z1, z2⟩ := he.bs q o g
    refine ⟨z1, ?_⟩
    rw [upd_ne (fun y => by subst y; rw [hp] at z2; cases z2)]
    exact z2, he.bsz, he.funs, fun q g => by
    have z2 := he.frf q g
    rw [upd_ne (fun y => by subst y; rw [hp] at z2; cases z2)]
    exact z2, hok, he.bare⟩
  refine codeAny_mono (F.run A outer s _ args us vs _ E hr he' hb hv (hs a b c)) fun r s' h => ?_
  match r, h with
  | .ok (.ret u), h =>
    obtain ⟨v, H', os, bare, un, hok', rv, ⟨a', b', c', e'⟩, q⟩ := h
    exact ⟨v, upd H' p (diceO p), os, bare, un_hide (un_show un hp) e', hok_hide hok' e', rv, q⟩
/-- a def that makes dice -/
theorem fn_mkdice (F : FnOk P w K mg base CX0 k f fd ps sp) : FnOk P w K mg base CX0 k f fd ps (fun vs H Q E => sp vs H (fun v H' => ∃ p a b c, v = .ref p ∧ H' p = some (three a b c) ∧ Q (.ref p) (upd H' p (diceO p))) E) := by
  refine ⟨fun vs H Q E h => F.len _ _ _ _ h, fun A outer s H args us vs Q E hr he hb hv hs => ?_⟩
  refine codeAny_mono (F.run A outer s _ args us vs _ E hr he hb hv hs) fun r s' h => ?_
  match r, h with
  | .ok (.ret u), h =>
    obtain ⟨v, H', os, bare, un, hok', rv, p, a, b, c, rfl, e, q⟩ := h
    exact ⟨.ref p, upd H' p (diceO p), os, bare, un_hide un e, hok_hide hok' e, rv, q⟩
end
theorem upd_id {H : Hp} {p : Addr} {o : HO} (h : H p = some o) : upd H p o = H := by
  funext q
  by_cases e : q = p
  · subst e
    rw [upd_same, h]
  · rw [upd_ne e]

/-! ### a def of the text, for its callers -/
structure Cal (P : Program) (w : World) (K : PySem.W.Frag) (mg : Str → Option Value) (base : Heap) (x : Str) (k : Nat) (ps : List Str) (sp : Sp) : Prop where
  ex : ∃ (f : Addr) (fd : FuncData), FnOk P w K mg base CX0 k f fd ps sp ∧ mg x = some (.ref f) ∧ PySem.W.keepIn K (.ref f) = true ∧ Binds K fd ps []
section
variable {X : Cx} {k : Nat} {ps : List Str} {sp : Sp} {x : Str} {p pos : Pos} {e : Expr} {es : List Expr} {t : TA}
theorem pe_cal (C : Cal X.prog X.w X.K X.mg X.base x k ps sp) (hr : Room k X.A) (hg : Gl X x) (ha : PA X (e :: es) t) (hdb : (x == ("__debug__" : Str)) = false := by decide)
    (he : starEach (e :: es) X.env = (false, eval e X.env) :: starEach es X.env := by rfl) (hpl : (backTo pos (starEach es X.env)).any (·.1) = false := by rfl) :
    PE X (.Call (.Name x p) (e :: es) [] pos) (tCall sp [] E0 t) := by
  obtain ⟨f, fd, F, hm, hk, hb⟩ := C.ex
  exact pe_call F hr hg hm hk hb .nil pass0 ha hdb he hpl
theorem pe_cal0 (C : Cal X.prog X.w X.K X.mg X.base x k ps sp) (hr : Room k X.A) (hg : Gl X x) (hdb : (x == ("__debug__" : Str)) = false := by decide) :
    PE X (.Call (.Name x p) [] [] pos) (tCall sp [] E0 tNil) := by
  obtain ⟨f, fd, F, hm, hk, hb⟩ := C.ex
  exact pe_call0 F hr hg hm hk hb .nil pass0 hdb
end

/-! ### operators -/
section
variable {X : Cx}
def CPowW (i j : Int) : Prop := 0 ≤ j ∧ (Builtin.Int.intBits i : Int) * j ≤ 2 ^ 27
theorem op_powW : OpR X (binaryOp .Pow) (rI CPowW fun i j => .int (i ^ j.toNat)) := opI fun _ _ _ _ _ _ _ hc q => pow_int hc.1 hc.2 q
theorem call_reprB : CallR X (.builtin "repr") (fun xs H Q => ∃ b, xs = [.bl b] ∧ Q (.str (if b then "True" else "False")) H) := by
  intro pins s σ H xs us Q I r h
  obtain ⟨b, rfl, q⟩ := h
  obtain ⟨u, rfl, ru⟩ := vals1 r
  obtain rfl : u = Value.bool b := ru
  exact PySem.P.repr_of_bool ⟨.str _, H, I.tok _, ⟨_, rfl⟩, q⟩
end

/-! ### what is evaluated, by what is true of it, on heaps that grow -/
abbrev Ty := V → Hp → Prop
def Mono (Φ : Ty) : Prop := ∀ v H H', Gx H H' → Φ v H → Φ v H'
def EvG (te : TE) (σ : L2.St) (H : Hp) (Φ : Ty) : Prop := ∀ H1, Gx H H1 → ∀ Q : VK, (∀ v H2, Gx H1 H2 → Φ v H2 → Q v H2) → te σ H1 Q
def EvGs (ta : TA) (σ : L2.St) (H : Hp) (Ψ : List V → Hp → Prop) : Prop := ∀ H1, Gx H H1 → ∀ Q : List V → Hp → Prop, (∀ vs H2, Gx H1 H2 → Ψ vs H2 → Q vs H2) → ta σ H1 Q
section
variable {σ : L2.St} {H H' : Hp} {te ta tb : TE} {tr : TA} {Φ Φ' : Ty} {v : V} {Q : VK}
theorem EvG.use (h : EvG te σ H Φ) (k : ∀ v H2, Gx H H2 → Φ v H2 → Q v H2) : te σ H Q := h H (Gx.refl H) Q k
theorem EvGs.use {Ψ : List V → Hp → Prop} {Q : List V → Hp → Prop} (h : EvGs tr σ H Ψ) (k : ∀ vs H2, Gx H H2 → Ψ vs H2 → Q vs H2) : tr σ H Q := h H (Gx.refl H) Q k
theorem EvG.mono (e : Gx H H') (h : EvG te σ H Φ) : EvG te σ H' Φ := fun H1 a Q q => h H1 (e.trans a) Q q
theorem EvG.imp (h : EvG te σ H Φ) (i : ∀ v H2, Gx H H2 → Φ v H2 → Φ' v H2) : EvG te σ H Φ' := fun H1 a Q q => h H1 a Q fun v H2 e f => q v H2 e (i v H2 (a.trans e) f)
theorem evg_var {i : Nat} (h : σ[i]? = some (some v)) (m : ∀ H1, Gx H H1 → Φ v H1) : EvG (tVar i) σ H Φ := fun H1 e _ q => ⟨v, h, q v H1 (Gx.refl H1) (m H1 e)⟩
theorem evg_c (m : ∀ H1, Gx H H1 → Φ v H1) : EvG (tC v) σ H Φ := fun H1 e _ q => q v H1 (Gx.refl H1) (m H1 e)
theorem evgs_nil {Ψ : List V → Hp → Prop} (m : ∀ H1, Gx H H1 → Ψ [] H1) : EvGs tNil σ H Ψ := fun H1 e _ q => q [] H1 (Gx.refl H1) (m H1 e)
theorem evgs_cons {Ψ : List V → Hp → Prop} (h : EvG ta σ H Φ) (k : ∀ v H1, Gx H H1 → Φ v H1 → EvGs tr σ H1 (fun vs H2 => Ψ (v :: vs) H2)) : EvGs (tCons ta tr) σ H Ψ := fun H1 e _ q =>
  h H1 e _ fun v H2 e2 f => (k v H2 (e.trans e2) f) H2 (Gx.refl H2) _ fun vs H3 e3 g => q (v :: vs) H3 (e2.trans e3) g
/-- all of one kind -/
def AllT (Φ : Ty) (n : Nat) : List V → Hp → Prop := fun vs H => vs.length = n ∧ ∀ x ∈ vs, Φ x H
theorem AllT.mono {n : Nat} {vs : List V} (m : Mono Φ) (e : Gx H H') (h : AllT Φ n vs H) : AllT Φ n vs H' := ⟨h.1, fun x hx => m _ _ _ e (h.2 x hx)⟩
theorem evgs_none : EvGs tNil σ H (AllT Φ 0) := evgs_nil fun _ _ => ⟨rfl, fun x h => by cases h⟩
theorem evgs_more {n : Nat} (m : Mono Φ) (h : EvG ta σ H Φ) (k : ∀ H1, Gx H H1 → EvGs tr σ H1 (AllT Φ n)) : EvGs (tCons ta tr) σ H (AllT Φ (n + 1)) :=
  evgs_cons h fun v H1 e f => fun H2 e2 Q q => k H1 e H2 e2 Q fun vs H3 e3 g => q vs H3 e3 ⟨by rw [List.length_cons, g.1], fun x hx => by
    rcases List.mem_cons.mp hx with rfl | hx
    · exact m _ _ _ (e2.trans e3) f
    · exact g.2 x hx⟩
theorem evg_tup {Ψ : List V → Hp → Prop} (h : EvGs tr σ H Ψ) (hl : ∀ vs H1, Ψ vs H1 → vs.length ≤ 100000) (m : ∀ vs p H1 H2, Ψ vs H1 → Gx H1 H2 → H1 p = none → H2 p = some (.tup vs) → Φ (.ref p) H2) : EvG (tTup tr) σ H Φ := fun H1 e Q q =>
  h H1 e _ fun vs H2 e2 g => ⟨Evl.sz_of (hl vs H2 g), fun p hp => q _ _ (e2.trans (Gx.new hp)) (m vs p H2 _ g (Gx.new hp) hp upd_same)⟩
theorem evg_lst {Ψ : List V → Hp → Prop} (h : EvGs tr σ H Ψ) (hl : ∀ vs H1, Ψ vs H1 → vs.length ≤ 100000) (m : ∀ vs p H1 H2, Ψ vs H1 → Gx H1 H2 → H1 p = none → H2 p = some (.lst vs) → Φ (.ref p) H2) : EvG (tLst tr) σ H Φ := fun H1 e Q q =>
  h H1 e _ fun vs H2 e2 g => ⟨Evl.sz_of (hl vs H2 g), fun p hp => q _ _ (e2.trans (Gx.new hp)) (m vs p H2 _ g (Gx.new hp) hp upd_same)⟩
end
/-- heaps in which all stays but what lists hold -/
def Kx (H H' : Hp) : Prop := ∀ a o, H a = some o → H' a = some o ∨ ∃ xs ys, o = .lst xs ∧ H' a = some (.lst ys)
theorem Gx.k {H H' : Hp} (e : Gx H H') : Kx H H' := fun a o h => .inl (e a o h)
theorem Kx.refl (H : Hp) : Kx H H := fun _ _ h => .inl h
theorem Kx.trans {H H1 H2 : Hp} (a : Kx H H1) (b : Kx H1 H2) : Kx H H2 := fun x o h => by
  rcases a x o h with h1 | ⟨xs, ys, e, h1⟩
  · exact b x o h1
  · rcases b x _ h1 with h2 | ⟨xs2, ys2, _, h2⟩
    · exact .inr ⟨xs, ys, e, h2⟩
    · exact .inr ⟨xs, ys2, e, h2⟩
theorem Kx.put {H : Hp} {p : Addr} {xs ys : List V} (h : H p = some (.lst xs)) : Kx H (upd H p (.lst ys)) := fun a o e => by
  by_cases q : a = p
  · subst q
    rw [h] at e
    cases e
    exact .inr ⟨xs, ys, rfl, upd_same⟩
  · exact .inl (by rw [upd_ne q]; exact e)
theorem Kx.keep {H H' : Hp} (e : Kx H H') {a : Addr} {o : HO} (h : H a = some o) (n : ∀ xs, o ≠ .lst xs) : H' a = some o := by
  rcases e a o h with h1 | ⟨xs, _, z, _⟩
  · exact h1
  · exact absurd z (n xs)
theorem Kx.tup {H H' : Hp} (e : Kx H H') {a : Addr} {xs : List V} (h : H a = some (.tup xs)) : H' a = some (.tup xs) := e.keep h fun _ z => by cases z
theorem Kx.dice {H H' : Hp} (e : Kx H H') {a : Addr} (h : H a = some (diceO a)) : H' a = some (diceO a) := e.keep h fun _ z => by cases z
/-- true whatever lists hold -/
def Firm (Φ : Ty) : Prop := ∀ v H H', Kx H H' → Φ v H → Φ v H'
theorem Firm.mono {Φ : Ty} (h : Firm Φ) : Mono Φ := fun v H H' e f => h v H H' e.k f
inductive Kd | non | bl | int | str | lst | tup | dic | own
  deriving DecidableEq
/-- the answer of isinstance of such a value and a built-in type -/
def kdIs : Kd → String → Bool
  | .bl, n => n == "bool" || n == "int"
  | .int, n => n == "int"
  | .str, n => n == "str"
  | .lst, n => n == "list"
  | .tup, n => n == "tuple"
  | .dic, n => n == "dict"
  | _, _ => false
/-- the built-in types that are asked for -/
def asked : List String := ["int", "bool", "str", "list", "tuple", "dict"]
/-- a class of the text whose instances are none of these -/
structure Own (K : PySem.W.Frag) (C : Addr) : Prop where
  cl : Cls K C
  ha : PySem.W.findIn K (.ref C) "__class__" = some (some (.builtin "object.__class__"))
  hn : PySem.W.specialIn K (.builtin "object.__class__") "__get__" = some (some (.builtin "getset_descriptor.__get__"))
  htk : PySem.W.takesIn K (.builtin "object.__class__") = some true
  hm : PySem.W.mroIn K C (.type "object") = some true
  no : ∀ n ∈ asked, PySem.W.kitOne K (.ref C) (.type n) = some false
/-- a plain value of a built-in type, or an instance -/
inductive Pl (K : PySem.W.Frag) (H : Hp) : V → Kd → Prop
  | non : Pl K H .non .non
  | bl (b : Bool) : Pl K H (.bl b) .bl
  | int (i : Int) : Pl K H (.int i) .int
  | str (x : Str) : Pl K H (.str x) .str
  | lst {a : Addr} {xs : List V} (e : H a = some (.lst xs)) : Pl K H (.ref a) .lst
  | tup {a : Addr} {xs : List V} (e : H a = some (.tup xs)) : Pl K H (.ref a) .tup
  | dK {a : Addr} {kvs : List (Key × V)} (e : H a = some (.dK kvs)) : Pl K H (.ref a) .dic
  | own {a C dx : Addr} {fs : List (Str × V)} (e : H a = some (.ins C dx fs)) (o : Own K C) : Pl K H (.ref a) .own
theorem Pl.isi {K : PySem.W.Frag} {H : Hp} {v : V} {k : Kd} (h : Pl K H v k) {n : String} (hn : n ∈ asked) : ∃ t, TyX K H v t ∧ PySem.W.kitOne K t (.type n) = some (kdIs k n) := by
  have go : ∀ (t : String) (k : Kd), (∀ m ∈ asked, kitB t m = some (kdIs k m)) → PySem.W.kitOne K (.type t) (.type n) = some (kdIs k n) := fun t k q => kit_ty (q n hn)
  cases h with
  | non => exact ⟨_, .base .non, go _ _ (by decide +kernel)⟩
  | bl b => exact ⟨_, .base (.bl b), go _ _ (by decide +kernel)⟩
  | int i => exact ⟨_, .base (.int i), go _ _ (by decide +kernel)⟩
  | str x => exact ⟨_, .base (.str x), go _ _ (by decide +kernel)⟩
  | lst e => exact ⟨_, .base (.lst e), go _ _ (by decide +kernel)⟩
  | tup e => exact ⟨_, .base (.tup e), go _ _ (by decide +kernel)⟩
  | dK e => exact ⟨_, .base (.dK e), go _ _ (by decide +kernel)⟩
  | own e o => exact ⟨_, .base (.ins e o.cl o.ha o.hn o.htk o.hm), o.no n hn⟩
theorem Pl.firm {K : PySem.W.Frag} {k : Kd} : Firm (fun v H => Pl K H v k) := fun v H H' e h => by
  cases h with
  | non => exact .non
  | bl b => exact .bl b
  | int i => exact .int i
  | str x => exact .str x
  | lst h =>
    rcases e _ _ h with h1 | ⟨_, _, _, h1⟩
    · exact .lst h1
    · exact .lst h1
  | tup h => exact .tup (e.tup h)
  | dK h => exact .dK (e.keep h fun _ z => by cases z)
  | own h o => exact .own (e.keep h fun _ z => by cases z) o
theorem Pl.gx {K : PySem.W.Frag} {H H' : Hp} {v : V} {k : Kd} (e : Gx H H') (h : Pl K H v k) : Pl K H' v k := Pl.firm v H H' e.k h

section
variable {X : Cx} {x : Str} {pos : Pos}
theorem pe_ty (n : String) (hg : Gl X x) (hm : X.mg x = none) (hv : bootBuiltins x = some (.type n)) (hn : x ≠ "__name__" := by decide) (hd : (x == ("__debug__" : Str)) = false := by decide) : PE X (.Name x pos) (tC (.ty n)) := pe_bltn hg hm hv rfl hn hd
theorem pe_gint {i : Int} {t : Tok} (hg : Gl X x) (hm : X.mg x = some (.int i t)) (hd : (x == ("__debug__" : Str)) = false := by decide) : PE X (.Name x pos) (tC (.int i)) := pe_glob hg hm ⟨t, rfl⟩ hd
theorem pe_gstr {i : Str} {t : Tok} (hg : Gl X x) (hm : X.mg x = some (.str i t)) (hd : (x == ("__debug__" : Str)) = false := by decide) : PE X (.Name x pos) (tC (.str i)) := pe_glob hg hm ⟨t, rfl⟩ hd
theorem pe_gref {a : Addr} (hg : Gl X x) (hm : X.mg x = some (.ref a)) (hd : (x == ("__debug__" : Str)) = false := by decide) : PE X (.Name x pos) (tC (.ref a)) := pe_glob hg hm rfl hd
end

/-! ### ints, new lists, drawn items -/
def IntT (P : Int → Prop) : Ty := fun v _ => ∃ i, v = .int i ∧ P i
def BlT (P : Bool → Prop) : Ty := fun v _ => ∃ b, v = .bl b ∧ P b
def EvN (te : TE) (σ : L2.St) (H : Hp) (Φ : Addr → Hp → Prop) : Prop := ∀ H1, Gx H H1 → ∀ Q : VK, (∀ p H2, Gx H1 H2 → H1 p = none → Φ p H2 → Q (.ref p) H2) → te σ H1 Q
section
variable {K : PySem.W.Frag} {σ : L2.St} {H H' : Hp} {te ta tb : TE} {tr : TA} {Φ Φ' : Ty} {v : V} {Q : VK}
theorem EvN.use {Φ : Addr → Hp → Prop} (h : EvN te σ H Φ) (k : ∀ p H2, Gx H H2 → H p = none → Φ p H2 → Q (.ref p) H2) : te σ H Q := h H (Gx.refl H) Q k
theorem EvN.g {Φ : Addr → Hp → Prop} (h : EvN te σ H Φ) (k : ∀ p H1 H2, Gx H H1 → H1 p = none → Gx H1 H2 → Φ p H2 → Φ' (.ref p) H2) : EvG te σ H Φ' := fun H1 e Q q => h H1 e Q fun p H2 e2 n f => q _ H2 e2 (k p H1 H2 e n e2 f)
theorem evg_I {P R : Int → Prop} {C : Int → Int → Prop} {g : Int → Int → V} (ha : EvG ta σ H (IntT P)) (hb : EvG tb σ H (IntT R)) (hc : ∀ i j, P i → R j → C i j) (m : ∀ i j, P i → R j → ∀ H1, Gx H H1 → Φ (g i j) H1) : EvG (tOp (rI C g) ta tb) σ H Φ := fun H1 e Q q =>
  ha H1 e _ fun _ H2 e2 ⟨i, z, p⟩ => hb H2 (e.trans e2) _ fun _ H3 e3 ⟨j, z2, r⟩ => ⟨i, j, z, z2, hc i j p r, q _ H3 (e2.trans e3) (m i j p r H3 ((e.trans e2).trans e3))⟩
theorem evg_I0 {P R : Int → Prop} {g : Int → Int → V} (ha : EvG ta σ H (IntT P)) (hb : EvG tb σ H (IntT R)) (m : ∀ i j, P i → R j → ∀ H1, Gx H H1 → Φ (g i j) H1) : EvG (tOp (rI0 g) ta tb) σ H Φ := fun H1 e Q q =>
  ha H1 e _ fun _ H2 e2 ⟨i, z, p⟩ => hb H2 (e.trans e2) _ fun _ H3 e3 ⟨j, z2, r⟩ => ⟨i, j, z, z2, q _ H3 (e2.trans e3) (m i j p r H3 ((e.trans e2).trans e3))⟩
theorem evg_U {P : Int → Prop} {g : Int → V} (ha : EvG ta σ H (IntT P)) (m : ∀ i, P i → ∀ H1, Gx H H1 → Φ (g i) H1) : EvG (tUn (rU g) ta) σ H Φ := fun H1 e Q q =>
  ha H1 e _ fun _ H2 e2 ⟨i, z, p⟩ => ⟨i, z, q _ H2 e2 (m i p H2 (e.trans e2))⟩
theorem evg_i (i : Int) : EvG (tC (.int i)) σ H (IntT fun j => j = i) := evg_c fun _ _ => ⟨i, rfl, rfl⟩
theorem evg_vi {n : Nat} {i : Int} (h : σ[n]? = some (some (.int i))) : EvG (tVar n) σ H (IntT fun j => j = i) := evg_var h fun _ _ => ⟨i, rfl, rfl⟩
theorem evn_lst {Ψ : List V → Hp → Prop} {Φ : Addr → Hp → Prop} (h : EvGs tr σ H Ψ) (hl : ∀ vs H1, Ψ vs H1 → vs.length ≤ 100000) (m : ∀ vs p H1 H2, Gx H H1 → Ψ vs H1 → Gx H1 H2 → H1 p = none → H2 p = some (.lst vs) → Φ p H2) : EvN (tLst tr) σ H Φ := fun H1 e Q q =>
  h H1 e _ fun vs H2 e2 g => ⟨Evl.sz_of (hl vs H2 g), fun p hp => q _ _ (e2.trans (Gx.new hp)) (e2.free hp) (m vs p H2 _ (e.trans e2) g (Gx.new hp) hp upd_same)⟩
theorem evn_tup {Ψ : List V → Hp → Prop} {Φ : Addr → Hp → Prop} (h : EvGs tr σ H Ψ) (hl : ∀ vs H1, Ψ vs H1 → vs.length ≤ 100000) (m : ∀ vs p H1 H2, Gx H H1 → Ψ vs H1 → Gx H1 H2 → H1 p = none → H2 p = some (.tup vs) → Φ p H2) : EvN (tTup tr) σ H Φ := fun H1 e Q q =>
  h H1 e _ fun vs H2 e2 g => ⟨Evl.sz_of (hl vs H2 g), fun p hp => q _ _ (e2.trans (Gx.new hp)) (e2.free hp) (m vs p H2 _ (e.trans e2) g (Gx.new hp) hp upd_same)⟩
/-- a list of things of one kind, at a place -/
def Lof (Φ : Ty) (n : Nat) : Addr → Hp → Prop := fun p H => ∃ xs, H p = some (.lst xs) ∧ AllT Φ n xs H
def LofT (Φ : Ty) (n : Nat) : Ty := fun v H => ∃ p, v = .ref p ∧ Lof Φ n p H
theorem Lof.mono {n : Nat} {p : Addr} (m : Mono Φ) (e : Gx H H') (h : Lof Φ n p H) : Lof Φ n p H' := by
  obtain ⟨xs, h1, h2⟩ := h
  exact ⟨xs, e _ _ h1, h2.mono m e⟩
theorem LofT.mono {n : Nat} (m : Mono Φ) : Mono (LofT Φ n) := fun _ _ _ e ⟨p, h1, h2⟩ => ⟨p, h1, h2.mono m e⟩
theorem evn_all {n : Nat} (m : Mono Φ) (h : EvGs tr σ H (AllT Φ n)) (hn : n ≤ 100000) : EvN (tLst tr) σ H (Lof Φ n) :=
  evn_lst h (fun vs _ g => by rw [g.1]; exact hn) fun vs p _ _ _ g e2 _ hp => ⟨vs, hp, g.mono m e2⟩
theorem evg_all {n : Nat} (m : Mono Φ) (h : EvGs tr σ H (AllT Φ n)) (hn : n ≤ 100000) : EvG (tLst tr) σ H (LofT Φ n) := (evn_all m h hn).g fun p _ _ _ _ _ f => ⟨p, rfl, f⟩
theorem evn_cat {n k : Nat} (m : Mono Φ) (ha : EvG ta σ H (LofT Φ n)) (hb : EvG tb σ H (LofT Φ k)) (hn : n + k ≤ 100000) : EvN (tOp rCat ta tb) σ H (Lof Φ (n + k)) := fun H1 e Q q =>
  ha H1 e _ fun _ H2 e2 ⟨a, z, fa⟩ => hb H2 (e.trans e2) _ fun _ H3 e3 ⟨b, z2, ys, h1, h2⟩ => by
    obtain ⟨xs, h3, h4⟩ := fa.mono m e3
    refine ⟨a, b, xs, ys, z, z2, h3, h1, Evl.sz_of (by rw [h4.1, h2.1]; exact hn), fun p hp => q p _ ((e2.trans e3).trans (Gx.new hp)) ((e2.trans e3).free hp) ⟨_, upd_same, ?_⟩⟩
    refine ⟨by rw [List.length_append, h4.1, h2.1], fun x hx => m _ _ _ (Gx.new hp) ?_⟩
    rcases List.mem_append.mp hx with hx | hx
    · exact h4.2 x hx
    · exact h2.2 x hx
end

/-! ### the promises of the dice's defs -/
def spDice0 (K : PySem.W.Frag) : Sp := fun vs H Q _ => ∃ (a : Addr) (ns : List Int) (n : Nat), vs = [.ref a, .int n] ∧ SqL K H a (ns.map V.int) ∧
  ∀ p x y z, H p = none → Q (.ref p) (upd H p (three x y z))
def spDice (K : PySem.W.Frag) : Sp := fun vs H Q _ => ∃ (a : Addr) (ns : List Int) (n : Nat), vs = [.ref a, .int n] ∧ SqL K H a (ns.map V.int) ∧
  ∀ p, H p = none → Q (.ref p) (upd H p (diceO p))
def spRoll0 : Sp := fun vs H Q _ => ∃ (p : Addr) (t a b c : Int), vs = [.ref p, .int t] ∧ 0 < t ∧ t < 1073741824 ∧ H p = some (three a b c) ∧
  ∀ r a' b' c', 0 ≤ r → r < t → Q (.int r) (upd H p (three a' b' c'))
def spRoll : Sp := fun vs H Q _ => ∃ (p : Addr) (t : Int), vs = [.ref p, .int t] ∧ 0 < t ∧ t < 1073741824 ∧ H p = some (diceO p) ∧ ∀ r, 0 ≤ r → r < t → Q (.int r) H
def spPick (K : PySem.W.Frag) : Sp := fun vs H Q _ => ∃ (p l : Addr) (xs : List V), vs = [.ref p, .ref l] ∧ H p = some (diceO p) ∧ SqL K H l xs ∧ 0 < xs.length ∧ xs.length < 1073741824 ∧ ∀ (j : Nat) x, xs[j]? = some x → Q x H
section
variable {K : PySem.W.Frag} {σ : L2.St} {H H' : Hp} {td tl : TE} {Φ : Ty} {p : Addr}
def DiceT : Ty := fun v H => ∃ p, v = .ref p ∧ H p = some (diceO p)
theorem DiceT.mono : Mono DiceT := fun _ _ _ e ⟨p, h1, h2⟩ => ⟨p, h1, e _ _ h2⟩
theorem evg_dice {i : Nat} (h : σ[i]? = some (some (.ref p))) (hp : H p = some (diceO p)) : EvG (tVar i) σ H DiceT := evg_var h fun _ e => ⟨p, rfl, e _ _ hp⟩
theorem evg_pick {n : Nat} (hd : EvG td σ H DiceT) (hl : EvG tl σ H (LofT Φ n)) (hn : 0 < n ∧ n ≤ 100000) : EvG (tCall (spPick K) [] E0 (tCons td (tCons tl tNil))) σ H Φ := fun H1 e Q q =>
  hd H1 e _ fun _ H2 e2 ⟨p, z, hp⟩ => hl H2 (e.trans e2) _ fun _ H3 e3 ⟨l, z2, xs, h1, h2⟩ => by
    subst z
    subst z2
    exact ⟨p, l, xs, rfl, e3 _ _ hp, SqL.of h1, by rw [h2.1]; exact hn.1, by rw [h2.1]; omega, fun j x hx => q x H3 (e2.trans e3) (h2.2 x (List.mem_of_getElem? hx))⟩
theorem evg_roll {R : Int → Prop} {tt : TE} (hd : EvG td σ H DiceT) (ht : EvG tt σ H (IntT R)) (hR : ∀ i, R i → 0 < i ∧ i ≤ 100000) (m : ∀ r i, R i → 0 ≤ r → r < i → ∀ H1, Gx H H1 → Φ (.int r) H1) : EvG (tCall spRoll [] E0 (tCons td (tCons tt tNil))) σ H Φ := fun H1 e Q q =>
  hd H1 e _ fun _ H2 e2 ⟨p, z, hp⟩ => ht H2 (e.trans e2) _ fun _ H3 e3 ⟨i, z2, hi⟩ => by
    subst z
    subst z2
    have h := hR i hi
    exact ⟨p, i, rfl, h.1, by omega, e3 _ _ hp, fun r h1 h2 => q _ H3 (e2.trans e3) (m r i hi h1 h2 H3 ((e.trans e2).trans e3))⟩
end

/-! ### statements -/
section
variable {K : PySem.W.Frag} {σ : L2.St} {H : Hp} {te tl : TE} {ta : TA} {tz tu tw tb : TS} {tt : TT} {D : Ends} {Φ : Ty} {i j : Nat}
theorem g_asg (h : EvG te σ H Φ) (k : ∀ v H1, Gx H H1 → Φ v H1 → tz D (σ.set i (some v)) H1) : tSeq (tAsg te (gName i)) tz D σ H := h H (Gx.refl H) _ fun v H1 e f => k v H1 e f
theorem g_asgN {Φ : Addr → Hp → Prop} (h : EvN te σ H Φ) (k : ∀ p H1, Gx H H1 → H p = none → Φ p H1 → tz D (σ.set i (some (.ref p))) H1) : tSeq (tAsg te (gName i)) tz D σ H := h H (Gx.refl H) _ fun v H1 e n f => k v H1 e n f
theorem g_par {Ψ : List V → Hp → Prop} (h : EvGs ta σ H Ψ) (k : ∀ vs H1, Gx H H1 → Ψ vs H1 → ∃ v w, vs = [v, w] ∧ tz D ((σ.set i (some v)).set j (some w)) H1) : tSeq (tPar i j ta) tz D σ H := h H (Gx.refl H) _ fun vs H1 e f => k vs H1 e f
theorem g_ret (h : EvG te σ H Φ) (k : ∀ v H1, Gx H H1 → Φ v H1 → D.rt v H1) : tRet te D σ H := h H (Gx.refl H) _ fun v H1 e f => k v H1 e f
theorem g_drop (h : EvG te σ H Φ) (k : ∀ v H1, Gx H H1 → Φ v H1 → tz D σ H1) : tSeq (tDrop te) tz D σ H := h H (Gx.refl H) _ fun v H1 e f => k v H1 e f
/-- a test -/
def EvB (tt : TT) (σ : L2.St) (H : Hp) (R : Bool → Prop) : Prop := ∀ H1, Gx H H1 → ∀ Q : Bool → Hp → Prop, (∀ b H2, Gx H1 H2 → R b → Q b H2) → tt σ H1 Q
theorem g_if {R : Bool → Prop} (h : EvB tt σ H R) (k1 : R true → ∀ H1, Gx H H1 → tu { D with nx := tz D } σ H1) (k2 : R false → ∀ H1, Gx H H1 → tw { D with nx := tz D } σ H1) : tSeq (tIfS tt tu tw) tz D σ H := h H (Gx.refl H) _ fun b H1 e f => by
  cases b with
  | true => exact iteT (k1 f H1 e)
  | false => exact iteF (k2 f H1 e)
theorem g_when {R : Bool → Prop} (h : EvB tt σ H R) (k1 : R true → ∀ H1, Gx H H1 → tu { D with nx := tz D } σ H1) (k2 : R false → ∀ H1, Gx H H1 → tz D σ H1) : tSeq (tIfS tt tu tNext) tz D σ H := g_if h k1 k2
theorem g_when1 {R : Bool → Prop} (h : EvB tt σ H R) (k1 : R true → ∀ H1, Gx H H1 → tu D σ H1) (k2 : R false → ∀ H1, Gx H H1 → D.nx σ H1) : tIfS tt tu tNext D σ H := h H (Gx.refl H) _ fun b H1 e f => by
  cases b with
  | true => exact iteT (k1 f H1 e)
  | false => exact iteF (k2 f H1 e)
theorem evb_test {R : Bool → Prop} (h : EvG te σ H (BlT R)) : EvB (tTest te) σ H R := fun H1 e Q q => h H1 e _ fun v H2 e2 ⟨b, z, r⟩ => ⟨b, z, q b H2 e2 r⟩
theorem evb_B {R : Bool → Prop} (h : EvG te σ H (BlT R)) : EvB (tB te) σ H R := fun H1 e Q q => h H1 e _ fun v H2 e2 ⟨b, z, r⟩ => ⟨b, z, q b H2 e2 r⟩
/-- for x in a new list of things of one kind; Pv is kept from turn to turn -/
theorem g_forN {n : Nat} (h : EvN tl σ H (Lof Φ n)) (Pv : Addr → List V → Nat → L2.St → Hp → Prop)
    (h0 : ∀ p xs H1, Gx H H1 → H p = none → H1 p = some (.lst xs) → AllT Φ n xs H1 → Pv p xs 0 σ H1) (hl : ∀ p xs i σ' H', Pv p xs i σ' H' → SqL K H' p xs)
    (hs : ∀ p xs i x σ' H', xs[i]? = some x → Pv p xs i σ' H' → tb { D with nx := Pv p xs (i + 1), ct := Pv p xs (i + 1), bk := fun σ H => tz D σ H } (σ'.set j (some x)) H')
    (hd : ∀ p xs σ' H', Pv p xs n σ' H' → tz D σ' H') : tSeq (tFor (iList K tl) (gName j) tb) tz D σ H := h H (Gx.refl H) _ fun p H1 e nw ⟨xs, h1, h2⟩ => by
  refine ⟨p, rfl, ⟨xs, SqL.of h1⟩, for_list (K := K) (a := p) (xs := xs) (D := { D with nx := tz D }) (Pv p xs) (h0 p xs H1 e nw h1 h2) (fun i σ H _ q => hl p xs i σ H q) (fun i x σ' H' hx q => hs p xs i x σ' H' hx q) fun σ' H' q => hd p xs σ' H' ?_⟩
  rw [h2.1] at q
  exact q
theorem g_forL {n : Nat} (h : EvG tl σ H (LofT Φ n)) (Pv : Addr → List V → Nat → L2.St → Hp → Prop)
    (h0 : ∀ p xs H1, Gx H H1 → H1 p = some (.lst xs) → AllT Φ n xs H1 → Pv p xs 0 σ H1) (hl : ∀ p xs i σ' H', Pv p xs i σ' H' → SqL K H' p xs)
    (hs : ∀ p xs i x σ' H', xs[i]? = some x → Pv p xs i σ' H' → tb { D with nx := Pv p xs (i + 1), ct := Pv p xs (i + 1), bk := fun σ H => tz D σ H } (σ'.set j (some x)) H')
    (hd : ∀ p xs σ' H', Pv p xs n σ' H' → tz D σ' H') : tSeq (tFor (iList K tl) (gName j) tb) tz D σ H := h H (Gx.refl H) _ fun v H1 e ⟨p, z, xs, h1, h2⟩ => by
  refine ⟨p, z, ⟨xs, SqL.of h1⟩, for_list (K := K) (a := p) (xs := xs) (D := { D with nx := tz D }) (Pv p xs) (h0 p xs H1 e h1 h2) (fun i σ H _ q => hl p xs i σ H q) (fun i x σ' H' hx q => hs p xs i x σ' H' hx q) fun σ' H' q => hd p xs σ' H' ?_⟩
  rw [h2.1] at q
  exact q
/-- for x in range(..) -/
theorem g_forR {R : Int → Prop} (h : EvGs ta σ H (fun vs _ => ∃ k, vs = [.int k] ∧ R k)) (hR : ∀ k, R k → 0 ≤ k ∧ k ≤ 1000000) (Pv : Nat → L2.St → Hp → Prop)
    (h0 : ∀ H1, Gx H H1 → Pv 0 σ H1)
    (hs : ∀ (i : Nat) σ' H', (∃ k, R k ∧ (i : Int) < k) → Pv i σ' H' → tb { D with nx := Pv (i + 1), ct := Pv (i + 1), bk := fun σ H => tz D σ H } (σ'.set j (some (.int i))) H')
    (hd : ∀ (i : Nat) σ' H', R i → Pv i σ' H' → tz D σ' H') : tSeq (tFor (iRng1 ta) (gName j) tb) tz D σ H := h H (Gx.refl H) _ fun vs H1 e ⟨k, z, r⟩ => by
  have hk := hR k r
  refine ⟨k, z, by omega, by omega, for_range (D := { D with nx := tz D }) Pv (h0 H1 e) (fun i σ' H' hi q => ?_) fun σ' H' q => hd k.toNat σ' H' (by rw [show ((k.toNat : Nat) : Int) = k by omega]; exact r) q⟩
  have := hs i σ' H' ⟨k, r, by omega⟩ q
  rw [show (0 : Int) + (i : Int) = (i : Int) by omega]
  exact this
theorem g_forR1 {R : Int → Prop} (h : EvGs ta σ H (fun vs _ => ∃ k, vs = [.int k] ∧ R k)) (hR : ∀ k, R k → 0 ≤ k ∧ k ≤ 1000000) (Pv : Nat → L2.St → Hp → Prop)
    (h0 : ∀ H1, Gx H H1 → Pv 0 σ H1)
    (hs : ∀ (i : Nat) σ' H', (∃ k, R k ∧ (i : Int) < k) → Pv i σ' H' → tb { D with nx := Pv (i + 1), ct := Pv (i + 1), bk := D.nx } (σ'.set j (some (.int i))) H')
    (hd : ∀ (i : Nat) σ' H', R i → Pv i σ' H' → D.nx σ' H') : tFor (iRng1 ta) (gName j) tb D σ H := h H (Gx.refl H) _ fun vs H1 e ⟨k, z, r⟩ => by
  have hk := hR k r
  refine ⟨k, z, by omega, by omega, for_range (D := D) Pv (h0 H1 e) (fun i σ' H' hi q => ?_) fun σ' H' q => hd k.toNat σ' H' (by rw [show ((k.toNat : Nat) : Int) = k by omega]; exact r) q⟩
  have := hs i σ' H' ⟨k, r, by omega⟩ q
  rw [show (0 : Int) + (i : Int) = (i : Int) by omega]
  exact this
end
/-- isinstance(x, T) -/
theorem evg_isi {K : PySem.W.Frag} {σ : L2.St} {H : Hp} {te : TE} {n : String} {R : Bool → Prop} (h : EvG te σ H (fun v H => ∃ k, Pl K H v k ∧ R (kdIs k n))) (hn : n ∈ asked) : EvG (tCB (rIsi K) (tCons te (tCons (tC (.ty n)) tNil))) σ H (BlT R) := fun H1 e Q q =>
  h H1 e _ fun v H2 e2 ⟨k, p, r⟩ => by
    obtain ⟨t, ty, kt⟩ := p.isi hn
    exact ⟨v, .ty n, t, .type n, _, rfl, .ty n, ty, kt, q _ H2 e2 ⟨_, rfl, r⟩⟩

/-! ### what is walked, and comprehensions -/
/-- n turns; the item of turn i and the heap with it meet Y i -/
def EvW (wi : TI) (σ : L2.St) (H : Hp) (n : Nat) (Y : Nat → Ty) : Prop := ∀ H1, Gx H H1 → ∀ R : It → Hp → Prop, (∀ J H2 G Y', Gx H1 H2 → Walk J n G Y' → (∀ H3, Gx H2 H3 → G H3) →
  (∀ i H3 x H4, i < n → Gx H2 H3 → Y' i H3 x H4 → Gx H3 H4 ∧ Y i x H4) → R J H2) → wi σ H1 R
section
variable {K : PySem.W.Frag} {σ : L2.St} {H : Hp} {te tl : TE} {ta : TA} {Φ : Ty}
theorem evw_list {n : Nat} (m : Mono Φ) (h : EvG tl σ H (LofT Φ n)) : EvW (iList K tl) σ H n (fun _ => Φ) := fun H1 e R q =>
  h H1 e _ fun v H2 e2 ⟨p, z, xs, h1, h2⟩ => ⟨p, z, ⟨xs, SqL.of h1⟩, q (Itl K p) H2 (fun H => SqL K H p xs) (YAt xs) e2 (by rw [← h2.1]; exact walk_list (xs := xs)) (fun H3 e3 => SqL.of (e3 _ _ h1))
    (fun i H3 x H4 _ e3 ⟨z4, hx⟩ => by subst z4; exact ⟨Gx.refl _, m _ _ _ e3 (h2.2 x (List.mem_of_getElem? hx))⟩)⟩
/-- a known list, item by item -/
theorem evw_listAt {xs : List V} (h : EvG tl σ H (fun v H => ∃ p, v = .ref p ∧ SqL K H p xs)) : EvW (iList K tl) σ H xs.length (fun i x _ => xs[i]? = some x) := fun H1 e R q =>
  h H1 e _ fun v H2 e2 ⟨p, z, h1⟩ => ⟨p, z, ⟨xs, h1⟩, q _ H2 _ _ e2 (walk_list (xs := xs)) (fun H3 e3 => Gx.l e3 h1)
    (fun i H3 x H4 _ e3 ⟨z4, hx⟩ => by subst z4; exact ⟨Gx.refl _, hx⟩)⟩
theorem evw_tupAt {xs : List V} (h : EvG tl σ H (fun v H => ∃ p, v = .ref p ∧ SqT K H p xs)) : EvW (iTup K tl) σ H xs.length (fun i x _ => xs[i]? = some x) := fun H1 e R q =>
  h H1 e _ fun v H2 e2 ⟨p, z, h1⟩ => ⟨p, z, ⟨xs, h1⟩, q _ H2 _ _ e2 (walk_tup (xs := xs)) (fun H3 e3 => Gx.t e3 h1)
    (fun i H3 x H4 _ e3 ⟨z4, hx⟩ => by subst z4; exact ⟨Gx.refl _, hx⟩)⟩
theorem evw_str {z : Str} (h : EvG te σ H (fun v _ => v = .str z)) : EvW (iStr te) σ H z.cps.size (fun i x _ => ∃ c, z.cps[i]? = some c ∧ x = .str ⟨#[c]⟩) := fun H1 e R q =>
  h H1 e _ fun v H2 e2 hv => ⟨z, hv, q _ H2 _ _ e2 (walk_str (z := z)) (fun _ _ => trivial) (fun i H3 x H4 _ _ ⟨z4, c, h1, h2⟩ => by subst z4; exact ⟨Gx.refl _, c, h1, h2⟩)⟩
theorem evw_rng {k : Int} (h : EvGs ta σ H (fun vs _ => vs = [.int k])) (hk : k ≤ 100000 ∧ -100000 ≤ k) : EvW (iRng1 ta) σ H k.toNat (fun i x _ => x = .int i) := fun H1 e R q =>
  h H1 e _ fun vs H2 e2 hv => ⟨k, hv, by omega, by omega, q _ H2 _ _ e2 (walk_range (lo := 0) (n := k.toNat)) (fun _ _ => trivial) (fun i H3 x H4 _ _ ⟨z4, hx⟩ => by subst z4; exact ⟨Gx.refl _, hx.trans (by show V.int (0 + (i : Int)) = V.int i; rw [Int.zero_add])⟩)⟩
end
/-- what a comprehension gives: the items whose test holds, in order -/
inductive LcR (B : Nat → Bool → Prop) (R : Nat → Ty) (H : Hp) : Nat → List V → Prop
  | nil : LcR B R H 0 []
  | keep {n : Nat} {ys : List V} {y : V} : LcR B R H n ys → B n true → R n y H → LcR B R H (n + 1) (ys ++ [y])
  | skip {n : Nat} {ys : List V} : LcR B R H n ys → B n false → LcR B R H (n + 1) ys
theorem LcR.firm {B : Nat → Bool → Prop} {R : Nat → Ty} {H H' : Hp} (m : ∀ i, Firm (R i)) (e : Kx H H') {n : Nat} {ys : List V} (h : LcR B R H n ys) : LcR B R H' n ys := by
  induction h with
  | nil => exact .nil
  | keep _ b r ih => exact .keep ih b (m _ _ _ _ e r)
  | skip _ b ih => exact .skip ih b
theorem LcR.gx {B : Nat → Bool → Prop} {R : Nat → Ty} {H H' : Hp} (m : ∀ i, Mono (R i)) (e : Gx H H') {n : Nat} {ys : List V} (h : LcR B R H n ys) : LcR B R H' n ys := by
  induction h with
  | nil => exact .nil
  | keep _ b r ih => exact .keep ih b (m _ _ _ _ e r)
  | skip _ b ih => exact .skip ih b
theorem LcR.len {B : Nat → Bool → Prop} {R : Nat → Ty} {H : Hp} {n : Nat} {ys : List V} (h : LcR B R H n ys) : ys.length ≤ n := by
  induction h with
  | nil => exact Nat.le_refl 0
  | keep _ _ _ ih =>
    rw [List.length_append]
    show _ + 1 ≤ _
    omega
  | skip _ _ ih => omega
/-- without a test: item by item -/
theorem LcR.all {B : Nat → Bool → Prop} {R : Nat → Ty} {H : Hp} {n : Nat} {ys : List V} (h : LcR B R H n ys) (hB : ∀ i, ¬ B i false) : ys.length = n ∧ ∀ i y, ys[i]? = some y → R i y H := by
  induction h with
  | nil => exact ⟨rfl, fun i y e => by simp at e⟩
  | @keep n ys y _ _ r ih =>
    refine ⟨by rw [List.length_append, ih.1]; rfl, fun i z e => ?_⟩
    by_cases hi : i < ys.length
    · rw [List.getElem?_append_left hi] at e
      exact ih.2 i z e
    · rw [List.getElem?_append_right (by omega)] at e
      have h0 : i - ys.length = 0 := by
        cases q : i - ys.length with
        | zero => rfl
        | succ m => rw [q] at e; simp at e
      rw [h0] at e
      cases e
      have : i = n := by rw [← ih.1]; omega
      rw [this]
      exact r
  | skip _ b _ => exact absurd b (hB _)
section
variable {K : PySem.W.Frag} {σ : L2.St} {H : Hp} {te : TE} {wi : TI} {g : TG} {tt : TT} {vs : List Nat} {n : Nat}
theorem evn_lc {Y : Nat → Ty} {S : Nat → L2.St → Hp → Prop} {B : Nat → Bool → Prop} {R : Nat → Ty} (hw : EvW wi σ H n Y) (hn : n ≤ 100000)
    (hg : ∀ i x H1, i < n → Gx H H1 → Y i x H1 → ∀ Q : L2.St → Hp → Prop, (∀ σ2, wipe σ2 vs = wipe σ vs → S i σ2 H1 → Q σ2 H1) → g x (wipe σ vs) H1 Q)
    (ht : ∀ i σ2 H1, i < n → Gx H H1 → S i σ2 H1 → EvB tt σ2 H1 (B i)) (ms : ∀ i σ2 H1 H2, Gx H1 H2 → S i σ2 H1 → S i σ2 H2)
    (he : ∀ i σ2 H1, i < n → Gx H H1 → S i σ2 H1 → B i true → EvG te σ2 H1 (R i)) (m : ∀ i, Firm (R i)) :
    EvN (tLc wi g tt te vs) σ H (fun p H' => ∃ ys, H' p = some (.lst ys) ∧ LcR B R H' n ys) := by
  intro H1 e Q q
  refine hw H1 e _ fun J H2 G Y' e2 W hG hY => ?_
  intro D hD
  refine lc_it W (fun i H' => Gx H2 H' ∧ i ≤ n ∧ ∃ ys, H' D = some (.lst ys) ∧ LcR B R H' i ys) ⟨Gx.new hD, Nat.zero_le _, [], upd_same, .nil⟩ (fun i H' _ p => hG H' p.1) ?_ ?_
  · rintro i x H3 H4 hi ⟨e3, _, ys, hys, L⟩ y
    obtain ⟨e4, y⟩ := hY i H3 x H4 hi e3 y
    have e5 := ((e.trans e2).trans e3).trans e4
    refine hg i x H4 hi e5 y _ fun σ2 w s2 => ⟨w, ht i σ2 H4 hi e5 s2 H4 (Gx.refl _) _ fun b H5 e6 hb => ?_⟩
    cases b with
    | true =>
      refine iteT (he i σ2 H5 hi (e5.trans e6) (ms i σ2 H4 H5 e6 s2) hb H5 (Gx.refl _) _ fun y H6 e7 r => ?_)
      have e8 := (e4.trans e6).trans e7
      have hD6 := e8 _ _ hys
      refine ⟨ys, hD6, Evl.sz_lt (by have := L.len; omega), (e3.trans e8).mut hD, hi, ys ++ [y], upd_same, .keep (L.firm m (e8.k.trans (Kx.put hD6))) hb (m _ _ _ _ (Kx.put hD6) r)⟩
    | false =>
      have e8 := e4.trans e6
      exact iteF ⟨e3.trans e8, hi, ys, e8 _ _ hys, .skip (L.firm m e8.k) hb⟩
  · rintro H3 ⟨e3, _, ys, h, L⟩
    exact q D H3 (e2.trans e3) (e2.free hD) ⟨ys, h, L⟩
theorem wipe1 {j : Nat} {x : Option V} : wipe ((wipe σ [j]).set j x) [j] = wipe σ [j] := by
  show ((σ.set j none).set j x).set j none = σ.set j none
  rw [List.set_set, List.set_set]
/-- the target a name -/
theorem evn_lcN {j : Nat} {Y : Nat → Ty} {B : Nat → Bool → Prop} {R : Nat → Ty} (hw : EvW wi σ H n Y) (hn : n ≤ 100000) (my : ∀ i, Mono (Y i))
    (ht : ∀ i x H1, i < n → Gx H H1 → Y i x H1 → EvB tt ((wipe σ [j]).set j (some x)) H1 (B i))
    (he : ∀ i x H1, i < n → Gx H H1 → Y i x H1 → B i true → EvG te ((wipe σ [j]).set j (some x)) H1 (R i)) (m : ∀ i, Firm (R i)) :
    EvN (tLc wi (gName j) tt te [j]) σ H (fun p H' => ∃ ys, H' p = some (.lst ys) ∧ LcR B R H' n ys) :=
  evn_lc (S := fun i σ2 H => ∃ x, σ2 = (wipe σ [j]).set j (some x) ∧ Y i x H) hw hn (fun i x H1 _ _ y Q q => q _ wipe1 ⟨x, rfl, y⟩) (fun i σ2 H1 hi e ⟨x, z, y⟩ => by subst z; exact ht i x H1 hi e y)
    (fun i σ2 H1 H2 e ⟨x, z, y⟩ => ⟨x, z, my i _ _ _ e y⟩) (fun i σ2 H1 hi e ⟨x, z, y⟩ b => by subst z; exact he i x H1 hi e y b) m
theorem evb_yes {σ : L2.St} {H : Hp} : EvB tYes σ H (fun b => b = true) := fun H1 _ _ q => q true H1 (Gx.refl _) rfl
/-- .. and no test -/
theorem evn_lcA {j : Nat} {Y : Nat → Ty} {R : Nat → Ty} (hw : EvW wi σ H n Y) (hn : n ≤ 100000) (my : ∀ i, Mono (Y i))
    (he : ∀ i x H1, i < n → Gx H H1 → Y i x H1 → EvG te ((wipe σ [j]).set j (some x)) H1 (R i)) (m : ∀ i, Firm (R i)) :
    EvN (tLc wi (gName j) tYes te [j]) σ H (fun p H' => ∃ ys, H' p = some (.lst ys) ∧ ys.length = n ∧ ∀ i y, ys[i]? = some y → R i y H') := by
  intro H1 e Q q
  refine evn_lcN (B := fun _ b => b = true) hw hn my (fun i x H1 _ _ _ => evb_yes) (fun i x H1 hi e y _ => he i x H1 hi e y) m H1 e Q fun p H2 e2 n2 ⟨ys, h, L⟩ => ?_
  exact q p H2 e2 n2 ⟨ys, h, L.all fun _ z => by cases z⟩
end

/-! ### truth values -/
abbrev BlE (b : Bool) : Ty := BlT fun c => c = b
section
variable {K : PySem.W.Frag} {σ : L2.St} {H : Hp} {ta tb tc : TE} {a b : Bool} {t u : TT}
theorem evg_andV (h1 : EvG ta σ H (BlE a)) (h2 : a = true → ∀ H1, Gx H H1 → EvG tb σ H1 (BlE b)) : EvG (tAndV ta tb) σ H (BlE (a && b)) := fun H1 e Q q =>
  h1 H1 e _ fun v H2 e2 ⟨c, z, hc⟩ => ⟨c, z, by
    subst hc
    cases c with
    | true => exact iteT (h2 rfl H2 (e.trans e2) H2 (Gx.refl _) Q fun v H3 e3 f => q v H3 (e2.trans e3) f)
    | false => exact iteF (q _ H2 e2 ⟨false, rfl, rfl⟩)⟩
theorem evg_orV (h1 : EvG ta σ H (BlE a)) (h2 : a = false → ∀ H1, Gx H H1 → EvG tb σ H1 (BlE b)) : EvG (tOrV ta tb) σ H (BlE (a || b)) := fun H1 e Q q =>
  h1 H1 e _ fun v H2 e2 ⟨c, z, hc⟩ => ⟨c, z, by
    subst hc
    cases c with
    | true => exact iteT (q _ H2 e2 ⟨true, rfl, rfl⟩)
    | false => exact iteF (h2 rfl H2 (e.trans e2) H2 (Gx.refl _) Q fun v H3 e3 f => q v H3 (e2.trans e3) f)⟩
theorem evg_notV (h1 : EvG ta σ H (BlE a)) : EvG (tNotV ta) σ H (BlE (!a)) := fun H1 e Q q =>
  h1 H1 e _ fun v H2 e2 ⟨c, z, hc⟩ => ⟨c, z, q _ H2 e2 ⟨_, rfl, by rw [hc]⟩⟩
theorem evb_and (h1 : EvB t σ H (fun c => c = a)) (h2 : a = true → ∀ H1, Gx H H1 → EvB u σ H1 (fun c => c = b)) : EvB (tAnd t u) σ H (fun c => c = (a && b)) := fun H1 e Q q =>
  h1 H1 e _ fun c H2 e2 hc => by
    subst hc
    cases c with
    | true => exact iteT (h2 rfl H2 (e.trans e2) H2 (Gx.refl _) Q fun v H3 e3 f => q v H3 (e2.trans e3) f)
    | false => exact iteF (q _ H2 e2 rfl)
theorem evb_or (h1 : EvB t σ H (fun c => c = a)) (h2 : a = false → ∀ H1, Gx H H1 → EvB u σ H1 (fun c => c = b)) : EvB (tOr t u) σ H (fun c => c = (a || b)) := fun H1 e Q q =>
  h1 H1 e _ fun c H2 e2 hc => by
    subst hc
    cases c with
    | true => exact iteT (q _ H2 e2 rfl)
    | false => exact iteF (h2 rfl H2 (e.trans e2) H2 (Gx.refl _) Q fun v H3 e3 f => q v H3 (e2.trans e3) f)
theorem evb_not (h1 : EvB t σ H (fun c => c = a)) : EvB (tNot t) σ H (fun c => c = !a) := fun H1 e Q q =>
  h1 H1 e _ fun c H2 e2 hc => q _ H2 e2 (by rw [hc])
/-- a < b < c and its like, of ints -/
theorem evg_chain {f g : Int → Int → Bool} {i j k : Int} (ha : EvG ta σ H (IntT fun x => x = i)) (hb : EvG tb σ H (IntT fun x => x = j)) (hc : EvG tc σ H (IntT fun x => x = k)) :
    EvG (tChain (rI0 fun i j => .bl (f i j)) (rI0 fun i j => .bl (g i j)) ta tb tc) σ H (BlE (f i j && g j k)) := fun H1 e Q q =>
  ha H1 e _ fun v H2 e2 ⟨x, z, hx⟩ => hb H2 (e.trans e2) _ fun v2 H3 e3 ⟨y, z2, hy⟩ => ⟨x, y, z, z2, _, rfl, by
    subst hx
    subst hy
    cases q1 : f x y with
    | true =>
      refine iteT (hc H3 ((e.trans e2).trans e3) _ fun v3 H4 e4 ⟨w, z3, hw⟩ => ⟨y, w, z2, z3, ?_⟩)
      have hw : w = k := hw
      exact q _ H4 ((e2.trans e3).trans e4) ⟨_, rfl, by rw [q1, hw, Bool.true_and]⟩
    | false => exact iteF (q _ H3 (e2.trans e3) ⟨false, rfl, by rw [q1, Bool.false_and]⟩)⟩
theorem evg_is {a b : Bool} (h : EvG ta σ H (BlE a)) (e : a = b) : EvG ta σ H (BlE b) := by
  subst e
  exact h
end
theorem evg_rAll {K : PySem.W.Frag} {σ : L2.St} {H : Hp} {te : TE} {R : Bool → Prop} (h : EvN te σ H (fun p H' => ∃ bs : List Bool, H' p = some (.lst (bs.map V.bl)) ∧ R (bs.all id))) : EvG (tCB (rAll K) (tCons te tNil)) σ H (BlT R) := fun H1 e Q q =>
  h H1 e _ fun p H2 e2 _ ⟨bs, hp, r⟩ => ⟨p, bs, rfl, SqL.of hp, q _ H2 e2 ⟨_, rfl, r⟩⟩
theorem evg_rAny {K : PySem.W.Frag} {σ : L2.St} {H : Hp} {te : TE} {R : Bool → Prop} (h : EvN te σ H (fun p H' => ∃ bs : List Bool, H' p = some (.lst (bs.map V.bl)) ∧ R (bs.any id))) : EvG (tCB (rAny K) (tCons te tNil)) σ H (BlT R) := fun H1 e Q q =>
  h H1 e _ fun p H2 e2 _ ⟨bs, hp, r⟩ => ⟨p, bs, rfl, SqL.of hp, q _ H2 e2 ⟨_, rfl, r⟩⟩
theorem EvN.imp {σ : L2.St} {H : Hp} {te : TE} {Φ Φ' : Addr → Hp → Prop} (h : EvN te σ H Φ) (i : ∀ p H2, Gx H H2 → Φ p H2 → Φ' p H2) : EvN te σ H Φ' := fun H1 a Q q => h H1 a Q fun p H2 e n f => q p H2 e n (i p H2 (a.trans e) f)
/-- a list of truth values, told item by item -/
theorem bls_of {ys : List V} {n : Nat} {f : Nat → Bool} (hl : ys.length = n) (h : ∀ (i : Nat) (y : V), ys[i]? = some y → y = V.bl (f i)) : ys = ((List.range n).map f).map V.bl := by
  apply List.ext_getElem?
  intro i
  rw [List.map_map, List.getElem?_map]
  cases q : ys[i]? with
  | some y =>
    have hi : i < n := by rw [← hl]; exact (List.getElem?_eq_some_iff.mp q).1
    rw [h i y q, List.getElem?_range hi]
    rfl
  | none =>
    have : ys.length ≤ i := List.getElem?_eq_none_iff.mp q
    rw [List.getElem?_eq_none (by rw [List.length_range]; omega)]
    rfl
theorem of_cps {ys : List V} {a : Array Nat} {f : Nat → V} (hl : ys.length = a.size) (h : ∀ (i : Nat) (y : V), ys[i]? = some y → ∃ c, a[i]? = some c ∧ y = f c) : ys = a.toList.map f := by
  apply List.ext_getElem?
  intro i
  have e : a.toList[i]? = a[i]? := by simp
  rw [List.getElem?_map, e]
  cases q : ys[i]? with
  | some y =>
    obtain ⟨c, hc, rfl⟩ := h i y q
    rw [hc]
    rfl
  | none =>
    have : ys.length ≤ i := List.getElem?_eq_none_iff.mp q
    rw [Array.getElem?_eq_none (by omega)]
    rfl
/-! ### the words of the package, by values -/
def isI : V → Bool
  | .int i => decide (-(10 ^ 60) < i) && decide (i < 10 ^ 60)
  | _ => false
def wthn (x : V) (lo hi : Int) : Bool := match x with
  | .int i => isI x && (decide (lo ≤ i) && decide (i ≤ hi))
  | _ => false
def letters : List Nat := (("abcdefghijklmnopqrstuvwxyz" : Str)).cps.toList
def isW : V → Bool
  | .str z => (decide (1 ≤ (z.length : Int)) && decide ((z.length : Int) ≤ 8)) && z.cps.toList.all fun c => decide (c ∈ letters)
  | _ => false
def isNode2 (s n : V) : Bool := wthn n 0 3 && (isW s || (decide (s = .str "_" ∨ s = .str "#") && decide (n = .int 0)))
/-- no text too long -/
def Small (x : V) : Prop := ∀ z, x = .str z → z.length ≤ 100000
def spIsInt (K : PySem.W.Frag) : Sp := fun vs H Q _ => ∃ x k, vs = [x] ∧ Pl K H x k ∧ Q (.bl (isI x)) H
def spWithin (K : PySem.W.Frag) : Sp := fun vs H Q _ => ∃ x k lo hi, vs = [x, .int lo, .int hi] ∧ Pl K H x k ∧ Q (.bl (wthn x lo hi)) H
def spWord (K : PySem.W.Frag) : Sp := fun vs H Q _ => ∃ x k, vs = [x] ∧ Pl K H x k ∧ Small x ∧ ∀ H', Gx H H' → Q (.bl (isW x)) H'
/-- a value, and whether it is a node -/
inductive NodeIn (K : PySem.W.Frag) (H : Hp) : V → Bool → Prop
  | other {x : V} {k : Kd} : Pl K H x k → k ≠ .tup → NodeIn K H x false
  | size {a : Addr} {xs : List V} : H a = some (.tup xs) → xs.length ≠ 2 → NodeIn K H (.ref a) false
  | pair {a : Addr} {s n : V} {ks kn : Kd} : H a = some (.tup [s, n]) → Pl K H s ks → Pl K H n kn → Small s → NodeIn K H (.ref a) (isNode2 s n)
def spNode (K : PySem.W.Frag) : Sp := fun vs H Q _ => ∃ x b, vs = [x] ∧ NodeIn K H x b ∧ ∀ H', Gx H H' → Q (.bl b) H'

/-! ### things of told kinds, one by one -/
def AtT : List Ty → List V → Hp → Prop
  | [], [], _ => True
  | Φ :: Φs, v :: vs, H => Φ v H ∧ AtT Φs vs H
  | _, _, _ => False
theorem AtT.mono {H H' : Hp} (e : Gx H H') : ∀ {Φs : List Ty} {vs : List V}, (∀ Φ ∈ Φs, Mono Φ) → AtT Φs vs H → AtT Φs vs H'
  | [], [], _, h => h
  | Φ :: Φs, v :: vs, m, h => ⟨m Φ (List.mem_cons_self ..) _ _ _ e h.1, AtT.mono e (fun Φ hp => m Φ (List.mem_cons_of_mem _ hp)) h.2⟩
  | [], _ :: _, _, h => h.elim
  | _ :: _, [], _, h => h.elim
theorem AtT.len {H : Hp} : ∀ {Φs : List Ty} {vs : List V}, AtT Φs vs H → vs.length = Φs.length
  | [], [], _ => rfl
  | Φ :: Φs, v :: vs, h => by rw [List.length_cons, List.length_cons, AtT.len h.2]
  | [], _ :: _, h => h.elim
  | _ :: _, [], h => h.elim
theorem AtT.get {H : Hp} : ∀ {Φs : List Ty} {vs : List V} {i : Nat} {x : V}, AtT Φs vs H → vs[i]? = some x → ∃ Φ, Φs[i]? = some Φ ∧ Φ x H
  | [], [], _, _, _, e => by simp at e
  | Φ :: Φs, v :: vs, 0, x, h, e => by
    simp at e
    subst e
    exact ⟨Φ, rfl, h.1⟩
  | Φ :: Φs, v :: vs, i + 1, x, h, e => by
    obtain ⟨Ψ, h1, h2⟩ := AtT.get (i := i) (x := x) h.2 (by simpa using e)
    exact ⟨Ψ, by simpa using h1, h2⟩
  | [], _ :: _, _, _, h, _ => h.elim
  | _ :: _, [], _, _, h, _ => h.elim
section
variable {K : PySem.W.Frag} {σ : L2.St} {H : Hp} {ta : TE} {tr : TA} {Φ : Ty} {Φs : List Ty}
theorem ats_nil : EvGs tNil σ H (AtT []) := evgs_nil fun _ _ => trivial
theorem ats_cons (m : Mono Φ) (h : EvG ta σ H Φ) (k : ∀ H1, Gx H H1 → EvGs tr σ H1 (AtT Φs)) : EvGs (tCons ta tr) σ H (AtT (Φ :: Φs)) :=
  evgs_cons h fun v H1 e f => fun H2 e2 Q q => k H1 e H2 e2 Q fun vs H3 e3 g => q vs H3 e3 ⟨m _ _ _ (e2.trans e3) f, g⟩
def TupA (Φs : List Ty) : Addr → Hp → Prop := fun p H => ∃ xs, H p = some (.tup xs) ∧ AtT Φs xs H
def LstA (Φs : List Ty) : Addr → Hp → Prop := fun p H => ∃ xs, H p = some (.lst xs) ∧ AtT Φs xs H
def TupT (Φs : List Ty) : Ty := fun v H => ∃ p, v = .ref p ∧ TupA Φs p H
def LstT (Φs : List Ty) : Ty := fun v H => ∃ p, v = .ref p ∧ LstA Φs p H
theorem TupT.mono (m : ∀ Φ ∈ Φs, Mono Φ) : Mono (TupT Φs) := fun _ _ _ e ⟨p, z, xs, h1, h2⟩ => ⟨p, z, xs, e _ _ h1, h2.mono e m⟩
theorem LstT.mono (m : ∀ Φ ∈ Φs, Mono Φ) : Mono (LstT Φs) := fun _ _ _ e ⟨p, z, xs, h1, h2⟩ => ⟨p, z, xs, e _ _ h1, h2.mono e m⟩
theorem evn_tupA (m : ∀ Φ ∈ Φs, Mono Φ) (h : EvGs tr σ H (AtT Φs)) (hn : Φs.length ≤ 100000) : EvN (tTup tr) σ H (TupA Φs) :=
  evn_tup h (fun vs _ g => by rw [g.len]; exact hn) fun vs p _ _ _ g e2 _ hp => ⟨vs, hp, g.mono e2 m⟩
theorem evn_lstA (m : ∀ Φ ∈ Φs, Mono Φ) (h : EvGs tr σ H (AtT Φs)) (hn : Φs.length ≤ 100000) : EvN (tLst tr) σ H (LstA Φs) :=
  evn_lst h (fun vs _ g => by rw [g.len]; exact hn) fun vs p _ _ _ g e2 _ hp => ⟨vs, hp, g.mono e2 m⟩
theorem evg_tupA (m : ∀ Φ ∈ Φs, Mono Φ) (h : EvGs tr σ H (AtT Φs)) (hn : Φs.length ≤ 100000) : EvG (tTup tr) σ H (TupT Φs) := (evn_tupA m h hn).g fun p _ _ _ _ _ f => ⟨p, rfl, f⟩
theorem evg_lstA (m : ∀ Φ ∈ Φs, Mono Φ) (h : EvGs tr σ H (AtT Φs)) (hn : Φs.length ≤ 100000) : EvG (tLst tr) σ H (LstT Φs) := (evn_lstA m h hn).g fun p _ _ _ _ _ f => ⟨p, rfl, f⟩
end
theorem NodeIn.mono {K : PySem.W.Frag} {b : Bool} : Mono (fun v H => NodeIn K H v b) := fun v H H' e h => by
  cases h with
  | other p hk => exact .other (p.gx e) hk
  | size h hl => exact .size (e _ _ h) hl
  | pair h ps pn sm => exact .pair (e _ _ h) (ps.gx e) (pn.gx e) sm
/-- is this value that? -/
abbrev Eq1 (x : V) : Ty := fun v _ => v = x
theorem Eq1.mono {x : V} : Mono (Eq1 x) := fun _ _ _ _ h => h
theorem Eq1.firm {x : V} : Firm (Eq1 x) := fun _ _ _ _ h => h
theorem evg_e {σ : L2.St} {H : Hp} {x : V} : EvG (tC x) σ H (Eq1 x) := evg_c fun _ _ => rfl
theorem evg_ve {σ : L2.St} {H : Hp} {i : Nat} {x : V} (h : σ[i]? = some (some x)) : EvG (tVar i) σ H (Eq1 x) := evg_var h fun _ _ => rfl
/-! ### data -/
mutual
theorem Dp.gx {K : PySem.W.Frag} {H H' : Hp} (e : Gx H H') : ∀ {v : V} {d : PyData}, Dp K H v d → Dp K H' v d
  | _, _, .non => .non
  | _, _, .bl b => .bl b
  | _, _, .int i => .int i
  | _, _, .str x => .str x
  | _, _, .lst h hs => .lst (e.l h) (DpAll.gx e hs)
  | _, _, .tup h hs => .tup (e.t h) (DpAll.gx e hs)
theorem DpAll.gx {K : PySem.W.Frag} {H H' : Hp} (e : Gx H H') : ∀ {vs : List V} {ds : List PyData}, DpAll K H vs ds → DpAll K H' vs ds
  | _, _, .nil => .nil
  | _, _, .cons h hs => .cons (Dp.gx e h) (DpAll.gx e hs)
end

section
variable {K : PySem.W.Frag} {σ : L2.St} {H : Hp} {ta : TE} {tr : TA} {Φ : Ty} {Φs : List Ty} {n : Nat}
/-- the same, over one heap -/
theorem evgs_m (m : Mono Φ) (h : EvG ta σ H Φ) (k : EvGs tr σ H (AllT Φ n)) : EvGs (tCons ta tr) σ H (AllT Φ (n + 1)) := evgs_more m h fun _ e H2 e2 Q q => k H2 (e.trans e2) Q q
theorem ats_c (m : Mono Φ) (h : EvG ta σ H Φ) (k : EvGs tr σ H (AtT Φs)) : EvGs (tCons ta tr) σ H (AtT (Φ :: Φs)) := ats_cons m h fun _ e H2 e2 Q q => k H2 (e.trans e2) Q q
end

/-! ### data, evaluated -/
def DatT (K : PySem.W.Frag) (d : PyData) : Ty := fun v H => Dp K H v d
def DatsT (K : PySem.W.Frag) (ds : List PyData) : List V → Hp → Prop := fun vs H => DpAll K H vs ds
theorem DatT.mono {K : PySem.W.Frag} {d : PyData} : Mono (DatT K d) := fun _ _ _ e h => Dp.gx e h
theorem DpAll.len {K : PySem.W.Frag} {H : Hp} : ∀ {vs : List V} {ds : List PyData}, DpAll K H vs ds → vs.length = ds.length
  | _, _, .nil => rfl
  | _, _, .cons _ hs => by rw [List.length_cons, List.length_cons, DpAll.len hs]
section
variable {K : PySem.W.Frag} {σ : L2.St} {H : Hp} {ta tb : TE} {tr : TA} {d e : PyData} {ds : List PyData}
theorem dats_nil : EvGs tNil σ H (DatsT K []) := evgs_nil fun _ _ => .nil
theorem dats_c (h : EvG ta σ H (DatT K d)) (k : EvGs tr σ H (DatsT K ds)) : EvGs (tCons ta tr) σ H (DatsT K (d :: ds)) :=
  evgs_cons h fun _ _ e f => fun H2 e2 Q q => k H2 (e.trans e2) Q fun vs H3 e3 g => q vs H3 e3 (.cons (Dp.gx (e2.trans e3) f) g)
theorem evg_dlst (h : EvGs tr σ H (DatsT K ds)) (hn : ds.length ≤ 100000) : EvG (tLst tr) σ H (DatT K (.list ds)) :=
  evg_lst h (fun vs _ g => by rw [DpAll.len g]; exact hn) fun vs p H1 H2 g e2 _ hp => .lst (SqL.of hp) (DpAll.gx e2 g)
theorem evg_dtup (h : EvGs tr σ H (DatsT K ds)) (hn : ds.length ≤ 100000) : EvG (tTup tr) σ H (DatT K (.tuple ds)) :=
  evg_tup h (fun vs _ g => by rw [DpAll.len g]; exact hn) fun vs p H1 H2 g e2 _ hp => .tup (SqT.of hp) (DpAll.gx e2 g)
theorem dat_int {i : Int} : EvG (tC (.int i)) σ H (DatT K (.int i)) := evg_c fun _ _ => .int i
theorem dat_bl {i : Bool} : EvG (tC (.bl i)) σ H (DatT K (.bool i)) := evg_c fun _ _ => .bl i
theorem dat_str {i : Str} : EvG (tC (.str i)) σ H (DatT K (.str i)) := evg_c fun _ _ => .str i
theorem dat_non : EvG (tC .non) σ H (DatT K .none) := evg_c fun _ _ => .non
theorem dat_var {i : Nat} {v : V} (h : σ[i]? = some (some v)) (hd : Dp K H v d) : EvG (tVar i) σ H (DatT K d) := evg_var h fun _ e => Dp.gx e hd
theorem dat_of_bl {b : Bool} (h : EvG ta σ H (BlE b)) : EvG ta σ H (DatT K (.bool b)) := h.imp fun v _ _ ⟨c, z, hc⟩ => by
  have hc : c = b := hc
  rw [z, hc]
  exact .bl b
theorem evg_eqD (ha : EvG ta σ H (DatT K d)) (hb : EvG tb σ H (DatT K e)) (sd : SeqAt.shaped d = true) (se : SeqAt.shaped e = true) : EvG (tOp (rEqD K) ta tb) σ H (BlE (PyData.eqv d e)) := fun H1 e1 Q q =>
  ha H1 e1 _ fun v H2 e2 f => hb H2 (e1.trans e2) _ fun v2 H3 e3 g => ⟨d, e, Dp.gx e3 f, g, sd, se, q _ H3 (e2.trans e3) ⟨_, rfl, rfl⟩⟩
theorem evg_neD (ha : EvG ta σ H (DatT K d)) (hb : EvG tb σ H (DatT K e)) (sd : SeqAt.shaped d = true) (se : SeqAt.shaped e = true) : EvG (tOp (rNeD K) ta tb) σ H (BlE (!PyData.eqv d e)) := fun H1 e1 Q q =>
  ha H1 e1 _ fun v H2 e2 f => hb H2 (e1.trans e2) _ fun v2 H3 e3 g => ⟨d, e, Dp.gx e3 f, g, sd, se, q _ H3 (e2.trans e3) ⟨_, rfl, rfl⟩⟩
end
/-- a list of truth values as data -/
theorem dp_bls {K : PySem.W.Frag} {H : Hp} : ∀ bs : List Bool, DpAll K H (bs.map V.bl) (bs.map PyData.bool)
  | [] => .nil
  | b :: bs => .cons (.bl b) (dp_bls bs)
/-- [f(x) for x in ..] with known truth values -/
theorem bls_eq {ys : List V} {bs : List Bool} (hl : ys.length = bs.length) (h : ∀ (i : Nat) (y : V), ys[i]? = some y → ∃ b, bs[i]? = some b ∧ y = V.bl b) : ys = bs.map V.bl := by
  apply List.ext_getElem?
  intro i
  rw [List.getElem?_map]
  cases q : ys[i]? with
  | some y =>
    obtain ⟨b, hb, rfl⟩ := h i y q
    rw [hb]
    rfl
  | none =>
    have : ys.length ≤ i := List.getElem?_eq_none_iff.mp q
    rw [List.getElem?_eq_none (by omega)]
    rfl

/-! ### list(text) -/
theorem vals_of : ∀ {xs : List V} {us : List Value}, xs.length = us.length → (∀ (i : Nat) (x : V) (u : Value), xs[i]? = some x → us[i]? = some u → RelV x u) → Vals xs us
  | [], [], _, _ => .nil
  | x :: xs, u :: us, hl, h => .cons (h 0 x u rfl rfl) (vals_of (by simpa using hl) fun i y w h1 h2 => h (i + 1) y w (by simpa using h1) (by simpa using h2))
  | [], _ :: _, hl, _ => by simp at hl
  | _ :: _, [], hl, _ => by simp at hl
def signsV (z : Str) : List V := z.cps.toList.map fun c => V.str ⟨#[c]⟩
theorem call_listS {X : Cx} (hc : X.calm = true) : CallR X (.type "list") (fun xs H Q => ∃ z, xs = [.str z] ∧ z.length ≤ sizeLine ∧ ∀ l, H l = none → Q (.ref l) (upd H l (.lst (signsV z)))) := by
  intro pins s σ H xs us Q I r h
  obtain ⟨z, rfl, hz, q⟩ := h
  obtain ⟨u, rfl, rx⟩ := vals1 r
  obtain ⟨t, rfl⟩ := rx
  refine call_list_str (I.ok.hd hc) z t (hn := hz) fun h' tk acc' c' hk hS' hacc => ?_
  have hf : H s.heap.objs.size = none := I.hok.fresh (Nat.le_refl _)
  refine ⟨.ref s.heap.objs.size, _, I.laid (t' := tk) hk (Nat.le_refl _) (show ObjOk X.prog X.w _ h' _ (.lst (signsV z)) from ⟨by unfold signsV; rw [List.length_map, Array.length_toList]; exact hz, acc'.toList, c', vals_of ?_ ?_, by simpa using hS'⟩), rfl, q _ hf⟩
  · unfold signsV
    rw [List.length_map]
    have := hacc.1
    simp
    omega
  · intro i x u h1 h2
    obtain ⟨c, w, hc, rfl⟩ := hacc.2 i u (by simpa using h2)
    unfold signsV at h1
    rw [List.getElem?_map] at h1
    have e : z.cps.toList[i]? = z.cps[i]? := by simp
    rw [e, hc] at h1
    cases h1
    exact ⟨w, rfl⟩

/-! ### drawing some of a list -/
theorem erase_perm : ∀ {ls : List V} {k : Nat} {y : V}, ls[k]? = some y → (y :: ls.eraseIdx k).Perm ls
  | [], _, _, h => by simp at h
  | a :: ls, 0, y, h => by
    simp at h
    subst h
    exact List.Perm.refl _
  | a :: ls, k + 1, y, h => by
    have ih := erase_perm (ls := ls) (k := k) (y := y) (by simpa using h)
    exact (List.Perm.swap a y _).trans (ih.cons a)
def spSome (K : PySem.W.Frag) : Sp := fun vs H Q _ => ∃ (d l : Addr) (xs : List V) (n : Int), vs = [.ref d, .ref l, .int n] ∧ H d = some (diceO d) ∧ SqL K H l xs ∧ 0 ≤ n ∧ xs.length ≤ 1000 ∧
  ∀ p ys rest H', Gx H H' → H p = none → H' p = some (.lst ys) → (ys.length : Int) = (if (xs.length : Int) < n then (xs.length : Int) else n) → (ys ++ rest).Perm xs → Q (.ref p) H'

/-! ### the rules that speak of the written part, with that part told (for comprehensions) -/
section
variable {X : Cx} {K : PySem.W.Frag}
theorem kix_list (hK : X.K = K := by rfl) : IxR X (rIxL K) := by subst hK; exact ix_list
theorem kix_tup (hK : X.K = K := by rfl) : IxR X (rIxT K) := by subst hK; exact ix_tup
theorem kop_eqD (hu : X.A.units + 64 < cLine) (hK : X.K = K := by rfl) : OpR X (compareOp .Eq) (rEqD K) := by subst hK; exact op_eqD hu
theorem kop_neD (hu : X.A.units + 64 < cLine) (hK : X.K = K := by rfl) : OpR X (compareOp .NotEq) (rNeD K) := by subst hK; exact op_neD hu
theorem kop_in_seq (hK : X.K = K := by rfl) : OpR X (compareOp .In) (rIn K false) := by subst hK; exact op_in_seq
theorem kop_notIn_seq (hK : X.K = K := by rfl) : OpR X (compareOp .NotIn) (rIn K true) := by subst hK; exact op_notIn_seq
def rLenK (K : PySem.W.Frag) : List V → Hp → VK → Prop := fun xs H Q => ∃ p ys, xs = [.ref p] ∧ (SqL K H p ys ∨ SqT K H p ys) ∧ Q (.int ys.length) H
def rListK (K : PySem.W.Frag) : List V → Hp → VK → Prop := fun xs H Q => ∃ p ys, xs = [.ref p] ∧ (SqL K H p ys ∨ SqT K H p ys) ∧ ∀ l, H l = none → Q (.ref l) (upd H l (.lst ys))
def rTupK (K : PySem.W.Frag) : List V → Hp → VK → Prop := fun xs H Q => ∃ p ys, xs = [.ref p] ∧ ((SqL K H p ys ∧ ∀ l, H l = none → Q (.ref l) (upd H l (.tup ys))) ∨ (SqT K H p ys ∧ Q (.ref p) H))
theorem kcall_len (hK : X.K = K := by rfl) : CallR X (.builtin "len") (rLenK K) := by subst hK; exact call_len_seq
theorem kcall_list (hK : X.K = K := by rfl) : CallR X (.type "list") (rListK K) := by subst hK; exact call_list_of
theorem kcall_tuple (hK : X.K = K := by rfl) : CallR X (.type "tuple") (rTupK K) := by subst hK; exact call_tuple_of
theorem kcall_isi (hK : X.K = K := by rfl) : CallR X (.builtin "isinstance") (rIsi K) := by subst hK; exact call_isi
theorem kcr_all (hc : X.calm = true) (hK : X.K = K := by rfl) : CallR X (.builtin "all") (rAll K) := by subst hK; exact cr_all hc
theorem kcr_any (hc : X.calm = true) (hK : X.K = K := by rfl) : CallR X (.builtin "any") (rAny K) := by subst hK; exact cr_any hc
theorem ksl_list (hK : X.K = K := by rfl) : SlR X (rSlL K) := by subst hK; exact sl_list
variable {tg l : Expr} {tl : TE}
theorem kpi_list (hl : PE X l tl) (hK : X.K = K := by rfl) : PI X tg l (iList K tl) := by subst hK; exact pi_list hl
theorem kpi_tup (hl : PE X l tl) (hK : X.K = K := by rfl) : PI X tg l (iTup K tl) := by subst hK; exact pi_tup hl
theorem kpe_fld {e : Expr} {ta : TE} {f : Str} {pos : Pos} (he : PE X e ta) (hb : attributeBase e f X.env (eval e X.env) = eval e X.env) (hK : X.K = K := by rfl) : PE X (.Attribute e f pos) (tFld K ta f) := by subst hK; exact pe_fld he hb
section
variable {o e : Expr} {es : List Expr} {to te : TE} {t : TA} {name : Str} {apos cpos pos : Pos} {T id : String} {r : V → List V → Hp → VK → Prop}
theorem kpe_bm (pa : PlainAttrs T) (slot : Slot T name id) (hty : typeOf (.builtin id) = pure (.type "method_descriptor")) (hm : MtR X id r) (ho : PE X o to) (ha : PA X (e :: es) t) (hK : X.K = K := by rfl)
    (hbase : attributeBase o name X.env (eval o X.env) = eval o X.env := by rfl)
    (hfew : ((backTo cpos (starEach (e :: es) X.env)).all (fun x => !x.1) && (backToKw cpos (keywordEach [] X.env)).all (fun x => x.1.isSome)
      && decide ((e :: es).length + ([] : List Keyword).length + (if ([] : List Keyword).isEmpty then 0 else 1) < 30)) = true := by rfl)
    (hline : (apos.endLine == cpos.line) = true := by rfl) (hs : starEach (e :: es) X.env = (false, eval e X.env) :: starEach es X.env := by rfl) (hplain : (backTo cpos (starEach es X.env)).any (·.1) = false := by rfl) :
    PE X (.Call (.Attribute o name apos) (e :: es) [] cpos) (tBM K T r to t) := by
  subst hK
  exact pe_bm pa slot hty hm ho ha hbase hfew hline hs hplain
theorem kpe_bm0 (pa : PlainAttrs T) (slot : Slot T name id) (hty : typeOf (.builtin id) = pure (.type "method_descriptor")) (hm : MtR X id r) (ho : PE X o to) (hK : X.K = K := by rfl)
    (hbase : attributeBase o name X.env (eval o X.env) = eval o X.env := by rfl) (hline : (apos.endLine == cpos.line) = true := by rfl) : PE X (.Call (.Attribute o name apos) [] [] cpos) (tBM0 K T r to) := by
  subst hK
  exact pe_bm0 pa slot hty hm ho hbase hline
def rJoinK (K : PySem.W.Frag) : V → List V → Hp → VK → Prop := fun x xs H Q => ∃ a p, ∃ ys : List Str, x = .str a ∧ xs = [.ref p] ∧ (SqL K H p (ys.map V.str) ∨ SqT K H p (ys.map V.str)) ∧
      (ys.map (·.length)).sum + ys.length * a.length ≤ 16777216 ∧ Q (.str (Txt.join a ys)) H
theorem kpe_join (ho : PE X o to) (he : PE X e te) (hK : X.K = K := by rfl) (hs : starEach [e] X.env = [(false, eval e X.env)] := by rfl) (hbase : attributeBase o "join" X.env (eval o X.env) = eval o X.env := by rfl) (hline : (apos.endLine == pos.line) = true := by rfl) :
    PE X (.Call (.Attribute o "join" apos) [e] [] pos) (tM1 (rJoinK K) to te) := by
  subst hK
  exact pe_join ho he hs hbase hline
end
end
theorem yes_ite {σ : L2.St} {H : Hp} {A B : Hp → Prop} (h : A H) : tYes σ H (fun b H => if b = true then A H else B H) := by
  show if true = true then A H else B H
  rw [if_pos rfl]
  exact h

theorem LcR.nil_or {B : Nat → Bool → Prop} {R : Nat → Ty} {H : Hp} {n : Nat} {ys : List V} (h : LcR B R H n ys) : (ys = [] ∧ ∀ i, i < n → B i false) ∨ (ys ≠ [] ∧ ∃ i, i < n ∧ B i true) := by
  induction h with
  | nil => exact .inl ⟨rfl, fun i hi => by omega⟩
  | @keep n ys y _ b _ ih => exact .inr ⟨by simp, n, by omega, b⟩
  | @skip n ys _ b ih =>
    rcases ih with ⟨h1, h2⟩ | ⟨h1, i, h2, h3⟩
    · refine .inl ⟨h1, fun i hi => ?_⟩
      by_cases q : i = n
      · subst q
        exact b
      · exact h2 i (by omega)
    · exact .inr ⟨h1, i, by omega, h3⟩
theorem LcR.each {B : Nat → Bool → Prop} {R : Nat → Ty} {H : Hp} {n : Nat} {ys : List V} (h : LcR B R H n ys) {y : V} (hy : y ∈ ys) : ∃ i, i < n ∧ B i true ∧ R i y H := by
  induction h with
  | nil => cases hy
  | @keep n ys z _ b r ih =>
    rcases List.mem_append.mp hy with hy | hy
    · obtain ⟨i, h1, h2⟩ := ih hy
      exact ⟨i, by omega, h2⟩
    · obtain rfl := List.mem_singleton.mp hy
      exact ⟨n, by omega, b, r⟩
  | skip _ _ ih =>
    obtain ⟨i, h1, h2⟩ := ih hy
    exact ⟨i, by omega, h2⟩
/-- flat values as data -/
def flatD : V → PyData
  | .bl b => .bool b
  | .int i => .int i
  | .str z => .str z
  | _ => .none
def okV : V → Bool
  | .non => true
  | .bl _ => true
  | .int _ => true
  | .str z => PyData.strOk z
  | _ => false
theorem flat_dp {K : PySem.W.Frag} {H : Hp} : ∀ {ys : List V}, (∀ y ∈ ys, okV y = true) → DpAll K H ys (ys.map flatD)
  | [], _ => .nil
  | y :: ys, h => .cons (by
      have := h y (List.mem_cons_self ..)
      cases y with
      | non => exact .non
      | bl b => exact .bl b
      | int i => exact .int i
      | str z => exact .str z
      | _ => cases this) (flat_dp fun z hz => h z (List.mem_cons_of_mem _ hz))
theorem flat_lay : ∀ {ys : List V}, (∀ y ∈ ys, okV y = true) → PyData.canLayAll0 (ys.map flatD) = true ∧ PyData.depthAll (ys.map flatD) = 0
  | [], _ => ⟨by simp [PyData.canLayAll0], by simp [PyData.depthAll]⟩
  | y :: ys, h => by
    obtain ⟨h1, h2⟩ := flat_lay (ys := ys) fun z hz => h z (List.mem_cons_of_mem _ hz)
    have := h y (List.mem_cons_self ..)
    rw [List.map_cons]
    cases y with
    | non => exact ⟨by simp [flatD, PyData.canLayAll0, PyData.canLay0, h1], by simp [flatD, PyData.depthAll, PyData.depth, h2]⟩
    | bl b => exact ⟨by simp [flatD, PyData.canLayAll0, PyData.canLay0, h1], by simp [flatD, PyData.depthAll, PyData.depth, h2]⟩
    | int i => exact ⟨by simp [flatD, PyData.canLayAll0, PyData.canLay0, h1], by simp [flatD, PyData.depthAll, PyData.depth, h2]⟩
    | str z => exact ⟨by simp [flatD, PyData.canLayAll0, PyData.canLay0, h1]; exact this, by simp [flatD, PyData.depthAll, PyData.depth, h2]⟩
    | _ => cases this
theorem flat_shaped {ys : List V} (h : ∀ y ∈ ys, okV y = true) : SeqAt.shaped (.list (ys.map flatD)) = true ∧ SeqAt.shaped (.tuple (ys.map flatD)) = true := by
  obtain ⟨h1, h2⟩ := flat_lay h
  unfold SeqAt.shaped
  simp [PyData.canLay0, PyData.depth, h1, h2]

/-! ### texts; comprehensions over a drawn range; some of a list -/
def StrT (P : Str → Prop) : Ty := fun v _ => ∃ z, v = .str z ∧ P z
theorem StrT.firm {P : Str → Prop} : Firm (StrT P) := fun _ _ _ _ h => h
section
variable {K : PySem.W.Frag} {σ : L2.St} {H : Hp} {ta tb tc te : TE} {tr : TA} {Φ : Ty}
theorem evg_adds {P R : Str → Prop} (ha : EvG ta σ H (StrT P)) (hb : EvG tb σ H (StrT R)) (hl : ∀ x y, P x → R y → x.length + y.length ≤ 100000) (m : ∀ x y, P x → R y → ∀ H1, Gx H H1 → Φ (.str (x ++ y)) H1) :
    EvG (tOp (fun x y H Q => ∃ i j, x = .str i ∧ y = .str j ∧ i.length + j.length ≤ sizeLine ∧ Q (.str (i ++ j)) H) ta tb) σ H Φ := fun H1 e Q q =>
  ha H1 e _ fun _ H2 e2 ⟨i, z, p⟩ => hb H2 (e.trans e2) _ fun _ H3 e3 ⟨j, z2, r⟩ => ⟨i, j, z, z2, Evl.sz_of (hl i j p r), q _ H3 (e2.trans e3) (m i j p r H3 ((e.trans e2).trans e3))⟩
theorem evg_listS {z : Str} (h : EvG ta σ H (Eq1 (.str z))) (hz : z.length ≤ 100000) (m : ∀ c ∈ z.cps.toList, ∀ H1, Φ (.str ⟨#[c]⟩) H1) :
    EvG (tCB (fun xs H Q => ∃ z, xs = [.str z] ∧ z.length ≤ sizeLine ∧ ∀ l, H l = none → Q (.ref l) (upd H l (.lst (signsV z)))) (tCons ta tNil)) σ H (LofT Φ z.cps.size) := fun H1 e Q q =>
  h H1 e _ fun v H2 e2 hv => by
    have hv : v = .str z := hv
    subst hv
    refine ⟨z, rfl, Evl.sz_of hz, fun l hl => q _ _ (e2.trans (Gx.new hl)) ⟨l, rfl, _, upd_same, by unfold signsV; rw [List.length_map, Array.length_toList], fun x hx => ?_⟩⟩
    obtain ⟨c, hc, rfl⟩ := List.mem_map.mp hx
    exact m c hc _
theorem evn_lcR {j : Nat} {P : Nat → Prop} {R : Ty} (h : EvGs tr σ H (fun vs _ => ∃ n : Nat, vs = [.int n] ∧ P n)) (hP : ∀ n, P n → n ≤ 1000) (he : ∀ x H1, Gx H H1 → EvG te ((wipe σ [j]).set j (some x)) H1 R) (m : Firm R) :
    EvN (tLc (iRng1 tr) (gName j) tYes te [j]) σ H (fun p H' => ∃ ys, H' p = some (.lst ys) ∧ P ys.length ∧ ∀ y ∈ ys, R y H') := by
  intro H1 e Q q
  refine h H1 e _ fun vs H2 e2 ⟨n, z, pn⟩ => ⟨n, z, by omega, by have := hP n pn; omega, ?_⟩
  have hn : (n : Int).toNat = n := by omega
  rw [hn]
  show tLc (fun _ H R => R (Itr 0 n) H) (gName j) tYes te [j] σ H2 Q
  refine EvN.use (evn_lcA (n := n) (Y := fun i x _ => x = .int (0 + (i : Nat))) (R := fun _ => R) ?_ (by have := hP n pn; omega) (fun _ _ _ _ _ h => h) (fun i x H3 _ e3 _ => he x H3 ((e.trans e2).trans e3)) fun _ => m) ?_
  · intro H3 e3 R q
    exact q (Itr 0 n) H3 (fun _ => True) _ (Gx.refl _) walk_range (fun _ _ => trivial) fun i H4 x H5 _ _ ⟨z4, hx⟩ => by subst z4; exact ⟨Gx.refl _, hx⟩
  · rintro p H3 e3 n3 ⟨ys, hp, hl, hy⟩
    refine q p H3 (e2.trans e3) (e2.free n3) ⟨ys, hp, by rw [hl]; exact pn, fun y hy' => ?_⟩
    obtain ⟨i, hi⟩ := List.getElem?_of_mem hy'
    exact hy i y hi
theorem evg_some {n : Nat} {k : Int} (m : Mono Φ) (hd : EvG ta σ H DiceT) (hl : EvG tb σ H (LofT Φ n)) (hk : EvG tc σ H (IntT fun i => i = k)) (h0 : 0 ≤ k ∧ n ≤ 1000) :
    EvG (tCall (spSome K) [] E0 (tCons ta (tCons tb (tCons tc tNil)))) σ H (LofT Φ (if n < k.toNat then n else k.toNat)) := fun H1 e Q q =>
  hd H1 e _ fun _ H2 e2 ⟨d, z, hd⟩ => hl H2 (e.trans e2) _ fun _ H3 e3 ⟨l, z2, xs, h1, h2⟩ => hk H3 ((e.trans e2).trans e3) _ fun _ H4 e4 ⟨i, z3, hi⟩ => by
    have hi : i = k := hi
    subst z
    subst z2
    subst z3
    subst hi
    refine ⟨d, l, xs, i, rfl, (e3.trans e4) _ _ hd, SqL.of (e4 _ _ h1), h0.1, by rw [h2.1]; exact h0.2, fun p ys rest H5 e5 _ hp hyl pm => ?_⟩
    refine q _ H5 (((e2.trans e3).trans e4).trans e5) ⟨p, rfl, ys, hp, ?_, fun y hy => m _ _ _ (e4.trans e5) (h2.2 y (pm.mem_iff.mp (List.mem_append_left _ hy)))⟩
    rw [h2.1] at hyl
    split at hyl <;> split <;> omega
end

/-- some data -/
def DatP (K : PySem.W.Frag) (P : PyData → Prop) : Ty := fun v H => ∃ d, Dp K H v d ∧ SeqAt.shaped d = true ∧ P d
section
variable {K : PySem.W.Frag} {σ : L2.St} {H : Hp} {ta tb : TE} {P R : PyData → Prop}
theorem DatP.mono : Mono (DatP K P) := fun _ _ _ e ⟨d, h1, h2, h3⟩ => ⟨d, Dp.gx e h1, h2, h3⟩
theorem evg_eqP (ha : EvG ta σ H (DatP K P)) (hb : EvG tb σ H (DatP K R)) : EvG (tOp (rEqD K) ta tb) σ H (BlT fun b => ∃ d e, P d ∧ R e ∧ b = PyData.eqv d e) := fun H1 e1 Q q =>
  ha H1 e1 _ fun v H2 e2 ⟨d, f, sd, pd⟩ => hb H2 (e1.trans e2) _ fun v2 H3 e3 ⟨e, g, se, re⟩ => ⟨d, e, Dp.gx e3 f, g, sd, se, q _ H3 (e2.trans e3) ⟨_, rfl, d, e, pd, re, rfl⟩⟩
theorem evg_neP (ha : EvG ta σ H (DatP K P)) (hb : EvG tb σ H (DatP K R)) : EvG (tOp (rNeD K) ta tb) σ H (BlT fun b => ∃ d e, P d ∧ R e ∧ b = !PyData.eqv d e) := fun H1 e1 Q q =>
  ha H1 e1 _ fun v H2 e2 ⟨d, f, sd, pd⟩ => hb H2 (e1.trans e2) _ fun v2 H3 e3 ⟨e, g, se, re⟩ => ⟨d, e, Dp.gx e3 f, g, sd, se, q _ H3 (e2.trans e3) ⟨_, rfl, d, e, pd, re, rfl⟩⟩
theorem dat_p {d : PyData} (h : EvG ta σ H (DatT K d)) (hs : SeqAt.shaped d = true) : EvG ta σ H (DatP K fun e => e = d) := h.imp fun v H2 _ f => ⟨d, f, hs, rfl⟩
end

theorem strs_of {P : Str → Prop} {H : Hp} : ∀ {ys : List V}, (∀ y ∈ ys, StrT P y H) → ∃ zs : List Str, ys = zs.map V.str ∧ ∀ z ∈ zs, P z
  | [], _ => ⟨[], rfl, fun z h => by cases h⟩
  | y :: ys, h => by
    obtain ⟨zs, h1, h2⟩ := strs_of (ys := ys) fun z hz => h z (List.mem_cons_of_mem _ hz)
    obtain ⟨z, rfl, hz⟩ := h y (List.mem_cons_self ..)
    exact ⟨z :: zs, by rw [h1]; rfl, fun w hw => by
      rcases List.mem_cons.mp hw with rfl | hw
      · exact hz
      · exact h2 w hw⟩
theorem sum_le {n : Nat} : ∀ {zs : List Str}, (∀ z ∈ zs, z.length ≤ n) → (zs.map (·.length)).sum ≤ n * zs.length
  | [], _ => by simp
  | z :: zs, h => by
    have h1 := sum_le (zs := zs) fun w hw => h w (List.mem_cons_of_mem _ hw)
    have h2 := h z (List.mem_cons_self ..)
    rw [List.map_cons, List.sum_cons, List.length_cons, Nat.mul_add]
    omega
/-- sep.join(new list of texts) -/
theorem evg_join {K : PySem.W.Frag} {σ : L2.St} {H : Hp} {te : TE} {a : Str} {P : Str → Prop} {N : Nat → Prop} {Φ : Ty} {n m : Nat} (h : EvN te σ H (fun p H' => ∃ ys, H' p = some (.lst ys) ∧ N ys.length ∧ ∀ y ∈ ys, StrT P y H')) (hN : ∀ k, N k → k ≤ n) (hP : ∀ z, P z → z.length ≤ m) (hs : m * n + n * a.length ≤ 16777216)
    (k : ∀ zs : List Str, N zs.length → (∀ z ∈ zs, P z) → ∀ H1, Φ (.str (Txt.join a zs)) H1) : EvG (tM1 (rJoinK K) (tC (.str a)) te) σ H Φ := fun H1 e Q q =>
  ⟨⟨a, rfl⟩, h H1 e _ fun p H2 e2 _ ⟨ys, hp, hn, hy⟩ => by
    obtain ⟨zs, rfl, hz⟩ := strs_of hy
    rw [List.length_map] at hn
    have h1 := sum_le (n := m) (zs := zs) fun z hz' => hP z (hz z hz')
    have h2 := hN _ hn
    have h3 : m * zs.length ≤ m * n := Nat.mul_le_mul_left m h2
    have h4 : zs.length * a.length ≤ n * a.length := Nat.mul_le_mul_right _ h2
    exact ⟨a, p, zs, rfl, rfl, Or.inl (SqL.of hp), by omega, q _ H2 e2 (k zs hn hz H2)⟩⟩

/-! ### more rules with the written part told; slices, stars, stores -/
section
variable {X : Cx} {K : PySem.W.Frag}
theorem kpe_revL {e : Expr} {te : TE} {k : Nat} {p1 p2 p3 pos : Pos} (he : PE X e te) (hK : X.K = K := by rfl) : PE X (.Subscript e (.Slice none none (some (.UnaryOp .USub (.Constant (.int 1) k p1) p2)) p3) pos) (tRevL K te) := by
  subst hK
  exact pe_revL he
theorem kpa_star {e : Expr} {es : List Expr} {te : TE} {t : TA} {p : Pos} (he : PE X e te) (hr : PA X es t) (hK : X.K = K := by rfl) (hs : starEach (.Starred e p :: es) X.env = (true, eval e X.env) :: starEach es X.env := by rfl) : PA X (.Starred e p :: es) (StX.tStar K te t) := by
  subst hK
  exact StX.pa_star he hr hs
theorem ksl_tupA (hK : X.K = K := by rfl) : SlR X (rSlA K) := by subst hK; exact sl_tupA
end
theorem Dp.ints {K : PySem.W.Frag} {H : Hp} : ∀ (l : List Nat), DpAll K H (l.map fun (n : Nat) => V.int (n : Int)) (l.map fun (n : Nat) => PyData.int (n : Int))
  | [] => .nil
  | n :: l => .cons (.int _) (Dp.ints l)
abbrev intsV (l : List Nat) : List V := l.map fun (n : Nat) => V.int (n : Int)
section
variable {K : PySem.W.Frag} {σ : L2.St} {H : Hp} {ta tb tc te tl : TE} {tr : TA} {tz : TS} {D : Ends} {Φ : Ty}
theorem hsix {n k : Nat} (h : k ≤ n) (d : Nat) : HT.sIx n d (some (k : Int)) = k := by
  rw [HT.sIx_nat]
  omega
theorem cut_drop {xs : List V} {k : Nat} (h : k ≤ xs.length) : cutV xs (some (k : Int)) none = xs.drop k := by
  unfold cutV
  rw [hsix h, HT.sIx_none, List.take_of_length_le]
  rw [List.length_drop]
  omega
theorem cut_take {xs : List V} {k : Nat} (h : k ≤ xs.length) : cutV xs none (some (k : Int)) = xs.take k := by
  unfold cutV
  rw [hsix h, HT.sIx_none, Nat.sub_zero, List.drop_zero]
theorem cut_mid {xs : List V} {k m : Nat} (h : k ≤ xs.length) (h2 : m ≤ xs.length) : cutV xs (some (k : Int)) (some (m : Int)) = (xs.drop k).take (m - k) := by
  unfold cutV
  rw [hsix h, hsix h2]
/-- a list whose items are known -/
def LstK (K : PySem.W.Frag) (xs : List V) : Ty := fun v H => ∃ p, v = .ref p ∧ SqL K H p xs
def TupK (K : PySem.W.Frag) (xs : List V) : Ty := fun v H => ∃ p, v = .ref p ∧ SqT K H p xs
theorem LstK.mono {xs : List V} : Mono (LstK K xs) := fun _ _ _ e ⟨p, z, h⟩ => ⟨p, z, e.l h⟩
theorem TupK.mono {xs : List V} : Mono (TupK K xs) := fun _ _ _ e ⟨p, z, h⟩ => ⟨p, z, e.t h⟩
abbrev NewL (xs : List V) : Addr → Hp → Prop := fun p H => H p = some (.lst xs)
abbrev NewT (xs : List V) : Addr → Hp → Prop := fun p H => H p = some (.tup xs)
theorem newl_k {xs : List V} (h : EvN te σ H (NewL xs)) : EvG te σ H (LstK K xs) := h.g fun p _ _ _ _ _ f => ⟨p, rfl, SqL.of f⟩
theorem newt_k {xs : List V} (h : EvN te σ H (NewT xs)) : EvG te σ H (TupK K xs) := h.g fun p _ _ _ _ _ f => ⟨p, rfl, SqT.of f⟩
/-- xs[k:], xs[:k] of a list -/
theorem evn_drop {xs : List V} {k : Nat} (h : EvG tl σ H (LstK K xs)) (hk : EvG ta σ H (IntT fun i => i = (k : Int))) (hle : k ≤ xs.length) : EvN (tSl (rSlL K) tl (tPart ta) tNoPart) σ H (NewL (xs.drop k)) := fun H1 e Q q =>
  h H1 e _ fun v H2 e2 ⟨p, z, hp⟩ => hk H2 (e.trans e2) _ fun w H3 e3 ⟨i, z2, hi⟩ => ⟨i, z2, p, xs, z, e3.l hp, fun l hl => by
    have hi : i = (k : Int) := hi
    rw [hi, cut_drop hle]
    exact q l _ ((e2.trans e3).trans (Gx.new hl)) ((e2.trans e3).free hl) upd_same⟩
theorem evn_take {xs : List V} {k : Nat} (h : EvG tl σ H (LstK K xs)) (hk : EvG ta σ H (IntT fun i => i = (k : Int))) (hle : k ≤ xs.length) : EvN (tSl (rSlL K) tl tNoPart (tPart ta)) σ H (NewL (xs.take k)) := fun H1 e Q q =>
  h H1 e _ fun v H2 e2 ⟨p, z, hp⟩ => hk H2 (e.trans e2) _ fun w H3 e3 ⟨i, z2, hi⟩ => ⟨i, z2, p, xs, z, e3.l hp, fun l hl => by
    have hi : i = (k : Int) := hi
    rw [hi, cut_take hle]
    exact q l _ ((e2.trans e3).trans (Gx.new hl)) ((e2.trans e3).free hl) upd_same⟩
theorem evn_rev {xs : List V} (h : EvG tl σ H (LstK K xs)) : EvN (tRevL K tl) σ H (NewL xs.reverse) := fun H1 e Q q =>
  h H1 e _ fun v H2 e2 ⟨p, z, hp⟩ => ⟨p, xs, z, hp, fun l hl => q l _ (e2.trans (Gx.new hl)) (e2.free hl) upd_same⟩
theorem evn_tupleL {xs : List V} (h : EvG tl σ H (LstK K xs)) : EvN (tCB (rTupK K) (tCons tl tNil)) σ H (NewT xs) := fun H1 e Q q =>
  h H1 e _ fun v H2 e2 ⟨p, z, hp⟩ => ⟨p, xs, by rw [z], .inl ⟨hp, fun l hl => q l _ (e2.trans (Gx.new hl)) (e2.free hl) upd_same⟩⟩
theorem evg_len {xs : List V} (h : EvG tl σ H (fun v H => ∃ p, v = .ref p ∧ (SqL K H p xs ∨ SqT K H p xs))) : EvG (tCB (rLenK K) (tCons tl tNil)) σ H (IntT fun i => i = (xs.length : Int)) := fun H1 e Q q =>
  h H1 e _ fun v H2 e2 ⟨p, z, hp⟩ => ⟨p, xs, by rw [z], hp, q _ H2 e2 ⟨_, rfl, rfl⟩⟩
theorem evg_lenL {xs : List V} (h : EvG tl σ H (LstK K xs)) : EvG (tCB (rLenK K) (tCons tl tNil)) σ H (IntT fun i => i = (xs.length : Int)) := evg_len (h.imp fun v H _ ⟨p, z, hp⟩ => ⟨p, z, .inl hp⟩)
theorem evg_lenT {xs : List V} (h : EvG tl σ H (TupK K xs)) : EvG (tCB (rLenK K) (tCons tl tNil)) σ H (IntT fun i => i = (xs.length : Int)) := evg_len (h.imp fun v H _ ⟨p, z, hp⟩ => ⟨p, z, .inr hp⟩)
theorem evg_ixL {xs : List V} {k : Nat} {x : V} (h : EvG tl σ H (LstK K xs)) (hk : EvG ta σ H (IntT fun i => i = (k : Int))) (hx : xs[k]? = some x) : EvG (tOp (rIxL K) tl ta) σ H (Eq1 x) := fun H1 e Q q =>
  h H1 e _ fun v H2 e2 ⟨p, z, hp⟩ => hk H2 (e.trans e2) _ fun w H3 e3 ⟨i, z2, hi⟩ => ⟨p, xs, i, x, z, z2, e3.l hp, at_of hi hx, q _ H3 (e2.trans e3) rfl⟩
theorem evg_ixT {xs : List V} {k : Nat} {x : V} (h : EvG tl σ H (TupK K xs)) (hk : EvG ta σ H (IntT fun i => i = (k : Int))) (hx : xs[k]? = some x) : EvG (tOp (rIxT K) tl ta) σ H (Eq1 x) := fun H1 e Q q =>
  h H1 e _ fun v H2 e2 ⟨p, z, hp⟩ => hk H2 (e.trans e2) _ fun w H3 e3 ⟨i, z2, hi⟩ => ⟨p, xs, i, x, z, z2, e3.t hp, at_of hi hx, q _ H3 (e2.trans e3) rfl⟩
/-- a value that is known, as a tuple | a list -/
theorem eq_tup {xs : List V} {p : Addr} (h : EvG te σ H (Eq1 (.ref p))) (hp : SqT K H p xs) : EvG te σ H (TupK K xs) := h.imp fun v H2 e z => ⟨p, z, e.t hp⟩
theorem eq_lst {xs : List V} {p : Addr} (h : EvG te σ H (Eq1 (.ref p))) (hp : SqL K H p xs) : EvG te σ H (LstK K xs) := h.imp fun v H2 e z => ⟨p, z, e.l hp⟩
theorem evg_add1 {a b : Int} (ha : EvG ta σ H (IntT fun i => i = a)) (hb : EvG tb σ H (IntT fun i => i = b)) : EvG (tOp (rI0 fun i j => .int (i + j)) ta tb) σ H (IntT fun i => i = a + b) :=
  evg_I0 ha hb fun i j h1 h2 _ _ => ⟨_, rfl, by rw [h1, h2]⟩
theorem evg_sub1 {a b : Int} (ha : EvG ta σ H (IntT fun i => i = a)) (hb : EvG tb σ H (IntT fun i => i = b)) : EvG (tOp (rI0 fun i j => .int (i - j)) ta tb) σ H (IntT fun i => i = a - b) :=
  evg_I0 ha hb fun i j h1 h2 _ _ => ⟨_, rfl, by rw [h1, h2]⟩
theorem evg_neg1 {a : Int} (ha : EvG ta σ H (IntT fun i => i = a)) : EvG (tUn (rU fun i => .int (-i)) ta) σ H (IntT fun i => i = -a) :=
  evg_U ha fun i h1 _ _ => ⟨_, rfl, by rw [h1]⟩
theorem evg_cmp1 {f : Int → Int → Bool} {a b : Int} (ha : EvG ta σ H (IntT fun i => i = a)) (hb : EvG tb σ H (IntT fun i => i = b)) : EvG (tOp (rI0 fun i j => .bl (f i j)) ta tb) σ H (BlE (f a b)) :=
  evg_I0 ha hb fun i j h1 h2 _ _ => ⟨_, rfl, by rw [h1, h2]⟩
theorem int_e {i : Int} (h : EvG te σ H (Eq1 (.int i))) : EvG te σ H (IntT fun j => j = i) := h.imp fun _ _ _ z => ⟨i, z, rfl⟩
theorem e_int {i : Int} (h : EvG te σ H (IntT fun j => j = i)) : EvG te σ H (Eq1 (.int i)) := h.imp fun _ _ _ ⟨j, z, hj⟩ => by
  have hj : j = i := hj
  show _ = _
  rw [z, hj]
/-- xs[k] = v, a list of one's own -/
theorem g_put {l : Addr} {xs : List V} {k : Nat} {v : V} (h : EvG te σ H (Eq1 v)) (ho : EvG ta σ H (Eq1 (.ref l))) (hi : EvG tb σ H (IntT fun i => i = (k : Int))) (hl : H l = some (.lst xs)) (hk : k < xs.length)
    (z : ∀ H1, Gx H H1 → tz D σ (upd H1 l (.lst (xs.set k v)))) : tSeq (tAsg te (gSub ta tb rSetL)) tz D σ H :=
  h H (Gx.refl H) _ fun v1 H1 e1 z1 => ho H1 e1 _ fun v2 H2 e2 z2 => hi H2 (e1.trans e2) _ fun v3 H3 e3 ⟨i, z3, hi⟩ => by
    have z1 : v1 = v := z1
    have z2 : v2 = .ref l := z2
    have hi : i = (k : Int) := hi
    subst z1
    subst z2
    subst z3
    subst hi
    exact ⟨l, xs, _, k, rfl, rfl, ((e1.trans e2).trans e3) _ _ hl, Evl.ixN_nat hk, z H3 ((e1.trans e2).trans e3)⟩
end

section
variable {K : PySem.W.Frag} {σ : L2.St} {H : Hp} {ta tb tc te tl : TE} {tr : TA} {tz tu : TS} {D : Ends} {Φ : Ty} {tt : TT} {j : Nat}
/-- for x in range(n - 1, -1, -1) -/
theorem g_forD {n : Nat} (h : EvGs tr σ H (fun vs _ => vs = [.int ((n : Int) - 1), .int (-1), .int (-1)])) (hn : n ≤ 100000) (Pv : Nat → L2.St → Hp → Prop) (h0 : ∀ H1, Gx H H1 → Pv 0 σ H1)
    (hs : ∀ (i : Nat) σ' H', i < n → Pv i σ' H' → tu { D with nx := Pv (i + 1), ct := Pv (i + 1), bk := fun σ H => tz D σ H } (σ'.set j (some (.int ((n - 1 - i : Nat) : Int)))) H')
    (hd : ∀ σ' H', Pv n σ' H' → tz D σ' H') : tSeq (tFor (iRng3 tr) (gName j) tu) tz D σ H := h H (Gx.refl H) _ fun vs H1 e hv => by
  have hr : RgC ((n : Int) - 1) (-1) (-1) (((n : Int) - 1) - (-1)).toNat := RgC.neg (by omega) (by omega) (by omega) (by omega)
  have hn' : (((n : Int) - 1) - (-1)).toNat = n := by omega
  rw [hn'] at hr
  refine ⟨_, _, _, n, hv, hr, for_it walk_rangeC (D := { D with nx := tz D }) Pv (h0 H1 e) (fun _ _ _ _ _ => trivial) (fun i x σ' H2 H3 hi p y => ?_) hd⟩
  obtain ⟨rfl, rfl⟩ := y
  have := hs i σ' H3 hi p
  rw [show ((n - 1 - i : Nat) : Int) = (n : Int) - 1 + (i : Nat) * -1 by omega] at this
  exact this
theorem g_putN {l : Addr} {xs : List V} {k : Nat} {Φ : Addr → Hp → Prop} (h : EvN te σ H Φ) (ho : ∀ σ' : L2.St, σ' = σ → EvG ta σ H (Eq1 (.ref l))) (hi : EvG tb σ H (IntT fun i => i = (k : Int))) (hl : H l = some (.lst xs)) (hk : k < xs.length)
    (z : ∀ p H1 H2, Gx H H1 → H p = none → Φ p H1 → Gx H1 H2 → tz D σ (upd H2 l (.lst (xs.set k (.ref p))))) : tSeq (tAsg te (gSub ta tb rSetL)) tz D σ H :=
  h H (Gx.refl H) _ fun p H1 e1 n1 f => ho σ rfl H1 e1 _ fun v2 H2 e2 z2 => hi H2 (e1.trans e2) _ fun v3 H3 e3 ⟨i, z3, hi⟩ => by
    have z2 : v2 = .ref l := z2
    have hi : i = (k : Int) := hi
    subst z2
    subst z3
    subst hi
    exact ⟨l, xs, _, k, rfl, rfl, ((e1.trans e2).trans e3) _ _ hl, Evl.ixN_nat hk, z p H1 H3 e1 n1 f (e2.trans e3)⟩
theorem g_asg1 {i : Nat} (h : EvG te σ H Φ) (k : ∀ v H1, Gx H H1 → Φ v H1 → D.nx (σ.set i (some v)) H1) : tAsg te (gName i) D σ H := h H (Gx.refl H) _ fun v H1 e f => k v H1 e f
theorem g_asgN1 {i : Nat} {Φ : Addr → Hp → Prop} (h : EvN te σ H Φ) (k : ∀ p H1, Gx H H1 → H p = none → Φ p H1 → D.nx (σ.set i (some (.ref p))) H1) : tAsg te (gName i) D σ H := h H (Gx.refl H) _ fun v H1 e n f => k v H1 e n f
theorem evgs_star {xs : List V} {Ψ : List V → Hp → Prop} (h : EvG te σ H (LstK K xs)) (hr : ∀ H1, Gx H H1 → EvGs tr σ H1 (fun ys H2 => Ψ (xs ++ ys) H2)) : EvGs (StX.tStar K te tr) σ H Ψ := fun H1 e Q q =>
  h H1 e _ fun v H2 e2 ⟨p, z, hp⟩ => ⟨p, xs, z, .inr hp, hr H2 (e.trans e2) H2 (Gx.refl _) _ fun ys H3 e3 f => q _ H3 (e2.trans e3) f⟩
theorem evgs_starT {xs : List V} {Ψ : List V → Hp → Prop} (h : EvG te σ H (TupK K xs)) (hr : ∀ H1, Gx H H1 → EvGs tr σ H1 (fun ys H2 => Ψ (xs ++ ys) H2)) : EvGs (StX.tStar K te tr) σ H Ψ := fun H1 e Q q =>
  h H1 e _ fun v H2 e2 ⟨p, z, hp⟩ => ⟨p, xs, z, .inl hp, hr H2 (e.trans e2) H2 (Gx.refl _) _ fun ys H3 e3 f => q _ H3 (e2.trans e3) f⟩
/-- arguments that are known -/
theorem evgs_e1 {x : V} (h : EvG te σ H (Eq1 x)) : EvGs (tCons te tNil) σ H (fun vs _ => vs = [x]) := evgs_cons h fun v H1 _ z => evgs_nil fun _ _ => by
  have z : v = x := z
  show [v] = [x]
  rw [z]
theorem evgs_ec {x : V} {xs : List V} (h : EvG te σ H (Eq1 x)) (k : EvGs tr σ H (fun vs _ => vs = xs)) : EvGs (tCons te tr) σ H (fun vs _ => vs = x :: xs) := evgs_cons h fun v H1 e z => fun H2 e2 Q q => k H2 (e.trans e2) Q fun vs H3 e3 w => q vs H3 e3 (by
  have z : v = x := z
  have w : vs = xs := w
  show v :: vs = x :: xs
  rw [z, w])
theorem evgs_en : EvGs tNil σ H (fun vs _ => vs = []) := evgs_nil fun _ _ => rfl
theorem evg_ifE {b : Bool} (h : EvB tt σ H (fun c => c = b)) (h1 : b = true → ∀ H1, Gx H H1 → EvG ta σ H1 Φ) (h2 : b = false → ∀ H1, Gx H H1 → EvG tb σ H1 Φ) : EvG (tIf tt ta tb) σ H Φ := fun H1 e Q q =>
  h H1 e _ fun c H2 e2 hc => by
    subst hc
    cases c with
    | true => exact iteT (h1 rfl H2 (e.trans e2) H2 (Gx.refl _) Q fun v H3 e3 f => q v H3 (e2.trans e3) f)
    | false => exact iteF (h2 rfl H2 (e.trans e2) H2 (Gx.refl _) Q fun v H3 e3 f => q v H3 (e2.trans e3) f)
end
theorem Kx.rdT {H H' : Hp} {a : Addr} {xs : List V} (e : Kx H H') (h : Rd H a (.tup xs)) : Rd H' a (.tup xs) := by
  rcases h with h | ⟨o, h⟩
  · exact .inl (e.tup h)
  · exact .inr ⟨o, e.keep h fun _ z => by cases z⟩
theorem Kx.t {K : PySem.W.Frag} {H H' : Hp} {a : Addr} {xs : List V} (e : Kx H H') (h : SqT K H a xs) : SqT K H' a xs := by
  rcases h with h | h
  · exact .inl (e.rdT h)
  · exact .inr h
theorem intsV_eqv : ∀ (l m : List Nat), PyData.eqvAll (l.map fun (n : Nat) => PyData.int (n : Int)) (m.map fun (n : Nat) => PyData.int (n : Int)) = decide (l = m)
  | [], [] => by simp [PyData.eqvAll]
  | [], b :: m => by simp [PyData.eqvAll]
  | a :: l, [] => by simp [PyData.eqvAll]
  | a :: l, b :: m => by
    show (PyData.eqv (.int a) (.int b) && PyData.eqvAll _ _) = _
    rw [intsV_eqv l m]
    show (((a : Int) == (b : Int)) && decide (l = m)) = decide (a :: l = b :: m)
    by_cases h : a = b
    · subst h
      by_cases h2 : l = m
      · subst h2
        simp
      · simp [h2]
    · have h' : ¬ ((a : Int) = (b : Int)) := by omega
      simp [h, h']
theorem ints_lay : ∀ (l : List Nat), PyData.canLayAll0 (l.map fun (n : Nat) => PyData.int (n : Int)) = true ∧ PyData.depthAll (l.map fun (n : Nat) => PyData.int (n : Int)) = 0
  | [] => ⟨by simp [PyData.canLayAll0], by simp [PyData.depthAll]⟩
  | n :: l => by
    obtain ⟨h1, h2⟩ := ints_lay l
    exact ⟨by simp [PyData.canLayAll0, PyData.canLay0, h1], by simp [PyData.depthAll, PyData.depth, h2]⟩
theorem ints_shaped (l : List Nat) : SeqAt.shaped (.list (l.map fun (n : Nat) => PyData.int (n : Int))) = true ∧ SeqAt.shaped (.tuple (l.map fun (n : Nat) => PyData.int (n : Int))) = true := by
  obtain ⟨h1, h2⟩ := ints_lay l
  unfold SeqAt.shaped
  simp [PyData.canLay0, PyData.depth, h1, h2]

theorem ints_of {ys : List V} {n : Nat} {f : Nat → Nat} (hl : ys.length = n) (h : ∀ (i : Nat) (y : V), ys[i]? = some y → y = V.int ((f i : Nat) : Int)) : ys = intsV ((List.range n).map f) := by
  apply List.ext_getElem?
  intro i
  unfold intsV
  rw [List.map_map, List.getElem?_map]
  cases q : ys[i]? with
  | some y =>
    have hi : i < n := by rw [← hl]; exact (List.getElem?_eq_some_iff.mp q).1
    rw [h i y q, List.getElem?_range hi]
    rfl
  | none =>
    have : ys.length ≤ i := List.getElem?_eq_none_iff.mp q
    rw [List.getElem?_eq_none (by rw [List.length_range]; omega)]
    rfl
section
variable {K : PySem.W.Frag} {σ : L2.St} {H : Hp} {ta tb tc te tl : TE}
theorem evg_lastT {xs : List V} {x : V} (h : EvG tl σ H (TupK K xs)) (hk : EvG ta σ H (IntT fun i => i = -1)) (hx : xs.getLast? = some x) : EvG (tOp (rIxT K) tl ta) σ H (Eq1 x) := fun H1 e Q q =>
  h H1 e _ fun v H2 e2 ⟨p, z, hp⟩ => hk H2 (e.trans e2) _ fun w H3 e3 ⟨i, z2, hi⟩ => ⟨p, xs, i, x, z, z2, e3.t hp, by
    have hi : i = -1 := hi
    have hne : xs ≠ [] := fun z => by rw [z] at hx; cases hx
    rw [hi]
    unfold atI ixN
    have hl : 0 < xs.length := List.length_pos_iff.mpr hne
    rw [if_neg (by omega), if_pos (by omega)]
    show xs[(-1 + (xs.length : Int)).toNat]? = some x
    rw [show (-1 + (xs.length : Int)).toNat = xs.length - 1 by omega, ← List.getLast?_eq_getElem?]
    exact hx, q _ H3 (e2.trans e3) rfl⟩
end

theorem g_put1 {σ : L2.St} {H : Hp} {ta tb te : TE} {D : Ends} {l : Addr} {xs : List V} {k : Nat} {v : V} (h : EvG te σ H (Eq1 v)) (ho : EvG ta σ H (Eq1 (.ref l))) (hi : EvG tb σ H (IntT fun i => i = (k : Int))) (hl : H l = some (.lst xs)) (hk : k < xs.length)
    (z : ∀ H1, Gx H H1 → D.nx σ (upd H1 l (.lst (xs.set k v)))) : tAsg te (gSub ta tb rSetL) D σ H := g_put (tz := tNext) h ho hi hl hk z

/-! ### dicts: comprehensions, locks, pairs -/
theorem kpg_tup {X : Cx} {K : PySem.W.Frag} {es : List Expr} {k : Nat} {t : TGs} {n : Nat} {pos : Pos} (hc : X.calm = true) (h : PGs X es t) (hK : X.K = K := by rfl)
    (hn : (assignEach es X.env).length = n := by rfl) (hst : (assignEach es X.env).findIdx? (·.1) = none := by rfl) : PG X (.Tuple es k pos) (gTup K n t) := by
  subst hK
  exact pg_tup hc h hn hst
theorem kcr_sortedS {X : Cx} {K : PySem.W.Frag} (hK : X.K = K := by rfl) : CallR X (.builtin "sorted") (rSortedS K) := by subst hK; exact cr_sortedS
/-- the dict that a comprehension makes -/
def dcL (B : Nat → Bool) (k : Nat → Key) (v : Nat → V) : Nat → List (Key × V)
  | 0 => []
  | n + 1 => if B n = true then putK (dcL B k v n) (k n) (v n) else dcL B k v n
theorem putK_len {κ : Type} [DecidableEq κ] (kvs : List (κ × V)) (k : κ) (v : V) : (putK kvs k v).length ≤ kvs.length + 1 := by
  unfold putK
  split
  · rw [List.length_map]
    omega
  · rw [List.length_append]
    exact Nat.le_refl _
theorem dcL_len (B : Nat → Bool) (k : Nat → Key) (v : Nat → V) : ∀ n, (dcL B k v n).length ≤ n
  | 0 => Nat.le_refl _
  | n + 1 => by
    have h := dcL_len B k v n
    show (if B n = true then putK (dcL B k v n) (k n) (v n) else dcL B k v n).length ≤ n + 1
    split
    · have := putK_len (dcL B k v n) (k n) (v n)
      omega
    · omega
section
variable {K : PySem.W.Frag} {σ : L2.St} {H : Hp} {te td tk tv : TE} {wi : TI} {g : TG} {tt : TT} {vs : List Nat} {n : Nat} {d : Addr}
theorem evn_dc {Y : Nat → Ty} {S : Nat → L2.St → Hp → Prop} {B : Nat → Bool} {k : Nat → Key} {v : Nat → V} (hw : EvW wi σ H n Y) (hn : n ≤ 100000)
    (hg : ∀ i x H1, i < n → Gx H H1 → Y i x H1 → ∀ Q : L2.St → Hp → Prop, (∀ σ2, wipe σ2 vs = wipe σ vs → S i σ2 H1 → Q σ2 H1) → g x (wipe σ vs) H1 Q)
    (ht : ∀ i σ2 H1, i < n → Gx H H1 → S i σ2 H1 → EvB tt σ2 H1 (fun c => c = B i)) (ms : ∀ i σ2 H1 H2, Gx H1 H2 → S i σ2 H1 → S i σ2 H2)
    (hk : ∀ i σ2 H1, i < n → Gx H H1 → S i σ2 H1 → B i = true → EvG tk σ2 H1 (Eq1 (kV (k i)))) (hv : ∀ i σ2 H1, i < n → Gx H H1 → S i σ2 H1 → B i = true → EvG tv σ2 H1 (Eq1 (v i))) :
    EvN (tDc wi g tt tk tv vs) σ H (fun p H' => H' p = some (.dK (dcL B k v n))) := by
  intro H1 e Q q
  refine hw H1 e _ fun J H2 G Y' e2 W hG hY => ?_
  intro D hD
  refine ⟨fun i m H' => m = n - i ∧ i ≤ n ∧ Gx H2 H' ∧ H' D = some (.dK (dcL B k v i)), ⟨n, by omega, by omega, Gx.new hD, upd_same⟩, ?_⟩
  rintro i m H3 ⟨rfl, hi, e3, hys⟩
  by_cases hlt : i < n
  · refine .inr ⟨W.goes i H3 hlt (hG H3 e3), fun H' => Gx H2 H' ∧ H' D = some (.dK (dcL B k v (i + 1))), fun H' p' => ⟨n - (i + 1), by omega, rfl, hlt, p'.1, p'.2⟩, fun x H4 y => ?_⟩
    obtain ⟨e4, y⟩ := hY i H3 x H4 hlt e3 (W.yields i H3 x H4 hlt (hG H3 e3) y)
    have e5 := ((e.trans e2).trans e3).trans e4
    refine hg i x H4 hlt e5 y _ fun σ2 w s2 => ⟨w, ht i σ2 H4 hlt e5 s2 H4 (Gx.refl _) _ fun b H5 e6 hb => ?_⟩
    subst hb
    cases hB : B i with
    | true =>
      refine iteT (hk i σ2 H5 hlt (e5.trans e6) (ms i σ2 H4 H5 e6 s2) hB H5 (Gx.refl _) _ fun y1 H6 e7 z1 => hv i σ2 H6 hlt ((e5.trans e6).trans e7) (ms i σ2 H4 H6 (e6.trans e7) s2) hB H6 (Gx.refl _) _ fun y2 H7 e8 z2 => ?_)
      have z1 : y1 = kV (k i) := z1
      have z2 : y2 = v i := z2
      have e9 := ((e4.trans e6).trans e7).trans e8
      refine ⟨dcL B k v i, k i, z1, e9 _ _ hys, Evl.sz_lt (by have := dcL_len B k v i; omega), (e3.trans e9).mut hD, ?_⟩
      rw [upd_same, z2]
      show some (HO.dK _) = some (HO.dK (if B i = true then _ else _))
      rw [if_pos hB]
    | false =>
      have e9 := e4.trans e6
      refine iteF ⟨e3.trans e9, ?_⟩
      show _ = some (HO.dK (if B i = true then _ else _))
      rw [if_neg (by rw [hB]; decide)]
      exact e9 _ _ hys
  · have : i = n := by omega
    subst this
    exact .inl ⟨W.stops H3 (hG H3 e3), q D H3 (e2.trans e3) (e2.free hD) hys⟩
/-- a dict that is walked stands under a lock -/
theorem evn_lock {kvs : List (Key × V)} {Φ : Addr → Hp → Prop} (hd : H d = some (.dK kvs)) (h : ∀ od, EvN te σ (upd H d (.frz od (.dK kvs))) Φ) (m : ∀ p H2, Φ p H2 → p ≠ d → Φ p (upd H2 d (.dK kvs))) : EvN (tLockE te) σ H Φ := fun H1 e Q q =>
  ⟨d, .dK kvs, e _ _ hd, trivial, fun od => h od _ (fun a o ha => by
      by_cases z : a = d
      · subst z
        rw [upd_same] at ha ⊢
        exact ha
      · rw [upd_ne z] at ha ⊢
        exact e _ _ ha) _ fun p H2 e2 np f => by
    have hpd : p ≠ d := fun z => by
      subst z
      rw [upd_same] at np
      cases np
    refine ⟨e2 _ _ upd_same, q p _ (fun a o ha => ?_) (by rw [upd_ne hpd] at np; exact np) (m p H2 f hpd)⟩
    by_cases z : a = d
    · subst z
      rw [e _ _ hd] at ha
      cases ha
      exact upd_same
    · rw [upd_ne z]
      exact e2 _ _ (by rw [upd_ne z]; exact ha)⟩
theorem evw_items {kvs : List (Key × V)} {o : Obj} (h : EvG td σ H (Eq1 (.ref d))) (hd : H d = some (.frz o (.dK kvs))) : EvW (iItems td) σ H kvs.length (fun i x H => ∃ T k v, x = .ref T ∧ H T = some (.tup [kV k, v]) ∧ kvs[i]? = some (k, v)) := fun H1 e R q =>
  h H1 e _ fun v H2 e2 hv => ⟨d, o, kvs, hv, (e.trans e2) _ _ hd, q _ H2 _ _ e2 walk_items (fun H3 e3 => ((e.trans e2).trans e3) _ _ hd) fun i H3 x H4 hi _ ⟨T, x1, y1, hx, hT, h4, h5, h6⟩ => by
    subst h4
    have hk : kvs[i]? = some kvs[i] := List.getElem?_eq_getElem hi
    have h5 : kvs[i]?.map (fun kv => kV kv.1) = some x1 := h5
    have h6 : kvs[i]?.map Prod.snd = some y1 := h6
    rw [hk] at h5 h6
    cases h5
    cases h6
    exact ⟨Gx.new hT, T, (kvs[i]).1, (kvs[i]).2, hx, upd_same, hk⟩⟩
/-- a target of two names -/
theorem tg_pair {a b : Nat} {x : V} {T : Addr} {x1 x2 : V} {H1 : Hp} (hx : x = .ref T) (hT : SqT K H1 T [x1, x2]) {σ0 : L2.St} {Q : L2.St → Hp → Prop} (q : Q ((σ0.set a (some x1)).set b (some x2)) H1) : gTup K 2 (gCons (gName a) (gCons (gName b) gNil)) x σ0 H1 Q :=
  ⟨T, [x1, x2], hx, hT, rfl, x1, [x2], rfl, x2, [], rfl, rfl, q⟩
end

theorem range_getD {α : Type} (l : List α) (d : α) : (List.range l.length).map (fun i => l.getD i d) = l := by
  apply List.ext_getElem?
  intro i
  rw [List.getElem?_map]
  by_cases h : i < l.length
  · rw [List.getElem?_range h, List.getElem?_eq_getElem h]
    show some (l.getD i d) = _
    rw [List.getD_eq_getElem?_getD, List.getElem?_eq_getElem h]
    rfl
  · rw [List.getElem?_eq_none (by rw [List.length_range]; omega), List.getElem?_eq_none (by omega)]
    rfl
/-- keys that differ: the pairs in order -/
theorem dcL_of {α : Type} (P : α → Bool) (k : α → Key) (v : α → V) (d : α) (l : List α) (hn : (l.map k).Nodup) : ∀ n, n ≤ l.length → dcL (fun i => P (l.getD i d)) (fun i => k (l.getD i d)) (fun i => v (l.getD i d)) n = (((l.take n).filter P).map fun x => (k x, v x))
  | 0, _ => by simp [dcL]
  | n + 1, h => by
    have ih := dcL_of P k v d l hn n (by omega)
    have hx : l[n]? = some (l.getD n d) := by
      rw [List.getD_eq_getElem?_getD, List.getElem?_eq_getElem (by omega)]
      rfl
    have ht : l.take (n + 1) = l.take n ++ [l.getD n d] := by
      rw [List.take_add_one, hx]
      rfl
    show (if P (l.getD n d) = true then putK (dcL _ _ _ n) (k (l.getD n d)) (v (l.getD n d)) else dcL _ _ _ n) = _
    rw [ih, ht, List.filter_append, List.map_append]
    by_cases hp : P (l.getD n d) = true
    · rw [if_pos hp]
      have hv : valV (((l.take n).filter P).map fun x => (k x, v x)) (k (l.getD n d)) = none := by
        unfold valV
        rw [Option.map_eq_none_iff, List.find?_eq_none]
        intro x hx' hk
        obtain ⟨y, hy, rfl⟩ := List.mem_map.mp hx'
        have hk : k y = k (l.getD n d) := of_decide_eq_true hk
        have hy2 : y ∈ l.take n := (List.mem_filter.mp hy).1
        obtain ⟨i, hi⟩ := List.getElem?_of_mem hy2
        have hin : i < n := by
          have := (List.getElem?_eq_some_iff.mp hi).1
          rw [List.length_take] at this
          omega
        rw [List.getElem?_take_of_lt hin] at hi
        have := nd_ix hn (i := i) (j := n) (x := k y) (by rw [List.getElem?_map, hi]; rfl) (by rw [List.getElem?_map, hx, hk]; rfl)
        omega
      rw [putK_new _ hv, List.filter_cons_of_pos hp]
      rfl
    · rw [if_neg hp, List.filter_cons_of_neg hp]
      simp
section
variable {K : PySem.W.Frag} {σ : L2.St} {H : Hp} {tl : TE} {tz tb : TS} {D : Ends} {g : TG}
theorem g_forT {a : Addr} {xs : List V} (h : EvG tl σ H (Eq1 (.ref a))) (hx : SqT K H a xs) (Pv : Nat → L2.St → Hp → Prop) (h0 : ∀ H1, Gx H H1 → Pv 0 σ H1) (hG : ∀ i σ' H', Pv i σ' H' → SqT K H' a xs)
    (hs : ∀ (i : Nat) x σ' H', xs[i]? = some x → Pv i σ' H' → g x σ' H' fun σ2 H2 => tb { D with nx := Pv (i + 1), ct := Pv (i + 1), bk := fun σ H => tz D σ H } σ2 H2)
    (hd : ∀ σ' H', Pv xs.length σ' H' → tz D σ' H') : tSeq (tFor (iTup K tl) g tb) tz D σ H := h H (Gx.refl H) _ fun v H1 e z =>
  ⟨a, z, ⟨xs, e.t hx⟩, for_tup (K := K) (a := a) (xs := xs) (D := { D with nx := tz D }) Pv (h0 H1 e) (fun i σ' H' _ p => hG i σ' H' p) hs hd⟩
theorem evn_dnew : EvN tDNewK σ H (fun p H' => H' p = some (.dK [])) := fun H1 _ Q q d hd => q d _ (Gx.new hd) hd upd_same
end

theorem evb_is {σ : L2.St} {H : Hp} {tt : TT} {a b : Bool} (h : EvB tt σ H (fun c => c = a)) (e : a = b) : EvB tt σ H (fun c => c = b) := by
  subst e
  exact h

theorem list_of {α : Type} {ys : List V} {l : List α} {f : α → V} (hl : ys.length = l.length) (h : ∀ (i : Nat) (y : V), ys[i]? = some y → ∃ c, l[i]? = some c ∧ y = f c) : ys = l.map f := by
  apply List.ext_getElem?
  intro i
  rw [List.getElem?_map]
  cases q : ys[i]? with
  | some y =>
    obtain ⟨c, hc, rfl⟩ := h i y q
    rw [hc]
    rfl
  | none =>
    have : ys.length ≤ i := List.getElem?_eq_none_iff.mp q
    rw [List.getElem?_eq_none (by omega)]
    rfl
theorem evg_joinE {K : PySem.W.Frag} {σ : L2.St} {H : Hp} {te : TE} {a : Str} {zs : List Str} (h : EvN te σ H (NewL (zs.map V.str))) (hs : (zs.map (·.length)).sum + zs.length * a.length ≤ 16777216) : EvG (tM1 (rJoinK K) (tC (.str a)) te) σ H (Eq1 (.str (Txt.join a zs))) := fun H1 e Q q =>
  ⟨⟨a, rfl⟩, h H1 e _ fun p H2 e2 _ hp => ⟨a, p, zs, rfl, rfl, Or.inl (SqL.of hp), hs, q _ H2 e2 rfl⟩⟩
theorem evg_addsE {σ : L2.St} {H : Hp} {ta tb : TE} {x y : Str} (ha : EvG ta σ H (Eq1 (.str x))) (hb : EvG tb σ H (Eq1 (.str y))) (hl : x.length + y.length ≤ 100000) :
    EvG (tOp (fun x y H Q => ∃ i j, x = .str i ∧ y = .str j ∧ i.length + j.length ≤ sizeLine ∧ Q (.str (i ++ j)) H) ta tb) σ H (Eq1 (.str (x ++ y))) :=
  evg_adds (P := fun z => z = x) (R := fun z => z = y) (ha.imp fun _ _ _ z => ⟨x, z, rfl⟩) (hb.imp fun _ _ _ z => ⟨y, z, rfl⟩) (fun a b h1 h2 => by rw [h1, h2]; exact hl) fun a b h1 h2 _ _ => by rw [h1, h2]
theorem LcR.det {B : Nat → Bool → Prop} {R : Nat → Ty} {H : Hp} {n : Nat} {ys : List V} {f : Nat → Bool} {v : Nat → V} (h : LcR B R H n ys) (hB : ∀ i b, i < n → B i b → b = f i) (hR : ∀ i y, i < n → R i y H → y = v i) : ys = ((List.range n).filter f).map v := by
  induction h with
  | nil => rfl
  | @keep n ys y _ b r ih =>
    rw [List.range_succ, List.filter_append, List.map_append, ← ih (fun i b hi => hB i b (by omega)) fun i y hi => hR i y (by omega)]
    have h1 : f n = true := (hB n true (by omega) b).symm
    rw [List.filter_cons_of_pos h1, hR n y (by omega) r]
    rfl
  | @skip n ys _ b ih =>
    rw [List.range_succ, List.filter_append, List.map_append, ← ih (fun i b hi => hB i b (by omega)) fun i y hi => hR i y (by omega)]
    have h1 : ¬ f n = true := by rw [← hB n false (by omega) b]; decide
    rw [List.filter_cons_of_neg h1]
    simp
theorem evg_eqS {σ : L2.St} {H : Hp} {ta tb : TE} {x y : Str} (ha : EvG ta σ H (Eq1 (.str x))) (hb : EvG tb σ H (Eq1 (.str y))) : EvG (tOp rEq ta tb) σ H (BlE (decide (x = y))) := fun H1 e Q q =>
  ha H1 e _ fun v H2 e2 z => hb H2 (e.trans e2) _ fun v2 H3 e3 z2 => by
    have z : v = .str x := z
    have z2 : v2 = .str y := z2
    subst z
    subst z2
    refine ⟨rfl, q _ H3 (e2.trans e3) ⟨_, rfl, ?_⟩⟩
    by_cases h : x = y
    · subst h
      simp
    · simp [h]
end Ly

set_option Elab.async false
set_option maxRecDepth 100000
/-! Own layer: a dict of texts and numbers that gets one key of another kind. -/
namespace Od
open PySem PySem.Spec PyProof.Rows L2 Ly

section
variable {prog : Program} {w : World} {A : Around} {E : Value → Shared → Prop} {s : Shared}
theorem places_key {es : Array DictEntry} {ps : List Nat} {u : Value} (h : u ∈ ps.filterMap fun i => es[i]?.map (·.key)) : ∃ e ∈ es, e.key = u := by
  obtain ⟨i, _, hi⟩ := List.mem_filterMap.mp h
  cases q : es[i]? with
  | none => rw [q] at hi; cases hi
  | some e => rw [q] at hi; exact ⟨e, Array.mem_of_getElem? q, Option.some.inj hi⟩
/-- no stored key is the new one: it is not found -/
theorem find_none {d : Addr} {o : Obj} {es : Array DictEntry} {ep : Nat} {key : Value} {hs : Int} {Q : Option Nat → Shared → Prop} (ho : s.heap.get? d = some o) (hd : o.data = .dict es ep)
    (hk : ∀ e ∈ es, carriedByValue e.key = true) (hq : ∀ e ∈ es, SeqAt.EqAt A s e.key key false) (hkey : key = .none ∨ ∃ a, key = .ref a ∧ QuietAt prog w 8 s key) (h : Q none s) :
    wpAny (model prog w) A (dictFind d key hs) Q E s := by
  unfold dictFind
  try with_reducible refine wpAny_holding ?_
  refine wpAny_bind (wpAny_dictEntries ho hd ?_)
  rcases hkey with rfl | ⟨a, rfl, qt⟩
  · dsimp only
    have hall : ((Value.none :: (placesWithHash es.size (fun i => es[i]?.map (·.hash)) hs).filterMap fun i => es[i]?.map (·.key)).all carriedByValue) = true := by
      rw [List.all_eq_true]
      intro u hu
      rcases List.mem_cons.mp hu with rfl | hu
      · rfl
      · obtain ⟨e, he, rfl⟩ := places_key hu
        exact hk e he
    rw [if_pos hall]
    refine wpAny_bind ?_
    refine wpAny_forIn_list _ (fun _ b s' => s' = s ∧ b = (none, ())) _ ?_ ?_ _ _ ⟨rfl, rfl⟩
    · rintro x rest b s' ⟨rfl, rfl⟩
      cases q : es[x]? with
      | none => exact wpAny_pure ⟨rfl, rfl⟩
      | some e =>
        dsimp only
        by_cases hh : (e.hash == hs) = true
        · rw [if_pos hh]
          refine wpAny_bind (wpAny_dictEpoch ho hd (wpAny_bind (hq e (Array.mem_of_getElem? q) _ _ _ _ (wpAny_bind (wpAny_dictEpoch ho hd ?_)))))
          show wpAny _ _ (if (ep != ep) = true then _ else _) _ E _
          rw [if_neg (by simp)]
          exact wpAny_bind (wpAny_rule (wpAny_pure ⟨rfl, rfl⟩))
        · rw [if_neg hh]
          exact wpAny_pure ⟨rfl, rfl⟩
    · rintro b s' ⟨rfl, rfl⟩
      exact wpAny_pure h
  · dsimp only
    have hst : ∀ u ∈ (placesWithHash es.size (fun i => es[i]?.map (·.hash)) hs).filterMap (fun i => es[i]?.map (·.key)), carriedByValue u = true := fun u hu => by
      obtain ⟨e, he, rfl⟩ := places_key hu
      exact hk e he
    rw [if_neg (fun z => by rw [List.all_cons] at z; cases z)]
    rw [if_neg (fun z => by
      rw [← Array.any_toList, List.any_eq_true] at z
      obtain ⟨e, he, hc⟩ := z
      rw [Bool.and_eq_true] at hc
      have h1 := hk e (Array.mem_toList_iff.mp he)
      rw [eq_of_beq hc.1] at h1
      cases h1)]
    generalize hL : (placesWithHash es.size (fun i => es[i]?.map (·.hash)) hs).filterMap (fun i => es[i]?.map (·.key)) = L at hst ⊢
    have hne : ¬ (L == [Value.ref a]) = true := fun z => by
      have q := hst (.ref a) (by rw [eq_of_beq z]; exact List.mem_cons_self)
      cases q
    rw [if_neg hne]
    have tells : ∀ R : Bool → Shared → Prop, R false s → wpAny (model prog w) A (tableMayTell (.ref a) L) R E s := fun R r => by
      · unfold tableMayTell
        split
        · exact wpAny_pure r
        · refine wpAny_bind (qt _ _ _ ?_)
          simp only [Bool.not_true, Bool.false_eq_true, if_false]
          refine wpAny_bind ?_
          refine wpAny_forIn_list _ (fun rest b s' => s' = s ∧ b = (none, ()) ∧ ∀ u ∈ rest, carriedByValue u = true) _ ?_ ?_ _ _ ⟨rfl, rfl, hst⟩
          · rintro x rest b s' ⟨rfl, rfl, hr⟩
            rw [eqIsQuiet_byValue _ (hr x List.mem_cons_self)]
            refine wpAny_bind (wpAny_pure ?_)
            simp only [Bool.not_true, Bool.false_eq_true, if_false]
            exact wpAny_pure ⟨rfl, rfl, fun u hu => hr u (List.mem_cons_of_mem _ hu)⟩
          · rintro b s' ⟨rfl, rfl, _⟩
            exact wpAny_pure r
    refine wpAny_bind (tells _ ?_)
    rw [if_neg (by simp)]
    refine wpAny_bind ?_
    refine wpAny_forIn_list _ (fun _ b s' => s' = s ∧ b = (none, none)) _ ?_ ?_ _ _ ⟨rfl, rfl⟩
    · rintro x rest b s' ⟨rfl, rfl⟩
      cases q : es[x]? with
      | none => exact wpAny_pure ⟨rfl, rfl⟩
      | some e =>
        dsimp only
        by_cases hh : (e.hash == hs) = true
        · rw [if_pos hh]
          refine wpAny_bind (wpAny_dictEpoch ho hd (wpAny_bind (hq e (Array.mem_of_getElem? q) _ _ _ _ (wpAny_bind (wpAny_dictEpoch ho hd ?_)))))
          show wpAny _ _ (if (ep != ep) = true then _ else _) _ E _
          rw [if_neg (by simp)]
          simp only [Bool.false_eq_true, if_false]
          refine wpAny_bind (wpAny_rule ?_)
          first | exact wpAny_pure ⟨rfl, rfl⟩ | (rw [if_neg (by simp)]; exact wpAny_pure ⟨rfl, rfl⟩) | exact wpAny_bind (wpAny_pure (wpAny_pure ⟨rfl, rfl⟩))
        · rw [if_neg hh]
          exact wpAny_pure ⟨rfl, rfl⟩
    · rintro b s' ⟨rfl, rfl⟩
      exact wpAny_pure h
/-- what the object of a dict shows of its keys -/
def DObj (o : Obj) (ks : List V) : Prop := o.ExactDict ∧ ∃ (es : Array DictEntry) (ep : Nat), o.data = .dict es ep ∧ Paired (fun (k : V) (e : DictEntry) => RelV k e.key) ks es.toList
theorem pairs_keys {knd : KeyKind prog w Key} (hk : ∀ k u, knd.is k u = true → RelV (kV k) u) : ∀ {es : List DictEntry} {vs : List (Key × Value)}, Pairs knd es vs → Paired (fun (k : V) (e : DictEntry) => RelV k e.key) (vs.map fun q => kV q.1) es
  | _, _, .nil => .nil
  | _, _, .cons h _ t => .cons (hk _ _ h) (pairs_keys hk t)
theorem paired_snoc {α β : Type} {R : α → β → Prop} : ∀ {xs : List α} {ys : List β} {a : α} {b : β}, Paired R xs ys → R a b → Paired R (xs ++ [a]) (ys ++ [b])
  | _, _, _, _, .nil, r => .cons r .nil
  | _, _, _, _, .cons q t, r => .cons q (paired_snoc t r)
theorem kv_keys : ∀ {kvs : List (Key × V)} {vs : List (Key × Value)}, KV kvs vs → (vs.map fun q => kV q.1) = kvs.map fun q => kV q.1
  | _, _, .nil => rfl
  | _, _, .cons r t => by rw [List.map_cons, List.map_cons, kv_keys t, r.1]
theorem dobj_of {kvs : List (Key × V)} {vs : List (Key × Value)} {d : Addr} {o : Obj} {h : Heap} (hd : h.DictOf (mixKind prog w) d vs) (ho : h.get? d = some o) (r : KV kvs vs) : DObj o (kvs.map fun q => kV q.1) := by
  obtain ⟨o', es, ep, h1, h2, h3, _, h4, _⟩ := hd
  rw [ho] at h1
  cases h1
  refine ⟨h2, es, ep, h3, ?_⟩
  rw [← kv_keys r]
  exact pairs_keys (fun k u z => relV_key (show keyIs k u = true from z)) h4
/-- d[key] = v for a key that is None or a tuple -/
theorem set_odd {d : Addr} {vs : List (Key × Value)} {key v : Value} {nk : NestedKey} {Q : Unit → Shared → Prop} (hu : A.units + 10 < cLine) (hm : s.heap.DictOf (mixKind prog w) d vs) (hkey : NestedIs s.heap nk key)
    (odd : nk = .none ∨ ∃ ks, nk = .tup ks) (dp : nk.depth ≤ 8) (hsz : vs.length ≤ sizeLine)
    (hQ : ∀ h' o' tk, h'.get? d = some o' → (∀ ks : List V, (vs.map fun q => kV q.1) = ks → ∀ k, RelV k key → DObj o' (ks ++ [k])) → Heap.SameBut d s.heap h' → Q () { s with heap := h', toks := tk }) :
    wpAny (model prog w) A (setItem (.ref d) key v) Q E s := by
  obtain ⟨o, es, ep, ho, hx, hdt, hko, hp, _⟩ := id hm
  have hes : es.size = vs.length := by rw [← hp.length, Array.length_toList]
  have kys : ∀ e ∈ es, ∃ mk, NestedIs s.heap mk e.key ∧ NestedKey.beq mk nk = false ∧ mk.depth = 0 ∧ carriedByValue e.key = true := fun e he => by
    obtain ⟨k, hk, _⟩ := hko e he
    rcases keyIs_shape (show keyIs k e.key = true from hk) with ⟨i, t, _, q⟩ | ⟨x, t, _, q⟩
    · rw [q]
      refine ⟨_, .int i t, ?_, rfl, rfl⟩
      rcases odd with rfl | ⟨ks, rfl⟩ <;> rfl
    · rw [q]
      refine ⟨_, .text x t, ?_, rfl, rfl⟩
      rcases odd with rfl | ⟨ks, rfl⟩ <;> rfl
  unfold setItem
  try with_reducible refine wpAny_holding ?_
  refine wpAny_bind (wpAny_sequenceKey hm.typeIs (by decide) ?_)
  refine wpAny_bind (wpAny_callSpecial?_slot (name := Str.ofString "__setitem__") hm.typeIs slot_dict_setitem (wpAny_call_entry slot_dict_setitem hm.typeIs entry_dict_setitem ?_ (args_dict_setitem _ _ _)))
  show wpAny _ _ (Builtin.Dict.notOrdered "__setitem__" ⟨[.ref d, key, v], []⟩ >>= _) _ _ s
  refine wpAny_bind (wpAny_notOrdered_dict hm.typeIs ?_)
  show wpAny _ _ (dictSet d key v >>= _) _ _ s
  refine wpAny_bind ?_
  unfold dictSet
  try with_reducible refine wpAny_holding ?_
  refine wpAny_bind (pyHash_key nk key _ s _ hkey (by simp only [Around.in1_units]; omega) ?_)
  unfold dictSetHashed
  try with_reducible refine wpAny_holding ?_
  refine wpAny_bind (find_none (s := { s with toks := s.toks + nk.draws }) ho hdt (fun e he => ?_) (fun e he => ?_) ?_ ?_)
  · obtain ⟨_, _, _, _, hc⟩ := kys e he
    exact hc
  · obtain ⟨mk, h1, h2, h3, _⟩ := kys e he
    have q := eqAt_key mk nk A.in1 { s with toks := s.toks + nk.draws } e.key key h1 hkey (by simp only [Around.in1_units]; rw [h3]; omega)
    rw [h2] at q
    exact q
  · rcases odd with rfl | ⟨ks, rfl⟩
    · cases hkey
      exact .inl rfl
    · cases hkey with
      | tup g1 g2 g3 g4 => exact .inr ⟨_, rfl, quiet_key _ _ 8 { s with toks := s.toks + (NestedKey.tup ks).draws } (.tup g1 g2 g3 g4) dp⟩
  · refine wpAny_bind (wpAny_rule (wpAny_updateDictKeys (hz := by omega) (s := { s with toks := s.toks + nk.draws }) ho hdt ?_))
    refine wpAny_pure ⟨.none, rfl, wpAny_pure (hQ _ _ _ (Heap.get?_update_self _ ho (Obj.isFreed_of_dict (Obj.data_mapDictKeys hdt _))) (fun ks e k rk => ⟨hx.mapDictKeys _, _, _, Obj.data_mapDictKeys hdt _, ?_⟩) (Heap.SameBut.update ..))⟩
    show Paired _ (ks ++ [k]) (es.push _).toList
    rw [Array.toList_push, ← e]
    exact paired_snoc (pairs_keys (fun k u z => relV_key (show keyIs k u = true from z)) hp) rk
end
end Od

set_option Elab.async false
set_option maxRecDepth 100000
namespace Od
open PySem PySem.Spec PyProof.Rows L2 Ly

/-! ### a dict that stands still -/
def Fz (H : Hp) (d : Addr) (ks : List V) : Prop := (d == sysModules) = false ∧ ∃ o u, H d = some (.frz o u) ∧ DObj o ks
theorem Fz.gx {H H' : Hp} {d : Addr} {ks : List V} (e : Gx H H') (h : Fz H d ks) : Fz H' d ks := let ⟨a, o, u, b, c⟩ := h; ⟨a, o, u, e _ _ b, c⟩
def oddO (o : Obj) : HO := .frz o (.ext fun _ => True)
section
variable {X : Cx} {e i o value : Expr} {pos pos' : Pos} {td ty tv : TE}
/-- d[y] = v, y None or a tuple of one text -/
def sPutO (td ty tv : TE) : TS := fun D σ H => tv σ H fun v H1 => td σ H1 fun x H2 => ty σ H2 fun y H3 => ∃ a kvs, x = .ref a ∧ H3 a = some (.dK kvs) ∧ (y = .non ∨ ∃ b z, y = .ref b ∧ H3 b = some (.tup [.str z])) ∧
  ∀ ob, (a == sysModules) = false → DObj ob ((kvs.map fun q => kV q.1) ++ [y]) → D.nx σ (upd H3 a (oddO ob))
theorem ps_putO (hu : X.A.units + 10 < cLine) (ho : PE X o td) (hi : PE X i ty) (hv : PE X value tv) (hs : swapsWith value (some (.Subscript o i pos')) pos.line X.env = pure false) :
    PS X (.Assign [.Subscript o i pos'] value pos) (sPutO td ty tv) := by
  refine ⟨fun pins s σ H D I h => ?_⟩
  refine wpAny_Assign_Subscript (thn (hv.run pins s σ H _ I h) fun r s1 ⟨v, H1, I1, rv, q1⟩ => thn (ho.run pins s1 σ H1 _ I1 q1) fun u s2 ⟨x, H2, I2, rx, q2⟩ => thn (hi.run pins s2 σ H2 _ I2 q2) fun iv s3 ⟨y, H3, I3, ry, a, kvs, ex, ha, hy, q3⟩ => ?_) hs
  subst ex
  obtain rfl : u = Value.ref a := rx
  obtain ⟨z, hd, vs, rel, dd⟩ := I3.hok a _ ha
  have hz : vs.length ≤ sizeLine := by rw [← Paired.length rel]; exact z
  have go : ∀ nk, NestedIs s3.heap nk iv → (nk = .none ∨ ∃ ks, nk = .tup ks) → nk.depth ≤ 8 → wpAny (model X.prog X.w) X.A (setItem (.ref a) iv r) (fun _ s4 => SP X pins D .next s4) X.xe s3 := fun nk k1 k2 k3 => by
    refine set_odd hu dd k1 k2 k3 hz fun h' o' tk g1 g2 g3 => ?_
    exact ⟨σ, _, I3.write (x := a) (e := a) (t' := tk) (o := oddO o') (by rw [ha]; exact True.intro) (.inl rfl) (fun b q hb z => (g3.2 b hb).trans z) ⟨o', g1⟩ ⟨g1, True.intro, ⟨o', g1⟩, fun _ _ _ _ => True.intro⟩, q3 o' hd (g2 _ (kv_keys rel) y ry)⟩
  rcases hy with rfl | ⟨b, z, rfl, hb⟩
  · obtain rfl : iv = Value.none := ry
    exact go _ .none (.inl rfl) (by decide)
  · obtain rfl : iv = Value.ref b := ry
    obtain ⟨_, its, rv2, ob, h1, h2, n, h3⟩ := I3.hok b _ hb
    cases rv2 with
    | cons r1 rr =>
      cases rr
      obtain ⟨t, rfl⟩ := (show ∃ t, _ = Value.str z t from r1)
      exact go _ (.tup h1 h2 h3 (.cons (.text z t) .nil)) (.inr ⟨_, rfl⟩) (by simp [NestedKey.depth, NestedKey.depthAll])
/-- a dict is held still while an expression is worked out -/
def tLkD (t : TE) : TE := fun σ H Q => ∃ d kvs, H d = some (.dK kvs) ∧ ∀ od, (d == sysModules) = false → DObj od (kvs.map fun q => kV q.1) → t σ (upd H d (.frz od (.dK kvs))) fun v H' => H' d = some (.frz od (.dK kvs)) ∧ Q v (upd H' d (.dK kvs))
theorem pe_lkD {t : TE} (h : PE X e t) : PE X e (tLkD t) := by
  refine ⟨fun pins s σ H Q I hw => ?_⟩
  obtain ⟨d, kvs, hd, hw⟩ := hw
  obtain ⟨od, I1⟩ := I.lock hd True.intro
  obtain ⟨g, _, hs, vs, rel, dd⟩ := I1.hok d _ upd_same
  refine thn (h.run pins s σ _ _ I1 (hw od hs (dobj_of dd g rel))) fun v s1 ⟨x, H1, I2, r, e2, q⟩ => ?_
  exact ⟨x, _, I2.unlock e2 (I.nofrz hd True.intro), r, q⟩
/-- the keys of such a dict -/
def Ity (d : Addr) (o : Obj) (u : HO) (ks : List V) : It :=
  ⟨fun i H => H d = some (.frz o u) ∧ i < ks.length, fun i H x H' => H' = H ∧ ks[i]? = some x, fun i H => H d = some (.frz o u) ∧ ks.length ≤ i⟩
theorem turn_ky {P : Program} {w : World} {K : PySem.W.Frag} {tg : Expr} {d : Addr} {o : Obj} {u : HO} {ks : List V} {es : Array DictEntry} {ep : Nat} (it : Addr) (hod : o.data = .dict es ep) (hp : Paired (fun (k : V) (e : DictEntry) => RelV k e.key) ks es.toList) :
    Turn P w K tg (Ity d o u ks) [it] it (fun i h => h.IsKeyIter it d i ks.length ep) where
  mem := by simp
  obj := fun i h st b hb => by
    have e : b = it := by simpa using hb
    subst e
    obtain ⟨oi, e, c, dd⟩ := st
    exact ⟨oi, e, fun v z => by rw [dd] at z; cases z⟩
  keep := fun i h h' st k => st.at fun oi e => k it (by simp) oi e
  item := by
    intro X hP hw hK hc i pins s σ H E I hf st hg
    subst hP hw hK
    obtain ⟨hd, hi⟩ := hg
    obtain ⟨f0, f1, f2, f3, f4, f5⟩ := hf it (by simp)
    obtain ⟨hgd, _⟩ := I.hok d _ hd
    have hsz : es.size = ks.length := by rw [← Array.length_toList]; exact (Paired.length hp).symm
    obtain ⟨en, hen, rk⟩ := paired_get hp (List.getElem?_eq_getElem hi)
    refine next_key_item st hgd hod hsz (by rw [← Array.getElem?_toList]; exact hen) fun h' st' sb => ?_
    have I1 : Inv X pins σ H { s with heap := h' } := I.turned (t' := s.toks) (fun b ob hb e => (sb.2 b hb).trans e) f0 f1 f3 f4 f5
    obtain ⟨oi, e, c, dd⟩ := id st'
    exact ⟨en.key, rfl, go_of (s := { s with heap := h' }) e c dd (by decide) ⟨_, H, I1, rk, ⟨rfl, List.getElem?_eq_getElem hi⟩, st', fun b hb => (hf b hb).1⟩⟩
  done := by
    intro X hP hw hK hc i pins s σ H E I hf st hg
    subst hP hw hK
    obtain ⟨hd, hi⟩ := hg
    obtain ⟨f0, f1, f2, f3, f4, f5⟩ := hf it (by simp)
    obtain ⟨hgd, _⟩ := I.hok d _ hd
    have hsz : es.size = ks.length := by rw [← Array.length_toList]; exact (Paired.length hp).symm
    exact next_key_end (I.ok.hd hc) st hgd hod hsz hi fun h' eb => ⟨rfl, I.turned (t' := s.toks) (fun b ob hb e => eb b ob hb e) f0 f1 f3 f4 f5⟩
  self := fun A i s Q E st h => wpAny_pyIter_keyiter st h
theorem walk_ky {d : Addr} {o : Obj} {u : HO} {ks : List V} : Walk (Ity d o u ks) ks.length (fun H => H d = some (.frz o u)) (YAt ks) :=
  ⟨fun _ _ hi q => ⟨q, hi⟩, fun _ q => ⟨q, Nat.le_refl _⟩, fun _ _ _ _ _ _ y => y⟩
def iKy (td : TE) : TI := fun σ H R => td σ H fun x H1 => ∃ d o u ks, x = .ref d ∧ (d == sysModules) = false ∧ H1 d = some (.frz o u) ∧ DObj o ks ∧ R (Ity d o u ks) H1
theorem pi_ky {tg : Expr} (he : PE X e td) : PI X tg e (iKy td) := by
  refine ⟨fun pins s σ H R I h => ?_⟩
  refine thn (he.run pins s σ H _ I h) fun u s1 ⟨x, H1, I1, rx, d, o, ob, ks, ex, hs, hd, ⟨hx, es, ep, hdt, hp⟩, q⟩ => ?_
  subst ex
  obtain rfl : u = Value.ref d := rx
  obtain ⟨hgd, _⟩ := I1.hok d _ hd
  have hsz : es.size = ks.length := by rw [← Array.length_toList]; exact (Paired.length hp).symm
  refine iter_keys hs hgd hx hdt (pi_one (tk := s1.toks) I1 _ (turn_ky _ hdt hp) ⟨_, Heap.get?_push_size _ rfl, rfl, ?_⟩ q)
  rw [hsz] <;> rfl
/-- len of such a dict -/
def rLenF : List V → Hp → VK → Prop := fun xs H Q => ∃ d ks, xs = [.ref d] ∧ Fz H d ks ∧ ks.length ≤ sizeLine ∧ Q (.int (ks.length : Nat)) H
theorem len_raw {prog : Program} {w : World} {A : Around} {E : Value → Shared → Prop} {s : Shared} {d : Addr} {o : Obj} {es : Array DictEntry} {ep : Nat} {Q : Value → Shared → Prop} (hd : (d == sysModules) = false) (ho : s.heap.get? d = some o) (hx : o.ExactDict) (hdt : o.data = .dict es ep) (hfit : es.size ≤ sizeLine)
    (h : Q (.int (es.size : Nat) (s.toks + 1)) { s with toks := s.toks + 1 + 1 }) : wpAny (model prog w) A (call (.builtin "len") [.ref d]) Q E s := by
  have hT : s.TypeIs (.ref d) "dict" := ⟨o, ho, hx.1⟩
  rw [sizeLine_eq] at hfit
  refine Calls.call_function_entry kind_len plain_len entry_len (args_len1 _) ?_
  unfold Builtin.«len»
  refine wpAny_bind (m := oneArg "len" _) (wpAny_pure ?_)
  refine wpAny_bind (m := callSpecial? (.ref d) (Str.ofString "__len__")) (wpAny_callSpecial?_slot (name := Str.ofString "__len__") hT F.slot_dict_len (wpAny_call_entry F.slot_dict_len hT F.entry_dict_len ?_ (F.args_dict_len_1 _)))
  show wpAny _ _ (dictSize d >>= _) _ _ s
  unfold dictSize
  refine wpAny_bind (wpAny_bind (wpAny_dictEntries ho hdt (wpAny_pure ?_)))
  show wpAny _ _ (Builtin.Dict.pendingCount d >>= _) _ _ s
  refine wpAny_bind (wpAny_pendingCount_other hd ?_)
  refine wpAny_ret_mkInt ?_
  rw [Nat.add_zero]
  refine wpAny_bind (wpAny_holding (wpAny_pure ?_))
  refine wpAny_bind (wpAny_letGo ?_)
  show wpAny _ _ (if ((es.size : Nat) : Int) < 0 then _ else _) _ _ _
  rw [if_neg (by omega)]
  show wpAny _ _ (if ((es.size : Nat) : Int) ≥ 2 ^ 63 then _ else _) _ _ _
  rw [if_neg (by omega)]
  exact wpAny_bind (wpAny_mkInt (wpAny_pure ⟨_, rfl, h⟩))
theorem call_lenF : CallR X (.builtin "len") rLenF := by
  intro pins s σ H xs us Q I r h
  obtain ⟨d, ks, rfl, ⟨hs, o, u, hd, hx, es, ep, hdt, hp⟩, hz, q⟩ := h
  obtain ⟨v, rfl, rx⟩ := vals1 r
  obtain rfl : v = .ref d := rx
  obtain ⟨hgd, _⟩ := I.hok d _ hd
  have hsz : es.size = ks.length := by rw [← Array.length_toList]; exact (Paired.length hp).symm
  refine len_raw hs hgd hx hdt (by omega) ?_
  rw [hsz]
  exact ⟨.int (ks.length : Nat), H, I.tok _, ⟨_, rfl⟩, q⟩
/-- isinstance of it -/
def rIsiF : List V → Hp → VK → Prop := fun xs H Q => ∃ d ks, xs = [.ref d, .ty "dict"] ∧ Fz H d ks ∧ Q (.bl true) H
theorem call_isiF : CallR X (.builtin "isinstance") rIsiF := by
  intro pins s σ H xs us Q I r h
  obtain ⟨d, ks, rfl, ⟨hs, o, u, hd, hx, es, ep, hdt, hp⟩, q⟩ := h
  obtain ⟨u1, u2, rfl, r1, r2⟩ := vals2 r
  obtain rfl : u1 = .ref d := r1
  obtain rfl : u2 = .type "dict" := r2
  obtain ⟨hgd, _⟩ := I.hok d _ hd
  exact PySem.W.kia_one PySem.W.kitx_dict I.kIn ⟨o, hgd, hx.1⟩ (kit_ty (by decide +kernel)) (fun z => nomatch z) fun tk => ⟨.bl true, H, I.tok tk, rfl, q⟩
end
end Od

set_option Elab.async false
set_option maxRecDepth 100000
namespace Od
open PySem PySem.Spec PyProof.Rows L2 Ly

/-! ### d.values() as a value -/
def viewP (p d : Addr) : Heap → Prop := fun h => h.get? p = some { cls := .type "dict_values", data := .fields #[.ref d] }
def viewO (p d : Addr) : HO := .ext (viewP p d)
theorem noIn_vals : typeLookup (.type "dict_values") "__contains__" = pure none := by rw [typeLookup_type, builtinLookup_eq_fast]; kernel_rfl
theorem plain_ci : plainId "proto.contains_iter" = true := by decide +kernel
theorem entry_ci : entryFor table "proto.contains_iter" = some Builtin.«proto.contains_iter» := entryFor_of_fast (by kernel_rfl)
section
variable {prog : Program} {w : World} {A : Around} {R : Result → Shared → Prop} {I : Addr} {fp wr : List Addr} {n : Nat} {P : Nat → Value → Prop} {St : Nat → Heap → Prop} {x : Value}
theorem ci_loop (W : Walks prog w A.in1 I fp wr n P St) (f : Nat → Bool) (hf : ∀ i v (s : Shared), P i v → SeqAt.EqAt A.in1 s v x (f i)) : ∀ (k i : Nat) (s : Shared), n - i = k → i ≤ n → St i s.heap →
    (∀ h' tk, (∀ b o, b ∉ wr → s.heap.get? b = some o → h'.get? b = some o) → R (.ok (.ret (.bool (((List.range n).drop i).any f)))) { s with heap := h', toks := tk }) →
    codeAny (model prog w) A (.builtin "proto.contains_iter" ⟨[.ref I, x], []⟩) R s := by
  intro k
  induction k with
  | zero =>
    intro i s hk hi st hR
    have e : i = n := by omega
    subst e
    refine codeAny_builtin entry_ci ?_
    rw [Around.under_plainId plain_ci _]
    show wpAny _ A.in1 (pyNext (.ref I) >>= _) _ _ s
    refine wpAny_bind (W.done s _ _ st fun h' tk hk' => ?_)
    have z := hR h' tk hk'
    rw [List.drop_of_length_le (by simp)] at z
    exact wpAny_bind (wpAny_rule (wpAny_pure z))
  | succ k ih =>
    intro i s hk hi st hR
    have lt : i < n := by omega
    have hd : (List.range n).drop i = i :: (List.range n).drop (i + 1) := by rw [List.drop_eq_getElem_cons (by simpa using lt)]; simp
    refine codeAny_builtin entry_ci ?_
    rw [Around.under_plainId plain_ci _]
    show wpAny _ A.in1 (pyNext (.ref I) >>= _) _ _ s
    refine wpAny_bind (W.item i s _ _ lt st fun v h' tk hP st' hk' => ?_)
    refine wpAny_bind (hf i v _ hP _ _ _ _ ?_)
    cases hb : f i with
    | false =>
      simp only [Bool.false_eq_true, if_false]
      refine wpAny_pure ⟨plainId_quiet plain_ci _, ih (i + 1) _ (by omega) lt st' fun h2 t2 k2 => ?_⟩
      have z := hR h2 t2 fun b o hbw e => k2 b o hbw (hk' b o hbw e)
      rw [hd, List.any_cons, hb, Bool.false_or] at z
      exact z
    | true =>
      simp only [if_true]
      have z := hR h' tk hk'
      rw [hd, List.any_cons, hb, Bool.true_or] at z
      exact wpAny_bind (wpAny_rule (wpAny_pure z))
end
theorem acc_vals {acc : Array Value} {vs : List (Key × Value)} (h : ItemsOf (fun i v => ∃ k, vs[i]? = some (k, v)) acc vs.length) : acc.toList = vs.map Prod.snd := by
  apply List.ext_getElem?
  intro i
  rw [Array.getElem?_toList, List.getElem?_map]
  by_cases hi : i < acc.size
  · obtain ⟨k, hk⟩ := h.2 i acc[i] (Array.getElem?_eq_getElem hi)
    rw [Array.getElem?_eq_getElem hi, hk]
    rfl
  · rw [Array.getElem?_eq_none (by omega), List.getElem?_eq_none (by have := h.1; omega)]
    rfl
theorem kv_vals : ∀ {kvs : List (Key × V)} {vs : List (Key × Value)}, KV kvs vs → Vals (kvs.map Prod.snd) (vs.map Prod.snd)
  | _, _, .nil => .nil
  | _, _, .cons r t => .cons r.2 (kv_vals t)
theorem kv_int : ∀ {ns : List Int} {us : List Value}, Vals (ns.map V.int) us → ∀ (i : Nat) (v : Value), us[i]? = some v → ∃ m t, ns[i]? = some m ∧ v = .int m t
  | [], _, .nil, i, v, h => by simp at h
  | m :: ns, _, .cons ⟨t, r⟩ q, 0, v, h => by
    cases h
    exact ⟨m, t, rfl, r⟩
  | m :: ns, _, .cons r q, i + 1, v, h => by
    obtain ⟨m', t, h1, h2⟩ := kv_int q i v (by simpa using h)
    exact ⟨m', t, by simpa using h1, h2⟩
theorem any_range {α : Type} (l : List α) (f : α → Bool) (d : α) : (List.range l.length).any (fun i => f (l.getD i d)) = l.any f := by
  have q : ((List.range l.length).map fun i => l.getD i d).any f = (List.range l.length).any (fun i => f (l.getD i d)) := List.any_map
  rw [← q, Ly.range_getD]
section
variable {X : Cx} {e : Expr} {apos cpos : Pos} {td : TE}
def tVals (td : TE) : TE := fun σ H Q => td σ H fun x H1 => ∃ d o kvs, x = .ref d ∧ H1 d = some (.frz o (.dK kvs)) ∧ ∀ p, H1 p = none → Q (.ref p) (upd H1 p (viewO p d))
theorem pe_vals (he : PE X e td) (hbase : attributeBase e "values" X.env (eval e X.env) = eval e X.env := by rfl) (hline : (apos.endLine == cpos.line) = true := by rfl) : PE X (.Call (.Attribute e "values" apos) [] [] cpos) (tVals td) := by
  refine ⟨fun pins s σ H Q I h => ?_⟩
  refine wpAny_Call_method (T := "dict") (id := "dict.values") hbase rfl hline F.plainAttrs_dict F.slot_dict_values F.type_dict_values (thn (he.run pins s σ H _ I h) fun u s1 ⟨x, H1, I1, rx, d, o, kvs, ex, hd, q⟩ => ?_)
  subst ex
  obtain rfl : u = Value.ref d := rx
  obtain ⟨hs, hgd, hx, es, ep, vs, hdt, hsz, kv, hm⟩ := I1.frzK hd
  refine ⟨hm.dictOf.typeIs, hm.dictOf.mapOf.noDict, ?_⟩
  show wpAny _ _ (callWith cpos (.builtin "dict.values") [.ref d] [] []) _ X.xe s1
  have g : (s1.heap.push { cls := .type "dict_values", data := .fields #[.ref d] }).get? s1.heap.objs.size = some { cls := .type "dict_values", data := .fields #[.ref d] } := Heap.get?_push_size _ rfl
  exact method_meetsIn F.slot_dict_values F.entry_dict_values rfl (PySem.evalArgs_none ⟨rfl, hm.dictOf.typeIs, F.args_dict_values_1 _, _, meets_dict_values (mixKind X.prog X.w) d hs, ⟨vs, hm.dictOf⟩,
    ⟨.ref s1.heap.objs.size, _, I1.laid (a := s1.heap.objs.size) (o := viewO s1.heap.objs.size d) (t' := s1.toks) (fun b ob q => Heap.get?_push_of_some _ q) (Nat.le_refl _) ⟨g, ⟨_, g⟩, fun h1 h2 z k => k _ z⟩, rfl, q _ (I1.hok.fresh (Nat.le_refl _))⟩⟩)
/-- list(d.values()) -/
def rListVals : List V → Hp → VK → Prop := fun xs H Q => ∃ p d o kvs, xs = [.ref p] ∧ H p = some (viewO p d) ∧ H d = some (.frz o (.dK kvs)) ∧ kvs.length ≤ 100000 ∧ ∀ q, H q = none → Q (.ref q) (upd H q (.lst (kvs.map Prod.snd)))
theorem call_listV (hc : X.calm = true) : CallR X (.type "list") rListVals := by
  intro pins s σ H xs us Q I r h
  obtain ⟨p, d, o, kvs, rfl, hp, hd, hl, q⟩ := h
  obtain ⟨v, rfl, rx⟩ := vals1 r
  obtain rfl : v = .ref p := rx
  obtain ⟨hs, hgd, hx, es, ep, vs, hdt, hsz, kv, hm⟩ := I.frzK hd
  obtain ⟨g, _, _⟩ := I.hok p _ hp
  have lk : kvs.length = vs.length := Paired.length kv
  have hz : kvs.length ≤ sizeLine := by rw [sizeLine_eq]; omega
  refine PySem.W.kdl_call (PySem.W.kdl_values (knd := mixKind X.prog X.w) (r := p) (d := d) (kvs := vs) (ep := ep)) (I.ok.hd hc) ⟨⟨_, g, rfl, rfl⟩, hm⟩ (by omega) fun h' tk acc c hk hS hacc => ?_
  refine ⟨.ref s.heap.objs.size, _, I.laid (a := s.heap.objs.size) (o := .lst (kvs.map Prod.snd)) (t' := tk) hk (Nat.le_refl _) ⟨by rw [List.length_map]; exact hz, acc.toList, c, ?_, by rw [Array.toArray_toList]; exact hS⟩, rfl, q _ (I.hok.fresh (Nat.le_refl _))⟩
  rw [acc_vals hacc]
  exact kv_vals kv
/-- n in d.values(), all values whole numbers -/
def rInVals : V → V → Hp → VK → Prop := fun y x H Q => ∃ (p d : Addr) (o : Obj) (kvs : List (Key × V)) (n : Int) (ns : List Int), x = .ref p ∧ y = .int n ∧ H p = some (viewO p d) ∧ H d = some (.frz o (.dK kvs)) ∧ kvs.map Prod.snd = ns.map V.int ∧ Q (.bl (ns.any fun m => m == n)) H
theorem op_inVals (hc : X.calm = true) : OpR X (compareOp .In) rInVals := by
  intro pins s σ H x y v u Q I rx ry h
  obtain ⟨p, d, o, kvs, n, ns, rfl, rfl, hp, hd, hns, q⟩ := h
  obtain rfl : u = .ref p := ry
  obtain ⟨t, rfl⟩ := (show ∃ t, v = Value.int n t from rx)
  obtain ⟨hs, hgd, hx, es, ep, vs, hdt, hsz, kv, hm⟩ := I.frzK hd
  obtain ⟨g, _, _⟩ := I.hok p _ hp
  have hT : s.TypeIs (.ref p) "dict_values" := ⟨_, g, rfl⟩
  show wpAny _ _ (do return Value.bool (← contains (.ref p) (.int n t))) _ _ s
  refine wpAny_bind ?_
  unfold contains
  try with_reducible refine wpAny_holding ?_
  refine wpAny_bind (wpAny_specialOf hT noIn_vals ?_)
  rw [if_neg (by intro z; cases z)]
  refine wpAny_bind (wpAny_callSpecialUnlessNone?_none (name := Str.ofString "__contains__") hT noIn_vals ?_)
  refine wpAny_bind (wpAny_rule ?_)
  refine wpAny_bind (wpAny_tryCatch ?_)
  refine wpAny_pyIter_values (knd := mixKind X.prog X.w) (d := d) (kvs := vs) (ep := ep) ⟨_, g, rfl, rfl⟩ hm ?_
  have hne : d ≠ s.heap.objs.size := Nat.ne_of_lt (Heap.lt_size hgd)
  have vv := kv_vals kv
  rw [hns] at vv
  have hlen : vs.length = ns.length := by
    have z := vv.length
    rw [List.length_map, List.length_map] at z
    omega
  have ci := ci_loop (R := fun r s' => match r with | .ok (.ret v) => (match v with | .bool b => wpAny (model X.prog X.w) X.A (pure (Value.bool b)) (EP X pins σ Q) X.xe s' | _ => False) | .ok _ => False | .error _ => False) (x := .int n t) (Walks.dictValues (A := X.A.in1) (knd := mixKind X.prog X.w) (I.ok.hd hc) s.heap.objs.size d hne vs ep) (fun i => ns.getD i 0 == n) (fun i v s' ⟨k, hk⟩ => ?_) vs.length 0 { s with heap := s.heap.push { cls := .type "dict_valueiterator", data := .fields #[.ref d, .int 0 0, .int vs.length 0, .int ep 0] } } rfl (Nat.zero_le _) ⟨⟨_, Heap.get?_push_size _ rfl, rfl, rfl⟩, hm.push _⟩ ?_
  · refine wpAny_bind (wpAny_runValue ?_)
    refine codeAny_mono ci fun r s' z => ?_
    match r, z with
    | .ok (.ret (.bool b)), z => exact wpAny_pure z
  · obtain ⟨m, t2, h1, rfl⟩ := kv_int vv i v (by rw [List.getElem?_map, hk]; rfl)
    rw [List.getD_eq_getElem?_getD, h1]
    exact SeqAt.EqAt.int_int m t2 n t
  · intro h' tk hk
    have e : ((List.range vs.length).drop 0).any (fun i => ns.getD i 0 == n) = ns.any fun m => m == n := by
      rw [List.drop_zero, hlen]
      exact any_range ns (fun m => m == n) 0
    rw [e]
    exact wpAny_pure ⟨.bl (ns.any fun m => m == n), H, I.kept (t' := tk) (fun b ob z => hk b ob (by simp; exact Nat.ne_of_lt (Heap.lt_size z)) (Heap.get?_push_of_some _ z)), rfl, q⟩
end
end Od

set_option Elab.async false
set_option maxRecDepth 100000
set_option maxHeartbeats 1000000
namespace K04
open PySem L2 Ly
def top (i : Nat) : Stmt := PySem.Challenge.pw_firstneed_k04_symbols_judged.main.body.getD i (.Pass ⟨0, 0, 0, 0⟩)
structure Txt (K : PySem.W.Frag) (mg : Str → Option Value) : Prop where
  z_len : mg "len" = none
  z_int : mg "int" = none
  z_bool : mg "bool" = none
  z_str : mg "str" = none
  z_list : mg "list" = none
  z_tuple : mg "tuple" = none
  z_dict : mg "dict" = none
  z_abs : mg "abs" = none
  z_max : mg "max" = none
  z_min : mg "min" = none
  z_range : mg "range" = none
  z_repr : mg "repr" = none
  z_isinstance : mg "isinstance" = none
  z_all : mg "all" = none
section
variable {P : Program} {w : World} {K : PySem.W.Frag} {mg : Str → Option Value} {base : Heap}
abbrev s_dice : Stmt := top 11
abbrev nm_dice : List Str := ["_law_script", "_law_spot", "_law_cell", "_law_great", "_law_blend"]
abbrev ps_dice : List Str := ["_law_script", "_law_spot"]
theorem sc_dice : FnScope nm_dice ps_dice (defScope s_dice) := ⟨rfl, rfl, rfl, by decide +kernel, rfl, by decide +kernel, by decide +kernel⟩
theorem ok_dice0 {f : Addr} {fd : FuncData} (F : Fun K "_law_dice" "_law_dice" s_dice f fd) (T : Txt K mg) : FnOk P w K mg base CX0 1 f fd ["_law_script", "_law_spot"] (spDice0 K) := by
  have nd := sc_dice.nd
  refine F.ok sc_dice (fun vs H Q E h => ?_) (fun cdv A outer s H vs Q E hr h => ?_)
  · obtain ⟨_, _, _, rfl, _⟩ := h
    rfl
  · obtain ⟨a, ns, n, rfl, hS, k⟩ := h
    refine ⟨_, (pss_cons (ps_set (i := 2) nd rfl (Or.inl rfl) (pe_op op_add (pe_op op_mul pe_int (pv 1)) pe_int))
      (Evl.pss_cut (ps_if (pt_cmpR op_lt (pv 1) (pe_callB (kcall_len (K := K)) (by rfl) T.z_len (by decide +kernel) (pa_cons (pv 0) pa_nil)) (nomark _)) (pss_one (ps_set (i := 2) nd rfl (Or.inl rfl) (pe_ix (kix_list (K := K)) (pv 0) (pv 1) (fun _ _ => rfl)))) pss_nil)
      (pss_cons (ps_set (i := 3) nd rfl (Or.inl rfl) (pe_op op_mod (pe_callTy call_int1 (by rfl) T.z_int (by decide +kernel) (pa_cons (pe_callB call_abs (by rfl) T.z_abs (by decide +kernel) (pa_cons (pv 2) pa_nil)) pa_nil)) (pe_op op_powW (pe_op op_powW pe_int pe_int) pe_int)))
      (pss_cons (ps_set (i := 4) nd rfl (Or.inl rfl) (pe_op op_add (pe_op op_add (pe_op op_add (pe_op op_mul (pe_op op_mod (pe_callTy call_int1 (by rfl) T.z_int (by decide +kernel) (pa_cons (pv 3) pa_nil)) pe_int) pe_int) (pe_op op_mul pe_int (pv 1))) (pe_op op_mul pe_int (pe_callTy call_int1 (by rfl) T.z_int (by decide +kernel) (pa_cons (pe_cmpR op_lt (pv 2) pe_int (nomark _)) pa_nil)))) pe_int))
      (pss_one (ps_ret (pe_lst (pa_cons (pe_callB (call_max2 rfl) (by rfl) T.z_max (by decide +kernel) (pa_cons pe_int (pa_cons (pe_op op_sub (pv 3) (pe_op op_powW pe_int pe_int)) pa_nil))) (pa_cons (pe_op op_mod (pe_callTy call_int1 (by rfl) T.z_int (by decide +kernel) (pa_cons (pv 4) pa_nil)) pe_int) (pa_cons pe_int pa_nil)))))))))), ?_⟩
    -- cell = 53 * spot + 29
    refine ⟨_, rfl, _, _, rfl, rfl, Or.inl ⟨by decide, by decide⟩, _, _, rfl, rfl, ?_⟩
    -- if spot < len(script)
    refine ⟨fun σ H' => ∃ cell : Int, σ = [some (.ref a), some (.int n), some (.int cell), none, none] ∧ H' = H, ?_, ?_⟩
    · refine ⟨_, rfl, _, rfl, a, _, rfl, Or.inl hS, _, _, rfl, rfl, _, rfl, ite2 (fun hc => ?_) (fun hc => ?_)⟩
      · have hc : (n : Int) < ((ns.map V.int).length : Int) := of_decide_eq_true hc
        have hl : n < ns.length := by
          rw [List.length_map] at hc
          omega
        exact ⟨_, rfl, _, rfl, a, _, _, _, rfl, rfl, hS, atI_nat (v := .int ns[n]) (by simp [hl]), ns[n], rfl, rfl⟩
      · exact ⟨_, rfl, rfl⟩
    · rintro σ H' ⟨cell, rfl, rfl⟩
      -- great
      refine ⟨_, rfl, _, rfl, Or.inl ⟨_, rfl, _, _, rfl, rfl, ⟨by decide, by decide +kernel⟩, _, _, rfl, rfl, ⟨by decide, by decide +kernel⟩, _, _, rfl, rfl, by show (0 : Int) < _; decide +kernel, ?_⟩⟩
      -- blend
      refine ⟨_, rfl, Or.inl ⟨_, rfl, _, _, rfl, rfl, by show (0 : Int) < 2305843009213693723; decide, _, _, rfl, rfl, Or.inr ⟨by decide, by decide⟩, _, rfl, _, _, rfl, rfl, Or.inl ⟨by decide, by decide⟩, _, _, rfl, rfl, _, rfl, _, _, rfl, rfl, Or.inr ⟨_, rfl, _, _, rfl, rfl, Or.inl ⟨by decide, by decide⟩, _, _, rfl, rfl, _, _, rfl, rfl, ?_⟩⟩⟩
      -- return
      refine ⟨_, rfl, _, _, rfl, rfl, ⟨by decide, by decide +kernel⟩, _, _, rfl, rfl, _, _, rfl, _, rfl, Or.inl ⟨_, rfl, _, _, rfl, rfl, by show (0 : Int) < 2305843009213693723; decide, by show 3 ≤ sizeLine; decide, fun p hp => ?_⟩⟩
      exact k p _ _ _ hp
theorem ok_dice {f : Addr} {fd : FuncData} (F : Fun K "_law_dice" "_law_dice" s_dice f fd) (T : Txt K mg) : FnOk P w K mg base CX0 1 f fd ["_law_script", "_law_spot"] (spDice K) := by
  refine (fn_mkdice (ok_dice0 F T)).imp fun vs H Q E h => ?_
  obtain ⟨a, ns, n, rfl, hS, k⟩ := h
  refine ⟨a, ns, n, rfl, hS, fun p x y z hp => ⟨p, x, y, z, rfl, upd_same, ?_⟩⟩
  rw [upd_upd]
  exact k p hp

abbrev s_roll : Stmt := top 12
abbrev nm_roll : List Str := ["_law_dice_here", "_law_total", "_law_found", "_law_one", "_law_two"]
abbrev ps_roll : List Str := ["_law_dice_here", "_law_total"]
theorem sc_roll : FnScope nm_roll ps_roll (defScope s_roll) := ⟨rfl, rfl, rfl, by decide +kernel, rfl, by decide +kernel, by decide +kernel⟩
theorem ok_roll0 {f : Addr} {fd : FuncData} (F : Fun K "_law_roll" "_law_roll" s_roll f fd) (T : Txt K mg) : FnOk P w K mg base CX0 1 f fd ["_law_dice_here", "_law_total"] spRoll0 := by
  have nd := sc_roll.nd
  refine F.ok sc_roll (fun vs H Q E h => ?_) (fun cdv A outer s H vs Q E hr h => ?_)
  · obtain ⟨_, _, _, _, _, rfl, _⟩ := h
    rfl
  · obtain ⟨p, t, a, b, c, rfl, ht, ht2, hp, k⟩ := h
    refine ⟨_, (pss_cons (ps_if (pt_cmpR op_gt (pe_ix (kix_list (K := K)) (pv 0) pe_int (fun _ _ => rfl)) pe_int (nomark _)) (pss_cons (ps_set (i := 2) nd rfl (Or.inl rfl) (pe_op op_mod (pe_callTy call_int1 (by rfl) T.z_int (by decide +kernel) (pa_cons (pe_ix (kix_list (K := K)) (pv 0) pe_int (fun _ _ => rfl)) pa_nil)) (pv 1)))
      (pss_cons (ps_asg (pe_op op_fdiv (pe_ix (kix_list (K := K)) (pv 0) pe_int (fun _ _ => rfl)) (pv 1)) (pg_sub (pv 0) pe_int set_list))
      (pss_one (ps_ret (pv 2))))) pss_nil)
      (pss_cons (ps_asg (pe_op op_add (pe_ix (kix_list (K := K)) (pv 0) pe_int (fun _ _ => rfl)) pe_int) (pg_sub (pv 0) pe_int set_list))
      (pss_cons (ps_set (i := 3) nd rfl (Or.inl rfl) (pe_op op_mod (pe_callTy call_int1 (by rfl) T.z_int (by decide +kernel) (pa_cons (pe_op op_add (pe_ix (kix_list (K := K)) (pv 0) pe_int (fun _ _ => rfl)) (pe_op op_mul pe_int (pe_ix (kix_list (K := K)) (pv 0) pe_int (fun _ _ => rfl)))) pa_nil)) pe_int))
      (pss_cons (ps_set (i := 4) nd rfl (Or.inl rfl) (pe_op op_add (pe_op op_mul (pe_op op_mod (pe_callTy call_int1 (by rfl) T.z_int (by decide +kernel) (pa_cons (pe_op op_mul (pv 3) (pv 3)) pa_nil)) pe_int) (pv 3)) (pe_op op_mul pe_int (pe_ix (kix_list (K := K)) (pv 0) pe_int (fun _ _ => rfl)))))
      (pss_cons (ps_set (i := 4) nd rfl (Or.inl rfl) (pe_op op_mod (pe_callTy call_int1 (by rfl) T.z_int (by decide +kernel) (pa_cons (pv 4) pa_nil)) pe_int))
      (pss_one (ps_ret (pe_op op_mod (pe_callTy call_int1 (by rfl) T.z_int (by decide +kernel) (pa_cons (pe_op op_fdiv (pv 4) pe_int) pa_nil)) (pv 1))))))))), ?_⟩
    have hL : SqL K H p [.int a, .int b, .int c] := SqL.of hp
    have h0 : (0 : Int) < 2305843009213693951 := by decide
    have h1 : (0 : Int) < 2305843009213693921 := by decide
    have h2 : (0 : Int) < 2305843009213693723 := by decide
    have hnn : ∀ x : Int, 0 ≤ x % t := fun x => Int.emod_nonneg _ (by omega)
    have hlt : ∀ x : Int, x % t < t := fun x => Int.emod_lt_of_pos _ ht
    refine ⟨_, rfl, p, _, _, _, rfl, rfl, hL, rfl, _, _, rfl, rfl, _, rfl, ite2 (fun _ => ?_) (fun _ => ?_)⟩
    · refine ⟨_, rfl, p, _, _, _, rfl, rfl, hL, rfl, Or.inl ⟨_, rfl, _, rfl, _, _, rfl, rfl, ht, ?_⟩⟩
      refine ⟨_, rfl, p, _, _, _, rfl, rfl, hL, rfl, _, rfl, _, _, rfl, rfl, ⟨ht, ht2⟩, _, rfl, p, _, _, _, rfl, rfl, hp, rfl, ?_⟩
      exact ⟨_, rfl, k _ _ _ _ (hnn _) (hlt _)⟩
    · refine ⟨_, rfl, p, _, _, _, rfl, rfl, hL, rfl, _, _, rfl, rfl, _, rfl, p, _, _, _, rfl, rfl, hp, rfl, ?_⟩
      have hL2 : SqL K (upd H p (.lst ([.int a, .int b, .int c].set 2 (.int (c + 1))))) p [.int a, .int b, .int (c + 1)] := SqL.of upd_same
      refine ⟨_, rfl, p, _, _, _, rfl, rfl, hL2, rfl, _, rfl, p, _, _, _, rfl, rfl, hL2, rfl, _, _, rfl, rfl, Or.inl ⟨by decide, by decide⟩, _, _, rfl, rfl, Or.inl ⟨_, rfl, _, _, rfl, rfl, h0, ?_⟩⟩
      have hone : ∀ x : Int, -(2 ^ 64) < x % 2305843009213693951 ∧ x % 2305843009213693951 < 2 ^ 64 := fun x => ⟨by have := Int.emod_nonneg x (b := 2305843009213693951) (by decide); omega, by have := Int.emod_lt_of_pos x h0; omega⟩
      refine ⟨_, rfl, _, rfl, _, _, rfl, rfl, Or.inl (hone _), Or.inl ⟨_, rfl, _, _, rfl, rfl, h1, _, rfl, _, _, rfl, rfl, Or.inr (hone _), _, rfl, p, _, _, _, rfl, rfl, hL2, rfl, _, _, rfl, rfl, Or.inl ⟨by decide, by decide⟩, _, _, rfl, rfl, ?_⟩⟩
      refine ⟨_, rfl, Or.inl ⟨_, rfl, _, _, rfl, rfl, h2, ?_⟩⟩
      refine ⟨_, rfl, _, _, rfl, rfl, ⟨by decide, by decide⟩, Or.inl ⟨_, rfl, _, rfl, _, _, rfl, rfl, ht, ?_⟩⟩
      exact k _ _ _ _ (hnn _) (hlt _)
theorem ok_roll {f : Addr} {fd : FuncData} (F : Fun K "_law_roll" "_law_roll" s_roll f fd) (T : Txt K mg) : FnOk P w K mg base CX0 1 f fd ["_law_dice_here", "_law_total"] spRoll := by
  refine (fn_dice (ok_roll0 F T)).imp fun vs H Q E h => ?_
  obtain ⟨p, t, rfl, h1, h2, hp, k⟩ := h
  refine ⟨rfl, p, hp, fun a b c => ⟨p, t, a, b, c, rfl, h1, h2, upd_same, fun r a' b' c' h3 h4 => ⟨⟨a', b', c', upd_same⟩, ?_⟩⟩⟩
  rw [upd_upd, upd_upd, upd_id hp]
  exact k r h3 h4

abbrev s_pick : Stmt := top 13
abbrev nm_pick : List Str := ["_law_dice_here", "_law_items"]
abbrev ps_pick : List Str := ["_law_dice_here", "_law_items"]
theorem sc_pick : FnScope nm_pick ps_pick (defScope s_pick) := ⟨rfl, rfl, rfl, by decide +kernel, rfl, by decide +kernel, by decide +kernel⟩
theorem ok_pick {f : Addr} {fd : FuncData} (F : Fun K "_law_pick" "_law_pick" s_pick f fd) (T : Txt K mg) (C_roll : Cal P w K mg base "_law_roll" 1 ["_law_dice_here", "_law_total"] spRoll) : FnOk P w K mg base CX0 2 f fd ["_law_dice_here", "_law_items"] (spPick K) := by
  refine F.ok sc_pick (fun vs H Q E h => ?_) (fun cdv A outer s H vs Q E hr h => ?_)
  · obtain ⟨_, _, _, rfl, _⟩ := h
    rfl
  · obtain ⟨p, l, xs, rfl, hp, hl, h1, h2, k⟩ := h
    refine ⟨_, (pss_one (ps_ret (pe_ix (kix_list (K := K)) (pv 1) (pe_cal C_roll (hr.mono (by first | decide | omega)) rfl (pa_cons (pv 0) (pa_cons (pe_callB (kcall_len (K := K)) (by rfl) T.z_len (by decide +kernel) (pa_cons (pv 1) pa_nil)) pa_nil))) (fun _ _ => rfl)))), ?_⟩
    refine ⟨_, rfl, _, rfl, _, rfl, l, _, rfl, Or.inl hl, p, _, rfl, by omega, by omega, hp, fun r h3 h4 => ?_⟩
    have e : r = (r.toNat : Int) := by omega
    have hx : xs[r.toNat]? = some (xs[r.toNat]'(by omega)) := by simp
    exact ⟨l, _, _, _, rfl, rfl, hl, at_of e hx, k _ _ hx⟩
end
section
variable {P : Program} {w : World} {K : PySem.W.Frag} {mg : Str → Option Value} {base : Heap}
abbrev s_is_integer : Stmt := top 6
abbrev nm_is_integer : List Str := ["value"]
abbrev ps_is_integer : List Str := ["value"]
theorem sc_is_integer : FnScope nm_is_integer ps_is_integer (defScope s_is_integer) := ⟨rfl, rfl, rfl, by decide +kernel, rfl, by decide +kernel, by decide +kernel⟩
theorem ok_is_integer {f : Addr} {fd : FuncData} (F : Fun K "is_integer" "is_integer" s_is_integer f fd) (T : Txt K mg) {tL : Tok} (g_LONGEST : mg "LONGEST" = some (.int (10 ^ 60) tL)) : FnOk P w K mg base CX0 1 f fd ["value"] (spIsInt K) := by
  have nd := sc_is_integer.nd
  refine F.ok sc_is_integer (fun vs H Q E h => ?_) (fun cdv A outer s H vs Q E hr h => ?_)
  · obtain ⟨_, _, rfl, _⟩ := h
    rfl
  · obtain ⟨x, kd, rfl, hx, k⟩ := h
    refine ⟨_, (pss_one (ps_ret (pe_and (pe_callB (kcall_isi (K := K)) (by rfl) T.z_isinstance (by decide +kernel) (pa_cons (pv 0) (pa_cons (pe_ty "int" (by rfl) T.z_int (by decide +kernel)) pa_nil))) (pe_and (pe_not (pe_callB (kcall_isi (K := K)) (by rfl) T.z_isinstance (by decide +kernel) (pa_cons (pv 0) (pa_cons (pe_ty "bool" (by rfl) T.z_bool (by decide +kernel)) pa_nil)))) (pe_one (pe_chain op_lt op_lt (pe_un un_neg (pe_gint rfl g_LONGEST)) (pv 0) (pe_gint rfl g_LONGEST))))))), ?_⟩
    obtain ⟨t1, ty1, kt1⟩ := hx.isi (n := "int") (by decide)
    obtain ⟨t2, ty2, kt2⟩ := hx.isi (n := "bool") (by decide)
    refine ⟨_, rfl, _, _, _, _, _, rfl, ClsV.ty _, ty1, kt1, _, rfl, ?_⟩
    cases hx with
    | int i =>
      refine iteT ⟨_, rfl, _, _, _, _, _, rfl, ClsV.ty _, ty2, kt2, _, rfl, _, rfl, iteT ?_⟩
      refine ⟨_, rfl, _, rfl, _, _, rfl, rfl, _, rfl, ?_⟩
      have k : Q (.bl (decide (-(10 ^ 60) < i) && decide (i < 10 ^ 60))) H := k
      by_cases h1 : -(10 ^ 60) < i
      · rw [decide_eq_true h1] at k ⊢
        refine iteT ⟨_, _, rfl, rfl, ?_⟩
        exact k
      · rw [decide_eq_false h1] at k ⊢
        exact iteF k
    | bl b => exact iteT ⟨_, rfl, _, _, _, _, _, rfl, ClsV.ty _, ty2, kt2, _, rfl, _, rfl, iteF k⟩
    | non => exact iteF k
    | str x => exact iteF k
    | lst e => exact iteF k
    | tup e => exact iteF k
    | dK e => exact iteF k
    | own e o => exact iteF k
end
section
variable {P : Program} {w : World} {K : PySem.W.Frag} {mg : Str → Option Value} {base : Heap}
abbrev s_is_within : Stmt := top 7
abbrev nm_is_within : List Str := ["value", "least", "most"]
abbrev ps_is_within : List Str := ["value", "least", "most"]
theorem sc_is_within : FnScope nm_is_within ps_is_within (defScope s_is_within) := ⟨rfl, rfl, rfl, by decide +kernel, rfl, by decide +kernel, by decide +kernel⟩
theorem ok_is_within {f : Addr} {fd : FuncData} (F : Fun K "is_within" "is_within" s_is_within f fd) (C_is_integer : Cal P w K mg base "is_integer" 1 ["value"] (spIsInt K)) : FnOk P w K mg base CX0 2 f fd ["value", "least", "most"] (spWithin K) := by
  have nd := sc_is_within.nd
  refine F.ok sc_is_within (fun vs H Q E h => ?_) (fun cdv A outer s H vs Q E hr h => ?_)
  · obtain ⟨_, _, _, _, rfl, _⟩ := h
    rfl
  · obtain ⟨x, kd, lo, hi, rfl, hx, k⟩ := h
    refine ⟨_, (pss_one (ps_ret (pe_and (pe_cal C_is_integer (hr.mono (by first | decide | omega)) rfl (pa_cons (pv 0) pa_nil)) (pe_one (pe_chain op_le op_le (pv 1) (pv 0) (pv 2)))))), ?_⟩
    refine ⟨_, rfl, x, kd, rfl, hx, _, rfl, ?_⟩
    cases x with
    | int i =>
      cases q1 : isI (.int i) with
      | false =>
        refine iteF ?_
        have k : Q (.bl (isI (.int i) && (decide (lo ≤ i) && decide (i ≤ hi)))) H := k
        rw [q1] at k
        exact k
      | true =>
        have k : Q (.bl (isI (.int i) && (decide (lo ≤ i) && decide (i ≤ hi)))) H := k
        rw [q1, Bool.true_and] at k
        refine iteT ⟨_, rfl, _, rfl, _, _, rfl, rfl, _, rfl, ?_⟩
        by_cases h1 : lo ≤ i
        · rw [decide_eq_true h1] at k ⊢
          refine iteT ⟨_, rfl, _, _, rfl, rfl, ?_⟩
          exact k
        · rw [decide_eq_false h1] at k ⊢
          exact iteF k
    | _ => exact iteF k
end
section
variable {P : Program} {w : World} {K : PySem.W.Frag} {mg : Str → Option Value} {base : Heap}
abbrev s_is_word : Stmt := top 8
abbrev nm_is_word : List Str := ["value", "sign"]
abbrev ps_is_word : List Str := ["value"]
theorem sc_is_word : FnScope nm_is_word ps_is_word (defScope s_is_word) := ⟨rfl, rfl, rfl, by decide +kernel, rfl, by decide +kernel, by decide +kernel⟩
theorem ok_is_word {f : Addr} {fd : FuncData} (F : Fun K "is_word" "is_word" s_is_word f fd) (T : Txt K mg) {t1 t2 : Tok} (g_MAX_LETTERS : mg "MAX_LETTERS" = some (.int 8 t1)) (g_LETTERS : mg "LETTERS" = some (.str "abcdefghijklmnopqrstuvwxyz" t2)) : FnOk P w K mg base CX0 1 f fd ["value"] (spWord K) := by
  have nd := sc_is_word.nd
  refine F.ok sc_is_word (fun vs H Q E h => ?_) (fun cdv A outer s H vs Q E hr h => ?_)
  · obtain ⟨_, _, rfl, _⟩ := h
    rfl
  · obtain ⟨x, kd, rfl, hx, sm, k⟩ := h
    refine ⟨_, (pss_one (ps_ret (pe_and (pe_callB (kcall_isi (K := K)) (by rfl) T.z_isinstance (by decide +kernel) (pa_cons (pv 0) (pa_cons (pe_ty "str" (by rfl) T.z_str (by decide +kernel)) pa_nil))) (pe_and (pe_chain op_le op_le pe_int (pe_callB call_len_str (by rfl) T.z_len (by decide +kernel) (pa_cons (pv 0) pa_nil)) (pe_gint rfl g_MAX_LETTERS)) (pe_one (pe_callB (kcr_all (K := K) rfl) (by rfl) T.z_all (by decide +kernel) (pa_cons (pe_lc (own := [("sign", 1)]) (g := (gName 1)) (by rfl) nd (pi_str (pv 0)) (blkOk_by (own := [("sign", 1)]) (N := nm_is_word) (sc := defScope s_is_word) (by decide +kernel)) (fun _ _ _ _ _ => (pg_name (i := 1) nd rfl (Or.inl rfl))) (fun _ _ _ _ _ => pts_nil) (fun _ _ _ _ _ => (pe_cmpR op_in_sign (pv 1) (pe_gstr rfl g_LETTERS) rfl))) pa_nil))))))), ?_⟩
    obtain ⟨t1, ty1, kt1⟩ := hx.isi (n := "str") (by decide)
    refine ⟨_, rfl, _, _, _, _, _, rfl, ClsV.ty _, ty1, kt1, _, rfl, ?_⟩
    cases hx with
    | str z =>
      have hz := sm z rfl
      refine iteT ?_
      have k : ∀ H', Gx H H' → Q (.bl ((decide (1 ≤ (z.length : Int)) && decide ((z.length : Int) ≤ 8)) && z.cps.toList.all fun c => decide (c ∈ letters))) H' := k
      have h1 : EvG (tCB (fun xs H Q => ∃ z, xs = [.str z] ∧ z.length ≤ sizeLine ∧ Q (.int z.length) H) (tCons (tVar 0) tNil)) [some (.str z), none] H (IntT fun i => i = (z.length : Int)) := fun H1 _ Q q => ⟨_, rfl, z, rfl, Evl.sz_of hz, q _ H1 (Gx.refl _) ⟨_, rfl, rfl⟩⟩
      refine EvG.use (te := tAndV _ _) (evg_andV (evg_chain (f := fun i j => decide (i ≤ j)) (g := fun i j => decide (i ≤ j)) (evg_i 1) h1 (evg_i 8)) (b := z.cps.toList.all fun c => decide (c ∈ letters)) fun hle H1 e1 => ?_) fun v H1 e1 ⟨b, z1, hb⟩ => by rw [z1, hb]; exact k H1 e1
      have hl : z.cps.size ≤ 8 := by
        rw [Bool.and_eq_true] at hle
        have := of_decide_eq_true hle.2
        show z.length ≤ 8
        omega
      refine evg_rAll ((evn_lcA (R := fun i y _ => ∃ c, z.cps[i]? = some c ∧ y = .bl (decide (c ∈ letters))) (evw_str (z := z) (evg_var rfl fun _ _ => rfl)) (by omega) (fun _ _ _ _ _ h => h) ?_ fun _ _ _ _ _ h => h).imp ?_)
      · rintro i x H3 _ e3 ⟨c, hc, rfl⟩ H4 e4 Q q
        exact ⟨_, rfl, c, _, rfl, rfl, q _ H4 (Gx.refl _) ⟨c, hc, rfl⟩⟩
      · rintro p H3 e3 ⟨ys, hp, hlen, hall⟩
        have hys : ys = (z.cps.toList.map fun c => decide (c ∈ letters)).map V.bl := by
          rw [List.map_map]
          exact of_cps hlen hall
        refine ⟨z.cps.toList.map fun c => decide (c ∈ letters), by rw [← hys]; exact hp, ?_⟩
        rw [List.all_map]
        rfl
    | bl b => exact iteF (k H (Gx.refl _))
    | non => exact iteF (k H (Gx.refl _))
    | int x => exact iteF (k H (Gx.refl _))
    | lst e => exact iteF (k H (Gx.refl _))
    | tup e => exact iteF (k H (Gx.refl _))
    | dK e => exact iteF (k H (Gx.refl _))
    | own e o => exact iteF (k H (Gx.refl _))
end
section
variable {P : Program} {w : World} {K : PySem.W.Frag} {mg : Str → Option Value} {base : Heap}
abbrev s_some : Stmt := top 14
abbrev nm_some : List Str := ["_law_dice_here", "_law_items", "_law_size", "_law_left", "_law_turn"]
abbrev ps_some : List Str := ["_law_dice_here", "_law_items", "_law_size"]
theorem sc_some : FnScope nm_some ps_some (defScope s_some) := ⟨rfl, rfl, rfl, by decide +kernel, rfl, by decide +kernel, by decide +kernel⟩
theorem ok_some {f : Addr} {fd : FuncData} (F : Fun K "_law_some" "_law_some" s_some f fd) (T : Txt K mg) (C_roll : Cal P w K mg base "_law_roll" 1 ps_roll spRoll) : FnOk P w K mg base CX0 2 f fd ps_some (spSome K) := by
  have nd := sc_some.nd
  refine F.ok sc_some (fun vs H Q E h => ?_) (fun cdv A outer s H vs Q E hr h => ?_)
  · obtain ⟨_, _, _, _, rfl, _⟩ := h
    rfl
  · obtain ⟨d, l, xs, n, rfl, hd, hl, hn, hx, k⟩ := h
    refine ⟨_, (pss_cons (ps_set (i := 3) nd rfl (Or.inr rfl) (pe_callTy (kcall_list (K := K)) (by rfl) T.z_list (by decide +kernel) (pa_cons (pv 1) pa_nil)))
      (pss_one (ps_ret (pe_lc (own := [("_law_turn", 4)]) (g := (gName 4)) (by rfl) nd (pi_range1 rfl T.z_range (pa_cons (pe_callB (call_min2 rfl) (by rfl) T.z_min (by decide +kernel) (pa_cons (pv 2) (pa_cons (pe_callB (kcall_len (K := K)) (by rfl) T.z_len (by decide +kernel) (pa_cons (pv 3) pa_nil)) pa_nil))) pa_nil)) (blkOk_by (own := [("_law_turn", 4)]) (N := nm_some) (sc := defScope s_some) (by decide +kernel)) (fun _ _ _ _ _ => (pg_name (i := 4) nd rfl (Or.inl rfl))) (fun _ _ _ _ _ => pts_nil) (fun _ _ _ _ _ => (kpe_bm (K := K) PySem.F.plainAttrs_list PySem.F.slot_list_pop PySem.F.type_list_pop mt_popAt (pv 3) (pa_cons (pe_cal C_roll (hr.mono (by first | decide | omega)) rfl (pa_cons (pv 0) (pa_cons (pe_callB (kcall_len (K := K)) (by rfl) T.z_len (by decide +kernel) (pa_cons (pv 3) pa_nil)) pa_nil))) pa_nil))))))), ?_⟩
    refine ⟨_, rfl, l, xs, rfl, Or.inl hl, fun p hp => ?_⟩
    have e1 : Gx H (upd H p (.lst xs)) := Gx.new hp
    refine ⟨_, rfl, _, rfl, p, xs, rfl, Or.inl (SqL.of upd_same), _, _, rfl, ?_⟩
    refine ⟨_, rfl, ?_, ?_, ?_⟩
    · split <;> omega
    · split <;> omega
    intro D hD
    have hDp : D ≠ p := fun z => by
      subst z
      rw [upd_same] at hD
      cases hD
    have hDn : H D = none := e1.free hD
    refine lc_it walk_range (fun i H' => ∃ ys ls, Gx H H' ∧ H' D = some (.lst ys) ∧ H' p = some (.lst ls) ∧ ys.length = i ∧ (ys ++ ls).Perm xs)
      ⟨[], xs, e1.trans (Gx.new hD), upd_same, by rw [upd_ne hDp.symm]; exact upd_same, rfl, List.Perm.refl _⟩ (fun _ _ _ _ => trivial) ?_ ?_
    · rintro i x H1 H2 hi ⟨ys, ls, e2, hy, hls, hyl, pm⟩ ⟨rfl, rfl⟩
      have pl : ys.length + ls.length = xs.length := by
        rw [← List.length_append]
        exact pm.length_eq
      have hi2 : i < xs.length := by
        revert hi
        split <;> omega
      refine ⟨rfl, yes_ite ⟨_, rfl, Or.inl ⟨rfl, _, SqL.of hls⟩, ?_⟩⟩
      refine ⟨_, rfl, _, rfl, p, ls, rfl, Or.inl (SqL.of hls), d, _, rfl, by omega, by omega, e2 _ _ hd, fun r h1 h2 => ?_⟩
      have hk : ls[r.toNat]? = some (ls[r.toNat]'(by omega)) := by simp
      refine ⟨p, ls, r, r.toNat, _, rfl, rfl, hls, by omega, by omega, PySem.seqIndex_of h1 h2, hk, ys, by rw [upd_ne hDp]; exact hy, Evl.sz_lt (by omega), ?_⟩
      refine ⟨_, ls.eraseIdx r.toNat, (e2.mut hp).mut hDn, upd_same, by rw [upd_ne hDp.symm, upd_same], by rw [List.length_append, hyl]; rfl, ?_⟩
      rw [List.append_assoc]
      exact (List.Perm.append_left ys (erase_perm hk)).trans pm
    · rintro H1 ⟨ys, ls, e2, hy, hls, hyl, pm⟩
      refine k D ys ls H1 e2 hDn hy ?_ pm
      rw [hyl]
      split <;> omega
end
end K04

set_option Elab.async false
set_option maxRecDepth 100000
set_option maxHeartbeats 1000000
namespace K04
open PySem L2 Ly Od
theorem cr_or {X : Cx} {f : Value} {r r' : List V → Hp → VK → Prop} (h : CallR X f r) (h' : CallR X f r') : CallR X f (fun xs H Q => r xs H Q ∨ r' xs H Q) := fun pins s σ H xs us Q I rv q => q.elim (h pins s σ H xs us Q I rv) (h' pins s σ H xs us Q I rv)
def inR (n : Nat) : Bool := decide ((1 : Int) ≤ (n : Int)) && decide ((n : Int) ≤ 8)
def symB (ks vs : List V) : Bool := (inR ks.length && ks.all isW) && (vs.all (fun v => wthn v 0 3) && vs.any fun v => decide (v = .int 0))
/-- a dict that stands still; if all keys are words it is a plain one -/
structure SymD (K : PySem.W.Frag) (H : Hp) (d : Addr) (ks vs : List V) : Prop where
  fz : Fz H d ks
  len : ks.length ≤ 100
  key : ∀ y ∈ ks, ∃ k, Pl K H y k ∧ Small y
  val : ks.all isW = true → ∃ o kvs, H d = some (.frz o (.dK kvs)) ∧ vs = kvs.map Prod.snd ∧ ks.length = vs.length ∧ ∀ v ∈ vs, ∃ k, Pl K H v k
theorem SymD.gx {K : PySem.W.Frag} {H H' : Hp} {d : Addr} {ks vs : List V} (e : Gx H H') (h : SymD K H d ks vs) : SymD K H' d ks vs := ⟨h.fz.gx e, h.len, fun y hy => let ⟨k, a, b⟩ := h.key y hy; ⟨k, a.gx e, b⟩,
  fun z => let ⟨o, kvs, a, b, l, c⟩ := h.val z; ⟨o, kvs, e _ _ a, b, l, fun v hv => let ⟨k, q⟩ := c v hv; ⟨k, q.gx e⟩⟩⟩
def spSym (K : PySem.W.Frag) : Sp := fun vs H Q _ => ∃ x, vs = [x] ∧ ((∃ k, Pl K H x k ∧ kdIs k "dict" = false ∧ ∀ H', Gx H H' → Q (.bl false) H') ∨
  ∃ d ks ws, x = .ref d ∧ SymD K H d ks ws ∧ ∀ H', Gx H H' → Q (.bl (symB ks ws)) H')
theorem evw_ky {σ : L2.St} {H : Hp} {td : TE} {d : Addr} {ks : List V} (h : EvG td σ H (Eq1 (.ref d))) (hd : Fz H d ks) : EvW (iKy td) σ H ks.length (fun i x _ => ks[i]? = some x) := fun H1 e R q =>
  h H1 e _ fun v H2 e2 hv => by
    obtain ⟨hs, o, u, ho, dd⟩ := hd
    refine ⟨d, o, u, ks, hv, hs, (e.trans e2) _ _ ho, dd, q _ H2 _ _ e2 walk_ky (fun H3 e3 => ((e.trans e2).trans e3) _ _ ho) fun i H3 x H4 _ e3 ⟨z4, hx⟩ => ?_⟩
    subst z4
    exact ⟨Gx.refl _, hx⟩
theorem evw_vals {σ : L2.St} {H : Hp} {td : TE} {d : Addr} {o : Obj} {kvs : List (Key × V)} (h : EvG td σ H (Eq1 (.ref d))) (hd : H d = some (.frz o (.dK kvs))) : EvW (iVals td) σ H kvs.length (fun i x _ => (kvs.map Prod.snd)[i]? = some x) := fun H1 e R q =>
  h H1 e _ fun v H2 e2 hv => by
    refine ⟨d, o, kvs, hv, (e.trans e2) _ _ hd, q _ H2 _ _ e2 walk_values (fun H3 e3 => ((e.trans e2).trans e3) _ _ hd) fun i H3 x H4 _ e3 ⟨z4, k, hx⟩ => ?_⟩
    subst z4
    exact ⟨Gx.refl _, by show (kvs.map Prod.snd)[i]? = some x; rw [List.getElem?_map, hx]; rfl⟩
theorem bls_list {ys xs : List V} {f : V → Bool} (hl : ys.length = xs.length) (h : ∀ (i : Nat) (y : V), ys[i]? = some y → ∃ x, xs[i]? = some x ∧ y = .bl (f x)) : ys = (xs.map f).map V.bl := by
  rw [List.map_map]
  exact list_of (f := fun x => V.bl (f x)) hl h
abbrev rIsiO (K : PySem.W.Frag) : List V → Hp → VK → Prop := fun xs H Q => rIsi K xs H Q ∨ rIsiF xs H Q
theorem isi_no {K : PySem.W.Frag} {σ : L2.St} {H : Hp} {te : TE} {x : V} {kd : Kd} (h : EvG te σ H (Eq1 x)) (hk : Pl K H x kd) (h0 : kdIs kd "dict" = false) : EvG (tCB (rIsiO K) (tCons te (tCons (tC (.ty "dict")) tNil))) σ H (BlE false) := fun H1 e Q q =>
  h H1 e _ fun v H2 e2 hv => by
    obtain rfl : v = x := hv
    obtain ⟨t1, ty1, kt1⟩ := (hk.gx (e.trans e2)).isi (n := "dict") (by decide)
    rw [h0] at kt1
    exact .inl ⟨_, _, _, _, _, rfl, ClsV.ty _, ty1, kt1, q _ H2 e2 ⟨_, rfl, rfl⟩⟩
theorem isi_yes {K : PySem.W.Frag} {σ : L2.St} {H : Hp} {te : TE} {d : Addr} {ks : List V} (h : EvG te σ H (Eq1 (.ref d))) (hd : Fz H d ks) : EvG (tCB (rIsiO K) (tCons te (tCons (tC (.ty "dict")) tNil))) σ H (BlE true) := fun H1 e Q q =>
  h H1 e _ fun v H2 e2 hv => by
    obtain rfl : v = .ref d := hv
    exact .inr ⟨d, ks, rfl, hd.gx (e.trans e2), q _ H2 e2 ⟨_, rfl, rfl⟩⟩
theorem evg_lenF {σ : L2.St} {H : Hp} {te : TE} {d : Addr} {ks : List V} (h : EvG te σ H (Eq1 (.ref d))) (hd : Fz H d ks) (hl : ks.length ≤ 100) : EvG (tCB rLenF (tCons te tNil)) σ H (IntT fun i => i = (ks.length : Int)) := fun H1 e Q q =>
  h H1 e _ fun v H2 e2 hv => by
    obtain rfl : v = .ref d := hv
    exact ⟨d, ks, rfl, hd.gx (e.trans e2), Evl.sz_of (by omega), q _ H2 e2 ⟨_, rfl, rfl⟩⟩
theorem evg_inV {σ : L2.St} {H : Hp} {te : TE} {d : Addr} {o : Obj} {kvs : List (Key × V)} {ns : List Int} {n : Int} (h : EvG te σ H (Eq1 (.ref d))) (hd : H d = some (.frz o (.dK kvs))) (hn : kvs.map Prod.snd = ns.map V.int) :
    EvG (tOp rInVals (tC (.int n)) (tVals te)) σ H (BlE (ns.any fun m => m == n)) := fun H1 e Q q =>
  h H1 e _ fun v H2 e2 hv => by
    obtain rfl : v = .ref d := hv
    have hd2 := (e.trans e2) _ _ hd
    refine ⟨d, o, kvs, rfl, hd2, fun p hp => ⟨p, d, o, kvs, n, ns, rfl, rfl, upd_same, (Gx.new hp) _ _ hd2, hn, q _ _ (e2.trans (Gx.new hp)) ⟨_, rfl, rfl⟩⟩⟩
theorem ints_w : ∀ {ws : List V}, ws.all (fun v => wthn v 0 3) = true → ∃ ns : List Int, ws = ns.map V.int
  | [], _ => ⟨[], rfl⟩
  | v :: ws, h => by
    rw [List.all_cons, Bool.and_eq_true] at h
    obtain ⟨ns, rfl⟩ := ints_w h.2
    cases v with
    | int i => exact ⟨i :: ns, rfl⟩
    | _ => exact absurd h.1 (by intro z; cases z)
theorem any_z (ns : List Int) : (ns.map V.int).any (fun v => decide (v = .int 0)) = ns.any fun m => m == 0 := by
  rw [List.any_map]
  congr 1
  funext m
  show decide (V.int m = V.int 0) = (m == 0)
  by_cases h : m = 0
  · rw [h]; rfl
  · rw [decide_eq_false (fun z => by cases z; exact h rfl)]
    exact (beq_eq_false_iff_ne.mpr h).symm
section
variable {P : Program} {w : World} {K : PySem.W.Frag} {mg : Str → Option Value} {base : Heap}
abbrev s_is_symbols : Stmt := top 9
abbrev nm_is_symbols : List Str := ["value", "word", "arity"]
abbrev ps_is_symbols : List Str := ["value"]
theorem sc_is_symbols : FnScope nm_is_symbols ps_is_symbols (defScope s_is_symbols) := ⟨rfl, rfl, rfl, by decide +kernel, rfl, by decide +kernel, by decide +kernel⟩
theorem ok_is_symbols {f : Addr} {fd : FuncData} (F : Fun K "is_symbols" "is_symbols" s_is_symbols f fd) (T : Txt K mg) {t1 t2 : Tok} (g_MAX_SYMBOLS : mg "MAX_SYMBOLS" = some (.int 8 t1)) (g_MAX_ARITY : mg "MAX_ARITY" = some (.int 3 t2))
    (C_is_word : Cal P w K mg base "is_word" 1 ["value"] (spWord K)) (C_is_within : Cal P w K mg base "is_within" 2 ["value", "least", "most"] (spWithin K)) : FnOk P w K mg base CX0 3 f fd ps_is_symbols (spSym K) := by
  have nd := sc_is_symbols.nd
  refine F.ok sc_is_symbols (fun vs H Q E h => ?_) (fun cdv A outer s H vs Q E hr h => ?_)
  · obtain ⟨_, rfl, _⟩ := h
    rfl
  · obtain ⟨x, rfl, h⟩ := h
    refine ⟨_, (pss_cons (ps_if (PW.pt (pw_or (pt_not (pt_val (pe_callB (cr_or (kcall_isi (K := K)) call_isiF) (by rfl) T.z_isinstance (by decide +kernel) (pa_cons (pv 0) (pa_cons (pe_ty "dict" (by rfl) T.z_dict (by decide +kernel)) pa_nil))))) (pw_or (pt_not (pt_chain op_le op_le pe_int (pe_callB call_lenF (by rfl) T.z_len (by decide +kernel) (pa_cons (pv 0) pa_nil)) (pe_gint rfl g_MAX_SYMBOLS))) (pw_or1 (pt_not (pt_val (pe_callB (kcr_all (K := K) rfl) (by rfl) T.z_all (by decide +kernel) (pa_cons (pe_lc (own := [("word", 1)]) (g := (gName 1)) (by rfl) nd (pi_ky (pv 0)) (blkOk_by (own := [("word", 1)]) (N := nm_is_symbols) (sc := defScope s_is_symbols) (by decide +kernel)) (fun _ _ _ _ _ => (pg_name (i := 1) nd rfl (Or.inl rfl))) (fun _ _ _ _ _ => pts_nil) (fun _ _ _ _ _ => (pe_cal C_is_word (hr.mono (by first | decide | omega)) rfl (pa_cons (pv 1) pa_nil)))) pa_nil)))))))) (pss_one (ps_ret pe_bl)) pss_nil)
      (pss_one (ps_ret (pe_and (pe_callB (kcr_all (K := K) rfl) (by rfl) T.z_all (by decide +kernel) (pa_cons (pe_lc (own := [("arity", 2)]) (g := (gName 2)) (by rfl) nd (pi_values (pv 0)) (blkOk_by (own := [("arity", 2)]) (N := nm_is_symbols) (sc := defScope s_is_symbols) (by decide +kernel)) (fun _ _ _ _ _ => (pg_name (i := 2) nd rfl (Or.inl rfl))) (fun _ _ _ _ _ => pts_nil) (fun _ _ _ _ _ => (pe_cal C_is_within (hr.mono (by first | decide | omega)) rfl (pa_cons (pv 2) (pa_cons pe_int (pa_cons (pe_gint rfl g_MAX_ARITY) pa_nil)))))) pa_nil)) (pe_one (pe_cmpR (op_inVals rfl) pe_int (pe_vals (pv 0)) rfl)))))), ?_⟩
    rcases h with ⟨kd, hk, hkd, k⟩ | ⟨d, ks, ws, rfl, hd, k⟩
    · exact g_when (R := fun c => c = true) (evb_is (evb_or (a := true) (b := true) (evb_not (a := false) (evb_B (isi_no (evg_ve rfl) hk hkd))) (fun h => by cases h)) rfl) (fun _ H1 e => k H1 e) (fun h => by cases h)
    · refine g_when (R := fun c => c = (!inR ks.length || !ks.all isW)) (evb_is (evb_or (a := false) (b := !inR ks.length || !ks.all isW) (evb_not (a := true) (evb_B (isi_yes (evg_ve rfl) hd.fz))) (fun _ H1 e1 =>
        evb_or (evb_not (evb_test (evg_chain (f := fun i j => decide (i ≤ j)) (g := fun i j => decide (i ≤ j)) (evg_i 1) (evg_lenF (evg_ve rfl) (hd.fz.gx e1) hd.len) (evg_i 8)))) (fun _ H2 e2 => evb_not (evb_B (evg_rAll ((evn_lcA (R := fun i y _ => ∃ x, ks[i]? = some x ∧ y = .bl (isW x)) (evw_ky (evg_ve rfl) (hd.fz.gx (e1.trans e2))) (by have := hd.len; omega) (fun _ _ _ _ _ h => h) ?_ fun _ _ _ _ _ h => h).imp ?_)))))) rfl) (fun h H1 e1 => ?_) (fun h H1 e1 => ?_)
      · intro i x H3 _ e3 hx H4 e4 Q4 q4
        obtain ⟨kd, h1, h2⟩ := hd.key x (List.mem_of_getElem? hx)
        exact ⟨_, rfl, x, kd, rfl, h1.gx (((e1.trans e2).trans e3).trans e4), h2, fun H5 e5 => q4 _ H5 e5 ⟨x, hx, rfl⟩⟩
      · rintro p H3 e3 ⟨ys, hp, hl, hall⟩
        rw [bls_list hl hall] at hp
        refine ⟨_, hp, ?_⟩
        rw [List.all_map]
        rfl
      · have : symB ks ws = false := by
          unfold symB
          cases q1 : inR ks.length with
          | false => rfl
          | true =>
            cases q2 : ks.all isW with
            | false => rfl
            | true => rw [q1, q2] at h; cases h
        rw [this] at k
        exact k H1 e1
      · have q1 : inR ks.length = true := by
          cases q : inR ks.length with
          | true => rfl
          | false => rw [q] at h; cases h
        have q2 : ks.all isW = true := by
          cases q : ks.all isW with
          | true => rfl
          | false => rw [q, Bool.not_false, Bool.or_true] at h; cases h
        unfold symB at k
        rw [q1, q2] at k
        obtain ⟨o, kvs, ho, hws, hwl, hv⟩ := hd.val q2
        have hkl : kvs.length ≤ 100 := by
          have := hd.len
          rw [hwl, hws, List.length_map] at this
          exact this
        refine g_ret (Φ := BlE (ws.all (fun v => wthn v 0 3) && ws.any fun v => decide (v = .int 0))) (evg_andV (evg_rAll ((evn_lcA (R := fun i y _ => ∃ x, ws[i]? = some x ∧ y = .bl (wthn x 0 3)) (evw_vals (evg_ve rfl) (e1 _ _ ho)) (by omega) (fun _ _ _ _ _ h => h) ?_ fun _ _ _ _ _ h => h).imp ?_)) fun h3 H2 e2 => ?_) ?_
        · intro i x H3 _ e3 hx H4 e4 Q4 q4
          rw [← hws] at hx
          obtain ⟨kd, h1⟩ := hv x (List.mem_of_getElem? hx)
          exact ⟨_, rfl, x, kd, 0, 3, rfl, h1.gx ((e1.trans e3).trans e4), q4 _ H4 (Gx.refl _) ⟨x, hx, rfl⟩⟩
        · rintro p H3 e3 ⟨ys, hp, hl, hall⟩
          rw [bls_list (xs := ws) (f := fun x => wthn x 0 3) (by rw [hl, hws, List.length_map]) hall] at hp
          refine ⟨_, hp, ?_⟩
          rw [List.all_map]
          rfl
        · obtain ⟨ns, hns⟩ := ints_w h3
          rw [hns, any_z]
          exact evg_inV (evg_ve rfl) ((e1.trans e2) _ _ ho) (by rw [← hws, hns])
        · rintro v H2 e2 ⟨b, rfl, rfl⟩
          exact k H2 (e1.trans e2)
end
end K04

set_option Elab.async false
set_option maxRecDepth 100000
set_option maxHeartbeats 1000000
namespace K04
open PySem L2 Ly Od
theorem kop_notInD {X : Cx} {K : PySem.W.Frag} (hu : X.A.units + 65 < cLine) (hK : X.K = K := by rfl) : OpR X (compareOp .NotIn) (rNotInD K) := by subst hK; exact op_notInD hu
def mem (d : PyData) (ds : List PyData) : Bool := ds.any fun z => PyData.eqv z d
def words : List Str := ["a", "b", "c", "f", "g", "k", "cons", "nil", "zzzzzzzz", "o", "s"]
def wordsD : List PyData := words.map .str
def four : List PyData := [.int 0, .int 1, .int 2, .int 3]
structure Itm (K : PySem.W.Frag) (H : Hp) (y : V) (d : PyData) : Prop where
  dp : Dp K H y d
  lay : PyData.canLay0 d = true
  dep : PyData.depth d ≤ 1
theorem Itm.sh {K : PySem.W.Frag} {H : Hp} {y : V} {d : PyData} (h : Itm K H y d) : SeqAt.shaped d = true := by
  unfold SeqAt.shaped
  rw [h.lay, decide_eq_true (by have := h.dep; omega)]
  rfl
theorem Itm.gx {K : PySem.W.Frag} {H H' : Hp} {y : V} {d : PyData} (e : Gx H H') (h : Itm K H y d) : Itm K H' y d := ⟨Dp.gx e h.dp, h.lay, h.dep⟩
theorem itms {K : PySem.W.Frag} {H : Hp} : ∀ {ys : List V}, (∀ y ∈ ys, ∃ d, Itm K H y d) → ∃ ds, DpAll K H ys ds ∧ ds.length = ys.length ∧ SeqAt.shaped (.list ds) = true := by
  have go : ∀ {ys : List V}, (∀ y ∈ ys, ∃ d, Itm K H y d) → ∃ ds, DpAll K H ys ds ∧ ds.length = ys.length ∧ PyData.canLayAll0 ds = true ∧ PyData.depthAll ds ≤ 1 := by
    intro ys
    induction ys with
    | nil => exact fun _ => ⟨[], .nil, rfl, by simp [PyData.canLayAll0], by simp [PyData.depthAll]⟩
    | cons y ys ih =>
      intro h
      obtain ⟨d, hd⟩ := h y (List.mem_cons_self ..)
      obtain ⟨ds, h4, h5, h6, h7⟩ := ih fun z hz => h z (List.mem_cons_of_mem _ hz)
      exact ⟨d :: ds, .cons hd.dp h4, by rw [List.length_cons, List.length_cons, h5], by simp [PyData.canLayAll0, hd.lay, h6], by simp only [PyData.depthAll]; have := hd.dep; omega⟩
  intro ys h
  obtain ⟨ds, a, b, c, d⟩ := go h
  refine ⟨ds, a, b, ?_⟩
  unfold SeqAt.shaped
  simp only [PyData.canLay0, PyData.depth, c, Bool.true_and]
  exact decide_eq_true (by omega)
theorem eqv_nil (ds : List PyData) : PyData.eqv (.list ds) (.list []) = ds.isEmpty := by
  cases ds <;> rfl
/-- a list of those that pass -/
theorem evn_fil {σ : L2.St} {H : Hp} {wi : TI} {tt : TT} {j : Nat} {xs : List V} {p : V → Bool} (hw : EvW wi σ H xs.length (fun i x _ => xs[i]? = some x)) (hl : xs.length ≤ 100) (hj : ∀ x, ((wipe σ [j]).set j (some x))[j]? = some (some x))
    (ht : ∀ x ∈ xs, ∀ H1, Gx H H1 → EvB tt ((wipe σ [j]).set j (some x)) H1 (fun c => c = p x)) : EvN (tLc wi (gName j) tt (tVar j) [j]) σ H (NewL (xs.filter p)) := by
  intro H1 e Q q
  refine evn_lcN (n := xs.length) (B := fun i b => b = p (xs.getD i .non)) (R := fun i => Eq1 (xs.getD i .non)) hw (by omega) (fun _ _ _ _ _ h => h) (fun i x H3 hi e3 hx => ?_) (fun i x H3 hi e3 hx _ => ?_) (fun _ => Eq1.firm) H1 e Q fun a H2 e2 n2 ⟨ys, h, L⟩ => ?_
  · rw [List.getD_eq_getElem?_getD, hx]
    exact ht x (List.mem_of_getElem? hx) H3 e3
  · rw [List.getD_eq_getElem?_getD, hx]
    exact evg_ve (hj x)
  · have z := L.det (f := fun i => p (xs.getD i .non)) (v := fun i => xs.getD i .non) (fun i b _ h => h) fun i y _ h => h
    have z2 : xs.filter p = ((List.range xs.length).filter (fun i => p (xs.getD i .non))).map fun i => xs.getD i .non := by
      conv => lhs; rw [← Ly.range_getD xs .non]
      rw [List.filter_map]
      rfl
    rw [z, ← z2] at h
    exact q a H2 e2 n2 h
/-- .. is not the empty one -/
theorem evg_ne0 {K : PySem.W.Frag} {σ : L2.St} {H : Hp} {te : TE} {ys : List V} (h : EvN te σ H (NewL ys)) (hy : ∀ y ∈ ys, ∃ d, Itm K H y d) : EvG (tOp (rNeD K) te (tLst tNil)) σ H (BlE (!ys.isEmpty)) := fun H1 e Q q =>
  h H1 e _ fun p H2 e2 n2 hp => ⟨by decide, fun l hl => by
    obtain ⟨ds, h1, h2, h3⟩ := itms (K := K) (H := upd H2 l (.lst [])) (ys := ys) fun y hy' => let ⟨d, hd⟩ := hy y hy'; ⟨d, hd.gx ((e.trans e2).trans (Gx.new hl))⟩
    refine ⟨.list ds, .list [], .lst (SqL.of ((Gx.new hl) _ _ hp)) h1, .lst (SqL.of upd_same) .nil, h3, by decide, q _ _ (e2.trans (Gx.new hl)) ⟨_, rfl, ?_⟩⟩
    rw [eqv_nil]
    congr 1
    cases ds <;> cases ys <;> first | rfl | cases h2⟩
theorem fil_all {xs : List V} {p : V → Bool} : (!(xs.filter fun y => !p y).isEmpty) = !xs.all p := by
  induction xs with
  | nil => rfl
  | cons x xs ih =>
    rw [List.filter_cons, List.all_cons]
    cases q : p x with
    | true => simpa [q] using ih
    | false => simp
theorem strs_dp {K : PySem.W.Frag} {H : Hp} : ∀ {zs : List Str}, DpAll K H (zs.map V.str) (zs.map .str)
  | [] => .nil
  | _ :: _ => .cons (.str _) strs_dp
def spFits (K : PySem.W.Frag) : Sp := fun vs H Q _ => ∃ d ks ws, vs = [.ref d] ∧ SymD K H d ks ws ∧ (∀ y ∈ ks, ∃ dt, Itm K H y dt ∧ mem dt wordsD = isW y) ∧ (∀ v ∈ ws, ∃ k dt, Pl K H v k ∧ Itm K H v dt ∧ (kdIs k "bool" || !mem dt four) = !wthn v 0 3) ∧ ∀ H', Gx H H' → Q (.bl (symB ks ws)) H'
section
variable {P : Program} {w : World} {K : PySem.W.Frag} {mg : Str → Option Value} {base : Heap}
abbrev s_fits_symbols : Stmt := top 15
abbrev nm_fits_symbols : List Str := ["_law_value", "_law_words", "_law_one", "_law_many"]
abbrev ps_fits_symbols : List Str := ["_law_value"]
theorem sc_fits_symbols : FnScope nm_fits_symbols ps_fits_symbols (defScope s_fits_symbols) := ⟨rfl, rfl, rfl, by decide +kernel, rfl, by decide +kernel, by decide +kernel⟩
theorem ok_fits {f : Addr} {fd : FuncData} (F : Fun K "_law_fits_symbols" "_law_fits_symbols" s_fits_symbols f fd) (T : Txt K mg) : FnOk P w K mg base CX0 1 f fd ps_fits_symbols (spFits K) := by
  have nd := sc_fits_symbols.nd
  refine F.ok sc_fits_symbols (fun vs H Q E h => ?_) (fun cdv A outer s H vs Q E hr h => ?_)
  · obtain ⟨_, _, _, rfl, _⟩ := h
    rfl
  · obtain ⟨d, ks, ws, rfl, hd, hk, hv, k⟩ := h
    have hu : (A.deeper (PyProof.Rows.envOfC "_law_fits_symbols" (defScope s_fits_symbols) s.heap.objs.size f cdv)).units + 65 < cLine := by have := hr.un; omega
    refine ⟨_, (pss_cons (ps_set (i := 1) nd rfl (Or.inr rfl) (pe_lst (pa_cons pe_str (pa_cons pe_str (pa_cons pe_str (pa_cons pe_str (pa_cons pe_str (pa_cons pe_str (pa_cons pe_str (pa_cons pe_str (pa_cons pe_str (pa_cons pe_str (pa_cons pe_str pa_nil)))))))))))))
      (pss_cons (ps_if (PW.pt (pw_or (pt_not (pt_chain op_le op_le pe_int (pe_callB call_lenF (by rfl) T.z_len (by decide +kernel) (pa_cons (pv 0) pa_nil)) pe_int)) (pw_or1 (pt_cmpR (kop_neD (K := K) hr.units) (pe_lc (own := [("_law_one", 2)]) (g := (gName 2)) (by rfl) nd (pi_ky (pv 0)) (blkOk_by (own := [("_law_one", 2)]) (N := nm_fits_symbols) (sc := defScope s_fits_symbols) (by decide +kernel)) (fun _ _ _ _ _ => (pg_name (i := 2) nd rfl (Or.inl rfl))) (fun _ _ _ _ _ => (pts_one (pt_cmpR (kop_notInD (K := K) hu) (pv 2) (pv 1) rfl))) (fun _ _ _ _ _ => (pv 2))) (pe_lst pa_nil) (nomark _))))) (pss_one (ps_ret pe_bl)) pss_nil)
      (pss_cons (ps_set (i := 3) nd rfl (Or.inl rfl) (pe_callTy (call_listV rfl) (by rfl) T.z_list (by decide +kernel) (pa_cons (pe_vals (pv 0)) pa_nil)))
      (pss_cons (ps_if (pt_cmpR (kop_neD (K := K) hr.units) (pe_lc (own := [("_law_one", 2)]) (g := (gName 2)) (by rfl) nd (kpi_list (K := K) (pv 3)) (blkOk_by (own := [("_law_one", 2)]) (N := nm_fits_symbols) (sc := defScope s_fits_symbols) (by decide +kernel)) (fun _ _ _ _ _ => (pg_name (i := 2) nd rfl (Or.inl rfl))) (fun _ _ _ _ _ => (pts_one (PW.pt (pw_or (pt_val (pe_callB (kcall_isi (K := K)) (by rfl) T.z_isinstance (by decide +kernel) (pa_cons (pv 2) (pa_cons (pe_ty "bool" (by rfl) T.z_bool (by decide +kernel)) pa_nil)))) (pw_or1 (pt_cmpR (kop_notInD (K := K) hu) (pv 2) (pe_lst (pa_cons pe_int (pa_cons pe_int (pa_cons pe_int (pa_cons pe_int pa_nil))))) rfl)))))) (fun _ _ _ _ _ => (pv 2))) (pe_lst pa_nil) (nomark _)) (pss_one (ps_ret pe_bl)) pss_nil)
      (pss_one (ps_ret (pe_cmpR (op_inD hu) pe_int (pv 3) rfl))))))), ?_⟩
    refine g_asgN (Φ := NewL (words.map V.str)) (fun H1 e Q q => ⟨Evl.sz_of (by show 11 ≤ _; decide), fun p hp => q p _ (Gx.new hp) hp upd_same⟩) fun l H1 e1 _ hl => ?_
    have hnw : ∀ y ∈ ks.filter (fun y => !isW y), ∃ dt, Itm K H y dt := fun y hy => let ⟨dt, h1, _⟩ := hk y (List.mem_filter.mp hy).1; ⟨dt, h1⟩
    refine g_when (R := fun c => c = (!inR ks.length || !(ks.filter fun y => !isW y).isEmpty)) (evb_or (evb_not (evb_test (evg_chain (f := fun i j => decide (i ≤ j)) (g := fun i j => decide (i ≤ j)) (evg_i 1) (evg_lenF (evg_ve rfl) (hd.fz.gx e1) hd.len) (evg_i 8)))) (fun _ H2 e2 =>
      evb_test (evg_ne0 (K := K) (evn_fil (p := fun y => !isW y) (evw_ky (evg_ve rfl) (hd.fz.gx (e1.trans e2))) hd.len (fun _ => rfl) ?_) fun y hy => let ⟨dt, z⟩ := hnw y hy; ⟨dt, z.gx (e1.trans e2)⟩))) (fun h H2 e2 => ?_) (fun h H2 e2 => ?_)
    · intro x hx H3 e3
      obtain ⟨dt, h1, h2⟩ := hk x hx
      refine evb_test fun H4 e4 Q4 q4 => ⟨_, rfl, _, rfl, dt, wordsD, Dp.gx (((e1.trans e2).trans e3).trans e4) h1.dp, .lst (SqL.of (((e2.trans e3).trans e4) _ _ hl)) strs_dp, h1.sh, by decide +kernel, q4 _ H4 (Gx.refl _) ⟨_, rfl, ?_⟩⟩
      show (!mem dt wordsD) = !isW x
      rw [h2]
    · have : symB ks ws = false := by
        unfold symB
        cases q1 : inR ks.length with
        | false => rfl
        | true =>
          rw [q1, Bool.not_true, Bool.false_or, fil_all] at h
          cases q2 : ks.all isW with
          | false => rfl
          | true => rw [q2] at h; cases h
      rw [this] at k
      exact k H2 (e1.trans e2)
    · have q1 : inR ks.length = true := by
        cases q : inR ks.length with
        | true => rfl
        | false => rw [q] at h; cases h
      have q2 : ks.all isW = true := by
        rw [q1, Bool.not_true, Bool.false_or, fil_all] at h
        cases q : ks.all isW with
        | true => rfl
        | false => rw [q] at h; cases h
      unfold symB at k
      rw [q1, q2] at k
      obtain ⟨o, kvs, ho, hws, hwl, _⟩ := hd.val q2
      have hkl : ws.length ≤ 100 := by rw [← hwl]; exact hd.len
      have hkk : kvs.length ≤ 100 := by rw [hws, List.length_map] at hkl; exact hkl
      have e12 := e1.trans e2
      refine g_asgN (Φ := NewL ws) (fun H3 e3 Q q => ⟨_, rfl, d, o, kvs, rfl, (e12.trans e3) _ _ ho, fun v hv' => ⟨v, d, o, kvs, rfl, upd_same, (Gx.new hv') _ _ ((e12.trans e3) _ _ ho), by omega, fun p hp => ?_⟩⟩) fun m H3 e3 _ hm => ?_
      · refine q p _ ((Gx.new hv').trans (Gx.new hp)) ((Gx.new hv').free hp) ?_
        show upd _ p (.lst (kvs.map Prod.snd)) p = some (.lst ws)
        rw [hws]
        exact upd_same
      have e13 := e12.trans e3
      have hbw : ∀ y ∈ ws.filter (fun y => !wthn y 0 3), ∃ dt, Itm K H y dt := fun y hy => let ⟨_, dt, _, h1, _⟩ := hv y (List.mem_filter.mp hy).1; ⟨dt, h1⟩
      refine g_when (R := fun c => c = !(ws.filter fun y => !wthn y 0 3).isEmpty) (evb_test (evg_ne0 (K := K) (evn_fil (p := fun y => !wthn y 0 3) (evw_listAt (evg_var rfl fun _ e => ⟨m, rfl, SqL.of (e _ _ hm)⟩)) hkl (fun _ => rfl) ?_) fun y hy => let ⟨dt, z⟩ := hbw y hy; ⟨dt, z.gx e13⟩)) (fun h H4 e4 => ?_) (fun h H4 e4 => ?_)
      · intro x hx H4 e4
        obtain ⟨kd, dt, h1, h2, h3⟩ := hv x hx
        refine evb_is (evb_or (a := kdIs kd "bool") (b := !mem dt four) (evb_B (evg_isi (R := fun c => c = kdIs kd "bool") (evg_var rfl fun H5 e5 => ⟨kd, h1.gx ((e13.trans e4).trans e5), rfl⟩) (by decide))) (fun _ H5 e5 => evb_test fun H6 e6 Q6 q6 => ⟨_, rfl, Evl.sz_of (by show 4 ≤ _; decide), fun a ha => ⟨dt, four, Dp.gx ((((e13.trans e4).trans e5).trans e6).trans (Gx.new ha)) h2.dp, .lst (SqL.of upd_same) (.cons (.int _) (.cons (.int _) (.cons (.int _) (.cons (.int _) .nil)))), h2.sh, by decide +kernel, q6 _ _ (Gx.new ha) ⟨_, rfl, rfl⟩⟩⟩)) h3
      · rw [fil_all (p := fun y => wthn y 0 3)] at h
        have : ws.all (fun v => wthn v 0 3) = false := by
          cases q : ws.all fun v => wthn v 0 3 with
          | false => rfl
          | true => rw [q] at h; cases h
        rw [this] at k
        exact k H4 (e13.trans e4)
      · rw [fil_all (p := fun y => wthn y 0 3)] at h
        have q3 : ws.all (fun v => wthn v 0 3) = true := by
          cases q : ws.all fun v => wthn v 0 3 with
          | true => rfl
          | false => rw [q] at h; cases h
        rw [q3] at k
        obtain ⟨ns, hns⟩ := ints_w q3
        subst hns
        rw [any_z] at k
        have hok : ∀ y ∈ ns.map V.int, okV y = true := fun y hy => by
          obtain ⟨i, _, rfl⟩ := List.mem_map.mp hy
          rfl
        refine ⟨_, rfl, .int 0, _, .int 0, .lst (SqL.of (e4 _ _ hm)) (flat_dp hok), by decide, (flat_shaped hok).1, ?_⟩
        have ee : (((ns.map V.int).map flatD).any fun z => PyData.eqv z (.int 0)) = ns.any fun m => m == 0 := by
          rw [List.map_map, List.any_map]
          rfl
        rw [ee]
        exact k H4 (e13.trans e4)
end
end K04

set_option Elab.async false
set_option maxRecDepth 100000
set_option maxHeartbeats 1000000
namespace K04
open PySem L2 Ly Od
theorem pe_or {X : Cx} {e : Expr} {t u : TE} (h : PE X e t) (h2 : PE X e u) : PE X e (fun σ H Q => t σ H Q ∨ u σ H Q) := ⟨fun pins s σ H Q I q => q.elim (h.run pins s σ H Q I) (h2.run pins s σ H Q I)⟩
theorem ps_or {X : Cx} {e : Stmt} {t u : TS} (h : PS X e t) (h2 : PS X e u) : PS X e (fun D σ H => t D σ H ∨ u D σ H) := ⟨fun pins s σ H D I q => q.elim (h.run pins s σ H D I) (h2.run pins s σ H D I)⟩
theorem evg_lkD {σ : L2.St} {H : Hp} {te : TE} {d : Addr} {kvs : List (Key × V)} {Ψ : V → Prop} (hd : H d = some (.dK kvs)) (h : ∀ od, (d == sysModules) = false → DObj od (kvs.map fun q => kV q.1) → EvG te σ (upd H d (.frz od (.dK kvs))) (fun v _ => Ψ v)) : EvG (tLkD te) σ H (fun v _ => Ψ v) := fun H1 e Q q =>
  ⟨d, kvs, e _ _ hd, fun od hs hD => h od hs hD _ (fun a o ha => by
      by_cases z : a = d
      · subst z
        rw [upd_same] at ha ⊢
        exact ha
      · rw [upd_ne z] at ha ⊢
        exact e _ _ ha) _ fun v H2 e2 f => by
    refine ⟨e2 _ _ upd_same, q v _ (fun a o ha => ?_) f⟩
    by_cases z : a = d
    · subst z
      rw [e _ _ hd] at ha
      cases ha
      exact upd_same
    · rw [upd_ne z]
      exact e2 _ _ (by rw [upd_ne z]; exact ha)⟩
/-! ### keys and numbers that are drawn -/
def keyF : List V := words.map V.str ++ [.str "_", .str "", .str "F", .int 0, .non, .str "abcdefghi"]
def valF : List V := [.int 0, .int 1, .int 2, .int 3, .int 4, .int (-1), .non, .str "0", .bl true, .bl false]
def KeyT : Ty := fun v H => v ∈ keyF ∨ ∃ a, v = .ref a ∧ H a = some (.tup [.str "a"])
def ValT : Ty := fun v H => v ∈ valF ∨ ∃ a, v = .ref a ∧ H a = some (.tup [.int 0])
theorem KeyT.mono : Mono KeyT := fun _ _ _ e h => h.imp id fun ⟨a, h1, h2⟩ => ⟨a, h1, e _ _ h2⟩
theorem ValT.mono : Mono ValT := fun _ _ _ e h => h.imp id fun ⟨a, h1, h2⟩ => ⟨a, h1, e _ _ h2⟩
theorem tup_upd {H : Hp} {d a : Addr} {kvs : List (Key × V)} {o : HO} {xs : List V} (hd : H d = some (.dK kvs)) (h : H a = some (.tup xs)) : upd H d o a = some (.tup xs) := by
  rw [upd_ne (ne_of h hd (fun z => by cases z))]
  exact h
theorem KeyT.up {H : Hp} {d : Addr} {kvs : List (Key × V)} {o : HO} {v : V} (hd : H d = some (.dK kvs)) (h : KeyT v H) : KeyT v (upd H d o) := h.imp id fun ⟨a, h1, h2⟩ => ⟨a, h1, tup_upd hd h2⟩
theorem ValT.up {H : Hp} {d : Addr} {kvs : List (Key × V)} {o : HO} {v : V} (hd : H d = some (.dK kvs)) (h : ValT v H) : ValT v (upd H d o) := h.imp id fun ⟨a, h1, h2⟩ => ⟨a, h1, tup_upd hd h2⟩
def kO : V → Kd
  | .non => .non
  | .bl _ => .bl
  | .int _ => .int
  | .str _ => .str
  | _ => .tup
def flat : V → Bool
  | .non => true
  | .bl _ => true
  | .int _ => true
  | .str z => decide (z.length ≤ 100)
  | _ => false
section
variable {K : PySem.W.Frag}
theorem flat_is {v : V} {H : Hp} (h : flat v = true) : Dp K H v (flatD v) ∧ Pl K H v (kO v) ∧ Small v := by
  cases v with
  | non => exact ⟨.non, .non, fun z e => by cases e⟩
  | bl b => exact ⟨.bl b, .bl b, fun z e => by cases e⟩
  | int i => exact ⟨.int i, .int i, fun z e => by cases e⟩
  | str x => exact ⟨.str x, .str x, fun z e => by cases e; exact Nat.le_trans (of_decide_eq_true h) (by decide)⟩
  | _ => cases h
theorem key_is {v : V} {H : Hp} (h : KeyT v H) : (∃ k, Pl K H v k ∧ Small v) ∧ ∃ dt, Itm K H v dt ∧ mem dt wordsD = isW v := by
  rcases h with h | ⟨a, rfl, h⟩
  · have q := (by decide +kernel : ∀ v ∈ keyF, flat v = true ∧ PyData.canLay0 (flatD v) = true ∧ PyData.depth (flatD v) ≤ 1 ∧ mem (flatD v) wordsD = isW v) v h
    obtain ⟨a, b, c⟩ := flat_is (K := K) (H := H) q.1
    exact ⟨⟨_, b, c⟩, _, ⟨a, q.2.1, q.2.2.1⟩, q.2.2.2⟩
  · exact ⟨⟨_, .tup h, fun z e => by cases e⟩, .tuple [.str "a"], ⟨.tup (SqT.of h) (.cons (.str _) .nil), by decide +kernel, by decide +kernel⟩, (by decide +kernel : mem (.tuple [.str "a"]) wordsD = false)⟩
theorem val_is {v : V} {H : Hp} (h : ValT v H) : ∃ k dt, Pl K H v k ∧ Itm K H v dt ∧ (kdIs k "bool" || !mem dt four) = !wthn v 0 3 := by
  rcases h with h | ⟨a, rfl, h⟩
  · have q := (by decide +kernel : ∀ v ∈ valF, flat v = true ∧ PyData.canLay0 (flatD v) = true ∧ PyData.depth (flatD v) ≤ 1 ∧ (kdIs (kO v) "bool" || !mem (flatD v) four) = !wthn v 0 3) v h
    obtain ⟨a, b, c⟩ := flat_is (K := K) (H := H) q.1
    exact ⟨_, _, b, ⟨a, q.2.1, q.2.2.1⟩, q.2.2.2⟩
  · exact ⟨_, .tuple [.int 0], .tup h, ⟨.tup (SqT.of h) (.cons (.int _) .nil), by decide +kernel, by decide +kernel⟩, (by decide +kernel : (kdIs .tup "bool" || !mem (.tuple [.int 0]) four) = true)⟩
def Found (H : Hp) (d : Addr) : Prop := (∃ kvs, H d = some (.dK kvs) ∧ kvs.length ≤ 20 ∧ ∀ q ∈ kvs, kV q.1 ∈ keyF ∧ ValT q.2 H) ∨ ∃ o ks, H d = some (oddO o) ∧ (d == sysModules) = false ∧ DObj o ks ∧ ks.length ≤ 20 ∧ (∀ y ∈ ks, KeyT y H) ∧ ks.all isW = false
theorem symd_of {H : Hp} {d : Addr} {kvs : List (Key × V)} {od : Obj} (hd : H d = some (.dK kvs)) (hl : kvs.length ≤ 20) (g : ∀ q ∈ kvs, kV q.1 ∈ keyF ∧ ValT q.2 H) (hs : (d == sysModules) = false) (hD : DObj od (kvs.map fun q => kV q.1)) :
    SymD K (upd H d (.frz od (.dK kvs))) d (kvs.map fun q => kV q.1) (kvs.map Prod.snd) ∧ (∀ y ∈ kvs.map (fun q => kV q.1), KeyT y (upd H d (.frz od (.dK kvs)))) ∧ ∀ v ∈ kvs.map Prod.snd, ValT v (upd H d (.frz od (.dK kvs))) := by
  have h1 : ∀ y ∈ kvs.map (fun q => kV q.1), KeyT y (upd H d (.frz od (.dK kvs))) := fun y hy => by
    obtain ⟨q, hq, rfl⟩ := List.mem_map.mp hy
    exact .inl (g q hq).1
  have h2 : ∀ v ∈ kvs.map Prod.snd, ValT v (upd H d (.frz od (.dK kvs))) := fun y hy => by
    obtain ⟨q, hq, rfl⟩ := List.mem_map.mp hy
    exact (g q hq).2.up hd
  refine ⟨⟨⟨hs, od, _, upd_same, hD⟩, by rw [List.length_map]; omega, fun y hy => (key_is (h1 y hy)).1, fun _ => ⟨od, kvs, upd_same, rfl, by rw [List.length_map, List.length_map], fun v hv => ?_⟩⟩, h1, h2⟩
  obtain ⟨k, _, hk, _⟩ := val_is (K := K) (h2 v hv)
  exact ⟨k, hk⟩
theorem evg_l {σ : L2.St} {H : Hp} {ta tb : TE} {Φ : Ty} (h : EvG ta σ H Φ) : EvG (fun σ H Q => ta σ H Q ∨ tb σ H Q) σ H Φ := fun H1 e Q q => .inl (h H1 e Q q)
theorem evg_r {σ : L2.St} {H : Hp} {ta tb : TE} {Φ : Ty} (h : EvG tb σ H Φ) : EvG (fun σ H Q => ta σ H Q ∨ tb σ H Q) σ H Φ := fun H1 e Q q => .inr (h H1 e Q q)
abbrev tSy (K : PySem.W.Frag) (i : Nat) : TE := tCall (spSym K) [] E0 (tCons (tVar i) tNil)
abbrev tFi (K : PySem.W.Frag) (i : Nat) : TE := tCall (spFits K) [] E0 (tCons (tVar i) tNil)
theorem found_b {σ : L2.St} {H : Hp} {d : Addr} {i : Nat} (hi : σ[i]? = some (some (.ref d))) (h : Found H d) : ∃ b : Bool, EvG (fun σ H Q => tLkD (tSy K i) σ H Q ∨ tSy K i σ H Q) σ H (BlE b) ∧ EvG (fun σ H Q => tLkD (tFi K i) σ H Q ∨ tFi K i σ H Q) σ H (BlE b) := by
  rcases h with ⟨kvs, hd, hl, g⟩ | ⟨o, ks, hd, hs, hD, hl, hk, hno⟩
  · refine ⟨symB (kvs.map fun q => kV q.1) (kvs.map Prod.snd), evg_l (evg_lkD hd fun od hs hD => ?_), evg_l (evg_lkD hd fun od hs hD => ?_)⟩
    · obtain ⟨s1, s2, s3⟩ := symd_of (K := K) hd hl g hs hD
      exact fun H1 e Q q => ⟨_, hi, _, rfl, .inr ⟨d, _, _, rfl, s1.gx e, fun H2 e2 => q _ H2 e2 ⟨_, rfl, rfl⟩⟩⟩
    · obtain ⟨s1, s2, s3⟩ := symd_of (K := K) hd hl g hs hD
      exact fun H1 e Q q => ⟨_, hi, d, _, _, rfl, s1.gx e, fun y hy => (key_is (KeyT.mono _ _ _ e (s2 y hy))).2, fun v hv => val_is (ValT.mono _ _ _ e (s3 v hv)), fun H2 e2 => q _ H2 e2 ⟨_, rfl, rfl⟩⟩
  · have s1 : ∀ H1, Gx H H1 → SymD K H1 d ks [] := fun H1 e => ⟨⟨hs, o, _, e _ _ hd, hD⟩, by omega, fun y hy => (key_is (KeyT.mono _ _ _ e (hk y hy))).1, fun z => by rw [hno] at z; cases z⟩
    refine ⟨symB ks [], evg_r fun H1 e Q q => ⟨_, hi, _, rfl, .inr ⟨d, _, _, rfl, s1 H1 e, fun H2 e2 => q _ H2 e2 ⟨_, rfl, rfl⟩⟩⟩, evg_r fun H1 e Q q => ⟨_, hi, d, _, _, rfl, s1 H1 e, fun y hy => (key_is (KeyT.mono _ _ _ e (hk y hy))).2, fun v hv => (by cases hv), fun H2 e2 => q _ H2 e2 ⟨_, rfl, rfl⟩⟩⟩
theorem put_good {G : Key × V → Prop} {kvs : List (Key × V)} {k : Key} {v : V} (g : ∀ q ∈ kvs, G q) (h : G (k, v)) : ∀ q ∈ putK kvs k v, G q := fun q hq => by
  unfold putK at hq
  split at hq
  · obtain ⟨r, hr, rfl⟩ := List.mem_map.mp hq
    split
    · rename_i e
      rw [e]
      exact h
    · exact g r hr
  · rcases List.mem_append.mp hq with hq | hq
    · exact g q hq
    · rw [List.mem_singleton.mp hq]
      exact h
theorem merge_good {G : Key × V → Prop} : ∀ {more kvs : List (Key × V)}, (∀ q ∈ kvs, G q) → (∀ q ∈ more, G q) → (∀ q ∈ mergeK kvs more, G q) ∧ (mergeK kvs more).length ≤ kvs.length + more.length
  | [], kvs, g, _ => ⟨g, by simp [mergeK]⟩
  | q :: more, kvs, g, h => by
    obtain ⟨a, b⟩ := merge_good (more := more) (kvs := putK kvs q.1 q.2) (put_good g (h q (List.mem_cons_self ..))) fun r hr => h r (List.mem_cons_of_mem _ hr)
    refine ⟨a, ?_⟩
    have := putK_len kvs q.1 q.2
    rw [List.length_cons]
    have b : (mergeK kvs (q :: more)).length ≤ _ := b
    omega
theorem pairs_of {H : Hp} {G : Key × V → Prop} : ∀ {ys : List V}, (∀ y ∈ ys, ∃ T k v, y = .ref T ∧ H T = some (.tup [kV k, v]) ∧ G (k, v)) → ∃ (ps : List Addr) (kvs : List (Key × V)), ys = ps.map V.ref ∧ Paired (fun p kv => SqT K H p [kV kv.1, kv.2]) ps kvs ∧ kvs.length = ys.length ∧ ∀ q ∈ kvs, G q
  | [], _ => ⟨[], [], rfl, .nil, rfl, fun q h => by cases h⟩
  | y :: ys, h => by
    obtain ⟨ps, kvs, h1, h2, h3, h4⟩ := pairs_of (ys := ys) fun z hz => h z (List.mem_cons_of_mem _ hz)
    obtain ⟨T, k, v, rfl, hT, g⟩ := h y (List.mem_cons_self ..)
    refine ⟨T :: ps, (k, v) :: kvs, by rw [h1]; rfl, .cons (SqT.of hT) h2, by rw [List.length_cons, List.length_cons, h3], fun q hq => ?_⟩
    rcases List.mem_cons.mp hq with rfl | hq
    · exact g
    · exact h4 q hq
end
section
variable {P : Program} {w : World} {K : PySem.W.Frag} {mg : Str → Option Value} {base : Heap}
def rDictP (K : PySem.W.Frag) : List V → Hp → VK → Prop := fun xs H Q => ∃ (a : Addr) (ps : List Addr) (kvs : List (Key × V)), xs = [.ref a] ∧ SqL K H a (ps.map V.ref) ∧ Paired (fun p kv => SqT K H p [kV kv.1, kv.2]) ps kvs ∧ ∀ p, H p = none → Q (.ref p) (upd H p (.dK (mergeK [] kvs)))
theorem evn_dictP {σ : L2.St} {H : Hp} {te : TE} (h : EvN te σ H (fun p H' => ∃ ys, H' p = some (.lst ys) ∧ ys.length ≤ 11 ∧ ∀ y ∈ ys, ∃ T k v, y = .ref T ∧ H' T = some (.tup [kV k, v]) ∧ kV k ∈ keyF ∧ v ∈ valF)) :
    EvN (tCB (rDictP K) (tCons te tNil)) σ H (fun d H' => ∃ kvs, H' d = some (.dK kvs) ∧ kvs.length ≤ 11 ∧ ∀ q ∈ kvs, kV q.1 ∈ keyF ∧ q.2 ∈ valF) := fun H1 e Q q =>
  h H1 e _ fun b H4 e4 n4 ⟨ys, hb, hyl, hy⟩ => by
    obtain ⟨ps, kvs, h1, h2, h3, h4⟩ := pairs_of (K := K) (H := H4) (G := fun q => kV q.1 ∈ keyF ∧ q.2 ∈ valF) (ys := ys) hy
    obtain ⟨m1, m2⟩ := merge_good (G := fun q => kV q.1 ∈ keyF ∧ q.2 ∈ valF) (kvs := []) (more := kvs) (fun q h => by cases h) h4
    rw [h1] at hb
    refine ⟨b, ps, kvs, rfl, SqL.of hb, h2, fun d hd => q d _ (e4.trans (Gx.new hd)) (e4.free hd) ⟨_, upd_same, ?_, m1⟩⟩
    rw [List.length_nil] at m2
    omega
theorem _root_.Ly.IntT.mono' {P : Int → Prop} : Mono (IntT P) := fun _ _ _ _ h => h
def SomeT : Ty := fun v H => ∃ p xs, v = .ref p ∧ H p = some (.lst xs) ∧ xs.length ≤ 11 ∧ ∀ x ∈ xs, x ∈ words.map V.str
theorem it {σ : L2.St} {H : Hp} {n : Int} (h : 0 ≤ n) : EvG (tC (.int n)) σ H (IntT fun i => 0 ≤ i) := evg_c fun _ _ => ⟨n, rfl, h⟩
theorem kt {σ : L2.St} {H : Hp} {x : V} (h : x ∈ keyF) : EvG (tC x) σ H KeyT := evg_c fun _ _ => .inl h
theorem vv {σ : L2.St} {H : Hp} {x : V} (h : x ∈ valF) : EvG (tC x) σ H ValT := evg_c fun _ _ => .inl h
theorem key_k {v : V} (h : v ∈ keyF) : v = .non ∨ ∃ k, v = kV k := by
  have q := (by decide +kernel : ∀ v ∈ keyF, flat v = true ∧ kO v ≠ .bl) v h
  cases v with
  | non => exact .inl rfl
  | int i => exact .inr ⟨.inl i, rfl⟩
  | str z => exact .inr ⟨.inr z, rfl⟩
  | bl b => exact absurd rfl q.2
  | _ => exact absurd q.1 (by intro z; cases z)
theorem vm : Mono (fun v (_ : Hp) => v ∈ valF) := fun _ _ _ _ h => h
theorem vt {σ : L2.St} {H : Hp} {x : V} (h : x ∈ valF) : EvG (tC x) σ H (fun v _ => v ∈ valF) := evg_c fun _ _ => h
abbrev rRepr : List V → Hp → VK → Prop := fun xs H Q => ∃ b, xs = [.bl b] ∧ Q (.str (if b = true then "True" else "False")) H
theorem evg_repr {σ : L2.St} {H : Hp} {te : TE} {b : Bool} (h : EvG te σ H (BlE b)) : EvG (tCB rRepr (tCons te tNil)) σ H (Eq1 (.str (if b = true then "True" else "False"))) := fun H1 e Q q =>
  h H1 e _ fun v H2 e2 ⟨c, z, hc⟩ => by
    subst hc
    subst z
    exact ⟨c, rfl, q _ H2 e2 rfl⟩
theorem evg_eqSS {σ : L2.St} {H : Hp} {ta tb : TE} {x : Str} (ha : EvG ta σ H (Eq1 (.str x))) (hb : EvG tb σ H (Eq1 (.str x))) : EvG (tOp rEq ta tb) σ H (BlE true) := (evg_eqS ha hb).imp fun v H2 _ ⟨b, z, hb⟩ => ⟨b, z, by rw [hb]; exact decide_eq_true rfl⟩
abbrev s_right : Stmt := top 16
abbrev nm_right : List Str := ["_law_dice_here", "_law_words", "_law_some_here", "_law_found", "_law_word", "_law_key"]
abbrev ps_right : List Str := ["_law_dice_here"]
theorem sc_right : FnScope nm_right ps_right (defScope s_right) := ⟨rfl, rfl, rfl, by decide +kernel, rfl, by decide +kernel, by decide +kernel⟩
def spRight : Sp := fun vs H Q _ => ∃ p, vs = [.ref p] ∧ H p = some (diceO p) ∧ ∀ H', Gx H H' → Q (.bl true) H'
theorem ok_right {f : Addr} {fd : FuncData} (F : Fun K "_law_right" "_law_right" s_right f fd) (T : Txt K mg) (C_roll : Cal P w K mg base "_law_roll" 1 ps_roll spRoll) (C_pick : Cal P w K mg base "_law_pick" 2 ps_pick (spPick K)) (C_some : Cal P w K mg base "_law_some" 2 ps_some (spSome K))
    (C_is_symbols : Cal P w K mg base "is_symbols" 3 ps_is_symbols (spSym K)) (C_fits_symbols : Cal P w K mg base "_law_fits_symbols" 1 ps_fits_symbols (spFits K)) : FnOk P w K mg base CX0 4 f fd ps_right spRight := by
  have nd := sc_right.nd
  refine F.ok sc_right (fun vs H Q E h => ?_) (fun cdv A outer s H vs Q E hr h => ?_)
  · obtain ⟨_, rfl, _⟩ := h
    rfl
  · obtain ⟨p, rfl, hp, k⟩ := h
    have hu10 : (A.deeper (PyProof.Rows.envOfC "_law_right" (defScope s_right) s.heap.objs.size f cdv)).units + 10 < cLine := by have := hr.un; omega
    have hu : (A.deeper (PyProof.Rows.envOfC "_law_right" (defScope s_right) s.heap.objs.size f cdv)).units + 1 < cLine := by have := hr.un; omega
    refine ⟨_, (pss_cons (ps_set (i := 1) nd rfl (Or.inl rfl) (pe_lst (pa_cons pe_str (pa_cons pe_str (pa_cons pe_str (pa_cons pe_str (pa_cons pe_str (pa_cons pe_str (pa_cons pe_str (pa_cons pe_str (pa_cons pe_str (pa_cons pe_str (pa_cons pe_str pa_nil)))))))))))))
      (pss_cons (ps_set (i := 2) nd rfl (Or.inl rfl) (pe_cal C_some (hr.mono (by first | decide | omega)) rfl (pa_cons (pv 0) (pa_cons (pv 1) (pa_cons (pe_cal C_pick (hr.mono (by first | decide | omega)) rfl (pa_cons (pv 0) (pa_cons (pe_lst (pa_cons pe_int (pa_cons pe_int (pa_cons pe_int (pa_cons pe_int (pa_cons pe_int (pa_cons pe_int (pa_cons pe_int (pa_cons pe_int pa_nil))))))))) pa_nil))) pa_nil)))))
      (pss_cons (ps_set (i := 3) nd rfl (Or.inl rfl) (pe_callTy (call_dictP rfl) (by rfl) T.z_dict (by decide +kernel) (pa_cons (pe_lc (own := [("_law_word", 4)]) (g := (gName 4)) (by rfl) nd (kpi_list (K := K) (pv 2)) (blkOk_by (own := [("_law_word", 4)]) (N := nm_right) (sc := defScope s_right) (by decide +kernel)) (fun _ _ _ _ _ => (pg_name (i := 4) nd rfl (Or.inl rfl))) (fun _ _ _ _ _ => pts_nil) (fun _ _ _ _ _ => (pe_tup (pa_cons (pv 4) (pa_cons (pe_cal C_pick (hr.mono (by first | decide | omega)) rfl (pa_cons (pv 0) (pa_cons (pe_lst (pa_cons pe_int (pa_cons pe_int (pa_cons pe_int (pa_cons pe_int (pa_cons pe_int pa_nil)))))) pa_nil))) pa_nil))))) pa_nil)))
      (pss_cons (ps_if (pt_cmpR op_eq (pe_cal C_roll (hr.mono (by first | decide | omega)) rfl (pa_cons (pv 0) (pa_cons pe_int pa_nil))) pe_int (nomark _)) (pss_cons (ps_set (i := 5) nd rfl (Or.inl rfl) (pe_cal C_pick (hr.mono (by first | decide | omega)) rfl (pa_cons (pv 0) (pa_cons (pe_op op_cat (pv 2) (pe_lst (pa_cons pe_str (pa_cons pe_str (pa_cons pe_str (pa_cons pe_int (pa_cons pe_non (pa_cons pe_str (pa_cons (pe_tup (pa_cons pe_str pa_nil)) pa_nil))))))))) pa_nil))))
      (pss_one (ps_or (ps_dput hu (pv 3) (pv 5) (pe_cal C_pick (hr.mono (by first | decide | omega)) rfl (pa_cons (pv 0) (pa_cons (pe_lst (pa_cons pe_int (pa_cons pe_int (pa_cons pe_int (pa_cons (pe_un un_neg pe_int) (pa_cons pe_non (pa_cons pe_str (pa_cons pe_bl (pa_cons pe_bl (pa_cons (pe_tup (pa_cons pe_int pa_nil)) pa_nil)))))))))) pa_nil))) rfl) (ps_putO hu10 (pv 3) (pv 5) (pe_cal C_pick (hr.mono (by first | decide | omega)) rfl (pa_cons (pv 0) (pa_cons (pe_lst (pa_cons pe_int (pa_cons pe_int (pa_cons pe_int (pa_cons (pe_un un_neg pe_int) (pa_cons pe_non (pa_cons pe_str (pa_cons pe_bl (pa_cons pe_bl (pa_cons (pe_tup (pa_cons pe_int pa_nil)) pa_nil)))))))))) pa_nil))) rfl)))) pss_nil)
      (pss_one (ps_ret (pe_cmpR op_eq (pe_callB call_reprB (by rfl) T.z_repr (by decide +kernel) (pa_cons (pe_or (pe_lkD (pe_cal C_is_symbols (hr.mono (by first | decide | omega)) rfl (pa_cons (pv 3) pa_nil))) (pe_cal C_is_symbols (hr.mono (by first | decide | omega)) rfl (pa_cons (pv 3) pa_nil))) pa_nil)) (pe_callB call_reprB (by rfl) T.z_repr (by decide +kernel) (pa_cons (pe_or (pe_lkD (pe_cal C_fits_symbols (hr.mono (by first | decide | omega)) rfl (pa_cons (pv 3) pa_nil))) (pe_cal C_fits_symbols (hr.mono (by first | decide | omega)) rfl (pa_cons (pv 3) pa_nil))) pa_nil)) (nomark _)))))))), ?_⟩
    refine g_asgN (Φ := NewL (words.map V.str)) (fun H1 e Q q => ⟨Evl.sz_of (by show 11 ≤ _; decide), fun p hp => q p _ (Gx.new hp) hp upd_same⟩) fun l H1 e1 _ hl => ?_
    refine g_asg (Φ := SomeT) (fun H2 e2 Q2 q2 => ⟨_, rfl, _, rfl, ?_⟩) ?_
    · refine evg_pick (n := 8) (Φ := IntT fun i => 0 ≤ i) (evg_dice rfl ((e1.trans e2) _ _ hp)) (evg_all IntT.mono' (evgs_m IntT.mono' (it (by decide)) <| evgs_m IntT.mono' (it (by decide)) <| evgs_m IntT.mono' (it (by decide)) <| evgs_m IntT.mono' (it (by decide)) <|
        evgs_m IntT.mono' (it (by decide)) <| evgs_m IntT.mono' (it (by decide)) <| evgs_m IntT.mono' (it (by decide)) <| evgs_m IntT.mono' (it (by decide)) <| evgs_none) (by decide)) (by decide) H2 (Gx.refl _) _ fun v H3 e3 ⟨n, z, hn⟩ => ?_
      subst z
      refine ⟨p, l, words.map V.str, n, rfl, ((e1.trans e2).trans e3) _ _ hp, SqL.of ((e2.trans e3) _ _ hl), hn, by decide, fun a ys rest H4 e4 _ ha _ pm => q2 _ H4 (e3.trans e4) ⟨a, ys, rfl, ha, ?_, fun y hy => ?_⟩⟩
      · have := pm.length_eq
        rw [List.length_append] at this
        have h11 : (words.map V.str).length = 11 := rfl
        omega
      · exact pm.mem_iff.mp (List.mem_append_left _ hy)
    rintro _ H2 e2 ⟨a, xs, rfl, ha, hxl, hx⟩
    have hp2 := (e1.trans e2) _ _ hp
    refine g_asgN (Φ := fun d H' => ∃ kvs, H' d = some (.dK kvs) ∧ kvs.length ≤ 11 ∧ ∀ q ∈ kvs, kV q.1 ∈ keyF ∧ q.2 ∈ valF) (evn_dictP (K := K) ((evn_lcA (R := fun i y H' => ∃ T k v, y = .ref T ∧ H' T = some (.tup [kV k, v]) ∧ kV k ∈ keyF ∧ v ∈ valF) (evw_listAt (xs := xs) (evg_var rfl fun _ e => ⟨a, rfl, SqL.of (e _ _ ha)⟩)) (by omega) (fun _ _ _ _ _ h => h) ?_ ?_).imp ?_)) fun d H3 e3 hdn ⟨kvs, hd, hkl, g⟩ => ?_
    · intro i x H4 _ e4 hxi
      obtain ⟨z, hz, rfl⟩ := List.mem_map.mp (hx x (List.mem_of_getElem? hxi))
      refine evg_tup (Ψ := AtT [Eq1 (.str z), fun v _ => v ∈ valF]) (ats_c Eq1.mono (evg_ve rfl) <| ats_c (fun _ _ _ _ h => h) (evg_pick (n := 5) (evg_dice rfl (e4 _ _ hp2)) (evg_all (fun _ _ _ _ h => h) (evgs_m vm (vt (by decide)) <| evgs_m vm (vt (by decide)) <| evgs_m vm (vt (by decide)) <| evgs_m vm (vt (by decide)) <| evgs_m vm (vt (by decide)) <| evgs_none) (by decide)) (by decide)) <| ats_nil) (fun vs _ g => by rw [g.len]; show 2 ≤ _; decide) fun vs T H5 H6 g _ _ hT => ?_
      match vs, g with
      | [v1, v2], g =>
        obtain rfl : v1 = .str z := g.1
        exact ⟨T, .inr z, v2, rfl, hT, List.mem_append_left _ (List.mem_map.mpr ⟨z, hz, rfl⟩), g.2.1⟩
    · rintro i v H4 H5 e5 ⟨T, k, u, h1, h2, h3⟩
      exact ⟨T, k, u, h1, e5.tup h2, h3⟩
    · rintro b H4 _ ⟨ys, hb, hyl, hy⟩
      refine ⟨ys, hb, by omega, fun y hy' => ?_⟩
      obtain ⟨i, hi⟩ := List.getElem?_of_mem hy'
      exact hy i y hi
    have e03 := (e1.trans e2).trans e3
    have hd0 : H d = none := (e1.trans e2).free hdn
    have fin : ∀ (o5 : Option V) H5, Gx H H5 → Found H5 d → tRet (tOp rEq (tCB (fun xs H Q => ∃ b, xs = [.bl b] ∧ Q (.str (if b = true then "True" else "False")) H) (tCons (fun σ H Q => tLkD (tSy K 3) σ H Q ∨ tSy K 3 σ H Q) tNil)) (tCB (fun xs H Q => ∃ b, xs = [.bl b] ∧ Q (.str (if b = true then "True" else "False")) H) (tCons (fun σ H Q => tLkD (tFi K 3) σ H Q ∨ tFi K 3 σ H Q) tNil)))
        { nx := fun _ H' => Q .non H', rt := Q } [some (.ref p), some (.ref l), some (.ref a), some (.ref d), none, o5] H5 := fun o5 H5 e5 hf => by
      obtain ⟨b, ev1, ev2⟩ := found_b (K := K) (σ := [some (.ref p), some (.ref l), some (.ref a), some (.ref d), none, o5]) (i := 3) rfl hf
      refine g_ret (Φ := BlE true) (evg_eqSS (evg_repr ev1) (evg_repr ev2)) ?_
      rintro v H6 e6 ⟨c, rfl, rfl⟩
      exact k H6 (e5.trans e6)
    have gv : ∀ q ∈ kvs, kV q.1 ∈ keyF ∧ ValT q.2 H3 := fun q hq => ⟨(g q hq).1, .inl (g q hq).2⟩
    refine g_when (R := fun _ => True) (evb_test (fun H4 e4 Q4 q4 => ⟨_, rfl, p, 2, rfl, by decide, by decide, (e3.trans e4) _ _ hp2, fun r _ _ => ⟨rfl, q4 _ H4 (Gx.refl _) ⟨_, rfl, trivial⟩⟩⟩)) (fun _ H4 e4 => ?_) (fun _ H4 e4 => fin _ H4 (e03.trans e4) (.inl ⟨kvs, e4 _ _ hd, by omega, fun q hq => ⟨(gv q hq).1, ValT.mono _ _ _ e4 (gv q hq).2⟩⟩))
    refine g_asg (Φ := KeyT) (evg_pick (n := xs.length + 7) (evg_dice rfl ((e3.trans e4) _ _ hp2)) ((evn_cat KeyT.mono (evg_var rfl fun H5 e5 => ⟨a, rfl, xs, ((e3.trans e4).trans e5) _ _ ha, rfl, fun x hx' => .inl (List.mem_append_left _ (hx x hx'))⟩) (evg_all KeyT.mono (
      evgs_m KeyT.mono (kt (by decide)) <| evgs_m KeyT.mono (kt (by decide)) <| evgs_m KeyT.mono (kt (by decide)) <| evgs_m KeyT.mono (kt (by decide)) <| evgs_m KeyT.mono (kt (by decide)) <| evgs_m KeyT.mono (kt (by decide)) <|
      evgs_m KeyT.mono ((evg_tupA (Φs := [Eq1 (.str "a")]) (fun Φ h => by simp at h; subst h; exact Eq1.mono) (ats_c Eq1.mono evg_e <| ats_nil) (by decide)).imp ?_) <| evgs_none) (by decide)) (by omega)).g fun p _ _ _ _ _ f => ⟨p, rfl, f⟩) (by omega)) ?_
    · rintro v H5 _ ⟨p, rfl, ys, h1, h2⟩
      match ys, h2 with
      | [x], h2 => exact Or.inr ⟨p, rfl, by rw [h1, h2.1]⟩
    rintro ky H5 e5 hky
    have e05 := (e03.trans e4).trans e5
    have hd5 := (e4.trans e5) _ _ hd
    have hp5 := e05 _ _ hp
    have evv : EvG (tCall (spPick K) [] E0 (tCons (tVar 0) (tCons (tLst (tCons (tC (.int 0)) (tCons (tC (.int 1)) (tCons (tC (.int 4)) (tCons (tUn (rU fun i => .int (-i)) (tC (.int 1))) (tCons (tC .non) (tCons (tC (.str "0")) (tCons (tC (.bl true)) (tCons (tC (.bl false)) (tCons (tTup (tCons (tC (.int 0)) tNil)) tNil)))))))))) tNil))) [some (.ref p), some (.ref l), some (.ref a), some (.ref d), none, some ky] H5 ValT :=
      evg_pick (n := 9) (evg_dice rfl hp5) (evg_all ValT.mono (evgs_m ValT.mono (vv (by decide)) <| evgs_m ValT.mono (vv (by decide)) <| evgs_m ValT.mono (vv (by decide)) <| evgs_m ValT.mono (evg_U (evg_i 1) fun i h _ _ => by rw [h]; exact Or.inl (by decide)) <| evgs_m ValT.mono (vv (by decide)) <| evgs_m ValT.mono (vv (by decide)) <| evgs_m ValT.mono (vv (by decide)) <| evgs_m ValT.mono (vv (by decide)) <|
        evgs_m ValT.mono ((evg_tupA (Φs := [Eq1 (.int 0)]) (fun Φ h => by simp at h; subst h; exact Eq1.mono) (ats_c Eq1.mono evg_e <| ats_nil) (by decide)).imp fun v H6 _ ⟨q, z, ys, h1, h2⟩ => by
          subst z
          match ys, h2 with
          | [x], h2 => exact Or.inr ⟨q, rfl, by rw [h1, h2.1]⟩) <| evgs_none) (by decide)) (by decide)
    have plain : ∀ k, ky = kV k → kV k ∈ keyF → ∀ v H6, Gx H5 H6 → ValT v H6 → ∃ a' H7, V.ref d = .ref a' ∧ DPut H6 a' ky v H7 ∧ tRet _ _ [some (.ref p), some (.ref l), some (.ref a), some (.ref d), none, some ky] H7 := fun k hk hm v H6 e6 hv => by
      have hd6 := e6 _ _ hd5
      refine ⟨d, _, rfl, .inl ⟨kvs, k, hd6, hk, by show kvs.length < 16777216; omega, rfl⟩, fin (some ky) _ ((e05.trans e6).mut hd0) (.inl ⟨_, upd_same, ?_, put_good (fun q hq => ⟨(gv q hq).1, ?_⟩) ⟨hm, hv.up hd6⟩⟩)⟩
      · have := putK_len kvs k v
        omega
      · exact (ValT.mono _ _ _ ((e4.trans e5).trans e6) (gv q hq).2).up hd6
    have odd : isW ky = false → ∀ H6, Gx H5 H6 → KeyT ky H6 → ∀ ob, (d == sysModules) = false → DObj ob ((kvs.map fun q => kV q.1) ++ [ky]) → tRet _ _ [some (.ref p), some (.ref l), some (.ref a), some (.ref d), none, some ky] (upd H6 d (oddO ob)) := fun hw H6 e6 hk ob hs hD => by
      have hd6 := e6 _ _ hd5
      refine fin (some ky) _ ((e05.trans e6).mut hd0) (.inr ⟨ob, _, upd_same, hs, hD, ?_, fun y hy => ?_, ?_⟩)
      · rw [List.length_append, List.length_map]
        show kvs.length + 1 ≤ 20
        omega
      · rcases List.mem_append.mp hy with hy | hy
        · obtain ⟨q, hq, rfl⟩ := List.mem_map.mp hy
          exact .inl (g q hq).1
        · rw [List.mem_singleton.mp hy]
          exact hk.up hd6
      · rw [List.all_append, List.all_cons, hw, Bool.false_and, Bool.and_false]
    rcases hky with hky | ⟨b, rfl, hb⟩
    · rcases key_k hky with rfl | ⟨k, rfl⟩
      · refine .inr (evv H5 (Gx.refl _) _ fun v H6 e6 hv => ⟨_, rfl, _, rfl, d, kvs, rfl, e6 _ _ hd5, .inl rfl, fun ob hs hD => odd rfl H6 e6 (.inl hky) ob hs hD⟩)
      · exact .inl (evv H5 (Gx.refl _) _ fun v H6 e6 hv => ⟨_, rfl, _, rfl, plain k rfl hky v H6 e6 hv⟩)
    · exact .inr (evv H5 (Gx.refl _) _ fun v H6 e6 hv => ⟨_, rfl, _, rfl, d, kvs, rfl, e6 _ _ hd5, .inr ⟨b, _, rfl, e6 _ _ hb⟩, fun ob hs hD => odd rfl H6 e6 (.inr ⟨b, rfl, e6 _ _ hb⟩) ob hs hD⟩)
end
end K04

set_option Elab.async false
set_option maxRecDepth 100000
set_option maxHeartbeats 1000000
namespace K04
open PySem L2 Ly Od
def okE (q : Key × V) : Bool := flat (kV q.1) && flat q.2
/-- a dict of which the answer is known -/
def DicT (b : Bool) : Ty := fun v H => ∃ d kvs, v = .ref d ∧ H d = some (.dK kvs) ∧ kvs.length ≤ 20 ∧ kvs.all okE = true ∧ symB (kvs.map fun q => kV q.1) (kvs.map Prod.snd) = b
theorem DicT.mono {b : Bool} : Mono (DicT b) := fun _ _ _ e ⟨d, kvs, h1, h2, h3⟩ => ⟨d, kvs, h1, e _ _ h2, h3⟩
def OddT (K : PySem.W.Frag) : Ty := fun v H => (∃ k, Pl K H v k ∧ kdIs k "dict" = false) ∨ DicT false v H
theorem OddT.mono {K : PySem.W.Frag} : Mono (OddT K) := fun _ _ _ e h => h.imp (fun ⟨k, h1, h2⟩ => ⟨k, h1.gx e, h2⟩) (DicT.mono _ _ _ e)
theorem evg_sym {K : PySem.W.Frag} {σ : L2.St} {H : Hp} {i : Nat} {v : V} {b : Bool} (hi : σ[i]? = some (some v)) (h : DicT b v H) : EvG (fun σ H Q => tLkD (tSy K i) σ H Q ∨ tSy K i σ H Q) σ H (BlE b) := by
  obtain ⟨d, kvs, rfl, hd, hl, ho, rfl⟩ := h
  refine evg_l (evg_lkD hd fun od hs hD => ?_)
  have h1 : ∀ q ∈ kvs, flat (kV q.1) = true ∧ flat q.2 = true := fun q hq => by
    have := List.all_eq_true.mp ho q hq
    unfold okE at this
    rw [Bool.and_eq_true] at this
    exact this
  have s1 : SymD K (upd H d (.frz od (.dK kvs))) d (kvs.map fun q => kV q.1) (kvs.map Prod.snd) := ⟨⟨hs, od, _, upd_same, hD⟩, by rw [List.length_map]; omega, fun y hy => by
      obtain ⟨q, hq, rfl⟩ := List.mem_map.mp hy
      exact ⟨_, (flat_is (h1 q hq).1).2⟩, fun _ => ⟨od, kvs, upd_same, rfl, by rw [List.length_map, List.length_map], fun v hv => by
      obtain ⟨q, hq, rfl⟩ := List.mem_map.mp hv
      exact ⟨_, (flat_is (h1 q hq).2).2.1⟩⟩⟩
  exact fun H1 e Q q => ⟨_, hi, _, rfl, .inr ⟨d, _, _, rfl, s1.gx e, fun H2 e2 => q _ H2 e2 ⟨_, rfl, rfl⟩⟩⟩
theorem evg_symO {K : PySem.W.Frag} {σ : L2.St} {H : Hp} {i : Nat} {v : V} (hi : σ[i]? = some (some v)) (h : OddT K v H) : EvG (fun σ H Q => tLkD (tSy K i) σ H Q ∨ tSy K i σ H Q) σ H (BlE false) := by
  rcases h with ⟨k, hk, h0⟩ | h
  · exact evg_r fun H1 e Q q => ⟨_, hi, _, rfl, .inl ⟨k, hk.gx e, h0, fun H2 e2 => q _ H2 e2 ⟨_, rfl, rfl⟩⟩⟩
  · exact evg_sym hi h
theorem pairs_c {σ : L2.St} {H : Hp} : ∀ {kvs : List (Key × V)} {Q : List (V × V) → Hp → Prop}, Q (kvs.map fun q => (kV q.1, q.2)) H → tPairs (kvs.map fun q => (tC (kV q.1), tC q.2)) σ H Q
  | [], _, h => h
  | _ :: kvs, Q, h => pairs_c (kvs := kvs) (Q := fun ps H3 => Q (_ :: ps) H3) h
theorem evg_disp {σ : L2.St} {H : Hp} (kvs : List (Key × V)) {b : Bool} (hl : kvs.length ≤ 15) (h1 : (mergeK [] kvs).length ≤ 20) (h2 : (mergeK [] kvs).all okE = true) (h3 : symB ((mergeK [] kvs).map fun q => kV q.1) ((mergeK [] kvs).map Prod.snd) = b) :
    EvG (tDisp (kvs.map fun q => (tC (kV q.1), tC q.2))) σ H (DicT b) := fun H1 e Q q p hp =>
  pairs_c ⟨upd_same, kvs, rfl, hl, by rw [upd_upd]; exact q _ _ (Gx.new hp) ⟨p, _, rfl, upd_same, h1, h2, h3⟩⟩
theorem pairs_at {K : PySem.W.Frag} {H : Hp} : ∀ {ys : List V} {l : List (Key × V)}, ys.length = l.length → (∀ (i : Nat) (y : V), ys[i]? = some y → ∃ T q, y = .ref T ∧ l[i]? = some q ∧ H T = some (.tup [kV q.1, q.2])) → ∃ ps : List Addr, ys = ps.map V.ref ∧ Paired (fun p kv => SqT K H p [kV kv.1, kv.2]) ps l
  | [], [], _, _ => ⟨[], rfl, .nil⟩
  | y :: ys, q :: l, hl, h => by
    obtain ⟨ps, h1, h2⟩ := pairs_at (K := K) (ys := ys) (l := l) (by simpa using hl) fun i z hz => by simpa using h (i + 1) z (by simpa using hz)
    obtain ⟨T, q', rfl, e, hT⟩ := h 0 y rfl
    cases e
    exact ⟨T :: ps, by rw [h1]; rfl, .cons (SqT.of hT) h2⟩
  | [], _ :: _, hl, _ => by simp at hl
  | _ :: _, [], hl, _ => by simp at hl
theorem evg_dictE {K : PySem.W.Frag} {σ : L2.St} {H : Hp} {te : TE} {l : List (Key × V)} {b : Bool} (h : EvN te σ H (fun p H' => ∃ ys, H' p = some (.lst ys) ∧ ys.length = l.length ∧ ∀ (i : Nat) (y : V), ys[i]? = some y → ∃ T q, y = .ref T ∧ l[i]? = some q ∧ H' T = some (.tup [kV q.1, q.2])))
    (h1 : (mergeK [] l).length ≤ 20) (h2 : (mergeK [] l).all okE = true) (h3 : symB ((mergeK [] l).map fun q => kV q.1) ((mergeK [] l).map Prod.snd) = b) : EvG (tCB (rDictP K) (tCons te tNil)) σ H (DicT b) := fun H1 e Q q =>
  h H1 e _ fun p H4 e4 n4 ⟨ys, hb, hyl, hy⟩ => by
    obtain ⟨ps, g1, g2⟩ := pairs_at (K := K) hyl hy
    rw [g1] at hb
    exact ⟨p, ps, l, rfl, SqL.of hb, g2, fun d hd => q _ _ (e4.trans (Gx.new hd)) ⟨d, _, rfl, upd_same, h1, h2, h3⟩⟩
def nine : List (Key × V) := (("abcdefghi" : Str)).cps.toList.map fun c => (.inr ⟨#[c]⟩, .int 0)
theorem od {K : PySem.W.Frag} {σ : L2.St} {H : Hp} {x : V} {k : Kd} (h : ∀ H, Pl K H x k) (h0 : kdIs k "dict" = false) : EvG (tC x) σ H (OddT K) := evg_c fun H1 _ => .inl ⟨k, h H1, h0⟩
theorem odT {K : PySem.W.Frag} {σ : L2.St} {H : Hp} {tr : TA} {Φs : List Ty} (h : EvGs tr σ H (AtT Φs)) (hn : Φs.length ≤ 100) : EvG (tTup tr) σ H (OddT K) :=
  evg_tup h (fun vs _ g => by rw [g.len]; omega) fun vs p H1 H2 g _ _ hp => .inl ⟨.tup, .tup hp, rfl⟩
theorem odL {K : PySem.W.Frag} {σ : L2.St} {H : Hp} {tr : TA} {Φs : List Ty} (h : EvGs tr σ H (AtT Φs)) (hn : Φs.length ≤ 100) : EvG (tLst tr) σ H (OddT K) :=
  evg_lst h (fun vs _ g => by rw [g.len]; omega) fun vs p H1 H2 g _ _ hp => .inl ⟨.lst, .lst hp, rfl⟩
def AnyT : Ty := fun _ _ => True
theorem AnyT.mono : Mono AnyT := fun _ _ _ _ _ => trivial
theorem any_c {σ : L2.St} {H : Hp} {x : V} : EvG (tC x) σ H AnyT := evg_c fun _ _ => trivial
theorem any_t {σ : L2.St} {H : Hp} : EvG (tTup (tCons (tC (.str "a")) (tCons (tC (.int 0)) tNil))) σ H AnyT := evg_tup (Ψ := AtT [AnyT, AnyT]) (ats_c AnyT.mono any_c <| ats_c AnyT.mono any_c <| ats_nil) (fun vs _ g => by rw [g.len]; decide) fun _ _ _ _ _ _ _ _ => trivial
section
variable {P : Program} {w : World} {K : PySem.W.Frag} {mg : Str → Option Value} {base : Heap}
abbrev s_law : Stmt := top 17
abbrev nm_law : List Str := ["_law_script", "_law_spot", "_law_dice_here", "_law_turn", "_law_odd", "_law_some_here", "_law_word", "_law_one"]
abbrev ps_law : List Str := ["_law_script"]
theorem sc_law : FnScope nm_law ps_law (defScope s_law) := ⟨rfl, rfl, rfl, by decide +kernel, rfl, by decide +kernel, by decide +kernel⟩
def spLaw (K : PySem.W.Frag) : Sp := fun vs H Q _ => ∃ (a : Addr) (ns : List Int), vs = [.ref a] ∧ SqL K H a (ns.map V.int) ∧ ns.length ≤ 63 ∧ ∀ H', Q (.bl true) H'
theorem ok_law {f : Addr} {fd : FuncData} (F : Fun K "law" "law" s_law f fd) (T : Txt K mg) (C_dice : Cal P w K mg base "_law_dice" 1 ps_dice (spDice K)) (C_pick : Cal P w K mg base "_law_pick" 2 ps_pick (spPick K))
    (C_right : Cal P w K mg base "_law_right" 4 ps_right spRight) (C_is_symbols : Cal P w K mg base "is_symbols" 3 ps_is_symbols (spSym K)) : FnOk P w K mg base CX0 5 f fd ps_law (spLaw K) := by
  have nd := sc_law.nd
  refine F.ok sc_law (fun vs H Q E h => ?_) (fun cdv A outer s H vs Q E hr h => ?_)
  · obtain ⟨_, _, rfl, _⟩ := h
    rfl
  · obtain ⟨a, ns, rfl, hS, hlen, k⟩ := h
    refine ⟨_, (pss_cons (ps_for PassesOwn.never rfl (pi_range1 rfl T.z_range (pa_cons (pe_callB (call_max2 rfl) (by rfl) T.z_max (by decide +kernel) (pa_cons pe_int (pa_cons (pe_callB (call_min2 rfl) (by rfl) T.z_min (by decide +kernel) (pa_cons pe_int (pa_cons (pe_callB (kcall_len (K := K)) (by rfl) T.z_len (by decide +kernel) (pa_cons (pv 0) pa_nil)) pa_nil))) pa_nil))) pa_nil)) (pg_name (i := 1) nd rfl (Or.inl rfl)) (pss_cons (ps_set (i := 2) nd rfl (Or.inl rfl) (pe_cal C_dice (hr.mono (by first | decide | omega)) rfl (pa_cons (pv 0) (pa_cons (pv 1) pa_nil))))
      (pss_cons (ps_for PassesOwn.never rfl (pi_range1 rfl T.z_range (pa_cons pe_int pa_nil)) (pg_name (i := 3) nd rfl (Or.inl rfl)) (pss_one (ps_if (pt_not (pt_val (pe_cal C_right (hr.mono (by first | decide | omega)) rfl (pa_cons (pv 2) pa_nil)))) (pss_one (ps_ret pe_bl)) pss_nil)))
      (pss_cons (ps_set (i := 4) nd rfl (Or.inl rfl) (pe_cal C_pick (hr.mono (by first | decide | omega)) rfl (pa_cons (pv 2) (pa_cons (pe_lst (pa_cons pe_non (pa_cons pe_int (pa_cons pe_str (pa_cons (pe_tup pa_nil) (pa_cons (pe_lst pa_nil) (pa_cons (pe_tup (pa_cons pe_str (pa_cons pe_int pa_nil))) (pa_cons (pe_lst (pa_cons (pe_tup (pa_cons pe_str (pa_cons pe_int pa_nil))) pa_nil)) (pa_cons pe_dnewK (pa_cons pe_bl (pa_cons (pe_tup (pa_cons (pe_tup (pa_cons pe_str (pa_cons pe_int pa_nil))) pa_nil)) pa_nil))))))))))) pa_nil))))
      (pss_one (ps_if (pt_cmpR op_notBl (pe_or (pe_lkD (pe_cal C_is_symbols (hr.mono (by first | decide | omega)) rfl (pa_cons (pv 4) pa_nil))) (pe_cal C_is_symbols (hr.mono (by first | decide | omega)) rfl (pa_cons (pv 4) pa_nil))) pe_bl (nomark _)) (pss_one (ps_ret pe_bl)) pss_nil))))))
      (pss_cons (ps_set (i := 5) nd rfl (Or.inl rfl) (pe_lst (pa_cons (pe_disp (pps_cons pe_str pe_int (pps_cons pe_str pe_int pps_nil)) (by rfl) (by rfl) (fun z => by cases z) (by decide)) (pa_cons (pe_disp (pps_cons pe_str pe_int pps_nil) (by rfl) (by rfl) (fun z => by cases z) (by decide)) (pa_cons (pe_disp (pps_cons pe_str pe_int pps_nil) (by rfl) (by rfl) (fun z => by cases z) (by decide)) (pa_cons (pe_disp (pps_cons pe_str pe_bl pps_nil) (by rfl) (by rfl) (fun z => by cases z) (by decide)) (pa_cons (pe_callTy (call_dictP rfl) (by rfl) T.z_dict (by decide +kernel) (pa_cons (pe_lc (own := [("_law_word", 6)]) (g := (gName 6)) (by rfl) nd (pi_str pe_str) (blkOk_by (own := [("_law_word", 6)]) (N := nm_law) (sc := defScope s_law) (by decide +kernel)) (fun _ _ _ _ _ => (pg_name (i := 6) nd rfl (Or.inl rfl))) (fun _ _ _ _ _ => pts_nil) (fun _ _ _ _ _ => (pe_tup (pa_cons (pv 6) (pa_cons pe_int pa_nil))))) pa_nil)) pa_nil)))))))
      (pss_one (ps_ret (pe_cmpR (kop_eqD (K := K) hr.units) (pe_lc (own := [("_law_one", 7)]) (g := (gName 7)) (by rfl) nd (kpi_list (K := K) (pv 5)) (blkOk_by (own := [("_law_one", 7)]) (N := nm_law) (sc := defScope s_law) (by decide +kernel)) (fun _ _ _ _ _ => (pg_name (i := 7) nd rfl (Or.inl rfl))) (fun _ _ _ _ _ => pts_nil) (fun _ _ _ _ _ => (pe_or (pe_lkD (pe_cal C_is_symbols (hr.mono (by first | decide | omega)) rfl (pa_cons (pv 7) pa_nil))) (pe_cal C_is_symbols (hr.mono (by first | decide | omega)) rfl (pa_cons (pv 7) pa_nil))))) (pe_lst (pa_cons pe_bl (pa_cons pe_bl (pa_cons pe_bl (pa_cons pe_bl (pa_cons pe_bl pa_nil)))))) (nomark _)))))), ?_⟩
    refine g_forR (R := fun k => 1 ≤ k ∧ k ≤ 8) ?_ (fun k h => by omega) (fun i σ' H' => ∃ o1 o2 o3 o4, σ' = [some (.ref a), o1, o2, o3, o4, none, none, none] ∧ Gx H H') (fun H1 e => ⟨_, _, _, _, rfl, e⟩) ?_ ?_
    · intro H1 e Q q
      refine ⟨_, rfl, a, _, rfl, Or.inl (e.l hS), _, _, rfl, _, _, rfl, ?_⟩
      refine q _ H1 (Gx.refl _) ⟨_, rfl, ?_⟩
      rw [List.length_map]
      split <;> split <;> omega
    · rintro i σ' H1 ⟨kk, hkk, hi⟩ ⟨o1, o2, o3, o4, rfl, e1⟩
      refine ⟨_, rfl, _, rfl, a, ns, i, rfl, e1.l hS, fun d hd => ?_⟩
      have e2 : Gx H (upd H1 d (diceO d)) := e1.trans (Gx.new hd)
      refine g_forR (R := fun k => k = 20) (evgs_cons (evg_i 20) fun v H2 _ ⟨j, z, hj⟩ => evgs_nil fun _ _ => ⟨j, by rw [z], hj⟩) (fun k h => by omega)
        (fun i σ' H' => ∃ o1 o3 o4, σ' = [some (.ref a), o1, some (.ref d), o3, o4, none, none, none] ∧ Gx H H' ∧ H' d = some (diceO d)) (fun H2 e => ⟨_, _, _, rfl, e2.trans e, e _ _ upd_same⟩) ?_ ?_
      · rintro j σ' H2 _ ⟨o1, o3, o4, rfl, e3, hd2⟩
        refine ⟨_, rfl, d, rfl, hd2, fun H3 e4 => ⟨_, rfl, ?_⟩⟩
        refine iteF ?_
        exact ⟨_, _, _, rfl, e3.trans e4, e4 _ _ hd2⟩
      · rintro j σ' H2 _ ⟨o1, o3, o4, rfl, e3, hd2⟩
        refine g_asg (Φ := OddT K) (evg_pick (n := 10) (evg_dice rfl hd2) (evg_all OddT.mono (evgs_m OddT.mono (od (fun _ => .non) rfl) <| evgs_m OddT.mono (od (fun _ => .int _) rfl) <| evgs_m OddT.mono (od (fun _ => .str _) rfl) <|
          evgs_m OddT.mono (odT (Φs := []) ats_nil (by decide)) <| evgs_m OddT.mono (odL (Φs := []) ats_nil (by decide)) <| evgs_m OddT.mono (odT (Φs := [AnyT, AnyT]) (ats_c AnyT.mono any_c <| ats_c AnyT.mono any_c <| ats_nil) (by show 2 ≤ _; decide)) <|
          evgs_m OddT.mono (odL (Φs := [AnyT]) (ats_c AnyT.mono any_t <| ats_nil) (by show 1 ≤ _; decide)) <| evgs_m OddT.mono (fun H3 _ Q q p hp => q _ _ (Gx.new hp) (.inr ⟨p, [], rfl, upd_same, by decide, rfl, by decide +kernel⟩)) <| evgs_m OddT.mono (od (fun _ => .bl _) rfl) <|
          evgs_m OddT.mono (odT (Φs := [AnyT]) (ats_c AnyT.mono any_t <| ats_nil) (by show 1 ≤ _; decide)) <| evgs_none) (by decide)) (by decide)) fun v H3 e4 hv => ?_
        refine g_when1 (R := fun b => b = false) (evb_test (fun H4 e5 Q4 q4 => evg_symO rfl hv H4 e5 _ fun u H5 e6 ⟨b, z, hb⟩ => ⟨b, false, z, rfl, q4 _ H5 e6 ⟨_, rfl, by rw [hb]; rfl⟩⟩)) (fun h => by cases h) fun _ H4 e5 => ⟨_, _, _, _, rfl, (e3.trans e4).trans e5⟩
    · rintro i σ' H1 _ ⟨o1, o2, o3, o4, rfl, e1⟩
      have mm : ∀ Φ ∈ [DicT true, DicT false, DicT true, DicT false, DicT false], Mono Φ := fun Φ h => by
        simp at h
        rcases h with rfl | rfl | rfl | rfl <;> exact DicT.mono
      refine g_asg (Φ := LstT [DicT true, DicT false, DicT true, DicT false, DicT false]) (evg_lstA mm (
        ats_c DicT.mono (evg_disp [(.inr "a", .int 0), (.inr "f", .int 2)] (by decide) (by decide +kernel) (by decide +kernel) (by decide +kernel)) <| ats_c DicT.mono (evg_disp [(.inr "f", .int 2)] (by decide) (by decide +kernel) (by decide +kernel) (by decide +kernel)) <|
        ats_c DicT.mono (evg_disp [(.inr "a", .int 0)] (by decide) (by decide +kernel) (by decide +kernel) (by decide +kernel)) <| ats_c DicT.mono (evg_disp [(.inr "a", .bl false)] (by decide) (by decide +kernel) (by decide +kernel) (by decide +kernel)) <|
        ats_c DicT.mono (evg_dictE (K := K) (l := nine) ((evn_lcA (R := fun i y H' => ∃ T q, y = .ref T ∧ nine[i]? = some q ∧ H' T = some (.tup [kV q.1, q.2])) (evw_str (z := "abcdefghi") (evg_c fun _ _ => rfl)) (by decide) (fun _ _ _ _ _ h => h) ?_ ?_).imp ?_) (by decide +kernel) (by decide +kernel) (by decide +kernel)) <| ats_nil) (by show 5 ≤ _; decide)) ?_
      · rintro i x H3 _ e3 ⟨c, hc, rfl⟩
        refine evg_tup (Ψ := AtT [Eq1 (.str ⟨#[c]⟩), Eq1 (.int 0)]) (ats_c Eq1.mono (evg_ve rfl) <| ats_c Eq1.mono evg_e <| ats_nil) (fun vs _ g => by rw [g.len]; show 2 ≤ _; decide) fun vs T H5 H6 g _ _ hT => ?_
        match vs, g with
        | [v1, v2], g =>
          obtain rfl : v1 = .str ⟨#[c]⟩ := g.1
          obtain rfl : v2 = .int 0 := g.2.1
          refine ⟨T, (.inr ⟨#[c]⟩, .int 0), rfl, ?_, hT⟩
          unfold nine
          rw [List.getElem?_map, Array.getElem?_toList, hc]
          rfl
      · rintro i v H4 H5 e5 ⟨T, q, h1, h2, h3⟩
        exact ⟨T, q, h1, h2, e5.tup h3⟩
      · rintro b H4 _ ⟨ys, hb, hyl, hy⟩
        exact ⟨ys, hb, by rw [hyl]; rfl, hy⟩
      rintro v H2 e2 ⟨l, rfl, xs, hl, hx⟩
      have bs : ∀ j (x : V) H3, Gx H2 H3 → xs[j]? = some x → ∃ b, [true, false, true, false, false][j]? = some b ∧ DicT b x H3 := fun j x H3 e3 q => by
        obtain ⟨Φ, h1, h2⟩ := (hx.mono e3 mm).get q
        match j, h1 with
        | 0, h1 => cases h1; exact ⟨_, rfl, h2⟩
        | 1, h1 => cases h1; exact ⟨_, rfl, h2⟩
        | 2, h1 => cases h1; exact ⟨_, rfl, h2⟩
        | 3, h1 => cases h1; exact ⟨_, rfl, h2⟩
        | 4, h1 => cases h1; exact ⟨_, rfl, h2⟩
        | n + 5, h1 => simp at h1
      have hxl : xs.length = 5 := hx.len
      refine g_ret (Φ := BlE true) (evg_eqD (d := .list ([true, false, true, false, false].map PyData.bool)) ((evn_lcA (R := fun j y _ => ∃ b, [true, false, true, false, false][j]? = some b ∧ y = .bl b) (evw_listAt (xs := xs) (evg_var rfl fun _ e => ⟨l, rfl, SqL.of (e _ _ hl)⟩)) (by omega) (fun _ _ _ _ _ h => h) ?_ fun _ _ _ _ _ h => h).g ?_)
        (evg_dlst (dats_c dat_bl <| dats_c dat_bl <| dats_c dat_bl <| dats_c dat_bl <| dats_c dat_bl <| dats_nil) (by show 5 ≤ _; decide)) (by decide +kernel) (by decide +kernel)) ?_
      · intro j x H3 _ e3 hx'
        obtain ⟨b, hb, hn⟩ := bs j x H3 e3 hx'
        exact (evg_sym rfl hn).imp fun v _ _ ⟨c, z, hc⟩ => ⟨b, hb, by rw [z, hc]⟩
      · rintro p H3 H4 _ _ _ ⟨ys, hp, hyl, hy⟩
        obtain rfl := bls_eq (by rw [hyl, hxl]; rfl) hy
        exact .lst (SqL.of hp) (dp_bls _)
      · rintro v H3 _ ⟨b, rfl, rfl⟩
        exact k H3
end
theorem all_mk {l : PySem.W.OpenLaw} {w : World} {K : PySem.W.Frag} {h : Heap} {mg : Str → Option Value} {fa f_is_integer f_is_within f_is_word f_is_symbols f_dice f_roll f_pick f_some f_fits_symbols f_right f_law : Addr} (X : K.In h) (G : h.Ns mainGlobals mg) (hfa : mg "law" = some (.ref fa))
    {od_is_integer an_is_integer : Option Addr} {sl_is_integer : Array (Option Value)} {oc_is_integer kV_is_integer dc_is_integer pm_is_integer cd_is_integer ct_is_integer : Value}
    {od_is_within an_is_within : Option Addr} {sl_is_within : Array (Option Value)} {oc_is_within kV_is_within dc_is_within pm_is_within cd_is_within ct_is_within : Value}
    {od_is_word an_is_word : Option Addr} {sl_is_word : Array (Option Value)} {oc_is_word kV_is_word dc_is_word pm_is_word cd_is_word ct_is_word : Value}
    {od_is_symbols an_is_symbols : Option Addr} {sl_is_symbols : Array (Option Value)} {oc_is_symbols kV_is_symbols dc_is_symbols pm_is_symbols cd_is_symbols ct_is_symbols : Value}
    {od_dice an_dice : Option Addr} {sl_dice : Array (Option Value)} {oc_dice kV_dice dc_dice pm_dice cd_dice ct_dice : Value}
    {od_roll an_roll : Option Addr} {sl_roll : Array (Option Value)} {oc_roll kV_roll dc_roll pm_roll cd_roll ct_roll : Value}
    {od_pick an_pick : Option Addr} {sl_pick : Array (Option Value)} {oc_pick kV_pick dc_pick pm_pick cd_pick ct_pick : Value}
    {od_some an_some : Option Addr} {sl_some : Array (Option Value)} {oc_some kV_some dc_some pm_some cd_some ct_some : Value}
    {od_fits_symbols an_fits_symbols : Option Addr} {sl_fits_symbols : Array (Option Value)} {oc_fits_symbols kV_fits_symbols dc_fits_symbols pm_fits_symbols cd_fits_symbols ct_fits_symbols : Value}
    {od_right an_right : Option Addr} {sl_right : Array (Option Value)} {oc_right kV_right dc_right pm_right cd_right ct_right : Value}
    {od_law an_law : Option Addr} {sl_law : Array (Option Value)} {oc_law kV_law dc_law pm_law cd_law ct_law : Value}
    {t_LONGEST : Tok}
    {t_MAX_LETTERS : Tok}
    {t_MAX_ARITY : Tok}
    {t_MAX_SYMBOLS : Tok}
    {t_LETTERS : Tok}
    (a_is_integer : PySem.W.nsIn K mainGlobals "is_integer" = some (some (.ref f_is_integer)))
    (l_is_integer : K.lookup f_is_integer = some ⟨oc_is_integer, od_is_integer, .func (PySem.W.fnOf "is_integer" "is_integer" (defArgs s_is_integer) (defBody s_is_integer) (defScope s_is_integer) .none kV_is_integer dc_is_integer pm_is_integer an_is_integer cd_is_integer ct_is_integer), sl_is_integer⟩)
    (c_is_integer : PySem.W.codeIn K cd_is_integer "is_integer" = true)
    (k_is_integer : PySem.W.keepIn K (.ref f_is_integer) = true)
    (a_is_within : PySem.W.nsIn K mainGlobals "is_within" = some (some (.ref f_is_within)))
    (l_is_within : K.lookup f_is_within = some ⟨oc_is_within, od_is_within, .func (PySem.W.fnOf "is_within" "is_within" (defArgs s_is_within) (defBody s_is_within) (defScope s_is_within) .none kV_is_within dc_is_within pm_is_within an_is_within cd_is_within ct_is_within), sl_is_within⟩)
    (c_is_within : PySem.W.codeIn K cd_is_within "is_within" = true)
    (k_is_within : PySem.W.keepIn K (.ref f_is_within) = true)
    (a_is_word : PySem.W.nsIn K mainGlobals "is_word" = some (some (.ref f_is_word)))
    (l_is_word : K.lookup f_is_word = some ⟨oc_is_word, od_is_word, .func (PySem.W.fnOf "is_word" "is_word" (defArgs s_is_word) (defBody s_is_word) (defScope s_is_word) .none kV_is_word dc_is_word pm_is_word an_is_word cd_is_word ct_is_word), sl_is_word⟩)
    (c_is_word : PySem.W.codeIn K cd_is_word "is_word" = true)
    (k_is_word : PySem.W.keepIn K (.ref f_is_word) = true)
    (a_is_symbols : PySem.W.nsIn K mainGlobals "is_symbols" = some (some (.ref f_is_symbols)))
    (l_is_symbols : K.lookup f_is_symbols = some ⟨oc_is_symbols, od_is_symbols, .func (PySem.W.fnOf "is_symbols" "is_symbols" (defArgs s_is_symbols) (defBody s_is_symbols) (defScope s_is_symbols) .none kV_is_symbols dc_is_symbols pm_is_symbols an_is_symbols cd_is_symbols ct_is_symbols), sl_is_symbols⟩)
    (c_is_symbols : PySem.W.codeIn K cd_is_symbols "is_symbols" = true)
    (k_is_symbols : PySem.W.keepIn K (.ref f_is_symbols) = true)
    (a_dice : PySem.W.nsIn K mainGlobals "_law_dice" = some (some (.ref f_dice)))
    (l_dice : K.lookup f_dice = some ⟨oc_dice, od_dice, .func (PySem.W.fnOf "_law_dice" "_law_dice" (defArgs s_dice) (defBody s_dice) (defScope s_dice) .none kV_dice dc_dice pm_dice an_dice cd_dice ct_dice), sl_dice⟩)
    (c_dice : PySem.W.codeIn K cd_dice "_law_dice" = true)
    (k_dice : PySem.W.keepIn K (.ref f_dice) = true)
    (a_roll : PySem.W.nsIn K mainGlobals "_law_roll" = some (some (.ref f_roll)))
    (l_roll : K.lookup f_roll = some ⟨oc_roll, od_roll, .func (PySem.W.fnOf "_law_roll" "_law_roll" (defArgs s_roll) (defBody s_roll) (defScope s_roll) .none kV_roll dc_roll pm_roll an_roll cd_roll ct_roll), sl_roll⟩)
    (c_roll : PySem.W.codeIn K cd_roll "_law_roll" = true)
    (k_roll : PySem.W.keepIn K (.ref f_roll) = true)
    (a_pick : PySem.W.nsIn K mainGlobals "_law_pick" = some (some (.ref f_pick)))
    (l_pick : K.lookup f_pick = some ⟨oc_pick, od_pick, .func (PySem.W.fnOf "_law_pick" "_law_pick" (defArgs s_pick) (defBody s_pick) (defScope s_pick) .none kV_pick dc_pick pm_pick an_pick cd_pick ct_pick), sl_pick⟩)
    (c_pick : PySem.W.codeIn K cd_pick "_law_pick" = true)
    (k_pick : PySem.W.keepIn K (.ref f_pick) = true)
    (a_some : PySem.W.nsIn K mainGlobals "_law_some" = some (some (.ref f_some)))
    (l_some : K.lookup f_some = some ⟨oc_some, od_some, .func (PySem.W.fnOf "_law_some" "_law_some" (defArgs s_some) (defBody s_some) (defScope s_some) .none kV_some dc_some pm_some an_some cd_some ct_some), sl_some⟩)
    (c_some : PySem.W.codeIn K cd_some "_law_some" = true)
    (k_some : PySem.W.keepIn K (.ref f_some) = true)
    (a_fits_symbols : PySem.W.nsIn K mainGlobals "_law_fits_symbols" = some (some (.ref f_fits_symbols)))
    (l_fits_symbols : K.lookup f_fits_symbols = some ⟨oc_fits_symbols, od_fits_symbols, .func (PySem.W.fnOf "_law_fits_symbols" "_law_fits_symbols" (defArgs s_fits_symbols) (defBody s_fits_symbols) (defScope s_fits_symbols) .none kV_fits_symbols dc_fits_symbols pm_fits_symbols an_fits_symbols cd_fits_symbols ct_fits_symbols), sl_fits_symbols⟩)
    (c_fits_symbols : PySem.W.codeIn K cd_fits_symbols "_law_fits_symbols" = true)
    (k_fits_symbols : PySem.W.keepIn K (.ref f_fits_symbols) = true)
    (a_right : PySem.W.nsIn K mainGlobals "_law_right" = some (some (.ref f_right)))
    (l_right : K.lookup f_right = some ⟨oc_right, od_right, .func (PySem.W.fnOf "_law_right" "_law_right" (defArgs s_right) (defBody s_right) (defScope s_right) .none kV_right dc_right pm_right an_right cd_right ct_right), sl_right⟩)
    (c_right : PySem.W.codeIn K cd_right "_law_right" = true)
    (k_right : PySem.W.keepIn K (.ref f_right) = true)
    (a_law : PySem.W.nsIn K mainGlobals "law" = some (some (.ref f_law)))
    (l_law : K.lookup f_law = some ⟨oc_law, od_law, .func (PySem.W.fnOf "law" "law" (defArgs s_law) (defBody s_law) (defScope s_law) .none kV_law dc_law pm_law an_law cd_law ct_law), sl_law⟩)
    (c_law : PySem.W.codeIn K cd_law "law" = true)
    (k_law : PySem.W.keepIn K (.ref f_law) = true)
    (z_len : PySem.W.nsIn K mainGlobals "len" = some none)
    (z_int : PySem.W.nsIn K mainGlobals "int" = some none)
    (z_bool : PySem.W.nsIn K mainGlobals "bool" = some none)
    (z_str : PySem.W.nsIn K mainGlobals "str" = some none)
    (z_list : PySem.W.nsIn K mainGlobals "list" = some none)
    (z_tuple : PySem.W.nsIn K mainGlobals "tuple" = some none)
    (z_dict : PySem.W.nsIn K mainGlobals "dict" = some none)
    (z_abs : PySem.W.nsIn K mainGlobals "abs" = some none)
    (z_max : PySem.W.nsIn K mainGlobals "max" = some none)
    (z_min : PySem.W.nsIn K mainGlobals "min" = some none)
    (z_range : PySem.W.nsIn K mainGlobals "range" = some none)
    (z_repr : PySem.W.nsIn K mainGlobals "repr" = some none)
    (z_isinstance : PySem.W.nsIn K mainGlobals "isinstance" = some none)
    (z_all : PySem.W.nsIn K mainGlobals "all" = some none)
    (i_LONGEST : PySem.W.nsIn K mainGlobals "LONGEST" = some (some (.int (10 ^ 60) t_LONGEST)))
    (i_MAX_LETTERS : PySem.W.nsIn K mainGlobals "MAX_LETTERS" = some (some (.int (8) t_MAX_LETTERS)))
    (i_MAX_ARITY : PySem.W.nsIn K mainGlobals "MAX_ARITY" = some (some (.int (3) t_MAX_ARITY)))
    (i_MAX_SYMBOLS : PySem.W.nsIn K mainGlobals "MAX_SYMBOLS" = some (some (.int (8) t_MAX_SYMBOLS)))
    (i_LETTERS : PySem.W.nsIn K mainGlobals "LETTERS" = some (some (.str "abcdefghijklmnopqrstuvwxyz" t_LETTERS))) :
    ∃ fd : FuncData, (∀ (s : Shared) (v : Value), BindsTo s fd ⟨[v], []⟩ [("_law_script", v)]) ∧ ∀ base : Heap, K.In base → base.Ns mainGlobals mg → FnOk l.prog w K mg base CX0 5 fa fd ["_law_script"] (spLaw K) := by
  have e := hfa.symm.trans (PySem.W.mg_of X G a_law)
  cases e
  have T : Txt K mg := ⟨PySem.W.mg_none_of X G z_len, PySem.W.mg_none_of X G z_int, PySem.W.mg_none_of X G z_bool, PySem.W.mg_none_of X G z_str, PySem.W.mg_none_of X G z_list, PySem.W.mg_none_of X G z_tuple, PySem.W.mg_none_of X G z_dict, PySem.W.mg_none_of X G z_abs, PySem.W.mg_none_of X G z_max, PySem.W.mg_none_of X G z_min, PySem.W.mg_none_of X G z_range, PySem.W.mg_none_of X G z_repr, PySem.W.mg_none_of X G z_isinstance, PySem.W.mg_none_of X G z_all⟩
  have F_is_integer := fun_mk (st := s_is_integer) l_is_integer c_is_integer k_is_integer
  have m_is_integer := PySem.W.mg_of X G a_is_integer
  have b_is_integer := F_is_integer.binds (ps := ps_is_integer) fun _ _ _ _ _ _ us hl => match us, hl with | [_], _ => rfl
  have F_is_within := fun_mk (st := s_is_within) l_is_within c_is_within k_is_within
  have m_is_within := PySem.W.mg_of X G a_is_within
  have b_is_within := F_is_within.binds (ps := ps_is_within) fun _ _ _ _ _ _ us hl => match us, hl with | [_, _, _], _ => rfl
  have F_is_word := fun_mk (st := s_is_word) l_is_word c_is_word k_is_word
  have m_is_word := PySem.W.mg_of X G a_is_word
  have b_is_word := F_is_word.binds (ps := ps_is_word) fun _ _ _ _ _ _ us hl => match us, hl with | [_], _ => rfl
  have F_is_symbols := fun_mk (st := s_is_symbols) l_is_symbols c_is_symbols k_is_symbols
  have m_is_symbols := PySem.W.mg_of X G a_is_symbols
  have b_is_symbols := F_is_symbols.binds (ps := ps_is_symbols) fun _ _ _ _ _ _ us hl => match us, hl with | [_], _ => rfl
  have F_dice := fun_mk (st := s_dice) l_dice c_dice k_dice
  have m_dice := PySem.W.mg_of X G a_dice
  have b_dice := F_dice.binds (ps := ps_dice) fun _ _ _ _ _ _ us hl => match us, hl with | [_, _], _ => rfl
  have F_roll := fun_mk (st := s_roll) l_roll c_roll k_roll
  have m_roll := PySem.W.mg_of X G a_roll
  have b_roll := F_roll.binds (ps := ps_roll) fun _ _ _ _ _ _ us hl => match us, hl with | [_, _], _ => rfl
  have F_pick := fun_mk (st := s_pick) l_pick c_pick k_pick
  have m_pick := PySem.W.mg_of X G a_pick
  have b_pick := F_pick.binds (ps := ps_pick) fun _ _ _ _ _ _ us hl => match us, hl with | [_, _], _ => rfl
  have F_some := fun_mk (st := s_some) l_some c_some k_some
  have m_some := PySem.W.mg_of X G a_some
  have b_some := F_some.binds (ps := ps_some) fun _ _ _ _ _ _ us hl => match us, hl with | [_, _, _], _ => rfl
  have F_fits_symbols := fun_mk (st := s_fits_symbols) l_fits_symbols c_fits_symbols k_fits_symbols
  have m_fits_symbols := PySem.W.mg_of X G a_fits_symbols
  have b_fits_symbols := F_fits_symbols.binds (ps := ps_fits_symbols) fun _ _ _ _ _ _ us hl => match us, hl with | [_], _ => rfl
  have F_right := fun_mk (st := s_right) l_right c_right k_right
  have m_right := PySem.W.mg_of X G a_right
  have b_right := F_right.binds (ps := ps_right) fun _ _ _ _ _ _ us hl => match us, hl with | [_], _ => rfl
  have F_law := fun_mk (st := s_law) l_law c_law k_law
  have m_law := PySem.W.mg_of X G a_law
  have b_law := F_law.binds (ps := ps_law) fun _ _ _ _ _ _ us hl => match us, hl with | [_], _ => rfl
  have g_LONGEST := PySem.W.mg_of X G i_LONGEST
  have g_MAX_LETTERS := PySem.W.mg_of X G i_MAX_LETTERS
  have g_MAX_ARITY := PySem.W.mg_of X G i_MAX_ARITY
  have g_MAX_SYMBOLS := PySem.W.mg_of X G i_MAX_SYMBOLS
  have g_LETTERS := PySem.W.mg_of X G i_LETTERS
  refine ⟨PySem.W.fnOf "law" "law" (defArgs s_law) (defBody s_law) (defScope s_law) .none kV_law dc_law pm_law an_law cd_law ct_law, fun s v => .of_eq rfl, fun base _ _ => ?_⟩
  have C_roll : Cal l.prog w K mg base "_law_roll" 1 ps_roll spRoll := ⟨⟨_, _, ok_roll F_roll T, m_roll, k_roll, b_roll⟩⟩
  have C_pick : Cal l.prog w K mg base "_law_pick" 2 ps_pick (spPick K) := ⟨⟨_, _, ok_pick F_pick T C_roll, m_pick, k_pick, b_pick⟩⟩
  have C_some : Cal l.prog w K mg base "_law_some" 2 ps_some (spSome K) := ⟨⟨_, _, ok_some F_some T C_roll, m_some, k_some, b_some⟩⟩
  have C_dice : Cal l.prog w K mg base "_law_dice" 1 ps_dice (spDice K) := ⟨⟨_, _, ok_dice F_dice T, m_dice, k_dice, b_dice⟩⟩
  have C_is_integer : Cal l.prog w K mg base "is_integer" 1 ps_is_integer (spIsInt K) := ⟨⟨_, _, ok_is_integer F_is_integer T g_LONGEST, m_is_integer, k_is_integer, b_is_integer⟩⟩
  have C_is_within : Cal l.prog w K mg base "is_within" 2 ps_is_within (spWithin K) := ⟨⟨_, _, ok_is_within F_is_within C_is_integer, m_is_within, k_is_within, b_is_within⟩⟩
  have C_is_word : Cal l.prog w K mg base "is_word" 1 ps_is_word (spWord K) := ⟨⟨_, _, ok_is_word F_is_word T g_MAX_LETTERS g_LETTERS, m_is_word, k_is_word, b_is_word⟩⟩
  have C_is_symbols : Cal l.prog w K mg base "is_symbols" 3 ps_is_symbols (spSym K) := ⟨⟨_, _, ok_is_symbols F_is_symbols T g_MAX_SYMBOLS g_MAX_ARITY C_is_word C_is_within, m_is_symbols, k_is_symbols, b_is_symbols⟩⟩
  have C_fits_symbols : Cal l.prog w K mg base "_law_fits_symbols" 1 ps_fits_symbols (spFits K) := ⟨⟨_, _, ok_fits F_fits_symbols T, m_fits_symbols, k_fits_symbols, b_fits_symbols⟩⟩
  have C_right : Cal l.prog w K mg base "_law_right" 4 ps_right spRight := ⟨⟨_, _, ok_right F_right T C_roll C_pick C_some C_is_symbols C_fits_symbols, m_right, k_right, b_right⟩⟩
  exact ok_law F_law T C_dice C_pick C_right C_is_symbols
theorem walk {l : PySem.W.OpenLaw} {q : Program} {loose : List Str} {XP : (Str → Option Value) → Heap → Prop} {YP : World → Heap → Prop} {d : DefRec} {K : Params → PySem.W.Frag} (hn : l.most = some 63) (hdf : d.params.defaults = [])
    (hY : ∀ (w : World) (h : Heap), YP w h → (K w.params).In h)
    (F : ∀ (w : World) (mg : Str → Option Value) (fa : Addr) (h : Heap), (K w.params).In h → h.Ns mainGlobals mg → mg d.name = some (.ref fa) →
      ∃ fd : FuncData, (∀ (s : Shared) (u : Value), BindsTo s fd ⟨[u], []⟩ [("_law_script", u)]) ∧ ∀ base : Heap, (K w.params).In base → base.Ns mainGlobals mg → FnOk l.prog w (K w.params) mg base CX0 5 fa fd ["_law_script"] (spLaw (K w.params))) :
    PySem.W.WalkO q loose XP YP l.row.toRowW d [] (fun f vs => PySem.call f vs) :=
  L2.walk_of (n := 63) (k := 5) (x := "_law_script") (CX := fun _ => CX0) (sp := fun w => spLaw (K w.params)) hn (by decide) hdf ⟨rfl, by decide, by decide⟩ hY F (fun _ _ a ns hl _ hS => ⟨a, ns, rfl, hS, hl, fun _ => rfl⟩) fun _ _ _ _ _ z => z
end K04
open PySem PySem.W PyProof.Rows
set_option maxRecDepth 100000 in
set_option maxHeartbeats 0 in
theorem PySem.Challenge.cw_firstneed_k04_symbols_judged_holds : PySem.Challenge.rw_firstneed_k04_symbols_judged.Holds := by
  w_on; o_law; k_head; (case hw => w_witness2)
  k_fill
  refine K04.walk (l := PySem.Challenge.rw_firstneed_k04_symbols_judged) rfl rfl (fun w h Y => PySem.W.kIn_of Y) ?F
  case F =>
    intro w mg fa h KX G hmg
    refine' K04.all_mk KX G hmg ?a_is_integer ?l_is_integer ?c_is_integer ?k_is_integer ?a_is_within ?l_is_within ?c_is_within ?k_is_within ?a_is_word ?l_is_word ?c_is_word ?k_is_word ?a_is_symbols ?l_is_symbols ?c_is_symbols ?k_is_symbols ?a_dice ?l_dice ?c_dice ?k_dice ?a_roll ?l_roll ?c_roll ?k_roll ?a_pick ?l_pick ?c_pick ?k_pick ?a_some ?l_some ?c_some ?k_some ?a_fits_symbols ?l_fits_symbols ?c_fits_symbols ?k_fits_symbols ?a_right ?l_right ?c_right ?k_right ?a_law ?l_law ?c_law ?k_law ?z_len ?z_int ?z_bool ?z_str ?z_list ?z_tuple ?z_dict ?z_abs ?z_max ?z_min ?z_range ?z_repr ?z_isinstance ?z_all ?i_LONGEST ?i_MAX_LETTERS ?i_MAX_ARITY ?i_MAX_SYMBOLS ?i_LETTERS
    (case a_is_integer => k_is)
    (case l_is_integer => k_is)
    (case c_is_integer => k_is)
    (case k_is_integer => k_is)
    (case a_is_within => k_is)
    (case l_is_within => k_is)
    (case c_is_within => k_is)
    (case k_is_within => k_is)
    (case a_is_word => k_is)
    (case l_is_word => k_is)
    (case c_is_word => k_is)
    (case k_is_word => k_is)
    (case a_is_symbols => k_is)
    (case l_is_symbols => k_is)
    (case c_is_symbols => k_is)
    (case k_is_symbols => k_is)
    (case a_dice => k_is)
    (case l_dice => k_is)
    (case c_dice => k_is)
    (case k_dice => k_is)
    (case a_roll => k_is)
    (case l_roll => k_is)
    (case c_roll => k_is)
    (case k_roll => k_is)
    (case a_pick => k_is)
    (case l_pick => k_is)
    (case c_pick => k_is)
    (case k_pick => k_is)
    (case a_some => k_is)
    (case l_some => k_is)
    (case c_some => k_is)
    (case k_some => k_is)
    (case a_fits_symbols => k_is)
    (case l_fits_symbols => k_is)
    (case c_fits_symbols => k_is)
    (case k_fits_symbols => k_is)
    (case a_right => k_is)
    (case l_right => k_is)
    (case c_right => k_is)
    (case k_right => k_is)
    (case a_law => k_is)
    (case l_law => k_is)
    (case c_law => k_is)
    (case k_law => k_is)
    (case z_len => k_is)
    (case z_int => k_is)
    (case z_bool => k_is)
    (case z_str => k_is)
    (case z_list => k_is)
    (case z_tuple => k_is)
    (case z_dict => k_is)
    (case z_abs => k_is)
    (case z_max => k_is)
    (case z_min => k_is)
    (case z_range => k_is)
    (case z_repr => k_is)
    (case z_isinstance => k_is)
    (case z_all => k_is)
    (case i_LONGEST => k_is)
    (case i_MAX_LETTERS => k_is)
    (case i_MAX_ARITY => k_is)
    (case i_MAX_SYMBOLS => k_is)
    (case i_LETTERS => k_is)

