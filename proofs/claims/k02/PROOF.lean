import PyProof.Rows.All
import Wide.All
import OpenK.AllK
import Wide.FinOn
import HandS.ForMost
import HandS.IsInst
import HandS.Evl
import PySem.Challenge.RW_firstneed_k02_integers_judged
set_option Elab.async false
set_option maxRecDepth 100000
/-! Own layer: dice that hide their numbers, heaps that only grow, repr of plain values. -/
namespace Ly
open PySem PySem.Spec PyProof.Rows L2

/-! ### heaps that only grow -/
def Gx (H H' : Hp) : Prop := ∀ a o, H a = some o → H' a = some o
theorem Gx.refl (H : Hp) : Gx H H := fun _ _ h => h
theorem Gx.trans {H H1 H2 : Hp} (a : Gx H H1) (b : Gx H1 H2) : Gx H H2 := fun x o h => b x o (a x o h)
theorem Gx.new {H : Hp} {p : Addr} {o : HO} (h : H p = none) : Gx H (upd H p o) := fun a u e => by
  rw [upd_ne (ne_of_none e h)]
  exact e
theorem Gx.mut {H H' : Hp} {p : Addr} {o : HO} (e : Gx H H') (h : H p = none) : Gx H (upd H' p o) := fun a u ha => by
  rw [upd_ne (ne_of_none ha h)]
  exact e a u ha
theorem Gx.free {H H' : Hp} {p : Addr} (e : Gx H H') (h : H' p = none) : H p = none := by
  cases q : H p with
  | none => rfl
  | some o =>
    rw [e p o q] at h
    cases h
theorem Gx.rd {H H' : Hp} {a : Addr} {u : HO} (e : Gx H H') (h : Rd H a u) : Rd H' a u := by
  rcases h with h | ⟨o, h⟩
  · exact Or.inl (e a _ h)
  · exact Or.inr ⟨o, e a _ h⟩
theorem Gx.l {K : PySem.W.Frag} {H H' : Hp} {a : Addr} {xs : List V} (e : Gx H H') (h : SqL K H a xs) : SqL K H' a xs := by
  rcases h with h | h
  · exact Or.inl (e.rd h)
  · exact Or.inr h
theorem Gx.t {K : PySem.W.Frag} {H H' : Hp} {a : Addr} {xs : List V} (e : Gx H H') (h : SqT K H a xs) : SqT K H' a xs := by
  rcases h with h | h
  · exact Or.inl (e.rd h)
  · exact Or.inr h

/-! ### dice: a list of three ints whose numbers nobody asks for -/
def diceP (p : Addr) : Heap → Prop := fun h => ∃ (a b c : Int) (t u v : Tok) (n : Nat), h.get? p = some { cls := .type "list", data := .seq #[.int a t, .int b u, .int c v] n }
def diceO (p : Addr) : HO := .ext (diceP p)
abbrev three (a b c : Int) : HO := .lst [.int a, .int b, .int c]
section
variable {P : Program} {w : World} {H H1 : Hp} {h h1 : Heap} {p : Addr} {fs ex : List Addr}
theorem hok_hide {a b c : Int} (x : HOk P w H h) (e : H p = some (three a b c)) : HOk P w (upd H p (diceO p)) h := by
  intro q o eq
  by_cases hq : q = p
  · subst hq
    rw [upd_same] at eq
    cases eq
    obtain ⟨_, its, n, r, g⟩ := x q _ e
    cases r with
    | cons ra r =>
      cases r with
      | cons rb r =>
        cases r with
        | cons rc r =>
          cases r
          obtain ⟨t, rfl⟩ := ra
          obtain ⟨u, rfl⟩ := rb
          obtain ⟨v, rfl⟩ := rc
          refine ⟨⟨a, b, c, t, u, v, n, g⟩, ⟨_, g⟩, ?_⟩
          rintro h1 h2 ⟨a, b, c, t, u, v, n, g⟩ k
          exact ⟨a, b, c, t, u, v, n, k _ g⟩
  · rw [upd_ne hq] at eq
    refine (x q o eq).stay (fun _ _ _ z => z) (fun b z => ?_) fun b xs z => ?_
    · rw [upd_ne]
      · exact z
      · intro z2
        subst z2
        rw [e] at z
        cases z
    · rw [upd_ne]
      · exact z
      · intro z2
        subst z2
        rw [e] at z
        cases z
theorem hok_show (x : HOk P w H h) (e : H p = some (diceO p)) : ∃ a b c, HOk P w (upd H p (three a b c)) h := by
  obtain ⟨⟨a, b, c, t, u, v, n, g⟩, _, _⟩ := x p _ e
  refine ⟨a, b, c, fun q o eq => ?_⟩
  by_cases hq : q = p
  · subst hq
    rw [upd_same] at eq
    cases eq
    refine ⟨by show 3 ≤ sizeLine; decide, [.int a t, .int b u, .int c v], n, .cons ⟨t, rfl⟩ (.cons ⟨u, rfl⟩ (.cons ⟨v, rfl⟩ .nil)), g⟩
  · rw [upd_ne hq] at eq
    refine (x q o eq).stay (fun _ _ _ z => z) (fun b z => ?_) fun b xs z => ?_
    · rw [upd_ne]
      · exact z
      · intro z2
        subst z2
        rw [e] at z
        cases z
    · rw [upd_ne]
      · exact z
      · intro z2
        subst z2
        rw [e] at z
        cases z
theorem un_hide {xs : List V} (u : Un fs ex H H1 h h1) (e : H1 p = some (.lst xs)) : Un fs ex H (upd H1 p (diceO p)) h h1 where
  keep := u.keep
  slot := u.slot
  free := fun b o g n hx => by
    have z := u.free b o g n hx
    rw [upd_ne (fun q => by subst q; rw [e] at z; cases z)]
    exact z
  there := u.there
  tups := fun b ys g => by
    have z := u.tups b ys g
    rw [upd_ne (fun q => by subst q; rw [e] at z; cases z)]
    exact z
  frzs := fun b o v g => by
    have z := u.frzs b o v g
    rw [upd_ne (fun q => by subst q; rw [e] at z; cases z)]
    exact z
  tbls := fun b ps g => by
    obtain ⟨m, z⟩ := u.tbls b ps g
    refine ⟨m, ?_⟩
    rw [upd_ne (fun q => by subst q; rw [e] at z; cases z)]
    exact z
theorem un_show {o : HO} (u : Un fs ex (upd H p o) H1 h h1) (e : H p = some (diceO p)) : Un fs ex H H1 h h1 where
  keep := fun b o g n => u.keep b o g (by rw [upd_ne (fun q => by subst q; rw [e] at n; cases n)]; exact n)
  slot := fun b o g n => u.slot b o g (by rw [upd_ne (fun q => by subst q; rw [e] at n; cases n)]; exact n)
  free := fun b o g n => u.free b o g (by rw [upd_ne (fun q => by subst q; rw [e] at n; cases n)]; exact n)
  there := u.there
  tups := fun b ys g => u.tups b ys (by rw [upd_ne (fun q => by subst q; rw [e] at g; cases g)]; exact g)
  frzs := fun b o v g => u.frzs b o v (by rw [upd_ne (fun q => by subst q; rw [e] at g; cases g)]; exact g)
  tbls := fun b ps g => u.tbls b ps (by rw [upd_ne (fun q => by subst q; rw [e] at g; cases g)]; exact g)
end
section
variable {P : Program} {w : World} {K : PySem.W.Frag} {mg : Str → Option Value} {base : Heap} {k : Nat} {f : Addr} {fd : FuncData} {ps : List Str} {sp : Sp} {CX : CXT}
/-- a def that reads and writes dice, seen from without -/
theorem fn_dice (F : FnOk P w K mg base CX0 k f fd ps sp) : FnOk P w K mg base CX0 k f fd ps (fun vs H Q E => vs.length = ps.length ∧ ∃ p, H p = some (diceO p) ∧
    ∀ a b c, sp vs (upd H p (three a b c)) (fun v H' => (∃ a' b' c', H' p = some (three a' b' c')) ∧ Q v (upd H' p (diceO p))) E) := by
  refine ⟨fun vs H Q E h => h.1, fun A outer s H args us vs Q E hr he hb hv hs => ?_⟩
  obtain ⟨_, p, hp, hs⟩ := hs
  obtain ⟨a, b, c, hok⟩ := hok_show he.hok hp
  have he' : Env0 P w K mg base A outer s (upd H p (three a b c)) := ⟨he.frames, he.mod, fun q o g => by
    obtain ⟨z1, z2⟩ := he.bs q o g
    refine ⟨z1, ?_⟩
    rw [upd_ne (fun y => by subst y; rw [hp] at z2; cases z2)]
    exact z2, he.bsz, he.funs, fun q g => by
    have z2 := he.frf q g
    rw [upd_ne (fun y => by subst y; rw [hp] at z2; cases z2)]
    exact z2, hok, he.bare⟩
  refine codeAny_mono (F.run A outer s _ args us vs _ E hr he' hb hv (hs a b c)) fun r s' h => ?_
  match r, h with
  | .ok (.ret u), h =>
    obtain ⟨v, H', os, bare, un, hok', rv, ⟨a', b', c', e'⟩, q⟩ := h
    exact ⟨v, upd H' p (diceO p), os, bare, un_hide (un_show un hp) e', hok_hide hok' e', rv, q⟩
/-- a def that makes dice -/
theorem fn_mkdice (F : FnOk P w K mg base CX0 k f fd ps sp) : FnOk P w K mg base CX0 k f fd ps (fun vs H Q E => sp vs H (fun v H' => ∃ p a b c, v = .ref p ∧ H' p = some (three a b c) ∧ Q (.ref p) (upd H' p (diceO p))) E) := by
  refine ⟨fun vs H Q E h => F.len _ _ _ _ h, fun A outer s H args us vs Q E hr he hb hv hs => ?_⟩
  refine codeAny_mono (F.run A outer s _ args us vs _ E hr he hb hv hs) fun r s' h => ?_
  match r, h with
  | .ok (.ret u), h =>
    obtain ⟨v, H', os, bare, un, hok', rv, p, a, b, c, rfl, e, q⟩ := h
    exact ⟨.ref p, upd H' p (diceO p), os, bare, un_hide un e, hok_hide hok' e, rv, q⟩
end
theorem upd_id {H : Hp} {p : Addr} {o : HO} (h : H p = some o) : upd H p o = H := by
  funext q
  by_cases e : q = p
  · subst e
    rw [upd_same, h]
  · rw [upd_ne e]

/-! ### a def of the text, for its callers -/
structure Cal (P : Program) (w : World) (K : PySem.W.Frag) (mg : Str → Option Value) (base : Heap) (x : Str) (k : Nat) (ps : List Str) (sp : Sp) : Prop where
  ex : ∃ (f : Addr) (fd : FuncData), FnOk P w K mg base CX0 k f fd ps sp ∧ mg x = some (.ref f) ∧ PySem.W.keepIn K (.ref f) = true ∧ Binds K fd ps []
section
variable {X : Cx} {k : Nat} {ps : List Str} {sp : Sp} {x : Str} {p pos : Pos} {e : Expr} {es : List Expr} {t : TA}
theorem pe_cal (C : Cal X.prog X.w X.K X.mg X.base x k ps sp) (hr : Room k X.A) (hg : Gl X x) (ha : PA X (e :: es) t) (hdb : (x == ("__debug__" : Str)) = false := by decide)
    (he : starEach (e :: es) X.env = (false, eval e X.env) :: starEach es X.env := by rfl) (hpl : (backTo pos (starEach es X.env)).any (·.1) = false := by rfl) :
    PE X (.Call (.Name x p) (e :: es) [] pos) (tCall sp [] E0 t) := by
  obtain ⟨f, fd, F, hm, hk, hb⟩ := C.ex
  exact pe_call F hr hg hm hk hb .nil pass0 ha hdb he hpl
theorem pe_cal0 (C : Cal X.prog X.w X.K X.mg X.base x k ps sp) (hr : Room k X.A) (hg : Gl X x) (hdb : (x == ("__debug__" : Str)) = false := by decide) :
    PE X (.Call (.Name x p) [] [] pos) (tCall sp [] E0 tNil) := by
  obtain ⟨f, fd, F, hm, hk, hb⟩ := C.ex
  exact pe_call0 F hr hg hm hk hb .nil pass0 hdb
end

/-! ### operators -/
section
variable {X : Cx}
def CPowW (i j : Int) : Prop := 0 ≤ j ∧ (Builtin.Int.intBits i : Int) * j ≤ 2 ^ 27
theorem op_powW : OpR X (binaryOp .Pow) (rI CPowW fun i j => .int (i ^ j.toNat)) := opI fun _ _ _ _ _ _ _ hc q => pow_int hc.1 hc.2 q
theorem call_reprB : CallR X (.builtin "repr") (fun xs H Q => ∃ b, xs = [.bl b] ∧ Q (.str (if b then "True" else "False")) H) := by
  intro pins s σ H xs us Q I r h
  obtain ⟨b, rfl, q⟩ := h
  obtain ⟨u, rfl, ru⟩ := vals1 r
  obtain rfl : u = Value.bool b := ru
  exact PySem.P.repr_of_bool ⟨.str _, H, I.tok _, ⟨_, rfl⟩, q⟩
end

/-! ### what is evaluated, by what is true of it, on heaps that grow -/
abbrev Ty := V → Hp → Prop
def Mono (Φ : Ty) : Prop := ∀ v H H', Gx H H' → Φ v H → Φ v H'
def EvG (te : TE) (σ : L2.St) (H : Hp) (Φ : Ty) : Prop := ∀ H1, Gx H H1 → ∀ Q : VK, (∀ v H2, Gx H1 H2 → Φ v H2 → Q v H2) → te σ H1 Q
def EvGs (ta : TA) (σ : L2.St) (H : Hp) (Ψ : List V → Hp → Prop) : Prop := ∀ H1, Gx H H1 → ∀ Q : List V → Hp → Prop, (∀ vs H2, Gx H1 H2 → Ψ vs H2 → Q vs H2) → ta σ H1 Q
section
variable {σ : L2.St} {H H' : Hp} {te ta tb : TE} {tr : TA} {Φ Φ' : Ty} {v : V} {Q : VK}
theorem EvG.use (h : EvG te σ H Φ) (k : ∀ v H2, Gx H H2 → Φ v H2 → Q v H2) : te σ H Q := h H (Gx.refl H) Q k
theorem EvGs.use {Ψ : List V → Hp → Prop} {Q : List V → Hp → Prop} (h : EvGs tr σ H Ψ) (k : ∀ vs H2, Gx H H2 → Ψ vs H2 → Q vs H2) : tr σ H Q := h H (Gx.refl H) Q k
theorem EvG.mono (e : Gx H H') (h : EvG te σ H Φ) : EvG te σ H' Φ := fun H1 a Q q => h H1 (e.trans a) Q q
theorem EvG.imp (h : EvG te σ H Φ) (i : ∀ v H2, Gx H H2 → Φ v H2 → Φ' v H2) : EvG te σ H Φ' := fun H1 a Q q => h H1 a Q fun v H2 e f => q v H2 e (i v H2 (a.trans e) f)
theorem evg_var {i : Nat} (h : σ[i]? = some (some v)) (m : ∀ H1, Gx H H1 → Φ v H1) : EvG (tVar i) σ H Φ := fun H1 e _ q => ⟨v, h, q v H1 (Gx.refl H1) (m H1 e)⟩
theorem evg_c (m : ∀ H1, Gx H H1 → Φ v H1) : EvG (tC v) σ H Φ := fun H1 e _ q => q v H1 (Gx.refl H1) (m H1 e)
theorem evgs_nil {Ψ : List V → Hp → Prop} (m : ∀ H1, Gx H H1 → Ψ [] H1) : EvGs tNil σ H Ψ := fun H1 e _ q => q [] H1 (Gx.refl H1) (m H1 e)
theorem evgs_cons {Ψ : List V → Hp → Prop} (h : EvG ta σ H Φ) (k : ∀ v H1, Gx H H1 → Φ v H1 → EvGs tr σ H1 (fun vs H2 => Ψ (v :: vs) H2)) : EvGs (tCons ta tr) σ H Ψ := fun H1 e _ q =>
  h H1 e _ fun v H2 e2 f => (k v H2 (e.trans e2) f) H2 (Gx.refl H2) _ fun vs H3 e3 g => q (v :: vs) H3 (e2.trans e3) g
/-- all of one kind -/
def AllT (Φ : Ty) (n : Nat) : List V → Hp → Prop := fun vs H => vs.length = n ∧ ∀ x ∈ vs, Φ x H
theorem AllT.mono {n : Nat} {vs : List V} (m : Mono Φ) (e : Gx H H') (h : AllT Φ n vs H) : AllT Φ n vs H' := ⟨h.1, fun x hx => m _ _ _ e (h.2 x hx)⟩
theorem evgs_none : EvGs tNil σ H (AllT Φ 0) := evgs_nil fun _ _ => ⟨rfl, fun x h => by cases h⟩
theorem evgs_more {n : Nat} (m : Mono Φ) (h : EvG ta σ H Φ) (k : ∀ H1, Gx H H1 → EvGs tr σ H1 (AllT Φ n)) : EvGs (tCons ta tr) σ H (AllT Φ (n + 1)) :=
  evgs_cons h fun v H1 e f => fun H2 e2 Q q => k H1 e H2 e2 Q fun vs H3 e3 g => q vs H3 e3 ⟨by rw [List.length_cons, g.1], fun x hx => by
    rcases List.mem_cons.mp hx with rfl | hx
    · exact m _ _ _ (e2.trans e3) f
    · exact g.2 x hx⟩
theorem evg_tup {Ψ : List V → Hp → Prop} (h : EvGs tr σ H Ψ) (hl : ∀ vs H1, Ψ vs H1 → vs.length ≤ 100000) (m : ∀ vs p H1 H2, Ψ vs H1 → Gx H1 H2 → H1 p = none → H2 p = some (.tup vs) → Φ (.ref p) H2) : EvG (tTup tr) σ H Φ := fun H1 e Q q =>
  h H1 e _ fun vs H2 e2 g => ⟨Evl.sz_of (hl vs H2 g), fun p hp => q _ _ (e2.trans (Gx.new hp)) (m vs p H2 _ g (Gx.new hp) hp upd_same)⟩
theorem evg_lst {Ψ : List V → Hp → Prop} (h : EvGs tr σ H Ψ) (hl : ∀ vs H1, Ψ vs H1 → vs.length ≤ 100000) (m : ∀ vs p H1 H2, Ψ vs H1 → Gx H1 H2 → H1 p = none → H2 p = some (.lst vs) → Φ (.ref p) H2) : EvG (tLst tr) σ H Φ := fun H1 e Q q =>
  h H1 e _ fun vs H2 e2 g => ⟨Evl.sz_of (hl vs H2 g), fun p hp => q _ _ (e2.trans (Gx.new hp)) (m vs p H2 _ g (Gx.new hp) hp upd_same)⟩
end
/-- a plain value of a built-in type -/
inductive Pl (K : PySem.W.Frag) (H : Hp) : V → String → Prop
  | non : Pl K H .non "NoneType"
  | bl (b : Bool) : Pl K H (.bl b) "bool"
  | int (i : Int) : Pl K H (.int i) "int"
  | str (x : Str) : Pl K H (.str x) "str"
  | lst {a : Addr} {xs : List V} (e : H a = some (.lst xs)) : Pl K H (.ref a) "list"
  | tup {a : Addr} {xs : List V} (e : H a = some (.tup xs)) : Pl K H (.ref a) "tuple"
  | dK {a : Addr} {kvs : List (Key × V)} (e : H a = some (.dK kvs)) : Pl K H (.ref a) "dict"
theorem Pl.ty {K : PySem.W.Frag} {H : Hp} {v : V} {t : String} (h : Pl K H v t) : TyX K H v (.type t) := by
  cases h with
  | non => exact .base .non
  | bl b => exact .base (.bl b)
  | int i => exact .base (.int i)
  | str x => exact .base (.str x)
  | lst e => exact .base (.lst e)
  | tup e => exact .base (.tup e)
  | dK e => exact .base (.dK e)
theorem Pl.gx {K : PySem.W.Frag} {H H' : Hp} {v : V} {t : String} (e : Gx H H') (h : Pl K H v t) : Pl K H' v t := by
  cases h with
  | non => exact .non
  | bl b => exact .bl b
  | int i => exact .int i
  | str x => exact .str x
  | lst h => exact .lst (e _ _ h)
  | tup h => exact .tup (e _ _ h)
  | dK h => exact .dK (e _ _ h)
theorem Pl.names {K : PySem.W.Frag} {H : Hp} {v : V} {t : String} (h : Pl K H v t) : t ∈ ["NoneType", "bool", "int", "str", "list", "tuple", "dict"] := by
  cases h <;> decide

section
variable {X : Cx} {x : Str} {pos : Pos}
theorem pe_ty (n : String) (hg : Gl X x) (hm : X.mg x = none) (hv : bootBuiltins x = some (.type n)) (hn : x ≠ "__name__" := by decide) (hd : (x == ("__debug__" : Str)) = false := by decide) : PE X (.Name x pos) (tC (.ty n)) := pe_bltn hg hm hv rfl hn hd
theorem pe_gint {i : Int} {t : Tok} (hg : Gl X x) (hm : X.mg x = some (.int i t)) (hd : (x == ("__debug__" : Str)) = false := by decide) : PE X (.Name x pos) (tC (.int i)) := pe_glob hg hm ⟨t, rfl⟩ hd
theorem pe_gstr {i : Str} {t : Tok} (hg : Gl X x) (hm : X.mg x = some (.str i t)) (hd : (x == ("__debug__" : Str)) = false := by decide) : PE X (.Name x pos) (tC (.str i)) := pe_glob hg hm ⟨t, rfl⟩ hd
theorem pe_gref {a : Addr} (hg : Gl X x) (hm : X.mg x = some (.ref a)) (hd : (x == ("__debug__" : Str)) = false := by decide) : PE X (.Name x pos) (tC (.ref a)) := pe_glob hg hm rfl hd
end

/-! ### ints, new lists, drawn items -/
def IntT (P : Int → Prop) : Ty := fun v _ => ∃ i, v = .int i ∧ P i
def BlT (P : Bool → Prop) : Ty := fun v _ => ∃ b, v = .bl b ∧ P b
def EvN (te : TE) (σ : L2.St) (H : Hp) (Φ : Addr → Hp → Prop) : Prop := ∀ H1, Gx H H1 → ∀ Q : VK, (∀ p H2, Gx H1 H2 → H1 p = none → Φ p H2 → Q (.ref p) H2) → te σ H1 Q
section
variable {K : PySem.W.Frag} {σ : L2.St} {H H' : Hp} {te ta tb : TE} {tr : TA} {Φ Φ' : Ty} {v : V} {Q : VK}
theorem EvN.use {Φ : Addr → Hp → Prop} (h : EvN te σ H Φ) (k : ∀ p H2, Gx H H2 → H p = none → Φ p H2 → Q (.ref p) H2) : te σ H Q := h H (Gx.refl H) Q k
theorem EvN.g {Φ : Addr → Hp → Prop} (h : EvN te σ H Φ) (k : ∀ p H1 H2, Gx H H1 → H1 p = none → Gx H1 H2 → Φ p H2 → Φ' (.ref p) H2) : EvG te σ H Φ' := fun H1 e Q q => h H1 e Q fun p H2 e2 n f => q _ H2 e2 (k p H1 H2 e n e2 f)
theorem evg_I {P R : Int → Prop} {C : Int → Int → Prop} {g : Int → Int → V} (ha : EvG ta σ H (IntT P)) (hb : EvG tb σ H (IntT R)) (hc : ∀ i j, P i → R j → C i j) (m : ∀ i j, P i → R j → ∀ H1, Gx H H1 → Φ (g i j) H1) : EvG (tOp (rI C g) ta tb) σ H Φ := fun H1 e Q q =>
  ha H1 e _ fun _ H2 e2 ⟨i, z, p⟩ => hb H2 (e.trans e2) _ fun _ H3 e3 ⟨j, z2, r⟩ => ⟨i, j, z, z2, hc i j p r, q _ H3 (e2.trans e3) (m i j p r H3 ((e.trans e2).trans e3))⟩
theorem evg_I0 {P R : Int → Prop} {g : Int → Int → V} (ha : EvG ta σ H (IntT P)) (hb : EvG tb σ H (IntT R)) (m : ∀ i j, P i → R j → ∀ H1, Gx H H1 → Φ (g i j) H1) : EvG (tOp (rI0 g) ta tb) σ H Φ := fun H1 e Q q =>
  ha H1 e _ fun _ H2 e2 ⟨i, z, p⟩ => hb H2 (e.trans e2) _ fun _ H3 e3 ⟨j, z2, r⟩ => ⟨i, j, z, z2, q _ H3 (e2.trans e3) (m i j p r H3 ((e.trans e2).trans e3))⟩
theorem evg_U {P : Int → Prop} {g : Int → V} (ha : EvG ta σ H (IntT P)) (m : ∀ i, P i → ∀ H1, Gx H H1 → Φ (g i) H1) : EvG (tUn (rU g) ta) σ H Φ := fun H1 e Q q =>
  ha H1 e _ fun _ H2 e2 ⟨i, z, p⟩ => ⟨i, z, q _ H2 e2 (m i p H2 (e.trans e2))⟩
theorem evg_i (i : Int) : EvG (tC (.int i)) σ H (IntT fun j => j = i) := evg_c fun _ _ => ⟨i, rfl, rfl⟩
theorem evg_vi {n : Nat} {i : Int} (h : σ[n]? = some (some (.int i))) : EvG (tVar n) σ H (IntT fun j => j = i) := evg_var h fun _ _ => ⟨i, rfl, rfl⟩
theorem evn_lst {Ψ : List V → Hp → Prop} {Φ : Addr → Hp → Prop} (h : EvGs tr σ H Ψ) (hl : ∀ vs H1, Ψ vs H1 → vs.length ≤ 100000) (m : ∀ vs p H1 H2, Gx H H1 → Ψ vs H1 → Gx H1 H2 → H1 p = none → H2 p = some (.lst vs) → Φ p H2) : EvN (tLst tr) σ H Φ := fun H1 e Q q =>
  h H1 e _ fun vs H2 e2 g => ⟨Evl.sz_of (hl vs H2 g), fun p hp => q _ _ (e2.trans (Gx.new hp)) (e2.free hp) (m vs p H2 _ (e.trans e2) g (Gx.new hp) hp upd_same)⟩
theorem evn_tup {Ψ : List V → Hp → Prop} {Φ : Addr → Hp → Prop} (h : EvGs tr σ H Ψ) (hl : ∀ vs H1, Ψ vs H1 → vs.length ≤ 100000) (m : ∀ vs p H1 H2, Gx H H1 → Ψ vs H1 → Gx H1 H2 → H1 p = none → H2 p = some (.tup vs) → Φ p H2) : EvN (tTup tr) σ H Φ := fun H1 e Q q =>
  h H1 e _ fun vs H2 e2 g => ⟨Evl.sz_of (hl vs H2 g), fun p hp => q _ _ (e2.trans (Gx.new hp)) (e2.free hp) (m vs p H2 _ (e.trans e2) g (Gx.new hp) hp upd_same)⟩
/-- a list of things of one kind, at a place -/
def Lof (Φ : Ty) (n : Nat) : Addr → Hp → Prop := fun p H => ∃ xs, H p = some (.lst xs) ∧ AllT Φ n xs H
def LofT (Φ : Ty) (n : Nat) : Ty := fun v H => ∃ p, v = .ref p ∧ Lof Φ n p H
theorem Lof.mono {n : Nat} {p : Addr} (m : Mono Φ) (e : Gx H H') (h : Lof Φ n p H) : Lof Φ n p H' := by
  obtain ⟨xs, h1, h2⟩ := h
  exact ⟨xs, e _ _ h1, h2.mono m e⟩
theorem LofT.mono {n : Nat} (m : Mono Φ) : Mono (LofT Φ n) := fun _ _ _ e ⟨p, h1, h2⟩ => ⟨p, h1, h2.mono m e⟩
theorem evn_all {n : Nat} (m : Mono Φ) (h : EvGs tr σ H (AllT Φ n)) (hn : n ≤ 100000) : EvN (tLst tr) σ H (Lof Φ n) :=
  evn_lst h (fun vs _ g => by rw [g.1]; exact hn) fun vs p _ _ _ g e2 _ hp => ⟨vs, hp, g.mono m e2⟩
theorem evg_all {n : Nat} (m : Mono Φ) (h : EvGs tr σ H (AllT Φ n)) (hn : n ≤ 100000) : EvG (tLst tr) σ H (LofT Φ n) := (evn_all m h hn).g fun p _ _ _ _ _ f => ⟨p, rfl, f⟩
theorem evn_cat {n k : Nat} (m : Mono Φ) (ha : EvG ta σ H (LofT Φ n)) (hb : EvG tb σ H (LofT Φ k)) (hn : n + k ≤ 100000) : EvN (tOp rCat ta tb) σ H (Lof Φ (n + k)) := fun H1 e Q q =>
  ha H1 e _ fun _ H2 e2 ⟨a, z, fa⟩ => hb H2 (e.trans e2) _ fun _ H3 e3 ⟨b, z2, ys, h1, h2⟩ => by
    obtain ⟨xs, h3, h4⟩ := fa.mono m e3
    refine ⟨a, b, xs, ys, z, z2, h3, h1, Evl.sz_of (by rw [h4.1, h2.1]; exact hn), fun p hp => q p _ ((e2.trans e3).trans (Gx.new hp)) ((e2.trans e3).free hp) ⟨_, upd_same, ?_⟩⟩
    refine ⟨by rw [List.length_append, h4.1, h2.1], fun x hx => m _ _ _ (Gx.new hp) ?_⟩
    rcases List.mem_append.mp hx with hx | hx
    · exact h4.2 x hx
    · exact h2.2 x hx
end

/-! ### the promises of the dice's defs -/
def spDice0 (K : PySem.W.Frag) : Sp := fun vs H Q _ => ∃ (a : Addr) (ns : List Int) (n : Nat), vs = [.ref a, .int n] ∧ SqL K H a (ns.map V.int) ∧
  ∀ p x y z, H p = none → Q (.ref p) (upd H p (three x y z))
def spDice (K : PySem.W.Frag) : Sp := fun vs H Q _ => ∃ (a : Addr) (ns : List Int) (n : Nat), vs = [.ref a, .int n] ∧ SqL K H a (ns.map V.int) ∧
  ∀ p, H p = none → Q (.ref p) (upd H p (diceO p))
def spRoll0 : Sp := fun vs H Q _ => ∃ (p : Addr) (t a b c : Int), vs = [.ref p, .int t] ∧ 0 < t ∧ t < 1073741824 ∧ H p = some (three a b c) ∧
  ∀ r a' b' c', 0 ≤ r → r < t → Q (.int r) (upd H p (three a' b' c'))
def spRoll : Sp := fun vs H Q _ => ∃ (p : Addr) (t : Int), vs = [.ref p, .int t] ∧ 0 < t ∧ t < 1073741824 ∧ H p = some (diceO p) ∧ ∀ r, 0 ≤ r → r < t → Q (.int r) H
def spPick (K : PySem.W.Frag) : Sp := fun vs H Q _ => ∃ (p l : Addr) (xs : List V), vs = [.ref p, .ref l] ∧ H p = some (diceO p) ∧ SqL K H l xs ∧ 0 < xs.length ∧ xs.length < 1073741824 ∧ ∀ (j : Nat) x, xs[j]? = some x → Q x H
section
variable {K : PySem.W.Frag} {σ : L2.St} {H H' : Hp} {td tl : TE} {Φ : Ty} {p : Addr}
def DiceT : Ty := fun v H => ∃ p, v = .ref p ∧ H p = some (diceO p)
theorem DiceT.mono : Mono DiceT := fun _ _ _ e ⟨p, h1, h2⟩ => ⟨p, h1, e _ _ h2⟩
theorem evg_dice {i : Nat} (h : σ[i]? = some (some (.ref p))) (hp : H p = some (diceO p)) : EvG (tVar i) σ H DiceT := evg_var h fun _ e => ⟨p, rfl, e _ _ hp⟩
theorem evg_pick {n : Nat} (hd : EvG td σ H DiceT) (hl : EvG tl σ H (LofT Φ n)) (hn : 0 < n ∧ n ≤ 100000) : EvG (tCall (spPick K) [] E0 (tCons td (tCons tl tNil))) σ H Φ := fun H1 e Q q =>
  hd H1 e _ fun _ H2 e2 ⟨p, z, hp⟩ => hl H2 (e.trans e2) _ fun _ H3 e3 ⟨l, z2, xs, h1, h2⟩ => by
    subst z
    subst z2
    exact ⟨p, l, xs, rfl, e3 _ _ hp, SqL.of h1, by rw [h2.1]; exact hn.1, by rw [h2.1]; omega, fun j x hx => q x H3 (e2.trans e3) (h2.2 x (List.mem_of_getElem? hx))⟩
theorem evg_roll {R : Int → Prop} {tt : TE} (hd : EvG td σ H DiceT) (ht : EvG tt σ H (IntT R)) (hR : ∀ i, R i → 0 < i ∧ i ≤ 100000) (m : ∀ r i, R i → 0 ≤ r → r < i → ∀ H1, Gx H H1 → Φ (.int r) H1) : EvG (tCall spRoll [] E0 (tCons td (tCons tt tNil))) σ H Φ := fun H1 e Q q =>
  hd H1 e _ fun _ H2 e2 ⟨p, z, hp⟩ => ht H2 (e.trans e2) _ fun _ H3 e3 ⟨i, z2, hi⟩ => by
    subst z
    subst z2
    have h := hR i hi
    exact ⟨p, i, rfl, h.1, by omega, e3 _ _ hp, fun r h1 h2 => q _ H3 (e2.trans e3) (m r i hi h1 h2 H3 ((e.trans e2).trans e3))⟩
end

/-! ### statements -/
section
variable {K : PySem.W.Frag} {σ : L2.St} {H : Hp} {te tl : TE} {ta : TA} {tz tu tw tb : TS} {tt : TT} {D : Ends} {Φ : Ty} {i j : Nat}
theorem g_asg (h : EvG te σ H Φ) (k : ∀ v H1, Gx H H1 → Φ v H1 → tz D (σ.set i (some v)) H1) : tSeq (tAsg te (gName i)) tz D σ H := h H (Gx.refl H) _ fun v H1 e f => k v H1 e f
theorem g_asgN {Φ : Addr → Hp → Prop} (h : EvN te σ H Φ) (k : ∀ p H1, Gx H H1 → H p = none → Φ p H1 → tz D (σ.set i (some (.ref p))) H1) : tSeq (tAsg te (gName i)) tz D σ H := h H (Gx.refl H) _ fun v H1 e n f => k v H1 e n f
theorem g_par {Ψ : List V → Hp → Prop} (h : EvGs ta σ H Ψ) (k : ∀ vs H1, Gx H H1 → Ψ vs H1 → ∃ v w, vs = [v, w] ∧ tz D ((σ.set i (some v)).set j (some w)) H1) : tSeq (tPar i j ta) tz D σ H := h H (Gx.refl H) _ fun vs H1 e f => k vs H1 e f
theorem g_ret (h : EvG te σ H Φ) (k : ∀ v H1, Gx H H1 → Φ v H1 → D.rt v H1) : tRet te D σ H := h H (Gx.refl H) _ fun v H1 e f => k v H1 e f
theorem g_drop (h : EvG te σ H Φ) (k : ∀ v H1, Gx H H1 → Φ v H1 → tz D σ H1) : tSeq (tDrop te) tz D σ H := h H (Gx.refl H) _ fun v H1 e f => k v H1 e f
/-- a test -/
def EvB (tt : TT) (σ : L2.St) (H : Hp) (R : Bool → Prop) : Prop := ∀ H1, Gx H H1 → ∀ Q : Bool → Hp → Prop, (∀ b H2, Gx H1 H2 → R b → Q b H2) → tt σ H1 Q
theorem g_if {R : Bool → Prop} (h : EvB tt σ H R) (k1 : R true → ∀ H1, Gx H H1 → tu { D with nx := tz D } σ H1) (k2 : R false → ∀ H1, Gx H H1 → tw { D with nx := tz D } σ H1) : tSeq (tIfS tt tu tw) tz D σ H := h H (Gx.refl H) _ fun b H1 e f => by
  cases b with
  | true => exact iteT (k1 f H1 e)
  | false => exact iteF (k2 f H1 e)
theorem g_when {R : Bool → Prop} (h : EvB tt σ H R) (k1 : R true → ∀ H1, Gx H H1 → tu { D with nx := tz D } σ H1) (k2 : R false → ∀ H1, Gx H H1 → tz D σ H1) : tSeq (tIfS tt tu tNext) tz D σ H := g_if h k1 k2
theorem g_when1 {R : Bool → Prop} (h : EvB tt σ H R) (k1 : R true → ∀ H1, Gx H H1 → tu D σ H1) (k2 : R false → ∀ H1, Gx H H1 → D.nx σ H1) : tIfS tt tu tNext D σ H := h H (Gx.refl H) _ fun b H1 e f => by
  cases b with
  | true => exact iteT (k1 f H1 e)
  | false => exact iteF (k2 f H1 e)
theorem evb_test {R : Bool → Prop} (h : EvG te σ H (BlT R)) : EvB (tTest te) σ H R := fun H1 e Q q => h H1 e _ fun v H2 e2 ⟨b, z, r⟩ => ⟨b, z, q b H2 e2 r⟩
theorem evb_B {R : Bool → Prop} (h : EvG te σ H (BlT R)) : EvB (tB te) σ H R := fun H1 e Q q => h H1 e _ fun v H2 e2 ⟨b, z, r⟩ => ⟨b, z, q b H2 e2 r⟩
/-- for x in a new list of things of one kind; Pv is kept from turn to turn -/
theorem g_forN {n : Nat} (h : EvN tl σ H (Lof Φ n)) (Pv : Addr → List V → Nat → L2.St → Hp → Prop)
    (h0 : ∀ p xs H1, Gx H H1 → H p = none → H1 p = some (.lst xs) → AllT Φ n xs H1 → Pv p xs 0 σ H1) (hl : ∀ p xs i σ' H', Pv p xs i σ' H' → SqL K H' p xs)
    (hs : ∀ p xs i x σ' H', xs[i]? = some x → Pv p xs i σ' H' → tb { D with nx := Pv p xs (i + 1), ct := Pv p xs (i + 1), bk := fun σ H => tz D σ H } (σ'.set j (some x)) H')
    (hd : ∀ p xs σ' H', Pv p xs n σ' H' → tz D σ' H') : tSeq (tFor (iList K tl) (gName j) tb) tz D σ H := h H (Gx.refl H) _ fun p H1 e nw ⟨xs, h1, h2⟩ => by
  refine ⟨p, rfl, ⟨xs, SqL.of h1⟩, for_list (K := K) (a := p) (xs := xs) (D := { D with nx := tz D }) (Pv p xs) (h0 p xs H1 e nw h1 h2) (fun i σ H _ q => hl p xs i σ H q) (fun i x σ' H' hx q => hs p xs i x σ' H' hx q) fun σ' H' q => hd p xs σ' H' ?_⟩
  rw [h2.1] at q
  exact q
theorem g_forL {n : Nat} (h : EvG tl σ H (LofT Φ n)) (Pv : Addr → List V → Nat → L2.St → Hp → Prop)
    (h0 : ∀ p xs H1, Gx H H1 → H1 p = some (.lst xs) → AllT Φ n xs H1 → Pv p xs 0 σ H1) (hl : ∀ p xs i σ' H', Pv p xs i σ' H' → SqL K H' p xs)
    (hs : ∀ p xs i x σ' H', xs[i]? = some x → Pv p xs i σ' H' → tb { D with nx := Pv p xs (i + 1), ct := Pv p xs (i + 1), bk := fun σ H => tz D σ H } (σ'.set j (some x)) H')
    (hd : ∀ p xs σ' H', Pv p xs n σ' H' → tz D σ' H') : tSeq (tFor (iList K tl) (gName j) tb) tz D σ H := h H (Gx.refl H) _ fun v H1 e ⟨p, z, xs, h1, h2⟩ => by
  refine ⟨p, z, ⟨xs, SqL.of h1⟩, for_list (K := K) (a := p) (xs := xs) (D := { D with nx := tz D }) (Pv p xs) (h0 p xs H1 e h1 h2) (fun i σ H _ q => hl p xs i σ H q) (fun i x σ' H' hx q => hs p xs i x σ' H' hx q) fun σ' H' q => hd p xs σ' H' ?_⟩
  rw [h2.1] at q
  exact q
/-- for x in range(..) -/
theorem g_forR {R : Int → Prop} (h : EvGs ta σ H (fun vs _ => ∃ k, vs = [.int k] ∧ R k)) (hR : ∀ k, R k → 0 ≤ k ∧ k ≤ 1000000) (Pv : Nat → L2.St → Hp → Prop)
    (h0 : ∀ H1, Gx H H1 → Pv 0 σ H1)
    (hs : ∀ (i : Nat) σ' H', (∃ k, R k ∧ (i : Int) < k) → Pv i σ' H' → tb { D with nx := Pv (i + 1), ct := Pv (i + 1), bk := fun σ H => tz D σ H } (σ'.set j (some (.int i))) H')
    (hd : ∀ (i : Nat) σ' H', R i → Pv i σ' H' → tz D σ' H') : tSeq (tFor (iRng1 ta) (gName j) tb) tz D σ H := h H (Gx.refl H) _ fun vs H1 e ⟨k, z, r⟩ => by
  have hk := hR k r
  refine ⟨k, z, by omega, by omega, for_range (D := { D with nx := tz D }) Pv (h0 H1 e) (fun i σ' H' hi q => ?_) fun σ' H' q => hd k.toNat σ' H' (by rw [show ((k.toNat : Nat) : Int) = k by omega]; exact r) q⟩
  have := hs i σ' H' ⟨k, r, by omega⟩ q
  rw [show (0 : Int) + (i : Int) = (i : Int) by omega]
  exact this
theorem g_forR1 {R : Int → Prop} (h : EvGs ta σ H (fun vs _ => ∃ k, vs = [.int k] ∧ R k)) (hR : ∀ k, R k → 0 ≤ k ∧ k ≤ 1000000) (Pv : Nat → L2.St → Hp → Prop)
    (h0 : ∀ H1, Gx H H1 → Pv 0 σ H1)
    (hs : ∀ (i : Nat) σ' H', (∃ k, R k ∧ (i : Int) < k) → Pv i σ' H' → tb { D with nx := Pv (i + 1), ct := Pv (i + 1), bk := D.nx } (σ'.set j (some (.int i))) H')
    (hd : ∀ (i : Nat) σ' H', R i → Pv i σ' H' → D.nx σ' H') : tFor (iRng1 ta) (gName j) tb D σ H := h H (Gx.refl H) _ fun vs H1 e ⟨k, z, r⟩ => by
  have hk := hR k r
  refine ⟨k, z, by omega, by omega, for_range (D := D) Pv (h0 H1 e) (fun i σ' H' hi q => ?_) fun σ' H' q => hd k.toNat σ' H' (by rw [show ((k.toNat : Nat) : Int) = k by omega]; exact r) q⟩
  have := hs i σ' H' ⟨k, r, by omega⟩ q
  rw [show (0 : Int) + (i : Int) = (i : Int) by omega]
  exact this
end
end Ly

set_option Elab.async false
set_option maxRecDepth 100000
set_option maxHeartbeats 4000000
namespace K02
open PySem L2 Ly
def top (i : Nat) : Stmt := PySem.Challenge.pw_firstneed_k02_integers_judged.main.body.getD i (.Pass ⟨0, 0, 0, 0⟩)
structure Txt (K : PySem.W.Frag) (mg : Str → Option Value) : Prop where
  z_len : mg "len" = none
  z_int : mg "int" = none
  z_bool : mg "bool" = none
  z_abs : mg "abs" = none
  z_max : mg "max" = none
  z_min : mg "min" = none
  z_range : mg "range" = none
  z_repr : mg "repr" = none
  z_isinstance : mg "isinstance" = none
section
variable {P : Program} {w : World} {K : PySem.W.Frag} {mg : Str → Option Value} {base : Heap}

/-! ### dice -/
abbrev s_dice : Stmt := top 4
abbrev ps_dice : List Str := ["_law_script", "_law_spot"]
abbrev nm_dice : List Str := ["_law_script", "_law_spot", "_law_cell", "_law_great", "_law_blend"]
theorem sc_dice : FnScope nm_dice ["_law_script", "_law_spot"] (defScope s_dice) := ⟨rfl, rfl, rfl, by decide +kernel, rfl, by decide +kernel, by decide +kernel⟩
theorem ok_dice0 {f : Addr} {fd : FuncData} (F : Fun K "_law_dice" "_law_dice" s_dice f fd) (T : Txt K mg) : FnOk P w K mg base CX0 1 f fd ["_law_script", "_law_spot"] (spDice0 K) := by
  have nd := sc_dice.nd
  refine F.ok sc_dice (fun vs H Q E h => ?_) (fun cdv A outer s H vs Q E hr h => ?_)
  · obtain ⟨_, _, _, rfl, _⟩ := h
    rfl
  · obtain ⟨a, ns, n, rfl, hS, k⟩ := h
    refine ⟨_, (pss_cons (ps_set (i := 2) nd rfl (Or.inl rfl) (pe_op op_add (pe_op op_mul pe_int (pv 1)) pe_int))
      (Evl.pss_cut (ps_if (pt_cmpR op_lt (pv 1) (pe_callB call_len_seq (by rfl) T.z_len (by decide +kernel) (pa_cons (pv 0) pa_nil)) (nomark _)) (pss_one (ps_set (i := 2) nd rfl (Or.inl rfl) (pe_ix ix_list (pv 0) (pv 1) (fun _ _ => rfl)))) pss_nil)
      (pss_cons (ps_set (i := 3) nd rfl (Or.inl rfl) (pe_op op_mod (pe_callTy call_int1 (by rfl) T.z_int (by decide +kernel) (pa_cons (pe_callB call_abs (by rfl) T.z_abs (by decide +kernel) (pa_cons (pv 2) pa_nil)) pa_nil)) (pe_op op_powW (pe_op op_powW pe_int pe_int) pe_int)))
      (pss_cons (ps_set (i := 4) nd rfl (Or.inl rfl) (pe_op op_add (pe_op op_add (pe_op op_add (pe_op op_mul (pe_op op_mod (pe_callTy call_int1 (by rfl) T.z_int (by decide +kernel) (pa_cons (pv 3) pa_nil)) pe_int) pe_int) (pe_op op_mul pe_int (pv 1))) (pe_op op_mul pe_int (pe_callTy call_int1 (by rfl) T.z_int (by decide +kernel) (pa_cons (pe_cmpR op_lt (pv 2) pe_int (nomark _)) pa_nil)))) pe_int))
      (pss_one (ps_ret (pe_lst (pa_cons (pe_callB (call_max2 rfl) (by rfl) T.z_max (by decide +kernel) (pa_cons pe_int (pa_cons (pe_op op_sub (pv 3) (pe_op op_powW pe_int pe_int)) pa_nil))) (pa_cons (pe_op op_mod (pe_callTy call_int1 (by rfl) T.z_int (by decide +kernel) (pa_cons (pv 4) pa_nil)) pe_int) (pa_cons pe_int pa_nil)))))))))), ?_⟩
    -- cell = 53 * spot + 29
    refine ⟨_, rfl, _, _, rfl, rfl, Or.inl ⟨by decide, by decide⟩, _, _, rfl, rfl, ?_⟩
    -- if spot < len(script)
    refine ⟨fun σ H' => ∃ cell : Int, σ = [some (.ref a), some (.int n), some (.int cell), none, none] ∧ H' = H, ?_, ?_⟩
    · refine ⟨_, rfl, _, rfl, a, _, rfl, Or.inl hS, _, _, rfl, rfl, _, rfl, ite2 (fun hc => ?_) (fun hc => ?_)⟩
      · have hc : (n : Int) < ((ns.map V.int).length : Int) := of_decide_eq_true hc
        have hl : n < ns.length := by
          rw [List.length_map] at hc
          omega
        exact ⟨_, rfl, _, rfl, a, _, _, _, rfl, rfl, hS, atI_nat (v := .int ns[n]) (by simp [hl]), ns[n], rfl, rfl⟩
      · exact ⟨_, rfl, rfl⟩
    · rintro σ H' ⟨cell, rfl, rfl⟩
      -- great
      refine ⟨_, rfl, _, rfl, Or.inl ⟨_, rfl, _, _, rfl, rfl, ⟨by decide, by decide +kernel⟩, _, _, rfl, rfl, ⟨by decide, by decide +kernel⟩, _, _, rfl, rfl, by show (0 : Int) < _; decide +kernel, ?_⟩⟩
      -- blend
      refine ⟨_, rfl, Or.inl ⟨_, rfl, _, _, rfl, rfl, by show (0 : Int) < 2305843009213693723; decide, _, _, rfl, rfl, Or.inr ⟨by decide, by decide⟩, _, rfl, _, _, rfl, rfl, Or.inl ⟨by decide, by decide⟩, _, _, rfl, rfl, _, rfl, _, _, rfl, rfl, Or.inr ⟨_, rfl, _, _, rfl, rfl, Or.inl ⟨by decide, by decide⟩, _, _, rfl, rfl, _, _, rfl, rfl, ?_⟩⟩⟩
      -- return
      refine ⟨_, rfl, _, _, rfl, rfl, ⟨by decide, by decide +kernel⟩, _, _, rfl, rfl, _, _, rfl, _, rfl, Or.inl ⟨_, rfl, _, _, rfl, rfl, by show (0 : Int) < 2305843009213693723; decide, by show 3 ≤ sizeLine; decide, fun p hp => ?_⟩⟩
      exact k p _ _ _ hp
theorem ok_dice {f : Addr} {fd : FuncData} (F : Fun K "_law_dice" "_law_dice" s_dice f fd) (T : Txt K mg) : FnOk P w K mg base CX0 1 f fd ["_law_script", "_law_spot"] (spDice K) := by
  refine (fn_mkdice (ok_dice0 F T)).imp fun vs H Q E h => ?_
  obtain ⟨a, ns, n, rfl, hS, k⟩ := h
  refine ⟨a, ns, n, rfl, hS, fun p x y z hp => ⟨p, x, y, z, rfl, upd_same, ?_⟩⟩
  rw [upd_upd]
  exact k p hp

/-! ### roll -/
abbrev s_roll : Stmt := top 5
abbrev ps_roll : List Str := ["_law_dice_here", "_law_total"]
abbrev nm_roll : List Str := ["_law_dice_here", "_law_total", "_law_found", "_law_one", "_law_two"]
theorem sc_roll : FnScope nm_roll ["_law_dice_here", "_law_total"] (defScope s_roll) := ⟨rfl, rfl, rfl, by decide +kernel, rfl, by decide +kernel, by decide +kernel⟩
theorem ok_roll0 {f : Addr} {fd : FuncData} (F : Fun K "_law_roll" "_law_roll" s_roll f fd) (T : Txt K mg) : FnOk P w K mg base CX0 1 f fd ["_law_dice_here", "_law_total"] spRoll0 := by
  have nd := sc_roll.nd
  refine F.ok sc_roll (fun vs H Q E h => ?_) (fun cdv A outer s H vs Q E hr h => ?_)
  · obtain ⟨_, _, _, _, _, rfl, _⟩ := h
    rfl
  · obtain ⟨p, t, a, b, c, rfl, ht, ht2, hp, k⟩ := h
    refine ⟨_, (pss_cons (ps_if (pt_cmpR op_gt (pe_ix ix_list (pv 0) pe_int (fun _ _ => rfl)) pe_int (nomark _)) (pss_cons (ps_set (i := 2) nd rfl (Or.inl rfl) (pe_op op_mod (pe_callTy call_int1 (by rfl) T.z_int (by decide +kernel) (pa_cons (pe_ix ix_list (pv 0) pe_int (fun _ _ => rfl)) pa_nil)) (pv 1)))
      (pss_cons (ps_asg (pe_op op_fdiv (pe_ix ix_list (pv 0) pe_int (fun _ _ => rfl)) (pv 1)) (pg_sub (pv 0) pe_int set_list))
      (pss_one (ps_ret (pv 2))))) pss_nil)
      (pss_cons (ps_asg (pe_op op_add (pe_ix ix_list (pv 0) pe_int (fun _ _ => rfl)) pe_int) (pg_sub (pv 0) pe_int set_list))
      (pss_cons (ps_set (i := 3) nd rfl (Or.inl rfl) (pe_op op_mod (pe_callTy call_int1 (by rfl) T.z_int (by decide +kernel) (pa_cons (pe_op op_add (pe_ix ix_list (pv 0) pe_int (fun _ _ => rfl)) (pe_op op_mul pe_int (pe_ix ix_list (pv 0) pe_int (fun _ _ => rfl)))) pa_nil)) pe_int))
      (pss_cons (ps_set (i := 4) nd rfl (Or.inl rfl) (pe_op op_add (pe_op op_mul (pe_op op_mod (pe_callTy call_int1 (by rfl) T.z_int (by decide +kernel) (pa_cons (pe_op op_mul (pv 3) (pv 3)) pa_nil)) pe_int) (pv 3)) (pe_op op_mul pe_int (pe_ix ix_list (pv 0) pe_int (fun _ _ => rfl)))))
      (pss_cons (ps_set (i := 4) nd rfl (Or.inl rfl) (pe_op op_mod (pe_callTy call_int1 (by rfl) T.z_int (by decide +kernel) (pa_cons (pv 4) pa_nil)) pe_int))
      (pss_one (ps_ret (pe_op op_mod (pe_callTy call_int1 (by rfl) T.z_int (by decide +kernel) (pa_cons (pe_op op_fdiv (pv 4) pe_int) pa_nil)) (pv 1))))))))), ?_⟩
    have hL : SqL K H p [.int a, .int b, .int c] := SqL.of hp
    have h0 : (0 : Int) < 2305843009213693951 := by decide
    have h1 : (0 : Int) < 2305843009213693921 := by decide
    have h2 : (0 : Int) < 2305843009213693723 := by decide
    have hnn : ∀ x : Int, 0 ≤ x % t := fun x => Int.emod_nonneg _ (by omega)
    have hlt : ∀ x : Int, x % t < t := fun x => Int.emod_lt_of_pos _ ht
    refine ⟨_, rfl, p, _, _, _, rfl, rfl, hL, rfl, _, _, rfl, rfl, _, rfl, ite2 (fun _ => ?_) (fun _ => ?_)⟩
    · refine ⟨_, rfl, p, _, _, _, rfl, rfl, hL, rfl, Or.inl ⟨_, rfl, _, rfl, _, _, rfl, rfl, ht, ?_⟩⟩
      refine ⟨_, rfl, p, _, _, _, rfl, rfl, hL, rfl, _, rfl, _, _, rfl, rfl, ⟨ht, ht2⟩, _, rfl, p, _, _, _, rfl, rfl, hp, rfl, ?_⟩
      exact ⟨_, rfl, k _ _ _ _ (hnn _) (hlt _)⟩
    · refine ⟨_, rfl, p, _, _, _, rfl, rfl, hL, rfl, _, _, rfl, rfl, _, rfl, p, _, _, _, rfl, rfl, hp, rfl, ?_⟩
      have hL2 : SqL K (upd H p (.lst ([.int a, .int b, .int c].set 2 (.int (c + 1))))) p [.int a, .int b, .int (c + 1)] := SqL.of upd_same
      refine ⟨_, rfl, p, _, _, _, rfl, rfl, hL2, rfl, _, rfl, p, _, _, _, rfl, rfl, hL2, rfl, _, _, rfl, rfl, Or.inl ⟨by decide, by decide⟩, _, _, rfl, rfl, Or.inl ⟨_, rfl, _, _, rfl, rfl, h0, ?_⟩⟩
      have hone : ∀ x : Int, -(2 ^ 64) < x % 2305843009213693951 ∧ x % 2305843009213693951 < 2 ^ 64 := fun x => ⟨by have := Int.emod_nonneg x (b := 2305843009213693951) (by decide); omega, by have := Int.emod_lt_of_pos x h0; omega⟩
      refine ⟨_, rfl, _, rfl, _, _, rfl, rfl, Or.inl (hone _), Or.inl ⟨_, rfl, _, _, rfl, rfl, h1, _, rfl, _, _, rfl, rfl, Or.inr (hone _), _, rfl, p, _, _, _, rfl, rfl, hL2, rfl, _, _, rfl, rfl, Or.inl ⟨by decide, by decide⟩, _, _, rfl, rfl, ?_⟩⟩
      refine ⟨_, rfl, Or.inl ⟨_, rfl, _, _, rfl, rfl, h2, ?_⟩⟩
      refine ⟨_, rfl, _, _, rfl, rfl, ⟨by decide, by decide⟩, Or.inl ⟨_, rfl, _, rfl, _, _, rfl, rfl, ht, ?_⟩⟩
      exact k _ _ _ _ (hnn _) (hlt _)
theorem ok_roll {f : Addr} {fd : FuncData} (F : Fun K "_law_roll" "_law_roll" s_roll f fd) (T : Txt K mg) : FnOk P w K mg base CX0 1 f fd ["_law_dice_here", "_law_total"] spRoll := by
  refine (fn_dice (ok_roll0 F T)).imp fun vs H Q E h => ?_
  obtain ⟨p, t, rfl, h1, h2, hp, k⟩ := h
  refine ⟨rfl, p, hp, fun a b c => ⟨p, t, a, b, c, rfl, h1, h2, upd_same, fun r a' b' c' h3 h4 => ⟨⟨a', b', c', upd_same⟩, ?_⟩⟩⟩
  rw [upd_upd, upd_upd, upd_id hp]
  exact k r h3 h4

/-! ### pick -/
abbrev s_pick : Stmt := top 6
abbrev ps_pick : List Str := ["_law_dice_here", "_law_items"]
abbrev nm_pick : List Str := ["_law_dice_here", "_law_items"]
theorem sc_pick : FnScope nm_pick ["_law_dice_here", "_law_items"] (defScope s_pick) := ⟨rfl, rfl, rfl, by decide +kernel, rfl, by decide +kernel, by decide +kernel⟩
theorem ok_pick {f : Addr} {fd : FuncData} (F : Fun K "_law_pick" "_law_pick" s_pick f fd) (T : Txt K mg) (C_roll : Cal P w K mg base "_law_roll" 1 ["_law_dice_here", "_law_total"] spRoll) : FnOk P w K mg base CX0 2 f fd ["_law_dice_here", "_law_items"] (spPick K) := by
  refine F.ok sc_pick (fun vs H Q E h => ?_) (fun cdv A outer s H vs Q E hr h => ?_)
  · obtain ⟨_, _, _, rfl, _⟩ := h
    rfl
  · obtain ⟨p, l, xs, rfl, hp, hl, h1, h2, k⟩ := h
    refine ⟨_, (pss_one (ps_ret (pe_ix ix_list (pv 1) (pe_cal C_roll (hr.mono (by decide)) rfl (pa_cons (pv 0) (pa_cons (pe_callB call_len_seq (by rfl) T.z_len (by decide +kernel) (pa_cons (pv 1) pa_nil)) pa_nil))) (fun _ _ => rfl)))), ?_⟩
    refine ⟨_, rfl, _, rfl, _, rfl, l, _, rfl, Or.inl hl, p, _, rfl, by omega, by omega, hp, fun r h3 h4 => ?_⟩
    have e : r = (r.toNat : Int) := by omega
    have hx : xs[r.toNat]? = some (xs[r.toNat]'(by omega)) := by simp
    exact ⟨l, _, _, _, rfl, rfl, hl, at_of e hx, k _ _ hx⟩
end
end K02

set_option Elab.async false
set_option maxRecDepth 100000
set_option maxHeartbeats 4000000
namespace K02
open PySem L2 Ly
section
variable {P : Program} {w : World} {K : PySem.W.Frag} {mg : Str → Option Value} {base : Heap}
/-! ### is_integer -/
def isI : V → Bool
  | .int i => decide (-(10 ^ 60) < i) && decide (i < 10 ^ 60)
  | _ => false
abbrev s_is_integer : Stmt := top 2
abbrev ps_is_integer : List Str := ["value"]
theorem sc_is_integer : FnScope ["value"] ["value"] (defScope s_is_integer) := ⟨rfl, rfl, rfl, by decide +kernel, rfl, by decide +kernel, by decide +kernel⟩
def spIsInt (K : PySem.W.Frag) : Sp := fun vs H Q _ => ∃ x t, vs = [x] ∧ Pl K H x t ∧ Q (.bl (isI x)) H
theorem ok_isint {f : Addr} {fd : FuncData} (F : Fun K "is_integer" "is_integer" s_is_integer f fd) (T : Txt K mg) {tL : Tok} (g_LONGEST : mg "LONGEST" = some (.int (10 ^ 60) tL)) : FnOk P w K mg base CX0 1 f fd ["value"] (spIsInt K) := by
  have nd := sc_is_integer.nd
  refine F.ok sc_is_integer (fun vs H Q E h => ?_) (fun cdv A outer s H vs Q E hr h => ?_)
  · obtain ⟨_, _, rfl, _⟩ := h
    rfl
  · obtain ⟨x, t, rfl, hx, k⟩ := h
    refine ⟨_, (pss_one (ps_ret (pe_and (pe_callB call_isi (by rfl) T.z_isinstance (by decide +kernel) (pa_cons (pv 0) (pa_cons (pe_ty "int" (by rfl) T.z_int (by decide +kernel)) pa_nil))) (pe_and (pe_not (pe_callB call_isi (by rfl) T.z_isinstance (by decide +kernel) (pa_cons (pv 0) (pa_cons (pe_ty "bool" (by rfl) T.z_bool (by decide +kernel)) pa_nil)))) (pe_one (pe_chain op_lt op_lt (pe_un un_neg (pe_gint rfl g_LONGEST)) (pv 0) (pe_gint rfl g_LONGEST))))))), ?_⟩
    have hy := hx.ty
    cases hx with
    | int i =>
      refine ⟨_, rfl, _, _, _, _, _, rfl, ClsV.ty _, hy, kit_ty (r := true) (by decide +kernel), _, rfl, iteT ?_⟩
      refine ⟨_, rfl, _, _, _, _, _, rfl, ClsV.ty _, hy, kit_ty (r := false) (by decide +kernel), _, rfl, _, rfl, iteT ?_⟩
      refine ⟨_, rfl, _, rfl, _, _, rfl, rfl, _, rfl, ?_⟩
      have k : Q (.bl (decide (-(10 ^ 60) < i) && decide (i < 10 ^ 60))) H := k
      by_cases h1 : -(10 ^ 60) < i
      · rw [decide_eq_true h1] at k ⊢
        refine iteT ⟨_, _, rfl, rfl, ?_⟩
        exact k
      · rw [decide_eq_false h1] at k ⊢
        exact iteF k
    | bl b =>
      refine ⟨_, rfl, _, _, _, _, _, rfl, ClsV.ty _, hy, kit_ty (r := true) (by decide +kernel), _, rfl, iteT ?_⟩
      refine ⟨_, rfl, _, _, _, _, _, rfl, ClsV.ty _, hy, kit_ty (r := true) (by decide +kernel), _, rfl, _, rfl, iteF ?_⟩
      exact k
    | non => exact ⟨_, rfl, _, _, _, _, _, rfl, ClsV.ty _, hy, kit_ty (r := false) (by decide +kernel), _, rfl, iteF k⟩
    | str x => exact ⟨_, rfl, _, _, _, _, _, rfl, ClsV.ty _, hy, kit_ty (r := false) (by decide +kernel), _, rfl, iteF k⟩
    | lst e => exact ⟨_, rfl, _, _, _, _, _, rfl, ClsV.ty _, hy, kit_ty (r := false) (by decide +kernel), _, rfl, iteF k⟩
    | tup e => exact ⟨_, rfl, _, _, _, _, _, rfl, ClsV.ty _, hy, kit_ty (r := false) (by decide +kernel), _, rfl, iteF k⟩
    | dK e => exact ⟨_, rfl, _, _, _, _, _, rfl, ClsV.ty _, hy, kit_ty (r := false) (by decide +kernel), _, rfl, iteF k⟩

/-! ### row -/
/-- a pair of a value and what is due -/
def Pair (K : PySem.W.Frag) : Ty := fun v H => ∃ p x t, v = .ref p ∧ H p = some (.tup [x, .bl (isI x)]) ∧ Pl K H x t
theorem Pair.mono : Mono (Pair K) := fun _ _ _ e ⟨p, x, t, h1, h2, h3⟩ => ⟨p, x, t, h1, e _ _ h2, h3.gx e⟩
/-- a value that is no int -/
def Odd (K : PySem.W.Frag) : Ty := fun v H => ∃ t, Pl K H v t ∧ isI v = false
theorem Odd.mono : Mono (Odd K) := fun _ _ _ e ⟨t, h, i⟩ => ⟨t, h.gx e, i⟩
theorem evg_pair {σ : L2.St} {H : Hp} {te : TE} {b : Bool} (h : EvG te σ H (fun v H => ∃ t, Pl K H v t ∧ isI v = b)) : EvG (tTup (tCons te (tCons (tC (.bl b)) tNil))) σ H (Pair K) :=
  evg_tup (Ψ := fun vs H => ∃ x t, vs = [x, .bl (isI x)] ∧ Pl K H x t) (evgs_cons h fun v H1 e ⟨t, p, i⟩ => evgs_cons (Φ := fun v _ => v = .bl b) (evg_c fun _ _ => rfl) fun v2 H2 e2 q => evgs_nil fun H3 e3 => ⟨v, t, by rw [q, i], p.gx (e2.trans e3)⟩)
    (fun vs H1 ⟨x, t, q, _⟩ => by rw [q]; show 2 ≤ _; decide) fun vs p H1 H2 ⟨x, t, q, z⟩ e _ hp => ⟨p, x, t, rfl, by rw [← q]; exact hp, z.gx e⟩
end
end K02

set_option Elab.async false
set_option maxRecDepth 100000
set_option maxHeartbeats 1000000
namespace K02
open PySem L2 Ly
section
variable {P : Program} {w : World} {K : PySem.W.Frag} {mg : Str → Option Value} {base : Heap}
theorem Pl.put {H : Hp} {v : V} {t : String} {p : Addr} {xs ys : List V} (h : Pl K H v t) (hp : H p = some (.lst xs)) : Pl K (upd H p (.lst ys)) v t := by
  cases h with
  | non => exact .non
  | bl b => exact .bl b
  | int i => exact .int i
  | str x => exact .str x
  | @lst a zs e =>
    by_cases q : a = p
    · subst q
      exact .lst upd_same
    · exact .lst (by rw [upd_ne q]; exact e)
  | @tup a zs e => exact .tup (by rw [upd_ne (ne_of e hp (by intro z; cases z))]; exact e)
  | @dK a zs e => exact .dK (by rw [upd_ne (ne_of e hp (by intro z; cases z))]; exact e)
theorem Pair.put {H : Hp} {v : V} {p : Addr} {xs ys : List V} (h : Pair K v H) (hp : H p = some (.lst xs)) : Pair K v (upd H p (.lst ys)) := by
  obtain ⟨q, x, t, h1, h2, h3⟩ := h
  exact ⟨q, x, t, h1, by rw [upd_ne (ne_of h2 hp (by intro z; cases z))]; exact h2, Pl.put h3 hp⟩
theorem Odd.put {H : Hp} {v : V} {p : Addr} {xs ys : List V} (h : Odd K v H) (hp : H p = some (.lst xs)) : Odd K v (upd H p (.lst ys)) := ⟨h.choose, Pl.put h.choose_spec.1 hp, h.choose_spec.2⟩

abbrev s_row : Stmt := top 7
abbrev nm_row : List Str := ["_law_dice_here", "_law_size", "_law_small", "_law_some", "_law_odd"]
abbrev ps_row : List Str := ["_law_dice_here"]
theorem sc_row : FnScope nm_row ps_row (defScope s_row) := ⟨rfl, rfl, rfl, by decide +kernel, rfl, by decide +kernel, by decide +kernel⟩
def spRow (K : PySem.W.Frag) : Sp := fun vs H Q _ => ∃ p, vs = [.ref p] ∧ H p = some (diceO p) ∧ ∀ v H', Gx H H' → Pair K v H' → Q v H'
def P1 (i : Int) : Prop := -(10 ^ 60) < i ∧ i < 10 ^ 60
def P2 (i : Int) : Prop := 0 ≤ i ∧ i ≤ 199
theorem isI_of {i : Int} (h : -(10 ^ 60) < i ∧ i < 10 ^ 60) : isI (.int i) = true := by
  show (decide _ && decide _) = true
  rw [decide_eq_true h.1, decide_eq_true h.2]
  rfl
theorem isI_not {i : Int} (h : ¬ (-(10 ^ 60) < i ∧ i < 10 ^ 60)) : isI (.int i) = false := by
  show (decide _ && decide _) = false
  by_cases h1 : -(10 ^ 60) < i
  · rw [decide_eq_true h1, decide_eq_false (fun h2 => h ⟨h1, h2⟩)]
    rfl
  · rw [decide_eq_false h1]
    rfl
theorem intI {σ : L2.St} {H : Hp} {te : TE} {R : Int → Prop} {b : Bool} (h : EvG te σ H (IntT R)) (hb : ∀ i, R i → isI (.int i) = b) : EvG te σ H (fun v H => ∃ t, Pl K H v t ∧ isI v = b) :=
  h.imp fun v H2 _ ⟨i, z, r⟩ => ⟨"int", by rw [z]; exact .int i, by rw [z]; exact hb i r⟩
theorem pow_c {σ : L2.St} {H : Hp} {j : Int} {P : Int → Prop} (hj : CPowW 10 j) (hP : P (10 ^ j.toNat)) : EvG (tOp (rI CPowW fun i j => .int (i ^ j.toNat)) (tC (.int 10)) (tC (.int j))) σ H (IntT P) :=
  evg_I (evg_i 10) (evg_i j) (fun a b h1 h2 => by rw [h1, h2]; exact hj) fun a b h1 h2 _ _ => ⟨_, rfl, by rw [h1, h2]; exact hP⟩
theorem addE {σ : L2.St} {H : Hp} {ta tb : TE} {a b : Int} (ha : EvG ta σ H (IntT fun i => i = a)) (hb : EvG tb σ H (IntT fun i => i = b)) : EvG (tOp (rI0 fun i j => .int (i + j)) ta tb) σ H (IntT fun i => i = a + b) :=
  evg_I0 ha hb fun i j h1 h2 _ _ => ⟨_, rfl, by rw [h1, h2]⟩
theorem subE {σ : L2.St} {H : Hp} {ta tb : TE} {a b : Int} (ha : EvG ta σ H (IntT fun i => i = a)) (hb : EvG tb σ H (IntT fun i => i = b)) : EvG (tOp (rI0 fun i j => .int (i - j)) ta tb) σ H (IntT fun i => i = a - b) :=
  evg_I0 ha hb fun i j h1 h2 _ _ => ⟨_, rfl, by rw [h1, h2]⟩
theorem negE {σ : L2.St} {H : Hp} {ta : TE} {a : Int} (ha : EvG ta σ H (IntT fun i => i = a)) : EvG (tUn (rU fun i => .int (-i)) ta) σ H (IntT fun i => i = -a) :=
  evg_U ha fun i h1 _ _ => ⟨_, rfl, by rw [h1]⟩
theorem powE {σ : L2.St} {H : Hp} : EvG (tOp (rI CPowW fun i j => .int (i ^ j.toNat)) (tC (.int 10)) (tC (.int 60))) σ H (IntT fun i => i = 10 ^ 60) := pow_c ⟨by decide, by decide +kernel⟩ (by decide +kernel)
theorem prE {σ : L2.St} {H : Hp} {te : TE} {a : Int} {b : Bool} (h : EvG te σ H (IntT fun i => i = a)) (hb : isI (.int a) = b) : EvG (tTup (tCons te (tCons (tC (.bl b)) tNil))) σ H (Pair K) :=
  evg_pair (intI h fun i h => by rw [h]; exact hb)
theorem IntT.mono {P : Int → Prop} : Mono (IntT P) := fun _ _ _ _ h => h
theorem ok_row {f : Addr} {fd : FuncData} (F : Fun K "_law_row" "_law_row" s_row f fd) (C_pick : Cal P w K mg base "_law_pick" 2 ["_law_dice_here", "_law_items"] (spPick K)) : FnOk P w K mg base CX0 3 f fd ["_law_dice_here"] (spRow K) := by
  have nd := sc_row.nd
  refine F.ok sc_row (fun vs H Q E h => ?_) (fun cdv A outer s H vs Q E hr h => ?_)
  · obtain ⟨_, rfl, _⟩ := h
    rfl
  · obtain ⟨d, rfl, hd, k⟩ := h
    refine ⟨_, (pss_cons (ps_par (i := 1) (j := 2) (by rfl) nd rfl rfl (by decide) rfl rfl (pa_cons (pe_cal C_pick (hr.mono (by decide)) rfl (pa_cons (pv 0) (pa_cons (pe_lst (pa_cons (pe_op op_powW pe_int pe_int) (pa_cons (pe_op op_sub (pe_op op_powW pe_int pe_int) pe_int) (pa_cons pe_int (pa_cons pe_int (pa_cons (pe_op op_powW pe_int pe_int) pa_nil)))))) pa_nil))) (pa_cons (pe_cal C_pick (hr.mono (by decide)) rfl (pa_cons (pv 0) (pa_cons (pe_lst (pa_cons pe_int (pa_cons pe_int (pa_cons pe_int (pa_cons pe_int (pa_cons pe_int pa_nil)))))) pa_nil))) pa_nil)) (by rfl))
      (pss_cons (ps_set (i := 3) nd rfl (Or.inl rfl) (pe_lst (pa_cons (pe_tup (pa_cons (pv 1) (pa_cons pe_bl pa_nil))) (pa_cons (pe_tup (pa_cons (pe_un un_neg (pv 1)) (pa_cons pe_bl pa_nil))) (pa_cons (pe_tup (pa_cons (pe_op op_add (pe_op op_powW pe_int pe_int) (pv 2)) (pa_cons pe_bl pa_nil))) (pa_cons (pe_tup (pa_cons (pv 2) (pa_cons pe_bl pa_nil))) (pa_cons (pe_tup (pa_cons (pe_op op_sub (pe_un un_neg pe_int) (pv 2)) (pa_cons pe_bl pa_nil))) pa_nil)))))))
      (pss_cons (ps_set (i := 3) nd rfl (Or.inl rfl) (pe_op op_cat (pv 3) (pe_lst (pa_cons (pe_tup (pa_cons (pe_op op_sub (pe_un un_neg (pe_op op_powW pe_int pe_int)) (pv 2)) (pa_cons pe_bl pa_nil))) (pa_cons (pe_tup (pa_cons (pe_cmpR op_eq (pv 2) pe_int (nomark _)) (pa_cons pe_bl pa_nil))) pa_nil)))))
      (pss_cons (ps_for PassesOwn.never rfl (pi_list (pe_lst (pa_cons pe_non (pa_cons pe_str (pa_cons pe_str (pa_cons (pe_tup (pa_cons pe_int pa_nil)) (pa_cons (pe_lst pa_nil) (pa_cons pe_dnewK (pa_cons (pe_tup pa_nil) (pa_cons (pe_lst (pa_cons (pv 2) pa_nil)) (pa_cons (pe_tup (pa_cons (pv 2) pa_nil)) (pa_cons pe_str pa_nil)))))))))))) (pg_name (i := 4) nd rfl (Or.inl rfl)) (pss_one (ps_expr (pe_bm PySem.F.plainAttrs_list PySem.F.slot_list_append PySem.F.type_list_append mt_append (pv 3) (pa_cons (pe_tup (pa_cons (pv 4) (pa_cons pe_bl pa_nil))) pa_nil)))))
      (pss_one (ps_ret (pe_cal C_pick (hr.mono (by decide)) rfl (pa_cons (pv 0) (pa_cons (pv 3) pa_nil))))))))), ?_⟩
    -- size, small
    refine g_par (Ψ := fun vs _ => ∃ a b, vs = [.int a, .int b] ∧ P1 a ∧ P2 b) (evgs_cons (Φ := IntT P1) (evg_pick (evg_dice rfl hd) (evg_all IntT.mono (n := 5) (evgs_more IntT.mono (pow_c ⟨by decide, by decide +kernel⟩ (by unfold P1; decide +kernel)) fun _ _ =>
      evgs_more IntT.mono (evg_I0 (pow_c (P := fun i => i = 10 ^ 60) ⟨by decide, by decide +kernel⟩ (by decide +kernel)) (evg_i 1) fun i j h1 h2 _ _ => ⟨_, rfl, by rw [h1, h2]; unfold P1; decide +kernel⟩) fun _ _ =>
      evgs_more IntT.mono (evg_c fun _ _ => ⟨_, rfl, by unfold P1; decide +kernel⟩) fun _ _ => evgs_more IntT.mono (evg_c fun _ _ => ⟨_, rfl, by unfold P1; decide +kernel⟩) fun _ _ =>
      evgs_more IntT.mono (pow_c ⟨by decide, by decide +kernel⟩ (by unfold P1; decide +kernel)) fun _ _ => evgs_none) (by decide)) (by decide))
      fun v1 H1 e1 ⟨a, z1, pa⟩ => evgs_cons (Φ := IntT P2) (evg_pick (evg_dice rfl (e1 _ _ hd)) (evg_all IntT.mono (n := 5) (
        evgs_more IntT.mono (evg_c fun _ _ => ⟨_, rfl, by unfold P2; decide⟩) fun _ _ => evgs_more IntT.mono (evg_c fun _ _ => ⟨_, rfl, by unfold P2; decide⟩) fun _ _ =>
        evgs_more IntT.mono (evg_c fun _ _ => ⟨_, rfl, by unfold P2; decide⟩) fun _ _ => evgs_more IntT.mono (evg_c fun _ _ => ⟨_, rfl, by unfold P2; decide⟩) fun _ _ =>
        evgs_more IntT.mono (evg_c fun _ _ => ⟨_, rfl, by unfold P2; decide⟩) fun _ _ => evgs_none) (by decide)) (by decide))
      fun v2 H2 e2 ⟨b, z2, pb⟩ => evgs_nil fun _ _ => ⟨a, b, by rw [z1, z2], pa, pb⟩) ?_
    rintro vs H1 e1 ⟨a, b, rfl, ha, hb⟩
    refine ⟨_, _, rfl, ?_⟩
    have hna : P1 (-a) := by
      obtain ⟨h1, h2⟩ := ha
      exact ⟨by omega, by omega⟩
    unfold P2 at hb
    have ia : isI (.int a) = true := isI_of ha
    have ina : isI (.int (-a)) = true := isI_of hna
    have i3 : isI (.int (10 ^ 60 + b)) = false := isI_not (by omega)
    have i4 : isI (.int b) = true := isI_of ⟨by omega, by omega⟩
    have i5 : isI (.int (-1 - b)) = true := isI_of ⟨by omega, by omega⟩
    have i6 : isI (.int (-(10 ^ 60) - b)) = false := isI_not (by omega)
    -- some
    refine g_asg (Φ := LofT (Pair K) 5) (evg_all Pair.mono (evgs_more Pair.mono (prE (evg_vi rfl) ia) fun _ _ =>
      evgs_more Pair.mono (prE (negE (evg_vi rfl)) ina) fun _ _ =>
      evgs_more Pair.mono (prE (addE powE (evg_vi rfl)) i3) fun _ _ =>
      evgs_more Pair.mono (prE (evg_vi rfl) i4) fun _ _ =>
      evgs_more Pair.mono (prE (subE (negE (evg_i 1)) (evg_vi rfl)) i5) fun _ _ => evgs_none) (by decide)) ?_
    rintro v2 H2 e2 ⟨l2, rfl, g2⟩
    -- some = some + ..
    refine g_asgN (Φ := Lof (Pair K) 7) (evn_cat Pair.mono (n := 5) (k := 2) (evg_var rfl fun _ e => ⟨l2, rfl, g2.mono Pair.mono e⟩) (evg_all Pair.mono (evgs_more Pair.mono (prE (subE (negE powE) (evg_vi rfl)) i6) fun _ _ =>
      evgs_more Pair.mono (evg_pair ?_) fun _ _ => evgs_none) (by decide)) (by decide)) ?_
    · intro H1 _ Q q
      exact ⟨_, rfl, rfl, q _ H1 (Gx.refl _) ⟨_, .bl _, rfl⟩⟩
    rintro p H3 e3 n3 ⟨xs, h3, g3⟩
    have e03 : Gx H H3 := (e1.trans e2).trans e3
    have np : H p = none := (e1.trans e2).free n3
    -- for odd in ..
    refine g_forN (Φ := Odd K) (n := 10) (evn_all Odd.mono (evgs_more Odd.mono (evg_c fun _ _ => ⟨_, .non, rfl⟩) fun _ _ => evgs_more Odd.mono (evg_c fun _ _ => ⟨_, .str _, rfl⟩) fun _ _ => evgs_more Odd.mono (evg_c fun _ _ => ⟨_, .str _, rfl⟩) fun _ _ =>
      evgs_more Odd.mono (evg_tup (Ψ := fun vs _ => vs.length ≤ 1) (evgs_cons (Φ := fun _ _ => True) (evg_c fun _ _ => trivial) fun _ _ _ _ => evgs_nil fun _ _ => Nat.le_refl 1) (fun _ _ h => Nat.le_trans h (by decide)) fun _ _ _ _ _ _ _ hp => ⟨_, .tup hp, rfl⟩) fun _ _ =>
      evgs_more Odd.mono (evg_lst (Ψ := fun vs _ => vs.length ≤ 1) (evgs_nil fun _ _ => Nat.zero_le 1) (fun _ _ h => Nat.le_trans h (by decide)) fun _ _ _ _ _ _ _ hp => ⟨_, .lst hp, rfl⟩) fun _ _ =>
      evgs_more Odd.mono ?_ fun _ _ =>
      evgs_more Odd.mono (evg_tup (Ψ := fun vs _ => vs.length ≤ 1) (evgs_nil fun _ _ => Nat.zero_le 1) (fun _ _ h => Nat.le_trans h (by decide)) fun _ _ _ _ _ _ _ hp => ⟨_, .tup hp, rfl⟩) fun _ _ =>
      evgs_more Odd.mono (evg_lst (Ψ := fun vs _ => vs.length ≤ 1) (evgs_cons (Φ := fun _ _ => True) (evg_var rfl fun _ _ => trivial) fun _ _ _ _ => evgs_nil fun _ _ => Nat.le_refl 1) (fun _ _ h => Nat.le_trans h (by decide)) fun _ _ _ _ _ _ _ hp => ⟨_, .lst hp, rfl⟩) fun _ _ =>
      evgs_more Odd.mono (evg_tup (Ψ := fun vs _ => vs.length ≤ 1) (evgs_cons (Φ := fun _ _ => True) (evg_var rfl fun _ _ => trivial) fun _ _ _ _ => evgs_nil fun _ _ => Nat.le_refl 1) (fun _ _ h => Nat.le_trans h (by decide)) fun _ _ _ _ _ _ _ hp => ⟨_, .tup hp, rfl⟩) fun _ _ =>
      evgs_more Odd.mono (evg_c fun _ _ => ⟨_, .str _, rfl⟩) fun _ _ => evgs_none) (by decide))
      (fun l os i σ' H' => ∃ ys o, σ' = [some (.ref d), some (.int a), some (.int b), some (.ref p), o] ∧ Gx H H' ∧ H' p = some (.lst ys) ∧ AllT (Pair K) (7 + i) ys H' ∧ l ≠ p ∧ H' l = some (.lst os) ∧ AllT (Odd K) 10 os H') ?_ ?_ ?_ ?_
    · intro H1 _ Q q d hd
      exact q _ _ (Gx.new hd) ⟨_, .dK upd_same, rfl⟩
    · rintro l os H4 e4 n4 h4 g4
      exact ⟨xs, none, rfl, e03.trans e4, e4 _ _ h3, g3.mono Pair.mono e4, (fun z => by rw [z, h3] at n4; cases n4), h4, g4⟩
    · rintro l os i σ' H' ⟨_, _, _, _, _, _, _, h, _⟩
      exact SqL.of h
    · rintro l os i x σ' H' hx ⟨ys, o, rfl, e, hy, gy, hlp, hl, gl⟩
      have hox := gl.2 x (List.mem_of_getElem? hx)
      have hi : i < 10 := by rw [← gl.1]; exact (List.getElem?_eq_some_iff.mp hx).1
      refine ⟨_, rfl, Or.inl ⟨rfl, _, SqL.of hy⟩, ?_⟩
      refine ⟨_, rfl, Evl.sz_of (by show 2 ≤ _; decide), fun t ht => ?_⟩
      have e2 : Gx H' (upd H' t (.tup [x, .bl false])) := Gx.new ht
      have hy2 := e2 _ _ hy
      refine ⟨p, ys, _, rfl, rfl, hy2, Evl.sz_lt (by rw [gy.1]; omega), ?_⟩
      refine ⟨ys ++ [.ref t], _, rfl, (e.trans e2).mut np, upd_same, ⟨by rw [List.length_append, gy.1]; rfl, fun z hz => ?_⟩, hlp, by rw [upd_ne hlp]; exact e2 _ _ hl, gl.1, fun z hz => Odd.put (Odd.mono _ _ _ e2 (gl.2 z hz)) hy2⟩
      rcases List.mem_append.mp hz with hz | hz
      · exact Pair.put (Pair.mono _ _ _ e2 (gy.2 z hz)) hy2
      · obtain rfl := List.mem_singleton.mp hz
        obtain ⟨tn, ho, hf⟩ := hox
        refine Pair.put ⟨t, x, tn, rfl, ?_, ho.gx e2⟩ hy2
        rw [hf]
        exact upd_same
    · rintro l os σ' H' ⟨ys, o, rfl, e, hy, gy, _⟩
      refine g_ret (Φ := Pair K) (evg_pick (n := 17) (evg_dice rfl (e _ _ hd)) (evg_var rfl fun _ e2 => ⟨p, rfl, Lof.mono Pair.mono e2 ⟨ys, hy, gy⟩⟩) (by decide)) fun v H4 e4 f => k v H4 (e.trans e4) f

/-! ### law -/
abbrev s_law : Stmt := top 8
abbrev nm_law : List Str := ["_law_script", "_law_spot", "_law_dice_here", "_law_turn", "_law_value", "_law_due"]
abbrev ps_law : List Str := ["_law_script"]
theorem sc_law : FnScope nm_law ps_law (defScope s_law) := ⟨rfl, rfl, rfl, by decide +kernel, rfl, by decide +kernel, by decide +kernel⟩
def spLaw (K : PySem.W.Frag) : Sp := fun vs H Q _ => ∃ (a : Addr) (ns : List Int), vs = [.ref a] ∧ SqL K H a (ns.map V.int) ∧ ns.length ≤ 63 ∧ ∀ H', Q (.bl true) H'
theorem ok_law {f : Addr} {fd : FuncData} (F : Fun K "law" "law" s_law f fd) (T : Txt K mg) (C_dice : Cal P w K mg base "_law_dice" 1 ["_law_script", "_law_spot"] (spDice K))
    (C_row : Cal P w K mg base "_law_row" 3 ["_law_dice_here"] (spRow K)) (C_is_integer : Cal P w K mg base "is_integer" 1 ["value"] (spIsInt K)) : FnOk P w K mg base CX0 4 f fd ["_law_script"] (spLaw K) := by
  have nd := sc_law.nd
  refine F.ok sc_law (fun vs H Q E h => ?_) (fun cdv A outer s H vs Q E hr h => ?_)
  · obtain ⟨_, _, rfl, _⟩ := h
    rfl
  · obtain ⟨a, ns, rfl, hS, hlen, k⟩ := h
    refine ⟨_, (pss_cons (ps_for PassesOwn.never rfl (pi_range1 rfl T.z_range (pa_cons (pe_callB (call_max2 rfl) (by rfl) T.z_max (by decide +kernel) (pa_cons pe_int (pa_cons (pe_callB (call_min2 rfl) (by rfl) T.z_min (by decide +kernel) (pa_cons pe_int (pa_cons (pe_callB call_len_seq (by rfl) T.z_len (by decide +kernel) (pa_cons (pv 0) pa_nil)) pa_nil))) pa_nil))) pa_nil)) (pg_name (i := 1) nd rfl (Or.inl rfl)) (pss_cons (ps_set (i := 2) nd rfl (Or.inl rfl) (pe_cal C_dice (hr.mono (by decide)) rfl (pa_cons (pv 0) (pa_cons (pv 1) pa_nil))))
      (pss_one (ps_for PassesOwn.never rfl (pi_range1 rfl T.z_range (pa_cons pe_int pa_nil)) (pg_name (i := 3) nd rfl (Or.inl rfl)) (pss_cons (ps_asg (pe_cal C_row (hr.mono (by decide)) rfl (pa_cons (pv 2) pa_nil)) (pg_tup rfl (pgs_cons (pg_name (i := 4) nd rfl (Or.inl rfl)) (pgs_cons (pg_name (i := 5) nd rfl (Or.inl rfl)) pgs_nil))))
      (pss_one (ps_if (pt_cmpR op_ne (pe_callB call_reprB (by rfl) T.z_repr (by decide +kernel) (pa_cons (pe_cal C_is_integer (hr.mono (by decide)) rfl (pa_cons (pv 4) pa_nil)) pa_nil)) (pe_callB call_reprB (by rfl) T.z_repr (by decide +kernel) (pa_cons (pv 5) pa_nil)) (nomark _)) (pss_one (ps_ret pe_bl)) pss_nil)))))))
      (pss_one (ps_ret (pe_cmpR (op_eqD hr.units) (pe_lst (pa_cons (pe_cal C_is_integer (hr.mono (by decide)) rfl (pa_cons (pe_op op_sub (pe_op op_powW pe_int pe_int) pe_int) pa_nil)) (pa_cons (pe_cal C_is_integer (hr.mono (by decide)) rfl (pa_cons (pe_op op_powW pe_int pe_int) pa_nil)) (pa_cons (pe_cal C_is_integer (hr.mono (by decide)) rfl (pa_cons (pe_un un_neg (pe_op op_powW pe_int pe_int)) pa_nil)) (pa_cons (pe_cal C_is_integer (hr.mono (by decide)) rfl (pa_cons pe_bl pa_nil)) pa_nil))))) (pe_op op_cat (pe_lst (pa_cons pe_bl pa_nil)) (pe_op op_rep (pe_lst (pa_cons pe_bl pa_nil)) pe_int)) (nomark _))))), ?_⟩
    refine g_forR (R := fun k => 1 ≤ k ∧ k ≤ 8) ?_ (fun k h => by omega) (fun i σ' H' => ∃ o1 o2 o3 o4 o5, σ' = [some (.ref a), o1, o2, o3, o4, o5] ∧ Gx H H') (fun H1 e => ⟨_, _, _, _, _, rfl, e⟩) ?_ ?_
    · intro H1 e Q q
      refine ⟨_, rfl, a, _, rfl, Or.inl (e.l hS), _, _, rfl, _, _, rfl, ?_⟩
      refine q _ H1 (Gx.refl _) ⟨_, rfl, ?_⟩
      rw [List.length_map]
      split <;> split <;> omega
    · rintro i σ' H1 ⟨kk, hkk, hi⟩ ⟨o1, o2, o3, o4, o5, rfl, e1⟩
      refine ⟨_, rfl, _, rfl, a, ns, i, rfl, e1.l hS, fun d hd => ?_⟩
      have e2 : Gx H (upd H1 d (diceO d)) := e1.trans (Gx.new hd)
      refine g_forR1 (R := fun k => k = 30) (evgs_cons (evg_i 30) fun v H2 _ ⟨j, z, hj⟩ => evgs_nil fun _ _ => ⟨j, by rw [z], hj⟩) (fun k h => by omega)
        (fun i σ' H' => ∃ o1 o3 o4 o5, σ' = [some (.ref a), o1, some (.ref d), o3, o4, o5] ∧ Gx H H' ∧ H' d = some (diceO d)) (fun H2 e => ⟨_, _, _, _, rfl, e2.trans e, e _ _ upd_same⟩) ?_ ?_
      · rintro j σ' H2 _ ⟨o1, o3, o4, o5, rfl, e3, hd2⟩
        refine ⟨_, rfl, d, rfl, hd2, ?_⟩
        rintro v H3 e4 ⟨p, x, t, rfl, hp, px⟩
        refine ⟨p, _, rfl, SqT.of hp, rfl, _, _, rfl, _, _, rfl, rfl, ?_⟩
        refine ⟨_, rfl, x, t, rfl, px, _, rfl, _, rfl, _, rfl, rfl, _, rfl, ?_⟩
        refine iteNS rfl ?_
        exact ⟨_, _, _, _, rfl, e3.trans e4, e4 _ _ hd2⟩
      · rintro j σ' H2 _ ⟨o1, o3, o4, o5, rfl, e3, _⟩
        exact ⟨_, _, _, _, _, rfl, e3⟩
    · rintro i σ' H1 _ ⟨o1, o2, o3, o4, o5, rfl, e1⟩
      have pw : CPowW 10 60 := ⟨by decide, by decide +kernel⟩
      refine ⟨_, _, rfl, rfl, pw, _, _, rfl, rfl, _, _, rfl, .int _, _, _, rfl, rfl, pw, _, _, rfl, .int _, _, _, rfl, rfl, pw, _, rfl, _, _, rfl, .int _, _, _, rfl, .bl _, Evl.sz_of (by show 4 ≤ _; decide), fun l1 n1 => ?_⟩
      dsimp only
      rw [show isI (.int (10 ^ (60 : Int).toNat - 1)) = true by decide +kernel, show isI (.int (10 ^ (60 : Int).toNat)) = false by decide +kernel, show isI (.int (-10 ^ (60 : Int).toNat)) = false by decide +kernel, show isI (.bl true) = false from rfl]
      refine ⟨Evl.sz_of (by show 1 ≤ _; decide), fun l2 n2 => ⟨Evl.sz_of (by show 1 ≤ _; decide), fun l3 n3 => ⟨l3, 3, _, rfl, rfl, upd_same, by decide, by decide, Evl.sz_of (by show 1 * 3 ≤ _; decide), fun l4 n4 => ?_⟩⟩⟩
      refine ⟨l2, l4, _, _, rfl, rfl, Gx.new n4 _ _ (Gx.new n3 _ _ upd_same), upd_same, Evl.sz_of (by show 1 + 3 ≤ _; decide), fun l5 n5 => ?_⟩
      refine ⟨.list [.bool true, .bool false, .bool false, .bool false], .list [.bool true, .bool false, .bool false, .bool false], .lst (SqL.of (Gx.new n5 _ _ (Gx.new n4 _ _ (Gx.new n3 _ _ (Gx.new n2 _ _ upd_same))))) (.cons (.bl _) (.cons (.bl _) (.cons (.bl _) (.cons (.bl _) .nil)))),
        .lst (SqL.of upd_same) (.cons (.bl _) (.cons (.bl _) (.cons (.bl _) (.cons (.bl _) .nil)))), by decide +kernel, by decide +kernel, ?_⟩
      exact k _
end
end K02

set_option Elab.async false
set_option maxRecDepth 100000
namespace K02
open PySem L2 Ly
theorem all_mk {l : PySem.W.OpenLaw} {w : World} {K : PySem.W.Frag} {h : Heap} {mg : Str → Option Value} {fa f_is_integer f_dice f_roll f_pick f_row f_law : Addr} (X : K.In h) (G : h.Ns mainGlobals mg) (hfa : mg "law" = some (.ref fa))
    {od_is_integer an_is_integer : Option Addr} {sl_is_integer : Array (Option Value)} {oc_is_integer kV_is_integer dc_is_integer pm_is_integer cd_is_integer ct_is_integer : Value}
    {od_dice an_dice : Option Addr} {sl_dice : Array (Option Value)} {oc_dice kV_dice dc_dice pm_dice cd_dice ct_dice : Value}
    {od_roll an_roll : Option Addr} {sl_roll : Array (Option Value)} {oc_roll kV_roll dc_roll pm_roll cd_roll ct_roll : Value}
    {od_pick an_pick : Option Addr} {sl_pick : Array (Option Value)} {oc_pick kV_pick dc_pick pm_pick cd_pick ct_pick : Value}
    {od_row an_row : Option Addr} {sl_row : Array (Option Value)} {oc_row kV_row dc_row pm_row cd_row ct_row : Value}
    {od_law an_law : Option Addr} {sl_law : Array (Option Value)} {oc_law kV_law dc_law pm_law cd_law ct_law : Value}
    {t_LONGEST : Tok}
    (a_is_integer : PySem.W.nsIn K mainGlobals "is_integer" = some (some (.ref f_is_integer)))
    (l_is_integer : K.lookup f_is_integer = some ⟨oc_is_integer, od_is_integer, .func (PySem.W.fnOf "is_integer" "is_integer" (defArgs s_is_integer) (defBody s_is_integer) (defScope s_is_integer) .none kV_is_integer dc_is_integer pm_is_integer an_is_integer cd_is_integer ct_is_integer), sl_is_integer⟩)
    (c_is_integer : PySem.W.codeIn K cd_is_integer "is_integer" = true)
    (k_is_integer : PySem.W.keepIn K (.ref f_is_integer) = true)
    (a_dice : PySem.W.nsIn K mainGlobals "_law_dice" = some (some (.ref f_dice)))
    (l_dice : K.lookup f_dice = some ⟨oc_dice, od_dice, .func (PySem.W.fnOf "_law_dice" "_law_dice" (defArgs s_dice) (defBody s_dice) (defScope s_dice) .none kV_dice dc_dice pm_dice an_dice cd_dice ct_dice), sl_dice⟩)
    (c_dice : PySem.W.codeIn K cd_dice "_law_dice" = true)
    (k_dice : PySem.W.keepIn K (.ref f_dice) = true)
    (a_roll : PySem.W.nsIn K mainGlobals "_law_roll" = some (some (.ref f_roll)))
    (l_roll : K.lookup f_roll = some ⟨oc_roll, od_roll, .func (PySem.W.fnOf "_law_roll" "_law_roll" (defArgs s_roll) (defBody s_roll) (defScope s_roll) .none kV_roll dc_roll pm_roll an_roll cd_roll ct_roll), sl_roll⟩)
    (c_roll : PySem.W.codeIn K cd_roll "_law_roll" = true)
    (k_roll : PySem.W.keepIn K (.ref f_roll) = true)
    (a_pick : PySem.W.nsIn K mainGlobals "_law_pick" = some (some (.ref f_pick)))
    (l_pick : K.lookup f_pick = some ⟨oc_pick, od_pick, .func (PySem.W.fnOf "_law_pick" "_law_pick" (defArgs s_pick) (defBody s_pick) (defScope s_pick) .none kV_pick dc_pick pm_pick an_pick cd_pick ct_pick), sl_pick⟩)
    (c_pick : PySem.W.codeIn K cd_pick "_law_pick" = true)
    (k_pick : PySem.W.keepIn K (.ref f_pick) = true)
    (a_row : PySem.W.nsIn K mainGlobals "_law_row" = some (some (.ref f_row)))
    (l_row : K.lookup f_row = some ⟨oc_row, od_row, .func (PySem.W.fnOf "_law_row" "_law_row" (defArgs s_row) (defBody s_row) (defScope s_row) .none kV_row dc_row pm_row an_row cd_row ct_row), sl_row⟩)
    (c_row : PySem.W.codeIn K cd_row "_law_row" = true)
    (k_row : PySem.W.keepIn K (.ref f_row) = true)
    (a_law : PySem.W.nsIn K mainGlobals "law" = some (some (.ref f_law)))
    (l_law : K.lookup f_law = some ⟨oc_law, od_law, .func (PySem.W.fnOf "law" "law" (defArgs s_law) (defBody s_law) (defScope s_law) .none kV_law dc_law pm_law an_law cd_law ct_law), sl_law⟩)
    (c_law : PySem.W.codeIn K cd_law "law" = true)
    (k_law : PySem.W.keepIn K (.ref f_law) = true)
    (z_len : PySem.W.nsIn K mainGlobals "len" = some none)
    (z_int : PySem.W.nsIn K mainGlobals "int" = some none)
    (z_bool : PySem.W.nsIn K mainGlobals "bool" = some none)
    (z_abs : PySem.W.nsIn K mainGlobals "abs" = some none)
    (z_max : PySem.W.nsIn K mainGlobals "max" = some none)
    (z_min : PySem.W.nsIn K mainGlobals "min" = some none)
    (z_range : PySem.W.nsIn K mainGlobals "range" = some none)
    (z_repr : PySem.W.nsIn K mainGlobals "repr" = some none)
    (z_isinstance : PySem.W.nsIn K mainGlobals "isinstance" = some none)
    (i_LONGEST : PySem.W.nsIn K mainGlobals "LONGEST" = some (some (.int (10 ^ 60) t_LONGEST))) :
    ∃ fd : FuncData, (∀ (s : Shared) (v : Value), BindsTo s fd ⟨[v], []⟩ [("_law_script", v)]) ∧ ∀ base : Heap, K.In base → base.Ns mainGlobals mg → FnOk l.prog w K mg base CX0 4 fa fd ["_law_script"] (spLaw K) := by
  have e := hfa.symm.trans (PySem.W.mg_of X G a_law)
  cases e
  have T : Txt K mg := ⟨PySem.W.mg_none_of X G z_len, PySem.W.mg_none_of X G z_int, PySem.W.mg_none_of X G z_bool, PySem.W.mg_none_of X G z_abs, PySem.W.mg_none_of X G z_max, PySem.W.mg_none_of X G z_min, PySem.W.mg_none_of X G z_range, PySem.W.mg_none_of X G z_repr, PySem.W.mg_none_of X G z_isinstance⟩
  have F_is_integer := fun_mk (st := s_is_integer) l_is_integer c_is_integer k_is_integer
  have m_is_integer := PySem.W.mg_of X G a_is_integer
  have b_is_integer := F_is_integer.binds (ps := ps_is_integer) fun _ _ _ _ _ _ us hl => match us, hl with | [_], _ => rfl
  have F_dice := fun_mk (st := s_dice) l_dice c_dice k_dice
  have m_dice := PySem.W.mg_of X G a_dice
  have b_dice := F_dice.binds (ps := ps_dice) fun _ _ _ _ _ _ us hl => match us, hl with | [_, _], _ => rfl
  have F_roll := fun_mk (st := s_roll) l_roll c_roll k_roll
  have m_roll := PySem.W.mg_of X G a_roll
  have b_roll := F_roll.binds (ps := ps_roll) fun _ _ _ _ _ _ us hl => match us, hl with | [_, _], _ => rfl
  have F_pick := fun_mk (st := s_pick) l_pick c_pick k_pick
  have m_pick := PySem.W.mg_of X G a_pick
  have b_pick := F_pick.binds (ps := ps_pick) fun _ _ _ _ _ _ us hl => match us, hl with | [_, _], _ => rfl
  have F_row := fun_mk (st := s_row) l_row c_row k_row
  have m_row := PySem.W.mg_of X G a_row
  have b_row := F_row.binds (ps := ps_row) fun _ _ _ _ _ _ us hl => match us, hl with | [_], _ => rfl
  have F_law := fun_mk (st := s_law) l_law c_law k_law
  have m_law := PySem.W.mg_of X G a_law
  have b_law := F_law.binds (ps := ps_law) fun _ _ _ _ _ _ us hl => match us, hl with | [_], _ => rfl
  have g_LONGEST := PySem.W.mg_of X G i_LONGEST
  refine ⟨PySem.W.fnOf "law" "law" (defArgs s_law) (defBody s_law) (defScope s_law) .none kV_law dc_law pm_law an_law cd_law ct_law, fun s v => .of_eq rfl, fun base _ _ => ?_⟩
  have C_roll : Cal l.prog w K mg base "_law_roll" 1 ps_roll spRoll := ⟨⟨_, _, ok_roll F_roll T, m_roll, k_roll, b_roll⟩⟩
  have C_pick : Cal l.prog w K mg base "_law_pick" 2 ps_pick (spPick K) := ⟨⟨_, _, ok_pick F_pick T C_roll, m_pick, k_pick, b_pick⟩⟩
  have C_row : Cal l.prog w K mg base "_law_row" 3 ps_row (spRow K) := ⟨⟨_, _, ok_row F_row C_pick, m_row, k_row, b_row⟩⟩
  have C_dice : Cal l.prog w K mg base "_law_dice" 1 ps_dice (spDice K) := ⟨⟨_, _, ok_dice F_dice T, m_dice, k_dice, b_dice⟩⟩
  have C_is_integer : Cal l.prog w K mg base "is_integer" 1 ps_is_integer (spIsInt K) := ⟨⟨_, _, ok_isint F_is_integer T g_LONGEST, m_is_integer, k_is_integer, b_is_integer⟩⟩
  exact ok_law F_law T C_dice C_row C_is_integer
theorem walk {l : PySem.W.OpenLaw} {q : Program} {loose : List Str} {XP : (Str → Option Value) → Heap → Prop} {YP : World → Heap → Prop} {d : DefRec} {K : Params → PySem.W.Frag} (hn : l.most = some 63) (hdf : d.params.defaults = [])
    (hY : ∀ (w : World) (h : Heap), YP w h → (K w.params).In h)
    (F : ∀ (w : World) (mg : Str → Option Value) (fa : Addr) (h : Heap), (K w.params).In h → h.Ns mainGlobals mg → mg d.name = some (.ref fa) →
      ∃ fd : FuncData, (∀ (s : Shared) (u : Value), BindsTo s fd ⟨[u], []⟩ [("_law_script", u)]) ∧ ∀ base : Heap, (K w.params).In base → base.Ns mainGlobals mg → FnOk l.prog w (K w.params) mg base CX0 4 fa fd ["_law_script"] (spLaw (K w.params))) :
    PySem.W.WalkO q loose XP YP l.row.toRowW d [] (fun f vs => PySem.call f vs) :=
  L2.walk_of (n := 63) (k := 4) (x := "_law_script") (CX := fun _ => CX0) (sp := fun w => spLaw (K w.params)) hn (by decide) hdf ⟨rfl, by decide, by decide⟩ hY F (fun _ _ a ns hl _ hS => ⟨a, ns, rfl, hS, hl, fun _ => rfl⟩) fun _ _ _ _ _ z => z
end K02
open PySem PySem.W PyProof.Rows
set_option maxRecDepth 100000 in
set_option maxHeartbeats 0 in
theorem PySem.Challenge.cw_firstneed_k02_integers_judged_holds : PySem.Challenge.rw_firstneed_k02_integers_judged.Holds := by
  w_on; o_law; k_head; (case hw => w_witness2)
  k_fill
  refine K02.walk (l := PySem.Challenge.rw_firstneed_k02_integers_judged) rfl rfl (fun w h Y => PySem.W.kIn_of Y) ?F
  case F =>
    intro w mg fa h KX G hmg
    refine' K02.all_mk KX G hmg ?a_is_integer ?l_is_integer ?c_is_integer ?k_is_integer ?a_dice ?l_dice ?c_dice ?k_dice ?a_roll ?l_roll ?c_roll ?k_roll ?a_pick ?l_pick ?c_pick ?k_pick ?a_row ?l_row ?c_row ?k_row ?a_law ?l_law ?c_law ?k_law ?z_len ?z_int ?z_bool ?z_abs ?z_max ?z_min ?z_range ?z_repr ?z_isinstance ?i_LONGEST
    (case a_is_integer => k_is)
    (case l_is_integer => k_is)
    (case c_is_integer => k_is)
    (case k_is_integer => k_is)
    (case a_dice => k_is)
    (case l_dice => k_is)
    (case c_dice => k_is)
    (case k_dice => k_is)
    (case a_roll => k_is)
    (case l_roll => k_is)
    (case c_roll => k_is)
    (case k_roll => k_is)
    (case a_pick => k_is)
    (case l_pick => k_is)
    (case c_pick => k_is)
    (case k_pick => k_is)
    (case a_row => k_is)
    (case l_row => k_is)
    (case c_row => k_is)
    (case k_row => k_is)
    (case a_law => k_is)
    (case l_law => k_is)
    (case c_law => k_is)
    (case k_law => k_is)
    (case z_len => k_is)
    (case z_int => k_is)
    (case z_bool => k_is)
    (case z_abs => k_is)
    (case z_max => k_is)
    (case z_min => k_is)
    (case z_range => k_is)
    (case z_repr => k_is)
    (case z_isinstance => k_is)
    (case i_LONGEST => k_is)

