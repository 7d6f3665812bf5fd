import PyProof.Rows.All
import Wide.All
import OpenK.AllK
import Wide.FinOn
import HandS.ForMost
import HandS.IsInst
import HandS.Evl
import HandS.Walk
import HandS.Deep
import PySem.Challenge.RW_firstneed_k03_nodes_judged
set_option Elab.async false
set_option maxRecDepth 100000
/-! Own layer: dice that hide their numbers, heaps that only grow, repr of plain values. -/
namespace Ly
open PySem PySem.Spec PyProof.Rows L2

/-! ### heaps that only grow -/
def Gx (H H' : Hp) : Prop := ∀ a o, H a = some o → H' a = some o
theorem Gx.refl (H : Hp) : Gx H H := fun _ _ h => h
theorem Gx.trans {H H1 H2 : Hp} (a : Gx H H1) (b : Gx H1 H2) : Gx H H2 := fun x o h => b x o (a x o h)
theorem Gx.new {H : Hp} {p : Addr} {o : HO} (h : H p = none) : Gx H (upd H p o) := fun a u e => by
  rw [upd_ne (ne_of_none e h)]
  exact e
theorem Gx.mut {H H' : Hp} {p : Addr} {o : HO} (e : Gx H H') (h : H p = none) : Gx H (upd H' p o) := fun a u ha => by
  rw [upd_ne (ne_of_none ha h)]
  exact e a u ha
theorem Gx.free {H H' : Hp} {p : Addr} (e : Gx H H') (h : H' p = none) : H p = none := by
  cases q : H p with
  | none => rfl
  | some o =>
    rw [e p o q] at h
    cases h
theorem Gx.rd {H H' : Hp} {a : Addr} {u : HO} (e : Gx H H') (h : Rd H a u) : Rd H' a u := by
  rcases h with h | ⟨o, h⟩
  · exact Or.inl (e a _ h)
  · exact Or.inr ⟨o, e a _ h⟩
theorem Gx.l {K : PySem.W.Frag} {H H' : Hp} {a : Addr} {xs : List V} (e : Gx H H') (h : SqL K H a xs) : SqL K H' a xs := by
  rcases h with h | h
  · exact Or.inl (e.rd h)
  · exact Or.inr h
theorem Gx.t {K : PySem.W.Frag} {H H' : Hp} {a : Addr} {xs : List V} (e : Gx H H') (h : SqT K H a xs) : SqT K H' a xs := by
  rcases h with h | h
  · exact Or.inl (e.rd h)
  · exact Or.inr h

/-! ### dice: a list of three ints whose numbers nobody asks for -/
def diceP (p : Addr) : Heap → Prop := fun h => ∃ (a b c : Int) (t u v : Tok) (n : Nat), h.get? p = some { cls := .type "list", data := .seq #[.int a t, .int b u, .int c v] n }
def diceO (p : Addr) : HO := .ext (diceP p)
abbrev three (a b c : Int) : HO := .lst [.int a, .int b, .int c]
section
variable {P : Program} {w : World} {H H1 : Hp} {h h1 : Heap} {p : Addr} {fs ex : List Addr}
theorem hok_hide {a b c : Int} (x : HOk P w H h) (e : H p = some (three a b c)) : HOk P w (upd H p (diceO p)) h := by
  intro q o eq
  by_cases hq : q = p
  · subst hq
    rw [upd_same] at eq
    cases eq
    obtain ⟨_, its, n, r, g⟩ := x q _ e
    cases r with
    | cons ra r =>
      cases r with
      | cons rb r =>
        cases r with
        | cons rc r =>
          cases r
          obtain ⟨t, rfl⟩ := ra
          obtain ⟨u, rfl⟩ := rb
          obtain ⟨v, rfl⟩ := rc
          refine ⟨⟨a, b, c, t, u, v, n, g⟩, ⟨_, g⟩, ?_⟩
          rintro h1 h2 ⟨a, b, c, t, u, v, n, g⟩ k
          exact ⟨a, b, c, t, u, v, n, k _ g⟩
  · rw [upd_ne hq] at eq
    refine (x q o eq).stay (fun _ _ _ z => z) (fun b z => ?_) fun b xs z => ?_
    · rw [upd_ne]
      · exact z
      · intro z2
        subst z2
        rw [e] at z
        cases z
    · rw [upd_ne]
      · exact z
      · intro z2
        subst z2
        rw [e] at z
        cases z
theorem hok_show (x : HOk P w H h) (e : H p = some (diceO p)) : ∃ a b c, HOk P w (upd H p (three a b c)) h := by
  obtain ⟨⟨a, b, c, t, u, v, n, g⟩, _, _⟩ := x p _ e
  refine ⟨a, b, c, fun q o eq => ?_⟩
  by_cases hq : q = p
  · subst hq
    rw [upd_same] at eq
    cases eq
    refine ⟨by show 3 ≤ sizeLine; decide, [.int a t, .int b u, .int c v], n, .cons ⟨t, rfl⟩ (.cons ⟨u, rfl⟩ (.cons ⟨v, rfl⟩ .nil)), g⟩
  · rw [upd_ne hq] at eq
    refine (x q o eq).stay (fun _ _ _ z => z) (fun b z => ?_) fun b xs z => ?_
    · rw [upd_ne]
      · exact z
      · intro z2
        subst z2
        rw [e] at z
        cases z
    · rw [upd_ne]
      · exact z
      · intro z2
        subst z2
        rw [e] at z
        cases z
theorem un_hide {xs : List V} (u : Un fs ex H H1 h h1) (e : H1 p = some (.lst xs)) : Un fs ex H (upd H1 p (diceO p)) h h1 where
  keep := u.keep
  slot := u.slot
  free := fun b o g n hx => by
    have z := u.free b o g n hx
    rw [upd_ne (fun q => by subst q; rw [e] at z; cases z)]
    exact z
  there := u.there
  tups := fun b ys g => by
    have z := u.tups b ys g
    rw [upd_ne (fun q => by subst q; rw [e] at z; cases z)]
    exact z
  frzs := fun b o v g => by
    have z := u.frzs b o v g
    rw [upd_ne (fun q => by subst q; rw [e] at z; cases z)]
    exact z
  tbls := fun b ps g => by
    obtain ⟨m, z⟩ := u.tbls b ps g
    refine ⟨m, ?_⟩
    rw [upd_ne (fun q => by subst q; rw [e] at z; cases z)]
    exact z
theorem un_show {o : HO} (u : Un fs ex (upd H p o) H1 h h1) (e : H p = some (diceO p)) : Un fs ex H H1 h h1 where
  keep := fun b o g n => u.keep b o g (by rw [upd_ne (fun q => by subst q; rw [e] at n; cases n)]; exact n)
  slot := fun b o g n => u.slot b o g (by rw [upd_ne (fun q => by subst q; rw [e] at n; cases n)]; exact n)
  free := fun b o g n => u.free b o g (by rw [upd_ne (fun q => by subst q; rw [e] at n; cases n)]; exact n)
  there := u.there
  tups := fun b ys g => u.tups b ys (by rw [upd_ne (fun q => by subst q; rw [e] at g; cases g)]; exact g)
  frzs := fun b o v g => u.frzs b o v (by rw [upd_ne (fun q => by subst q; rw [e] at g; cases g)]; exact g)
  tbls := fun b ps g => u.tbls b ps (by rw [upd_ne (fun q => by subst q; rw [e] at g; cases g)]; exact g)
end
section
variable {P : Program} {w : World} {K : PySem.W.Frag} {mg : Str → Option Value} {base : Heap} {k : Nat} {f : Addr} {fd : FuncData} {ps : List Str} {sp : Sp} {CX : CXT}
/-- a def that reads and writes dice, seen from without -/
theorem fn_dice (F : FnOk P w K mg base CX0 k f fd ps sp) : FnOk P w K mg base CX0 k f fd ps (fun vs H Q E => vs.length = ps.length ∧ ∃ p, H p = some (diceO p) ∧
    ∀ a b c, sp vs (upd H p (three a b c)) (fun v H' => (∃ a' b' c', H' p = some (three a' b' c')) ∧ Q v (upd H' p (diceO p))) E) := by
  refine ⟨fun vs H Q E h => h.1, fun A outer s H args us vs Q E hr he hb hv hs => ?_⟩
  obtain ⟨_, p, hp, hs⟩ := hs
  obtain ⟨a, b, c, hok⟩ := hok_show he.hok hp
  have he' : Env0 P w K mg base A outer s (upd H p (three a b c)) := ⟨he.frames, he.mod, fun q o g => by
    obtain ⟨z1, z2⟩ := he.bs q o g
    refine ⟨z1, ?_⟩
    rw [upd_ne (fun y => by subst y; rw [hp] at z2; cases z2)]
    exact z2, he.bsz, he.funs, fun q g => by
    have z2 := he.frf q g
    rw [upd_ne (fun y => by subst y; rw [hp] at z2; cases z2)]
    exact z2, hok, he.bare⟩
  refine codeAny_mono (F.run A outer s _ args us vs _ E hr he' hb hv (hs a b c)) fun r s' h => ?_
  match r, h with
  | .ok (.ret u), h =>
    obtain ⟨v, H', os, bare, un, hok', rv, ⟨a', b', c', e'⟩, q⟩ := h
    exact ⟨v, upd H' p (diceO p), os, bare, un_hide (un_show un hp) e', hok_hide hok' e', rv, q⟩
/-- a def that makes dice -/
theorem fn_mkdice (F : FnOk P w K mg base CX0 k f fd ps sp) : FnOk P w K mg base CX0 k f fd ps (fun vs H Q E => sp vs H (fun v H' => ∃ p a b c, v = .ref p ∧ H' p = some (three a b c) ∧ Q (.ref p) (upd H' p (diceO p))) E) := by
  refine ⟨fun vs H Q E h => F.len _ _ _ _ h, fun A outer s H args us vs Q E hr he hb hv hs => ?_⟩
  refine codeAny_mono (F.run A outer s _ args us vs _ E hr he hb hv hs) fun r s' h => ?_
  match r, h with
  | .ok (.ret u), h =>
    obtain ⟨v, H', os, bare, un, hok', rv, p, a, b, c, rfl, e, q⟩ := h
    exact ⟨.ref p, upd H' p (diceO p), os, bare, un_hide un e, hok_hide hok' e, rv, q⟩
end
theorem upd_id {H : Hp} {p : Addr} {o : HO} (h : H p = some o) : upd H p o = H := by
  funext q
  by_cases e : q = p
  · subst e
    rw [upd_same, h]
  · rw [upd_ne e]

/-! ### a def of the text, for its callers -/
structure Cal (P : Program) (w : World) (K : PySem.W.Frag) (mg : Str → Option Value) (base : Heap) (x : Str) (k : Nat) (ps : List Str) (sp : Sp) : Prop where
  ex : ∃ (f : Addr) (fd : FuncData), FnOk P w K mg base CX0 k f fd ps sp ∧ mg x = some (.ref f) ∧ PySem.W.keepIn K (.ref f) = true ∧ Binds K fd ps []
section
variable {X : Cx} {k : Nat} {ps : List Str} {sp : Sp} {x : Str} {p pos : Pos} {e : Expr} {es : List Expr} {t : TA}
theorem pe_cal (C : Cal X.prog X.w X.K X.mg X.base x k ps sp) (hr : Room k X.A) (hg : Gl X x) (ha : PA X (e :: es) t) (hdb : (x == ("__debug__" : Str)) = false := by decide)
    (he : starEach (e :: es) X.env = (false, eval e X.env) :: starEach es X.env := by rfl) (hpl : (backTo pos (starEach es X.env)).any (·.1) = false := by rfl) :
    PE X (.Call (.Name x p) (e :: es) [] pos) (tCall sp [] E0 t) := by
  obtain ⟨f, fd, F, hm, hk, hb⟩ := C.ex
  exact pe_call F hr hg hm hk hb .nil pass0 ha hdb he hpl
theorem pe_cal0 (C : Cal X.prog X.w X.K X.mg X.base x k ps sp) (hr : Room k X.A) (hg : Gl X x) (hdb : (x == ("__debug__" : Str)) = false := by decide) :
    PE X (.Call (.Name x p) [] [] pos) (tCall sp [] E0 tNil) := by
  obtain ⟨f, fd, F, hm, hk, hb⟩ := C.ex
  exact pe_call0 F hr hg hm hk hb .nil pass0 hdb
end

/-! ### operators -/
section
variable {X : Cx}
def CPowW (i j : Int) : Prop := 0 ≤ j ∧ (Builtin.Int.intBits i : Int) * j ≤ 2 ^ 27
theorem op_powW : OpR X (binaryOp .Pow) (rI CPowW fun i j => .int (i ^ j.toNat)) := opI fun _ _ _ _ _ _ _ hc q => pow_int hc.1 hc.2 q
theorem call_reprB : CallR X (.builtin "repr") (fun xs H Q => ∃ b, xs = [.bl b] ∧ Q (.str (if b then "True" else "False")) H) := by
  intro pins s σ H xs us Q I r h
  obtain ⟨b, rfl, q⟩ := h
  obtain ⟨u, rfl, ru⟩ := vals1 r
  obtain rfl : u = Value.bool b := ru
  exact PySem.P.repr_of_bool ⟨.str _, H, I.tok _, ⟨_, rfl⟩, q⟩
end

/-! ### what is evaluated, by what is true of it, on heaps that grow -/
abbrev Ty := V → Hp → Prop
def Mono (Φ : Ty) : Prop := ∀ v H H', Gx H H' → Φ v H → Φ v H'
def EvG (te : TE) (σ : L2.St) (H : Hp) (Φ : Ty) : Prop := ∀ H1, Gx H H1 → ∀ Q : VK, (∀ v H2, Gx H1 H2 → Φ v H2 → Q v H2) → te σ H1 Q
def EvGs (ta : TA) (σ : L2.St) (H : Hp) (Ψ : List V → Hp → Prop) : Prop := ∀ H1, Gx H H1 → ∀ Q : List V → Hp → Prop, (∀ vs H2, Gx H1 H2 → Ψ vs H2 → Q vs H2) → ta σ H1 Q
section
variable {σ : L2.St} {H H' : Hp} {te ta tb : TE} {tr : TA} {Φ Φ' : Ty} {v : V} {Q : VK}
theorem EvG.use (h : EvG te σ H Φ) (k : ∀ v H2, Gx H H2 → Φ v H2 → Q v H2) : te σ H Q := h H (Gx.refl H) Q k
theorem EvGs.use {Ψ : List V → Hp → Prop} {Q : List V → Hp → Prop} (h : EvGs tr σ H Ψ) (k : ∀ vs H2, Gx H H2 → Ψ vs H2 → Q vs H2) : tr σ H Q := h H (Gx.refl H) Q k
theorem EvG.mono (e : Gx H H') (h : EvG te σ H Φ) : EvG te σ H' Φ := fun H1 a Q q => h H1 (e.trans a) Q q
theorem EvG.imp (h : EvG te σ H Φ) (i : ∀ v H2, Gx H H2 → Φ v H2 → Φ' v H2) : EvG te σ H Φ' := fun H1 a Q q => h H1 a Q fun v H2 e f => q v H2 e (i v H2 (a.trans e) f)
theorem evg_var {i : Nat} (h : σ[i]? = some (some v)) (m : ∀ H1, Gx H H1 → Φ v H1) : EvG (tVar i) σ H Φ := fun H1 e _ q => ⟨v, h, q v H1 (Gx.refl H1) (m H1 e)⟩
theorem evg_c (m : ∀ H1, Gx H H1 → Φ v H1) : EvG (tC v) σ H Φ := fun H1 e _ q => q v H1 (Gx.refl H1) (m H1 e)
theorem evgs_nil {Ψ : List V → Hp → Prop} (m : ∀ H1, Gx H H1 → Ψ [] H1) : EvGs tNil σ H Ψ := fun H1 e _ q => q [] H1 (Gx.refl H1) (m H1 e)
theorem evgs_cons {Ψ : List V → Hp → Prop} (h : EvG ta σ H Φ) (k : ∀ v H1, Gx H H1 → Φ v H1 → EvGs tr σ H1 (fun vs H2 => Ψ (v :: vs) H2)) : EvGs (tCons ta tr) σ H Ψ := fun H1 e _ q =>
  h H1 e _ fun v H2 e2 f => (k v H2 (e.trans e2) f) H2 (Gx.refl H2) _ fun vs H3 e3 g => q (v :: vs) H3 (e2.trans e3) g
/-- all of one kind -/
def AllT (Φ : Ty) (n : Nat) : List V → Hp → Prop := fun vs H => vs.length = n ∧ ∀ x ∈ vs, Φ x H
theorem AllT.mono {n : Nat} {vs : List V} (m : Mono Φ) (e : Gx H H') (h : AllT Φ n vs H) : AllT Φ n vs H' := ⟨h.1, fun x hx => m _ _ _ e (h.2 x hx)⟩
theorem evgs_none : EvGs tNil σ H (AllT Φ 0) := evgs_nil fun _ _ => ⟨rfl, fun x h => by cases h⟩
theorem evgs_more {n : Nat} (m : Mono Φ) (h : EvG ta σ H Φ) (k : ∀ H1, Gx H H1 → EvGs tr σ H1 (AllT Φ n)) : EvGs (tCons ta tr) σ H (AllT Φ (n + 1)) :=
  evgs_cons h fun v H1 e f => fun H2 e2 Q q => k H1 e H2 e2 Q fun vs H3 e3 g => q vs H3 e3 ⟨by rw [List.length_cons, g.1], fun x hx => by
    rcases List.mem_cons.mp hx with rfl | hx
    · exact m _ _ _ (e2.trans e3) f
    · exact g.2 x hx⟩
theorem evg_tup {Ψ : List V → Hp → Prop} (h : EvGs tr σ H Ψ) (hl : ∀ vs H1, Ψ vs H1 → vs.length ≤ 100000) (m : ∀ vs p H1 H2, Ψ vs H1 → Gx H1 H2 → H1 p = none → H2 p = some (.tup vs) → Φ (.ref p) H2) : EvG (tTup tr) σ H Φ := fun H1 e Q q =>
  h H1 e _ fun vs H2 e2 g => ⟨Evl.sz_of (hl vs H2 g), fun p hp => q _ _ (e2.trans (Gx.new hp)) (m vs p H2 _ g (Gx.new hp) hp upd_same)⟩
theorem evg_lst {Ψ : List V → Hp → Prop} (h : EvGs tr σ H Ψ) (hl : ∀ vs H1, Ψ vs H1 → vs.length ≤ 100000) (m : ∀ vs p H1 H2, Ψ vs H1 → Gx H1 H2 → H1 p = none → H2 p = some (.lst vs) → Φ (.ref p) H2) : EvG (tLst tr) σ H Φ := fun H1 e Q q =>
  h H1 e _ fun vs H2 e2 g => ⟨Evl.sz_of (hl vs H2 g), fun p hp => q _ _ (e2.trans (Gx.new hp)) (m vs p H2 _ g (Gx.new hp) hp upd_same)⟩
end
/-- heaps in which all stays but what lists hold -/
def Kx (H H' : Hp) : Prop := ∀ a o, H a = some o → H' a = some o ∨ ∃ xs ys, o = .lst xs ∧ H' a = some (.lst ys)
theorem Gx.k {H H' : Hp} (e : Gx H H') : Kx H H' := fun a o h => .inl (e a o h)
theorem Kx.refl (H : Hp) : Kx H H := fun _ _ h => .inl h
theorem Kx.trans {H H1 H2 : Hp} (a : Kx H H1) (b : Kx H1 H2) : Kx H H2 := fun x o h => by
  rcases a x o h with h1 | ⟨xs, ys, e, h1⟩
  · exact b x o h1
  · rcases b x _ h1 with h2 | ⟨xs2, ys2, _, h2⟩
    · exact .inr ⟨xs, ys, e, h2⟩
    · exact .inr ⟨xs, ys2, e, h2⟩
theorem Kx.put {H : Hp} {p : Addr} {xs ys : List V} (h : H p = some (.lst xs)) : Kx H (upd H p (.lst ys)) := fun a o e => by
  by_cases q : a = p
  · subst q
    rw [h] at e
    cases e
    exact .inr ⟨xs, ys, rfl, upd_same⟩
  · exact .inl (by rw [upd_ne q]; exact e)
theorem Kx.keep {H H' : Hp} (e : Kx H H') {a : Addr} {o : HO} (h : H a = some o) (n : ∀ xs, o ≠ .lst xs) : H' a = some o := by
  rcases e a o h with h1 | ⟨xs, _, z, _⟩
  · exact h1
  · exact absurd z (n xs)
theorem Kx.tup {H H' : Hp} (e : Kx H H') {a : Addr} {xs : List V} (h : H a = some (.tup xs)) : H' a = some (.tup xs) := e.keep h fun _ z => by cases z
theorem Kx.dice {H H' : Hp} (e : Kx H H') {a : Addr} (h : H a = some (diceO a)) : H' a = some (diceO a) := e.keep h fun _ z => by cases z
/-- true whatever lists hold -/
def Firm (Φ : Ty) : Prop := ∀ v H H', Kx H H' → Φ v H → Φ v H'
theorem Firm.mono {Φ : Ty} (h : Firm Φ) : Mono Φ := fun v H H' e f => h v H H' e.k f
inductive Kd | non | bl | int | str | lst | tup | dic | own
  deriving DecidableEq
/-- the answer of isinstance of such a value and a built-in type -/
def kdIs : Kd → String → Bool
  | .bl, n => n == "bool" || n == "int"
  | .int, n => n == "int"
  | .str, n => n == "str"
  | .lst, n => n == "list"
  | .tup, n => n == "tuple"
  | .dic, n => n == "dict"
  | _, _ => false
/-- the built-in types that are asked for -/
def asked : List String := ["int", "bool", "str", "list", "tuple", "dict"]
/-- a class of the text whose instances are none of these -/
structure Own (K : PySem.W.Frag) (C : Addr) : Prop where
  cl : Cls K C
  ha : PySem.W.findIn K (.ref C) "__class__" = some (some (.builtin "object.__class__"))
  hn : PySem.W.specialIn K (.builtin "object.__class__") "__get__" = some (some (.builtin "getset_descriptor.__get__"))
  htk : PySem.W.takesIn K (.builtin "object.__class__") = some true
  hm : PySem.W.mroIn K C (.type "object") = some true
  no : ∀ n ∈ asked, PySem.W.kitOne K (.ref C) (.type n) = some false
/-- a plain value of a built-in type, or an instance -/
inductive Pl (K : PySem.W.Frag) (H : Hp) : V → Kd → Prop
  | non : Pl K H .non .non
  | bl (b : Bool) : Pl K H (.bl b) .bl
  | int (i : Int) : Pl K H (.int i) .int
  | str (x : Str) : Pl K H (.str x) .str
  | lst {a : Addr} {xs : List V} (e : H a = some (.lst xs)) : Pl K H (.ref a) .lst
  | tup {a : Addr} {xs : List V} (e : H a = some (.tup xs)) : Pl K H (.ref a) .tup
  | dK {a : Addr} {kvs : List (Key × V)} (e : H a = some (.dK kvs)) : Pl K H (.ref a) .dic
  | own {a C dx : Addr} {fs : List (Str × V)} (e : H a = some (.ins C dx fs)) (o : Own K C) : Pl K H (.ref a) .own
theorem Pl.isi {K : PySem.W.Frag} {H : Hp} {v : V} {k : Kd} (h : Pl K H v k) {n : String} (hn : n ∈ asked) : ∃ t, TyX K H v t ∧ PySem.W.kitOne K t (.type n) = some (kdIs k n) := by
  have go : ∀ (t : String) (k : Kd), (∀ m ∈ asked, kitB t m = some (kdIs k m)) → PySem.W.kitOne K (.type t) (.type n) = some (kdIs k n) := fun t k q => kit_ty (q n hn)
  cases h with
  | non => exact ⟨_, .base .non, go _ _ (by decide +kernel)⟩
  | bl b => exact ⟨_, .base (.bl b), go _ _ (by decide +kernel)⟩
  | int i => exact ⟨_, .base (.int i), go _ _ (by decide +kernel)⟩
  | str x => exact ⟨_, .base (.str x), go _ _ (by decide +kernel)⟩
  | lst e => exact ⟨_, .base (.lst e), go _ _ (by decide +kernel)⟩
  | tup e => exact ⟨_, .base (.tup e), go _ _ (by decide +kernel)⟩
  | dK e => exact ⟨_, .base (.dK e), go _ _ (by decide +kernel)⟩
  | own e o => exact ⟨_, .base (.ins e o.cl o.ha o.hn o.htk o.hm), o.no n hn⟩
theorem Pl.firm {K : PySem.W.Frag} {k : Kd} : Firm (fun v H => Pl K H v k) := fun v H H' e h => by
  cases h with
  | non => exact .non
  | bl b => exact .bl b
  | int i => exact .int i
  | str x => exact .str x
  | lst h =>
    rcases e _ _ h with h1 | ⟨_, _, _, h1⟩
    · exact .lst h1
    · exact .lst h1
  | tup h => exact .tup (e.tup h)
  | dK h => exact .dK (e.keep h fun _ z => by cases z)
  | own h o => exact .own (e.keep h fun _ z => by cases z) o
theorem Pl.gx {K : PySem.W.Frag} {H H' : Hp} {v : V} {k : Kd} (e : Gx H H') (h : Pl K H v k) : Pl K H' v k := Pl.firm v H H' e.k h

section
variable {X : Cx} {x : Str} {pos : Pos}
theorem pe_ty (n : String) (hg : Gl X x) (hm : X.mg x = none) (hv : bootBuiltins x = some (.type n)) (hn : x ≠ "__name__" := by decide) (hd : (x == ("__debug__" : Str)) = false := by decide) : PE X (.Name x pos) (tC (.ty n)) := pe_bltn hg hm hv rfl hn hd
theorem pe_gint {i : Int} {t : Tok} (hg : Gl X x) (hm : X.mg x = some (.int i t)) (hd : (x == ("__debug__" : Str)) = false := by decide) : PE X (.Name x pos) (tC (.int i)) := pe_glob hg hm ⟨t, rfl⟩ hd
theorem pe_gstr {i : Str} {t : Tok} (hg : Gl X x) (hm : X.mg x = some (.str i t)) (hd : (x == ("__debug__" : Str)) = false := by decide) : PE X (.Name x pos) (tC (.str i)) := pe_glob hg hm ⟨t, rfl⟩ hd
theorem pe_gref {a : Addr} (hg : Gl X x) (hm : X.mg x = some (.ref a)) (hd : (x == ("__debug__" : Str)) = false := by decide) : PE X (.Name x pos) (tC (.ref a)) := pe_glob hg hm rfl hd
end

/-! ### ints, new lists, drawn items -/
def IntT (P : Int → Prop) : Ty := fun v _ => ∃ i, v = .int i ∧ P i
def BlT (P : Bool → Prop) : Ty := fun v _ => ∃ b, v = .bl b ∧ P b
def EvN (te : TE) (σ : L2.St) (H : Hp) (Φ : Addr → Hp → Prop) : Prop := ∀ H1, Gx H H1 → ∀ Q : VK, (∀ p H2, Gx H1 H2 → H1 p = none → Φ p H2 → Q (.ref p) H2) → te σ H1 Q
section
variable {K : PySem.W.Frag} {σ : L2.St} {H H' : Hp} {te ta tb : TE} {tr : TA} {Φ Φ' : Ty} {v : V} {Q : VK}
theorem EvN.use {Φ : Addr → Hp → Prop} (h : EvN te σ H Φ) (k : ∀ p H2, Gx H H2 → H p = none → Φ p H2 → Q (.ref p) H2) : te σ H Q := h H (Gx.refl H) Q k
theorem EvN.g {Φ : Addr → Hp → Prop} (h : EvN te σ H Φ) (k : ∀ p H1 H2, Gx H H1 → H1 p = none → Gx H1 H2 → Φ p H2 → Φ' (.ref p) H2) : EvG te σ H Φ' := fun H1 e Q q => h H1 e Q fun p H2 e2 n f => q _ H2 e2 (k p H1 H2 e n e2 f)
theorem evg_I {P R : Int → Prop} {C : Int → Int → Prop} {g : Int → Int → V} (ha : EvG ta σ H (IntT P)) (hb : EvG tb σ H (IntT R)) (hc : ∀ i j, P i → R j → C i j) (m : ∀ i j, P i → R j → ∀ H1, Gx H H1 → Φ (g i j) H1) : EvG (tOp (rI C g) ta tb) σ H Φ := fun H1 e Q q =>
  ha H1 e _ fun _ H2 e2 ⟨i, z, p⟩ => hb H2 (e.trans e2) _ fun _ H3 e3 ⟨j, z2, r⟩ => ⟨i, j, z, z2, hc i j p r, q _ H3 (e2.trans e3) (m i j p r H3 ((e.trans e2).trans e3))⟩
theorem evg_I0 {P R : Int → Prop} {g : Int → Int → V} (ha : EvG ta σ H (IntT P)) (hb : EvG tb σ H (IntT R)) (m : ∀ i j, P i → R j → ∀ H1, Gx H H1 → Φ (g i j) H1) : EvG (tOp (rI0 g) ta tb) σ H Φ := fun H1 e Q q =>
  ha H1 e _ fun _ H2 e2 ⟨i, z, p⟩ => hb H2 (e.trans e2) _ fun _ H3 e3 ⟨j, z2, r⟩ => ⟨i, j, z, z2, q _ H3 (e2.trans e3) (m i j p r H3 ((e.trans e2).trans e3))⟩
theorem evg_U {P : Int → Prop} {g : Int → V} (ha : EvG ta σ H (IntT P)) (m : ∀ i, P i → ∀ H1, Gx H H1 → Φ (g i) H1) : EvG (tUn (rU g) ta) σ H Φ := fun H1 e Q q =>
  ha H1 e _ fun _ H2 e2 ⟨i, z, p⟩ => ⟨i, z, q _ H2 e2 (m i p H2 (e.trans e2))⟩
theorem evg_i (i : Int) : EvG (tC (.int i)) σ H (IntT fun j => j = i) := evg_c fun _ _ => ⟨i, rfl, rfl⟩
theorem evg_vi {n : Nat} {i : Int} (h : σ[n]? = some (some (.int i))) : EvG (tVar n) σ H (IntT fun j => j = i) := evg_var h fun _ _ => ⟨i, rfl, rfl⟩
theorem evn_lst {Ψ : List V → Hp → Prop} {Φ : Addr → Hp → Prop} (h : EvGs tr σ H Ψ) (hl : ∀ vs H1, Ψ vs H1 → vs.length ≤ 100000) (m : ∀ vs p H1 H2, Gx H H1 → Ψ vs H1 → Gx H1 H2 → H1 p = none → H2 p = some (.lst vs) → Φ p H2) : EvN (tLst tr) σ H Φ := fun H1 e Q q =>
  h H1 e _ fun vs H2 e2 g => ⟨Evl.sz_of (hl vs H2 g), fun p hp => q _ _ (e2.trans (Gx.new hp)) (e2.free hp) (m vs p H2 _ (e.trans e2) g (Gx.new hp) hp upd_same)⟩
theorem evn_tup {Ψ : List V → Hp → Prop} {Φ : Addr → Hp → Prop} (h : EvGs tr σ H Ψ) (hl : ∀ vs H1, Ψ vs H1 → vs.length ≤ 100000) (m : ∀ vs p H1 H2, Gx H H1 → Ψ vs H1 → Gx H1 H2 → H1 p = none → H2 p = some (.tup vs) → Φ p H2) : EvN (tTup tr) σ H Φ := fun H1 e Q q =>
  h H1 e _ fun vs H2 e2 g => ⟨Evl.sz_of (hl vs H2 g), fun p hp => q _ _ (e2.trans (Gx.new hp)) (e2.free hp) (m vs p H2 _ (e.trans e2) g (Gx.new hp) hp upd_same)⟩
/-- a list of things of one kind, at a place -/
def Lof (Φ : Ty) (n : Nat) : Addr → Hp → Prop := fun p H => ∃ xs, H p = some (.lst xs) ∧ AllT Φ n xs H
def LofT (Φ : Ty) (n : Nat) : Ty := fun v H => ∃ p, v = .ref p ∧ Lof Φ n p H
theorem Lof.mono {n : Nat} {p : Addr} (m : Mono Φ) (e : Gx H H') (h : Lof Φ n p H) : Lof Φ n p H' := by
  obtain ⟨xs, h1, h2⟩ := h
  exact ⟨xs, e _ _ h1, h2.mono m e⟩
theorem LofT.mono {n : Nat} (m : Mono Φ) : Mono (LofT Φ n) := fun _ _ _ e ⟨p, h1, h2⟩ => ⟨p, h1, h2.mono m e⟩
theorem evn_all {n : Nat} (m : Mono Φ) (h : EvGs tr σ H (AllT Φ n)) (hn : n ≤ 100000) : EvN (tLst tr) σ H (Lof Φ n) :=
  evn_lst h (fun vs _ g => by rw [g.1]; exact hn) fun vs p _ _ _ g e2 _ hp => ⟨vs, hp, g.mono m e2⟩
theorem evg_all {n : Nat} (m : Mono Φ) (h : EvGs tr σ H (AllT Φ n)) (hn : n ≤ 100000) : EvG (tLst tr) σ H (LofT Φ n) := (evn_all m h hn).g fun p _ _ _ _ _ f => ⟨p, rfl, f⟩
theorem evn_cat {n k : Nat} (m : Mono Φ) (ha : EvG ta σ H (LofT Φ n)) (hb : EvG tb σ H (LofT Φ k)) (hn : n + k ≤ 100000) : EvN (tOp rCat ta tb) σ H (Lof Φ (n + k)) := fun H1 e Q q =>
  ha H1 e _ fun _ H2 e2 ⟨a, z, fa⟩ => hb H2 (e.trans e2) _ fun _ H3 e3 ⟨b, z2, ys, h1, h2⟩ => by
    obtain ⟨xs, h3, h4⟩ := fa.mono m e3
    refine ⟨a, b, xs, ys, z, z2, h3, h1, Evl.sz_of (by rw [h4.1, h2.1]; exact hn), fun p hp => q p _ ((e2.trans e3).trans (Gx.new hp)) ((e2.trans e3).free hp) ⟨_, upd_same, ?_⟩⟩
    refine ⟨by rw [List.length_append, h4.1, h2.1], fun x hx => m _ _ _ (Gx.new hp) ?_⟩
    rcases List.mem_append.mp hx with hx | hx
    · exact h4.2 x hx
    · exact h2.2 x hx
end

/-! ### the promises of the dice's defs -/
def spDice0 (K : PySem.W.Frag) : Sp := fun vs H Q _ => ∃ (a : Addr) (ns : List Int) (n : Nat), vs = [.ref a, .int n] ∧ SqL K H a (ns.map V.int) ∧
  ∀ p x y z, H p = none → Q (.ref p) (upd H p (three x y z))
def spDice (K : PySem.W.Frag) : Sp := fun vs H Q _ => ∃ (a : Addr) (ns : List Int) (n : Nat), vs = [.ref a, .int n] ∧ SqL K H a (ns.map V.int) ∧
  ∀ p, H p = none → Q (.ref p) (upd H p (diceO p))
def spRoll0 : Sp := fun vs H Q _ => ∃ (p : Addr) (t a b c : Int), vs = [.ref p, .int t] ∧ 0 < t ∧ t < 1073741824 ∧ H p = some (three a b c) ∧
  ∀ r a' b' c', 0 ≤ r → r < t → Q (.int r) (upd H p (three a' b' c'))
def spRoll : Sp := fun vs H Q _ => ∃ (p : Addr) (t : Int), vs = [.ref p, .int t] ∧ 0 < t ∧ t < 1073741824 ∧ H p = some (diceO p) ∧ ∀ r, 0 ≤ r → r < t → Q (.int r) H
def spPick (K : PySem.W.Frag) : Sp := fun vs H Q _ => ∃ (p l : Addr) (xs : List V), vs = [.ref p, .ref l] ∧ H p = some (diceO p) ∧ SqL K H l xs ∧ 0 < xs.length ∧ xs.length < 1073741824 ∧ ∀ (j : Nat) x, xs[j]? = some x → Q x H
section
variable {K : PySem.W.Frag} {σ : L2.St} {H H' : Hp} {td tl : TE} {Φ : Ty} {p : Addr}
def DiceT : Ty := fun v H => ∃ p, v = .ref p ∧ H p = some (diceO p)
theorem DiceT.mono : Mono DiceT := fun _ _ _ e ⟨p, h1, h2⟩ => ⟨p, h1, e _ _ h2⟩
theorem evg_dice {i : Nat} (h : σ[i]? = some (some (.ref p))) (hp : H p = some (diceO p)) : EvG (tVar i) σ H DiceT := evg_var h fun _ e => ⟨p, rfl, e _ _ hp⟩
theorem evg_pick {n : Nat} (hd : EvG td σ H DiceT) (hl : EvG tl σ H (LofT Φ n)) (hn : 0 < n ∧ n ≤ 100000) : EvG (tCall (spPick K) [] E0 (tCons td (tCons tl tNil))) σ H Φ := fun H1 e Q q =>
  hd H1 e _ fun _ H2 e2 ⟨p, z, hp⟩ => hl H2 (e.trans e2) _ fun _ H3 e3 ⟨l, z2, xs, h1, h2⟩ => by
    subst z
    subst z2
    exact ⟨p, l, xs, rfl, e3 _ _ hp, SqL.of h1, by rw [h2.1]; exact hn.1, by rw [h2.1]; omega, fun j x hx => q x H3 (e2.trans e3) (h2.2 x (List.mem_of_getElem? hx))⟩
theorem evg_roll {R : Int → Prop} {tt : TE} (hd : EvG td σ H DiceT) (ht : EvG tt σ H (IntT R)) (hR : ∀ i, R i → 0 < i ∧ i ≤ 100000) (m : ∀ r i, R i → 0 ≤ r → r < i → ∀ H1, Gx H H1 → Φ (.int r) H1) : EvG (tCall spRoll [] E0 (tCons td (tCons tt tNil))) σ H Φ := fun H1 e Q q =>
  hd H1 e _ fun _ H2 e2 ⟨p, z, hp⟩ => ht H2 (e.trans e2) _ fun _ H3 e3 ⟨i, z2, hi⟩ => by
    subst z
    subst z2
    have h := hR i hi
    exact ⟨p, i, rfl, h.1, by omega, e3 _ _ hp, fun r h1 h2 => q _ H3 (e2.trans e3) (m r i hi h1 h2 H3 ((e.trans e2).trans e3))⟩
end

/-! ### statements -/
section
variable {K : PySem.W.Frag} {σ : L2.St} {H : Hp} {te tl : TE} {ta : TA} {tz tu tw tb : TS} {tt : TT} {D : Ends} {Φ : Ty} {i j : Nat}
theorem g_asg (h : EvG te σ H Φ) (k : ∀ v H1, Gx H H1 → Φ v H1 → tz D (σ.set i (some v)) H1) : tSeq (tAsg te (gName i)) tz D σ H := h H (Gx.refl H) _ fun v H1 e f => k v H1 e f
theorem g_asgN {Φ : Addr → Hp → Prop} (h : EvN te σ H Φ) (k : ∀ p H1, Gx H H1 → H p = none → Φ p H1 → tz D (σ.set i (some (.ref p))) H1) : tSeq (tAsg te (gName i)) tz D σ H := h H (Gx.refl H) _ fun v H1 e n f => k v H1 e n f
theorem g_par {Ψ : List V → Hp → Prop} (h : EvGs ta σ H Ψ) (k : ∀ vs H1, Gx H H1 → Ψ vs H1 → ∃ v w, vs = [v, w] ∧ tz D ((σ.set i (some v)).set j (some w)) H1) : tSeq (tPar i j ta) tz D σ H := h H (Gx.refl H) _ fun vs H1 e f => k vs H1 e f
theorem g_ret (h : EvG te σ H Φ) (k : ∀ v H1, Gx H H1 → Φ v H1 → D.rt v H1) : tRet te D σ H := h H (Gx.refl H) _ fun v H1 e f => k v H1 e f
theorem g_drop (h : EvG te σ H Φ) (k : ∀ v H1, Gx H H1 → Φ v H1 → tz D σ H1) : tSeq (tDrop te) tz D σ H := h H (Gx.refl H) _ fun v H1 e f => k v H1 e f
/-- a test -/
def EvB (tt : TT) (σ : L2.St) (H : Hp) (R : Bool → Prop) : Prop := ∀ H1, Gx H H1 → ∀ Q : Bool → Hp → Prop, (∀ b H2, Gx H1 H2 → R b → Q b H2) → tt σ H1 Q
theorem g_if {R : Bool → Prop} (h : EvB tt σ H R) (k1 : R true → ∀ H1, Gx H H1 → tu { D with nx := tz D } σ H1) (k2 : R false → ∀ H1, Gx H H1 → tw { D with nx := tz D } σ H1) : tSeq (tIfS tt tu tw) tz D σ H := h H (Gx.refl H) _ fun b H1 e f => by
  cases b with
  | true => exact iteT (k1 f H1 e)
  | false => exact iteF (k2 f H1 e)
theorem g_when {R : Bool → Prop} (h : EvB tt σ H R) (k1 : R true → ∀ H1, Gx H H1 → tu { D with nx := tz D } σ H1) (k2 : R false → ∀ H1, Gx H H1 → tz D σ H1) : tSeq (tIfS tt tu tNext) tz D σ H := g_if h k1 k2
theorem g_when1 {R : Bool → Prop} (h : EvB tt σ H R) (k1 : R true → ∀ H1, Gx H H1 → tu D σ H1) (k2 : R false → ∀ H1, Gx H H1 → D.nx σ H1) : tIfS tt tu tNext D σ H := h H (Gx.refl H) _ fun b H1 e f => by
  cases b with
  | true => exact iteT (k1 f H1 e)
  | false => exact iteF (k2 f H1 e)
theorem evb_test {R : Bool → Prop} (h : EvG te σ H (BlT R)) : EvB (tTest te) σ H R := fun H1 e Q q => h H1 e _ fun v H2 e2 ⟨b, z, r⟩ => ⟨b, z, q b H2 e2 r⟩
theorem evb_B {R : Bool → Prop} (h : EvG te σ H (BlT R)) : EvB (tB te) σ H R := fun H1 e Q q => h H1 e _ fun v H2 e2 ⟨b, z, r⟩ => ⟨b, z, q b H2 e2 r⟩
/-- for x in a new list of things of one kind; Pv is kept from turn to turn -/
theorem g_forN {n : Nat} (h : EvN tl σ H (Lof Φ n)) (Pv : Addr → List V → Nat → L2.St → Hp → Prop)
    (h0 : ∀ p xs H1, Gx H H1 → H p = none → H1 p = some (.lst xs) → AllT Φ n xs H1 → Pv p xs 0 σ H1) (hl : ∀ p xs i σ' H', Pv p xs i σ' H' → SqL K H' p xs)
    (hs : ∀ p xs i x σ' H', xs[i]? = some x → Pv p xs i σ' H' → tb { D with nx := Pv p xs (i + 1), ct := Pv p xs (i + 1), bk := fun σ H => tz D σ H } (σ'.set j (some x)) H')
    (hd : ∀ p xs σ' H', Pv p xs n σ' H' → tz D σ' H') : tSeq (tFor (iList K tl) (gName j) tb) tz D σ H := h H (Gx.refl H) _ fun p H1 e nw ⟨xs, h1, h2⟩ => by
  refine ⟨p, rfl, ⟨xs, SqL.of h1⟩, for_list (K := K) (a := p) (xs := xs) (D := { D with nx := tz D }) (Pv p xs) (h0 p xs H1 e nw h1 h2) (fun i σ H _ q => hl p xs i σ H q) (fun i x σ' H' hx q => hs p xs i x σ' H' hx q) fun σ' H' q => hd p xs σ' H' ?_⟩
  rw [h2.1] at q
  exact q
theorem g_forL {n : Nat} (h : EvG tl σ H (LofT Φ n)) (Pv : Addr → List V → Nat → L2.St → Hp → Prop)
    (h0 : ∀ p xs H1, Gx H H1 → H1 p = some (.lst xs) → AllT Φ n xs H1 → Pv p xs 0 σ H1) (hl : ∀ p xs i σ' H', Pv p xs i σ' H' → SqL K H' p xs)
    (hs : ∀ p xs i x σ' H', xs[i]? = some x → Pv p xs i σ' H' → tb { D with nx := Pv p xs (i + 1), ct := Pv p xs (i + 1), bk := fun σ H => tz D σ H } (σ'.set j (some x)) H')
    (hd : ∀ p xs σ' H', Pv p xs n σ' H' → tz D σ' H') : tSeq (tFor (iList K tl) (gName j) tb) tz D σ H := h H (Gx.refl H) _ fun v H1 e ⟨p, z, xs, h1, h2⟩ => by
  refine ⟨p, z, ⟨xs, SqL.of h1⟩, for_list (K := K) (a := p) (xs := xs) (D := { D with nx := tz D }) (Pv p xs) (h0 p xs H1 e h1 h2) (fun i σ H _ q => hl p xs i σ H q) (fun i x σ' H' hx q => hs p xs i x σ' H' hx q) fun σ' H' q => hd p xs σ' H' ?_⟩
  rw [h2.1] at q
  exact q
/-- for x in range(..) -/
theorem g_forR {R : Int → Prop} (h : EvGs ta σ H (fun vs _ => ∃ k, vs = [.int k] ∧ R k)) (hR : ∀ k, R k → 0 ≤ k ∧ k ≤ 1000000) (Pv : Nat → L2.St → Hp → Prop)
    (h0 : ∀ H1, Gx H H1 → Pv 0 σ H1)
    (hs : ∀ (i : Nat) σ' H', (∃ k, R k ∧ (i : Int) < k) → Pv i σ' H' → tb { D with nx := Pv (i + 1), ct := Pv (i + 1), bk := fun σ H => tz D σ H } (σ'.set j (some (.int i))) H')
    (hd : ∀ (i : Nat) σ' H', R i → Pv i σ' H' → tz D σ' H') : tSeq (tFor (iRng1 ta) (gName j) tb) tz D σ H := h H (Gx.refl H) _ fun vs H1 e ⟨k, z, r⟩ => by
  have hk := hR k r
  refine ⟨k, z, by omega, by omega, for_range (D := { D with nx := tz D }) Pv (h0 H1 e) (fun i σ' H' hi q => ?_) fun σ' H' q => hd k.toNat σ' H' (by rw [show ((k.toNat : Nat) : Int) = k by omega]; exact r) q⟩
  have := hs i σ' H' ⟨k, r, by omega⟩ q
  rw [show (0 : Int) + (i : Int) = (i : Int) by omega]
  exact this
theorem g_forR1 {R : Int → Prop} (h : EvGs ta σ H (fun vs _ => ∃ k, vs = [.int k] ∧ R k)) (hR : ∀ k, R k → 0 ≤ k ∧ k ≤ 1000000) (Pv : Nat → L2.St → Hp → Prop)
    (h0 : ∀ H1, Gx H H1 → Pv 0 σ H1)
    (hs : ∀ (i : Nat) σ' H', (∃ k, R k ∧ (i : Int) < k) → Pv i σ' H' → tb { D with nx := Pv (i + 1), ct := Pv (i + 1), bk := D.nx } (σ'.set j (some (.int i))) H')
    (hd : ∀ (i : Nat) σ' H', R i → Pv i σ' H' → D.nx σ' H') : tFor (iRng1 ta) (gName j) tb D σ H := h H (Gx.refl H) _ fun vs H1 e ⟨k, z, r⟩ => by
  have hk := hR k r
  refine ⟨k, z, by omega, by omega, for_range (D := D) Pv (h0 H1 e) (fun i σ' H' hi q => ?_) fun σ' H' q => hd k.toNat σ' H' (by rw [show ((k.toNat : Nat) : Int) = k by omega]; exact r) q⟩
  have := hs i σ' H' ⟨k, r, by omega⟩ q
  rw [show (0 : Int) + (i : Int) = (i : Int) by omega]
  exact this
end
/-- isinstance(x, T) -/
theorem evg_isi {K : PySem.W.Frag} {σ : L2.St} {H : Hp} {te : TE} {n : String} {R : Bool → Prop} (h : EvG te σ H (fun v H => ∃ k, Pl K H v k ∧ R (kdIs k n))) (hn : n ∈ asked) : EvG (tCB (rIsi K) (tCons te (tCons (tC (.ty n)) tNil))) σ H (BlT R) := fun H1 e Q q =>
  h H1 e _ fun v H2 e2 ⟨k, p, r⟩ => by
    obtain ⟨t, ty, kt⟩ := p.isi hn
    exact ⟨v, .ty n, t, .type n, _, rfl, .ty n, ty, kt, q _ H2 e2 ⟨_, rfl, r⟩⟩

/-! ### what is walked, and comprehensions -/
/-- n turns; the item of turn i and the heap with it meet Y i -/
def EvW (wi : TI) (σ : L2.St) (H : Hp) (n : Nat) (Y : Nat → Ty) : Prop := ∀ H1, Gx H H1 → ∀ R : It → Hp → Prop, (∀ J H2 G Y', Gx H1 H2 → Walk J n G Y' → (∀ H3, Gx H2 H3 → G H3) →
  (∀ i H3 x H4, i < n → Gx H2 H3 → Y' i H3 x H4 → Gx H3 H4 ∧ Y i x H4) → R J H2) → wi σ H1 R
section
variable {K : PySem.W.Frag} {σ : L2.St} {H : Hp} {te tl : TE} {ta : TA} {Φ : Ty}
theorem evw_list {n : Nat} (m : Mono Φ) (h : EvG tl σ H (LofT Φ n)) : EvW (iList K tl) σ H n (fun _ => Φ) := fun H1 e R q =>
  h H1 e _ fun v H2 e2 ⟨p, z, xs, h1, h2⟩ => ⟨p, z, ⟨xs, SqL.of h1⟩, q (Itl K p) H2 (fun H => SqL K H p xs) (YAt xs) e2 (by rw [← h2.1]; exact walk_list (xs := xs)) (fun H3 e3 => SqL.of (e3 _ _ h1))
    (fun i H3 x H4 _ e3 ⟨z4, hx⟩ => by subst z4; exact ⟨Gx.refl _, m _ _ _ e3 (h2.2 x (List.mem_of_getElem? hx))⟩)⟩
/-- a known list, item by item -/
theorem evw_listAt {xs : List V} (h : EvG tl σ H (fun v H => ∃ p, v = .ref p ∧ SqL K H p xs)) : EvW (iList K tl) σ H xs.length (fun i x _ => xs[i]? = some x) := fun H1 e R q =>
  h H1 e _ fun v H2 e2 ⟨p, z, h1⟩ => ⟨p, z, ⟨xs, h1⟩, q _ H2 _ _ e2 (walk_list (xs := xs)) (fun H3 e3 => Gx.l e3 h1)
    (fun i H3 x H4 _ e3 ⟨z4, hx⟩ => by subst z4; exact ⟨Gx.refl _, hx⟩)⟩
theorem evw_tupAt {xs : List V} (h : EvG tl σ H (fun v H => ∃ p, v = .ref p ∧ SqT K H p xs)) : EvW (iTup K tl) σ H xs.length (fun i x _ => xs[i]? = some x) := fun H1 e R q =>
  h H1 e _ fun v H2 e2 ⟨p, z, h1⟩ => ⟨p, z, ⟨xs, h1⟩, q _ H2 _ _ e2 (walk_tup (xs := xs)) (fun H3 e3 => Gx.t e3 h1)
    (fun i H3 x H4 _ e3 ⟨z4, hx⟩ => by subst z4; exact ⟨Gx.refl _, hx⟩)⟩
theorem evw_str {z : Str} (h : EvG te σ H (fun v _ => v = .str z)) : EvW (iStr te) σ H z.cps.size (fun i x _ => ∃ c, z.cps[i]? = some c ∧ x = .str ⟨#[c]⟩) := fun H1 e R q =>
  h H1 e _ fun v H2 e2 hv => ⟨z, hv, q _ H2 _ _ e2 (walk_str (z := z)) (fun _ _ => trivial) (fun i H3 x H4 _ _ ⟨z4, c, h1, h2⟩ => by subst z4; exact ⟨Gx.refl _, c, h1, h2⟩)⟩
theorem evw_rng {k : Int} (h : EvGs ta σ H (fun vs _ => vs = [.int k])) (hk : k ≤ 100000 ∧ -100000 ≤ k) : EvW (iRng1 ta) σ H k.toNat (fun i x _ => x = .int i) := fun H1 e R q =>
  h H1 e _ fun vs H2 e2 hv => ⟨k, hv, by omega, by omega, q _ H2 _ _ e2 (walk_range (lo := 0) (n := k.toNat)) (fun _ _ => trivial) (fun i H3 x H4 _ _ ⟨z4, hx⟩ => by subst z4; exact ⟨Gx.refl _, hx.trans (by show V.int (0 + (i : Int)) = V.int i; rw [Int.zero_add])⟩)⟩
end
/-- what a comprehension gives: the items whose test holds, in order -/
inductive LcR (B : Nat → Bool → Prop) (R : Nat → Ty) (H : Hp) : Nat → List V → Prop
  | nil : LcR B R H 0 []
  | keep {n : Nat} {ys : List V} {y : V} : LcR B R H n ys → B n true → R n y H → LcR B R H (n + 1) (ys ++ [y])
  | skip {n : Nat} {ys : List V} : LcR B R H n ys → B n false → LcR B R H (n + 1) ys
theorem LcR.firm {B : Nat → Bool → Prop} {R : Nat → Ty} {H H' : Hp} (m : ∀ i, Firm (R i)) (e : Kx H H') {n : Nat} {ys : List V} (h : LcR B R H n ys) : LcR B R H' n ys := by
  induction h with
  | nil => exact .nil
  | keep _ b r ih => exact .keep ih b (m _ _ _ _ e r)
  | skip _ b ih => exact .skip ih b
theorem LcR.gx {B : Nat → Bool → Prop} {R : Nat → Ty} {H H' : Hp} (m : ∀ i, Mono (R i)) (e : Gx H H') {n : Nat} {ys : List V} (h : LcR B R H n ys) : LcR B R H' n ys := by
  induction h with
  | nil => exact .nil
  | keep _ b r ih => exact .keep ih b (m _ _ _ _ e r)
  | skip _ b ih => exact .skip ih b
theorem LcR.len {B : Nat → Bool → Prop} {R : Nat → Ty} {H : Hp} {n : Nat} {ys : List V} (h : LcR B R H n ys) : ys.length ≤ n := by
  induction h with
  | nil => exact Nat.le_refl 0
  | keep _ _ _ ih =>
    rw [List.length_append]
    show _ + 1 ≤ _
    omega
  | skip _ _ ih => omega
/-- without a test: item by item -/
theorem LcR.all {B : Nat → Bool → Prop} {R : Nat → Ty} {H : Hp} {n : Nat} {ys : List V} (h : LcR B R H n ys) (hB : ∀ i, ¬ B i false) : ys.length = n ∧ ∀ i y, ys[i]? = some y → R i y H := by
  induction h with
  | nil => exact ⟨rfl, fun i y e => by simp at e⟩
  | @keep n ys y _ _ r ih =>
    refine ⟨by rw [List.length_append, ih.1]; rfl, fun i z e => ?_⟩
    by_cases hi : i < ys.length
    · rw [List.getElem?_append_left hi] at e
      exact ih.2 i z e
    · rw [List.getElem?_append_right (by omega)] at e
      have h0 : i - ys.length = 0 := by
        cases q : i - ys.length with
        | zero => rfl
        | succ m => rw [q] at e; simp at e
      rw [h0] at e
      cases e
      have : i = n := by rw [← ih.1]; omega
      rw [this]
      exact r
  | skip _ b _ => exact absurd b (hB _)
section
variable {K : PySem.W.Frag} {σ : L2.St} {H : Hp} {te : TE} {wi : TI} {g : TG} {tt : TT} {vs : List Nat} {n : Nat}
theorem evn_lc {Y : Nat → Ty} {S : Nat → L2.St → Hp → Prop} {B : Nat → Bool → Prop} {R : Nat → Ty} (hw : EvW wi σ H n Y) (hn : n ≤ 100000)
    (hg : ∀ i x H1, i < n → Gx H H1 → Y i x H1 → ∀ Q : L2.St → Hp → Prop, (∀ σ2, wipe σ2 vs = wipe σ vs → S i σ2 H1 → Q σ2 H1) → g x (wipe σ vs) H1 Q)
    (ht : ∀ i σ2 H1, i < n → Gx H H1 → S i σ2 H1 → EvB tt σ2 H1 (B i)) (ms : ∀ i σ2 H1 H2, Gx H1 H2 → S i σ2 H1 → S i σ2 H2)
    (he : ∀ i σ2 H1, i < n → Gx H H1 → S i σ2 H1 → B i true → EvG te σ2 H1 (R i)) (m : ∀ i, Firm (R i)) :
    EvN (tLc wi g tt te vs) σ H (fun p H' => ∃ ys, H' p = some (.lst ys) ∧ LcR B R H' n ys) := by
  intro H1 e Q q
  refine hw H1 e _ fun J H2 G Y' e2 W hG hY => ?_
  intro D hD
  refine lc_it W (fun i H' => Gx H2 H' ∧ i ≤ n ∧ ∃ ys, H' D = some (.lst ys) ∧ LcR B R H' i ys) ⟨Gx.new hD, Nat.zero_le _, [], upd_same, .nil⟩ (fun i H' _ p => hG H' p.1) ?_ ?_
  · rintro i x H3 H4 hi ⟨e3, _, ys, hys, L⟩ y
    obtain ⟨e4, y⟩ := hY i H3 x H4 hi e3 y
    have e5 := ((e.trans e2).trans e3).trans e4
    refine hg i x H4 hi e5 y _ fun σ2 w s2 => ⟨w, ht i σ2 H4 hi e5 s2 H4 (Gx.refl _) _ fun b H5 e6 hb => ?_⟩
    cases b with
    | true =>
      refine iteT (he i σ2 H5 hi (e5.trans e6) (ms i σ2 H4 H5 e6 s2) hb H5 (Gx.refl _) _ fun y H6 e7 r => ?_)
      have e8 := (e4.trans e6).trans e7
      have hD6 := e8 _ _ hys
      refine ⟨ys, hD6, Evl.sz_lt (by have := L.len; omega), (e3.trans e8).mut hD, hi, ys ++ [y], upd_same, .keep (L.firm m (e8.k.trans (Kx.put hD6))) hb (m _ _ _ _ (Kx.put hD6) r)⟩
    | false =>
      have e8 := e4.trans e6
      exact iteF ⟨e3.trans e8, hi, ys, e8 _ _ hys, .skip (L.firm m e8.k) hb⟩
  · rintro H3 ⟨e3, _, ys, h, L⟩
    exact q D H3 (e2.trans e3) (e2.free hD) ⟨ys, h, L⟩
theorem wipe1 {j : Nat} {x : Option V} : wipe ((wipe σ [j]).set j x) [j] = wipe σ [j] := by
  show ((σ.set j none).set j x).set j none = σ.set j none
  rw [List.set_set, List.set_set]
/-- the target a name -/
theorem evn_lcN {j : Nat} {Y : Nat → Ty} {B : Nat → Bool → Prop} {R : Nat → Ty} (hw : EvW wi σ H n Y) (hn : n ≤ 100000) (my : ∀ i, Mono (Y i))
    (ht : ∀ i x H1, i < n → Gx H H1 → Y i x H1 → EvB tt ((wipe σ [j]).set j (some x)) H1 (B i))
    (he : ∀ i x H1, i < n → Gx H H1 → Y i x H1 → B i true → EvG te ((wipe σ [j]).set j (some x)) H1 (R i)) (m : ∀ i, Firm (R i)) :
    EvN (tLc wi (gName j) tt te [j]) σ H (fun p H' => ∃ ys, H' p = some (.lst ys) ∧ LcR B R H' n ys) :=
  evn_lc (S := fun i σ2 H => ∃ x, σ2 = (wipe σ [j]).set j (some x) ∧ Y i x H) hw hn (fun i x H1 _ _ y Q q => q _ wipe1 ⟨x, rfl, y⟩) (fun i σ2 H1 hi e ⟨x, z, y⟩ => by subst z; exact ht i x H1 hi e y)
    (fun i σ2 H1 H2 e ⟨x, z, y⟩ => ⟨x, z, my i _ _ _ e y⟩) (fun i σ2 H1 hi e ⟨x, z, y⟩ b => by subst z; exact he i x H1 hi e y b) m
theorem evb_yes {σ : L2.St} {H : Hp} : EvB tYes σ H (fun b => b = true) := fun H1 _ _ q => q true H1 (Gx.refl _) rfl
/-- .. and no test -/
theorem evn_lcA {j : Nat} {Y : Nat → Ty} {R : Nat → Ty} (hw : EvW wi σ H n Y) (hn : n ≤ 100000) (my : ∀ i, Mono (Y i))
    (he : ∀ i x H1, i < n → Gx H H1 → Y i x H1 → EvG te ((wipe σ [j]).set j (some x)) H1 (R i)) (m : ∀ i, Firm (R i)) :
    EvN (tLc wi (gName j) tYes te [j]) σ H (fun p H' => ∃ ys, H' p = some (.lst ys) ∧ ys.length = n ∧ ∀ i y, ys[i]? = some y → R i y H') := by
  intro H1 e Q q
  refine evn_lcN (B := fun _ b => b = true) hw hn my (fun i x H1 _ _ _ => evb_yes) (fun i x H1 hi e y _ => he i x H1 hi e y) m H1 e Q fun p H2 e2 n2 ⟨ys, h, L⟩ => ?_
  exact q p H2 e2 n2 ⟨ys, h, L.all fun _ z => by cases z⟩
end

/-! ### truth values -/
abbrev BlE (b : Bool) : Ty := BlT fun c => c = b
section
variable {K : PySem.W.Frag} {σ : L2.St} {H : Hp} {ta tb tc : TE} {a b : Bool} {t u : TT}
theorem evg_andV (h1 : EvG ta σ H (BlE a)) (h2 : a = true → ∀ H1, Gx H H1 → EvG tb σ H1 (BlE b)) : EvG (tAndV ta tb) σ H (BlE (a && b)) := fun H1 e Q q =>
  h1 H1 e _ fun v H2 e2 ⟨c, z, hc⟩ => ⟨c, z, by
    subst hc
    cases c with
    | true => exact iteT (h2 rfl H2 (e.trans e2) H2 (Gx.refl _) Q fun v H3 e3 f => q v H3 (e2.trans e3) f)
    | false => exact iteF (q _ H2 e2 ⟨false, rfl, rfl⟩)⟩
theorem evg_orV (h1 : EvG ta σ H (BlE a)) (h2 : a = false → ∀ H1, Gx H H1 → EvG tb σ H1 (BlE b)) : EvG (tOrV ta tb) σ H (BlE (a || b)) := fun H1 e Q q =>
  h1 H1 e _ fun v H2 e2 ⟨c, z, hc⟩ => ⟨c, z, by
    subst hc
    cases c with
    | true => exact iteT (q _ H2 e2 ⟨true, rfl, rfl⟩)
    | false => exact iteF (h2 rfl H2 (e.trans e2) H2 (Gx.refl _) Q fun v H3 e3 f => q v H3 (e2.trans e3) f)⟩
theorem evg_notV (h1 : EvG ta σ H (BlE a)) : EvG (tNotV ta) σ H (BlE (!a)) := fun H1 e Q q =>
  h1 H1 e _ fun v H2 e2 ⟨c, z, hc⟩ => ⟨c, z, q _ H2 e2 ⟨_, rfl, by rw [hc]⟩⟩
theorem evb_and (h1 : EvB t σ H (fun c => c = a)) (h2 : a = true → ∀ H1, Gx H H1 → EvB u σ H1 (fun c => c = b)) : EvB (tAnd t u) σ H (fun c => c = (a && b)) := fun H1 e Q q =>
  h1 H1 e _ fun c H2 e2 hc => by
    subst hc
    cases c with
    | true => exact iteT (h2 rfl H2 (e.trans e2) H2 (Gx.refl _) Q fun v H3 e3 f => q v H3 (e2.trans e3) f)
    | false => exact iteF (q _ H2 e2 rfl)
theorem evb_or (h1 : EvB t σ H (fun c => c = a)) (h2 : a = false → ∀ H1, Gx H H1 → EvB u σ H1 (fun c => c = b)) : EvB (tOr t u) σ H (fun c => c = (a || b)) := fun H1 e Q q =>
  h1 H1 e _ fun c H2 e2 hc => by
    subst hc
    cases c with
    | true => exact iteT (q _ H2 e2 rfl)
    | false => exact iteF (h2 rfl H2 (e.trans e2) H2 (Gx.refl _) Q fun v H3 e3 f => q v H3 (e2.trans e3) f)
theorem evb_not (h1 : EvB t σ H (fun c => c = a)) : EvB (tNot t) σ H (fun c => c = !a) := fun H1 e Q q =>
  h1 H1 e _ fun c H2 e2 hc => q _ H2 e2 (by rw [hc])
/-- a < b < c and its like, of ints -/
theorem evg_chain {f g : Int → Int → Bool} {i j k : Int} (ha : EvG ta σ H (IntT fun x => x = i)) (hb : EvG tb σ H (IntT fun x => x = j)) (hc : EvG tc σ H (IntT fun x => x = k)) :
    EvG (tChain (rI0 fun i j => .bl (f i j)) (rI0 fun i j => .bl (g i j)) ta tb tc) σ H (BlE (f i j && g j k)) := fun H1 e Q q =>
  ha H1 e _ fun v H2 e2 ⟨x, z, hx⟩ => hb H2 (e.trans e2) _ fun v2 H3 e3 ⟨y, z2, hy⟩ => ⟨x, y, z, z2, _, rfl, by
    subst hx
    subst hy
    cases q1 : f x y with
    | true =>
      refine iteT (hc H3 ((e.trans e2).trans e3) _ fun v3 H4 e4 ⟨w, z3, hw⟩ => ⟨y, w, z2, z3, ?_⟩)
      have hw : w = k := hw
      exact q _ H4 ((e2.trans e3).trans e4) ⟨_, rfl, by rw [q1, hw, Bool.true_and]⟩
    | false => exact iteF (q _ H3 (e2.trans e3) ⟨false, rfl, by rw [q1, Bool.false_and]⟩)⟩
theorem evg_is {Φ : Ty} {a b : Bool} (h : EvG ta σ H (BlE a)) (e : a = b) : EvG ta σ H (BlE b) := by
  subst e
  exact h
end
theorem evg_rAll {K : PySem.W.Frag} {σ : L2.St} {H : Hp} {te : TE} {R : Bool → Prop} (h : EvN te σ H (fun p H' => ∃ bs : List Bool, H' p = some (.lst (bs.map V.bl)) ∧ R (bs.all id))) : EvG (tCB (rAll K) (tCons te tNil)) σ H (BlT R) := fun H1 e Q q =>
  h H1 e _ fun p H2 e2 _ ⟨bs, hp, r⟩ => ⟨p, bs, rfl, SqL.of hp, q _ H2 e2 ⟨_, rfl, r⟩⟩
theorem evg_rAny {K : PySem.W.Frag} {σ : L2.St} {H : Hp} {te : TE} {R : Bool → Prop} (h : EvN te σ H (fun p H' => ∃ bs : List Bool, H' p = some (.lst (bs.map V.bl)) ∧ R (bs.any id))) : EvG (tCB (rAny K) (tCons te tNil)) σ H (BlT R) := fun H1 e Q q =>
  h H1 e _ fun p H2 e2 _ ⟨bs, hp, r⟩ => ⟨p, bs, rfl, SqL.of hp, q _ H2 e2 ⟨_, rfl, r⟩⟩
theorem EvN.imp {σ : L2.St} {H : Hp} {te : TE} {Φ Φ' : Addr → Hp → Prop} (h : EvN te σ H Φ) (i : ∀ p H2, Gx H H2 → Φ p H2 → Φ' p H2) : EvN te σ H Φ' := fun H1 a Q q => h H1 a Q fun p H2 e n f => q p H2 e n (i p H2 (a.trans e) f)
/-- a list of truth values, told item by item -/
theorem bls_of {ys : List V} {n : Nat} {f : Nat → Bool} (hl : ys.length = n) (h : ∀ (i : Nat) (y : V), ys[i]? = some y → y = V.bl (f i)) : ys = ((List.range n).map f).map V.bl := by
  apply List.ext_getElem?
  intro i
  rw [List.map_map, List.getElem?_map]
  cases q : ys[i]? with
  | some y =>
    have hi : i < n := by rw [← hl]; exact (List.getElem?_eq_some_iff.mp q).1
    rw [h i y q, List.getElem?_range hi]
    rfl
  | none =>
    have : ys.length ≤ i := List.getElem?_eq_none_iff.mp q
    rw [List.getElem?_eq_none (by rw [List.length_range]; omega)]
    rfl
theorem of_cps {ys : List V} {a : Array Nat} {f : Nat → V} (hl : ys.length = a.size) (h : ∀ (i : Nat) (y : V), ys[i]? = some y → ∃ c, a[i]? = some c ∧ y = f c) : ys = a.toList.map f := by
  apply List.ext_getElem?
  intro i
  have e : a.toList[i]? = a[i]? := by simp
  rw [List.getElem?_map, e]
  cases q : ys[i]? with
  | some y =>
    obtain ⟨c, hc, rfl⟩ := h i y q
    rw [hc]
    rfl
  | none =>
    have : ys.length ≤ i := List.getElem?_eq_none_iff.mp q
    rw [Array.getElem?_eq_none (by omega)]
    rfl
/-! ### the words of the package, by values -/
def isI : V → Bool
  | .int i => decide (-(10 ^ 60) < i) && decide (i < 10 ^ 60)
  | _ => false
def wthn (x : V) (lo hi : Int) : Bool := match x with
  | .int i => isI x && (decide (lo ≤ i) && decide (i ≤ hi))
  | _ => false
def letters : List Nat := (("abcdefghijklmnopqrstuvwxyz" : Str)).cps.toList
def isW : V → Bool
  | .str z => (decide (1 ≤ (z.length : Int)) && decide ((z.length : Int) ≤ 8)) && z.cps.toList.all fun c => decide (c ∈ letters)
  | _ => false
def isNode2 (s n : V) : Bool := wthn n 0 3 && (isW s || (decide (s = .str "_" ∨ s = .str "#") && decide (n = .int 0)))
/-- no text too long -/
def Small (x : V) : Prop := ∀ z, x = .str z → z.length ≤ 100000
def spIsInt (K : PySem.W.Frag) : Sp := fun vs H Q _ => ∃ x k, vs = [x] ∧ Pl K H x k ∧ Q (.bl (isI x)) H
def spWithin (K : PySem.W.Frag) : Sp := fun vs H Q _ => ∃ x k lo hi, vs = [x, .int lo, .int hi] ∧ Pl K H x k ∧ Q (.bl (wthn x lo hi)) H
def spWord (K : PySem.W.Frag) : Sp := fun vs H Q _ => ∃ x k, vs = [x] ∧ Pl K H x k ∧ Small x ∧ ∀ H', Gx H H' → Q (.bl (isW x)) H'
/-- a value, and whether it is a node -/
inductive NodeIn (K : PySem.W.Frag) (H : Hp) : V → Bool → Prop
  | other {x : V} {k : Kd} : Pl K H x k → k ≠ .tup → NodeIn K H x false
  | size {a : Addr} {xs : List V} : H a = some (.tup xs) → xs.length ≠ 2 → NodeIn K H (.ref a) false
  | pair {a : Addr} {s n : V} {ks kn : Kd} : H a = some (.tup [s, n]) → Pl K H s ks → Pl K H n kn → Small s → NodeIn K H (.ref a) (isNode2 s n)
def spNode (K : PySem.W.Frag) : Sp := fun vs H Q _ => ∃ x b, vs = [x] ∧ NodeIn K H x b ∧ ∀ H', Gx H H' → Q (.bl b) H'

/-! ### things of told kinds, one by one -/
def AtT : List Ty → List V → Hp → Prop
  | [], [], _ => True
  | Φ :: Φs, v :: vs, H => Φ v H ∧ AtT Φs vs H
  | _, _, _ => False
theorem AtT.mono {H H' : Hp} (e : Gx H H') : ∀ {Φs : List Ty} {vs : List V}, (∀ Φ ∈ Φs, Mono Φ) → AtT Φs vs H → AtT Φs vs H'
  | [], [], _, h => h
  | Φ :: Φs, v :: vs, m, h => ⟨m Φ (List.mem_cons_self ..) _ _ _ e h.1, AtT.mono e (fun Φ hp => m Φ (List.mem_cons_of_mem _ hp)) h.2⟩
  | [], _ :: _, _, h => h.elim
  | _ :: _, [], _, h => h.elim
theorem AtT.len {H : Hp} : ∀ {Φs : List Ty} {vs : List V}, AtT Φs vs H → vs.length = Φs.length
  | [], [], _ => rfl
  | Φ :: Φs, v :: vs, h => by rw [List.length_cons, List.length_cons, AtT.len h.2]
  | [], _ :: _, h => h.elim
  | _ :: _, [], h => h.elim
theorem AtT.get {H : Hp} : ∀ {Φs : List Ty} {vs : List V} {i : Nat} {x : V}, AtT Φs vs H → vs[i]? = some x → ∃ Φ, Φs[i]? = some Φ ∧ Φ x H
  | [], [], _, _, _, e => by simp at e
  | Φ :: Φs, v :: vs, 0, x, h, e => by
    simp at e
    subst e
    exact ⟨Φ, rfl, h.1⟩
  | Φ :: Φs, v :: vs, i + 1, x, h, e => by
    obtain ⟨Ψ, h1, h2⟩ := AtT.get (i := i) (x := x) h.2 (by simpa using e)
    exact ⟨Ψ, by simpa using h1, h2⟩
  | [], _ :: _, _, _, h, _ => h.elim
  | _ :: _, [], _, _, h, _ => h.elim
section
variable {K : PySem.W.Frag} {σ : L2.St} {H : Hp} {ta : TE} {tr : TA} {Φ : Ty} {Φs : List Ty}
theorem ats_nil : EvGs tNil σ H (AtT []) := evgs_nil fun _ _ => trivial
theorem ats_cons (m : Mono Φ) (h : EvG ta σ H Φ) (k : ∀ H1, Gx H H1 → EvGs tr σ H1 (AtT Φs)) : EvGs (tCons ta tr) σ H (AtT (Φ :: Φs)) :=
  evgs_cons h fun v H1 e f => fun H2 e2 Q q => k H1 e H2 e2 Q fun vs H3 e3 g => q vs H3 e3 ⟨m _ _ _ (e2.trans e3) f, g⟩
def TupA (Φs : List Ty) : Addr → Hp → Prop := fun p H => ∃ xs, H p = some (.tup xs) ∧ AtT Φs xs H
def LstA (Φs : List Ty) : Addr → Hp → Prop := fun p H => ∃ xs, H p = some (.lst xs) ∧ AtT Φs xs H
def TupT (Φs : List Ty) : Ty := fun v H => ∃ p, v = .ref p ∧ TupA Φs p H
def LstT (Φs : List Ty) : Ty := fun v H => ∃ p, v = .ref p ∧ LstA Φs p H
theorem TupT.mono (m : ∀ Φ ∈ Φs, Mono Φ) : Mono (TupT Φs) := fun _ _ _ e ⟨p, z, xs, h1, h2⟩ => ⟨p, z, xs, e _ _ h1, h2.mono e m⟩
theorem LstT.mono (m : ∀ Φ ∈ Φs, Mono Φ) : Mono (LstT Φs) := fun _ _ _ e ⟨p, z, xs, h1, h2⟩ => ⟨p, z, xs, e _ _ h1, h2.mono e m⟩
theorem evn_tupA (m : ∀ Φ ∈ Φs, Mono Φ) (h : EvGs tr σ H (AtT Φs)) (hn : Φs.length ≤ 100000) : EvN (tTup tr) σ H (TupA Φs) :=
  evn_tup h (fun vs _ g => by rw [g.len]; exact hn) fun vs p _ _ _ g e2 _ hp => ⟨vs, hp, g.mono e2 m⟩
theorem evn_lstA (m : ∀ Φ ∈ Φs, Mono Φ) (h : EvGs tr σ H (AtT Φs)) (hn : Φs.length ≤ 100000) : EvN (tLst tr) σ H (LstA Φs) :=
  evn_lst h (fun vs _ g => by rw [g.len]; exact hn) fun vs p _ _ _ g e2 _ hp => ⟨vs, hp, g.mono e2 m⟩
theorem evg_tupA (m : ∀ Φ ∈ Φs, Mono Φ) (h : EvGs tr σ H (AtT Φs)) (hn : Φs.length ≤ 100000) : EvG (tTup tr) σ H (TupT Φs) := (evn_tupA m h hn).g fun p _ _ _ _ _ f => ⟨p, rfl, f⟩
theorem evg_lstA (m : ∀ Φ ∈ Φs, Mono Φ) (h : EvGs tr σ H (AtT Φs)) (hn : Φs.length ≤ 100000) : EvG (tLst tr) σ H (LstT Φs) := (evn_lstA m h hn).g fun p _ _ _ _ _ f => ⟨p, rfl, f⟩
end
theorem NodeIn.mono {K : PySem.W.Frag} {b : Bool} : Mono (fun v H => NodeIn K H v b) := fun v H H' e h => by
  cases h with
  | other p hk => exact .other (p.gx e) hk
  | size h hl => exact .size (e _ _ h) hl
  | pair h ps pn sm => exact .pair (e _ _ h) (ps.gx e) (pn.gx e) sm
/-- is this value that? -/
abbrev Eq1 (x : V) : Ty := fun v _ => v = x
theorem Eq1.mono {x : V} : Mono (Eq1 x) := fun _ _ _ _ h => h
theorem Eq1.firm {x : V} : Firm (Eq1 x) := fun _ _ _ _ h => h
theorem evg_e {σ : L2.St} {H : Hp} {x : V} : EvG (tC x) σ H (Eq1 x) := evg_c fun _ _ => rfl
theorem evg_ve {σ : L2.St} {H : Hp} {i : Nat} {x : V} (h : σ[i]? = some (some x)) : EvG (tVar i) σ H (Eq1 x) := evg_var h fun _ _ => rfl
/-! ### data -/
mutual
theorem Dp.gx {K : PySem.W.Frag} {H H' : Hp} (e : Gx H H') : ∀ {v : V} {d : PyData}, Dp K H v d → Dp K H' v d
  | _, _, .non => .non
  | _, _, .bl b => .bl b
  | _, _, .int i => .int i
  | _, _, .str x => .str x
  | _, _, .lst h hs => .lst (e.l h) (DpAll.gx e hs)
  | _, _, .tup h hs => .tup (e.t h) (DpAll.gx e hs)
theorem DpAll.gx {K : PySem.W.Frag} {H H' : Hp} (e : Gx H H') : ∀ {vs : List V} {ds : List PyData}, DpAll K H vs ds → DpAll K H' vs ds
  | _, _, .nil => .nil
  | _, _, .cons h hs => .cons (Dp.gx e h) (DpAll.gx e hs)
end

section
variable {K : PySem.W.Frag} {σ : L2.St} {H : Hp} {ta : TE} {tr : TA} {Φ : Ty} {Φs : List Ty} {n : Nat}
/-- the same, over one heap -/
theorem evgs_m (m : Mono Φ) (h : EvG ta σ H Φ) (k : EvGs tr σ H (AllT Φ n)) : EvGs (tCons ta tr) σ H (AllT Φ (n + 1)) := evgs_more m h fun _ e H2 e2 Q q => k H2 (e.trans e2) Q q
theorem ats_c (m : Mono Φ) (h : EvG ta σ H Φ) (k : EvGs tr σ H (AtT Φs)) : EvGs (tCons ta tr) σ H (AtT (Φ :: Φs)) := ats_cons m h fun _ e H2 e2 Q q => k H2 (e.trans e2) Q q
end

/-! ### data, evaluated -/
def DatT (K : PySem.W.Frag) (d : PyData) : Ty := fun v H => Dp K H v d
def DatsT (K : PySem.W.Frag) (ds : List PyData) : List V → Hp → Prop := fun vs H => DpAll K H vs ds
theorem DatT.mono {K : PySem.W.Frag} {d : PyData} : Mono (DatT K d) := fun _ _ _ e h => Dp.gx e h
theorem DpAll.len {K : PySem.W.Frag} {H : Hp} : ∀ {vs : List V} {ds : List PyData}, DpAll K H vs ds → vs.length = ds.length
  | _, _, .nil => rfl
  | _, _, .cons _ hs => by rw [List.length_cons, List.length_cons, DpAll.len hs]
section
variable {K : PySem.W.Frag} {σ : L2.St} {H : Hp} {ta tb : TE} {tr : TA} {d e : PyData} {ds : List PyData}
theorem dats_nil : EvGs tNil σ H (DatsT K []) := evgs_nil fun _ _ => .nil
theorem dats_c (h : EvG ta σ H (DatT K d)) (k : EvGs tr σ H (DatsT K ds)) : EvGs (tCons ta tr) σ H (DatsT K (d :: ds)) :=
  evgs_cons h fun _ _ e f => fun H2 e2 Q q => k H2 (e.trans e2) Q fun vs H3 e3 g => q vs H3 e3 (.cons (Dp.gx (e2.trans e3) f) g)
theorem evg_dlst (h : EvGs tr σ H (DatsT K ds)) (hn : ds.length ≤ 100000) : EvG (tLst tr) σ H (DatT K (.list ds)) :=
  evg_lst h (fun vs _ g => by rw [DpAll.len g]; exact hn) fun vs p H1 H2 g e2 _ hp => .lst (SqL.of hp) (DpAll.gx e2 g)
theorem evg_dtup (h : EvGs tr σ H (DatsT K ds)) (hn : ds.length ≤ 100000) : EvG (tTup tr) σ H (DatT K (.tuple ds)) :=
  evg_tup h (fun vs _ g => by rw [DpAll.len g]; exact hn) fun vs p H1 H2 g e2 _ hp => .tup (SqT.of hp) (DpAll.gx e2 g)
theorem dat_int {i : Int} : EvG (tC (.int i)) σ H (DatT K (.int i)) := evg_c fun _ _ => .int i
theorem dat_bl {i : Bool} : EvG (tC (.bl i)) σ H (DatT K (.bool i)) := evg_c fun _ _ => .bl i
theorem dat_str {i : Str} : EvG (tC (.str i)) σ H (DatT K (.str i)) := evg_c fun _ _ => .str i
theorem dat_non : EvG (tC .non) σ H (DatT K .none) := evg_c fun _ _ => .non
theorem dat_var {i : Nat} {v : V} (h : σ[i]? = some (some v)) (hd : Dp K H v d) : EvG (tVar i) σ H (DatT K d) := evg_var h fun _ e => Dp.gx e hd
theorem dat_of_bl {b : Bool} (h : EvG ta σ H (BlE b)) : EvG ta σ H (DatT K (.bool b)) := h.imp fun v _ _ ⟨c, z, hc⟩ => by
  have hc : c = b := hc
  rw [z, hc]
  exact .bl b
theorem evg_eqD (ha : EvG ta σ H (DatT K d)) (hb : EvG tb σ H (DatT K e)) (sd : SeqAt.shaped d = true) (se : SeqAt.shaped e = true) : EvG (tOp (rEqD K) ta tb) σ H (BlE (PyData.eqv d e)) := fun H1 e1 Q q =>
  ha H1 e1 _ fun v H2 e2 f => hb H2 (e1.trans e2) _ fun v2 H3 e3 g => ⟨d, e, Dp.gx e3 f, g, sd, se, q _ H3 (e2.trans e3) ⟨_, rfl, rfl⟩⟩
theorem evg_neD (ha : EvG ta σ H (DatT K d)) (hb : EvG tb σ H (DatT K e)) (sd : SeqAt.shaped d = true) (se : SeqAt.shaped e = true) : EvG (tOp (rNeD K) ta tb) σ H (BlE (!PyData.eqv d e)) := fun H1 e1 Q q =>
  ha H1 e1 _ fun v H2 e2 f => hb H2 (e1.trans e2) _ fun v2 H3 e3 g => ⟨d, e, Dp.gx e3 f, g, sd, se, q _ H3 (e2.trans e3) ⟨_, rfl, rfl⟩⟩
end
/-- a list of truth values as data -/
theorem dp_bls {K : PySem.W.Frag} {H : Hp} : ∀ bs : List Bool, DpAll K H (bs.map V.bl) (bs.map PyData.bool)
  | [] => .nil
  | b :: bs => .cons (.bl b) (dp_bls bs)
/-- [f(x) for x in ..] with known truth values -/
theorem bls_eq {ys : List V} {bs : List Bool} (hl : ys.length = bs.length) (h : ∀ (i : Nat) (y : V), ys[i]? = some y → ∃ b, bs[i]? = some b ∧ y = V.bl b) : ys = bs.map V.bl := by
  apply List.ext_getElem?
  intro i
  rw [List.getElem?_map]
  cases q : ys[i]? with
  | some y =>
    obtain ⟨b, hb, rfl⟩ := h i y q
    rw [hb]
    rfl
  | none =>
    have : ys.length ≤ i := List.getElem?_eq_none_iff.mp q
    rw [List.getElem?_eq_none (by omega)]
    rfl
end Ly

set_option Elab.async false
set_option maxRecDepth 100000
set_option maxHeartbeats 1000000
namespace K03
open PySem L2 Ly
def top (i : Nat) : Stmt := PySem.Challenge.pw_firstneed_k03_nodes_judged.main.body.getD i (.Pass ⟨0, 0, 0, 0⟩)
structure Txt (K : PySem.W.Frag) (mg : Str → Option Value) : Prop where
  z_len : mg "len" = none
  z_int : mg "int" = none
  z_bool : mg "bool" = none
  z_str : mg "str" = none
  z_tuple : mg "tuple" = none
  z_abs : mg "abs" = none
  z_max : mg "max" = none
  z_min : mg "min" = none
  z_range : mg "range" = none
  z_repr : mg "repr" = none
  z_isinstance : mg "isinstance" = none
  z_all : mg "all" = none
section
variable {P : Program} {w : World} {K : PySem.W.Frag} {mg : Str → Option Value} {base : Heap}
abbrev s_dice : Stmt := top 12
abbrev nm_dice : List Str := ["_law_script", "_law_spot", "_law_cell", "_law_great", "_law_blend"]
abbrev ps_dice : List Str := ["_law_script", "_law_spot"]
theorem sc_dice : FnScope nm_dice ps_dice (defScope s_dice) := ⟨rfl, rfl, rfl, by decide +kernel, rfl, by decide +kernel, by decide +kernel⟩
theorem ok_dice0 {f : Addr} {fd : FuncData} (F : Fun K "_law_dice" "_law_dice" s_dice f fd) (T : Txt K mg) : FnOk P w K mg base CX0 1 f fd ["_law_script", "_law_spot"] (spDice0 K) := by
  have nd := sc_dice.nd
  refine F.ok sc_dice (fun vs H Q E h => ?_) (fun cdv A outer s H vs Q E hr h => ?_)
  · obtain ⟨_, _, _, rfl, _⟩ := h
    rfl
  · obtain ⟨a, ns, n, rfl, hS, k⟩ := h
    refine ⟨_, (pss_cons (ps_set (i := 2) nd rfl (Or.inl rfl) (pe_op op_add (pe_op op_mul pe_int (pv 1)) pe_int))
      (Evl.pss_cut (ps_if (pt_cmpR op_lt (pv 1) (pe_callB call_len_seq (by rfl) T.z_len (by decide +kernel) (pa_cons (pv 0) pa_nil)) (nomark _)) (pss_one (ps_set (i := 2) nd rfl (Or.inl rfl) (pe_ix ix_list (pv 0) (pv 1) (fun _ _ => rfl)))) pss_nil)
      (pss_cons (ps_set (i := 3) nd rfl (Or.inl rfl) (pe_op op_mod (pe_callTy call_int1 (by rfl) T.z_int (by decide +kernel) (pa_cons (pe_callB call_abs (by rfl) T.z_abs (by decide +kernel) (pa_cons (pv 2) pa_nil)) pa_nil)) (pe_op op_powW (pe_op op_powW pe_int pe_int) pe_int)))
      (pss_cons (ps_set (i := 4) nd rfl (Or.inl rfl) (pe_op op_add (pe_op op_add (pe_op op_add (pe_op op_mul (pe_op op_mod (pe_callTy call_int1 (by rfl) T.z_int (by decide +kernel) (pa_cons (pv 3) pa_nil)) pe_int) pe_int) (pe_op op_mul pe_int (pv 1))) (pe_op op_mul pe_int (pe_callTy call_int1 (by rfl) T.z_int (by decide +kernel) (pa_cons (pe_cmpR op_lt (pv 2) pe_int (nomark _)) pa_nil)))) pe_int))
      (pss_one (ps_ret (pe_lst (pa_cons (pe_callB (call_max2 rfl) (by rfl) T.z_max (by decide +kernel) (pa_cons pe_int (pa_cons (pe_op op_sub (pv 3) (pe_op op_powW pe_int pe_int)) pa_nil))) (pa_cons (pe_op op_mod (pe_callTy call_int1 (by rfl) T.z_int (by decide +kernel) (pa_cons (pv 4) pa_nil)) pe_int) (pa_cons pe_int pa_nil)))))))))), ?_⟩
    -- cell = 53 * spot + 29
    refine ⟨_, rfl, _, _, rfl, rfl, Or.inl ⟨by decide, by decide⟩, _, _, rfl, rfl, ?_⟩
    -- if spot < len(script)
    refine ⟨fun σ H' => ∃ cell : Int, σ = [some (.ref a), some (.int n), some (.int cell), none, none] ∧ H' = H, ?_, ?_⟩
    · refine ⟨_, rfl, _, rfl, a, _, rfl, Or.inl hS, _, _, rfl, rfl, _, rfl, ite2 (fun hc => ?_) (fun hc => ?_)⟩
      · have hc : (n : Int) < ((ns.map V.int).length : Int) := of_decide_eq_true hc
        have hl : n < ns.length := by
          rw [List.length_map] at hc
          omega
        exact ⟨_, rfl, _, rfl, a, _, _, _, rfl, rfl, hS, atI_nat (v := .int ns[n]) (by simp [hl]), ns[n], rfl, rfl⟩
      · exact ⟨_, rfl, rfl⟩
    · rintro σ H' ⟨cell, rfl, rfl⟩
      -- great
      refine ⟨_, rfl, _, rfl, Or.inl ⟨_, rfl, _, _, rfl, rfl, ⟨by decide, by decide +kernel⟩, _, _, rfl, rfl, ⟨by decide, by decide +kernel⟩, _, _, rfl, rfl, by show (0 : Int) < _; decide +kernel, ?_⟩⟩
      -- blend
      refine ⟨_, rfl, Or.inl ⟨_, rfl, _, _, rfl, rfl, by show (0 : Int) < 2305843009213693723; decide, _, _, rfl, rfl, Or.inr ⟨by decide, by decide⟩, _, rfl, _, _, rfl, rfl, Or.inl ⟨by decide, by decide⟩, _, _, rfl, rfl, _, rfl, _, _, rfl, rfl, Or.inr ⟨_, rfl, _, _, rfl, rfl, Or.inl ⟨by decide, by decide⟩, _, _, rfl, rfl, _, _, rfl, rfl, ?_⟩⟩⟩
      -- return
      refine ⟨_, rfl, _, _, rfl, rfl, ⟨by decide, by decide +kernel⟩, _, _, rfl, rfl, _, _, rfl, _, rfl, Or.inl ⟨_, rfl, _, _, rfl, rfl, by show (0 : Int) < 2305843009213693723; decide, by show 3 ≤ sizeLine; decide, fun p hp => ?_⟩⟩
      exact k p _ _ _ hp
theorem ok_dice {f : Addr} {fd : FuncData} (F : Fun K "_law_dice" "_law_dice" s_dice f fd) (T : Txt K mg) : FnOk P w K mg base CX0 1 f fd ["_law_script", "_law_spot"] (spDice K) := by
  refine (fn_mkdice (ok_dice0 F T)).imp fun vs H Q E h => ?_
  obtain ⟨a, ns, n, rfl, hS, k⟩ := h
  refine ⟨a, ns, n, rfl, hS, fun p x y z hp => ⟨p, x, y, z, rfl, upd_same, ?_⟩⟩
  rw [upd_upd]
  exact k p hp

abbrev s_roll : Stmt := top 13
abbrev nm_roll : List Str := ["_law_dice_here", "_law_total", "_law_found", "_law_one", "_law_two"]
abbrev ps_roll : List Str := ["_law_dice_here", "_law_total"]
theorem sc_roll : FnScope nm_roll ps_roll (defScope s_roll) := ⟨rfl, rfl, rfl, by decide +kernel, rfl, by decide +kernel, by decide +kernel⟩
theorem ok_roll0 {f : Addr} {fd : FuncData} (F : Fun K "_law_roll" "_law_roll" s_roll f fd) (T : Txt K mg) : FnOk P w K mg base CX0 1 f fd ["_law_dice_here", "_law_total"] spRoll0 := by
  have nd := sc_roll.nd
  refine F.ok sc_roll (fun vs H Q E h => ?_) (fun cdv A outer s H vs Q E hr h => ?_)
  · obtain ⟨_, _, _, _, _, rfl, _⟩ := h
    rfl
  · obtain ⟨p, t, a, b, c, rfl, ht, ht2, hp, k⟩ := h
    refine ⟨_, (pss_cons (ps_if (pt_cmpR op_gt (pe_ix ix_list (pv 0) pe_int (fun _ _ => rfl)) pe_int (nomark _)) (pss_cons (ps_set (i := 2) nd rfl (Or.inl rfl) (pe_op op_mod (pe_callTy call_int1 (by rfl) T.z_int (by decide +kernel) (pa_cons (pe_ix ix_list (pv 0) pe_int (fun _ _ => rfl)) pa_nil)) (pv 1)))
      (pss_cons (ps_asg (pe_op op_fdiv (pe_ix ix_list (pv 0) pe_int (fun _ _ => rfl)) (pv 1)) (pg_sub (pv 0) pe_int set_list))
      (pss_one (ps_ret (pv 2))))) pss_nil)
      (pss_cons (ps_asg (pe_op op_add (pe_ix ix_list (pv 0) pe_int (fun _ _ => rfl)) pe_int) (pg_sub (pv 0) pe_int set_list))
      (pss_cons (ps_set (i := 3) nd rfl (Or.inl rfl) (pe_op op_mod (pe_callTy call_int1 (by rfl) T.z_int (by decide +kernel) (pa_cons (pe_op op_add (pe_ix ix_list (pv 0) pe_int (fun _ _ => rfl)) (pe_op op_mul pe_int (pe_ix ix_list (pv 0) pe_int (fun _ _ => rfl)))) pa_nil)) pe_int))
      (pss_cons (ps_set (i := 4) nd rfl (Or.inl rfl) (pe_op op_add (pe_op op_mul (pe_op op_mod (pe_callTy call_int1 (by rfl) T.z_int (by decide +kernel) (pa_cons (pe_op op_mul (pv 3) (pv 3)) pa_nil)) pe_int) (pv 3)) (pe_op op_mul pe_int (pe_ix ix_list (pv 0) pe_int (fun _ _ => rfl)))))
      (pss_cons (ps_set (i := 4) nd rfl (Or.inl rfl) (pe_op op_mod (pe_callTy call_int1 (by rfl) T.z_int (by decide +kernel) (pa_cons (pv 4) pa_nil)) pe_int))
      (pss_one (ps_ret (pe_op op_mod (pe_callTy call_int1 (by rfl) T.z_int (by decide +kernel) (pa_cons (pe_op op_fdiv (pv 4) pe_int) pa_nil)) (pv 1))))))))), ?_⟩
    have hL : SqL K H p [.int a, .int b, .int c] := SqL.of hp
    have h0 : (0 : Int) < 2305843009213693951 := by decide
    have h1 : (0 : Int) < 2305843009213693921 := by decide
    have h2 : (0 : Int) < 2305843009213693723 := by decide
    have hnn : ∀ x : Int, 0 ≤ x % t := fun x => Int.emod_nonneg _ (by omega)
    have hlt : ∀ x : Int, x % t < t := fun x => Int.emod_lt_of_pos _ ht
    refine ⟨_, rfl, p, _, _, _, rfl, rfl, hL, rfl, _, _, rfl, rfl, _, rfl, ite2 (fun _ => ?_) (fun _ => ?_)⟩
    · refine ⟨_, rfl, p, _, _, _, rfl, rfl, hL, rfl, Or.inl ⟨_, rfl, _, rfl, _, _, rfl, rfl, ht, ?_⟩⟩
      refine ⟨_, rfl, p, _, _, _, rfl, rfl, hL, rfl, _, rfl, _, _, rfl, rfl, ⟨ht, ht2⟩, _, rfl, p, _, _, _, rfl, rfl, hp, rfl, ?_⟩
      exact ⟨_, rfl, k _ _ _ _ (hnn _) (hlt _)⟩
    · refine ⟨_, rfl, p, _, _, _, rfl, rfl, hL, rfl, _, _, rfl, rfl, _, rfl, p, _, _, _, rfl, rfl, hp, rfl, ?_⟩
      have hL2 : SqL K (upd H p (.lst ([.int a, .int b, .int c].set 2 (.int (c + 1))))) p [.int a, .int b, .int (c + 1)] := SqL.of upd_same
      refine ⟨_, rfl, p, _, _, _, rfl, rfl, hL2, rfl, _, rfl, p, _, _, _, rfl, rfl, hL2, rfl, _, _, rfl, rfl, Or.inl ⟨by decide, by decide⟩, _, _, rfl, rfl, Or.inl ⟨_, rfl, _, _, rfl, rfl, h0, ?_⟩⟩
      have hone : ∀ x : Int, -(2 ^ 64) < x % 2305843009213693951 ∧ x % 2305843009213693951 < 2 ^ 64 := fun x => ⟨by have := Int.emod_nonneg x (b := 2305843009213693951) (by decide); omega, by have := Int.emod_lt_of_pos x h0; omega⟩
      refine ⟨_, rfl, _, rfl, _, _, rfl, rfl, Or.inl (hone _), Or.inl ⟨_, rfl, _, _, rfl, rfl, h1, _, rfl, _, _, rfl, rfl, Or.inr (hone _), _, rfl, p, _, _, _, rfl, rfl, hL2, rfl, _, _, rfl, rfl, Or.inl ⟨by decide, by decide⟩, _, _, rfl, rfl, ?_⟩⟩
      refine ⟨_, rfl, Or.inl ⟨_, rfl, _, _, rfl, rfl, h2, ?_⟩⟩
      refine ⟨_, rfl, _, _, rfl, rfl, ⟨by decide, by decide⟩, Or.inl ⟨_, rfl, _, rfl, _, _, rfl, rfl, ht, ?_⟩⟩
      exact k _ _ _ _ (hnn _) (hlt _)
theorem ok_roll {f : Addr} {fd : FuncData} (F : Fun K "_law_roll" "_law_roll" s_roll f fd) (T : Txt K mg) : FnOk P w K mg base CX0 1 f fd ["_law_dice_here", "_law_total"] spRoll := by
  refine (fn_dice (ok_roll0 F T)).imp fun vs H Q E h => ?_
  obtain ⟨p, t, rfl, h1, h2, hp, k⟩ := h
  refine ⟨rfl, p, hp, fun a b c => ⟨p, t, a, b, c, rfl, h1, h2, upd_same, fun r a' b' c' h3 h4 => ⟨⟨a', b', c', upd_same⟩, ?_⟩⟩⟩
  rw [upd_upd, upd_upd, upd_id hp]
  exact k r h3 h4

abbrev s_pick : Stmt := top 14
abbrev nm_pick : List Str := ["_law_dice_here", "_law_items"]
abbrev ps_pick : List Str := ["_law_dice_here", "_law_items"]
theorem sc_pick : FnScope nm_pick ps_pick (defScope s_pick) := ⟨rfl, rfl, rfl, by decide +kernel, rfl, by decide +kernel, by decide +kernel⟩
theorem ok_pick {f : Addr} {fd : FuncData} (F : Fun K "_law_pick" "_law_pick" s_pick f fd) (T : Txt K mg) (C_roll : Cal P w K mg base "_law_roll" 1 ["_law_dice_here", "_law_total"] spRoll) : FnOk P w K mg base CX0 2 f fd ["_law_dice_here", "_law_items"] (spPick K) := by
  refine F.ok sc_pick (fun vs H Q E h => ?_) (fun cdv A outer s H vs Q E hr h => ?_)
  · obtain ⟨_, _, _, rfl, _⟩ := h
    rfl
  · obtain ⟨p, l, xs, rfl, hp, hl, h1, h2, k⟩ := h
    refine ⟨_, (pss_one (ps_ret (pe_ix ix_list (pv 1) (pe_cal C_roll (hr.mono (by decide)) rfl (pa_cons (pv 0) (pa_cons (pe_callB call_len_seq (by rfl) T.z_len (by decide +kernel) (pa_cons (pv 1) pa_nil)) pa_nil))) (fun _ _ => rfl)))), ?_⟩
    refine ⟨_, rfl, _, rfl, _, rfl, l, _, rfl, Or.inl hl, p, _, rfl, by omega, by omega, hp, fun r h3 h4 => ?_⟩
    have e : r = (r.toNat : Int) := by omega
    have hx : xs[r.toNat]? = some (xs[r.toNat]'(by omega)) := by simp
    exact ⟨l, _, _, _, rfl, rfl, hl, at_of e hx, k _ _ hx⟩
end
section
variable {P : Program} {w : World} {K : PySem.W.Frag} {mg : Str → Option Value} {base : Heap}
abbrev s_is_integer : Stmt := top 7
abbrev nm_is_integer : List Str := ["value"]
abbrev ps_is_integer : List Str := ["value"]
theorem sc_is_integer : FnScope nm_is_integer ps_is_integer (defScope s_is_integer) := ⟨rfl, rfl, rfl, by decide +kernel, rfl, by decide +kernel, by decide +kernel⟩
theorem ok_is_integer {f : Addr} {fd : FuncData} (F : Fun K "is_integer" "is_integer" s_is_integer f fd) (T : Txt K mg) {tL : Tok} (g_LONGEST : mg "LONGEST" = some (.int (10 ^ 60) tL)) : FnOk P w K mg base CX0 1 f fd ["value"] (spIsInt K) := by
  have nd := sc_is_integer.nd
  refine F.ok sc_is_integer (fun vs H Q E h => ?_) (fun cdv A outer s H vs Q E hr h => ?_)
  · obtain ⟨_, _, rfl, _⟩ := h
    rfl
  · obtain ⟨x, kd, rfl, hx, k⟩ := h
    refine ⟨_, (pss_one (ps_ret (pe_and (pe_callB call_isi (by rfl) T.z_isinstance (by decide +kernel) (pa_cons (pv 0) (pa_cons (pe_ty "int" (by rfl) T.z_int (by decide +kernel)) pa_nil))) (pe_and (pe_not (pe_callB call_isi (by rfl) T.z_isinstance (by decide +kernel) (pa_cons (pv 0) (pa_cons (pe_ty "bool" (by rfl) T.z_bool (by decide +kernel)) pa_nil)))) (pe_one (pe_chain op_lt op_lt (pe_un un_neg (pe_gint rfl g_LONGEST)) (pv 0) (pe_gint rfl g_LONGEST))))))), ?_⟩
    obtain ⟨t1, ty1, kt1⟩ := hx.isi (n := "int") (by decide)
    obtain ⟨t2, ty2, kt2⟩ := hx.isi (n := "bool") (by decide)
    refine ⟨_, rfl, _, _, _, _, _, rfl, ClsV.ty _, ty1, kt1, _, rfl, ?_⟩
    cases hx with
    | int i =>
      refine iteT ⟨_, rfl, _, _, _, _, _, rfl, ClsV.ty _, ty2, kt2, _, rfl, _, rfl, iteT ?_⟩
      refine ⟨_, rfl, _, rfl, _, _, rfl, rfl, _, rfl, ?_⟩
      have k : Q (.bl (decide (-(10 ^ 60) < i) && decide (i < 10 ^ 60))) H := k
      by_cases h1 : -(10 ^ 60) < i
      · rw [decide_eq_true h1] at k ⊢
        refine iteT ⟨_, _, rfl, rfl, ?_⟩
        exact k
      · rw [decide_eq_false h1] at k ⊢
        exact iteF k
    | bl b => exact iteT ⟨_, rfl, _, _, _, _, _, rfl, ClsV.ty _, ty2, kt2, _, rfl, _, rfl, iteF k⟩
    | non => exact iteF k
    | str x => exact iteF k
    | lst e => exact iteF k
    | tup e => exact iteF k
    | dK e => exact iteF k
    | own e o => exact iteF k
abbrev s_is_within : Stmt := top 8
abbrev nm_is_within : List Str := ["value", "least", "most"]
abbrev ps_is_within : List Str := ["value", "least", "most"]
theorem sc_is_within : FnScope nm_is_within ps_is_within (defScope s_is_within) := ⟨rfl, rfl, rfl, by decide +kernel, rfl, by decide +kernel, by decide +kernel⟩
theorem ok_is_within {f : Addr} {fd : FuncData} (F : Fun K "is_within" "is_within" s_is_within f fd) (C_is_integer : Cal P w K mg base "is_integer" 1 ["value"] (spIsInt K)) : FnOk P w K mg base CX0 2 f fd ["value", "least", "most"] (spWithin K) := by
  have nd := sc_is_within.nd
  refine F.ok sc_is_within (fun vs H Q E h => ?_) (fun cdv A outer s H vs Q E hr h => ?_)
  · obtain ⟨_, _, _, _, rfl, _⟩ := h
    rfl
  · obtain ⟨x, kd, lo, hi, rfl, hx, k⟩ := h
    refine ⟨_, (pss_one (ps_ret (pe_and (pe_cal C_is_integer (hr.mono (by decide)) rfl (pa_cons (pv 0) pa_nil)) (pe_one (pe_chain op_le op_le (pv 1) (pv 0) (pv 2)))))), ?_⟩
    refine ⟨_, rfl, x, kd, rfl, hx, _, rfl, ?_⟩
    cases x with
    | int i =>
      cases q1 : isI (.int i) with
      | false =>
        refine iteF ?_
        have k : Q (.bl (isI (.int i) && (decide (lo ≤ i) && decide (i ≤ hi)))) H := k
        rw [q1] at k
        exact k
      | true =>
        have k : Q (.bl (isI (.int i) && (decide (lo ≤ i) && decide (i ≤ hi)))) H := k
        rw [q1, Bool.true_and] at k
        refine iteT ⟨_, rfl, _, rfl, _, _, rfl, rfl, _, rfl, ?_⟩
        by_cases h1 : lo ≤ i
        · rw [decide_eq_true h1] at k ⊢
          refine iteT ⟨_, rfl, _, _, rfl, rfl, ?_⟩
          exact k
        · rw [decide_eq_false h1] at k ⊢
          exact iteF k
    | _ => exact iteF k
abbrev s_is_word : Stmt := top 9
abbrev nm_is_word : List Str := ["value", "sign"]
abbrev ps_is_word : List Str := ["value"]
theorem sc_is_word : FnScope nm_is_word ps_is_word (defScope s_is_word) := ⟨rfl, rfl, rfl, by decide +kernel, rfl, by decide +kernel, by decide +kernel⟩
theorem ok_is_word {f : Addr} {fd : FuncData} (F : Fun K "is_word" "is_word" s_is_word f fd) (T : Txt K mg) {t1 t2 : Tok} (g_MAX_LETTERS : mg "MAX_LETTERS" = some (.int 8 t1)) (g_LETTERS : mg "LETTERS" = some (.str "abcdefghijklmnopqrstuvwxyz" t2)) : FnOk P w K mg base CX0 1 f fd ["value"] (spWord K) := by
  have nd := sc_is_word.nd
  refine F.ok sc_is_word (fun vs H Q E h => ?_) (fun cdv A outer s H vs Q E hr h => ?_)
  · obtain ⟨_, _, rfl, _⟩ := h
    rfl
  · obtain ⟨x, kd, rfl, hx, sm, k⟩ := h
    refine ⟨_, (pss_one (ps_ret (pe_and (pe_callB call_isi (by rfl) T.z_isinstance (by decide +kernel) (pa_cons (pv 0) (pa_cons (pe_ty "str" (by rfl) T.z_str (by decide +kernel)) pa_nil))) (pe_and (pe_chain op_le op_le pe_int (pe_callB call_len_str (by rfl) T.z_len (by decide +kernel) (pa_cons (pv 0) pa_nil)) (pe_gint rfl g_MAX_LETTERS)) (pe_one (pe_callB (cr_all rfl) (by rfl) T.z_all (by decide +kernel) (pa_cons (pe_lc (own := [("sign", 1)]) (g := (gName 1)) (by rfl) nd (pi_str (pv 0)) (blkOk_by (own := [("sign", 1)]) (N := nm_is_word) (sc := defScope s_is_word) (by decide +kernel)) (fun _ _ _ _ _ => (pg_name (i := 1) nd rfl (Or.inl rfl))) (fun _ _ _ _ _ => pts_nil) (fun _ _ _ _ _ => (pe_cmpR op_in_sign (pv 1) (pe_gstr rfl g_LETTERS) rfl))) pa_nil))))))), ?_⟩
    obtain ⟨t1, ty1, kt1⟩ := hx.isi (n := "str") (by decide)
    refine ⟨_, rfl, _, _, _, _, _, rfl, ClsV.ty _, ty1, kt1, _, rfl, ?_⟩
    cases hx with
    | str z =>
      have hz := sm z rfl
      refine iteT ?_
      have k : ∀ H', Gx H H' → Q (.bl ((decide (1 ≤ (z.length : Int)) && decide ((z.length : Int) ≤ 8)) && z.cps.toList.all fun c => decide (c ∈ letters))) H' := k
      have h1 : EvG (tCB (fun xs H Q => ∃ z, xs = [.str z] ∧ z.length ≤ sizeLine ∧ Q (.int z.length) H) (tCons (tVar 0) tNil)) [some (.str z), none] H (IntT fun i => i = (z.length : Int)) := fun H1 _ Q q => ⟨_, rfl, z, rfl, Evl.sz_of hz, q _ H1 (Gx.refl _) ⟨_, rfl, rfl⟩⟩
      refine EvG.use (te := tAndV _ _) (evg_andV (evg_chain (f := fun i j => decide (i ≤ j)) (g := fun i j => decide (i ≤ j)) (evg_i 1) h1 (evg_i 8)) (b := z.cps.toList.all fun c => decide (c ∈ letters)) fun hle H1 e1 => ?_) fun v H1 e1 ⟨b, z1, hb⟩ => by rw [z1, hb]; exact k H1 e1
      have hl : z.cps.size ≤ 8 := by
        rw [Bool.and_eq_true] at hle
        have := of_decide_eq_true hle.2
        show z.length ≤ 8
        omega
      refine evg_rAll ((evn_lcA (R := fun i y _ => ∃ c, z.cps[i]? = some c ∧ y = .bl (decide (c ∈ letters))) (evw_str (z := z) (evg_var rfl fun _ _ => rfl)) (by omega) (fun _ _ _ _ _ h => h) ?_ fun _ _ _ _ _ h => h).imp ?_)
      · rintro i x H3 _ e3 ⟨c, hc, rfl⟩ H4 e4 Q q
        exact ⟨_, rfl, c, _, rfl, rfl, q _ H4 (Gx.refl _) ⟨c, hc, rfl⟩⟩
      · rintro p H3 e3 ⟨ys, hp, hlen, hall⟩
        have hys : ys = (z.cps.toList.map fun c => decide (c ∈ letters)).map V.bl := by
          rw [List.map_map]
          exact of_cps hlen hall
        refine ⟨z.cps.toList.map fun c => decide (c ∈ letters), by rw [← hys]; exact hp, ?_⟩
        rw [List.all_map]
        rfl
    | bl b => exact iteF (k H (Gx.refl _))
    | non => exact iteF (k H (Gx.refl _))
    | int x => exact iteF (k H (Gx.refl _))
    | lst e => exact iteF (k H (Gx.refl _))
    | tup e => exact iteF (k H (Gx.refl _))
    | dK e => exact iteF (k H (Gx.refl _))
    | own e o => exact iteF (k H (Gx.refl _))
abbrev s_is_node : Stmt := top 10
abbrev nm_is_node : List Str := ["value"]
abbrev ps_is_node : List Str := ["value"]
theorem sc_is_node : FnScope nm_is_node ps_is_node (defScope s_is_node) := ⟨rfl, rfl, rfl, by decide +kernel, rfl, by decide +kernel, by decide +kernel⟩
theorem ok_is_node {f : Addr} {fd : FuncData} (F : Fun K "is_node" "is_node" s_is_node f fd) (T : Txt K mg) {t1 t2 t3 : Tok} (g_MAX_ARITY : mg "MAX_ARITY" = some (.int 3 t1)) (g_ANY : mg "ANY" = some (.str "_" t2)) (g_LOST : mg "LOST" = some (.str "#" t3))
    (C_is_within : Cal P w K mg base "is_within" 2 ["value", "least", "most"] (spWithin K)) (C_is_word : Cal P w K mg base "is_word" 1 ["value"] (spWord K)) : FnOk P w K mg base CX0 3 f fd ["value"] (spNode K) := by
  have nd := sc_is_node.nd
  refine F.ok sc_is_node (fun vs H Q E h => ?_) (fun cdv A outer s H vs Q E hr h => ?_)
  · obtain ⟨_, _, rfl, _⟩ := h
    rfl
  · obtain ⟨x, b, rfl, hx, k⟩ := h
    refine ⟨_, (pss_cons (ps_if (PW.pt (pw_or (pt_not (pt_val (pe_callB call_isi (by rfl) T.z_isinstance (by decide +kernel) (pa_cons (pv 0) (pa_cons (pe_ty "tuple" (by rfl) T.z_tuple (by decide +kernel)) pa_nil))))) (pw_or (pt_cmpR op_ne (pe_callB call_len_seq (by rfl) T.z_len (by decide +kernel) (pa_cons (pv 0) pa_nil)) pe_int (nomark _)) (pw_or1 (pt_not (pt_val (pe_cal C_is_within (hr.mono (by decide)) rfl (pa_cons (pe_ix ix_tup (pv 0) pe_int (fun _ _ => rfl)) (pa_cons pe_int (pa_cons (pe_gint rfl g_MAX_ARITY) pa_nil)))))))))) (pss_one (ps_ret pe_bl)) pss_nil)
      (pss_one (ps_ret (pe_or (pe_cal C_is_word (hr.mono (by decide)) rfl (pa_cons (pe_ix ix_tup (pv 0) pe_int (fun _ _ => rfl)) pa_nil)) (pe_one (pe_and (pe_callB call_isi (by rfl) T.z_isinstance (by decide +kernel) (pa_cons (pe_ix ix_tup (pv 0) pe_int (fun _ _ => rfl)) (pa_cons (pe_ty "str" (by rfl) T.z_str (by decide +kernel)) pa_nil))) (pe_and (pe_cmpR op_in_seq (pe_ix ix_tup (pv 0) pe_int (fun _ _ => rfl)) (pe_tup (pa_cons (pe_gstr rfl g_ANY) (pa_cons (pe_gstr rfl g_LOST) pa_nil))) rfl) (pe_one (pe_cmpR op_eq (pe_ix ix_tup (pv 0) pe_int (fun _ _ => rfl)) pe_int (nomark _)))))))))), ?_⟩
    cases hx with
    | @other _ kk p hk =>
      obtain ⟨t1, ty1, kt1⟩ := p.isi (n := "tuple") (by decide)
      have e : kdIs kk "tuple" = false := (by cases kk <;> first | rfl | exact absurd rfl hk)
      rw [e] at kt1
      refine ⟨_, rfl, _, _, _, _, _, rfl, ClsV.ty _, ty1, kt1, _, rfl, ?_⟩
      exact iteT (iteT (k H (Gx.refl _)))
    | @size a xs h hl =>
      obtain ⟨t1, ty1, kt1⟩ := (Pl.tup h : Pl K H _ _).isi (n := "tuple") (by decide)
      refine ⟨_, rfl, _, _, _, _, _, rfl, ClsV.ty _, ty1, kt1, _, rfl, ?_⟩
      refine iteF ⟨_, rfl, a, xs, rfl, Or.inr (SqT.of h), rfl, _, rfl, ?_⟩
      rw [decide_eq_false (fun z => hl (by injection z with z; omega))]
      exact iteT (iteT (k H (Gx.refl _)))
    | @pair a s n ks kn h ps pn sm =>
      obtain ⟨t1, ty1, kt1⟩ := (Pl.tup h : Pl K H _ _).isi (n := "tuple") (by decide)
      refine ⟨_, rfl, _, _, _, _, _, rfl, ClsV.ty _, ty1, kt1, _, rfl, ?_⟩
      refine iteF ⟨_, rfl, a, _, rfl, Or.inr (SqT.of h), rfl, _, rfl, ?_⟩
      refine iteF ⟨_, rfl, a, _, _, _, rfl, rfl, SqT.of h, rfl, n, kn, 0, 3, rfl, pn, _, rfl, ?_⟩
      have k : ∀ H', Gx H H' → Q (.bl (wthn n 0 3 && (isW s || (decide (s = .str "_" ∨ s = .str "#") && decide (n = .int 0))))) H' := k
      cases q1 : wthn n 0 3 with
      | false =>
        refine iteT ?_
        rw [q1] at k
        exact k H (Gx.refl _)
      | true =>
        refine iteF ?_
        rw [q1, Bool.true_and] at k
        refine ⟨_, rfl, a, _, _, _, rfl, rfl, SqT.of h, rfl, s, ks, rfl, ps, sm, fun H1 e1 => ⟨_, rfl, ?_⟩⟩
        cases q2 : isW s with
        | true =>
          rw [q2] at k
          exact iteT (k H1 e1)
        | false =>
          rw [q2, Bool.false_or] at k
          refine iteF ⟨_, rfl, a, _, _, _, rfl, rfl, SqT.of (e1 _ _ h), rfl, ?_⟩
          have ps1 := ps.gx e1
          obtain ⟨t2, ty2, kt2⟩ := ps1.isi (n := "str") (by decide)
          refine ⟨_, _, _, _, _, rfl, ClsV.ty _, ty2, kt2, _, rfl, ?_⟩
          have no : ∀ {x : V}, (∀ z, x ≠ .str z) → (decide (x = V.str "_" ∨ x = V.str "#") && decide (n = V.int 0)) = false := fun {x} hx => by
            rw [decide_eq_false (fun z => z.elim (hx _) (hx _))]
            rfl
          cases ps with
          | str z =>
            refine iteT ⟨_, rfl, a, _, _, _, rfl, rfl, SqT.of (e1 _ _ h), rfl, Evl.sz_of (by show 2 ≤ _; decide), fun p hp => ?_⟩
            refine ⟨p, _, rfl, Or.inr (SqT.of upd_same), rfl, rfl, _, rfl, ?_⟩
            have e2 : Gx H (upd H1 p (.tup [.str "_", .str "#"])) := e1.trans (Gx.new hp)
            have e3 : inV (.str z) [.str "_", .str "#"] = decide (V.str z = .str "_" ∨ V.str z = .str "#") := by
              show ((("_" : Str) == z) || ((("#" : Str) == z) || false)) = _
              rw [Bool.or_false]
              by_cases h1 : z = ("_" : Str)
              · subst h1
                simp
              · by_cases h2 : z = ("#" : Str)
                · subst h2
                  simp
                · rw [decide_eq_false (fun q => q.elim (fun q => h1 (by injection q)) (fun q => h2 (by injection q))), beq_eq_false_iff_ne.mpr (fun q => h1 q.symm), beq_eq_false_iff_ne.mpr (fun q => h2 q.symm)]
                  rfl
            have e4 : (if false = true then !inV (V.str z) [.str "_", .str "#"] else inV (V.str z) [.str "_", .str "#"]) = decide (V.str z = .str "_" ∨ V.str z = .str "#") := e3
            rw [e4]
            cases q3 : decide (V.str z = V.str "_" ∨ V.str z = V.str "#") with
            | false =>
              rw [q3] at k
              exact iteF (k _ e2)
            | true =>
              rw [q3, Bool.true_and] at k
              refine iteT ⟨_, rfl, a, _, _, _, rfl, rfl, SqT.of (e2 _ _ h), rfl, ?_⟩
              cases n with
              | int i => exact ⟨rfl, k _ e2⟩
              | _ => cases q1
          | non =>
            rw [no (fun z q => by cases q)] at k
            exact iteF (k _ e1)
          | bl b =>
            rw [no (fun z q => by cases q)] at k
            exact iteF (k _ e1)
          | int b =>
            rw [no (fun z q => by cases q)] at k
            exact iteF (k _ e1)
          | lst e =>
            rw [no (fun z q => by cases q)] at k
            exact iteF (k _ e1)
          | tup e =>
            rw [no (fun z q => by cases q)] at k
            exact iteF (k _ e1)
          | dK e =>
            rw [no (fun z q => by cases q)] at k
            exact iteF (k _ e1)
          | own e o =>
            rw [no (fun z q => by cases q)] at k
            exact iteF (k _ e1)
end
end K03

set_option Elab.async false
set_option maxRecDepth 100000
set_option maxHeartbeats 1000000
namespace K03
open PySem L2 Ly
section
variable {P : Program} {w : World} {K : PySem.W.Frag} {mg : Str → Option Value} {base : Heap}
def mem (d : PyData) (ds : List PyData) : Bool := ds.any fun z => PyData.eqv z d
def is0 : PyData → Bool
  | .int i => decide (V.int i = V.int 0)
  | _ => false
def leafD (k : Kd) (sd nd : PyData) : Bool := if (kdIs k "bool" || !mem nd [.int 0, .int 1, .int 2, .int 3]) = true then false else mem sd [.str "a", .str "f", .str "cons", .str "zzzzzzzz"] || (mem sd [.str "_", .str "#"] && is0 nd)
def spLeaf (K : PySem.W.Frag) : Sp := fun vs H Q _ => ∃ s n sd nd kn, vs = [s, n] ∧ Dp K H s sd ∧ Dp K H n nd ∧ Pl K H n kn ∧ SeqAt.shaped sd = true ∧ SeqAt.shaped nd = true ∧ ∀ H', Gx H H' → Q (.bl (leafD kn sd nd)) H'
abbrev s_is_leaf : Stmt := top 15
abbrev nm_is_leaf : List Str := ["_law_sign", "_law_many"]
abbrev ps_is_leaf : List Str := ["_law_sign", "_law_many"]
theorem sc_is_leaf : FnScope nm_is_leaf ps_is_leaf (defScope s_is_leaf) := ⟨rfl, rfl, rfl, by decide +kernel, rfl, by decide +kernel, by decide +kernel⟩
theorem ok_is_leaf {f : Addr} {fd : FuncData} (F : Fun K "_law_is_leaf" "_law_is_leaf" s_is_leaf f fd) (T : Txt K mg) : FnOk P w K mg base CX0 1 f fd ps_is_leaf (spLeaf K) := by
  have nd := sc_is_leaf.nd
  refine F.ok sc_is_leaf (fun vs H Q E h => ?_) (fun cdv A outer s H vs Q E hr h => ?_)
  · obtain ⟨_, _, _, _, _, rfl, _⟩ := h
    rfl
  · obtain ⟨x, n, sd, nd, kn, rfl, hx, hn, pn, h1, h2, k⟩ := h
    have hu : (A.deeper (PyProof.Rows.envOfC "_law_is_leaf" (defScope s_is_leaf) s.heap.objs.size f cdv)).units + 65 < cLine := by have := hr.un; omega
    refine ⟨_, (pss_cons (ps_if (PW.pt (pw_or (pt_val (pe_callB call_isi (by rfl) T.z_isinstance (by decide +kernel) (pa_cons (pv 1) (pa_cons (pe_ty "bool" (by rfl) T.z_bool (by decide +kernel)) pa_nil)))) (pw_or1 (pt_cmpR (op_notInD hu) (pv 1) (pe_lst (pa_cons pe_int (pa_cons pe_int (pa_cons pe_int (pa_cons pe_int pa_nil))))) rfl)))) (pss_one (ps_ret pe_bl)) pss_nil)
      (pss_one (ps_ret (pe_or (pe_cmpR (op_inD hu) (pv 0) (pe_lst (pa_cons pe_str (pa_cons pe_str (pa_cons pe_str (pa_cons pe_str pa_nil))))) rfl) (pe_one (pe_and (pe_cmpR (op_inD hu) (pv 0) (pe_lst (pa_cons pe_str (pa_cons pe_str pa_nil))) rfl) (pe_one (pe_cmpR op_eq (pv 1) pe_int (nomark _))))))))), ?_⟩
    obtain ⟨t1, ty1, kt1⟩ := pn.isi (n := "bool") (by decide)
    refine ⟨_, rfl, _, _, _, _, _, rfl, ClsV.ty _, ty1, kt1, _, rfl, ?_⟩
    unfold leafD at k
    cases q1 : kdIs kn "bool" with
    | true =>
      rw [q1] at k
      exact iteT (iteT (k H (Gx.refl _)))
    | false =>
      rw [q1, Bool.false_or] at k
      refine iteF ⟨_, rfl, Evl.sz_of (by show 4 ≤ _; decide), fun l1 n1 => ?_⟩
      have e1 : Gx H (upd H l1 (.lst [.int 0, .int 1, .int 2, .int 3])) := Gx.new n1
      refine ⟨nd, [.int 0, .int 1, .int 2, .int 3], Dp.gx e1 hn, .lst (SqL.of upd_same) (.cons (.int _) (.cons (.int _) (.cons (.int _) (.cons (.int _) .nil)))), h2, by decide +kernel, _, rfl, ?_⟩
      show if (!mem nd [.int 0, .int 1, .int 2, .int 3]) = true then _ else _
      cases q2 : mem nd [.int 0, .int 1, .int 2, .int 3] with
      | false =>
        rw [q2] at k
        exact iteT (k _ e1)
      | true =>
        rw [q2] at k
        refine iteF ⟨_, rfl, Evl.sz_of (by show 4 ≤ _; decide), fun l2 n2 => ?_⟩
        have e2 := e1.trans (Gx.new (o := .lst [.str "a", .str "f", .str "cons", .str "zzzzzzzz"]) n2)
        refine ⟨sd, [.str "a", .str "f", .str "cons", .str "zzzzzzzz"], Dp.gx e2 hx, .lst (SqL.of upd_same) (.cons (.str _) (.cons (.str _) (.cons (.str _) (.cons (.str _) .nil)))), h1, by decide +kernel, _, rfl, ?_⟩
        have k : ∀ H', Gx H H' → Q (.bl (mem sd [.str "a", .str "f", .str "cons", .str "zzzzzzzz"] || (mem sd [.str "_", .str "#"] && is0 nd))) H' := k
        show if mem sd [.str "a", .str "f", .str "cons", .str "zzzzzzzz"] = true then _ else _
        cases q3 : mem sd [.str "a", .str "f", .str "cons", .str "zzzzzzzz"] with
        | true =>
          rw [q3] at k
          exact iteT (k _ e2)
        | false =>
          rw [q3, Bool.false_or] at k
          refine iteF ⟨_, rfl, Evl.sz_of (by show 2 ≤ _; decide), fun l3 n3 => ?_⟩
          have e3 := e2.trans (Gx.new (o := .lst [.str "_", .str "#"]) n3)
          refine ⟨sd, [.str "_", .str "#"], Dp.gx e3 hx, .lst (SqL.of upd_same) (.cons (.str _) (.cons (.str _) .nil)), h1, by decide +kernel, _, rfl, ?_⟩
          show if mem sd [.str "_", .str "#"] = true then _ else _
          cases q4 : mem sd [.str "_", .str "#"] with
          | false =>
            rw [q4] at k
            exact iteF (k _ e3)
          | true =>
            rw [q4, Bool.true_and] at k
            refine iteT ⟨_, rfl, ?_⟩
            cases hn with
            | int i => exact ⟨rfl, k _ e3⟩
            | bl b => cases pn; cases q1
            | non => cases q2
            | str z => cases q2
            | lst _ _ => cases q2
            | tup _ _ => cases q2
end
end K03

set_option Elab.async false
set_option maxRecDepth 100000
set_option maxHeartbeats 1000000
namespace K03
open PySem L2 Ly
section
variable {P : Program} {w : World} {K : PySem.W.Frag} {mg : Str → Option Value} {base : Heap}
def signs : List V := [.str "a", .str "f", .str "cons", .str "zzzzzzzz", .str "_", .str "#", .str "F", .str "", .str "__", .str "abcdefghi", .non, .int 0, .str "a "]
def manys : List V := [.int 0, .int 1, .int 2, .int 3, .int 4, .int (-1), .non, .str "0", .bl true, .bl false, .int (10 ^ 20)]
def SignT : Ty := fun v H => v ∈ signs ∨ ∃ a, v = .ref a ∧ H a = some (.tup [.str "a"])
def ManyT : Ty := fun v H => v ∈ manys ∨ ∃ a, v = .ref a ∧ H a = some (.tup [.int 0])
theorem SignT.mono : Mono SignT := fun _ _ _ e h => h.imp id fun ⟨a, h1, h2⟩ => ⟨a, h1, e _ _ h2⟩
theorem ManyT.mono : Mono ManyT := fun _ _ _ e h => h.imp id fun ⟨a, h1, h2⟩ => ⟨a, h1, e _ _ h2⟩
def sD : V → PyData
  | .non => .none
  | .bl b => .bool b
  | .int i => .int i
  | .str z => .str z
  | _ => .tuple [.str "a"]
def nD : V → PyData
  | .non => .none
  | .bl b => .bool b
  | .int i => .int i
  | .str z => .str z
  | _ => .tuple [.int 0]
def kO : V → Kd
  | .non => .non
  | .bl _ => .bl
  | .int _ => .int
  | .str _ => .str
  | _ => .tup
def flat : V → Bool
  | .non => true
  | .bl _ => true
  | .int _ => true
  | .str z => decide (z.length ≤ 100)
  | _ => false
theorem flat_is {v : V} {H : Hp} (h : flat v = true) : Dp K H v (sD v) ∧ Dp K H v (nD v) ∧ Pl K H v (kO v) ∧ Small v := by
  cases v with
  | non => exact ⟨.non, .non, .non, fun z e => by cases e⟩
  | bl b => exact ⟨.bl b, .bl b, .bl b, fun z e => by cases e⟩
  | int i => exact ⟨.int i, .int i, .int i, fun z e => by cases e⟩
  | str x => exact ⟨.str x, .str x, .str x, fun z e => by cases e; exact Nat.le_trans (of_decide_eq_true h) (by decide)⟩
  | _ => cases h
theorem sign_is {v : V} {H : Hp} (h : SignT v H) : Dp K H v (sD v) ∧ Pl K H v (kO v) ∧ Small v ∧ SeqAt.shaped (sD v) = true := by
  rcases h with h | ⟨a, rfl, h⟩
  · have q := (by decide +kernel : ∀ v ∈ signs, flat v = true ∧ SeqAt.shaped (sD v) = true) v h
    obtain ⟨a, _, c, d⟩ := flat_is (K := K) (H := H) q.1
    exact ⟨a, c, d, q.2⟩
  · exact ⟨.tup (SqT.of h) (.cons (.str _) .nil), .tup h, (fun z e => by cases e), (by decide +kernel : SeqAt.shaped (.tuple [.str "a"]) = true)⟩
theorem many_is {v : V} {H : Hp} (h : ManyT v H) : Dp K H v (nD v) ∧ Pl K H v (kO v) ∧ Small v ∧ SeqAt.shaped (nD v) = true := by
  rcases h with h | ⟨a, rfl, h⟩
  · have q := (by decide +kernel : ∀ v ∈ manys, flat v = true ∧ SeqAt.shaped (nD v) = true) v h
    obtain ⟨_, b, c, d⟩ := flat_is (K := K) (H := H) q.1
    exact ⟨b, c, d, q.2⟩
  · exact ⟨.tup (SqT.of h) (.cons (.int _) .nil), .tup h, (fun z e => by cases e), (by decide +kernel : SeqAt.shaped (.tuple [.int 0]) = true)⟩
theorem node_ref_n (s : V) (a : Addr) : isNode2 s (.ref a) = false := rfl
theorem node_ref_s (n : V) (a : Addr) : isNode2 (.ref a) n = false := by
  show (wthn n 0 3 && (false || (decide (V.ref a = V.str "_" ∨ V.ref a = V.str "#") && _))) = false
  rw [decide_eq_false (fun z => z.elim (fun z => by cases z) (fun z => by cases z))]
  simp
theorem key {s n : V} {H : Hp} (hs : SignT s H) (hn : ManyT n H) : leafD (kO n) (sD s) (nD n) = isNode2 s n := by
  rcases hs with hs | ⟨a, rfl, _⟩
  · rcases hn with hn | ⟨b, rfl, _⟩
    · exact (by decide +kernel : ∀ s ∈ signs, ∀ n ∈ manys, leafD (kO n) (sD s) (nD n) = isNode2 s n) s hs n hn
    · exact (by decide +kernel : ∀ s ∈ signs, leafD .tup (sD s) (.tuple [.int 0]) = false) s hs
  · rw [node_ref_s]
    rcases hn with hn | ⟨b, rfl, _⟩
    · exact (by decide +kernel : ∀ n ∈ manys, leafD (kO n) (.tuple [.str "a"]) (nD n) = false) n hn
    · exact (by decide +kernel : leafD .tup (.tuple [.str "a"]) (.tuple [.int 0]) = false)
theorem swapped {s n : V} {H : Hp} (hs : SignT s H) (hn : ManyT n H) : isNode2 n s = false := by
  rcases hs with hs | ⟨a, rfl, _⟩
  · rcases hn with hn | ⟨b, rfl, _⟩
    · exact (by decide +kernel : ∀ s ∈ signs, ∀ n ∈ manys, isNode2 n s = false) s hs n hn
    · exact node_ref_s _ _
  · rfl
theorem sign_none {s : V} {H : Hp} (hs : SignT s H) : NodeIn K H s false := by
  rcases hs with hs | ⟨a, rfl, h⟩
  · have q := (by decide +kernel : ∀ v ∈ signs, flat v = true ∧ kO v ≠ .tup) s hs
    exact .other (flat_is q.1).2.2.1 q.2
  · exact .size h (by decide)
def NoT (K : PySem.W.Frag) : Ty := fun v H => NodeIn K H v false
theorem NoT.mono : Mono (NoT K) := NodeIn.mono
abbrev s_right : Stmt := top 16
abbrev nm_right : List Str := ["_law_dice_here", "_law_sign", "_law_many", "_law_odd"]
abbrev ps_right : List Str := ["_law_dice_here"]
theorem sc_right : FnScope nm_right ps_right (defScope s_right) := ⟨rfl, rfl, rfl, by decide +kernel, rfl, by decide +kernel, by decide +kernel⟩
def spRight : Sp := fun vs H Q _ => ∃ p, vs = [.ref p] ∧ H p = some (diceO p) ∧ ∀ H', Gx H H' → Q (.bl true) H'
theorem sg {σ : L2.St} {H : Hp} {x : V} (h : x ∈ signs) : EvG (tC x) σ H SignT := evg_c fun _ _ => Or.inl h
theorem mn {σ : L2.St} {H : Hp} {x : V} (h : x ∈ manys) : EvG (tC x) σ H ManyT := evg_c fun _ _ => Or.inl h
theorem evg_node {σ : L2.St} {H : Hp} {te : TE} {b : Bool} (h : EvG te σ H (fun v H => NodeIn K H v b)) : EvG (tCall (spNode K) [] E0 (tCons te tNil)) σ H (BlE b) := fun H1 e Q q =>
  h H1 e _ fun v H2 e2 f => ⟨v, b, rfl, f, fun H3 e3 => q _ H3 (e2.trans e3) ⟨b, rfl, rfl⟩⟩
def AnyT : Ty := fun _ _ => True
theorem AnyT.mono : Mono AnyT := fun _ _ _ _ _ => trivial
theorem any_c {σ : L2.St} {H : Hp} {x : V} : EvG (tC x) σ H AnyT := evg_c fun _ _ => trivial
theorem any_v {σ : L2.St} {H : Hp} {i : Nat} {x : V} (h : σ[i]? = some (some x)) : EvG (tVar i) σ H AnyT := evg_var h fun _ _ => trivial
theorem no_tup {σ : L2.St} {H : Hp} {tr : TA} {n : Nat} (h : EvGs tr σ H (AtT (List.replicate n AnyT))) (hn : n ≠ 2 ∧ n ≤ 100) : EvG (tTup tr) σ H (NoT K) :=
  evg_tup h (fun vs _ g => by rw [g.len, List.length_replicate]; omega) fun vs p H1 H2 g _ _ hp => .size hp (by rw [g.len, List.length_replicate]; exact hn.1)
theorem ok_right {f : Addr} {fd : FuncData} (F : Fun K "_law_right" "_law_right" s_right f fd) (T : Txt K mg) (C_pick : Cal P w K mg base "_law_pick" 2 ps_pick (spPick K)) (C_is_node : Cal P w K mg base "is_node" 3 ["value"] (spNode K))
    (C_is_leaf : Cal P w K mg base "_law_is_leaf" 1 ps_is_leaf (spLeaf K)) : FnOk P w K mg base CX0 4 f fd ps_right spRight := by
  have nd := sc_right.nd
  refine F.ok sc_right (fun vs H Q E h => ?_) (fun cdv A outer s H vs Q E hr h => ?_)
  · obtain ⟨_, rfl, _⟩ := h
    rfl
  · obtain ⟨d, rfl, hd, k⟩ := h
    refine ⟨_, (pss_cons (ps_set (i := 1) nd rfl (Or.inl rfl) (pe_cal C_pick (hr.mono (by decide)) rfl (pa_cons (pv 0) (pa_cons (pe_lst (pa_cons pe_str (pa_cons pe_str (pa_cons pe_str (pa_cons pe_str (pa_cons pe_str (pa_cons pe_str (pa_cons pe_str (pa_cons pe_str (pa_cons pe_str (pa_cons pe_str (pa_cons pe_non (pa_cons pe_int (pa_cons (pe_tup (pa_cons pe_str pa_nil)) (pa_cons pe_str pa_nil))))))))))))))) pa_nil))))
      (pss_cons (ps_set (i := 2) nd rfl (Or.inl rfl) (pe_cal C_pick (hr.mono (by decide)) rfl (pa_cons (pv 0) (pa_cons (pe_lst (pa_cons pe_int (pa_cons pe_int (pa_cons pe_int (pa_cons pe_int (pa_cons pe_int (pa_cons pe_int (pa_cons pe_int (pa_cons (pe_un un_neg pe_int) (pa_cons pe_non (pa_cons pe_str (pa_cons pe_bl (pa_cons pe_bl (pa_cons (pe_tup (pa_cons pe_int pa_nil)) (pa_cons (pe_op op_powW pe_int pe_int) pa_nil))))))))))))))) pa_nil))))
      (pss_cons (ps_if (pt_cmpR op_ne (pe_callB call_reprB (by rfl) T.z_repr (by decide +kernel) (pa_cons (pe_cal C_is_node (hr.mono (by decide)) rfl (pa_cons (pe_tup (pa_cons (pv 1) (pa_cons (pv 2) pa_nil))) pa_nil)) pa_nil)) (pe_callB call_reprB (by rfl) T.z_repr (by decide +kernel) (pa_cons (pe_cal C_is_leaf (hr.mono (by decide)) rfl (pa_cons (pv 1) (pa_cons (pv 2) pa_nil))) pa_nil)) (nomark _)) (pss_one (ps_ret pe_bl)) pss_nil)
      (pss_cons (ps_set (i := 3) nd rfl (Or.inl rfl) (pe_lst (pa_cons (pe_lst (pa_cons (pv 1) (pa_cons (pv 2) pa_nil))) (pa_cons (pe_tup (pa_cons (pv 1) pa_nil)) (pa_cons (pe_tup (pa_cons (pv 1) (pa_cons (pv 2) (pa_cons (pe_tup pa_nil) pa_nil)))) (pa_cons (pe_tup (pa_cons (pv 2) (pa_cons (pv 1) pa_nil))) (pa_cons pe_non (pa_cons pe_int (pa_cons pe_str (pa_cons (pe_tup pa_nil) (pa_cons pe_dnewK (pa_cons (pe_tup (pa_cons (pe_tup (pa_cons (pv 1) (pa_cons (pv 2) pa_nil))) pa_nil)) (pa_cons (pv 1) pa_nil)))))))))))))
      (pss_one (ps_ret (pe_not (pe_cal C_is_node (hr.mono (by decide)) rfl (pa_cons (pe_cal C_pick (hr.mono (by decide)) rfl (pa_cons (pv 0) (pa_cons (pv 3) pa_nil))) pa_nil))))))))), ?_⟩
    refine g_asg (Φ := SignT) (evg_pick (n := 14) (evg_dice rfl hd) (evg_all SignT.mono (
      evgs_m SignT.mono (sg (by decide)) <| evgs_m SignT.mono (sg (by decide)) <| evgs_m SignT.mono (sg (by decide)) <| evgs_m SignT.mono (sg (by decide)) <|
      evgs_m SignT.mono (sg (by decide)) <| evgs_m SignT.mono (sg (by decide)) <| evgs_m SignT.mono (sg (by decide)) <| evgs_m SignT.mono (sg (by decide)) <|
      evgs_m SignT.mono (sg (by decide)) <| evgs_m SignT.mono (sg (by decide)) <| evgs_m SignT.mono (sg (by decide)) <| evgs_m SignT.mono (sg (by decide)) <|
      evgs_m SignT.mono ((evg_tupA (Φs := [Eq1 (.str "a")]) (fun Φ h => by simp at h; subst h; exact Eq1.mono) (ats_c Eq1.mono evg_e <| ats_nil) (by decide)).imp ?_) <| evgs_m SignT.mono (sg (by decide)) <| evgs_none) (by decide)) (by decide)) ?_
    · rintro v H2 _ ⟨p, rfl, xs, h1, h2⟩
      match xs, h2 with
      | [x], h2 => exact Or.inr ⟨p, rfl, by rw [h1, h2.1]⟩
    rintro sn H1 e1 hs
    refine g_asg (Φ := ManyT) (evg_pick (n := 14) (evg_dice rfl (e1 _ _ hd)) (evg_all ManyT.mono (
      evgs_m ManyT.mono (mn (by decide)) <| evgs_m ManyT.mono (mn (by decide)) <| evgs_m ManyT.mono (mn (by decide)) <| evgs_m ManyT.mono (mn (by decide)) <|
      evgs_m ManyT.mono (mn (by decide)) <| evgs_m ManyT.mono (mn (by decide)) <| evgs_m ManyT.mono (mn (by decide)) <| evgs_m ManyT.mono (evg_U (evg_i 1) fun i h _ _ => by rw [h]; exact Or.inl (by decide)) <|
      evgs_m ManyT.mono (mn (by decide)) <| evgs_m ManyT.mono (mn (by decide)) <| evgs_m ManyT.mono (mn (by decide)) <| evgs_m ManyT.mono (mn (by decide)) <|
      evgs_m ManyT.mono ((evg_tupA (Φs := [Eq1 (.int 0)]) (fun Φ h => by simp at h; subst h; exact Eq1.mono) (ats_c Eq1.mono evg_e <| ats_nil) (by decide)).imp ?_) <|
      evgs_m ManyT.mono (evg_I (evg_i 10) (evg_i 20) (fun i j h1 h2 => by rw [h1, h2]; exact ⟨by decide, by decide +kernel⟩) fun i j h1 h2 _ _ => by rw [h1, h2]; exact Or.inl (by decide +kernel)) <| evgs_none) (by decide)) (by decide)) ?_
    · rintro v H2 _ ⟨p, rfl, xs, h1, h2⟩
      match xs, h2 with
      | [x], h2 => exact Or.inr ⟨p, rfl, by rw [h1, h2.1]⟩
    rintro mv H2 e2 hm
    have hs := SignT.mono _ _ _ e2 hs
    obtain ⟨ds, ps, ss, shs⟩ := sign_is (K := K) hs
    obtain ⟨dn, pn, sn', shn⟩ := many_is (K := K) hm
    refine ⟨_, rfl, _, rfl, Evl.sz_of (by show 2 ≤ _; decide), fun t ht => ⟨_, _, rfl, .pair upd_same (ps.gx (Gx.new ht)) (pn.gx (Gx.new ht)) ss, fun H3 e3 => ?_⟩⟩
    have e23 := (Gx.new ht).trans e3
    refine ⟨_, rfl, _, rfl, _, rfl, sn, mv, _, _, _, rfl, Dp.gx e23 ds, Dp.gx e23 dn, pn.gx e23, shs, shn, fun H4 e4 => ⟨_, rfl, rfl, _, rfl, ?_⟩⟩
    rw [key hs hm]
    refine iteNS rfl ?_
    have e24 := e23.trans e4
    have hs := SignT.mono _ _ _ e24 hs
    have hm := ManyT.mono _ _ _ e24 hm
    have e4' : Gx H H4 := (e1.trans e2).trans e24
    refine g_asg (Φ := LofT (NoT K) 11) (evg_all NoT.mono (
      evgs_m NoT.mono (evg_lst (Ψ := AtT [AnyT, AnyT]) (ats_c AnyT.mono (any_v rfl) <| ats_c AnyT.mono (any_v rfl) <| ats_nil) (fun vs _ g => by rw [g.len]; decide) fun vs p _ _ _ _ _ hp => .other (.lst hp) (by decide)) <|
      evgs_m NoT.mono (no_tup (n := 1) (ats_c AnyT.mono (any_v rfl) <| ats_nil) (by decide)) <|
      evgs_m NoT.mono (no_tup (n := 3) (ats_c AnyT.mono (any_v rfl) <| ats_c AnyT.mono (any_v rfl) <| ats_c AnyT.mono (evg_tup (Ψ := AtT []) ats_nil (fun vs _ g => by rw [g.len]; decide) fun _ _ _ _ _ _ _ _ => trivial) <| ats_nil) (by decide)) <|
      evgs_m NoT.mono ((evg_tupA (Φs := [Eq1 mv, Eq1 sn]) (fun Φ h => by simp at h; rcases h with rfl | rfl <;> exact Eq1.mono) (ats_c Eq1.mono (evg_ve rfl) <| ats_c Eq1.mono (evg_ve rfl) <| ats_nil) (by show 2 ≤ _; decide)).imp ?_) <|
      evgs_m NoT.mono (evg_c fun _ _ => .other .non (by decide)) <| evgs_m NoT.mono (evg_c fun _ _ => .other (.int _) (by decide)) <| evgs_m NoT.mono (evg_c fun _ _ => .other (.str _) (by decide)) <|
      evgs_m NoT.mono (no_tup (n := 0) ats_nil (by decide)) <|
      evgs_m NoT.mono ?_ <|
      evgs_m NoT.mono (no_tup (n := 1) (ats_c AnyT.mono (evg_tup (Ψ := AtT [AnyT, AnyT]) (ats_c AnyT.mono (any_v rfl) <| ats_c AnyT.mono (any_v rfl) <| ats_nil) (fun vs _ g => by rw [g.len]; decide) fun _ _ _ _ _ _ _ _ => trivial) <| ats_nil) (by decide)) <|
      evgs_m NoT.mono ?_ <| evgs_none) (by decide)) ?_
    · rintro v H5 e5 ⟨p, rfl, xs, h1, h2⟩
      match xs, h2 with
      | [x, y], h2 =>
        obtain rfl : x = mv := h2.1
        obtain rfl : y = sn := h2.2.1
        obtain ⟨_, ps, ss, _⟩ := sign_is (K := K) hs
        obtain ⟨_, pn, sn', _⟩ := many_is (K := K) hm
        show NodeIn K H5 (.ref p) false
        rw [← swapped hs hm]
        exact .pair h1 (pn.gx e5) (ps.gx e5) sn'
    · intro H5 e5 Q q d hd
      exact q _ _ (Gx.new hd) (.other (.dK upd_same) (by decide))
    · exact evg_var rfl fun H5 e5 => sign_none (SignT.mono _ _ _ e5 hs)
    rintro v H5 e5 ⟨l, rfl, hl⟩
    refine g_ret (Φ := BlE true) (evg_is (Φ := AnyT) (evg_notV (a := false) (evg_node (evg_pick (Φ := NoT K) (n := 11) (evg_dice rfl ((e4'.trans e5) _ _ hd)) (evg_var rfl fun _ e6 => ⟨l, rfl, hl.mono NoT.mono e6⟩) (by decide)))) rfl) ?_
    rintro v H6 e6 ⟨b, rfl, rfl⟩
    exact k H6 ((e4'.trans e5).trans e6)
end
end K03

set_option Elab.async false
set_option maxRecDepth 100000
set_option maxHeartbeats 1000000
namespace K03
open PySem L2 Ly
section
variable {P : Program} {w : World} {K : PySem.W.Frag} {mg : Str → Option Value} {base : Heap}
abbrev s_law : Stmt := top 17
abbrev nm_law : List Str := ["_law_script", "_law_spot", "_law_dice_here", "_law_turn", "_law_some", "_law_one"]
abbrev ps_law : List Str := ["_law_script"]
theorem sc_law : FnScope nm_law ps_law (defScope s_law) := ⟨rfl, rfl, rfl, by decide +kernel, rfl, by decide +kernel, by decide +kernel⟩
def spLaw (K : PySem.W.Frag) : Sp := fun vs H Q _ => ∃ (a : Addr) (ns : List Int), vs = [.ref a] ∧ SqL K H a (ns.map V.int) ∧ ns.length ≤ 63 ∧ ∀ H', Q (.bl true) H'
def NdT (K : PySem.W.Frag) (b : Bool) : Ty := fun v H => NodeIn K H v b
theorem nd_pair {σ : L2.St} {H : Hp} {x : Str} {n : Int} {b : Bool} (hx : x.length ≤ 100) (hb : isNode2 (.str x) (.int n) = b) : EvG (tTup (tCons (tC (.str x)) (tCons (tC (.int n)) tNil))) σ H (NdT K b) :=
  (evg_tupA (Φs := [Eq1 (.str x), Eq1 (.int n)]) (fun Φ h => by simp at h; rcases h with rfl | rfl <;> exact Eq1.mono) (ats_c Eq1.mono evg_e <| ats_c Eq1.mono evg_e <| ats_nil) (by show 2 ≤ _; decide)).imp fun v H2 e2 ⟨p, z, xs, h1, h2⟩ => by
    subst z
    match xs, h2 with
    | [y, m], h2 =>
      obtain rfl : y = .str x := h2.1
      obtain rfl : m = .int n := h2.2.1
      show NodeIn K H2 (.ref p) b
      rw [← hb]
      exact .pair h1 (.str x) (.int n) fun z e => by cases e; exact Nat.le_trans hx (by decide)
theorem ok_law {f : Addr} {fd : FuncData} (F : Fun K "law" "law" s_law f fd) (T : Txt K mg) (C_dice : Cal P w K mg base "_law_dice" 1 ps_dice (spDice K))
    (C_right : Cal P w K mg base "_law_right" 4 ps_right spRight) (C_is_node : Cal P w K mg base "is_node" 3 ["value"] (spNode K)) : FnOk P w K mg base CX0 5 f fd ps_law (spLaw K) := by
  have nd := sc_law.nd
  refine F.ok sc_law (fun vs H Q E h => ?_) (fun cdv A outer s H vs Q E hr h => ?_)
  · obtain ⟨_, _, rfl, _⟩ := h
    rfl
  · obtain ⟨a, ns, rfl, hS, hlen, k⟩ := h
    refine ⟨_, (pss_cons (ps_for PassesOwn.never rfl (pi_range1 rfl T.z_range (pa_cons (pe_callB (call_max2 rfl) (by rfl) T.z_max (by decide +kernel) (pa_cons pe_int (pa_cons (pe_callB (call_min2 rfl) (by rfl) T.z_min (by decide +kernel) (pa_cons pe_int (pa_cons (pe_callB call_len_seq (by rfl) T.z_len (by decide +kernel) (pa_cons (pv 0) pa_nil)) pa_nil))) pa_nil))) pa_nil)) (pg_name (i := 1) nd rfl (Or.inl rfl)) (pss_cons (ps_set (i := 2) nd rfl (Or.inl rfl) (pe_cal C_dice (hr.mono (by decide)) rfl (pa_cons (pv 0) (pa_cons (pv 1) pa_nil))))
      (pss_one (ps_for PassesOwn.never rfl (pi_range1 rfl T.z_range (pa_cons pe_int pa_nil)) (pg_name (i := 3) nd rfl (Or.inl rfl)) (pss_one (ps_if (pt_not (pt_val (pe_cal C_right (hr.mono (by decide)) rfl (pa_cons (pv 2) pa_nil)))) (pss_one (ps_ret pe_bl)) pss_nil))))))
      (pss_cons (ps_set (i := 4) nd rfl (Or.inl rfl) (pe_lst (pa_cons (pe_tup (pa_cons pe_str (pa_cons pe_int pa_nil))) (pa_cons (pe_tup (pa_cons pe_str (pa_cons pe_int pa_nil))) (pa_cons (pe_tup (pa_cons pe_str (pa_cons pe_int pa_nil))) (pa_cons (pe_tup (pa_cons pe_str (pa_cons pe_int pa_nil))) (pa_cons (pe_tup (pa_cons pe_str (pa_cons pe_int pa_nil))) (pa_cons (pe_tup (pa_cons pe_str (pa_cons pe_int pa_nil))) pa_nil))))))))
      (pss_one (ps_ret (pe_cmpR (op_eqD hr.units) (pe_lc (own := [("_law_one", 5)]) (g := (gName 5)) (by rfl) nd (pi_list (pv 4)) (blkOk_by (own := [("_law_one", 5)]) (N := nm_law) (sc := defScope s_law) (by decide +kernel)) (fun _ _ _ _ _ => (pg_name (i := 5) nd rfl (Or.inl rfl))) (fun _ _ _ _ _ => pts_nil) (fun _ _ _ _ _ => (pe_cal C_is_node (hr.mono (by decide)) rfl (pa_cons (pv 5) pa_nil)))) (pe_lst (pa_cons pe_bl (pa_cons pe_bl (pa_cons pe_bl (pa_cons pe_bl (pa_cons pe_bl (pa_cons pe_bl pa_nil))))))) (nomark _)))))), ?_⟩
    refine g_forR (R := fun k => 1 ≤ k ∧ k ≤ 8) ?_ (fun k h => by omega) (fun i σ' H' => ∃ o1 o2 o3 o4 o5, σ' = [some (.ref a), o1, o2, o3, o4, o5] ∧ Gx H H') (fun H1 e => ⟨_, _, _, _, _, rfl, e⟩) ?_ ?_
    · intro H1 e Q q
      refine ⟨_, rfl, a, _, rfl, Or.inl (e.l hS), _, _, rfl, _, _, rfl, ?_⟩
      refine q _ H1 (Gx.refl _) ⟨_, rfl, ?_⟩
      rw [List.length_map]
      split <;> split <;> omega
    · rintro i σ' H1 ⟨kk, hkk, hi⟩ ⟨o1, o2, o3, o4, o5, rfl, e1⟩
      refine ⟨_, rfl, _, rfl, a, ns, i, rfl, e1.l hS, fun d hd => ?_⟩
      have e2 : Gx H (upd H1 d (diceO d)) := e1.trans (Gx.new hd)
      refine g_forR1 (R := fun k => k = 25) (evgs_cons (evg_i 25) fun v H2 _ ⟨j, z, hj⟩ => evgs_nil fun _ _ => ⟨j, by rw [z], hj⟩) (fun k h => by omega)
        (fun i σ' H' => ∃ o1 o3 o4 o5, σ' = [some (.ref a), o1, some (.ref d), o3, o4, o5] ∧ Gx H H' ∧ H' d = some (diceO d)) (fun H2 e => ⟨_, _, _, _, rfl, e2.trans e, e _ _ upd_same⟩) ?_ ?_
      · rintro j σ' H2 _ ⟨o1, o3, o4, o5, rfl, e3, hd2⟩
        refine ⟨_, rfl, d, rfl, hd2, fun H3 e4 => ⟨_, rfl, ?_⟩⟩
        refine iteF ?_
        exact ⟨_, _, _, _, rfl, e3.trans e4, e4 _ _ hd2⟩
      · rintro j σ' H2 _ ⟨o1, o3, o4, o5, rfl, e3, _⟩
        exact ⟨_, _, _, _, _, rfl, e3⟩
    · rintro i σ' H1 _ ⟨o1, o2, o3, o4, o5, rfl, e1⟩
      have mm : ∀ Φ ∈ [NdT K true, NdT K true, NdT K false, NdT K false, NdT K true, NdT K true], Mono Φ := fun Φ h => by
        simp at h
        rcases h with rfl | rfl | rfl <;> exact NodeIn.mono
      refine g_asg (Φ := LstT [NdT K true, NdT K true, NdT K false, NdT K false, NdT K true, NdT K true]) (evg_lstA mm (
        ats_c NodeIn.mono (nd_pair (by decide) (by decide +kernel)) <| ats_c NodeIn.mono (nd_pair (by decide) (by decide +kernel)) <| ats_c NodeIn.mono (nd_pair (by decide) (by decide +kernel)) <|
        ats_c NodeIn.mono (nd_pair (by decide) (by decide +kernel)) <| ats_c NodeIn.mono (nd_pair (by decide) (by decide +kernel)) <| ats_c NodeIn.mono (nd_pair (by decide) (by decide +kernel)) <| ats_nil) (by show 6 ≤ _; decide)) ?_
      rintro v H2 e2 ⟨l, rfl, xs, hl, hx⟩
      have bs : ∀ j (x : V) H3, Gx H2 H3 → xs[j]? = some x → ∃ b, [true, true, false, false, true, true][j]? = some b ∧ NodeIn K H3 x b := fun j x H3 e3 q => by
        obtain ⟨Φ, h1, h2⟩ := (hx.mono e3 mm).get q
        match j, h1 with
        | 0, h1 => cases h1; exact ⟨_, rfl, h2⟩
        | 1, h1 => cases h1; exact ⟨_, rfl, h2⟩
        | 2, h1 => cases h1; exact ⟨_, rfl, h2⟩
        | 3, h1 => cases h1; exact ⟨_, rfl, h2⟩
        | 4, h1 => cases h1; exact ⟨_, rfl, h2⟩
        | 5, h1 => cases h1; exact ⟨_, rfl, h2⟩
        | n + 6, h1 => simp at h1
      have hxl : xs.length = 6 := hx.len
      refine g_ret (Φ := BlE true) (evg_eqD (d := .list ([true, true, false, false, true, true].map PyData.bool)) ((evn_lcA (R := fun j y _ => ∃ b, [true, true, false, false, true, true][j]? = some b ∧ y = .bl b) (evw_listAt (xs := xs) (evg_var rfl fun _ e => ⟨l, rfl, SqL.of (e _ _ hl)⟩)) (by omega) (fun _ _ _ _ _ h => h) ?_ fun _ _ _ _ _ h => h).g ?_)
        (evg_dlst (dats_c dat_bl <| dats_c dat_bl <| dats_c dat_bl <| dats_c dat_bl <| dats_c dat_bl <| dats_c dat_bl <| dats_nil) (by show 6 ≤ _; decide)) (by decide +kernel) (by decide +kernel)) ?_
      · intro j x H3 _ e3 hx' H4 e4 Q q
        obtain ⟨b, hb, hn⟩ := bs j x H4 (e3.trans e4) hx'
        exact ⟨_, rfl, x, b, rfl, hn, fun H5 e5 => q _ H5 e5 ⟨b, hb, rfl⟩⟩
      · rintro p H3 H4 _ _ _ ⟨ys, hp, hyl, hy⟩
        obtain rfl := bls_eq (by rw [hyl, hxl]; rfl) hy
        exact .lst (SqL.of hp) (dp_bls _)
      · rintro v H3 _ ⟨b, rfl, rfl⟩
        exact k H3
end
theorem all_mk {l : PySem.W.OpenLaw} {w : World} {K : PySem.W.Frag} {h : Heap} {mg : Str → Option Value} {fa f_is_integer f_is_within f_is_word f_is_node f_dice f_roll f_pick f_is_leaf f_right f_law : Addr} (X : K.In h) (G : h.Ns mainGlobals mg) (hfa : mg "law" = some (.ref fa))
    {od_is_integer an_is_integer : Option Addr} {sl_is_integer : Array (Option Value)} {oc_is_integer kV_is_integer dc_is_integer pm_is_integer cd_is_integer ct_is_integer : Value}
    {od_is_within an_is_within : Option Addr} {sl_is_within : Array (Option Value)} {oc_is_within kV_is_within dc_is_within pm_is_within cd_is_within ct_is_within : Value}
    {od_is_word an_is_word : Option Addr} {sl_is_word : Array (Option Value)} {oc_is_word kV_is_word dc_is_word pm_is_word cd_is_word ct_is_word : Value}
    {od_is_node an_is_node : Option Addr} {sl_is_node : Array (Option Value)} {oc_is_node kV_is_node dc_is_node pm_is_node cd_is_node ct_is_node : Value}
    {od_dice an_dice : Option Addr} {sl_dice : Array (Option Value)} {oc_dice kV_dice dc_dice pm_dice cd_dice ct_dice : Value}
    {od_roll an_roll : Option Addr} {sl_roll : Array (Option Value)} {oc_roll kV_roll dc_roll pm_roll cd_roll ct_roll : Value}
    {od_pick an_pick : Option Addr} {sl_pick : Array (Option Value)} {oc_pick kV_pick dc_pick pm_pick cd_pick ct_pick : Value}
    {od_is_leaf an_is_leaf : Option Addr} {sl_is_leaf : Array (Option Value)} {oc_is_leaf kV_is_leaf dc_is_leaf pm_is_leaf cd_is_leaf ct_is_leaf : Value}
    {od_right an_right : Option Addr} {sl_right : Array (Option Value)} {oc_right kV_right dc_right pm_right cd_right ct_right : Value}
    {od_law an_law : Option Addr} {sl_law : Array (Option Value)} {oc_law kV_law dc_law pm_law cd_law ct_law : Value}
    {t_LONGEST : Tok}
    {t_MAX_LETTERS : Tok}
    {t_MAX_ARITY : Tok}
    {t_ANY : Tok}
    {t_LOST : Tok}
    {t_LETTERS : Tok}
    (a_is_integer : PySem.W.nsIn K mainGlobals "is_integer" = some (some (.ref f_is_integer)))
    (l_is_integer : K.lookup f_is_integer = some ⟨oc_is_integer, od_is_integer, .func (PySem.W.fnOf "is_integer" "is_integer" (defArgs s_is_integer) (defBody s_is_integer) (defScope s_is_integer) .none kV_is_integer dc_is_integer pm_is_integer an_is_integer cd_is_integer ct_is_integer), sl_is_integer⟩)
    (c_is_integer : PySem.W.codeIn K cd_is_integer "is_integer" = true)
    (k_is_integer : PySem.W.keepIn K (.ref f_is_integer) = true)
    (a_is_within : PySem.W.nsIn K mainGlobals "is_within" = some (some (.ref f_is_within)))
    (l_is_within : K.lookup f_is_within = some ⟨oc_is_within, od_is_within, .func (PySem.W.fnOf "is_within" "is_within" (defArgs s_is_within) (defBody s_is_within) (defScope s_is_within) .none kV_is_within dc_is_within pm_is_within an_is_within cd_is_within ct_is_within), sl_is_within⟩)
    (c_is_within : PySem.W.codeIn K cd_is_within "is_within" = true)
    (k_is_within : PySem.W.keepIn K (.ref f_is_within) = true)
    (a_is_word : PySem.W.nsIn K mainGlobals "is_word" = some (some (.ref f_is_word)))
    (l_is_word : K.lookup f_is_word = some ⟨oc_is_word, od_is_word, .func (PySem.W.fnOf "is_word" "is_word" (defArgs s_is_word) (defBody s_is_word) (defScope s_is_word) .none kV_is_word dc_is_word pm_is_word an_is_word cd_is_word ct_is_word), sl_is_word⟩)
    (c_is_word : PySem.W.codeIn K cd_is_word "is_word" = true)
    (k_is_word : PySem.W.keepIn K (.ref f_is_word) = true)
    (a_is_node : PySem.W.nsIn K mainGlobals "is_node" = some (some (.ref f_is_node)))
    (l_is_node : K.lookup f_is_node = some ⟨oc_is_node, od_is_node, .func (PySem.W.fnOf "is_node" "is_node" (defArgs s_is_node) (defBody s_is_node) (defScope s_is_node) .none kV_is_node dc_is_node pm_is_node an_is_node cd_is_node ct_is_node), sl_is_node⟩)
    (c_is_node : PySem.W.codeIn K cd_is_node "is_node" = true)
    (k_is_node : PySem.W.keepIn K (.ref f_is_node) = true)
    (a_dice : PySem.W.nsIn K mainGlobals "_law_dice" = some (some (.ref f_dice)))
    (l_dice : K.lookup f_dice = some ⟨oc_dice, od_dice, .func (PySem.W.fnOf "_law_dice" "_law_dice" (defArgs s_dice) (defBody s_dice) (defScope s_dice) .none kV_dice dc_dice pm_dice an_dice cd_dice ct_dice), sl_dice⟩)
    (c_dice : PySem.W.codeIn K cd_dice "_law_dice" = true)
    (k_dice : PySem.W.keepIn K (.ref f_dice) = true)
    (a_roll : PySem.W.nsIn K mainGlobals "_law_roll" = some (some (.ref f_roll)))
    (l_roll : K.lookup f_roll = some ⟨oc_roll, od_roll, .func (PySem.W.fnOf "_law_roll" "_law_roll" (defArgs s_roll) (defBody s_roll) (defScope s_roll) .none kV_roll dc_roll pm_roll an_roll cd_roll ct_roll), sl_roll⟩)
    (c_roll : PySem.W.codeIn K cd_roll "_law_roll" = true)
    (k_roll : PySem.W.keepIn K (.ref f_roll) = true)
    (a_pick : PySem.W.nsIn K mainGlobals "_law_pick" = some (some (.ref f_pick)))
    (l_pick : K.lookup f_pick = some ⟨oc_pick, od_pick, .func (PySem.W.fnOf "_law_pick" "_law_pick" (defArgs s_pick) (defBody s_pick) (defScope s_pick) .none kV_pick dc_pick pm_pick an_pick cd_pick ct_pick), sl_pick⟩)
    (c_pick : PySem.W.codeIn K cd_pick "_law_pick" = true)
    (k_pick : PySem.W.keepIn K (.ref f_pick) = true)
    (a_is_leaf : PySem.W.nsIn K mainGlobals "_law_is_leaf" = some (some (.ref f_is_leaf)))
    (l_is_leaf : K.lookup f_is_leaf = some ⟨oc_is_leaf, od_is_leaf, .func (PySem.W.fnOf "_law_is_leaf" "_law_is_leaf" (defArgs s_is_leaf) (defBody s_is_leaf) (defScope s_is_leaf) .none kV_is_leaf dc_is_leaf pm_is_leaf an_is_leaf cd_is_leaf ct_is_leaf), sl_is_leaf⟩)
    (c_is_leaf : PySem.W.codeIn K cd_is_leaf "_law_is_leaf" = true)
    (k_is_leaf : PySem.W.keepIn K (.ref f_is_leaf) = true)
    (a_right : PySem.W.nsIn K mainGlobals "_law_right" = some (some (.ref f_right)))
    (l_right : K.lookup f_right = some ⟨oc_right, od_right, .func (PySem.W.fnOf "_law_right" "_law_right" (defArgs s_right) (defBody s_right) (defScope s_right) .none kV_right dc_right pm_right an_right cd_right ct_right), sl_right⟩)
    (c_right : PySem.W.codeIn K cd_right "_law_right" = true)
    (k_right : PySem.W.keepIn K (.ref f_right) = true)
    (a_law : PySem.W.nsIn K mainGlobals "law" = some (some (.ref f_law)))
    (l_law : K.lookup f_law = some ⟨oc_law, od_law, .func (PySem.W.fnOf "law" "law" (defArgs s_law) (defBody s_law) (defScope s_law) .none kV_law dc_law pm_law an_law cd_law ct_law), sl_law⟩)
    (c_law : PySem.W.codeIn K cd_law "law" = true)
    (k_law : PySem.W.keepIn K (.ref f_law) = true)
    (z_len : PySem.W.nsIn K mainGlobals "len" = some none)
    (z_int : PySem.W.nsIn K mainGlobals "int" = some none)
    (z_bool : PySem.W.nsIn K mainGlobals "bool" = some none)
    (z_str : PySem.W.nsIn K mainGlobals "str" = some none)
    (z_tuple : PySem.W.nsIn K mainGlobals "tuple" = some none)
    (z_abs : PySem.W.nsIn K mainGlobals "abs" = some none)
    (z_max : PySem.W.nsIn K mainGlobals "max" = some none)
    (z_min : PySem.W.nsIn K mainGlobals "min" = some none)
    (z_range : PySem.W.nsIn K mainGlobals "range" = some none)
    (z_repr : PySem.W.nsIn K mainGlobals "repr" = some none)
    (z_isinstance : PySem.W.nsIn K mainGlobals "isinstance" = some none)
    (z_all : PySem.W.nsIn K mainGlobals "all" = some none)
    (i_LONGEST : PySem.W.nsIn K mainGlobals "LONGEST" = some (some (.int (10 ^ 60) t_LONGEST)))
    (i_MAX_LETTERS : PySem.W.nsIn K mainGlobals "MAX_LETTERS" = some (some (.int (8) t_MAX_LETTERS)))
    (i_MAX_ARITY : PySem.W.nsIn K mainGlobals "MAX_ARITY" = some (some (.int (3) t_MAX_ARITY)))
    (i_ANY : PySem.W.nsIn K mainGlobals "ANY" = some (some (.str "_" t_ANY)))
    (i_LOST : PySem.W.nsIn K mainGlobals "LOST" = some (some (.str "#" t_LOST)))
    (i_LETTERS : PySem.W.nsIn K mainGlobals "LETTERS" = some (some (.str "abcdefghijklmnopqrstuvwxyz" t_LETTERS))) :
    ∃ fd : FuncData, (∀ (s : Shared) (v : Value), BindsTo s fd ⟨[v], []⟩ [("_law_script", v)]) ∧ ∀ base : Heap, K.In base → base.Ns mainGlobals mg → FnOk l.prog w K mg base CX0 5 fa fd ["_law_script"] (spLaw K) := by
  have e := hfa.symm.trans (PySem.W.mg_of X G a_law)
  cases e
  have T : Txt K mg := ⟨PySem.W.mg_none_of X G z_len, PySem.W.mg_none_of X G z_int, PySem.W.mg_none_of X G z_bool, PySem.W.mg_none_of X G z_str, PySem.W.mg_none_of X G z_tuple, PySem.W.mg_none_of X G z_abs, PySem.W.mg_none_of X G z_max, PySem.W.mg_none_of X G z_min, PySem.W.mg_none_of X G z_range, PySem.W.mg_none_of X G z_repr, PySem.W.mg_none_of X G z_isinstance, PySem.W.mg_none_of X G z_all⟩
  have F_is_integer := fun_mk (st := s_is_integer) l_is_integer c_is_integer k_is_integer
  have m_is_integer := PySem.W.mg_of X G a_is_integer
  have b_is_integer := F_is_integer.binds (ps := ps_is_integer) fun _ _ _ _ _ _ us hl => match us, hl with | [_], _ => rfl
  have F_is_within := fun_mk (st := s_is_within) l_is_within c_is_within k_is_within
  have m_is_within := PySem.W.mg_of X G a_is_within
  have b_is_within := F_is_within.binds (ps := ps_is_within) fun _ _ _ _ _ _ us hl => match us, hl with | [_, _, _], _ => rfl
  have F_is_word := fun_mk (st := s_is_word) l_is_word c_is_word k_is_word
  have m_is_word := PySem.W.mg_of X G a_is_word
  have b_is_word := F_is_word.binds (ps := ps_is_word) fun _ _ _ _ _ _ us hl => match us, hl with | [_], _ => rfl
  have F_is_node := fun_mk (st := s_is_node) l_is_node c_is_node k_is_node
  have m_is_node := PySem.W.mg_of X G a_is_node
  have b_is_node := F_is_node.binds (ps := ps_is_node) fun _ _ _ _ _ _ us hl => match us, hl with | [_], _ => rfl
  have F_dice := fun_mk (st := s_dice) l_dice c_dice k_dice
  have m_dice := PySem.W.mg_of X G a_dice
  have b_dice := F_dice.binds (ps := ps_dice) fun _ _ _ _ _ _ us hl => match us, hl with | [_, _], _ => rfl
  have F_roll := fun_mk (st := s_roll) l_roll c_roll k_roll
  have m_roll := PySem.W.mg_of X G a_roll
  have b_roll := F_roll.binds (ps := ps_roll) fun _ _ _ _ _ _ us hl => match us, hl with | [_, _], _ => rfl
  have F_pick := fun_mk (st := s_pick) l_pick c_pick k_pick
  have m_pick := PySem.W.mg_of X G a_pick
  have b_pick := F_pick.binds (ps := ps_pick) fun _ _ _ _ _ _ us hl => match us, hl with | [_, _], _ => rfl
  have F_is_leaf := fun_mk (st := s_is_leaf) l_is_leaf c_is_leaf k_is_leaf
  have m_is_leaf := PySem.W.mg_of X G a_is_leaf
  have b_is_leaf := F_is_leaf.binds (ps := ps_is_leaf) fun _ _ _ _ _ _ us hl => match us, hl with | [_, _], _ => rfl
  have F_right := fun_mk (st := s_right) l_right c_right k_right
  have m_right := PySem.W.mg_of X G a_right
  have b_right := F_right.binds (ps := ps_right) fun _ _ _ _ _ _ us hl => match us, hl with | [_], _ => rfl
  have F_law := fun_mk (st := s_law) l_law c_law k_law
  have m_law := PySem.W.mg_of X G a_law
  have b_law := F_law.binds (ps := ps_law) fun _ _ _ _ _ _ us hl => match us, hl with | [_], _ => rfl
  have g_LONGEST := PySem.W.mg_of X G i_LONGEST
  have g_MAX_LETTERS := PySem.W.mg_of X G i_MAX_LETTERS
  have g_MAX_ARITY := PySem.W.mg_of X G i_MAX_ARITY
  have g_ANY := PySem.W.mg_of X G i_ANY
  have g_LOST := PySem.W.mg_of X G i_LOST
  have g_LETTERS := PySem.W.mg_of X G i_LETTERS
  refine ⟨PySem.W.fnOf "law" "law" (defArgs s_law) (defBody s_law) (defScope s_law) .none kV_law dc_law pm_law an_law cd_law ct_law, fun s v => .of_eq rfl, fun base _ _ => ?_⟩
  have C_roll : Cal l.prog w K mg base "_law_roll" 1 ps_roll spRoll := ⟨⟨_, _, ok_roll F_roll T, m_roll, k_roll, b_roll⟩⟩
  have C_pick : Cal l.prog w K mg base "_law_pick" 2 ps_pick (spPick K) := ⟨⟨_, _, ok_pick F_pick T C_roll, m_pick, k_pick, b_pick⟩⟩
  have C_dice : Cal l.prog w K mg base "_law_dice" 1 ps_dice (spDice K) := ⟨⟨_, _, ok_dice F_dice T, m_dice, k_dice, b_dice⟩⟩
  have C_is_integer : Cal l.prog w K mg base "is_integer" 1 ps_is_integer (spIsInt K) := ⟨⟨_, _, ok_is_integer F_is_integer T g_LONGEST, m_is_integer, k_is_integer, b_is_integer⟩⟩
  have C_is_within : Cal l.prog w K mg base "is_within" 2 ps_is_within (spWithin K) := ⟨⟨_, _, ok_is_within F_is_within C_is_integer, m_is_within, k_is_within, b_is_within⟩⟩
  have C_is_word : Cal l.prog w K mg base "is_word" 1 ps_is_word (spWord K) := ⟨⟨_, _, ok_is_word F_is_word T g_MAX_LETTERS g_LETTERS, m_is_word, k_is_word, b_is_word⟩⟩
  have C_is_node : Cal l.prog w K mg base "is_node" 3 ps_is_node (spNode K) := ⟨⟨_, _, ok_is_node F_is_node T g_MAX_ARITY g_ANY g_LOST C_is_within C_is_word, m_is_node, k_is_node, b_is_node⟩⟩
  have C_is_leaf : Cal l.prog w K mg base "_law_is_leaf" 1 ps_is_leaf (spLeaf K) := ⟨⟨_, _, ok_is_leaf F_is_leaf T, m_is_leaf, k_is_leaf, b_is_leaf⟩⟩
  have C_right : Cal l.prog w K mg base "_law_right" 4 ps_right spRight := ⟨⟨_, _, ok_right F_right T C_pick C_is_node C_is_leaf, m_right, k_right, b_right⟩⟩
  exact ok_law F_law T C_dice C_right C_is_node
theorem walk {l : PySem.W.OpenLaw} {q : Program} {loose : List Str} {XP : (Str → Option Value) → Heap → Prop} {YP : World → Heap → Prop} {d : DefRec} {K : Params → PySem.W.Frag} (hn : l.most = some 63) (hdf : d.params.defaults = [])
    (hY : ∀ (w : World) (h : Heap), YP w h → (K w.params).In h)
    (F : ∀ (w : World) (mg : Str → Option Value) (fa : Addr) (h : Heap), (K w.params).In h → h.Ns mainGlobals mg → mg d.name = some (.ref fa) →
      ∃ fd : FuncData, (∀ (s : Shared) (u : Value), BindsTo s fd ⟨[u], []⟩ [("_law_script", u)]) ∧ ∀ base : Heap, (K w.params).In base → base.Ns mainGlobals mg → FnOk l.prog w (K w.params) mg base CX0 5 fa fd ["_law_script"] (spLaw (K w.params))) :
    PySem.W.WalkO q loose XP YP l.row.toRowW d [] (fun f vs => PySem.call f vs) :=
  L2.walk_of (n := 63) (k := 5) (x := "_law_script") (CX := fun _ => CX0) (sp := fun w => spLaw (K w.params)) hn (by decide) hdf ⟨rfl, by decide, by decide⟩ hY F (fun _ _ a ns hl _ hS => ⟨a, ns, rfl, hS, hl, fun _ => rfl⟩) fun _ _ _ _ _ z => z
end K03
open PySem PySem.W PyProof.Rows
set_option maxRecDepth 100000 in
set_option maxHeartbeats 0 in
theorem PySem.Challenge.cw_firstneed_k03_nodes_judged_holds : PySem.Challenge.rw_firstneed_k03_nodes_judged.Holds := by
  w_on; o_law; k_head; (case hw => w_witness2)
  k_fill
  refine K03.walk (l := PySem.Challenge.rw_firstneed_k03_nodes_judged) rfl rfl (fun w h Y => PySem.W.kIn_of Y) ?F
  case F =>
    intro w mg fa h KX G hmg
    refine' K03.all_mk KX G hmg ?a_is_integer ?l_is_integer ?c_is_integer ?k_is_integer ?a_is_within ?l_is_within ?c_is_within ?k_is_within ?a_is_word ?l_is_word ?c_is_word ?k_is_word ?a_is_node ?l_is_node ?c_is_node ?k_is_node ?a_dice ?l_dice ?c_dice ?k_dice ?a_roll ?l_roll ?c_roll ?k_roll ?a_pick ?l_pick ?c_pick ?k_pick ?a_is_leaf ?l_is_leaf ?c_is_leaf ?k_is_leaf ?a_right ?l_right ?c_right ?k_right ?a_law ?l_law ?c_law ?k_law ?z_len ?z_int ?z_bool ?z_str ?z_tuple ?z_abs ?z_max ?z_min ?z_range ?z_repr ?z_isinstance ?z_all ?i_LONGEST ?i_MAX_LETTERS ?i_MAX_ARITY ?i_ANY ?i_LOST ?i_LETTERS
    (case a_is_integer => k_is)
    (case l_is_integer => k_is)
    (case c_is_integer => k_is)
    (case k_is_integer => k_is)
    (case a_is_within => k_is)
    (case l_is_within => k_is)
    (case c_is_within => k_is)
    (case k_is_within => k_is)
    (case a_is_word => k_is)
    (case l_is_word => k_is)
    (case c_is_word => k_is)
    (case k_is_word => k_is)
    (case a_is_node => k_is)
    (case l_is_node => k_is)
    (case c_is_node => k_is)
    (case k_is_node => k_is)
    (case a_dice => k_is)
    (case l_dice => k_is)
    (case c_dice => k_is)
    (case k_dice => k_is)
    (case a_roll => k_is)
    (case l_roll => k_is)
    (case c_roll => k_is)
    (case k_roll => k_is)
    (case a_pick => k_is)
    (case l_pick => k_is)
    (case c_pick => k_is)
    (case k_pick => k_is)
    (case a_is_leaf => k_is)
    (case l_is_leaf => k_is)
    (case c_is_leaf => k_is)
    (case k_is_leaf => k_is)
    (case a_right => k_is)
    (case l_right => k_is)
    (case c_right => k_is)
    (case k_right => k_is)
    (case a_law => k_is)
    (case l_law => k_is)
    (case c_law => k_is)
    (case k_law => k_is)
    (case z_len => k_is)
    (case z_int => k_is)
    (case z_bool => k_is)
    (case z_str => k_is)
    (case z_tuple => k_is)
    (case z_abs => k_is)
    (case z_max => k_is)
    (case z_min => k_is)
    (case z_range => k_is)
    (case z_repr => k_is)
    (case z_isinstance => k_is)
    (case z_all => k_is)
    (case i_LONGEST => k_is)
    (case i_MAX_LETTERS => k_is)
    (case i_MAX_ARITY => k_is)
    (case i_ANY => k_is)
    (case i_LOST => k_is)
    (case i_LETTERS => k_is)

