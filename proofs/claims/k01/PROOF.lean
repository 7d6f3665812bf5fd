import PyProof.Rows.All
import Wide.All
import OpenK.AllK
import Wide.FinOn
import HandS.ForMost
import HandS.IsInst
import HandS.Evl
import HandS.Walk
import PySem.Challenge.RW_firstneed_k01_words_judged
set_option Elab.async false
set_option maxRecDepth 100000
/-! Own layer: dice that hide their numbers, heaps that only grow, repr of plain values. -/
namespace Ly
open PySem PySem.Spec PyProof.Rows L2

/-! ### heaps that only grow -/
def Gx (H H' : Hp) : Prop := ∀ a o, H a = some o → H' a = some o
theorem Gx.refl (H : Hp) : Gx H H := fun _ _ h => h
theorem Gx.trans {H H1 H2 : Hp} (a : Gx H H1) (b : Gx H1 H2) : Gx H H2 := fun x o h => b x o (a x o h)
theorem Gx.new {H : Hp} {p : Addr} {o : HO} (h : H p = none) : Gx H (upd H p o) := fun a u e => by
  rw [upd_ne (ne_of_none e h)]
  exact e
theorem Gx.mut {H H' : Hp} {p : Addr} {o : HO} (e : Gx H H') (h : H p = none) : Gx H (upd H' p o) := fun a u ha => by
  rw [upd_ne (ne_of_none ha h)]
  exact e a u ha
theorem Gx.free {H H' : Hp} {p : Addr} (e : Gx H H') (h : H' p = none) : H p = none := by
  cases q : H p with
  | none => rfl
  | some o =>
    rw [e p o q] at h
    cases h
theorem Gx.rd {H H' : Hp} {a : Addr} {u : HO} (e : Gx H H') (h : Rd H a u) : Rd H' a u := by
  rcases h with h | ⟨o, h⟩
  · exact Or.inl (e a _ h)
  · exact Or.inr ⟨o, e a _ h⟩
theorem Gx.l {K : PySem.W.Frag} {H H' : Hp} {a : Addr} {xs : List V} (e : Gx H H') (h : SqL K H a xs) : SqL K H' a xs := by
  rcases h with h | h
  · exact Or.inl (e.rd h)
  · exact Or.inr h
theorem Gx.t {K : PySem.W.Frag} {H H' : Hp} {a : Addr} {xs : List V} (e : Gx H H') (h : SqT K H a xs) : SqT K H' a xs := by
  rcases h with h | h
  · exact Or.inl (e.rd h)
  · exact Or.inr h

/-! ### dice: a list of three ints whose numbers nobody asks for -/
def diceP (p : Addr) : Heap → Prop := fun h => ∃ (a b c : Int) (t u v : Tok) (n : Nat), h.get? p = some { cls := .type "list", data := .seq #[.int a t, .int b u, .int c v] n }
def diceO (p : Addr) : HO := .ext (diceP p)
abbrev three (a b c : Int) : HO := .lst [.int a, .int b, .int c]
section
variable {P : Program} {w : World} {H H1 : Hp} {h h1 : Heap} {p : Addr} {fs ex : List Addr}
theorem hok_hide {a b c : Int} (x : HOk P w H h) (e : H p = some (three a b c)) : HOk P w (upd H p (diceO p)) h := by
  intro q o eq
  by_cases hq : q = p
  · subst hq
    rw [upd_same] at eq
    cases eq
    obtain ⟨_, its, n, r, g⟩ := x q _ e
    cases r with
    | cons ra r =>
      cases r with
      | cons rb r =>
        cases r with
        | cons rc r =>
          cases r
          obtain ⟨t, rfl⟩ := ra
          obtain ⟨u, rfl⟩ := rb
          obtain ⟨v, rfl⟩ := rc
          refine ⟨⟨a, b, c, t, u, v, n, g⟩, ⟨_, g⟩, ?_⟩
          rintro h1 h2 ⟨a, b, c, t, u, v, n, g⟩ k
          exact ⟨a, b, c, t, u, v, n, k _ g⟩
  · rw [upd_ne hq] at eq
    refine (x q o eq).stay (fun _ _ _ z => z) (fun b z => ?_) fun b xs z => ?_
    · rw [upd_ne]
      · exact z
      · intro z2
        subst z2
        rw [e] at z
        cases z
    · rw [upd_ne]
      · exact z
      · intro z2
        subst z2
        rw [e] at z
        cases z
theorem hok_show (x : HOk P w H h) (e : H p = some (diceO p)) : ∃ a b c, HOk P w (upd H p (three a b c)) h := by
  obtain ⟨⟨a, b, c, t, u, v, n, g⟩, _, _⟩ := x p _ e
  refine ⟨a, b, c, fun q o eq => ?_⟩
  by_cases hq : q = p
  · subst hq
    rw [upd_same] at eq
    cases eq
    refine ⟨by show 3 ≤ sizeLine; decide, [.int a t, .int b u, .int c v], n, .cons ⟨t, rfl⟩ (.cons ⟨u, rfl⟩ (.cons ⟨v, rfl⟩ .nil)), g⟩
  · rw [upd_ne hq] at eq
    refine (x q o eq).stay (fun _ _ _ z => z) (fun b z => ?_) fun b xs z => ?_
    · rw [upd_ne]
      · exact z
      · intro z2
        subst z2
        rw [e] at z
        cases z
    · rw [upd_ne]
      · exact z
      · intro z2
        subst z2
        rw [e] at z
        cases z
theorem un_hide {xs : List V} (u : Un fs ex H H1 h h1) (e : H1 p = some (.lst xs)) : Un fs ex H (upd H1 p (diceO p)) h h1 where
  keep := u.keep
  slot := u.slot
  free := fun b o g n hx => by
    have z := u.free b o g n hx
    rw [upd_ne (fun q => by subst q; rw [e] at z; cases z)]
    exact z
  there := u.there
  tups := fun b ys g => by
    have z := u.tups b ys g
    rw [upd_ne (fun q => by subst q; rw [e] at z; cases z)]
    exact z
  frzs := fun b o v g => by
    have z := u.frzs b o v g
    rw [upd_ne (fun q => by subst q; rw [e] at z; cases z)]
    exact z
  tbls := fun b ps g => by
    obtain ⟨m, z⟩ := u.tbls b ps g
    refine ⟨m, ?_⟩
    rw [upd_ne (fun q => by subst q; rw [e] at z; cases z)]
    exact z
theorem un_show {o : HO} (u : Un fs ex (upd H p o) H1 h h1) (e : H p = some (diceO p)) : Un fs ex H H1 h h1 where
  keep := fun b o g n => u.keep b o g (by rw [upd_ne (fun q => by subst q; rw [e] at n; cases n)]; exact n)
  slot := fun b o g n => u.slot b o g (by rw [upd_ne (fun q => by subst q; rw [e] at n; cases n)]; exact n)
  free := fun b o g n => u.free b o g (by rw [upd_ne (fun q => by subst q; rw [e] at n; cases n)]; exact n)
  there := u.there
  tups := fun b ys g => u.tups b ys (by rw [upd_ne (fun q => by subst q; rw [e] at g; cases g)]; exact g)
  frzs := fun b o v g => u.frzs b o v (by rw [upd_ne (fun q => by subst q; rw [e] at g; cases g)]; exact g)
  tbls := fun b ps g => u.tbls b ps (by rw [upd_ne (fun q => by subst q; rw [e] at g; cases g)]; exact g)
end
section
variable {P : Program} {w : World} {K : PySem.W.Frag} {mg : Str → Option Value} {base : Heap} {k : Nat} {f : Addr} {fd : FuncData} {ps : List Str} {sp : Sp} {CX : CXT}
/-- a def that reads and writes dice, seen from without -/
theorem fn_dice (F : FnOk P w K mg base CX0 k f fd ps sp) : FnOk P w K mg base CX0 k f fd ps (fun vs H Q E => vs.length = ps.length ∧ ∃ p, H p = some (diceO p) ∧
    ∀ a b c, sp vs (upd H p (three a b c)) (fun v H' => (∃ a' b' c', H' p = some (three a' b' c')) ∧ Q v (upd H' p (diceO p))) E) := by
  refine ⟨fun vs H Q E h => h.1, fun A outer s H args us vs Q E hr he hb hv hs => ?_⟩
  obtain ⟨_, p, hp, hs⟩ := hs
  obtain ⟨a, b, c, hok⟩ := hok_show he.hok hp
  have he' : Env0 P w K mg base A outer s (upd H p (three a b c)) := ⟨he.frames, he.mod, fun q o g => by
    obtain ⟨z1, z2⟩ := he.bs q o g
    refine ⟨z1, ?_⟩
    rw [upd_ne (fun y => by subst y; rw [hp] at z2; cases z2)]
    exact z2, he.bsz, he.funs, fun q g => by
    have z2 := he.frf q g
    rw [upd_ne (fun y => by subst y; rw [hp] at z2; cases z2)]
    exact z2, hok, he.bare⟩
  refine codeAny_mono (F.run A outer s _ args us vs _ E hr he' hb hv (hs a b c)) fun r s' h => ?_
  match r, h with
  | .ok (.ret u), h =>
    obtain ⟨v, H', os, bare, un, hok', rv, ⟨a', b', c', e'⟩, q⟩ := h
    exact ⟨v, upd H' p (diceO p), os, bare, un_hide (un_show un hp) e', hok_hide hok' e', rv, q⟩
/-- a def that makes dice -/
theorem fn_mkdice (F : FnOk P w K mg base CX0 k f fd ps sp) : FnOk P w K mg base CX0 k f fd ps (fun vs H Q E => sp vs H (fun v H' => ∃ p a b c, v = .ref p ∧ H' p = some (three a b c) ∧ Q (.ref p) (upd H' p (diceO p))) E) := by
  refine ⟨fun vs H Q E h => F.len _ _ _ _ h, fun A outer s H args us vs Q E hr he hb hv hs => ?_⟩
  refine codeAny_mono (F.run A outer s _ args us vs _ E hr he hb hv hs) fun r s' h => ?_
  match r, h with
  | .ok (.ret u), h =>
    obtain ⟨v, H', os, bare, un, hok', rv, p, a, b, c, rfl, e, q⟩ := h
    exact ⟨.ref p, upd H' p (diceO p), os, bare, un_hide un e, hok_hide hok' e, rv, q⟩
end
theorem upd_id {H : Hp} {p : Addr} {o : HO} (h : H p = some o) : upd H p o = H := by
  funext q
  by_cases e : q = p
  · subst e
    rw [upd_same, h]
  · rw [upd_ne e]

/-! ### a def of the text, for its callers -/
structure Cal (P : Program) (w : World) (K : PySem.W.Frag) (mg : Str → Option Value) (base : Heap) (x : Str) (k : Nat) (ps : List Str) (sp : Sp) : Prop where
  ex : ∃ (f : Addr) (fd : FuncData), FnOk P w K mg base CX0 k f fd ps sp ∧ mg x = some (.ref f) ∧ PySem.W.keepIn K (.ref f) = true ∧ Binds K fd ps []
section
variable {X : Cx} {k : Nat} {ps : List Str} {sp : Sp} {x : Str} {p pos : Pos} {e : Expr} {es : List Expr} {t : TA}
theorem pe_cal (C : Cal X.prog X.w X.K X.mg X.base x k ps sp) (hr : Room k X.A) (hg : Gl X x) (ha : PA X (e :: es) t) (hdb : (x == ("__debug__" : Str)) = false := by decide)
    (he : starEach (e :: es) X.env = (false, eval e X.env) :: starEach es X.env := by rfl) (hpl : (backTo pos (starEach es X.env)).any (·.1) = false := by rfl) :
    PE X (.Call (.Name x p) (e :: es) [] pos) (tCall sp [] E0 t) := by
  obtain ⟨f, fd, F, hm, hk, hb⟩ := C.ex
  exact pe_call F hr hg hm hk hb .nil pass0 ha hdb he hpl
theorem pe_cal0 (C : Cal X.prog X.w X.K X.mg X.base x k ps sp) (hr : Room k X.A) (hg : Gl X x) (hdb : (x == ("__debug__" : Str)) = false := by decide) :
    PE X (.Call (.Name x p) [] [] pos) (tCall sp [] E0 tNil) := by
  obtain ⟨f, fd, F, hm, hk, hb⟩ := C.ex
  exact pe_call0 F hr hg hm hk hb .nil pass0 hdb
end

/-! ### operators -/
section
variable {X : Cx}
def CPowW (i j : Int) : Prop := 0 ≤ j ∧ (Builtin.Int.intBits i : Int) * j ≤ 2 ^ 27
theorem op_powW : OpR X (binaryOp .Pow) (rI CPowW fun i j => .int (i ^ j.toNat)) := opI fun _ _ _ _ _ _ _ hc q => pow_int hc.1 hc.2 q
theorem call_reprB : CallR X (.builtin "repr") (fun xs H Q => ∃ b, xs = [.bl b] ∧ Q (.str (if b then "True" else "False")) H) := by
  intro pins s σ H xs us Q I r h
  obtain ⟨b, rfl, q⟩ := h
  obtain ⟨u, rfl, ru⟩ := vals1 r
  obtain rfl : u = Value.bool b := ru
  exact PySem.P.repr_of_bool ⟨.str _, H, I.tok _, ⟨_, rfl⟩, q⟩
end

/-! ### what is evaluated, by what is true of it, on heaps that grow -/
abbrev Ty := V → Hp → Prop
def Mono (Φ : Ty) : Prop := ∀ v H H', Gx H H' → Φ v H → Φ v H'
def EvG (te : TE) (σ : L2.St) (H : Hp) (Φ : Ty) : Prop := ∀ H1, Gx H H1 → ∀ Q : VK, (∀ v H2, Gx H1 H2 → Φ v H2 → Q v H2) → te σ H1 Q
def EvGs (ta : TA) (σ : L2.St) (H : Hp) (Ψ : List V → Hp → Prop) : Prop := ∀ H1, Gx H H1 → ∀ Q : List V → Hp → Prop, (∀ vs H2, Gx H1 H2 → Ψ vs H2 → Q vs H2) → ta σ H1 Q
section
variable {σ : L2.St} {H H' : Hp} {te ta tb : TE} {tr : TA} {Φ Φ' : Ty} {v : V} {Q : VK}
theorem EvG.use (h : EvG te σ H Φ) (k : ∀ v H2, Gx H H2 → Φ v H2 → Q v H2) : te σ H Q := h H (Gx.refl H) Q k
theorem EvGs.use {Ψ : List V → Hp → Prop} {Q : List V → Hp → Prop} (h : EvGs tr σ H Ψ) (k : ∀ vs H2, Gx H H2 → Ψ vs H2 → Q vs H2) : tr σ H Q := h H (Gx.refl H) Q k
theorem EvG.mono (e : Gx H H') (h : EvG te σ H Φ) : EvG te σ H' Φ := fun H1 a Q q => h H1 (e.trans a) Q q
theorem EvG.imp (h : EvG te σ H Φ) (i : ∀ v H2, Gx H H2 → Φ v H2 → Φ' v H2) : EvG te σ H Φ' := fun H1 a Q q => h H1 a Q fun v H2 e f => q v H2 e (i v H2 (a.trans e) f)
theorem evg_var {i : Nat} (h : σ[i]? = some (some v)) (m : ∀ H1, Gx H H1 → Φ v H1) : EvG (tVar i) σ H Φ := fun H1 e _ q => ⟨v, h, q v H1 (Gx.refl H1) (m H1 e)⟩
theorem evg_c (m : ∀ H1, Gx H H1 → Φ v H1) : EvG (tC v) σ H Φ := fun H1 e _ q => q v H1 (Gx.refl H1) (m H1 e)
theorem evgs_nil {Ψ : List V → Hp → Prop} (m : ∀ H1, Gx H H1 → Ψ [] H1) : EvGs tNil σ H Ψ := fun H1 e _ q => q [] H1 (Gx.refl H1) (m H1 e)
theorem evgs_cons {Ψ : List V → Hp → Prop} (h : EvG ta σ H Φ) (k : ∀ v H1, Gx H H1 → Φ v H1 → EvGs tr σ H1 (fun vs H2 => Ψ (v :: vs) H2)) : EvGs (tCons ta tr) σ H Ψ := fun H1 e _ q =>
  h H1 e _ fun v H2 e2 f => (k v H2 (e.trans e2) f) H2 (Gx.refl H2) _ fun vs H3 e3 g => q (v :: vs) H3 (e2.trans e3) g
/-- all of one kind -/
def AllT (Φ : Ty) (n : Nat) : List V → Hp → Prop := fun vs H => vs.length = n ∧ ∀ x ∈ vs, Φ x H
theorem AllT.mono {n : Nat} {vs : List V} (m : Mono Φ) (e : Gx H H') (h : AllT Φ n vs H) : AllT Φ n vs H' := ⟨h.1, fun x hx => m _ _ _ e (h.2 x hx)⟩
theorem evgs_none : EvGs tNil σ H (AllT Φ 0) := evgs_nil fun _ _ => ⟨rfl, fun x h => by cases h⟩
theorem evgs_more {n : Nat} (m : Mono Φ) (h : EvG ta σ H Φ) (k : ∀ H1, Gx H H1 → EvGs tr σ H1 (AllT Φ n)) : EvGs (tCons ta tr) σ H (AllT Φ (n + 1)) :=
  evgs_cons h fun v H1 e f => fun H2 e2 Q q => k H1 e H2 e2 Q fun vs H3 e3 g => q vs H3 e3 ⟨by rw [List.length_cons, g.1], fun x hx => by
    rcases List.mem_cons.mp hx with rfl | hx
    · exact m _ _ _ (e2.trans e3) f
    · exact g.2 x hx⟩
theorem evg_tup {Ψ : List V → Hp → Prop} (h : EvGs tr σ H Ψ) (hl : ∀ vs H1, Ψ vs H1 → vs.length ≤ 100000) (m : ∀ vs p H1 H2, Ψ vs H1 → Gx H1 H2 → H1 p = none → H2 p = some (.tup vs) → Φ (.ref p) H2) : EvG (tTup tr) σ H Φ := fun H1 e Q q =>
  h H1 e _ fun vs H2 e2 g => ⟨Evl.sz_of (hl vs H2 g), fun p hp => q _ _ (e2.trans (Gx.new hp)) (m vs p H2 _ g (Gx.new hp) hp upd_same)⟩
theorem evg_lst {Ψ : List V → Hp → Prop} (h : EvGs tr σ H Ψ) (hl : ∀ vs H1, Ψ vs H1 → vs.length ≤ 100000) (m : ∀ vs p H1 H2, Ψ vs H1 → Gx H1 H2 → H1 p = none → H2 p = some (.lst vs) → Φ (.ref p) H2) : EvG (tLst tr) σ H Φ := fun H1 e Q q =>
  h H1 e _ fun vs H2 e2 g => ⟨Evl.sz_of (hl vs H2 g), fun p hp => q _ _ (e2.trans (Gx.new hp)) (m vs p H2 _ g (Gx.new hp) hp upd_same)⟩
end
/-- heaps in which all stays but what lists hold -/
def Kx (H H' : Hp) : Prop := ∀ a o, H a = some o → H' a = some o ∨ ∃ xs ys, o = .lst xs ∧ H' a = some (.lst ys)
theorem Gx.k {H H' : Hp} (e : Gx H H') : Kx H H' := fun a o h => .inl (e a o h)
theorem Kx.refl (H : Hp) : Kx H H := fun _ _ h => .inl h
theorem Kx.trans {H H1 H2 : Hp} (a : Kx H H1) (b : Kx H1 H2) : Kx H H2 := fun x o h => by
  rcases a x o h with h1 | ⟨xs, ys, e, h1⟩
  · exact b x o h1
  · rcases b x _ h1 with h2 | ⟨xs2, ys2, _, h2⟩
    · exact .inr ⟨xs, ys, e, h2⟩
    · exact .inr ⟨xs, ys2, e, h2⟩
theorem Kx.put {H : Hp} {p : Addr} {xs ys : List V} (h : H p = some (.lst xs)) : Kx H (upd H p (.lst ys)) := fun a o e => by
  by_cases q : a = p
  · subst q
    rw [h] at e
    cases e
    exact .inr ⟨xs, ys, rfl, upd_same⟩
  · exact .inl (by rw [upd_ne q]; exact e)
theorem Kx.keep {H H' : Hp} (e : Kx H H') {a : Addr} {o : HO} (h : H a = some o) (n : ∀ xs, o ≠ .lst xs) : H' a = some o := by
  rcases e a o h with h1 | ⟨xs, _, z, _⟩
  · exact h1
  · exact absurd z (n xs)
theorem Kx.tup {H H' : Hp} (e : Kx H H') {a : Addr} {xs : List V} (h : H a = some (.tup xs)) : H' a = some (.tup xs) := e.keep h fun _ z => by cases z
theorem Kx.dice {H H' : Hp} (e : Kx H H') {a : Addr} (h : H a = some (diceO a)) : H' a = some (diceO a) := e.keep h fun _ z => by cases z
/-- true whatever lists hold -/
def Firm (Φ : Ty) : Prop := ∀ v H H', Kx H H' → Φ v H → Φ v H'
theorem Firm.mono {Φ : Ty} (h : Firm Φ) : Mono Φ := fun v H H' e f => h v H H' e.k f
inductive Kd | non | bl | int | str | lst | tup | dic | own
  deriving DecidableEq
/-- the answer of isinstance of such a value and a built-in type -/
def kdIs : Kd → String → Bool
  | .bl, n => n == "bool" || n == "int"
  | .int, n => n == "int"
  | .str, n => n == "str"
  | .lst, n => n == "list"
  | .tup, n => n == "tuple"
  | .dic, n => n == "dict"
  | _, _ => false
/-- the built-in types that are asked for -/
def asked : List String := ["int", "bool", "str", "list", "tuple", "dict"]
/-- a class of the text whose instances are none of these -/
structure Own (K : PySem.W.Frag) (C : Addr) : Prop where
  cl : Cls K C
  ha : PySem.W.findIn K (.ref C) "__class__" = some (some (.builtin "object.__class__"))
  hn : PySem.W.specialIn K (.builtin "object.__class__") "__get__" = some (some (.builtin "getset_descriptor.__get__"))
  htk : PySem.W.takesIn K (.builtin "object.__class__") = some true
  hm : PySem.W.mroIn K C (.type "object") = some true
  no : ∀ n ∈ asked, PySem.W.kitOne K (.ref C) (.type n) = some false
/-- a plain value of a built-in type, or an instance -/
inductive Pl (K : PySem.W.Frag) (H : Hp) : V → Kd → Prop
  | non : Pl K H .non .non
  | bl (b : Bool) : Pl K H (.bl b) .bl
  | int (i : Int) : Pl K H (.int i) .int
  | str (x : Str) : Pl K H (.str x) .str
  | lst {a : Addr} {xs : List V} (e : H a = some (.lst xs)) : Pl K H (.ref a) .lst
  | tup {a : Addr} {xs : List V} (e : H a = some (.tup xs)) : Pl K H (.ref a) .tup
  | dK {a : Addr} {kvs : List (Key × V)} (e : H a = some (.dK kvs)) : Pl K H (.ref a) .dic
  | own {a C dx : Addr} {fs : List (Str × V)} (e : H a = some (.ins C dx fs)) (o : Own K C) : Pl K H (.ref a) .own
theorem Pl.isi {K : PySem.W.Frag} {H : Hp} {v : V} {k : Kd} (h : Pl K H v k) {n : String} (hn : n ∈ asked) : ∃ t, TyX K H v t ∧ PySem.W.kitOne K t (.type n) = some (kdIs k n) := by
  have go : ∀ (t : String) (k : Kd), (∀ m ∈ asked, kitB t m = some (kdIs k m)) → PySem.W.kitOne K (.type t) (.type n) = some (kdIs k n) := fun t k q => kit_ty (q n hn)
  cases h with
  | non => exact ⟨_, .base .non, go _ _ (by decide +kernel)⟩
  | bl b => exact ⟨_, .base (.bl b), go _ _ (by decide +kernel)⟩
  | int i => exact ⟨_, .base (.int i), go _ _ (by decide +kernel)⟩
  | str x => exact ⟨_, .base (.str x), go _ _ (by decide +kernel)⟩
  | lst e => exact ⟨_, .base (.lst e), go _ _ (by decide +kernel)⟩
  | tup e => exact ⟨_, .base (.tup e), go _ _ (by decide +kernel)⟩
  | dK e => exact ⟨_, .base (.dK e), go _ _ (by decide +kernel)⟩
  | own e o => exact ⟨_, .base (.ins e o.cl o.ha o.hn o.htk o.hm), o.no n hn⟩
theorem Pl.firm {K : PySem.W.Frag} {k : Kd} : Firm (fun v H => Pl K H v k) := fun v H H' e h => by
  cases h with
  | non => exact .non
  | bl b => exact .bl b
  | int i => exact .int i
  | str x => exact .str x
  | lst h =>
    rcases e _ _ h with h1 | ⟨_, _, _, h1⟩
    · exact .lst h1
    · exact .lst h1
  | tup h => exact .tup (e.tup h)
  | dK h => exact .dK (e.keep h fun _ z => by cases z)
  | own h o => exact .own (e.keep h fun _ z => by cases z) o
theorem Pl.gx {K : PySem.W.Frag} {H H' : Hp} {v : V} {k : Kd} (e : Gx H H') (h : Pl K H v k) : Pl K H' v k := Pl.firm v H H' e.k h

section
variable {X : Cx} {x : Str} {pos : Pos}
theorem pe_ty (n : String) (hg : Gl X x) (hm : X.mg x = none) (hv : bootBuiltins x = some (.type n)) (hn : x ≠ "__name__" := by decide) (hd : (x == ("__debug__" : Str)) = false := by decide) : PE X (.Name x pos) (tC (.ty n)) := pe_bltn hg hm hv rfl hn hd
theorem pe_gint {i : Int} {t : Tok} (hg : Gl X x) (hm : X.mg x = some (.int i t)) (hd : (x == ("__debug__" : Str)) = false := by decide) : PE X (.Name x pos) (tC (.int i)) := pe_glob hg hm ⟨t, rfl⟩ hd
theorem pe_gstr {i : Str} {t : Tok} (hg : Gl X x) (hm : X.mg x = some (.str i t)) (hd : (x == ("__debug__" : Str)) = false := by decide) : PE X (.Name x pos) (tC (.str i)) := pe_glob hg hm ⟨t, rfl⟩ hd
theorem pe_gref {a : Addr} (hg : Gl X x) (hm : X.mg x = some (.ref a)) (hd : (x == ("__debug__" : Str)) = false := by decide) : PE X (.Name x pos) (tC (.ref a)) := pe_glob hg hm rfl hd
end

/-! ### ints, new lists, drawn items -/
def IntT (P : Int → Prop) : Ty := fun v _ => ∃ i, v = .int i ∧ P i
def BlT (P : Bool → Prop) : Ty := fun v _ => ∃ b, v = .bl b ∧ P b
def EvN (te : TE) (σ : L2.St) (H : Hp) (Φ : Addr → Hp → Prop) : Prop := ∀ H1, Gx H H1 → ∀ Q : VK, (∀ p H2, Gx H1 H2 → H1 p = none → Φ p H2 → Q (.ref p) H2) → te σ H1 Q
section
variable {K : PySem.W.Frag} {σ : L2.St} {H H' : Hp} {te ta tb : TE} {tr : TA} {Φ Φ' : Ty} {v : V} {Q : VK}
theorem EvN.use {Φ : Addr → Hp → Prop} (h : EvN te σ H Φ) (k : ∀ p H2, Gx H H2 → H p = none → Φ p H2 → Q (.ref p) H2) : te σ H Q := h H (Gx.refl H) Q k
theorem EvN.g {Φ : Addr → Hp → Prop} (h : EvN te σ H Φ) (k : ∀ p H1 H2, Gx H H1 → H1 p = none → Gx H1 H2 → Φ p H2 → Φ' (.ref p) H2) : EvG te σ H Φ' := fun H1 e Q q => h H1 e Q fun p H2 e2 n f => q _ H2 e2 (k p H1 H2 e n e2 f)
theorem evg_I {P R : Int → Prop} {C : Int → Int → Prop} {g : Int → Int → V} (ha : EvG ta σ H (IntT P)) (hb : EvG tb σ H (IntT R)) (hc : ∀ i j, P i → R j → C i j) (m : ∀ i j, P i → R j → ∀ H1, Gx H H1 → Φ (g i j) H1) : EvG (tOp (rI C g) ta tb) σ H Φ := fun H1 e Q q =>
  ha H1 e _ fun _ H2 e2 ⟨i, z, p⟩ => hb H2 (e.trans e2) _ fun _ H3 e3 ⟨j, z2, r⟩ => ⟨i, j, z, z2, hc i j p r, q _ H3 (e2.trans e3) (m i j p r H3 ((e.trans e2).trans e3))⟩
theorem evg_I0 {P R : Int → Prop} {g : Int → Int → V} (ha : EvG ta σ H (IntT P)) (hb : EvG tb σ H (IntT R)) (m : ∀ i j, P i → R j → ∀ H1, Gx H H1 → Φ (g i j) H1) : EvG (tOp (rI0 g) ta tb) σ H Φ := fun H1 e Q q =>
  ha H1 e _ fun _ H2 e2 ⟨i, z, p⟩ => hb H2 (e.trans e2) _ fun _ H3 e3 ⟨j, z2, r⟩ => ⟨i, j, z, z2, q _ H3 (e2.trans e3) (m i j p r H3 ((e.trans e2).trans e3))⟩
theorem evg_U {P : Int → Prop} {g : Int → V} (ha : EvG ta σ H (IntT P)) (m : ∀ i, P i → ∀ H1, Gx H H1 → Φ (g i) H1) : EvG (tUn (rU g) ta) σ H Φ := fun H1 e Q q =>
  ha H1 e _ fun _ H2 e2 ⟨i, z, p⟩ => ⟨i, z, q _ H2 e2 (m i p H2 (e.trans e2))⟩
theorem evg_i (i : Int) : EvG (tC (.int i)) σ H (IntT fun j => j = i) := evg_c fun _ _ => ⟨i, rfl, rfl⟩
theorem evg_vi {n : Nat} {i : Int} (h : σ[n]? = some (some (.int i))) : EvG (tVar n) σ H (IntT fun j => j = i) := evg_var h fun _ _ => ⟨i, rfl, rfl⟩
theorem evn_lst {Ψ : List V → Hp → Prop} {Φ : Addr → Hp → Prop} (h : EvGs tr σ H Ψ) (hl : ∀ vs H1, Ψ vs H1 → vs.length ≤ 100000) (m : ∀ vs p H1 H2, Gx H H1 → Ψ vs H1 → Gx H1 H2 → H1 p = none → H2 p = some (.lst vs) → Φ p H2) : EvN (tLst tr) σ H Φ := fun H1 e Q q =>
  h H1 e _ fun vs H2 e2 g => ⟨Evl.sz_of (hl vs H2 g), fun p hp => q _ _ (e2.trans (Gx.new hp)) (e2.free hp) (m vs p H2 _ (e.trans e2) g (Gx.new hp) hp upd_same)⟩
theorem evn_tup {Ψ : List V → Hp → Prop} {Φ : Addr → Hp → Prop} (h : EvGs tr σ H Ψ) (hl : ∀ vs H1, Ψ vs H1 → vs.length ≤ 100000) (m : ∀ vs p H1 H2, Gx H H1 → Ψ vs H1 → Gx H1 H2 → H1 p = none → H2 p = some (.tup vs) → Φ p H2) : EvN (tTup tr) σ H Φ := fun H1 e Q q =>
  h H1 e _ fun vs H2 e2 g => ⟨Evl.sz_of (hl vs H2 g), fun p hp => q _ _ (e2.trans (Gx.new hp)) (e2.free hp) (m vs p H2 _ (e.trans e2) g (Gx.new hp) hp upd_same)⟩
/-- a list of things of one kind, at a place -/
def Lof (Φ : Ty) (n : Nat) : Addr → Hp → Prop := fun p H => ∃ xs, H p = some (.lst xs) ∧ AllT Φ n xs H
def LofT (Φ : Ty) (n : Nat) : Ty := fun v H => ∃ p, v = .ref p ∧ Lof Φ n p H
theorem Lof.mono {n : Nat} {p : Addr} (m : Mono Φ) (e : Gx H H') (h : Lof Φ n p H) : Lof Φ n p H' := by
  obtain ⟨xs, h1, h2⟩ := h
  exact ⟨xs, e _ _ h1, h2.mono m e⟩
theorem LofT.mono {n : Nat} (m : Mono Φ) : Mono (LofT Φ n) := fun _ _ _ e ⟨p, h1, h2⟩ => ⟨p, h1, h2.mono m e⟩
theorem evn_all {n : Nat} (m : Mono Φ) (h : EvGs tr σ H (AllT Φ n)) (hn : n ≤ 100000) : EvN (tLst tr) σ H (Lof Φ n) :=
  evn_lst h (fun vs _ g => by rw [g.1]; exact hn) fun vs p _ _ _ g e2 _ hp => ⟨vs, hp, g.mono m e2⟩
theorem evg_all {n : Nat} (m : Mono Φ) (h : EvGs tr σ H (AllT Φ n)) (hn : n ≤ 100000) : EvG (tLst tr) σ H (LofT Φ n) := (evn_all m h hn).g fun p _ _ _ _ _ f => ⟨p, rfl, f⟩
theorem evn_cat {n k : Nat} (m : Mono Φ) (ha : EvG ta σ H (LofT Φ n)) (hb : EvG tb σ H (LofT Φ k)) (hn : n + k ≤ 100000) : EvN (tOp rCat ta tb) σ H (Lof Φ (n + k)) := fun H1 e Q q =>
  ha H1 e _ fun _ H2 e2 ⟨a, z, fa⟩ => hb H2 (e.trans e2) _ fun _ H3 e3 ⟨b, z2, ys, h1, h2⟩ => by
    obtain ⟨xs, h3, h4⟩ := fa.mono m e3
    refine ⟨a, b, xs, ys, z, z2, h3, h1, Evl.sz_of (by rw [h4.1, h2.1]; exact hn), fun p hp => q p _ ((e2.trans e3).trans (Gx.new hp)) ((e2.trans e3).free hp) ⟨_, upd_same, ?_⟩⟩
    refine ⟨by rw [List.length_append, h4.1, h2.1], fun x hx => m _ _ _ (Gx.new hp) ?_⟩
    rcases List.mem_append.mp hx with hx | hx
    · exact h4.2 x hx
    · exact h2.2 x hx
end

/-! ### the promises of the dice's defs -/
def spDice0 (K : PySem.W.Frag) : Sp := fun vs H Q _ => ∃ (a : Addr) (ns : List Int) (n : Nat), vs = [.ref a, .int n] ∧ SqL K H a (ns.map V.int) ∧
  ∀ p x y z, H p = none → Q (.ref p) (upd H p (three x y z))
def spDice (K : PySem.W.Frag) : Sp := fun vs H Q _ => ∃ (a : Addr) (ns : List Int) (n : Nat), vs = [.ref a, .int n] ∧ SqL K H a (ns.map V.int) ∧
  ∀ p, H p = none → Q (.ref p) (upd H p (diceO p))
def spRoll0 : Sp := fun vs H Q _ => ∃ (p : Addr) (t a b c : Int), vs = [.ref p, .int t] ∧ 0 < t ∧ t < 1073741824 ∧ H p = some (three a b c) ∧
  ∀ r a' b' c', 0 ≤ r → r < t → Q (.int r) (upd H p (three a' b' c'))
def spRoll : Sp := fun vs H Q _ => ∃ (p : Addr) (t : Int), vs = [.ref p, .int t] ∧ 0 < t ∧ t < 1073741824 ∧ H p = some (diceO p) ∧ ∀ r, 0 ≤ r → r < t → Q (.int r) H
def spPick (K : PySem.W.Frag) : Sp := fun vs H Q _ => ∃ (p l : Addr) (xs : List V), vs = [.ref p, .ref l] ∧ H p = some (diceO p) ∧ SqL K H l xs ∧ 0 < xs.length ∧ xs.length < 1073741824 ∧ ∀ (j : Nat) x, xs[j]? = some x → Q x H
section
variable {K : PySem.W.Frag} {σ : L2.St} {H H' : Hp} {td tl : TE} {Φ : Ty} {p : Addr}
def DiceT : Ty := fun v H => ∃ p, v = .ref p ∧ H p = some (diceO p)
theorem DiceT.mono : Mono DiceT := fun _ _ _ e ⟨p, h1, h2⟩ => ⟨p, h1, e _ _ h2⟩
theorem evg_dice {i : Nat} (h : σ[i]? = some (some (.ref p))) (hp : H p = some (diceO p)) : EvG (tVar i) σ H DiceT := evg_var h fun _ e => ⟨p, rfl, e _ _ hp⟩
theorem evg_pick {n : Nat} (hd : EvG td σ H DiceT) (hl : EvG tl σ H (LofT Φ n)) (hn : 0 < n ∧ n ≤ 100000) : EvG (tCall (spPick K) [] E0 (tCons td (tCons tl tNil))) σ H Φ := fun H1 e Q q =>
  hd H1 e _ fun _ H2 e2 ⟨p, z, hp⟩ => hl H2 (e.trans e2) _ fun _ H3 e3 ⟨l, z2, xs, h1, h2⟩ => by
    subst z
    subst z2
    exact ⟨p, l, xs, rfl, e3 _ _ hp, SqL.of h1, by rw [h2.1]; exact hn.1, by rw [h2.1]; omega, fun j x hx => q x H3 (e2.trans e3) (h2.2 x (List.mem_of_getElem? hx))⟩
theorem evg_roll {R : Int → Prop} {tt : TE} (hd : EvG td σ H DiceT) (ht : EvG tt σ H (IntT R)) (hR : ∀ i, R i → 0 < i ∧ i ≤ 100000) (m : ∀ r i, R i → 0 ≤ r → r < i → ∀ H1, Gx H H1 → Φ (.int r) H1) : EvG (tCall spRoll [] E0 (tCons td (tCons tt tNil))) σ H Φ := fun H1 e Q q =>
  hd H1 e _ fun _ H2 e2 ⟨p, z, hp⟩ => ht H2 (e.trans e2) _ fun _ H3 e3 ⟨i, z2, hi⟩ => by
    subst z
    subst z2
    have h := hR i hi
    exact ⟨p, i, rfl, h.1, by omega, e3 _ _ hp, fun r h1 h2 => q _ H3 (e2.trans e3) (m r i hi h1 h2 H3 ((e.trans e2).trans e3))⟩
end

/-! ### statements -/
section
variable {K : PySem.W.Frag} {σ : L2.St} {H : Hp} {te tl : TE} {ta : TA} {tz tu tw tb : TS} {tt : TT} {D : Ends} {Φ : Ty} {i j : Nat}
theorem g_asg (h : EvG te σ H Φ) (k : ∀ v H1, Gx H H1 → Φ v H1 → tz D (σ.set i (some v)) H1) : tSeq (tAsg te (gName i)) tz D σ H := h H (Gx.refl H) _ fun v H1 e f => k v H1 e f
theorem g_asgN {Φ : Addr → Hp → Prop} (h : EvN te σ H Φ) (k : ∀ p H1, Gx H H1 → H p = none → Φ p H1 → tz D (σ.set i (some (.ref p))) H1) : tSeq (tAsg te (gName i)) tz D σ H := h H (Gx.refl H) _ fun v H1 e n f => k v H1 e n f
theorem g_par {Ψ : List V → Hp → Prop} (h : EvGs ta σ H Ψ) (k : ∀ vs H1, Gx H H1 → Ψ vs H1 → ∃ v w, vs = [v, w] ∧ tz D ((σ.set i (some v)).set j (some w)) H1) : tSeq (tPar i j ta) tz D σ H := h H (Gx.refl H) _ fun vs H1 e f => k vs H1 e f
theorem g_ret (h : EvG te σ H Φ) (k : ∀ v H1, Gx H H1 → Φ v H1 → D.rt v H1) : tRet te D σ H := h H (Gx.refl H) _ fun v H1 e f => k v H1 e f
theorem g_drop (h : EvG te σ H Φ) (k : ∀ v H1, Gx H H1 → Φ v H1 → tz D σ H1) : tSeq (tDrop te) tz D σ H := h H (Gx.refl H) _ fun v H1 e f => k v H1 e f
/-- a test -/
def EvB (tt : TT) (σ : L2.St) (H : Hp) (R : Bool → Prop) : Prop := ∀ H1, Gx H H1 → ∀ Q : Bool → Hp → Prop, (∀ b H2, Gx H1 H2 → R b → Q b H2) → tt σ H1 Q
theorem g_if {R : Bool → Prop} (h : EvB tt σ H R) (k1 : R true → ∀ H1, Gx H H1 → tu { D with nx := tz D } σ H1) (k2 : R false → ∀ H1, Gx H H1 → tw { D with nx := tz D } σ H1) : tSeq (tIfS tt tu tw) tz D σ H := h H (Gx.refl H) _ fun b H1 e f => by
  cases b with
  | true => exact iteT (k1 f H1 e)
  | false => exact iteF (k2 f H1 e)
theorem g_when {R : Bool → Prop} (h : EvB tt σ H R) (k1 : R true → ∀ H1, Gx H H1 → tu { D with nx := tz D } σ H1) (k2 : R false → ∀ H1, Gx H H1 → tz D σ H1) : tSeq (tIfS tt tu tNext) tz D σ H := g_if h k1 k2
theorem g_when1 {R : Bool → Prop} (h : EvB tt σ H R) (k1 : R true → ∀ H1, Gx H H1 → tu D σ H1) (k2 : R false → ∀ H1, Gx H H1 → D.nx σ H1) : tIfS tt tu tNext D σ H := h H (Gx.refl H) _ fun b H1 e f => by
  cases b with
  | true => exact iteT (k1 f H1 e)
  | false => exact iteF (k2 f H1 e)
theorem evb_test {R : Bool → Prop} (h : EvG te σ H (BlT R)) : EvB (tTest te) σ H R := fun H1 e Q q => h H1 e _ fun v H2 e2 ⟨b, z, r⟩ => ⟨b, z, q b H2 e2 r⟩
theorem evb_B {R : Bool → Prop} (h : EvG te σ H (BlT R)) : EvB (tB te) σ H R := fun H1 e Q q => h H1 e _ fun v H2 e2 ⟨b, z, r⟩ => ⟨b, z, q b H2 e2 r⟩
/-- for x in a new list of things of one kind; Pv is kept from turn to turn -/
theorem g_forN {n : Nat} (h : EvN tl σ H (Lof Φ n)) (Pv : Addr → List V → Nat → L2.St → Hp → Prop)
    (h0 : ∀ p xs H1, Gx H H1 → H p = none → H1 p = some (.lst xs) → AllT Φ n xs H1 → Pv p xs 0 σ H1) (hl : ∀ p xs i σ' H', Pv p xs i σ' H' → SqL K H' p xs)
    (hs : ∀ p xs i x σ' H', xs[i]? = some x → Pv p xs i σ' H' → tb { D with nx := Pv p xs (i + 1), ct := Pv p xs (i + 1), bk := fun σ H => tz D σ H } (σ'.set j (some x)) H')
    (hd : ∀ p xs σ' H', Pv p xs n σ' H' → tz D σ' H') : tSeq (tFor (iList K tl) (gName j) tb) tz D σ H := h H (Gx.refl H) _ fun p H1 e nw ⟨xs, h1, h2⟩ => by
  refine ⟨p, rfl, ⟨xs, SqL.of h1⟩, for_list (K := K) (a := p) (xs := xs) (D := { D with nx := tz D }) (Pv p xs) (h0 p xs H1 e nw h1 h2) (fun i σ H _ q => hl p xs i σ H q) (fun i x σ' H' hx q => hs p xs i x σ' H' hx q) fun σ' H' q => hd p xs σ' H' ?_⟩
  rw [h2.1] at q
  exact q
theorem g_forL {n : Nat} (h : EvG tl σ H (LofT Φ n)) (Pv : Addr → List V → Nat → L2.St → Hp → Prop)
    (h0 : ∀ p xs H1, Gx H H1 → H1 p = some (.lst xs) → AllT Φ n xs H1 → Pv p xs 0 σ H1) (hl : ∀ p xs i σ' H', Pv p xs i σ' H' → SqL K H' p xs)
    (hs : ∀ p xs i x σ' H', xs[i]? = some x → Pv p xs i σ' H' → tb { D with nx := Pv p xs (i + 1), ct := Pv p xs (i + 1), bk := fun σ H => tz D σ H } (σ'.set j (some x)) H')
    (hd : ∀ p xs σ' H', Pv p xs n σ' H' → tz D σ' H') : tSeq (tFor (iList K tl) (gName j) tb) tz D σ H := h H (Gx.refl H) _ fun v H1 e ⟨p, z, xs, h1, h2⟩ => by
  refine ⟨p, z, ⟨xs, SqL.of h1⟩, for_list (K := K) (a := p) (xs := xs) (D := { D with nx := tz D }) (Pv p xs) (h0 p xs H1 e h1 h2) (fun i σ H _ q => hl p xs i σ H q) (fun i x σ' H' hx q => hs p xs i x σ' H' hx q) fun σ' H' q => hd p xs σ' H' ?_⟩
  rw [h2.1] at q
  exact q
/-- for x in range(..) -/
theorem g_forR {R : Int → Prop} (h : EvGs ta σ H (fun vs _ => ∃ k, vs = [.int k] ∧ R k)) (hR : ∀ k, R k → 0 ≤ k ∧ k ≤ 1000000) (Pv : Nat → L2.St → Hp → Prop)
    (h0 : ∀ H1, Gx H H1 → Pv 0 σ H1)
    (hs : ∀ (i : Nat) σ' H', (∃ k, R k ∧ (i : Int) < k) → Pv i σ' H' → tb { D with nx := Pv (i + 1), ct := Pv (i + 1), bk := fun σ H => tz D σ H } (σ'.set j (some (.int i))) H')
    (hd : ∀ (i : Nat) σ' H', R i → Pv i σ' H' → tz D σ' H') : tSeq (tFor (iRng1 ta) (gName j) tb) tz D σ H := h H (Gx.refl H) _ fun vs H1 e ⟨k, z, r⟩ => by
  have hk := hR k r
  refine ⟨k, z, by omega, by omega, for_range (D := { D with nx := tz D }) Pv (h0 H1 e) (fun i σ' H' hi q => ?_) fun σ' H' q => hd k.toNat σ' H' (by rw [show ((k.toNat : Nat) : Int) = k by omega]; exact r) q⟩
  have := hs i σ' H' ⟨k, r, by omega⟩ q
  rw [show (0 : Int) + (i : Int) = (i : Int) by omega]
  exact this
theorem g_forR1 {R : Int → Prop} (h : EvGs ta σ H (fun vs _ => ∃ k, vs = [.int k] ∧ R k)) (hR : ∀ k, R k → 0 ≤ k ∧ k ≤ 1000000) (Pv : Nat → L2.St → Hp → Prop)
    (h0 : ∀ H1, Gx H H1 → Pv 0 σ H1)
    (hs : ∀ (i : Nat) σ' H', (∃ k, R k ∧ (i : Int) < k) → Pv i σ' H' → tb { D with nx := Pv (i + 1), ct := Pv (i + 1), bk := D.nx } (σ'.set j (some (.int i))) H')
    (hd : ∀ (i : Nat) σ' H', R i → Pv i σ' H' → D.nx σ' H') : tFor (iRng1 ta) (gName j) tb D σ H := h H (Gx.refl H) _ fun vs H1 e ⟨k, z, r⟩ => by
  have hk := hR k r
  refine ⟨k, z, by omega, by omega, for_range (D := D) Pv (h0 H1 e) (fun i σ' H' hi q => ?_) fun σ' H' q => hd k.toNat σ' H' (by rw [show ((k.toNat : Nat) : Int) = k by omega]; exact r) q⟩
  have := hs i σ' H' ⟨k, r, by omega⟩ q
  rw [show (0 : Int) + (i : Int) = (i : Int) by omega]
  exact this
end
/-- isinstance(x, T) -/
theorem evg_isi {K : PySem.W.Frag} {σ : L2.St} {H : Hp} {te : TE} {n : String} {R : Bool → Prop} (h : EvG te σ H (fun v H => ∃ k, Pl K H v k ∧ R (kdIs k n))) (hn : n ∈ asked) : EvG (tCB (rIsi K) (tCons te (tCons (tC (.ty n)) tNil))) σ H (BlT R) := fun H1 e Q q =>
  h H1 e _ fun v H2 e2 ⟨k, p, r⟩ => by
    obtain ⟨t, ty, kt⟩ := p.isi hn
    exact ⟨v, .ty n, t, .type n, _, rfl, .ty n, ty, kt, q _ H2 e2 ⟨_, rfl, r⟩⟩

/-! ### what is walked, and comprehensions -/
/-- n turns; the item of turn i and the heap with it meet Y i -/
def EvW (wi : TI) (σ : L2.St) (H : Hp) (n : Nat) (Y : Nat → Ty) : Prop := ∀ H1, Gx H H1 → ∀ R : It → Hp → Prop, (∀ J H2 G Y', Gx H1 H2 → Walk J n G Y' → (∀ H3, Gx H2 H3 → G H3) →
  (∀ i H3 x H4, i < n → Gx H2 H3 → Y' i H3 x H4 → Gx H3 H4 ∧ Y i x H4) → R J H2) → wi σ H1 R
section
variable {K : PySem.W.Frag} {σ : L2.St} {H : Hp} {te tl : TE} {ta : TA} {Φ : Ty}
theorem evw_list {n : Nat} (m : Mono Φ) (h : EvG tl σ H (LofT Φ n)) : EvW (iList K tl) σ H n (fun _ => Φ) := fun H1 e R q =>
  h H1 e _ fun v H2 e2 ⟨p, z, xs, h1, h2⟩ => ⟨p, z, ⟨xs, SqL.of h1⟩, q (Itl K p) H2 (fun H => SqL K H p xs) (YAt xs) e2 (by rw [← h2.1]; exact walk_list (xs := xs)) (fun H3 e3 => SqL.of (e3 _ _ h1))
    (fun i H3 x H4 _ e3 ⟨z4, hx⟩ => by subst z4; exact ⟨Gx.refl _, m _ _ _ e3 (h2.2 x (List.mem_of_getElem? hx))⟩)⟩
/-- a known list, item by item -/
theorem evw_listAt {xs : List V} (h : EvG tl σ H (fun v H => ∃ p, v = .ref p ∧ SqL K H p xs)) : EvW (iList K tl) σ H xs.length (fun i x _ => xs[i]? = some x) := fun H1 e R q =>
  h H1 e _ fun v H2 e2 ⟨p, z, h1⟩ => ⟨p, z, ⟨xs, h1⟩, q _ H2 _ _ e2 (walk_list (xs := xs)) (fun H3 e3 => Gx.l e3 h1)
    (fun i H3 x H4 _ e3 ⟨z4, hx⟩ => by subst z4; exact ⟨Gx.refl _, hx⟩)⟩
theorem evw_tupAt {xs : List V} (h : EvG tl σ H (fun v H => ∃ p, v = .ref p ∧ SqT K H p xs)) : EvW (iTup K tl) σ H xs.length (fun i x _ => xs[i]? = some x) := fun H1 e R q =>
  h H1 e _ fun v H2 e2 ⟨p, z, h1⟩ => ⟨p, z, ⟨xs, h1⟩, q _ H2 _ _ e2 (walk_tup (xs := xs)) (fun H3 e3 => Gx.t e3 h1)
    (fun i H3 x H4 _ e3 ⟨z4, hx⟩ => by subst z4; exact ⟨Gx.refl _, hx⟩)⟩
theorem evw_str {z : Str} (h : EvG te σ H (fun v _ => v = .str z)) : EvW (iStr te) σ H z.cps.size (fun i x _ => ∃ c, z.cps[i]? = some c ∧ x = .str ⟨#[c]⟩) := fun H1 e R q =>
  h H1 e _ fun v H2 e2 hv => ⟨z, hv, q _ H2 _ _ e2 (walk_str (z := z)) (fun _ _ => trivial) (fun i H3 x H4 _ _ ⟨z4, c, h1, h2⟩ => by subst z4; exact ⟨Gx.refl _, c, h1, h2⟩)⟩
theorem evw_rng {k : Int} (h : EvGs ta σ H (fun vs _ => vs = [.int k])) (hk : k ≤ 100000 ∧ -100000 ≤ k) : EvW (iRng1 ta) σ H k.toNat (fun i x _ => x = .int i) := fun H1 e R q =>
  h H1 e _ fun vs H2 e2 hv => ⟨k, hv, by omega, by omega, q _ H2 _ _ e2 (walk_range (lo := 0) (n := k.toNat)) (fun _ _ => trivial) (fun i H3 x H4 _ _ ⟨z4, hx⟩ => by subst z4; exact ⟨Gx.refl _, hx.trans (by show V.int (0 + (i : Int)) = V.int i; rw [Int.zero_add])⟩)⟩
end
/-- what a comprehension gives: the items whose test holds, in order -/
inductive LcR (B : Nat → Bool → Prop) (R : Nat → Ty) (H : Hp) : Nat → List V → Prop
  | nil : LcR B R H 0 []
  | keep {n : Nat} {ys : List V} {y : V} : LcR B R H n ys → B n true → R n y H → LcR B R H (n + 1) (ys ++ [y])
  | skip {n : Nat} {ys : List V} : LcR B R H n ys → B n false → LcR B R H (n + 1) ys
theorem LcR.firm {B : Nat → Bool → Prop} {R : Nat → Ty} {H H' : Hp} (m : ∀ i, Firm (R i)) (e : Kx H H') {n : Nat} {ys : List V} (h : LcR B R H n ys) : LcR B R H' n ys := by
  induction h with
  | nil => exact .nil
  | keep _ b r ih => exact .keep ih b (m _ _ _ _ e r)
  | skip _ b ih => exact .skip ih b
theorem LcR.gx {B : Nat → Bool → Prop} {R : Nat → Ty} {H H' : Hp} (m : ∀ i, Mono (R i)) (e : Gx H H') {n : Nat} {ys : List V} (h : LcR B R H n ys) : LcR B R H' n ys := by
  induction h with
  | nil => exact .nil
  | keep _ b r ih => exact .keep ih b (m _ _ _ _ e r)
  | skip _ b ih => exact .skip ih b
theorem LcR.len {B : Nat → Bool → Prop} {R : Nat → Ty} {H : Hp} {n : Nat} {ys : List V} (h : LcR B R H n ys) : ys.length ≤ n := by
  induction h with
  | nil => exact Nat.le_refl 0
  | keep _ _ _ ih =>
    rw [List.length_append]
    show _ + 1 ≤ _
    omega
  | skip _ _ ih => omega
/-- without a test: item by item -/
theorem LcR.all {B : Nat → Bool → Prop} {R : Nat → Ty} {H : Hp} {n : Nat} {ys : List V} (h : LcR B R H n ys) (hB : ∀ i, ¬ B i false) : ys.length = n ∧ ∀ i y, ys[i]? = some y → R i y H := by
  induction h with
  | nil => exact ⟨rfl, fun i y e => by simp at e⟩
  | @keep n ys y _ _ r ih =>
    refine ⟨by rw [List.length_append, ih.1]; rfl, fun i z e => ?_⟩
    by_cases hi : i < ys.length
    · rw [List.getElem?_append_left hi] at e
      exact ih.2 i z e
    · rw [List.getElem?_append_right (by omega)] at e
      have h0 : i - ys.length = 0 := by
        cases q : i - ys.length with
        | zero => rfl
        | succ m => rw [q] at e; simp at e
      rw [h0] at e
      cases e
      have : i = n := by rw [← ih.1]; omega
      rw [this]
      exact r
  | skip _ b _ => exact absurd b (hB _)
section
variable {K : PySem.W.Frag} {σ : L2.St} {H : Hp} {te : TE} {wi : TI} {g : TG} {tt : TT} {vs : List Nat} {n : Nat}
theorem evn_lc {Y : Nat → Ty} {S : Nat → L2.St → Hp → Prop} {B : Nat → Bool → Prop} {R : Nat → Ty} (hw : EvW wi σ H n Y) (hn : n ≤ 100000)
    (hg : ∀ i x H1, i < n → Gx H H1 → Y i x H1 → ∀ Q : L2.St → Hp → Prop, (∀ σ2, wipe σ2 vs = wipe σ vs → S i σ2 H1 → Q σ2 H1) → g x (wipe σ vs) H1 Q)
    (ht : ∀ i σ2 H1, i < n → Gx H H1 → S i σ2 H1 → EvB tt σ2 H1 (B i)) (ms : ∀ i σ2 H1 H2, Gx H1 H2 → S i σ2 H1 → S i σ2 H2)
    (he : ∀ i σ2 H1, i < n → Gx H H1 → S i σ2 H1 → B i true → EvG te σ2 H1 (R i)) (m : ∀ i, Firm (R i)) :
    EvN (tLc wi g tt te vs) σ H (fun p H' => ∃ ys, H' p = some (.lst ys) ∧ LcR B R H' n ys) := by
  intro H1 e Q q
  refine hw H1 e _ fun J H2 G Y' e2 W hG hY => ?_
  intro D hD
  refine lc_it W (fun i H' => Gx H2 H' ∧ i ≤ n ∧ ∃ ys, H' D = some (.lst ys) ∧ LcR B R H' i ys) ⟨Gx.new hD, Nat.zero_le _, [], upd_same, .nil⟩ (fun i H' _ p => hG H' p.1) ?_ ?_
  · rintro i x H3 H4 hi ⟨e3, _, ys, hys, L⟩ y
    obtain ⟨e4, y⟩ := hY i H3 x H4 hi e3 y
    have e5 := ((e.trans e2).trans e3).trans e4
    refine hg i x H4 hi e5 y _ fun σ2 w s2 => ⟨w, ht i σ2 H4 hi e5 s2 H4 (Gx.refl _) _ fun b H5 e6 hb => ?_⟩
    cases b with
    | true =>
      refine iteT (he i σ2 H5 hi (e5.trans e6) (ms i σ2 H4 H5 e6 s2) hb H5 (Gx.refl _) _ fun y H6 e7 r => ?_)
      have e8 := (e4.trans e6).trans e7
      have hD6 := e8 _ _ hys
      refine ⟨ys, hD6, Evl.sz_lt (by have := L.len; omega), (e3.trans e8).mut hD, hi, ys ++ [y], upd_same, .keep (L.firm m (e8.k.trans (Kx.put hD6))) hb (m _ _ _ _ (Kx.put hD6) r)⟩
    | false =>
      have e8 := e4.trans e6
      exact iteF ⟨e3.trans e8, hi, ys, e8 _ _ hys, .skip (L.firm m e8.k) hb⟩
  · rintro H3 ⟨e3, _, ys, h, L⟩
    exact q D H3 (e2.trans e3) (e2.free hD) ⟨ys, h, L⟩
theorem wipe1 {j : Nat} {x : Option V} : wipe ((wipe σ [j]).set j x) [j] = wipe σ [j] := by
  show ((σ.set j none).set j x).set j none = σ.set j none
  rw [List.set_set, List.set_set]
/-- the target a name -/
theorem evn_lcN {j : Nat} {Y : Nat → Ty} {B : Nat → Bool → Prop} {R : Nat → Ty} (hw : EvW wi σ H n Y) (hn : n ≤ 100000) (my : ∀ i, Mono (Y i))
    (ht : ∀ i x H1, i < n → Gx H H1 → Y i x H1 → EvB tt ((wipe σ [j]).set j (some x)) H1 (B i))
    (he : ∀ i x H1, i < n → Gx H H1 → Y i x H1 → B i true → EvG te ((wipe σ [j]).set j (some x)) H1 (R i)) (m : ∀ i, Firm (R i)) :
    EvN (tLc wi (gName j) tt te [j]) σ H (fun p H' => ∃ ys, H' p = some (.lst ys) ∧ LcR B R H' n ys) :=
  evn_lc (S := fun i σ2 H => ∃ x, σ2 = (wipe σ [j]).set j (some x) ∧ Y i x H) hw hn (fun i x H1 _ _ y Q q => q _ wipe1 ⟨x, rfl, y⟩) (fun i σ2 H1 hi e ⟨x, z, y⟩ => by subst z; exact ht i x H1 hi e y)
    (fun i σ2 H1 H2 e ⟨x, z, y⟩ => ⟨x, z, my i _ _ _ e y⟩) (fun i σ2 H1 hi e ⟨x, z, y⟩ b => by subst z; exact he i x H1 hi e y b) m
theorem evb_yes {σ : L2.St} {H : Hp} : EvB tYes σ H (fun b => b = true) := fun H1 _ _ q => q true H1 (Gx.refl _) rfl
/-- .. and no test -/
theorem evn_lcA {j : Nat} {Y : Nat → Ty} {R : Nat → Ty} (hw : EvW wi σ H n Y) (hn : n ≤ 100000) (my : ∀ i, Mono (Y i))
    (he : ∀ i x H1, i < n → Gx H H1 → Y i x H1 → EvG te ((wipe σ [j]).set j (some x)) H1 (R i)) (m : ∀ i, Firm (R i)) :
    EvN (tLc wi (gName j) tYes te [j]) σ H (fun p H' => ∃ ys, H' p = some (.lst ys) ∧ ys.length = n ∧ ∀ i y, ys[i]? = some y → R i y H') := by
  intro H1 e Q q
  refine evn_lcN (B := fun _ b => b = true) hw hn my (fun i x H1 _ _ _ => evb_yes) (fun i x H1 hi e y _ => he i x H1 hi e y) m H1 e Q fun p H2 e2 n2 ⟨ys, h, L⟩ => ?_
  exact q p H2 e2 n2 ⟨ys, h, L.all fun _ z => by cases z⟩
end

/-! ### truth values -/
abbrev BlE (b : Bool) : Ty := BlT fun c => c = b
section
variable {K : PySem.W.Frag} {σ : L2.St} {H : Hp} {ta tb tc : TE} {a b : Bool} {t u : TT}
theorem evg_andV (h1 : EvG ta σ H (BlE a)) (h2 : a = true → ∀ H1, Gx H H1 → EvG tb σ H1 (BlE b)) : EvG (tAndV ta tb) σ H (BlE (a && b)) := fun H1 e Q q =>
  h1 H1 e _ fun v H2 e2 ⟨c, z, hc⟩ => ⟨c, z, by
    subst hc
    cases c with
    | true => exact iteT (h2 rfl H2 (e.trans e2) H2 (Gx.refl _) Q fun v H3 e3 f => q v H3 (e2.trans e3) f)
    | false => exact iteF (q _ H2 e2 ⟨false, rfl, rfl⟩)⟩
theorem evg_orV (h1 : EvG ta σ H (BlE a)) (h2 : a = false → ∀ H1, Gx H H1 → EvG tb σ H1 (BlE b)) : EvG (tOrV ta tb) σ H (BlE (a || b)) := fun H1 e Q q =>
  h1 H1 e _ fun v H2 e2 ⟨c, z, hc⟩ => ⟨c, z, by
    subst hc
    cases c with
    | true => exact iteT (q _ H2 e2 ⟨true, rfl, rfl⟩)
    | false => exact iteF (h2 rfl H2 (e.trans e2) H2 (Gx.refl _) Q fun v H3 e3 f => q v H3 (e2.trans e3) f)⟩
theorem evg_notV (h1 : EvG ta σ H (BlE a)) : EvG (tNotV ta) σ H (BlE (!a)) := fun H1 e Q q =>
  h1 H1 e _ fun v H2 e2 ⟨c, z, hc⟩ => ⟨c, z, q _ H2 e2 ⟨_, rfl, by rw [hc]⟩⟩
theorem evb_and (h1 : EvB t σ H (fun c => c = a)) (h2 : a = true → ∀ H1, Gx H H1 → EvB u σ H1 (fun c => c = b)) : EvB (tAnd t u) σ H (fun c => c = (a && b)) := fun H1 e Q q =>
  h1 H1 e _ fun c H2 e2 hc => by
    subst hc
    cases c with
    | true => exact iteT (h2 rfl H2 (e.trans e2) H2 (Gx.refl _) Q fun v H3 e3 f => q v H3 (e2.trans e3) f)
    | false => exact iteF (q _ H2 e2 rfl)
theorem evb_or (h1 : EvB t σ H (fun c => c = a)) (h2 : a = false → ∀ H1, Gx H H1 → EvB u σ H1 (fun c => c = b)) : EvB (tOr t u) σ H (fun c => c = (a || b)) := fun H1 e Q q =>
  h1 H1 e _ fun c H2 e2 hc => by
    subst hc
    cases c with
    | true => exact iteT (q _ H2 e2 rfl)
    | false => exact iteF (h2 rfl H2 (e.trans e2) H2 (Gx.refl _) Q fun v H3 e3 f => q v H3 (e2.trans e3) f)
theorem evb_not (h1 : EvB t σ H (fun c => c = a)) : EvB (tNot t) σ H (fun c => c = !a) := fun H1 e Q q =>
  h1 H1 e _ fun c H2 e2 hc => q _ H2 e2 (by rw [hc])
/-- a < b < c and its like, of ints -/
theorem evg_chain {f g : Int → Int → Bool} {i j k : Int} (ha : EvG ta σ H (IntT fun x => x = i)) (hb : EvG tb σ H (IntT fun x => x = j)) (hc : EvG tc σ H (IntT fun x => x = k)) :
    EvG (tChain (rI0 fun i j => .bl (f i j)) (rI0 fun i j => .bl (g i j)) ta tb tc) σ H (BlE (f i j && g j k)) := fun H1 e Q q =>
  ha H1 e _ fun v H2 e2 ⟨x, z, hx⟩ => hb H2 (e.trans e2) _ fun v2 H3 e3 ⟨y, z2, hy⟩ => ⟨x, y, z, z2, _, rfl, by
    subst hx
    subst hy
    cases q1 : f x y with
    | true =>
      refine iteT (hc H3 ((e.trans e2).trans e3) _ fun v3 H4 e4 ⟨w, z3, hw⟩ => ⟨y, w, z2, z3, ?_⟩)
      have hw : w = k := hw
      exact q _ H4 ((e2.trans e3).trans e4) ⟨_, rfl, by rw [q1, hw, Bool.true_and]⟩
    | false => exact iteF (q _ H3 (e2.trans e3) ⟨false, rfl, by rw [q1, Bool.false_and]⟩)⟩
theorem evg_is {a b : Bool} (h : EvG ta σ H (BlE a)) (e : a = b) : EvG ta σ H (BlE b) := by
  subst e
  exact h
end
theorem evg_rAll {K : PySem.W.Frag} {σ : L2.St} {H : Hp} {te : TE} {R : Bool → Prop} (h : EvN te σ H (fun p H' => ∃ bs : List Bool, H' p = some (.lst (bs.map V.bl)) ∧ R (bs.all id))) : EvG (tCB (rAll K) (tCons te tNil)) σ H (BlT R) := fun H1 e Q q =>
  h H1 e _ fun p H2 e2 _ ⟨bs, hp, r⟩ => ⟨p, bs, rfl, SqL.of hp, q _ H2 e2 ⟨_, rfl, r⟩⟩
theorem evg_rAny {K : PySem.W.Frag} {σ : L2.St} {H : Hp} {te : TE} {R : Bool → Prop} (h : EvN te σ H (fun p H' => ∃ bs : List Bool, H' p = some (.lst (bs.map V.bl)) ∧ R (bs.any id))) : EvG (tCB (rAny K) (tCons te tNil)) σ H (BlT R) := fun H1 e Q q =>
  h H1 e _ fun p H2 e2 _ ⟨bs, hp, r⟩ => ⟨p, bs, rfl, SqL.of hp, q _ H2 e2 ⟨_, rfl, r⟩⟩
theorem EvN.imp {σ : L2.St} {H : Hp} {te : TE} {Φ Φ' : Addr → Hp → Prop} (h : EvN te σ H Φ) (i : ∀ p H2, Gx H H2 → Φ p H2 → Φ' p H2) : EvN te σ H Φ' := fun H1 a Q q => h H1 a Q fun p H2 e n f => q p H2 e n (i p H2 (a.trans e) f)
/-- a list of truth values, told item by item -/
theorem bls_of {ys : List V} {n : Nat} {f : Nat → Bool} (hl : ys.length = n) (h : ∀ (i : Nat) (y : V), ys[i]? = some y → y = V.bl (f i)) : ys = ((List.range n).map f).map V.bl := by
  apply List.ext_getElem?
  intro i
  rw [List.map_map, List.getElem?_map]
  cases q : ys[i]? with
  | some y =>
    have hi : i < n := by rw [← hl]; exact (List.getElem?_eq_some_iff.mp q).1
    rw [h i y q, List.getElem?_range hi]
    rfl
  | none =>
    have : ys.length ≤ i := List.getElem?_eq_none_iff.mp q
    rw [List.getElem?_eq_none (by rw [List.length_range]; omega)]
    rfl
theorem of_cps {ys : List V} {a : Array Nat} {f : Nat → V} (hl : ys.length = a.size) (h : ∀ (i : Nat) (y : V), ys[i]? = some y → ∃ c, a[i]? = some c ∧ y = f c) : ys = a.toList.map f := by
  apply List.ext_getElem?
  intro i
  have e : a.toList[i]? = a[i]? := by simp
  rw [List.getElem?_map, e]
  cases q : ys[i]? with
  | some y =>
    obtain ⟨c, hc, rfl⟩ := h i y q
    rw [hc]
    rfl
  | none =>
    have : ys.length ≤ i := List.getElem?_eq_none_iff.mp q
    rw [Array.getElem?_eq_none (by omega)]
    rfl
/-! ### the words of the package, by values -/
def isI : V → Bool
  | .int i => decide (-(10 ^ 60) < i) && decide (i < 10 ^ 60)
  | _ => false
def wthn (x : V) (lo hi : Int) : Bool := match x with
  | .int i => isI x && (decide (lo ≤ i) && decide (i ≤ hi))
  | _ => false
def letters : List Nat := (("abcdefghijklmnopqrstuvwxyz" : Str)).cps.toList
def isW : V → Bool
  | .str z => (decide (1 ≤ (z.length : Int)) && decide ((z.length : Int) ≤ 8)) && z.cps.toList.all fun c => decide (c ∈ letters)
  | _ => false
def isNode2 (s n : V) : Bool := wthn n 0 3 && (isW s || (decide (s = .str "_" ∨ s = .str "#") && decide (n = .int 0)))
/-- no text too long -/
def Small (x : V) : Prop := ∀ z, x = .str z → z.length ≤ 100000
def spIsInt (K : PySem.W.Frag) : Sp := fun vs H Q _ => ∃ x k, vs = [x] ∧ Pl K H x k ∧ Q (.bl (isI x)) H
def spWithin (K : PySem.W.Frag) : Sp := fun vs H Q _ => ∃ x k lo hi, vs = [x, .int lo, .int hi] ∧ Pl K H x k ∧ Q (.bl (wthn x lo hi)) H
def spWord (K : PySem.W.Frag) : Sp := fun vs H Q _ => ∃ x k, vs = [x] ∧ Pl K H x k ∧ Small x ∧ ∀ H', Gx H H' → Q (.bl (isW x)) H'
/-- a value, and whether it is a node -/
inductive NodeIn (K : PySem.W.Frag) (H : Hp) : V → Bool → Prop
  | other {x : V} {k : Kd} : Pl K H x k → k ≠ .tup → NodeIn K H x false
  | size {a : Addr} {xs : List V} : H a = some (.tup xs) → xs.length ≠ 2 → NodeIn K H (.ref a) false
  | pair {a : Addr} {s n : V} {ks kn : Kd} : H a = some (.tup [s, n]) → Pl K H s ks → Pl K H n kn → Small s → NodeIn K H (.ref a) (isNode2 s n)
def spNode (K : PySem.W.Frag) : Sp := fun vs H Q _ => ∃ x b, vs = [x] ∧ NodeIn K H x b ∧ ∀ H', Gx H H' → Q (.bl b) H'

/-! ### things of told kinds, one by one -/
def AtT : List Ty → List V → Hp → Prop
  | [], [], _ => True
  | Φ :: Φs, v :: vs, H => Φ v H ∧ AtT Φs vs H
  | _, _, _ => False
theorem AtT.mono {H H' : Hp} (e : Gx H H') : ∀ {Φs : List Ty} {vs : List V}, (∀ Φ ∈ Φs, Mono Φ) → AtT Φs vs H → AtT Φs vs H'
  | [], [], _, h => h
  | Φ :: Φs, v :: vs, m, h => ⟨m Φ (List.mem_cons_self ..) _ _ _ e h.1, AtT.mono e (fun Φ hp => m Φ (List.mem_cons_of_mem _ hp)) h.2⟩
  | [], _ :: _, _, h => h.elim
  | _ :: _, [], _, h => h.elim
theorem AtT.len {H : Hp} : ∀ {Φs : List Ty} {vs : List V}, AtT Φs vs H → vs.length = Φs.length
  | [], [], _ => rfl
  | Φ :: Φs, v :: vs, h => by rw [List.length_cons, List.length_cons, AtT.len h.2]
  | [], _ :: _, h => h.elim
  | _ :: _, [], h => h.elim
theorem AtT.get {H : Hp} : ∀ {Φs : List Ty} {vs : List V} {i : Nat} {x : V}, AtT Φs vs H → vs[i]? = some x → ∃ Φ, Φs[i]? = some Φ ∧ Φ x H
  | [], [], _, _, _, e => by simp at e
  | Φ :: Φs, v :: vs, 0, x, h, e => by
    simp at e
    subst e
    exact ⟨Φ, rfl, h.1⟩
  | Φ :: Φs, v :: vs, i + 1, x, h, e => by
    obtain ⟨Ψ, h1, h2⟩ := AtT.get (i := i) (x := x) h.2 (by simpa using e)
    exact ⟨Ψ, by simpa using h1, h2⟩
  | [], _ :: _, _, _, h, _ => h.elim
  | _ :: _, [], _, _, h, _ => h.elim
section
variable {K : PySem.W.Frag} {σ : L2.St} {H : Hp} {ta : TE} {tr : TA} {Φ : Ty} {Φs : List Ty}
theorem ats_nil : EvGs tNil σ H (AtT []) := evgs_nil fun _ _ => trivial
theorem ats_cons (m : Mono Φ) (h : EvG ta σ H Φ) (k : ∀ H1, Gx H H1 → EvGs tr σ H1 (AtT Φs)) : EvGs (tCons ta tr) σ H (AtT (Φ :: Φs)) :=
  evgs_cons h fun v H1 e f => fun H2 e2 Q q => k H1 e H2 e2 Q fun vs H3 e3 g => q vs H3 e3 ⟨m _ _ _ (e2.trans e3) f, g⟩
def TupA (Φs : List Ty) : Addr → Hp → Prop := fun p H => ∃ xs, H p = some (.tup xs) ∧ AtT Φs xs H
def LstA (Φs : List Ty) : Addr → Hp → Prop := fun p H => ∃ xs, H p = some (.lst xs) ∧ AtT Φs xs H
def TupT (Φs : List Ty) : Ty := fun v H => ∃ p, v = .ref p ∧ TupA Φs p H
def LstT (Φs : List Ty) : Ty := fun v H => ∃ p, v = .ref p ∧ LstA Φs p H
theorem TupT.mono (m : ∀ Φ ∈ Φs, Mono Φ) : Mono (TupT Φs) := fun _ _ _ e ⟨p, z, xs, h1, h2⟩ => ⟨p, z, xs, e _ _ h1, h2.mono e m⟩
theorem LstT.mono (m : ∀ Φ ∈ Φs, Mono Φ) : Mono (LstT Φs) := fun _ _ _ e ⟨p, z, xs, h1, h2⟩ => ⟨p, z, xs, e _ _ h1, h2.mono e m⟩
theorem evn_tupA (m : ∀ Φ ∈ Φs, Mono Φ) (h : EvGs tr σ H (AtT Φs)) (hn : Φs.length ≤ 100000) : EvN (tTup tr) σ H (TupA Φs) :=
  evn_tup h (fun vs _ g => by rw [g.len]; exact hn) fun vs p _ _ _ g e2 _ hp => ⟨vs, hp, g.mono e2 m⟩
theorem evn_lstA (m : ∀ Φ ∈ Φs, Mono Φ) (h : EvGs tr σ H (AtT Φs)) (hn : Φs.length ≤ 100000) : EvN (tLst tr) σ H (LstA Φs) :=
  evn_lst h (fun vs _ g => by rw [g.len]; exact hn) fun vs p _ _ _ g e2 _ hp => ⟨vs, hp, g.mono e2 m⟩
theorem evg_tupA (m : ∀ Φ ∈ Φs, Mono Φ) (h : EvGs tr σ H (AtT Φs)) (hn : Φs.length ≤ 100000) : EvG (tTup tr) σ H (TupT Φs) := (evn_tupA m h hn).g fun p _ _ _ _ _ f => ⟨p, rfl, f⟩
theorem evg_lstA (m : ∀ Φ ∈ Φs, Mono Φ) (h : EvGs tr σ H (AtT Φs)) (hn : Φs.length ≤ 100000) : EvG (tLst tr) σ H (LstT Φs) := (evn_lstA m h hn).g fun p _ _ _ _ _ f => ⟨p, rfl, f⟩
end
theorem NodeIn.mono {K : PySem.W.Frag} {b : Bool} : Mono (fun v H => NodeIn K H v b) := fun v H H' e h => by
  cases h with
  | other p hk => exact .other (p.gx e) hk
  | size h hl => exact .size (e _ _ h) hl
  | pair h ps pn sm => exact .pair (e _ _ h) (ps.gx e) (pn.gx e) sm
/-- is this value that? -/
abbrev Eq1 (x : V) : Ty := fun v _ => v = x
theorem Eq1.mono {x : V} : Mono (Eq1 x) := fun _ _ _ _ h => h
theorem Eq1.firm {x : V} : Firm (Eq1 x) := fun _ _ _ _ h => h
theorem evg_e {σ : L2.St} {H : Hp} {x : V} : EvG (tC x) σ H (Eq1 x) := evg_c fun _ _ => rfl
theorem evg_ve {σ : L2.St} {H : Hp} {i : Nat} {x : V} (h : σ[i]? = some (some x)) : EvG (tVar i) σ H (Eq1 x) := evg_var h fun _ _ => rfl
/-! ### data -/
mutual
theorem Dp.gx {K : PySem.W.Frag} {H H' : Hp} (e : Gx H H') : ∀ {v : V} {d : PyData}, Dp K H v d → Dp K H' v d
  | _, _, .non => .non
  | _, _, .bl b => .bl b
  | _, _, .int i => .int i
  | _, _, .str x => .str x
  | _, _, .lst h hs => .lst (e.l h) (DpAll.gx e hs)
  | _, _, .tup h hs => .tup (e.t h) (DpAll.gx e hs)
theorem DpAll.gx {K : PySem.W.Frag} {H H' : Hp} (e : Gx H H') : ∀ {vs : List V} {ds : List PyData}, DpAll K H vs ds → DpAll K H' vs ds
  | _, _, .nil => .nil
  | _, _, .cons h hs => .cons (Dp.gx e h) (DpAll.gx e hs)
end

section
variable {K : PySem.W.Frag} {σ : L2.St} {H : Hp} {ta : TE} {tr : TA} {Φ : Ty} {Φs : List Ty} {n : Nat}
/-- the same, over one heap -/
theorem evgs_m (m : Mono Φ) (h : EvG ta σ H Φ) (k : EvGs tr σ H (AllT Φ n)) : EvGs (tCons ta tr) σ H (AllT Φ (n + 1)) := evgs_more m h fun _ e H2 e2 Q q => k H2 (e.trans e2) Q q
theorem ats_c (m : Mono Φ) (h : EvG ta σ H Φ) (k : EvGs tr σ H (AtT Φs)) : EvGs (tCons ta tr) σ H (AtT (Φ :: Φs)) := ats_cons m h fun _ e H2 e2 Q q => k H2 (e.trans e2) Q q
end

/-! ### data, evaluated -/
def DatT (K : PySem.W.Frag) (d : PyData) : Ty := fun v H => Dp K H v d
def DatsT (K : PySem.W.Frag) (ds : List PyData) : List V → Hp → Prop := fun vs H => DpAll K H vs ds
theorem DatT.mono {K : PySem.W.Frag} {d : PyData} : Mono (DatT K d) := fun _ _ _ e h => Dp.gx e h
theorem DpAll.len {K : PySem.W.Frag} {H : Hp} : ∀ {vs : List V} {ds : List PyData}, DpAll K H vs ds → vs.length = ds.length
  | _, _, .nil => rfl
  | _, _, .cons _ hs => by rw [List.length_cons, List.length_cons, DpAll.len hs]
section
variable {K : PySem.W.Frag} {σ : L2.St} {H : Hp} {ta tb : TE} {tr : TA} {d e : PyData} {ds : List PyData}
theorem dats_nil : EvGs tNil σ H (DatsT K []) := evgs_nil fun _ _ => .nil
theorem dats_c (h : EvG ta σ H (DatT K d)) (k : EvGs tr σ H (DatsT K ds)) : EvGs (tCons ta tr) σ H (DatsT K (d :: ds)) :=
  evgs_cons h fun _ _ e f => fun H2 e2 Q q => k H2 (e.trans e2) Q fun vs H3 e3 g => q vs H3 e3 (.cons (Dp.gx (e2.trans e3) f) g)
theorem evg_dlst (h : EvGs tr σ H (DatsT K ds)) (hn : ds.length ≤ 100000) : EvG (tLst tr) σ H (DatT K (.list ds)) :=
  evg_lst h (fun vs _ g => by rw [DpAll.len g]; exact hn) fun vs p H1 H2 g e2 _ hp => .lst (SqL.of hp) (DpAll.gx e2 g)
theorem evg_dtup (h : EvGs tr σ H (DatsT K ds)) (hn : ds.length ≤ 100000) : EvG (tTup tr) σ H (DatT K (.tuple ds)) :=
  evg_tup h (fun vs _ g => by rw [DpAll.len g]; exact hn) fun vs p H1 H2 g e2 _ hp => .tup (SqT.of hp) (DpAll.gx e2 g)
theorem dat_int {i : Int} : EvG (tC (.int i)) σ H (DatT K (.int i)) := evg_c fun _ _ => .int i
theorem dat_bl {i : Bool} : EvG (tC (.bl i)) σ H (DatT K (.bool i)) := evg_c fun _ _ => .bl i
theorem dat_str {i : Str} : EvG (tC (.str i)) σ H (DatT K (.str i)) := evg_c fun _ _ => .str i
theorem dat_non : EvG (tC .non) σ H (DatT K .none) := evg_c fun _ _ => .non
theorem dat_var {i : Nat} {v : V} (h : σ[i]? = some (some v)) (hd : Dp K H v d) : EvG (tVar i) σ H (DatT K d) := evg_var h fun _ e => Dp.gx e hd
theorem dat_of_bl {b : Bool} (h : EvG ta σ H (BlE b)) : EvG ta σ H (DatT K (.bool b)) := h.imp fun v _ _ ⟨c, z, hc⟩ => by
  have hc : c = b := hc
  rw [z, hc]
  exact .bl b
theorem evg_eqD (ha : EvG ta σ H (DatT K d)) (hb : EvG tb σ H (DatT K e)) (sd : SeqAt.shaped d = true) (se : SeqAt.shaped e = true) : EvG (tOp (rEqD K) ta tb) σ H (BlE (PyData.eqv d e)) := fun H1 e1 Q q =>
  ha H1 e1 _ fun v H2 e2 f => hb H2 (e1.trans e2) _ fun v2 H3 e3 g => ⟨d, e, Dp.gx e3 f, g, sd, se, q _ H3 (e2.trans e3) ⟨_, rfl, rfl⟩⟩
theorem evg_neD (ha : EvG ta σ H (DatT K d)) (hb : EvG tb σ H (DatT K e)) (sd : SeqAt.shaped d = true) (se : SeqAt.shaped e = true) : EvG (tOp (rNeD K) ta tb) σ H (BlE (!PyData.eqv d e)) := fun H1 e1 Q q =>
  ha H1 e1 _ fun v H2 e2 f => hb H2 (e1.trans e2) _ fun v2 H3 e3 g => ⟨d, e, Dp.gx e3 f, g, sd, se, q _ H3 (e2.trans e3) ⟨_, rfl, rfl⟩⟩
end
/-- a list of truth values as data -/
theorem dp_bls {K : PySem.W.Frag} {H : Hp} : ∀ bs : List Bool, DpAll K H (bs.map V.bl) (bs.map PyData.bool)
  | [] => .nil
  | b :: bs => .cons (.bl b) (dp_bls bs)
/-- [f(x) for x in ..] with known truth values -/
theorem bls_eq {ys : List V} {bs : List Bool} (hl : ys.length = bs.length) (h : ∀ (i : Nat) (y : V), ys[i]? = some y → ∃ b, bs[i]? = some b ∧ y = V.bl b) : ys = bs.map V.bl := by
  apply List.ext_getElem?
  intro i
  rw [List.getElem?_map]
  cases q : ys[i]? with
  | some y =>
    obtain ⟨b, hb, rfl⟩ := h i y q
    rw [hb]
    rfl
  | none =>
    have : ys.length ≤ i := List.getElem?_eq_none_iff.mp q
    rw [List.getElem?_eq_none (by omega)]
    rfl

/-! ### list(text) -/
theorem vals_of : ∀ {xs : List V} {us : List Value}, xs.length = us.length → (∀ (i : Nat) (x : V) (u : Value), xs[i]? = some x → us[i]? = some u → RelV x u) → Vals xs us
  | [], [], _, _ => .nil
  | x :: xs, u :: us, hl, h => .cons (h 0 x u rfl rfl) (vals_of (by simpa using hl) fun i y w h1 h2 => h (i + 1) y w (by simpa using h1) (by simpa using h2))
  | [], _ :: _, hl, _ => by simp at hl
  | _ :: _, [], hl, _ => by simp at hl
def signsV (z : Str) : List V := z.cps.toList.map fun c => V.str ⟨#[c]⟩
theorem call_listS {X : Cx} (hc : X.calm = true) : CallR X (.type "list") (fun xs H Q => ∃ z, xs = [.str z] ∧ z.length ≤ sizeLine ∧ ∀ l, H l = none → Q (.ref l) (upd H l (.lst (signsV z)))) := by
  intro pins s σ H xs us Q I r h
  obtain ⟨z, rfl, hz, q⟩ := h
  obtain ⟨u, rfl, rx⟩ := vals1 r
  obtain ⟨t, rfl⟩ := rx
  refine call_list_str (I.ok.hd hc) z t (hn := hz) fun h' tk acc' c' hk hS' hacc => ?_
  have hf : H s.heap.objs.size = none := I.hok.fresh (Nat.le_refl _)
  refine ⟨.ref s.heap.objs.size, _, I.laid (t' := tk) hk (Nat.le_refl _) (show ObjOk X.prog X.w _ h' _ (.lst (signsV z)) from ⟨by unfold signsV; rw [List.length_map, Array.length_toList]; exact hz, acc'.toList, c', vals_of ?_ ?_, by simpa using hS'⟩), rfl, q _ hf⟩
  · unfold signsV
    rw [List.length_map]
    have := hacc.1
    simp
    omega
  · intro i x u h1 h2
    obtain ⟨c, w, hc, rfl⟩ := hacc.2 i u (by simpa using h2)
    unfold signsV at h1
    rw [List.getElem?_map] at h1
    have e : z.cps.toList[i]? = z.cps[i]? := by simp
    rw [e, hc] at h1
    cases h1
    exact ⟨w, rfl⟩

/-! ### drawing some of a list -/
theorem erase_perm : ∀ {ls : List V} {k : Nat} {y : V}, ls[k]? = some y → (y :: ls.eraseIdx k).Perm ls
  | [], _, _, h => by simp at h
  | a :: ls, 0, y, h => by
    simp at h
    subst h
    exact List.Perm.refl _
  | a :: ls, k + 1, y, h => by
    have ih := erase_perm (ls := ls) (k := k) (y := y) (by simpa using h)
    exact (List.Perm.swap a y _).trans (ih.cons a)
def spSome (K : PySem.W.Frag) : Sp := fun vs H Q _ => ∃ (d l : Addr) (xs : List V) (n : Int), vs = [.ref d, .ref l, .int n] ∧ H d = some (diceO d) ∧ SqL K H l xs ∧ 0 ≤ n ∧ xs.length ≤ 1000 ∧
  ∀ p ys rest H', Gx H H' → H p = none → H' p = some (.lst ys) → (ys.length : Int) = (if (xs.length : Int) < n then (xs.length : Int) else n) → (ys ++ rest).Perm xs → Q (.ref p) H'

/-! ### the rules that speak of the written part, with that part told (for comprehensions) -/
section
variable {X : Cx} {K : PySem.W.Frag}
theorem kix_list (hK : X.K = K := by rfl) : IxR X (rIxL K) := by subst hK; exact ix_list
theorem kix_tup (hK : X.K = K := by rfl) : IxR X (rIxT K) := by subst hK; exact ix_tup
theorem kop_eqD (hu : X.A.units + 64 < cLine) (hK : X.K = K := by rfl) : OpR X (compareOp .Eq) (rEqD K) := by subst hK; exact op_eqD hu
theorem kop_neD (hu : X.A.units + 64 < cLine) (hK : X.K = K := by rfl) : OpR X (compareOp .NotEq) (rNeD K) := by subst hK; exact op_neD hu
theorem kop_in_seq (hK : X.K = K := by rfl) : OpR X (compareOp .In) (rIn K false) := by subst hK; exact op_in_seq
theorem kop_notIn_seq (hK : X.K = K := by rfl) : OpR X (compareOp .NotIn) (rIn K true) := by subst hK; exact op_notIn_seq
def rLen (K : PySem.W.Frag) : List V → Hp → VK → Prop := fun xs H Q => ∃ p ys, xs = [.ref p] ∧ (SqL K H p ys ∨ SqT K H p ys) ∧ Q (.int ys.length) H
def rList (K : PySem.W.Frag) : List V → Hp → VK → Prop := fun xs H Q => ∃ p ys, xs = [.ref p] ∧ (SqL K H p ys ∨ SqT K H p ys) ∧ ∀ l, H l = none → Q (.ref l) (upd H l (.lst ys))
def rTuple (K : PySem.W.Frag) : List V → Hp → VK → Prop := fun xs H Q => ∃ p ys, xs = [.ref p] ∧ ((SqL K H p ys ∧ ∀ l, H l = none → Q (.ref l) (upd H l (.tup ys))) ∨ (SqT K H p ys ∧ Q (.ref p) H))
theorem kcall_len (hK : X.K = K := by rfl) : CallR X (.builtin "len") (rLen K) := by subst hK; exact call_len_seq
theorem kcall_list (hK : X.K = K := by rfl) : CallR X (.type "list") (rList K) := by subst hK; exact call_list_of
theorem kcall_tuple (hK : X.K = K := by rfl) : CallR X (.type "tuple") (rTuple K) := by subst hK; exact call_tuple_of
theorem kcall_isi (hK : X.K = K := by rfl) : CallR X (.builtin "isinstance") (rIsi K) := by subst hK; exact call_isi
theorem kcr_all (hc : X.calm = true) (hK : X.K = K := by rfl) : CallR X (.builtin "all") (rAll K) := by subst hK; exact cr_all hc
theorem kcr_any (hc : X.calm = true) (hK : X.K = K := by rfl) : CallR X (.builtin "any") (rAny K) := by subst hK; exact cr_any hc
theorem ksl_list (hK : X.K = K := by rfl) : SlR X (rSlL K) := by subst hK; exact sl_list
variable {tg l : Expr} {tl : TE}
theorem kpi_list (hl : PE X l tl) (hK : X.K = K := by rfl) : PI X tg l (iList K tl) := by subst hK; exact pi_list hl
theorem kpi_tup (hl : PE X l tl) (hK : X.K = K := by rfl) : PI X tg l (iTup K tl) := by subst hK; exact pi_tup hl
theorem kpe_fld {e : Expr} {ta : TE} {f : Str} {pos : Pos} (he : PE X e ta) (hb : attributeBase e f X.env (eval e X.env) = eval e X.env) (hK : X.K = K := by rfl) : PE X (.Attribute e f pos) (tFld K ta f) := by subst hK; exact pe_fld he hb
section
variable {o e : Expr} {es : List Expr} {to te : TE} {t : TA} {name : Str} {apos cpos pos : Pos} {T id : String} {r : V → List V → Hp → VK → Prop}
theorem kpe_bm (pa : PlainAttrs T) (slot : Slot T name id) (hty : typeOf (.builtin id) = pure (.type "method_descriptor")) (hm : MtR X id r) (ho : PE X o to) (ha : PA X (e :: es) t) (hK : X.K = K := by rfl)
    (hbase : attributeBase o name X.env (eval o X.env) = eval o X.env := by rfl)
    (hfew : ((backTo cpos (starEach (e :: es) X.env)).all (fun x => !x.1) && (backToKw cpos (keywordEach [] X.env)).all (fun x => x.1.isSome)
      && decide ((e :: es).length + ([] : List Keyword).length + (if ([] : List Keyword).isEmpty then 0 else 1) < 30)) = true := by rfl)
    (hline : (apos.endLine == cpos.line) = true := by rfl) (hs : starEach (e :: es) X.env = (false, eval e X.env) :: starEach es X.env := by rfl) (hplain : (backTo cpos (starEach es X.env)).any (·.1) = false := by rfl) :
    PE X (.Call (.Attribute o name apos) (e :: es) [] cpos) (tBM K T r to t) := by
  subst hK
  exact pe_bm pa slot hty hm ho ha hbase hfew hline hs hplain
theorem kpe_bm0 (pa : PlainAttrs T) (slot : Slot T name id) (hty : typeOf (.builtin id) = pure (.type "method_descriptor")) (hm : MtR X id r) (ho : PE X o to) (hK : X.K = K := by rfl)
    (hbase : attributeBase o name X.env (eval o X.env) = eval o X.env := by rfl) (hline : (apos.endLine == cpos.line) = true := by rfl) : PE X (.Call (.Attribute o name apos) [] [] cpos) (tBM0 K T r to) := by
  subst hK
  exact pe_bm0 pa slot hty hm ho hbase hline
def rJoin (K : PySem.W.Frag) : V → List V → Hp → VK → Prop := fun x xs H Q => ∃ a p, ∃ ys : List Str, x = .str a ∧ xs = [.ref p] ∧ (SqL K H p (ys.map V.str) ∨ SqT K H p (ys.map V.str)) ∧
      (ys.map (·.length)).sum + ys.length * a.length ≤ 16777216 ∧ Q (.str (Txt.join a ys)) H
theorem kpe_join (ho : PE X o to) (he : PE X e te) (hK : X.K = K := by rfl) (hs : starEach [e] X.env = [(false, eval e X.env)] := by rfl) (hbase : attributeBase o "join" X.env (eval o X.env) = eval o X.env := by rfl) (hline : (apos.endLine == pos.line) = true := by rfl) :
    PE X (.Call (.Attribute o "join" apos) [e] [] pos) (tM1 (rJoin K) to te) := by
  subst hK
  exact pe_join ho he hs hbase hline
end
end
theorem yes_ite {σ : L2.St} {H : Hp} {A B : Hp → Prop} (h : A H) : tYes σ H (fun b H => if b = true then A H else B H) := by
  show if true = true then A H else B H
  rw [if_pos rfl]
  exact h

theorem LcR.nil_or {B : Nat → Bool → Prop} {R : Nat → Ty} {H : Hp} {n : Nat} {ys : List V} (h : LcR B R H n ys) : (ys = [] ∧ ∀ i, i < n → B i false) ∨ (ys ≠ [] ∧ ∃ i, i < n ∧ B i true) := by
  induction h with
  | nil => exact .inl ⟨rfl, fun i hi => by omega⟩
  | @keep n ys y _ b _ ih => exact .inr ⟨by simp, n, by omega, b⟩
  | @skip n ys _ b ih =>
    rcases ih with ⟨h1, h2⟩ | ⟨h1, i, h2, h3⟩
    · refine .inl ⟨h1, fun i hi => ?_⟩
      by_cases q : i = n
      · subst q
        exact b
      · exact h2 i (by omega)
    · exact .inr ⟨h1, i, by omega, h3⟩
theorem LcR.each {B : Nat → Bool → Prop} {R : Nat → Ty} {H : Hp} {n : Nat} {ys : List V} (h : LcR B R H n ys) {y : V} (hy : y ∈ ys) : ∃ i, i < n ∧ B i true ∧ R i y H := by
  induction h with
  | nil => cases hy
  | @keep n ys z _ b r ih =>
    rcases List.mem_append.mp hy with hy | hy
    · obtain ⟨i, h1, h2⟩ := ih hy
      exact ⟨i, by omega, h2⟩
    · obtain rfl := List.mem_singleton.mp hy
      exact ⟨n, by omega, b, r⟩
  | skip _ _ ih =>
    obtain ⟨i, h1, h2⟩ := ih hy
    exact ⟨i, by omega, h2⟩
/-- flat values as data -/
def flatD : V → PyData
  | .bl b => .bool b
  | .int i => .int i
  | .str z => .str z
  | _ => .none
def okV : V → Bool
  | .non => true
  | .bl _ => true
  | .int _ => true
  | .str z => PyData.strOk z
  | _ => false
theorem flat_dp {K : PySem.W.Frag} {H : Hp} : ∀ {ys : List V}, (∀ y ∈ ys, okV y = true) → DpAll K H ys (ys.map flatD)
  | [], _ => .nil
  | y :: ys, h => .cons (by
      have := h y (List.mem_cons_self ..)
      cases y with
      | non => exact .non
      | bl b => exact .bl b
      | int i => exact .int i
      | str z => exact .str z
      | _ => cases this) (flat_dp fun z hz => h z (List.mem_cons_of_mem _ hz))
theorem flat_lay : ∀ {ys : List V}, (∀ y ∈ ys, okV y = true) → PyData.canLayAll0 (ys.map flatD) = true ∧ PyData.depthAll (ys.map flatD) = 0
  | [], _ => ⟨by simp [PyData.canLayAll0], by simp [PyData.depthAll]⟩
  | y :: ys, h => by
    obtain ⟨h1, h2⟩ := flat_lay (ys := ys) fun z hz => h z (List.mem_cons_of_mem _ hz)
    have := h y (List.mem_cons_self ..)
    rw [List.map_cons]
    cases y with
    | non => exact ⟨by simp [flatD, PyData.canLayAll0, PyData.canLay0, h1], by simp [flatD, PyData.depthAll, PyData.depth, h2]⟩
    | bl b => exact ⟨by simp [flatD, PyData.canLayAll0, PyData.canLay0, h1], by simp [flatD, PyData.depthAll, PyData.depth, h2]⟩
    | int i => exact ⟨by simp [flatD, PyData.canLayAll0, PyData.canLay0, h1], by simp [flatD, PyData.depthAll, PyData.depth, h2]⟩
    | str z => exact ⟨by simp [flatD, PyData.canLayAll0, PyData.canLay0, h1]; exact this, by simp [flatD, PyData.depthAll, PyData.depth, h2]⟩
    | _ => cases this
theorem flat_shaped {ys : List V} (h : ∀ y ∈ ys, okV y = true) : SeqAt.shaped (.list (ys.map flatD)) = true ∧ SeqAt.shaped (.tuple (ys.map flatD)) = true := by
  obtain ⟨h1, h2⟩ := flat_lay h
  unfold SeqAt.shaped
  simp [PyData.canLay0, PyData.depth, h1, h2]

/-! ### texts; comprehensions over a drawn range; some of a list -/
def StrT (P : Str → Prop) : Ty := fun v _ => ∃ z, v = .str z ∧ P z
theorem StrT.firm {P : Str → Prop} : Firm (StrT P) := fun _ _ _ _ h => h
section
variable {K : PySem.W.Frag} {σ : L2.St} {H : Hp} {ta tb tc te : TE} {tr : TA} {Φ : Ty}
theorem evg_adds {P R : Str → Prop} (ha : EvG ta σ H (StrT P)) (hb : EvG tb σ H (StrT R)) (hl : ∀ x y, P x → R y → x.length + y.length ≤ 100000) (m : ∀ x y, P x → R y → ∀ H1, Gx H H1 → Φ (.str (x ++ y)) H1) :
    EvG (tOp (fun x y H Q => ∃ i j, x = .str i ∧ y = .str j ∧ i.length + j.length ≤ sizeLine ∧ Q (.str (i ++ j)) H) ta tb) σ H Φ := fun H1 e Q q =>
  ha H1 e _ fun _ H2 e2 ⟨i, z, p⟩ => hb H2 (e.trans e2) _ fun _ H3 e3 ⟨j, z2, r⟩ => ⟨i, j, z, z2, Evl.sz_of (hl i j p r), q _ H3 (e2.trans e3) (m i j p r H3 ((e.trans e2).trans e3))⟩
theorem evg_listS {z : Str} (h : EvG ta σ H (Eq1 (.str z))) (hz : z.length ≤ 100000) (m : ∀ c ∈ z.cps.toList, ∀ H1, Φ (.str ⟨#[c]⟩) H1) :
    EvG (tCB (fun xs H Q => ∃ z, xs = [.str z] ∧ z.length ≤ sizeLine ∧ ∀ l, H l = none → Q (.ref l) (upd H l (.lst (signsV z)))) (tCons ta tNil)) σ H (LofT Φ z.cps.size) := fun H1 e Q q =>
  h H1 e _ fun v H2 e2 hv => by
    have hv : v = .str z := hv
    subst hv
    refine ⟨z, rfl, Evl.sz_of hz, fun l hl => q _ _ (e2.trans (Gx.new hl)) ⟨l, rfl, _, upd_same, by unfold signsV; rw [List.length_map, Array.length_toList], fun x hx => ?_⟩⟩
    obtain ⟨c, hc, rfl⟩ := List.mem_map.mp hx
    exact m c hc _
theorem evn_lcR {j : Nat} {P : Nat → Prop} {R : Ty} (h : EvGs tr σ H (fun vs _ => ∃ n : Nat, vs = [.int n] ∧ P n)) (hP : ∀ n, P n → n ≤ 1000) (he : ∀ x H1, Gx H H1 → EvG te ((wipe σ [j]).set j (some x)) H1 R) (m : Firm R) :
    EvN (tLc (iRng1 tr) (gName j) tYes te [j]) σ H (fun p H' => ∃ ys, H' p = some (.lst ys) ∧ P ys.length ∧ ∀ y ∈ ys, R y H') := by
  intro H1 e Q q
  refine h H1 e _ fun vs H2 e2 ⟨n, z, pn⟩ => ⟨n, z, by omega, by have := hP n pn; omega, ?_⟩
  have hn : (n : Int).toNat = n := by omega
  rw [hn]
  show tLc (fun _ H R => R (Itr 0 n) H) (gName j) tYes te [j] σ H2 Q
  refine EvN.use (evn_lcA (n := n) (Y := fun i x _ => x = .int (0 + (i : Nat))) (R := fun _ => R) ?_ (by have := hP n pn; omega) (fun _ _ _ _ _ h => h) (fun i x H3 _ e3 _ => he x H3 ((e.trans e2).trans e3)) fun _ => m) ?_
  · intro H3 e3 R q
    exact q (Itr 0 n) H3 (fun _ => True) _ (Gx.refl _) walk_range (fun _ _ => trivial) fun i H4 x H5 _ _ ⟨z4, hx⟩ => by subst z4; exact ⟨Gx.refl _, hx⟩
  · rintro p H3 e3 n3 ⟨ys, hp, hl, hy⟩
    refine q p H3 (e2.trans e3) (e2.free n3) ⟨ys, hp, by rw [hl]; exact pn, fun y hy' => ?_⟩
    obtain ⟨i, hi⟩ := List.getElem?_of_mem hy'
    exact hy i y hi
theorem evg_some {n : Nat} {k : Int} (m : Mono Φ) (hd : EvG ta σ H DiceT) (hl : EvG tb σ H (LofT Φ n)) (hk : EvG tc σ H (IntT fun i => i = k)) (h0 : 0 ≤ k ∧ n ≤ 1000) :
    EvG (tCall (spSome K) [] E0 (tCons ta (tCons tb (tCons tc tNil)))) σ H (LofT Φ (if n < k.toNat then n else k.toNat)) := fun H1 e Q q =>
  hd H1 e _ fun _ H2 e2 ⟨d, z, hd⟩ => hl H2 (e.trans e2) _ fun _ H3 e3 ⟨l, z2, xs, h1, h2⟩ => hk H3 ((e.trans e2).trans e3) _ fun _ H4 e4 ⟨i, z3, hi⟩ => by
    have hi : i = k := hi
    subst z
    subst z2
    subst z3
    subst hi
    refine ⟨d, l, xs, i, rfl, (e3.trans e4) _ _ hd, SqL.of (e4 _ _ h1), h0.1, by rw [h2.1]; exact h0.2, fun p ys rest H5 e5 _ hp hyl pm => ?_⟩
    refine q _ H5 (((e2.trans e3).trans e4).trans e5) ⟨p, rfl, ys, hp, ?_, fun y hy => m _ _ _ (e4.trans e5) (h2.2 y (pm.mem_iff.mp (List.mem_append_left _ hy)))⟩
    rw [h2.1] at hyl
    split at hyl <;> split <;> omega
end

/-- some data -/
def DatP (K : PySem.W.Frag) (P : PyData → Prop) : Ty := fun v H => ∃ d, Dp K H v d ∧ SeqAt.shaped d = true ∧ P d
section
variable {K : PySem.W.Frag} {σ : L2.St} {H : Hp} {ta tb : TE} {P R : PyData → Prop}
theorem DatP.mono : Mono (DatP K P) := fun _ _ _ e ⟨d, h1, h2, h3⟩ => ⟨d, Dp.gx e h1, h2, h3⟩
theorem evg_eqP (ha : EvG ta σ H (DatP K P)) (hb : EvG tb σ H (DatP K R)) : EvG (tOp (rEqD K) ta tb) σ H (BlT fun b => ∃ d e, P d ∧ R e ∧ b = PyData.eqv d e) := fun H1 e1 Q q =>
  ha H1 e1 _ fun v H2 e2 ⟨d, f, sd, pd⟩ => hb H2 (e1.trans e2) _ fun v2 H3 e3 ⟨e, g, se, re⟩ => ⟨d, e, Dp.gx e3 f, g, sd, se, q _ H3 (e2.trans e3) ⟨_, rfl, d, e, pd, re, rfl⟩⟩
theorem evg_neP (ha : EvG ta σ H (DatP K P)) (hb : EvG tb σ H (DatP K R)) : EvG (tOp (rNeD K) ta tb) σ H (BlT fun b => ∃ d e, P d ∧ R e ∧ b = !PyData.eqv d e) := fun H1 e1 Q q =>
  ha H1 e1 _ fun v H2 e2 ⟨d, f, sd, pd⟩ => hb H2 (e1.trans e2) _ fun v2 H3 e3 ⟨e, g, se, re⟩ => ⟨d, e, Dp.gx e3 f, g, sd, se, q _ H3 (e2.trans e3) ⟨_, rfl, d, e, pd, re, rfl⟩⟩
theorem dat_p {d : PyData} (h : EvG ta σ H (DatT K d)) (hs : SeqAt.shaped d = true) : EvG ta σ H (DatP K fun e => e = d) := h.imp fun v H2 _ f => ⟨d, f, hs, rfl⟩
end

theorem strs_of {P : Str → Prop} {H : Hp} : ∀ {ys : List V}, (∀ y ∈ ys, StrT P y H) → ∃ zs : List Str, ys = zs.map V.str ∧ ∀ z ∈ zs, P z
  | [], _ => ⟨[], rfl, fun z h => by cases h⟩
  | y :: ys, h => by
    obtain ⟨zs, h1, h2⟩ := strs_of (ys := ys) fun z hz => h z (List.mem_cons_of_mem _ hz)
    obtain ⟨z, rfl, hz⟩ := h y (List.mem_cons_self ..)
    exact ⟨z :: zs, by rw [h1]; rfl, fun w hw => by
      rcases List.mem_cons.mp hw with rfl | hw
      · exact hz
      · exact h2 w hw⟩
theorem sum_le {n : Nat} : ∀ {zs : List Str}, (∀ z ∈ zs, z.length ≤ n) → (zs.map (·.length)).sum ≤ n * zs.length
  | [], _ => by simp
  | z :: zs, h => by
    have h1 := sum_le (zs := zs) fun w hw => h w (List.mem_cons_of_mem _ hw)
    have h2 := h z (List.mem_cons_self ..)
    rw [List.map_cons, List.sum_cons, List.length_cons, Nat.mul_add]
    omega
/-- sep.join(new list of texts) -/
theorem evg_join {K : PySem.W.Frag} {σ : L2.St} {H : Hp} {te : TE} {a : Str} {P : Str → Prop} {N : Nat → Prop} {Φ : Ty} {n m : Nat} (h : EvN te σ H (fun p H' => ∃ ys, H' p = some (.lst ys) ∧ N ys.length ∧ ∀ y ∈ ys, StrT P y H')) (hN : ∀ k, N k → k ≤ n) (hP : ∀ z, P z → z.length ≤ m) (hs : m * n + n * a.length ≤ 16777216)
    (k : ∀ zs : List Str, N zs.length → (∀ z ∈ zs, P z) → ∀ H1, Φ (.str (Txt.join a zs)) H1) : EvG (tM1 (rJoin K) (tC (.str a)) te) σ H Φ := fun H1 e Q q =>
  ⟨⟨a, rfl⟩, h H1 e _ fun p H2 e2 _ ⟨ys, hp, hn, hy⟩ => by
    obtain ⟨zs, rfl, hz⟩ := strs_of hy
    rw [List.length_map] at hn
    have h1 := sum_le (n := m) (zs := zs) fun z hz' => hP z (hz z hz')
    have h2 := hN _ hn
    have h3 : m * zs.length ≤ m * n := Nat.mul_le_mul_left m h2
    have h4 : zs.length * a.length ≤ n * a.length := Nat.mul_le_mul_right _ h2
    exact ⟨a, p, zs, rfl, rfl, Or.inl (SqL.of hp), by omega, q _ H2 e2 (k zs hn hz H2)⟩⟩
end Ly

set_option Elab.async false
set_option maxRecDepth 100000
set_option maxHeartbeats 1000000
namespace K01
open PySem L2 Ly
def top (i : Nat) : Stmt := PySem.Challenge.pw_firstneed_k01_words_judged.main.body.getD i (.Pass ⟨0, 0, 0, 0⟩)
structure Txt (K : PySem.W.Frag) (mg : Str → Option Value) : Prop where
  z_len : mg "len" = none
  z_int : mg "int" = none
  z_bool : mg "bool" = none
  z_str : mg "str" = none
  z_list : mg "list" = none
  z_abs : mg "abs" = none
  z_max : mg "max" = none
  z_min : mg "min" = none
  z_range : mg "range" = none
  z_repr : mg "repr" = none
  z_isinstance : mg "isinstance" = none
  z_all : mg "all" = none
section
variable {P : Program} {w : World} {K : PySem.W.Frag} {mg : Str → Option Value} {base : Heap}
abbrev s_dice : Stmt := top 9
abbrev nm_dice : List Str := ["_law_script", "_law_spot", "_law_cell", "_law_great", "_law_blend"]
abbrev ps_dice : List Str := ["_law_script", "_law_spot"]
theorem sc_dice : FnScope nm_dice ps_dice (defScope s_dice) := ⟨rfl, rfl, rfl, by decide +kernel, rfl, by decide +kernel, by decide +kernel⟩
theorem ok_dice0 {f : Addr} {fd : FuncData} (F : Fun K "_law_dice" "_law_dice" s_dice f fd) (T : Txt K mg) : FnOk P w K mg base CX0 1 f fd ["_law_script", "_law_spot"] (spDice0 K) := by
  have nd := sc_dice.nd
  refine F.ok sc_dice (fun vs H Q E h => ?_) (fun cdv A outer s H vs Q E hr h => ?_)
  · obtain ⟨_, _, _, rfl, _⟩ := h
    rfl
  · obtain ⟨a, ns, n, rfl, hS, k⟩ := h
    refine ⟨_, (pss_cons (ps_set (i := 2) nd rfl (Or.inl rfl) (pe_op op_add (pe_op op_mul pe_int (pv 1)) pe_int))
      (Evl.pss_cut (ps_if (pt_cmpR op_lt (pv 1) (pe_callB (kcall_len (K := K)) (by rfl) T.z_len (by decide +kernel) (pa_cons (pv 0) pa_nil)) (nomark _)) (pss_one (ps_set (i := 2) nd rfl (Or.inl rfl) (pe_ix (kix_list (K := K)) (pv 0) (pv 1) (fun _ _ => rfl)))) pss_nil)
      (pss_cons (ps_set (i := 3) nd rfl (Or.inl rfl) (pe_op op_mod (pe_callTy call_int1 (by rfl) T.z_int (by decide +kernel) (pa_cons (pe_callB call_abs (by rfl) T.z_abs (by decide +kernel) (pa_cons (pv 2) pa_nil)) pa_nil)) (pe_op op_powW (pe_op op_powW pe_int pe_int) pe_int)))
      (pss_cons (ps_set (i := 4) nd rfl (Or.inl rfl) (pe_op op_add (pe_op op_add (pe_op op_add (pe_op op_mul (pe_op op_mod (pe_callTy call_int1 (by rfl) T.z_int (by decide +kernel) (pa_cons (pv 3) pa_nil)) pe_int) pe_int) (pe_op op_mul pe_int (pv 1))) (pe_op op_mul pe_int (pe_callTy call_int1 (by rfl) T.z_int (by decide +kernel) (pa_cons (pe_cmpR op_lt (pv 2) pe_int (nomark _)) pa_nil)))) pe_int))
      (pss_one (ps_ret (pe_lst (pa_cons (pe_callB (call_max2 rfl) (by rfl) T.z_max (by decide +kernel) (pa_cons pe_int (pa_cons (pe_op op_sub (pv 3) (pe_op op_powW pe_int pe_int)) pa_nil))) (pa_cons (pe_op op_mod (pe_callTy call_int1 (by rfl) T.z_int (by decide +kernel) (pa_cons (pv 4) pa_nil)) pe_int) (pa_cons pe_int pa_nil)))))))))), ?_⟩
    -- cell = 53 * spot + 29
    refine ⟨_, rfl, _, _, rfl, rfl, Or.inl ⟨by decide, by decide⟩, _, _, rfl, rfl, ?_⟩
    -- if spot < len(script)
    refine ⟨fun σ H' => ∃ cell : Int, σ = [some (.ref a), some (.int n), some (.int cell), none, none] ∧ H' = H, ?_, ?_⟩
    · refine ⟨_, rfl, _, rfl, a, _, rfl, Or.inl hS, _, _, rfl, rfl, _, rfl, ite2 (fun hc => ?_) (fun hc => ?_)⟩
      · have hc : (n : Int) < ((ns.map V.int).length : Int) := of_decide_eq_true hc
        have hl : n < ns.length := by
          rw [List.length_map] at hc
          omega
        exact ⟨_, rfl, _, rfl, a, _, _, _, rfl, rfl, hS, atI_nat (v := .int ns[n]) (by simp [hl]), ns[n], rfl, rfl⟩
      · exact ⟨_, rfl, rfl⟩
    · rintro σ H' ⟨cell, rfl, rfl⟩
      -- great
      refine ⟨_, rfl, _, rfl, Or.inl ⟨_, rfl, _, _, rfl, rfl, ⟨by decide, by decide +kernel⟩, _, _, rfl, rfl, ⟨by decide, by decide +kernel⟩, _, _, rfl, rfl, by show (0 : Int) < _; decide +kernel, ?_⟩⟩
      -- blend
      refine ⟨_, rfl, Or.inl ⟨_, rfl, _, _, rfl, rfl, by show (0 : Int) < 2305843009213693723; decide, _, _, rfl, rfl, Or.inr ⟨by decide, by decide⟩, _, rfl, _, _, rfl, rfl, Or.inl ⟨by decide, by decide⟩, _, _, rfl, rfl, _, rfl, _, _, rfl, rfl, Or.inr ⟨_, rfl, _, _, rfl, rfl, Or.inl ⟨by decide, by decide⟩, _, _, rfl, rfl, _, _, rfl, rfl, ?_⟩⟩⟩
      -- return
      refine ⟨_, rfl, _, _, rfl, rfl, ⟨by decide, by decide +kernel⟩, _, _, rfl, rfl, _, _, rfl, _, rfl, Or.inl ⟨_, rfl, _, _, rfl, rfl, by show (0 : Int) < 2305843009213693723; decide, by show 3 ≤ sizeLine; decide, fun p hp => ?_⟩⟩
      exact k p _ _ _ hp
theorem ok_dice {f : Addr} {fd : FuncData} (F : Fun K "_law_dice" "_law_dice" s_dice f fd) (T : Txt K mg) : FnOk P w K mg base CX0 1 f fd ["_law_script", "_law_spot"] (spDice K) := by
  refine (fn_mkdice (ok_dice0 F T)).imp fun vs H Q E h => ?_
  obtain ⟨a, ns, n, rfl, hS, k⟩ := h
  refine ⟨a, ns, n, rfl, hS, fun p x y z hp => ⟨p, x, y, z, rfl, upd_same, ?_⟩⟩
  rw [upd_upd]
  exact k p hp

abbrev s_roll : Stmt := top 10
abbrev nm_roll : List Str := ["_law_dice_here", "_law_total", "_law_found", "_law_one", "_law_two"]
abbrev ps_roll : List Str := ["_law_dice_here", "_law_total"]
theorem sc_roll : FnScope nm_roll ps_roll (defScope s_roll) := ⟨rfl, rfl, rfl, by decide +kernel, rfl, by decide +kernel, by decide +kernel⟩
theorem ok_roll0 {f : Addr} {fd : FuncData} (F : Fun K "_law_roll" "_law_roll" s_roll f fd) (T : Txt K mg) : FnOk P w K mg base CX0 1 f fd ["_law_dice_here", "_law_total"] spRoll0 := by
  have nd := sc_roll.nd
  refine F.ok sc_roll (fun vs H Q E h => ?_) (fun cdv A outer s H vs Q E hr h => ?_)
  · obtain ⟨_, _, _, _, _, rfl, _⟩ := h
    rfl
  · obtain ⟨p, t, a, b, c, rfl, ht, ht2, hp, k⟩ := h
    refine ⟨_, (pss_cons (ps_if (pt_cmpR op_gt (pe_ix (kix_list (K := K)) (pv 0) pe_int (fun _ _ => rfl)) pe_int (nomark _)) (pss_cons (ps_set (i := 2) nd rfl (Or.inl rfl) (pe_op op_mod (pe_callTy call_int1 (by rfl) T.z_int (by decide +kernel) (pa_cons (pe_ix (kix_list (K := K)) (pv 0) pe_int (fun _ _ => rfl)) pa_nil)) (pv 1)))
      (pss_cons (ps_asg (pe_op op_fdiv (pe_ix (kix_list (K := K)) (pv 0) pe_int (fun _ _ => rfl)) (pv 1)) (pg_sub (pv 0) pe_int set_list))
      (pss_one (ps_ret (pv 2))))) pss_nil)
      (pss_cons (ps_asg (pe_op op_add (pe_ix (kix_list (K := K)) (pv 0) pe_int (fun _ _ => rfl)) pe_int) (pg_sub (pv 0) pe_int set_list))
      (pss_cons (ps_set (i := 3) nd rfl (Or.inl rfl) (pe_op op_mod (pe_callTy call_int1 (by rfl) T.z_int (by decide +kernel) (pa_cons (pe_op op_add (pe_ix (kix_list (K := K)) (pv 0) pe_int (fun _ _ => rfl)) (pe_op op_mul pe_int (pe_ix (kix_list (K := K)) (pv 0) pe_int (fun _ _ => rfl)))) pa_nil)) pe_int))
      (pss_cons (ps_set (i := 4) nd rfl (Or.inl rfl) (pe_op op_add (pe_op op_mul (pe_op op_mod (pe_callTy call_int1 (by rfl) T.z_int (by decide +kernel) (pa_cons (pe_op op_mul (pv 3) (pv 3)) pa_nil)) pe_int) (pv 3)) (pe_op op_mul pe_int (pe_ix (kix_list (K := K)) (pv 0) pe_int (fun _ _ => rfl)))))
      (pss_cons (ps_set (i := 4) nd rfl (Or.inl rfl) (pe_op op_mod (pe_callTy call_int1 (by rfl) T.z_int (by decide +kernel) (pa_cons (pv 4) pa_nil)) pe_int))
      (pss_one (ps_ret (pe_op op_mod (pe_callTy call_int1 (by rfl) T.z_int (by decide +kernel) (pa_cons (pe_op op_fdiv (pv 4) pe_int) pa_nil)) (pv 1))))))))), ?_⟩
    have hL : SqL K H p [.int a, .int b, .int c] := SqL.of hp
    have h0 : (0 : Int) < 2305843009213693951 := by decide
    have h1 : (0 : Int) < 2305843009213693921 := by decide
    have h2 : (0 : Int) < 2305843009213693723 := by decide
    have hnn : ∀ x : Int, 0 ≤ x % t := fun x => Int.emod_nonneg _ (by omega)
    have hlt : ∀ x : Int, x % t < t := fun x => Int.emod_lt_of_pos _ ht
    refine ⟨_, rfl, p, _, _, _, rfl, rfl, hL, rfl, _, _, rfl, rfl, _, rfl, ite2 (fun _ => ?_) (fun _ => ?_)⟩
    · refine ⟨_, rfl, p, _, _, _, rfl, rfl, hL, rfl, Or.inl ⟨_, rfl, _, rfl, _, _, rfl, rfl, ht, ?_⟩⟩
      refine ⟨_, rfl, p, _, _, _, rfl, rfl, hL, rfl, _, rfl, _, _, rfl, rfl, ⟨ht, ht2⟩, _, rfl, p, _, _, _, rfl, rfl, hp, rfl, ?_⟩
      exact ⟨_, rfl, k _ _ _ _ (hnn _) (hlt _)⟩
    · refine ⟨_, rfl, p, _, _, _, rfl, rfl, hL, rfl, _, _, rfl, rfl, _, rfl, p, _, _, _, rfl, rfl, hp, rfl, ?_⟩
      have hL2 : SqL K (upd H p (.lst ([.int a, .int b, .int c].set 2 (.int (c + 1))))) p [.int a, .int b, .int (c + 1)] := SqL.of upd_same
      refine ⟨_, rfl, p, _, _, _, rfl, rfl, hL2, rfl, _, rfl, p, _, _, _, rfl, rfl, hL2, rfl, _, _, rfl, rfl, Or.inl ⟨by decide, by decide⟩, _, _, rfl, rfl, Or.inl ⟨_, rfl, _, _, rfl, rfl, h0, ?_⟩⟩
      have hone : ∀ x : Int, -(2 ^ 64) < x % 2305843009213693951 ∧ x % 2305843009213693951 < 2 ^ 64 := fun x => ⟨by have := Int.emod_nonneg x (b := 2305843009213693951) (by decide); omega, by have := Int.emod_lt_of_pos x h0; omega⟩
      refine ⟨_, rfl, _, rfl, _, _, rfl, rfl, Or.inl (hone _), Or.inl ⟨_, rfl, _, _, rfl, rfl, h1, _, rfl, _, _, rfl, rfl, Or.inr (hone _), _, rfl, p, _, _, _, rfl, rfl, hL2, rfl, _, _, rfl, rfl, Or.inl ⟨by decide, by decide⟩, _, _, rfl, rfl, ?_⟩⟩
      refine ⟨_, rfl, Or.inl ⟨_, rfl, _, _, rfl, rfl, h2, ?_⟩⟩
      refine ⟨_, rfl, _, _, rfl, rfl, ⟨by decide, by decide⟩, Or.inl ⟨_, rfl, _, rfl, _, _, rfl, rfl, ht, ?_⟩⟩
      exact k _ _ _ _ (hnn _) (hlt _)
theorem ok_roll {f : Addr} {fd : FuncData} (F : Fun K "_law_roll" "_law_roll" s_roll f fd) (T : Txt K mg) : FnOk P w K mg base CX0 1 f fd ["_law_dice_here", "_law_total"] spRoll := by
  refine (fn_dice (ok_roll0 F T)).imp fun vs H Q E h => ?_
  obtain ⟨p, t, rfl, h1, h2, hp, k⟩ := h
  refine ⟨rfl, p, hp, fun a b c => ⟨p, t, a, b, c, rfl, h1, h2, upd_same, fun r a' b' c' h3 h4 => ⟨⟨a', b', c', upd_same⟩, ?_⟩⟩⟩
  rw [upd_upd, upd_upd, upd_id hp]
  exact k r h3 h4

abbrev s_pick : Stmt := top 11
abbrev nm_pick : List Str := ["_law_dice_here", "_law_items"]
abbrev ps_pick : List Str := ["_law_dice_here", "_law_items"]
theorem sc_pick : FnScope nm_pick ps_pick (defScope s_pick) := ⟨rfl, rfl, rfl, by decide +kernel, rfl, by decide +kernel, by decide +kernel⟩
theorem ok_pick {f : Addr} {fd : FuncData} (F : Fun K "_law_pick" "_law_pick" s_pick f fd) (T : Txt K mg) (C_roll : Cal P w K mg base "_law_roll" 1 ["_law_dice_here", "_law_total"] spRoll) : FnOk P w K mg base CX0 2 f fd ["_law_dice_here", "_law_items"] (spPick K) := by
  refine F.ok sc_pick (fun vs H Q E h => ?_) (fun cdv A outer s H vs Q E hr h => ?_)
  · obtain ⟨_, _, _, rfl, _⟩ := h
    rfl
  · obtain ⟨p, l, xs, rfl, hp, hl, h1, h2, k⟩ := h
    refine ⟨_, (pss_one (ps_ret (pe_ix (kix_list (K := K)) (pv 1) (pe_cal C_roll (hr.mono (by decide)) rfl (pa_cons (pv 0) (pa_cons (pe_callB (kcall_len (K := K)) (by rfl) T.z_len (by decide +kernel) (pa_cons (pv 1) pa_nil)) pa_nil))) (fun _ _ => rfl)))), ?_⟩
    refine ⟨_, rfl, _, rfl, _, rfl, l, _, rfl, Or.inl hl, p, _, rfl, by omega, by omega, hp, fun r h3 h4 => ?_⟩
    have e : r = (r.toNat : Int) := by omega
    have hx : xs[r.toNat]? = some (xs[r.toNat]'(by omega)) := by simp
    exact ⟨l, _, _, _, rfl, rfl, hl, at_of e hx, k _ _ hx⟩
end
section
variable {P : Program} {w : World} {K : PySem.W.Frag} {mg : Str → Option Value} {base : Heap}
abbrev s_is_word : Stmt := top 7
abbrev nm_is_word : List Str := ["value", "sign"]
abbrev ps_is_word : List Str := ["value"]
theorem sc_is_word : FnScope nm_is_word ps_is_word (defScope s_is_word) := ⟨rfl, rfl, rfl, by decide +kernel, rfl, by decide +kernel, by decide +kernel⟩
theorem ok_is_word {f : Addr} {fd : FuncData} (F : Fun K "is_word" "is_word" s_is_word f fd) (T : Txt K mg) {t1 t2 : Tok} (g_MAX_LETTERS : mg "MAX_LETTERS" = some (.int 8 t1)) (g_LETTERS : mg "LETTERS" = some (.str "abcdefghijklmnopqrstuvwxyz" t2)) : FnOk P w K mg base CX0 1 f fd ["value"] (spWord K) := by
  have nd := sc_is_word.nd
  refine F.ok sc_is_word (fun vs H Q E h => ?_) (fun cdv A outer s H vs Q E hr h => ?_)
  · obtain ⟨_, _, rfl, _⟩ := h
    rfl
  · obtain ⟨x, kd, rfl, hx, sm, k⟩ := h
    refine ⟨_, (pss_one (ps_ret (pe_and (pe_callB (kcall_isi (K := K)) (by rfl) T.z_isinstance (by decide +kernel) (pa_cons (pv 0) (pa_cons (pe_ty "str" (by rfl) T.z_str (by decide +kernel)) pa_nil))) (pe_and (pe_chain op_le op_le pe_int (pe_callB call_len_str (by rfl) T.z_len (by decide +kernel) (pa_cons (pv 0) pa_nil)) (pe_gint rfl g_MAX_LETTERS)) (pe_one (pe_callB (kcr_all (K := K) rfl) (by rfl) T.z_all (by decide +kernel) (pa_cons (pe_lc (own := [("sign", 1)]) (g := (gName 1)) (by rfl) nd (pi_str (pv 0)) (blkOk_by (own := [("sign", 1)]) (N := nm_is_word) (sc := defScope s_is_word) (by decide +kernel)) (fun _ _ _ _ _ => (pg_name (i := 1) nd rfl (Or.inl rfl))) (fun _ _ _ _ _ => pts_nil) (fun _ _ _ _ _ => (pe_cmpR op_in_sign (pv 1) (pe_gstr rfl g_LETTERS) rfl))) pa_nil))))))), ?_⟩
    obtain ⟨t1, ty1, kt1⟩ := hx.isi (n := "str") (by decide)
    refine ⟨_, rfl, _, _, _, _, _, rfl, ClsV.ty _, ty1, kt1, _, rfl, ?_⟩
    cases hx with
    | str z =>
      have hz := sm z rfl
      refine iteT ?_
      have k : ∀ H', Gx H H' → Q (.bl ((decide (1 ≤ (z.length : Int)) && decide ((z.length : Int) ≤ 8)) && z.cps.toList.all fun c => decide (c ∈ letters))) H' := k
      have h1 : EvG (tCB (fun xs H Q => ∃ z, xs = [.str z] ∧ z.length ≤ sizeLine ∧ Q (.int z.length) H) (tCons (tVar 0) tNil)) [some (.str z), none] H (IntT fun i => i = (z.length : Int)) := fun H1 _ Q q => ⟨_, rfl, z, rfl, Evl.sz_of hz, q _ H1 (Gx.refl _) ⟨_, rfl, rfl⟩⟩
      refine EvG.use (te := tAndV _ _) (evg_andV (evg_chain (f := fun i j => decide (i ≤ j)) (g := fun i j => decide (i ≤ j)) (evg_i 1) h1 (evg_i 8)) (b := z.cps.toList.all fun c => decide (c ∈ letters)) fun hle H1 e1 => ?_) fun v H1 e1 ⟨b, z1, hb⟩ => by rw [z1, hb]; exact k H1 e1
      have hl : z.cps.size ≤ 8 := by
        rw [Bool.and_eq_true] at hle
        have := of_decide_eq_true hle.2
        show z.length ≤ 8
        omega
      refine evg_rAll ((evn_lcA (R := fun i y _ => ∃ c, z.cps[i]? = some c ∧ y = .bl (decide (c ∈ letters))) (evw_str (z := z) (evg_var rfl fun _ _ => rfl)) (by omega) (fun _ _ _ _ _ h => h) ?_ fun _ _ _ _ _ h => h).imp ?_)
      · rintro i x H3 _ e3 ⟨c, hc, rfl⟩ H4 e4 Q q
        exact ⟨_, rfl, c, _, rfl, rfl, q _ H4 (Gx.refl _) ⟨c, hc, rfl⟩⟩
      · rintro p H3 e3 ⟨ys, hp, hlen, hall⟩
        have hys : ys = (z.cps.toList.map fun c => decide (c ∈ letters)).map V.bl := by
          rw [List.map_map]
          exact of_cps hlen hall
        refine ⟨z.cps.toList.map fun c => decide (c ∈ letters), by rw [← hys]; exact hp, ?_⟩
        rw [List.all_map]
        rfl
    | bl b => exact iteF (k H (Gx.refl _))
    | non => exact iteF (k H (Gx.refl _))
    | int x => exact iteF (k H (Gx.refl _))
    | lst e => exact iteF (k H (Gx.refl _))
    | tup e => exact iteF (k H (Gx.refl _))
    | dK e => exact iteF (k H (Gx.refl _))
    | own e o => exact iteF (k H (Gx.refl _))
end
section
variable {P : Program} {w : World} {K : PySem.W.Frag} {mg : Str → Option Value} {base : Heap}
abbrev s_some : Stmt := top 12
abbrev nm_some : List Str := ["_law_dice_here", "_law_items", "_law_size", "_law_left", "_law_turn"]
abbrev ps_some : List Str := ["_law_dice_here", "_law_items", "_law_size"]
theorem sc_some : FnScope nm_some ps_some (defScope s_some) := ⟨rfl, rfl, rfl, by decide +kernel, rfl, by decide +kernel, by decide +kernel⟩
theorem ok_some {f : Addr} {fd : FuncData} (F : Fun K "_law_some" "_law_some" s_some f fd) (T : Txt K mg) (C_roll : Cal P w K mg base "_law_roll" 1 ps_roll spRoll) : FnOk P w K mg base CX0 2 f fd ps_some (spSome K) := by
  have nd := sc_some.nd
  refine F.ok sc_some (fun vs H Q E h => ?_) (fun cdv A outer s H vs Q E hr h => ?_)
  · obtain ⟨_, _, _, _, rfl, _⟩ := h
    rfl
  · obtain ⟨d, l, xs, n, rfl, hd, hl, hn, hx, k⟩ := h
    refine ⟨_, (pss_cons (ps_set (i := 3) nd rfl (Or.inr rfl) (pe_callTy (kcall_list (K := K)) (by rfl) T.z_list (by decide +kernel) (pa_cons (pv 1) pa_nil)))
      (pss_one (ps_ret (pe_lc (own := [("_law_turn", 4)]) (g := (gName 4)) (by rfl) nd (pi_range1 rfl T.z_range (pa_cons (pe_callB (call_min2 rfl) (by rfl) T.z_min (by decide +kernel) (pa_cons (pv 2) (pa_cons (pe_callB (kcall_len (K := K)) (by rfl) T.z_len (by decide +kernel) (pa_cons (pv 3) pa_nil)) pa_nil))) pa_nil)) (blkOk_by (own := [("_law_turn", 4)]) (N := nm_some) (sc := defScope s_some) (by decide +kernel)) (fun _ _ _ _ _ => (pg_name (i := 4) nd rfl (Or.inl rfl))) (fun _ _ _ _ _ => pts_nil) (fun _ _ _ _ _ => (kpe_bm (K := K) PySem.F.plainAttrs_list PySem.F.slot_list_pop PySem.F.type_list_pop mt_popAt (pv 3) (pa_cons (pe_cal C_roll (hr.mono (by decide)) rfl (pa_cons (pv 0) (pa_cons (pe_callB (kcall_len (K := K)) (by rfl) T.z_len (by decide +kernel) (pa_cons (pv 3) pa_nil)) pa_nil))) pa_nil))))))), ?_⟩
    refine ⟨_, rfl, l, xs, rfl, Or.inl hl, fun p hp => ?_⟩
    have e1 : Gx H (upd H p (.lst xs)) := Gx.new hp
    refine ⟨_, rfl, _, rfl, p, xs, rfl, Or.inl (SqL.of upd_same), _, _, rfl, ?_⟩
    refine ⟨_, rfl, ?_, ?_, ?_⟩
    · split <;> omega
    · split <;> omega
    intro D hD
    have hDp : D ≠ p := fun z => by
      subst z
      rw [upd_same] at hD
      cases hD
    have hDn : H D = none := e1.free hD
    refine lc_it walk_range (fun i H' => ∃ ys ls, Gx H H' ∧ H' D = some (.lst ys) ∧ H' p = some (.lst ls) ∧ ys.length = i ∧ (ys ++ ls).Perm xs)
      ⟨[], xs, e1.trans (Gx.new hD), upd_same, by rw [upd_ne hDp.symm]; exact upd_same, rfl, List.Perm.refl _⟩ (fun _ _ _ _ => trivial) ?_ ?_
    · rintro i x H1 H2 hi ⟨ys, ls, e2, hy, hls, hyl, pm⟩ ⟨rfl, rfl⟩
      have pl : ys.length + ls.length = xs.length := by
        rw [← List.length_append]
        exact pm.length_eq
      have hi2 : i < xs.length := by
        revert hi
        split <;> omega
      refine ⟨rfl, yes_ite ⟨_, rfl, Or.inl ⟨rfl, _, SqL.of hls⟩, ?_⟩⟩
      refine ⟨_, rfl, _, rfl, p, ls, rfl, Or.inl (SqL.of hls), d, _, rfl, by omega, by omega, e2 _ _ hd, fun r h1 h2 => ?_⟩
      have hk : ls[r.toNat]? = some (ls[r.toNat]'(by omega)) := by simp
      refine ⟨p, ls, r, r.toNat, _, rfl, rfl, hls, by omega, by omega, PySem.seqIndex_of h1 h2, hk, ys, by rw [upd_ne hDp]; exact hy, Evl.sz_lt (by omega), ?_⟩
      refine ⟨_, ls.eraseIdx r.toNat, (e2.mut hp).mut hDn, upd_same, by rw [upd_ne hDp.symm, upd_same], by rw [List.length_append, hyl]; rfl, ?_⟩
      rw [List.append_assoc]
      exact (List.Perm.append_left ys (erase_perm hk)).trans pm
    · rintro H1 ⟨ys, ls, e2, hy, hls, hyl, pm⟩
      refine k D ys ls H1 e2 hDn hy ?_ pm
      rw [hyl]
      split <;> omega
end
end K01

set_option Elab.async false
set_option maxRecDepth 100000
set_option maxHeartbeats 1000000
namespace K01
open PySem L2 Ly
section
variable {P : Program} {w : World} {K : PySem.W.Frag} {mg : Str → Option Value} {base : Heap}
def OkS (x : V) : Prop := ∀ z, x = .str z → z.length ≤ 100000 ∧ ∀ c ∈ z.cps.toList, c < 128
theorem OkS.small {x : V} (h : OkS x) : Small x := fun z e => (h z e).1
def spLW (K : PySem.W.Frag) : Sp := fun vs H Q _ => ∃ x k, vs = [x] ∧ Pl K H x k ∧ OkS x ∧ ∀ H', Gx H H' → Q (.bl (isW x)) H'
abbrev s_is_word' : Stmt := top 13
abbrev nm_is_word' : List Str := ["_law_value_here", "_law_one"]
abbrev ps_is_word' : List Str := ["_law_value_here"]
theorem sc_is_word' : FnScope nm_is_word' ps_is_word' (defScope s_is_word') := ⟨rfl, rfl, rfl, by decide +kernel, rfl, by decide +kernel, by decide +kernel⟩
theorem ok_law_is_word {f : Addr} {fd : FuncData} (F : Fun K "_law_is_word" "_law_is_word" s_is_word' f fd) (T : Txt K mg) : FnOk P w K mg base CX0 1 f fd ps_is_word' (spLW K) := by
  have nd := sc_is_word'.nd
  refine F.ok sc_is_word' (fun vs H Q E h => ?_) (fun cdv A outer s H vs Q E hr h => ?_)
  · obtain ⟨_, _, rfl, _⟩ := h
    rfl
  · obtain ⟨x, kd, rfl, hx, ok, k⟩ := h
    refine ⟨_, (pss_cons (ps_if (PW.pt (pw_or (pt_not (pt_val (pe_callB (kcall_isi (K := K)) (by rfl) T.z_isinstance (by decide +kernel) (pa_cons (pv 0) (pa_cons (pe_ty "str" (by rfl) T.z_str (by decide +kernel)) pa_nil))))) (pw_or1 (pt_not (pt_chain op_lt op_lt pe_int (pe_callB call_len_str (by rfl) T.z_len (by decide +kernel) (pa_cons (pv 0) pa_nil)) pe_int))))) (pss_one (ps_ret pe_bl)) pss_nil)
      (pss_one (ps_ret (pe_cmpR (kop_eqD (K := K) hr.units) (pe_lc (own := [("_law_one", 1)]) (g := (gName 1)) (by rfl) nd (pi_str (pv 0)) (blkOk_by (own := [("_law_one", 1)]) (N := nm_is_word') (sc := defScope s_is_word') (by decide +kernel)) (fun _ _ _ _ _ => (pg_name (i := 1) nd rfl (Or.inl rfl))) (fun _ _ _ _ _ => (pts_one (pt_cmpR op_notIn_sign (pv 1) pe_str rfl))) (fun _ _ _ _ _ => (pv 1))) (pe_lst pa_nil) (nomark _))))), ?_⟩
    obtain ⟨t1, ty1, kt1⟩ := hx.isi (n := "str") (by decide)
    refine ⟨_, rfl, _, _, _, _, _, rfl, ClsV.ty _, ty1, kt1, _, rfl, ?_⟩
    cases hx with
    | str z =>
      obtain ⟨hz, hc⟩ := ok z rfl
      refine iteF ⟨_, rfl, z, rfl, Evl.sz_of hz, _, _, rfl, rfl, _, rfl, ?_⟩
      have k : ∀ H', Gx H H' → Q (.bl ((decide (1 ≤ (z.length : Int)) && decide ((z.length : Int) ≤ 8)) && z.cps.toList.all fun c => decide (c ∈ letters))) H' := k
      by_cases h1 : (0 : Int) < (z.length : Int)
      · rw [decide_eq_true h1]
        refine iteT ⟨_, _, rfl, rfl, _, rfl, ?_⟩
        by_cases h2 : (z.length : Int) < 9
        · rw [decide_eq_true h2]
          rw [decide_eq_true (show (1 : Int) ≤ z.length by omega), decide_eq_true (show (z.length : Int) ≤ 8 by omega)] at k
          refine iteF ?_
          have hl : z.cps.size ≤ 8 := by
            show z.length ≤ 8
            omega
          have hget : ∀ (i : Nat) (c : Nat), z.cps[i]? = some c → c ∈ z.cps.toList := fun i c h => by
            have e : z.cps.toList[i]? = z.cps[i]? := by simp
            exact List.mem_of_getElem? (e.trans h)
          refine g_ret (Φ := BlE (z.cps.toList.all fun c => decide (c ∈ letters))) ((evg_eqP (P := fun d => PyData.eqv d (.list []) = z.cps.toList.all fun c => decide (c ∈ letters)) (R := fun e => e = .list []) ((evn_lcN (j := 1)
            (B := fun i b => ∃ c, z.cps[i]? = some c ∧ b = !decide (c ∈ letters)) (R := fun i y _ => ∃ c, z.cps[i]? = some c ∧ y = .str ⟨#[c]⟩) (evw_str (z := z) (evg_var rfl fun _ _ => rfl)) (by omega) (fun _ _ _ _ _ h => h) ?_ ?_ fun _ _ _ _ _ h => h).g ?_)
            (dat_p (evg_dlst dats_nil (by decide)) (by decide +kernel))).imp ?_) ?_
          · rintro i x H1 _ _ ⟨c, hi, rfl⟩
            refine evb_test fun H2 _ Q q => ?_
            exact ⟨_, rfl, c, _, rfl, rfl, q _ H2 (Gx.refl _) ⟨_, rfl, c, hi, rfl⟩⟩
          · rintro i x H1 _ _ ⟨c, hi, rfl⟩ _
            exact evg_var rfl fun _ _ => ⟨c, hi, rfl⟩
          · rintro p H1 H2 _ _ _ ⟨ys, hp, L⟩
            have hok : ∀ y ∈ ys, okV y = true := fun y hy => by
              obtain ⟨i, _, _, c, hi, rfl⟩ := L.each hy
              have : c < 128 := hc c (hget i c hi)
              show (#[c].all fun x => decide (x < 0x110000)) = true
              simp
              omega
            refine ⟨.list (ys.map flatD), .lst (SqL.of hp) (flat_dp hok), (flat_shaped hok).1, ?_⟩
            rcases L.nil_or with ⟨rfl, hB⟩ | ⟨hne, i, _, c, hi, hB⟩
            · show true = _
              symm
              rw [List.all_eq_true]
              intro c hc'
              obtain ⟨i, hi⟩ := List.getElem?_of_mem hc'
              have e : z.cps.toList[i]? = z.cps[i]? := by simp
              have hi' : z.cps[i]? = some c := e.symm.trans hi
              obtain ⟨c', h1, h2⟩ := hB i (by
                have := (List.getElem?_eq_some_iff.mp hi).1
                simpa using this)
              rw [hi'] at h1
              cases h1
              simpa using h2.symm
            · obtain ⟨y, ys', rfl⟩ := List.exists_cons_of_ne_nil hne
              show false = _
              symm
              rw [List.all_eq_false]
              refine ⟨c, hget i c hi, ?_⟩
              have : (!decide (c ∈ letters)) = true := hB.symm
              simpa using this
          · rintro v H1 _ ⟨b, rfl, d, e, hd, rfl, hb⟩
            exact ⟨b, rfl, hb.trans hd⟩
          · rintro v H1 e1 ⟨b, rfl, rfl⟩
            exact k H1 e1
        · rw [decide_eq_false h2]
          rw [decide_eq_false (show ¬ (z.length : Int) ≤ 8 by omega), Bool.and_false, Bool.false_and] at k
          exact iteT (k H (Gx.refl _))
      · rw [decide_eq_false h1]
        rw [decide_eq_false (show ¬ (1 : Int) ≤ z.length by omega), Bool.false_and, Bool.false_and] at k
        exact iteF ⟨_, rfl, iteT (k H (Gx.refl _))⟩
    | bl b => exact iteT (iteT (k H (Gx.refl _)))
    | non => exact iteT (iteT (k H (Gx.refl _)))
    | int x => exact iteT (iteT (k H (Gx.refl _)))
    | lst e => exact iteT (iteT (k H (Gx.refl _)))
    | tup e => exact iteT (iteT (k H (Gx.refl _)))
    | dK e => exact iteT (iteT (k H (Gx.refl _)))
    | own e o => exact iteT (iteT (k H (Gx.refl _)))
end
end K01

set_option Elab.async false
set_option maxRecDepth 100000
set_option maxHeartbeats 1000000
namespace K01
open PySem L2 Ly
section
variable {P : Program} {w : World} {K : PySem.W.Frag} {mg : Str → Option Value} {base : Heap}
/-- a drawn value -/
def WT (K : PySem.W.Frag) : Ty := fun v H => (∃ k, Pl K H v k) ∧ OkS v
theorem WT.mono : Mono (WT K) := fun _ _ _ e ⟨⟨k, h⟩, o⟩ => ⟨⟨k, h.gx e⟩, o⟩
def spValue (K : PySem.W.Frag) : Sp := fun vs H Q _ => ∃ p, vs = [.ref p] ∧ H p = some (diceO p) ∧ ∀ v H', Gx H H' → WT K v H' → Q v H'
def tails : List Str := ["", "A", " ", "-", "0", "_", "#", "(", ",", "\n"]
def Sg (z : Str) : Prop := z.length ≤ 18 ∧ 0 < z.length ∧ ∀ c ∈ z.cps.toList, c < 128
instance (z : Str) : Decidable (Sg z) := by unfold Sg; infer_instance
def OneP (z : Str) : Prop := ∃ c, z = ⟨#[c]⟩ ∧ c < 128
theorem tl {σ : L2.St} {H : Hp} {z : Str} (h : z ∈ tails) : EvG (tC (.str z)) σ H (StrT fun z => z ∈ tails) := evg_c fun _ _ => ⟨z, rfl, h⟩
theorem wst {H : Hp} {z : Str} (h : z.length ≤ 100000 ∧ ∀ c ∈ z.cps.toList, c < 128) : WT K (.str z) H := ⟨⟨_, .str z⟩, fun y e => by cases e; exact h⟩
theorem wno {H : Hp} {v : V} {k : Kd} (h : Pl K H v k) (hk : k ≠ .str) : WT K v H := ⟨⟨_, h⟩, fun y e => by subst e; cases h; exact absurd rfl hk⟩
theorem join_ones0 : ∀ {ys : List Str}, (∀ y ∈ ys, OneP y) → (Str.join "" ys).cps.toList.length = ys.length ∧ ∀ c ∈ (Str.join "" ys).cps.toList, c < 128
  | [], _ => ⟨rfl, fun c h => by cases h⟩
  | [y], h => by
    obtain ⟨c, rfl, hc⟩ := h y (List.mem_cons_self ..)
    exact ⟨rfl, fun d hd => by
      have : d = c := List.mem_singleton.mp hd
      omega⟩
  | x :: z :: r, h => by
    obtain ⟨h1, h2⟩ := join_ones0 (ys := z :: r) fun y hy => h y (List.mem_cons_of_mem _ hy)
    obtain ⟨c, rfl, hc⟩ := h x (List.mem_cons_self ..)
    have e : (Str.join "" ((⟨#[c]⟩ : Str) :: z :: r)).cps.toList = c :: (Str.join "" (z :: r)).cps.toList := by
      show (((⟨#[c]⟩ : Str) ++ "") ++ Str.join "" (z :: r)).cps.toList = _
      rw [show (((⟨#[c]⟩ : Str) ++ "") ++ Str.join "" (z :: r)).cps = (#[c] ++ ("" : Str).cps) ++ (Str.join "" (z :: r)).cps from rfl, Array.toList_append, Array.toList_append]
      rfl
    rw [e]
    refine ⟨by rw [List.length_cons, h1]; rfl, fun d hd => ?_⟩
    rcases List.mem_cons.mp hd with rfl | hd
    · exact hc
    · exact h2 d hd
theorem join_ones {ys : List Str} (h : ∀ y ∈ ys, OneP y) : (Txt.join "" ys).cps.toList.length = ys.length ∧ ∀ c ∈ (Txt.join "" ys).cps.toList, c < 128 := by
  rw [TL.join_eq]
  exact join_ones0 h
abbrev s_value : Stmt := top 14
abbrev nm_value : List Str := ["_law_dice_here", "_law_signs", "_law_some_here", "_law_turn", "_law_draw", "_law_odd"]
abbrev ps_value : List Str := ["_law_dice_here"]
theorem sc_value : FnScope nm_value ps_value (defScope s_value) := ⟨rfl, rfl, rfl, by decide +kernel, rfl, by decide +kernel, by decide +kernel⟩
theorem ok_value {f : Addr} {fd : FuncData} (F : Fun K "_law_value" "_law_value" s_value f fd) (T : Txt K mg) (C_roll : Cal P w K mg base "_law_roll" 1 ps_roll spRoll) (C_pick : Cal P w K mg base "_law_pick" 2 ps_pick (spPick K))
    (C_some : Cal P w K mg base "_law_some" 2 ps_some (spSome K)) : FnOk P w K mg base CX0 3 f fd ps_value (spValue K) := by
  have nd := sc_value.nd
  refine F.ok sc_value (fun vs H Q E h => ?_) (fun cdv A outer s H vs Q E hr h => ?_)
  · obtain ⟨_, rfl, _⟩ := h
    rfl
  · obtain ⟨d, rfl, hd, k⟩ := h
    refine ⟨_, (pss_cons (ps_set (i := 1) nd rfl (Or.inr rfl) (pe_op op_add_str pe_str (pe_cal C_pick (hr.mono (by decide)) rfl (pa_cons (pv 0) (pa_cons (pe_lst (pa_cons pe_str (pa_cons pe_str (pa_cons pe_str (pa_cons pe_str (pa_cons pe_str (pa_cons pe_str (pa_cons pe_str (pa_cons pe_str (pa_cons pe_str (pa_cons pe_str (pa_cons pe_str pa_nil)))))))))))) pa_nil)))))
      (pss_cons (ps_setLc (i := 2) (own := [("_law_draw", 4)]) (g := (gName 4)) (by rfl) nd rfl rfl (sw_true rfl rfl rfl (by decide +kernel)) (pi_range1 rfl T.z_range (pa_cons pe_int pa_nil)) (blkOk_by (own := [("_law_draw", 4)]) (N := nm_value) (sc := defScope s_value) (by decide +kernel)) (fun _ _ _ _ _ => (pg_name (i := 4) nd rfl (Or.inl rfl))) (fun _ _ _ _ _ => pts_nil) (fun _ _ _ _ _ => (kpe_join (K := K) pe_str (pe_lc (own := [("_law_turn", 3)]) (g := (gName 3)) (by rfl) nd (pi_range1 rfl T.z_range (pa_cons (pe_cal C_roll (hr.mono (by decide)) rfl (pa_cons (pv 0) (pa_cons pe_int pa_nil))) pa_nil)) (blkOk_by (own := [("_law_turn", 3)]) rfl) (fun _ _ _ _ _ => (pg_name (i := 3) nd rfl (Or.inl rfl))) (fun _ _ _ _ _ => pts_nil) (fun _ _ _ _ _ => (pe_cal C_pick (hr.mono (by decide)) rfl (pa_cons (pv 0) (pa_cons (pe_callTy (call_listS rfl) (by rfl) T.z_list (by decide +kernel) (pa_cons (pv 1) pa_nil)) pa_nil))))))))
      (pss_cons (ps_set (i := 5) nd rfl (Or.inl rfl) (pe_lst (pa_cons pe_non (pa_cons pe_int (pa_cons pe_bl (pa_cons (pe_tup pa_nil) (pa_cons (pe_tup (pa_cons pe_str pa_nil)) (pa_cons (pe_lst (pa_cons pe_str pa_nil)) (pa_cons pe_dnewK (pa_cons (pe_op op_powW pe_int pe_int) (pa_cons pe_str (pa_cons pe_str (pa_cons pe_str (pa_cons pe_str (pa_cons pe_str (pa_cons pe_str (pa_cons pe_str (pa_cons pe_str pa_nil))))))))))))))))))
      (pss_one (ps_ret (pe_cal C_pick (hr.mono (by decide)) rfl (pa_cons (pv 0) (pa_cons (pe_op op_cat (pv 2) (pe_cal C_some (hr.mono (by decide)) rfl (pa_cons (pv 0) (pa_cons (pv 5) (pa_cons pe_int pa_nil))))) pa_nil)))))))), ?_⟩
    refine g_asg (Φ := StrT Sg) (evg_adds (P := fun z => z = "aabcdehklnorstyzz") (R := fun z => z ∈ tails) (evg_c fun _ _ => ⟨_, rfl, rfl⟩) (evg_pick (n := 11) (evg_dice rfl hd) (evg_all StrT.firm.mono (
      evgs_m StrT.firm.mono (tl (by decide)) <| evgs_m StrT.firm.mono (tl (by decide)) <| evgs_m StrT.firm.mono (tl (by decide)) <| evgs_m StrT.firm.mono (tl (by decide)) <| evgs_m StrT.firm.mono (tl (by decide)) <| evgs_m StrT.firm.mono (tl (by decide)) <|
      evgs_m StrT.firm.mono (tl (by decide)) <| evgs_m StrT.firm.mono (tl (by decide)) <| evgs_m StrT.firm.mono (tl (by decide)) <| evgs_m StrT.firm.mono (tl (by decide)) <| evgs_m StrT.firm.mono (tl (by decide)) <| evgs_none) (by decide)) (by decide)) ?_ ?_) ?_
    · intro x y hx hy
      subst hx
      have := (by decide +kernel : ∀ y ∈ tails, (Str.length "aabcdehklnorstyzz") + y.length ≤ 100) y hy
      omega
    · intro x y hx hy _ _
      subst hx
      exact ⟨_, rfl, (by decide +kernel : ∀ y ∈ tails, Sg ("aabcdehklnorstyzz" ++ y)) y hy⟩
    rintro _ H1 e1 ⟨z, rfl, hz1, hz2, hz3⟩
    -- five texts
    have hone : ∀ c ∈ z.cps.toList, ∀ H1, StrT OneP (.str ⟨#[c]⟩) H1 := fun c hc _ => ⟨_, rfl, c, rfl, hz3 c hc⟩
    refine g_asg (Φ := LofT (WT K) 5) ((evn_lcR (j := 4) (P := fun n => n = 5) (R := StrT fun z => z.length ≤ 10 ∧ ∀ c ∈ z.cps.toList, c < 128) (evgs_cons (evg_i 5) fun v H2 _ ⟨i, hv, hi⟩ => evgs_nil fun _ _ => ⟨5, by rw [hv, hi]; rfl, rfl⟩) (fun n h => by omega) ?_ StrT.firm).g ?_) ?_
    · intro x H2 e2
      have hd2 := (e1.trans e2) _ _ hd
      refine evg_join (P := OneP) (N := fun k => k ≤ 10) (n := 10) (m := 1) (evn_lcR (j := 3) (P := fun n => n ≤ 10) (R := StrT OneP) (evgs_cons (Φ := IntT fun i => 0 ≤ i ∧ i ≤ 10) (evg_roll (R := fun i => i = 11) (evg_dice rfl hd2) (evg_i 11) (fun i h => by omega) fun r i hi h1 h2 _ _ => ⟨r, rfl, by omega⟩)
        fun v H4 _ ⟨i, hv, hi⟩ => evgs_nil fun _ _ => ⟨i.toNat, by rw [hv]; congr 2; omega, by omega⟩) (fun n h => by omega) (fun x H3 e3 => ?_) StrT.firm) (fun k h => h) ?_ (by decide) ?_
      · exact evg_pick (n := z.cps.size) (evg_dice rfl (e3 _ _ hd2)) (evg_listS (z := z) (evg_ve rfl) (by omega) hone) ⟨hz2, by show z.length ≤ _; omega⟩
      · rintro z ⟨c, rfl, _⟩
        exact Nat.le_refl 1
      · intro zs hn hP _
        obtain ⟨h1, h2⟩ := join_ones hP
        refine ⟨_, rfl, ?_, h2⟩
        have : (Txt.join "" zs).cps.size = zs.length := by
          rw [← h1, Array.length_toList]
        show (Txt.join "" zs).cps.size ≤ 10
        omega
    · rintro p H2 H3 _ _ _ ⟨ys, hp, hl, hy⟩
      refine ⟨p, rfl, ys, hp, hl, fun x hx => ?_⟩
      obtain ⟨z, rfl, h1, h2⟩ := hy x hx
      exact wst ⟨by omega, h2⟩
    rintro _ H2 e2 ⟨l, rfl, hl⟩
    have hd2 := (e1.trans e2) _ _ hd
    refine g_asg (Φ := LofT (WT K) 16) (evg_all WT.mono (
      evgs_m WT.mono (evg_c fun _ _ => wno .non (by decide)) <| evgs_m WT.mono (evg_c fun _ _ => wno (.int _) (by decide)) <| evgs_m WT.mono (evg_c fun _ _ => wno (.bl _) (by decide)) <|
      evgs_m WT.mono (evg_tup (Ψ := AtT []) ats_nil (fun vs _ g => by rw [g.len]; decide) fun vs p _ _ _ _ _ hp => wno (.tup hp) (by decide)) <|
      evgs_m WT.mono (evg_tup (Ψ := AtT [Eq1 (.str "a")]) (ats_c Eq1.mono evg_e ats_nil) (fun vs _ g => by rw [g.len]; show 1 ≤ _; decide) fun vs p _ _ _ _ _ hp => wno (.tup hp) (by decide)) <|
      evgs_m WT.mono (evg_lst (Ψ := AtT [Eq1 (.str "a")]) (ats_c Eq1.mono evg_e ats_nil) (fun vs _ g => by rw [g.len]; show 1 ≤ _; decide) fun vs p _ _ _ _ _ hp => wno (.lst hp) (by decide)) <|
      evgs_m WT.mono (fun H1 _ Q q d hd => q _ _ (Gx.new hd) (wno (.dK upd_same) (by decide))) <|
      evgs_m WT.mono (evg_I (evg_i 10) (evg_i 59) (fun i j h1 h2 => by rw [h1, h2]; exact ⟨by decide, by decide +kernel⟩) fun i j _ _ _ _ => wno (.int _) (by decide)) <|
      evgs_m WT.mono (evg_c fun _ _ => wst (by decide +kernel)) <| evgs_m WT.mono (evg_c fun _ _ => wst (by decide +kernel)) <| evgs_m WT.mono (evg_c fun _ _ => wst (by decide +kernel)) <| evgs_m WT.mono (evg_c fun _ _ => wst (by decide +kernel)) <|
      evgs_m WT.mono (evg_c fun _ _ => wst (by decide +kernel)) <| evgs_m WT.mono (evg_c fun _ _ => wst (by decide +kernel)) <| evgs_m WT.mono (evg_c fun _ _ => wst (by decide +kernel)) <| evgs_m WT.mono (evg_c fun _ _ => wst (by decide +kernel)) <| evgs_none) (by decide)) ?_
    rintro _ H3 e3 ⟨l2, rfl, hl2⟩
    have hd3 := e3 _ _ hd2
    refine g_ret (Φ := WT K) (evg_pick (n := 8) (evg_dice rfl hd3) ((evn_cat WT.mono (n := 5) (k := 3) (evg_var rfl fun _ e => ⟨l, rfl, hl.mono WT.mono (e3.trans e)⟩)
      (evg_some (n := 16) (k := 3) WT.mono (evg_dice rfl hd3) (evg_var rfl fun _ e => ⟨l2, rfl, hl2.mono WT.mono e⟩) (evg_i 3) (by decide)) (by decide)).g fun p _ _ _ _ _ f => ⟨p, rfl, f⟩) (by decide)) ?_
    exact fun v H4 e4 f => k v H4 (((e1.trans e2).trans e3).trans e4) f
end
end K01

set_option Elab.async false
set_option maxRecDepth 100000
set_option maxHeartbeats 1000000
namespace K01
open PySem L2 Ly
section
variable {P : Program} {w : World} {K : PySem.W.Frag} {mg : Str → Option Value} {base : Heap}
abbrev s_law : Stmt := top 15
abbrev nm_law : List Str := ["_law_script", "_law_spot", "_law_dice_here", "_law_turn", "_law_value_here", "_law_told", "_law_one"]
abbrev ps_law : List Str := ["_law_script"]
theorem sc_law : FnScope nm_law ps_law (defScope s_law) := ⟨rfl, rfl, rfl, by decide +kernel, rfl, by decide +kernel, by decide +kernel⟩
def spLaw (K : PySem.W.Frag) : Sp := fun vs H Q _ => ∃ (a : Addr) (ns : List Int), vs = [.ref a] ∧ SqL K H a (ns.map V.int) ∧ ns.length ≤ 63 ∧ ∀ H', Q (.bl true) H'
def told : List Str := ["cons", "", "abcdefgh", "abcdefghi", "a b", "_", "X"]
theorem ok_law {f : Addr} {fd : FuncData} (F : Fun K "law" "law" s_law f fd) (T : Txt K mg) (C_dice : Cal P w K mg base "_law_dice" 1 ps_dice (spDice K))
    (C_value : Cal P w K mg base "_law_value" 3 ps_value (spValue K)) (C_is_word : Cal P w K mg base "is_word" 1 ps_is_word (spWord K)) (C_is_word' : Cal P w K mg base "_law_is_word" 1 ps_is_word' (spLW K))
    {t1 t2 t3 t4 t5 : Tok} (g_MAX_LETTERS : mg "MAX_LETTERS" = some (.int 8 t1)) (g_MAX_ARITY : mg "MAX_ARITY" = some (.int 3 t2)) (g_MAX_SYMBOLS : mg "MAX_SYMBOLS" = some (.int 8 t3)) (g_ANY : mg "ANY" = some (.str "_" t4)) (g_LOST : mg "LOST" = some (.str "#" t5)) :
    FnOk P w K mg base CX0 4 f fd ps_law (spLaw K) := by
  have nd := sc_law.nd
  refine F.ok sc_law (fun vs H Q E h => ?_) (fun cdv A outer s H vs Q E hr h => ?_)
  · obtain ⟨_, _, rfl, _⟩ := h
    rfl
  · obtain ⟨a, ns, rfl, hS, hlen, k⟩ := h
    refine ⟨_, (pss_cons (ps_for PassesOwn.never rfl (pi_range1 rfl T.z_range (pa_cons (pe_callB (call_max2 rfl) (by rfl) T.z_max (by decide +kernel) (pa_cons pe_int (pa_cons (pe_callB (call_min2 rfl) (by rfl) T.z_min (by decide +kernel) (pa_cons pe_int (pa_cons (pe_callB (kcall_len (K := K)) (by rfl) T.z_len (by decide +kernel) (pa_cons (pv 0) pa_nil)) pa_nil))) pa_nil))) pa_nil)) (pg_name (i := 1) nd rfl (Or.inl rfl)) (pss_cons (ps_set (i := 2) nd rfl (Or.inl rfl) (pe_cal C_dice (hr.mono (by decide)) rfl (pa_cons (pv 0) (pa_cons (pv 1) pa_nil))))
      (pss_one (ps_for PassesOwn.never rfl (pi_range1 rfl T.z_range (pa_cons pe_int pa_nil)) (pg_name (i := 3) nd rfl (Or.inl rfl)) (pss_cons (ps_set (i := 4) nd rfl (Or.inl rfl) (pe_cal C_value (hr.mono (by decide)) rfl (pa_cons (pv 2) pa_nil)))
      (pss_one (ps_if (pt_cmpR op_ne (pe_callB call_reprB (by rfl) T.z_repr (by decide +kernel) (pa_cons (pe_cal C_is_word (hr.mono (by decide)) rfl (pa_cons (pv 4) pa_nil)) pa_nil)) (pe_callB call_reprB (by rfl) T.z_repr (by decide +kernel) (pa_cons (pe_cal C_is_word' (hr.mono (by decide)) rfl (pa_cons (pv 4) pa_nil)) pa_nil)) (nomark _)) (pss_one (ps_ret pe_bl)) pss_nil)))))))
      (pss_cons (ps_setLc (i := 5) (own := [("_law_one", 6)]) (g := (gName 6)) (by rfl) nd rfl rfl (sw_true rfl rfl rfl (by decide +kernel)) (kpi_list (K := K) (pe_lst (pa_cons pe_str (pa_cons pe_str (pa_cons pe_str (pa_cons pe_str (pa_cons pe_str (pa_cons pe_str (pa_cons pe_str pa_nil))))))))) (blkOk_by (own := [("_law_one", 6)]) (N := nm_law) (sc := defScope s_law) (by decide +kernel)) (fun _ _ _ _ _ => (pg_name (i := 6) nd rfl (Or.inl rfl))) (fun _ _ _ _ _ => pts_nil) (fun _ _ _ _ _ => (pe_cal C_is_word (hr.mono (by decide)) rfl (pa_cons (pv 6) pa_nil))))
      (pss_cons (ps_if (pt_cmpR (kop_neD (K := K) hr.units) (pv 5) (pe_lst (pa_cons pe_bl (pa_cons pe_bl (pa_cons pe_bl (pa_cons pe_bl (pa_cons pe_bl (pa_cons pe_bl (pa_cons pe_bl pa_nil)))))))) (nomark _)) (pss_one (ps_ret pe_bl)) pss_nil)
      (pss_one (ps_ret (pe_cmpR (kop_eqD (K := K) hr.units) (pe_lst (pa_cons (pe_gint rfl g_MAX_LETTERS) (pa_cons (pe_gint rfl g_MAX_ARITY) (pa_cons (pe_gint rfl g_MAX_SYMBOLS) (pa_cons (pe_gstr rfl g_ANY) (pa_cons (pe_gstr rfl g_LOST) pa_nil)))))) (pe_lst (pa_cons pe_int (pa_cons pe_int (pa_cons pe_int (pa_cons pe_str (pa_cons pe_str pa_nil)))))) (nomark _))))))), ?_⟩
    refine g_forR (R := fun k => 1 ≤ k ∧ k ≤ 8) ?_ (fun k h => by omega) (fun i σ' H' => ∃ o1 o2 o3 o4 o5 o6, σ' = [some (.ref a), o1, o2, o3, o4, o5, o6] ∧ Gx H H') (fun H1 e => ⟨_, _, _, _, _, _, rfl, e⟩) ?_ ?_
    · intro H1 e Q q
      refine ⟨_, rfl, a, _, rfl, Or.inl (e.l hS), _, _, rfl, _, _, rfl, ?_⟩
      refine q _ H1 (Gx.refl _) ⟨_, rfl, ?_⟩
      rw [List.length_map]
      split <;> split <;> omega
    · rintro i σ' H1 ⟨kk, hkk, hi⟩ ⟨o1, o2, o3, o4, o5, o6, rfl, e1⟩
      refine ⟨_, rfl, _, rfl, a, ns, i, rfl, e1.l hS, fun d hd => ?_⟩
      have e2 : Gx H (upd H1 d (diceO d)) := e1.trans (Gx.new hd)
      refine g_forR1 (R := fun k => k = 30) (evgs_cons (evg_i 30) fun v H2 _ ⟨j, z, hj⟩ => evgs_nil fun _ _ => ⟨j, by rw [z], hj⟩) (fun k h => by omega)
        (fun i σ' H' => ∃ o1 o3 o4 o5 o6, σ' = [some (.ref a), o1, some (.ref d), o3, o4, o5, o6] ∧ Gx H H' ∧ H' d = some (diceO d)) (fun H2 e => ⟨_, _, _, _, _, rfl, e2.trans e, e _ _ upd_same⟩) ?_ ?_
      · rintro j σ' H2 _ ⟨o1, o3, o4, o5, o6, rfl, e3, hd2⟩
        refine ⟨_, rfl, d, rfl, hd2, fun v H3 e4 ⟨⟨kd, hv⟩, ho⟩ => ?_⟩
        refine ⟨_, rfl, v, kd, rfl, hv, ho.small, fun H4 e5 => ⟨_, rfl, _, rfl, v, kd, rfl, hv.gx e5, ho, fun H5 e6 => ⟨_, rfl, rfl, _, rfl, ?_⟩⟩⟩
        refine iteNS rfl ?_
        have e7 := (e4.trans e5).trans e6
        exact ⟨_, _, _, _, _, rfl, e3.trans e7, e7 _ _ hd2⟩
      · rintro j σ' H2 _ ⟨o1, o3, o4, o5, o6, rfl, e3, _⟩
        exact ⟨_, _, _, _, _, _, rfl, e3⟩
    · rintro i σ' H1 _ ⟨o1, o2, o3, o4, o5, o6, rfl, e1⟩
      have mm : ∀ Φ ∈ told.map (fun z => Eq1 (.str z)), Mono Φ := fun Φ h => by
        obtain ⟨z, _, rfl⟩ := List.mem_map.mp h
        exact Eq1.mono
      refine g_asg (Φ := DatT K (.list ([true, false, true, false, false, false, false].map PyData.bool))) ((evn_lcA (n := 7) (j := 6) (R := fun i y _ => ∃ b, [true, false, true, false, false, false, false][i]? = some b ∧ y = .bl b)
        (Y := fun i x _ => ∃ z, told[i]? = some z ∧ x = .str z) ?_ (by decide) (fun _ _ _ _ _ h => h) ?_ fun _ _ _ _ _ h => h).g ?_) ?_
      · intro H2 e2 R q
        refine EvG.use (te := tLst _) (σ := [some (.ref a), o1, o2, o3, o4, o5, o6]) (evg_lstA mm (ats_c Eq1.mono evg_e <| ats_c Eq1.mono evg_e <| ats_c Eq1.mono evg_e <| ats_c Eq1.mono evg_e <| ats_c Eq1.mono evg_e <| ats_c Eq1.mono evg_e <| ats_c Eq1.mono evg_e <| ats_nil) (by show 7 ≤ _; decide)) ?_
        rintro v H3 e3 ⟨p, rfl, xs, hp, hx⟩
        have hxl : xs.length = 7 := hx.len
        refine ⟨p, rfl, ⟨xs, SqL.of hp⟩, q (Itl K p) H3 (fun H => SqL K H p xs) (YAt xs) e3 (by rw [← hxl]; exact walk_list (xs := xs)) (fun H4 e4 => SqL.of (e4 _ _ hp)) ?_⟩
        rintro i H4 x H5 _ e4 ⟨rfl, hxi⟩
        refine ⟨Gx.refl _, ?_⟩
        obtain ⟨Φ, h1, h2⟩ := hx.get hxi
        rw [List.getElem?_map] at h1
        cases q : told[i]? with
        | none => rw [q] at h1; cases h1
        | some z =>
          rw [q] at h1
          cases h1
          exact ⟨z, rfl, h2⟩
      · rintro i x H2 hi e2 ⟨z, hz, rfl⟩ H3 e3 Q q
        refine ⟨_, rfl, .str z, _, rfl, .str z, ?_, fun H4 e4 => q _ H4 e4 ?_⟩
        · intro y hy
          cases hy
          exact Nat.le_trans ((by decide +kernel : ∀ z ∈ told, z.length ≤ 100) z (List.mem_of_getElem? hz)) (by decide)
        · refine ⟨isW (.str z), ?_, rfl⟩
          match i, hz with
          | 0, hz => cases hz; decide +kernel
          | 1, hz => cases hz; decide +kernel
          | 2, hz => cases hz; decide +kernel
          | 3, hz => cases hz; decide +kernel
          | 4, hz => cases hz; decide +kernel
          | 5, hz => cases hz; decide +kernel
          | 6, hz => cases hz; decide +kernel
          | n + 7, hz => simp [told] at hz
      · rintro p H2 H3 _ _ _ ⟨ys, hp, hl, hy⟩
        obtain rfl := bls_eq (bs := [true, false, true, false, false, false, false]) hl hy
        exact .lst (SqL.of hp) (dp_bls _)
      rintro v H2 e2 hv
      refine g_when (R := fun b => b = false) (evb_test ((evg_neD (d := .list ([true, false, true, false, false, false, false].map PyData.bool)) (e := .list [.bool true, .bool false, .bool true, .bool false, .bool false, .bool false, .bool false]) (dat_var rfl hv) (evg_dlst (dats_c dat_bl <| dats_c dat_bl <| dats_c dat_bl <| dats_c dat_bl <| dats_c dat_bl <| dats_c dat_bl <| dats_c dat_bl <| dats_nil) (by show 7 ≤ _; decide)) (by decide +kernel) (by decide +kernel)).imp ?_)) (fun h => by cases h) ?_
      · rintro _ _ _ ⟨b, rfl, rfl⟩
        exact ⟨_, rfl, by decide +kernel⟩
      intro _ H3 e3
      refine g_ret (Φ := BlE true) (evg_is (evg_eqD (d := .list [.int 8, .int 3, .int 8, .str "_", .str "#"]) (e := .list [.int 8, .int 3, .int 8, .str "_", .str "#"]) (evg_dlst (dats_c dat_int <| dats_c dat_int <| dats_c dat_int <| dats_c dat_str <| dats_c dat_str <| dats_nil) (by show 5 ≤ _; decide))
        (evg_dlst (dats_c dat_int <| dats_c dat_int <| dats_c dat_int <| dats_c dat_str <| dats_c dat_str <| dats_nil) (by show 5 ≤ _; decide)) (by decide +kernel) (by decide +kernel)) (by decide +kernel)) ?_
      rintro _ H4 _ ⟨b, rfl, rfl⟩
      exact k H4
end
theorem all_mk {l : PySem.W.OpenLaw} {w : World} {K : PySem.W.Frag} {h : Heap} {mg : Str → Option Value} {fa f_is_word f_dice f_roll f_pick f_some f_is_word' f_value f_law : Addr} (X : K.In h) (G : h.Ns mainGlobals mg) (hfa : mg "law" = some (.ref fa))
    {od_is_word an_is_word : Option Addr} {sl_is_word : Array (Option Value)} {oc_is_word kV_is_word dc_is_word pm_is_word cd_is_word ct_is_word : Value}
    {od_dice an_dice : Option Addr} {sl_dice : Array (Option Value)} {oc_dice kV_dice dc_dice pm_dice cd_dice ct_dice : Value}
    {od_roll an_roll : Option Addr} {sl_roll : Array (Option Value)} {oc_roll kV_roll dc_roll pm_roll cd_roll ct_roll : Value}
    {od_pick an_pick : Option Addr} {sl_pick : Array (Option Value)} {oc_pick kV_pick dc_pick pm_pick cd_pick ct_pick : Value}
    {od_some an_some : Option Addr} {sl_some : Array (Option Value)} {oc_some kV_some dc_some pm_some cd_some ct_some : Value}
    {od_is_word' an_is_word' : Option Addr} {sl_is_word' : Array (Option Value)} {oc_is_word' kV_is_word' dc_is_word' pm_is_word' cd_is_word' ct_is_word' : Value}
    {od_value an_value : Option Addr} {sl_value : Array (Option Value)} {oc_value kV_value dc_value pm_value cd_value ct_value : Value}
    {od_law an_law : Option Addr} {sl_law : Array (Option Value)} {oc_law kV_law dc_law pm_law cd_law ct_law : Value}
    {t_MAX_LETTERS : Tok}
    {t_MAX_ARITY : Tok}
    {t_MAX_SYMBOLS : Tok}
    {t_ANY : Tok}
    {t_LOST : Tok}
    {t_LETTERS : Tok}
    (a_is_word : PySem.W.nsIn K mainGlobals "is_word" = some (some (.ref f_is_word)))
    (l_is_word : K.lookup f_is_word = some ⟨oc_is_word, od_is_word, .func (PySem.W.fnOf "is_word" "is_word" (defArgs s_is_word) (defBody s_is_word) (defScope s_is_word) .none kV_is_word dc_is_word pm_is_word an_is_word cd_is_word ct_is_word), sl_is_word⟩)
    (c_is_word : PySem.W.codeIn K cd_is_word "is_word" = true)
    (k_is_word : PySem.W.keepIn K (.ref f_is_word) = true)
    (a_dice : PySem.W.nsIn K mainGlobals "_law_dice" = some (some (.ref f_dice)))
    (l_dice : K.lookup f_dice = some ⟨oc_dice, od_dice, .func (PySem.W.fnOf "_law_dice" "_law_dice" (defArgs s_dice) (defBody s_dice) (defScope s_dice) .none kV_dice dc_dice pm_dice an_dice cd_dice ct_dice), sl_dice⟩)
    (c_dice : PySem.W.codeIn K cd_dice "_law_dice" = true)
    (k_dice : PySem.W.keepIn K (.ref f_dice) = true)
    (a_roll : PySem.W.nsIn K mainGlobals "_law_roll" = some (some (.ref f_roll)))
    (l_roll : K.lookup f_roll = some ⟨oc_roll, od_roll, .func (PySem.W.fnOf "_law_roll" "_law_roll" (defArgs s_roll) (defBody s_roll) (defScope s_roll) .none kV_roll dc_roll pm_roll an_roll cd_roll ct_roll), sl_roll⟩)
    (c_roll : PySem.W.codeIn K cd_roll "_law_roll" = true)
    (k_roll : PySem.W.keepIn K (.ref f_roll) = true)
    (a_pick : PySem.W.nsIn K mainGlobals "_law_pick" = some (some (.ref f_pick)))
    (l_pick : K.lookup f_pick = some ⟨oc_pick, od_pick, .func (PySem.W.fnOf "_law_pick" "_law_pick" (defArgs s_pick) (defBody s_pick) (defScope s_pick) .none kV_pick dc_pick pm_pick an_pick cd_pick ct_pick), sl_pick⟩)
    (c_pick : PySem.W.codeIn K cd_pick "_law_pick" = true)
    (k_pick : PySem.W.keepIn K (.ref f_pick) = true)
    (a_some : PySem.W.nsIn K mainGlobals "_law_some" = some (some (.ref f_some)))
    (l_some : K.lookup f_some = some ⟨oc_some, od_some, .func (PySem.W.fnOf "_law_some" "_law_some" (defArgs s_some) (defBody s_some) (defScope s_some) .none kV_some dc_some pm_some an_some cd_some ct_some), sl_some⟩)
    (c_some : PySem.W.codeIn K cd_some "_law_some" = true)
    (k_some : PySem.W.keepIn K (.ref f_some) = true)
    (a_is_word' : PySem.W.nsIn K mainGlobals "_law_is_word" = some (some (.ref f_is_word')))
    (l_is_word' : K.lookup f_is_word' = some ⟨oc_is_word', od_is_word', .func (PySem.W.fnOf "_law_is_word" "_law_is_word" (defArgs s_is_word') (defBody s_is_word') (defScope s_is_word') .none kV_is_word' dc_is_word' pm_is_word' an_is_word' cd_is_word' ct_is_word'), sl_is_word'⟩)
    (c_is_word' : PySem.W.codeIn K cd_is_word' "_law_is_word" = true)
    (k_is_word' : PySem.W.keepIn K (.ref f_is_word') = true)
    (a_value : PySem.W.nsIn K mainGlobals "_law_value" = some (some (.ref f_value)))
    (l_value : K.lookup f_value = some ⟨oc_value, od_value, .func (PySem.W.fnOf "_law_value" "_law_value" (defArgs s_value) (defBody s_value) (defScope s_value) .none kV_value dc_value pm_value an_value cd_value ct_value), sl_value⟩)
    (c_value : PySem.W.codeIn K cd_value "_law_value" = true)
    (k_value : PySem.W.keepIn K (.ref f_value) = true)
    (a_law : PySem.W.nsIn K mainGlobals "law" = some (some (.ref f_law)))
    (l_law : K.lookup f_law = some ⟨oc_law, od_law, .func (PySem.W.fnOf "law" "law" (defArgs s_law) (defBody s_law) (defScope s_law) .none kV_law dc_law pm_law an_law cd_law ct_law), sl_law⟩)
    (c_law : PySem.W.codeIn K cd_law "law" = true)
    (k_law : PySem.W.keepIn K (.ref f_law) = true)
    (z_len : PySem.W.nsIn K mainGlobals "len" = some none)
    (z_int : PySem.W.nsIn K mainGlobals "int" = some none)
    (z_bool : PySem.W.nsIn K mainGlobals "bool" = some none)
    (z_str : PySem.W.nsIn K mainGlobals "str" = some none)
    (z_list : PySem.W.nsIn K mainGlobals "list" = some none)
    (z_abs : PySem.W.nsIn K mainGlobals "abs" = some none)
    (z_max : PySem.W.nsIn K mainGlobals "max" = some none)
    (z_min : PySem.W.nsIn K mainGlobals "min" = some none)
    (z_range : PySem.W.nsIn K mainGlobals "range" = some none)
    (z_repr : PySem.W.nsIn K mainGlobals "repr" = some none)
    (z_isinstance : PySem.W.nsIn K mainGlobals "isinstance" = some none)
    (z_all : PySem.W.nsIn K mainGlobals "all" = some none)
    (i_MAX_LETTERS : PySem.W.nsIn K mainGlobals "MAX_LETTERS" = some (some (.int (8) t_MAX_LETTERS)))
    (i_MAX_ARITY : PySem.W.nsIn K mainGlobals "MAX_ARITY" = some (some (.int (3) t_MAX_ARITY)))
    (i_MAX_SYMBOLS : PySem.W.nsIn K mainGlobals "MAX_SYMBOLS" = some (some (.int (8) t_MAX_SYMBOLS)))
    (i_ANY : PySem.W.nsIn K mainGlobals "ANY" = some (some (.str "_" t_ANY)))
    (i_LOST : PySem.W.nsIn K mainGlobals "LOST" = some (some (.str "#" t_LOST)))
    (i_LETTERS : PySem.W.nsIn K mainGlobals "LETTERS" = some (some (.str "abcdefghijklmnopqrstuvwxyz" t_LETTERS))) :
    ∃ fd : FuncData, (∀ (s : Shared) (v : Value), BindsTo s fd ⟨[v], []⟩ [("_law_script", v)]) ∧ ∀ base : Heap, K.In base → base.Ns mainGlobals mg → FnOk l.prog w K mg base CX0 4 fa fd ["_law_script"] (spLaw K) := by
  have e := hfa.symm.trans (PySem.W.mg_of X G a_law)
  cases e
  have T : Txt K mg := ⟨PySem.W.mg_none_of X G z_len, PySem.W.mg_none_of X G z_int, PySem.W.mg_none_of X G z_bool, PySem.W.mg_none_of X G z_str, PySem.W.mg_none_of X G z_list, PySem.W.mg_none_of X G z_abs, PySem.W.mg_none_of X G z_max, PySem.W.mg_none_of X G z_min, PySem.W.mg_none_of X G z_range, PySem.W.mg_none_of X G z_repr, PySem.W.mg_none_of X G z_isinstance, PySem.W.mg_none_of X G z_all⟩
  have F_is_word := fun_mk (st := s_is_word) l_is_word c_is_word k_is_word
  have m_is_word := PySem.W.mg_of X G a_is_word
  have b_is_word := F_is_word.binds (ps := ps_is_word) fun _ _ _ _ _ _ us hl => match us, hl with | [_], _ => rfl
  have F_dice := fun_mk (st := s_dice) l_dice c_dice k_dice
  have m_dice := PySem.W.mg_of X G a_dice
  have b_dice := F_dice.binds (ps := ps_dice) fun _ _ _ _ _ _ us hl => match us, hl with | [_, _], _ => rfl
  have F_roll := fun_mk (st := s_roll) l_roll c_roll k_roll
  have m_roll := PySem.W.mg_of X G a_roll
  have b_roll := F_roll.binds (ps := ps_roll) fun _ _ _ _ _ _ us hl => match us, hl with | [_, _], _ => rfl
  have F_pick := fun_mk (st := s_pick) l_pick c_pick k_pick
  have m_pick := PySem.W.mg_of X G a_pick
  have b_pick := F_pick.binds (ps := ps_pick) fun _ _ _ _ _ _ us hl => match us, hl with | [_, _], _ => rfl
  have F_some := fun_mk (st := s_some) l_some c_some k_some
  have m_some := PySem.W.mg_of X G a_some
  have b_some := F_some.binds (ps := ps_some) fun _ _ _ _ _ _ us hl => match us, hl with | [_, _, _], _ => rfl
  have F_is_word' := fun_mk (st := s_is_word') l_is_word' c_is_word' k_is_word'
  have m_is_word' := PySem.W.mg_of X G a_is_word'
  have b_is_word' := F_is_word'.binds (ps := ps_is_word') fun _ _ _ _ _ _ us hl => match us, hl with | [_], _ => rfl
  have F_value := fun_mk (st := s_value) l_value c_value k_value
  have m_value := PySem.W.mg_of X G a_value
  have b_value := F_value.binds (ps := ps_value) fun _ _ _ _ _ _ us hl => match us, hl with | [_], _ => rfl
  have F_law := fun_mk (st := s_law) l_law c_law k_law
  have m_law := PySem.W.mg_of X G a_law
  have b_law := F_law.binds (ps := ps_law) fun _ _ _ _ _ _ us hl => match us, hl with | [_], _ => rfl
  have g_MAX_LETTERS := PySem.W.mg_of X G i_MAX_LETTERS
  have g_MAX_ARITY := PySem.W.mg_of X G i_MAX_ARITY
  have g_MAX_SYMBOLS := PySem.W.mg_of X G i_MAX_SYMBOLS
  have g_ANY := PySem.W.mg_of X G i_ANY
  have g_LOST := PySem.W.mg_of X G i_LOST
  have g_LETTERS := PySem.W.mg_of X G i_LETTERS
  refine ⟨PySem.W.fnOf "law" "law" (defArgs s_law) (defBody s_law) (defScope s_law) .none kV_law dc_law pm_law an_law cd_law ct_law, fun s v => .of_eq rfl, fun base _ _ => ?_⟩
  have C_roll : Cal l.prog w K mg base "_law_roll" 1 ps_roll spRoll := ⟨⟨_, _, ok_roll F_roll T, m_roll, k_roll, b_roll⟩⟩
  have C_pick : Cal l.prog w K mg base "_law_pick" 2 ps_pick (spPick K) := ⟨⟨_, _, ok_pick F_pick T C_roll, m_pick, k_pick, b_pick⟩⟩
  have C_dice : Cal l.prog w K mg base "_law_dice" 1 ps_dice (spDice K) := ⟨⟨_, _, ok_dice F_dice T, m_dice, k_dice, b_dice⟩⟩
  have C_some : Cal l.prog w K mg base "_law_some" 2 ps_some (spSome K) := ⟨⟨_, _, ok_some F_some T C_roll, m_some, k_some, b_some⟩⟩
  have C_is_word : Cal l.prog w K mg base "is_word" 1 ps_is_word (spWord K) := ⟨⟨_, _, ok_is_word F_is_word T g_MAX_LETTERS g_LETTERS, m_is_word, k_is_word, b_is_word⟩⟩
  have C_is_word' : Cal l.prog w K mg base "_law_is_word" 1 ps_is_word' (spLW K) := ⟨⟨_, _, ok_law_is_word F_is_word' T, m_is_word', k_is_word', b_is_word'⟩⟩
  have C_value : Cal l.prog w K mg base "_law_value" 3 ps_value (spValue K) := ⟨⟨_, _, ok_value F_value T C_roll C_pick C_some, m_value, k_value, b_value⟩⟩
  exact ok_law F_law T C_dice C_value C_is_word C_is_word' g_MAX_LETTERS g_MAX_ARITY g_MAX_SYMBOLS g_ANY g_LOST
theorem walk {l : PySem.W.OpenLaw} {q : Program} {loose : List Str} {XP : (Str → Option Value) → Heap → Prop} {YP : World → Heap → Prop} {d : DefRec} {K : Params → PySem.W.Frag} (hn : l.most = some 63) (hdf : d.params.defaults = [])
    (hY : ∀ (w : World) (h : Heap), YP w h → (K w.params).In h)
    (F : ∀ (w : World) (mg : Str → Option Value) (fa : Addr) (h : Heap), (K w.params).In h → h.Ns mainGlobals mg → mg d.name = some (.ref fa) →
      ∃ fd : FuncData, (∀ (s : Shared) (u : Value), BindsTo s fd ⟨[u], []⟩ [("_law_script", u)]) ∧ ∀ base : Heap, (K w.params).In base → base.Ns mainGlobals mg → FnOk l.prog w (K w.params) mg base CX0 4 fa fd ["_law_script"] (spLaw (K w.params))) :
    PySem.W.WalkO q loose XP YP l.row.toRowW d [] (fun f vs => PySem.call f vs) :=
  L2.walk_of (n := 63) (k := 4) (x := "_law_script") (CX := fun _ => CX0) (sp := fun w => spLaw (K w.params)) hn (by decide) hdf ⟨rfl, by decide, by decide⟩ hY F (fun _ _ a ns hl _ hS => ⟨a, ns, rfl, hS, hl, fun _ => rfl⟩) fun _ _ _ _ _ z => z
end K01
open PySem PySem.W PyProof.Rows
set_option maxRecDepth 100000 in
set_option maxHeartbeats 0 in
theorem PySem.Challenge.cw_firstneed_k01_words_judged_holds : PySem.Challenge.rw_firstneed_k01_words_judged.Holds := by
  w_on; o_law; k_head; (case hw => w_witness2)
  k_fill
  refine K01.walk (l := PySem.Challenge.rw_firstneed_k01_words_judged) rfl rfl (fun w h Y => PySem.W.kIn_of Y) ?F
  case F =>
    intro w mg fa h KX G hmg
    refine' K01.all_mk KX G hmg ?a_is_word ?l_is_word ?c_is_word ?k_is_word ?a_dice ?l_dice ?c_dice ?k_dice ?a_roll ?l_roll ?c_roll ?k_roll ?a_pick ?l_pick ?c_pick ?k_pick ?a_some ?l_some ?c_some ?k_some ?a_is_word' ?l_is_word' ?c_is_word' ?k_is_word' ?a_value ?l_value ?c_value ?k_value ?a_law ?l_law ?c_law ?k_law ?z_len ?z_int ?z_bool ?z_str ?z_list ?z_abs ?z_max ?z_min ?z_range ?z_repr ?z_isinstance ?z_all ?i_MAX_LETTERS ?i_MAX_ARITY ?i_MAX_SYMBOLS ?i_ANY ?i_LOST ?i_LETTERS
    (case a_is_word => k_is)
    (case l_is_word => k_is)
    (case c_is_word => k_is)
    (case k_is_word => k_is)
    (case a_dice => k_is)
    (case l_dice => k_is)
    (case c_dice => k_is)
    (case k_dice => k_is)
    (case a_roll => k_is)
    (case l_roll => k_is)
    (case c_roll => k_is)
    (case k_roll => k_is)
    (case a_pick => k_is)
    (case l_pick => k_is)
    (case c_pick => k_is)
    (case k_pick => k_is)
    (case a_some => k_is)
    (case l_some => k_is)
    (case c_some => k_is)
    (case k_some => k_is)
    (case a_is_word' => k_is)
    (case l_is_word' => k_is)
    (case c_is_word' => k_is)
    (case k_is_word' => k_is)
    (case a_value => k_is)
    (case l_value => k_is)
    (case c_value => k_is)
    (case k_value => k_is)
    (case a_law => k_is)
    (case l_law => k_is)
    (case c_law => k_is)
    (case k_law => k_is)
    (case z_len => k_is)
    (case z_int => k_is)
    (case z_bool => k_is)
    (case z_str => k_is)
    (case z_list => k_is)
    (case z_abs => k_is)
    (case z_max => k_is)
    (case z_min => k_is)
    (case z_range => k_is)
    (case z_repr => k_is)
    (case z_isinstance => k_is)
    (case z_all => k_is)
    (case i_MAX_LETTERS => k_is)
    (case i_MAX_ARITY => k_is)
    (case i_MAX_SYMBOLS => k_is)
    (case i_ANY => k_is)
    (case i_LOST => k_is)
    (case i_LETTERS => k_is)

